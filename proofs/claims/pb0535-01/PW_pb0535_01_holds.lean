import PyProof.Rows.All
import Wide.All
import OpenK.AllK
import Wide.FinOn
import PyProof.ExcBaseAll.Exception
import PyProof.ExcAttrAll.Exception
import Lean
import PySem.Challenge.RW_pb0535_01
open PySem PySem.W PyProof.Rows
set_option Elab.async false
set_option linter.all false
set_option compiler.extract_closed false
namespace Mine
noncomputable section
/-- the top's run over a tree of objects -/
def topQ (p : Program) (w : World) (n₀ : Nat) (ann : Option Value) : Nat → SharedT → Thread → Option SharedT
  | 0, _, _ => none
  | n + 1, s, t => match through t with
    | true => some s
    | false => match Fast.tw6613529449190102663 n₀ ann t with
      | false => none
      | true => match Fast.tw10156331382660048174 (Fast.tw11892475500146522536 Fast.tw14364793385576792824) p w s t with
        | some (s', t') => topQ p w n₀ ann n s' t'
        | none => none
theorem topQ_of {p : Program} {w : World} {n₀ : Nat} {ann : Option Value} : ∀ {n : Nat} {s s' : SharedT} {t : Thread}, topQ p w n₀ ann n s t = some s' → topRun treeTable p w n₀ ann n s.abs t = some s'.abs
  | 0, _, _, _, h => nomatch h
  | n + 1, s, s', t, h => by
    unfold topQ at h
    unfold topRun
    rw [← Fast.te6613529449190102663, ← Fast.te10156331382660048174, ← Fast.te11892475500146522536, ← Fast.te14364793385576792824] at h
    cases ht : through t with
    | true => rw [ht] at h; cases h; rfl
    | false =>
      rw [ht] at h
      cases hk : stepOk n₀ ann t with
      | false => rw [hk] at h; cases h
      | true =>
        rw [hk] at h
        cases hs : stepT (denote treeTable) p w s t with
        | none => rw [hs] at h; cases h
        | some r => obtain ⟨s₂, t₂⟩ := r; rw [hs] at h; rw [stepT_spec hs]; exact topQ_of h
/-- the start's objects as a tree -/
def t0 (P : Params) : BT := [boot_o_0 P, boot_o_1 P, boot_o_2 P, boot_o_3 P, boot_o_4 P, boot_o_5 P, boot_o_6 P, boot_o_7 P, boot_o_8 P, boot_o_9 P, boot_o_10 P].zipIdx.foldl (fun t o => t.ins o.2 o.1) .nil
abbrev seenAll (p q : Program) (loose : List Str) (Xt : Shared → Bool) {α : Type} (Yf : Shared → α) (h₀ : Heap) (s : Shared) :=
  ((staticsOk (importedModules p.main.body) h₀ s.heap && namesBound p s.heap && gensDone s && laidKept h₀ s.heap), openSeen q loose (importedModules p.main.body) Xt true s, Yf s)
theorem left_one {p q : Program} {loose : List Str} {Xt : Shared → Bool} {α : Type} {Yf : Shared → α} {Ya : World → α} {N : Nat}
    (op : opening p = plainProg p.main.scope.names) (hN : Nat.ble 600 N = true) (f : ∀ s, fenceModules? p s = some s)
    (heap : ∀ P, boot_heap P = absHeap (t0 P) 11 (boot_heap P).life)
    (size : ∀ P, ((boot_heap P).isNs mainGlobals, (boot_heap P).objs.size, (boot_heap P).nsMap mainGlobals "__annotations__") = (true, 11, some (.ref 6)))
    (run : ∀ w : World, (fun os => (topQ p w 11 (some (.ref 6)) N ⟨t0 w.params, 11, (boot_heap w.params).life, Array.mk [], boot_drawn, boot_toks, os⟩ (topStub p)).map (fun s => seenAll p q loose Xt Yf (boot_heap w.params) s.abs)) = fun _ => some (true, openGood q loose, Ya w)) : LeftO p q loose Xt Yf Ya N := fun w => by
  obtain ⟨⟨h, gs, d, k, os⟩, e, e'⟩ := Option.map_eq_some_iff.mp (boot_open op hN f w)
  obtain ⟨rfl, rfl, rfl, rfl⟩ : h = boot_heap w.params ∧ gs = Array.mk [] ∧ d = boot_drawn ∧ k = boot_toks := by simpa using e'
  obtain ⟨z1, z2, z3⟩ : _ ∧ _ ∧ _ := by simpa only [Prod.mk.injEq] using size w.params
  obtain ⟨s, r, l⟩ := Option.map_eq_some_iff.mp (congrFun (run w) os)
  obtain ⟨l1, l2, l3⟩ : _ ∧ _ ∧ _ := by simpa only [Prod.mk.injEq] using l
  have r := topQ_of r
  unfold SharedT.abs at r
  rw [← heap] at r
  have t : topFrom treeTable p w N ⟨boot_heap w.params, Array.mk [], boot_drawn, boot_toks, os⟩ = some s.abs := by
    unfold topFrom
    dsimp only
    rw [z1, z2, z3]
    show (topRun treeTable p w 11 (some (.ref 6)) N _ _).bind _ = _
    rw [r]
    show (match staticsOk (importedModules p.main.body) (boot_heap w.params) s.abs.heap && namesBound p s.abs.heap && gensDone s.abs && laidKept (boot_heap w.params) s.abs.heap with | true => _ | false => _) = _
    rw [l1]; rfl
  unfold openEnds
  rw [e]
  show (topFrom treeTable p w N _).map _ = _
  rw [t]
  exact congrArg some (Prod.ext l2 l3)
abbrev pw := PySem.Challenge.pw_pb0535_01
theorem b_open : opening pw = plainProg pw.main.scope.names := by kernel_rfl
theorem b_fence : ∀ s, fenceModules? pw s = some s := fun s => by kernel_rfl
theorem b_heap : ∀ P, boot_heap P = absHeap (t0 P) 11 (boot_heap P).life := fun P => by kernel_rfl
theorem b_size : ∀ P, ((boot_heap P).isNs mainGlobals, (boot_heap P).objs.size, (boot_heap P).nsMap mainGlobals "__annotations__") = (true, 11, some (.ref 6)) := fun P => by kernel_rfl
theorem ws_l1 : namesResolve pw = true := by rw [Fast.te8377067652309620493]; kernel_rfl
theorem ws_l2 : (namesMeet pw pw.main.body fun _ n => attrL n) = true := by rw [Fast.te17119622794617984870]; kernel_rfl
theorem ws_l3 : (pw.boundNames.all (fun n => !worldNames.contains n)) = true := by rw [Fast.te18344453789297297638, Fast.te14412699480532031325]; kernel_rfl
theorem ws_l4 : sreFenced pw.main = true := by rw [Fast.te11788848310118352699]; kernel_rfl
theorem ws_l5 : noRoadLSs { strict := !(importedModules pw.main.body).all cThrough.contains, foot := none, bare := (["vars", "dir", "locals"] : List Str).filter (readsOut pw pw.main.body) } pw.main.body = true := by rw [Fast.te8326940854005059898]; kernel_rfl
theorem ws_l6 : ((moduleNames pw.main.body).isEmpty || lookedIntoSs (moduleNames pw.main.body) pw.main.body) = true := by kernel_rfl
theorem ws_l7 : looksOpen pw = true := by
  unfold looksOpen
  exact look_both (look_both (look_both (look_both (look_both ws_l4 ws_l6) ws_l1) ws_l3) ws_l5) ws_l2
theorem ws_row : OpenRow.wellSaid (OpenLaw.row PySem.Challenge.rw_pb0535_01) = true := by
  unfold OpenRow.wellSaid OpenRow.partSaid
  repeat' (with_reducible refine look_both ?_ ?_)
  exact ws_l7
  all_goals (try rw [Fast.te18344453789297297638])
  all_goals kernel_rfl
theorem ws : OpenLaw.wellSaid PySem.Challenge.rw_pb0535_01 = true := by
  unfold OpenLaw.wellSaid
  repeat' (with_reducible refine look_both ?_ ?_)
  exact ws_row
  all_goals (try rw [Fast.te8326940854005059898])
  all_goals (try rw [Fast.te17119622794617984870])
  all_goals (try rw [Fast.te9558739934217749035])
  all_goals (try rw [Fast.te16286561074155671207])
  all_goals kernel_rfl
abbrev qv : Program := view pw [121]
def lo : List Str := (pw.main.scope.names.map (·.1)).filter fun n => !(n == Str.ofString "law")
abbrev mods : List Str := importedModules pw.main.body
abbrev runQ (w : World) (os : OsState) : Option SharedT := topQ pw w 11 (some (.ref 6)) 10946 ⟨t0 w.params, 11, (boot_heap w.params).life, Array.mk [], boot_drawn, boot_toks, os⟩ (topStub pw)
abbrev Xq (s : Shared) : Bool := xlAt qv [] s && recOk (RowW.records (OpenRow.toRowW (OpenLaw.row PySem.Challenge.rw_pb0535_01))) s
theorem y1 : (chainsOk qv && opensWell pw && (frees (OpenRow.toRowW (OpenLaw.row PySem.Challenge.rw_pb0535_01)) && (OpenLaw.row PySem.Challenge.rw_pb0535_01).within.isEmpty)) = true := by kernel_rfl
theorem y0 : (defOf qv (Str.ofString "law")).isSome = true := by kernel_rfl
def lawR : DefRec × List (Str × Expr) := (defOf qv (Str.ofString "law")).get y0
theorem y2 : defOf qv (Str.ofString "law") = some (lawR.1, lawR.2) := by kernel_rfl
theorem y3 : pw.theDef (Str.ofString "law") = some (lawR.1.params, lawR.1.body, lawR.1.scope) := by kernel_rfl
theorem y4 : kwWritten? lawR.1.params.kwonlyargs lawR.1.params.kw_defaults = some lawR.2 := by kernel_rfl
theorem y5 : pw.bare := ⟨rfl, rfl, rfl, rfl, rfl, by decide +kernel⟩
/-- an object of the tree as the heap gives it -/
def lookT (s : SharedT) (a : Addr) : Option Obj := match Nat.blt a s.n with
  | true => alive ((s.tree.get a).getD default)
  | false => none
theorem get_abs (s : SharedT) : s.abs.heap.get? = lookT s := by
  funext a
  unfold lookT
  cases e : Nat.blt a s.n with
  | true =>
    have lt : a < s.n := Nat.le_of_ble_eq_true e
    show (absHeap s.tree s.n s.life).get? a = _
    unfold Heap.get?
    rw [absHeap_at, if_pos lt]
    generalize (s.tree.get a).getD default = o
    obtain ⟨c, d, dt, sl⟩ := o
    cases dt <;> rfl
  | false => exact abs_get_none fun q => by rw [show Nat.blt a s.n = true from Nat.ble_eq_true_of_le q] at e; cases e
abbrev stat (w : World) (s : Shared) : Bool := staticsOk mods (boot_heap w.params) s.heap && namesBound pw s.heap && gensDone s && laidKept (boot_heap w.params) s.heap
theorem left_all {K : Params → Frag} {as : List Addr} {e : ∀ P, as = (K P).map (·.1)} {ts : List Addr}
    (h : ∀ w, (fun os => (runQ w os).map (fun s => (stat w s.abs, openSeen qv lo mods Xq true s.abs, (as.map (lookT s), ts.map (lookT s))))) = fun _ => some (true, openGood qv lo, ((K w.params).map fun p => some p.2, ts.map fun _ => some (tabObj #[])))) :
    LeftO pw qv lo Xq (kmHook K as e ts).obs (kmHook K as e ts).val 10946 := by
  refine left_one b_open (by rfl) b_fence b_heap b_size fun w => ?_
  have z : (fun s : SharedT => seenAll pw qv lo Xq (kmHook K as e ts).obs (boot_heap w.params) s.abs) = fun s => (stat w s.abs, openSeen qv lo mods Xq true s.abs, (as.map (lookT s), ts.map (lookT s))) := by
    funext s
    show (stat w s.abs, openSeen qv lo mods Xq true s.abs, (as.map s.abs.heap.get?, ts.map s.abs.heap.get?)) = _
    rw [get_abs]
  rw [z]; exact h w
end
section
local macro_rules | `(tactic| o_law) => `(tactic| refine holds_law ws fun said => ?_)
local macro_rules | `(tactic| o_head $H:term) => `(tactic| (
  refine holds_open (q := qv) (loose := lo) (Xt := Xq) (XP := XL qv []) (Yf := Hook.obs $H) (Ya := Hook.val $H) (YP := Hook.says $H) (N := 10946) (d := lawR.1) (kwd := lawR.2) ?hl (Hook.of $H) (Hook.keeps $H) (fun s e => xl_of s (Bool.and_eq_true_iff.mp e).1) XL.keeps y2 y3 y4 (fun s e => recFacts_of (Bool.and_eq_true_iff.mp e).2) (by rfl) ws_row y1 y5 ?hw ?hc
  (case hl => refine left_all ?hh; (intro w; rw [Fast.te4187177175401517315]; kernel_rfl))))
set_option maxRecDepth 100000 in
set_option maxHeartbeats 0 in
open_top hd for PySem.Challenge.rw_pb0535_01
end
open PySem.Calls PySem.Spec
@[elab_as_elim] theorem rwb {α : Sort u} {a b : α} {P : α → Prop} (e : a = b) (h : P b) : P a := e ▸ h
@[elab_as_elim] theorem rwf {α : Sort u} {a b : α} {P : α → Prop} (e : b = a) (h : P b) : P a := e ▸ h
open Lean in
def rwI (s : Syntax) : MacroM (TSyntax `tactic) := do
  let e : Term := ⟨s[1]⟩
  let z : TSyntax `Lean.Parser.Tactic.rwRule := ⟨s⟩
  let f := mkIdent (if s[0].getNumArgs == 0 then `Mine.rwb else `Mine.rwf)
  `(tactic| first | refine $f $e ?_ | rewrite [$z])
local macro_rules
  | `(tactic| rw [$rs,*]) => do
    let ts ← rs.getElems.mapM fun q => rwI q
    `(tactic| ($[$ts];*; try (with_reducible rfl)))

section
theorem x0_2 {P0 P1 : Prop} {G : Prop} (H : P0 ∧ P1) (k : P0 → P1 → G) : G := k H.1 H.2
theorem x0_3 {P0 P1 P2 : Prop} {G : Prop} (H : P0 ∧ P1 ∧ P2) (k : P0 → P1 → P2 → G) : G := x0_2 H.2 (k H.1)
theorem x0_4 {P0 P1 P2 P3 : Prop} {G : Prop} (H : P0 ∧ P1 ∧ P2 ∧ P3) (k : P0 → P1 → P2 → P3 → G) : G := x0_3 H.2 (k H.1)
theorem x0_5 {P0 P1 P2 P3 P4 : Prop} {G : Prop} (H : P0 ∧ P1 ∧ P2 ∧ P3 ∧ P4) (k : P0 → P1 → P2 → P3 → P4 → G) : G := x0_4 H.2 (k H.1)
theorem x0_6 {P0 P1 P2 P3 P4 P5 : Prop} {G : Prop} (H : P0 ∧ P1 ∧ P2 ∧ P3 ∧ P4 ∧ P5) (k : P0 → P1 → P2 → P3 → P4 → P5 → G) : G := x0_5 H.2 (k H.1)
theorem x1_1 {α0 : Type} {P0 : α0 → Prop} {G : Prop} (H : ∃ a0, P0 a0) (k : ∀ (a0 : α0), P0 a0 → G) : G := H.elim k
theorem x1_2 {α0 : Type} {P0 P1 : α0 → Prop} {G : Prop} (H : ∃ a0, P0 a0 ∧ P1 a0) (k : ∀ (a0 : α0), P0 a0 → P1 a0 → G) : G := H.elim fun a h => x0_2 h (k a)
theorem x1_3 {α0 : Type} {P0 P1 P2 : α0 → Prop} {G : Prop} (H : ∃ a0, P0 a0 ∧ P1 a0 ∧ P2 a0) (k : ∀ (a0 : α0), P0 a0 → P1 a0 → P2 a0 → G) : G := H.elim fun a h => x0_3 h (k a)
theorem x1_4 {α0 : Type} {P0 P1 P2 P3 : α0 → Prop} {G : Prop} (H : ∃ a0, P0 a0 ∧ P1 a0 ∧ P2 a0 ∧ P3 a0) (k : ∀ (a0 : α0), P0 a0 → P1 a0 → P2 a0 → P3 a0 → G) : G := H.elim fun a h => x0_4 h (k a)
theorem x1_5 {α0 : Type} {P0 P1 P2 P3 P4 : α0 → Prop} {G : Prop} (H : ∃ a0, P0 a0 ∧ P1 a0 ∧ P2 a0 ∧ P3 a0 ∧ P4 a0) (k : ∀ (a0 : α0), P0 a0 → P1 a0 → P2 a0 → P3 a0 → P4 a0 → G) : G := H.elim fun a h => x0_5 h (k a)
theorem x1_6 {α0 : Type} {P0 P1 P2 P3 P4 P5 : α0 → Prop} {G : Prop} (H : ∃ a0, P0 a0 ∧ P1 a0 ∧ P2 a0 ∧ P3 a0 ∧ P4 a0 ∧ P5 a0) (k : ∀ (a0 : α0), P0 a0 → P1 a0 → P2 a0 → P3 a0 → P4 a0 → P5 a0 → G) : G := H.elim fun a h => x0_6 h (k a)
theorem x2_1 {α0 α1 : Type} {P0 : α0 → α1 → Prop} {G : Prop} (H : ∃ a0 a1, P0 a0 a1) (k : ∀ (a0 : α0) (a1 : α1), P0 a0 a1 → G) : G := H.elim fun a h => x1_1 h (k a)
theorem x2_2 {α0 α1 : Type} {P0 P1 : α0 → α1 → Prop} {G : Prop} (H : ∃ a0 a1, P0 a0 a1 ∧ P1 a0 a1) (k : ∀ (a0 : α0) (a1 : α1), P0 a0 a1 → P1 a0 a1 → G) : G := H.elim fun a h => x1_2 h (k a)
theorem x2_3 {α0 α1 : Type} {P0 P1 P2 : α0 → α1 → Prop} {G : Prop} (H : ∃ a0 a1, P0 a0 a1 ∧ P1 a0 a1 ∧ P2 a0 a1) (k : ∀ (a0 : α0) (a1 : α1), P0 a0 a1 → P1 a0 a1 → P2 a0 a1 → G) : G := H.elim fun a h => x1_3 h (k a)
theorem x2_4 {α0 α1 : Type} {P0 P1 P2 P3 : α0 → α1 → Prop} {G : Prop} (H : ∃ a0 a1, P0 a0 a1 ∧ P1 a0 a1 ∧ P2 a0 a1 ∧ P3 a0 a1) (k : ∀ (a0 : α0) (a1 : α1), P0 a0 a1 → P1 a0 a1 → P2 a0 a1 → P3 a0 a1 → G) : G := H.elim fun a h => x1_4 h (k a)
theorem x2_5 {α0 α1 : Type} {P0 P1 P2 P3 P4 : α0 → α1 → Prop} {G : Prop} (H : ∃ a0 a1, P0 a0 a1 ∧ P1 a0 a1 ∧ P2 a0 a1 ∧ P3 a0 a1 ∧ P4 a0 a1) (k : ∀ (a0 : α0) (a1 : α1), P0 a0 a1 → P1 a0 a1 → P2 a0 a1 → P3 a0 a1 → P4 a0 a1 → G) : G := H.elim fun a h => x1_5 h (k a)
theorem x2_6 {α0 α1 : Type} {P0 P1 P2 P3 P4 P5 : α0 → α1 → Prop} {G : Prop} (H : ∃ a0 a1, P0 a0 a1 ∧ P1 a0 a1 ∧ P2 a0 a1 ∧ P3 a0 a1 ∧ P4 a0 a1 ∧ P5 a0 a1) (k : ∀ (a0 : α0) (a1 : α1), P0 a0 a1 → P1 a0 a1 → P2 a0 a1 → P3 a0 a1 → P4 a0 a1 → P5 a0 a1 → G) : G := H.elim fun a h => x1_6 h (k a)
theorem x3_1 {α0 α1 α2 : Type} {P0 : α0 → α1 → α2 → Prop} {G : Prop} (H : ∃ a0 a1 a2, P0 a0 a1 a2) (k : ∀ (a0 : α0) (a1 : α1) (a2 : α2), P0 a0 a1 a2 → G) : G := H.elim fun a h => x2_1 h (k a)
theorem x3_2 {α0 α1 α2 : Type} {P0 P1 : α0 → α1 → α2 → Prop} {G : Prop} (H : ∃ a0 a1 a2, P0 a0 a1 a2 ∧ P1 a0 a1 a2) (k : ∀ (a0 : α0) (a1 : α1) (a2 : α2), P0 a0 a1 a2 → P1 a0 a1 a2 → G) : G := H.elim fun a h => x2_2 h (k a)
theorem x3_3 {α0 α1 α2 : Type} {P0 P1 P2 : α0 → α1 → α2 → Prop} {G : Prop} (H : ∃ a0 a1 a2, P0 a0 a1 a2 ∧ P1 a0 a1 a2 ∧ P2 a0 a1 a2) (k : ∀ (a0 : α0) (a1 : α1) (a2 : α2), P0 a0 a1 a2 → P1 a0 a1 a2 → P2 a0 a1 a2 → G) : G := H.elim fun a h => x2_3 h (k a)
theorem x3_4 {α0 α1 α2 : Type} {P0 P1 P2 P3 : α0 → α1 → α2 → Prop} {G : Prop} (H : ∃ a0 a1 a2, P0 a0 a1 a2 ∧ P1 a0 a1 a2 ∧ P2 a0 a1 a2 ∧ P3 a0 a1 a2) (k : ∀ (a0 : α0) (a1 : α1) (a2 : α2), P0 a0 a1 a2 → P1 a0 a1 a2 → P2 a0 a1 a2 → P3 a0 a1 a2 → G) : G := H.elim fun a h => x2_4 h (k a)
theorem x3_5 {α0 α1 α2 : Type} {P0 P1 P2 P3 P4 : α0 → α1 → α2 → Prop} {G : Prop} (H : ∃ a0 a1 a2, P0 a0 a1 a2 ∧ P1 a0 a1 a2 ∧ P2 a0 a1 a2 ∧ P3 a0 a1 a2 ∧ P4 a0 a1 a2) (k : ∀ (a0 : α0) (a1 : α1) (a2 : α2), P0 a0 a1 a2 → P1 a0 a1 a2 → P2 a0 a1 a2 → P3 a0 a1 a2 → P4 a0 a1 a2 → G) : G := H.elim fun a h => x2_5 h (k a)
theorem x4_1 {α0 α1 α2 α3 : Type} {P0 : α0 → α1 → α2 → α3 → Prop} {G : Prop} (H : ∃ a0 a1 a2 a3, P0 a0 a1 a2 a3) (k : ∀ (a0 : α0) (a1 : α1) (a2 : α2) (a3 : α3), P0 a0 a1 a2 a3 → G) : G := H.elim fun a h => x3_1 h (k a)
theorem x4_3 {α0 α1 α2 α3 : Type} {P0 P1 P2 : α0 → α1 → α2 → α3 → Prop} {G : Prop} (H : ∃ a0 a1 a2 a3, P0 a0 a1 a2 a3 ∧ P1 a0 a1 a2 a3 ∧ P2 a0 a1 a2 a3) (k : ∀ (a0 : α0) (a1 : α1) (a2 : α2) (a3 : α3), P0 a0 a1 a2 a3 → P1 a0 a1 a2 a3 → P2 a0 a1 a2 a3 → G) : G := H.elim fun a h => x3_3 h (k a)
theorem x4_4 {α0 α1 α2 α3 : Type} {P0 P1 P2 P3 : α0 → α1 → α2 → α3 → Prop} {G : Prop} (H : ∃ a0 a1 a2 a3, P0 a0 a1 a2 a3 ∧ P1 a0 a1 a2 a3 ∧ P2 a0 a1 a2 a3 ∧ P3 a0 a1 a2 a3) (k : ∀ (a0 : α0) (a1 : α1) (a2 : α2) (a3 : α3), P0 a0 a1 a2 a3 → P1 a0 a1 a2 a3 → P2 a0 a1 a2 a3 → P3 a0 a1 a2 a3 → G) : G := H.elim fun a h => x3_4 h (k a)
theorem x4_5 {α0 α1 α2 α3 : Type} {P0 P1 P2 P3 P4 : α0 → α1 → α2 → α3 → Prop} {G : Prop} (H : ∃ a0 a1 a2 a3, P0 a0 a1 a2 a3 ∧ P1 a0 a1 a2 a3 ∧ P2 a0 a1 a2 a3 ∧ P3 a0 a1 a2 a3 ∧ P4 a0 a1 a2 a3) (k : ∀ (a0 : α0) (a1 : α1) (a2 : α2) (a3 : α3), P0 a0 a1 a2 a3 → P1 a0 a1 a2 a3 → P2 a0 a1 a2 a3 → P3 a0 a1 a2 a3 → P4 a0 a1 a2 a3 → G) : G := H.elim fun a h => x3_5 h (k a)
theorem x5_1 {α0 α1 α2 α3 α4 : Type} {P0 : α0 → α1 → α2 → α3 → α4 → Prop} {G : Prop} (H : ∃ a0 a1 a2 a3 a4, P0 a0 a1 a2 a3 a4) (k : ∀ (a0 : α0) (a1 : α1) (a2 : α2) (a3 : α3) (a4 : α4), P0 a0 a1 a2 a3 a4 → G) : G := H.elim fun a h => x4_1 h (k a)
theorem x5_4 {α0 α1 α2 α3 α4 : Type} {P0 P1 P2 P3 : α0 → α1 → α2 → α3 → α4 → Prop} {G : Prop} (H : ∃ a0 a1 a2 a3 a4, P0 a0 a1 a2 a3 a4 ∧ P1 a0 a1 a2 a3 a4 ∧ P2 a0 a1 a2 a3 a4 ∧ P3 a0 a1 a2 a3 a4) (k : ∀ (a0 : α0) (a1 : α1) (a2 : α2) (a3 : α3) (a4 : α4), P0 a0 a1 a2 a3 a4 → P1 a0 a1 a2 a3 a4 → P2 a0 a1 a2 a3 a4 → P3 a0 a1 a2 a3 a4 → G) : G := H.elim fun a h => x4_4 h (k a)
theorem x6_1 {α0 α1 α2 α3 α4 α5 : Type} {P0 : α0 → α1 → α2 → α3 → α4 → α5 → Prop} {G : Prop} (H : ∃ a0 a1 a2 a3 a4 a5, P0 a0 a1 a2 a3 a4 a5) (k : ∀ (a0 : α0) (a1 : α1) (a2 : α2) (a3 : α3) (a4 : α4) (a5 : α5), P0 a0 a1 a2 a3 a4 a5 → G) : G := H.elim fun a h => x5_1 h (k a)
theorem turn_lt {n i : Nat} (h : i < n) : n + 1 - (i + 1) < n + 1 - i := by
  rw [Nat.add_sub_add_right, Nat.succ_sub (Nat.le_of_lt h)]; exact Nat.lt_succ_self _
theorem int_lt {P : Int → Prop} {n : Nat} {r : Int} (h : 0 ≤ r ∧ r < (n : Int)) (k : ∀ i : Nat, i < n → P i) : P r := by
  obtain ⟨m, rfl⟩ := Int.eq_ofNat_of_zero_le h.1
  exact k m (Int.ofNat_lt.mp h.2)
theorem toN {a : Int} {lo hi : Nat} (h1 : (lo : Int) ≤ a) (h2 : a ≤ (hi : Int)) : ((a.toNat : Int) = a ∧ lo ≤ a.toNat ∧ a.toNat ≤ hi) := by
  obtain ⟨n, rfl⟩ := Int.eq_ofNat_of_zero_le (Int.le_trans (Int.natCast_nonneg lo) h1)
  exact ⟨rfl, Int.ofNat_le.mp h1, Int.ofNat_le.mp h2⟩
theorem dbl_pow (p : Int) : 2 * (p - 1) + 1 = p * 2 - 1 := by omega
theorem pred_succ {k n : Nat} (h : k + 1 ≤ n) : n = n - 1 + 1 := (Nat.sub_add_cancel (Nat.le_trans (Nat.succ_pos _) h)).symm
end
section
set_option genInjectivity false
set_option genSizeOf false
inductive LX where
  | V (i : Nat) | K (n : Nat) | P (a b : LX) | S (a b : LX) | M (c : Nat) (a : LX) | C (a : LX) | W (b e : Nat)
inductive LP where
  | nle (a b : LX) | nlt (a b : LX) | neq (a b : LX) | ile (a b : LX) | ilt (a b : LX) | ieq (a b : LX) | no (p : LP) | A (p q : LP) | F
@[reducible] noncomputable def lat {α : Type} (d : α) : List α → Nat → α
  | [], _ => d
  | x :: _, 0 => x
  | _ :: r, n + 1 => lat d r n
@[reducible] noncomputable def LX.n (N : List Nat) : LX → Nat
  | .V i => lat 0 N i
  | .K n => n
  | .P a b => a.n N + b.n N
  | .M c a => c * a.n N
  | .W b e => b ^ e
  | .S _ _ => 0
  | .C _ => 0
@[reducible] noncomputable def LX.i (N : List Nat) (I : List Int) : LX → Int
  | .V i => lat 0 I i
  | .K n => Int.ofNat n
  | .P a b => a.i N I + b.i N I
  | .S a b => a.i N I - b.i N I
  | .M c a => Int.ofNat c * a.i N I
  | .W b e => Int.ofNat b ^ e
  | .C a => ((a.n N : Nat) : Int)
@[reducible] noncomputable def LP.d (N : List Nat) (I : List Int) : LP → Prop
  | .nle a b => a.n N ≤ b.n N
  | .nlt a b => a.n N < b.n N
  | .neq a b => a.n N = b.n N
  | .ile a b => a.i N I ≤ b.i N I
  | .ilt a b => a.i N I < b.i N I
  | .ieq a b => a.i N I = b.i N I
  | .no p => ¬ p.d N I
  | .A p q => p.d N I ∧ q.d N I
  | .F => False
noncomputable def ladd : List Int → List Int → List Int
  | [], b => b
  | x :: a, [] => x :: a
  | x :: a, y :: b => (x + y) :: ladd a b
noncomputable def lunit (c : Int) : Nat → List Int
  | 0 => [c]
  | n + 1 => 0 :: lunit c n
noncomputable def lmul (c : Int) : List Int → List Int
  | [] => []
  | x :: a => (c * x) :: lmul c a
noncomputable abbrev LY : Type := Int × List Int
noncomputable def LY.add (a b : LY) : LY := (a.1 + b.1, ladd a.2 b.2)
noncomputable def LY.mul (c : Int) (a : LY) : LY := (c * a.1, lmul c a.2)
noncomputable def LX.ln : LX → LY
  | .V i => (0, lunit 1 (2 * i))
  | .K n => (n, [])
  | .P a b => LY.add a.ln b.ln
  | .M c a => LY.mul c a.ln
  | .W b e => ((b ^ e : Nat), [])
  | .S _ _ => (0, [])
  | .C _ => (0, [])
noncomputable def LX.li : LX → LY
  | .V i => (0, lunit 1 (2 * i + 1))
  | .K n => (n, [])
  | .P a b => LY.add a.li b.li
  | .S a b => LY.add a.li (LY.mul (-1) b.li)
  | .M c a => LY.mul c a.li
  | .W b e => ((b ^ e : Nat), [])
  | .C a => a.ln
noncomputable def LY.gap (x y : LY) (k : Int) : LY := LY.add (k, []) (LY.add y (LY.mul (-1) x))
noncomputable def LP.rows : LP → List (LY × Bool)
  | .nle a b => [(LY.gap a.ln b.ln 0, false)]
  | .nlt a b => [(LY.gap a.ln b.ln (-1), false)]
  | .neq a b => [(LY.gap a.ln b.ln 0, true)]
  | .ile a b => [(LY.gap a.li b.li 0, false)]
  | .ilt a b => [(LY.gap a.li b.li (-1), false)]
  | .ieq a b => [(LY.gap a.li b.li 0, true)]
  | .no (.nle a b) => [(LY.gap b.ln a.ln (-1), false)]
  | .no (.nlt a b) => [(LY.gap b.ln a.ln 0, false)]
  | .no (.ile a b) => [(LY.gap b.li a.li (-1), false)]
  | .no (.ilt a b) => [(LY.gap b.li a.li 0, false)]
  | .no _ => []
  | .A p q => p.rows ++ q.rows
  | .F => [((-1, []), false)]
noncomputable def LP.goals : LP → List LY
  | .nle a b => [LY.gap a.ln b.ln 0]
  | .nlt a b => [LY.gap a.ln b.ln (-1)]
  | .neq a b => [LY.gap a.ln b.ln 0, LY.gap b.ln a.ln 0]
  | .ile a b => [LY.gap a.li b.li 0]
  | .ilt a b => [LY.gap a.li b.li (-1)]
  | .ieq a b => [LY.gap a.li b.li 0, LY.gap b.li a.li 0]
  | .no (.nle a b) => [LY.gap b.ln a.ln (-1)]
  | .no (.nlt a b) => [LY.gap b.ln a.ln 0]
  | .no (.ile a b) => [LY.gap b.li a.li (-1)]
  | .no (.ilt a b) => [LY.gap b.li a.li 0]
  | .no _ => [(-1, [])]
  | .A p q => p.goals ++ q.goals
  | .F => [(-1, [])]
noncomputable def lfold : List (LY × Bool) → List Int → LY → Option LY
  | [], _, r => some r
  | _ :: _, [], r => some r
  | p :: l, c :: cs, r => if p.2 || decide (0 ≤ c) then lfold l cs (LY.add r (LY.mul (-c) p.1)) else none
noncomputable def lnn : List Int → Bool
  | [] => true
  | [x] => decide (0 ≤ x)
  | x :: y :: r => decide (0 ≤ x) && decide (y = 0) && lnn r
noncomputable def lfin (u : Int) : Option LY → Bool
  | none => false
  | some r => decide (0 < u) && decide (0 < r.1 + u) && lnn r.2
noncomputable def lone (rs : List (LY × Bool)) (g : LY) : List Int → Bool
  | [] => false
  | u :: cs => lfin u (lfold rs cs (LY.mul u g))
noncomputable def lall (rs : List (LY × Bool)) : List LY → List (List Int) → Bool
  | [], _ => true
  | _ :: _, [] => false
  | g :: gs, c :: cs => lone rs g c && lall rs gs cs
noncomputable def lev (r : Nat → Int) : List Int → Nat → Int
  | [], _ => 0
  | c :: l, k => c * r k + lev r l (k + 1)
noncomputable def LY.e (r : Nat → Int) (y : LY) : Int := y.1 + lev r y.2 0
theorem lev_add (r : Nat → Int) (a : List Int) : ∀ (b : List Int) (k : Nat), lev r (ladd a b) k = lev r a k + lev r b k := by
  induction a with
  | nil => exact fun b k => (Int.zero_add _).symm
  | cons x a ih =>
    intro b k
    cases b with
    | nil => exact (Int.add_zero _).symm
    | cons y b =>
      show (x + y) * r k + lev r (ladd a b) (k + 1) = _
      rw [ih b, Int.add_mul, Int.add_assoc, Int.add_left_comm (y * r k), ← Int.add_assoc]; rfl
theorem lev_unit (r : Nat → Int) (c : Int) (n : Nat) : ∀ k : Nat, lev r (lunit c n) k = c * r (k + n) := by
  induction n with
  | zero => exact fun k => Int.add_zero _
  | succ n ih =>
    intro k
    show 0 * r k + lev r (lunit c n) (k + 1) = _
    rw [ih, Int.zero_mul, Int.zero_add, Nat.add_assoc, Nat.add_comm 1]
theorem lev_mul (r : Nat → Int) (c : Int) (a : List Int) : ∀ k : Nat, lev r (lmul c a) k = c * lev r a k := by
  induction a with
  | nil => exact fun k => (Int.mul_zero c).symm
  | cons x a ih =>
    intro k
    show c * x * r k + lev r (lmul c a) (k + 1) = _
    rw [ih, Int.mul_assoc, ← Int.mul_add]; rfl
theorem LY.e_add (r : Nat → Int) (a b : LY) : LY.e r (LY.add a b) = LY.e r a + LY.e r b := by
  show a.1 + b.1 + lev r (ladd a.2 b.2) 0 = _
  rw [lev_add, Int.add_assoc, Int.add_left_comm b.1, ← Int.add_assoc]; rfl
theorem LY.e_mul (r : Nat → Int) (c : Int) (a : LY) : LY.e r (LY.mul c a) = c * LY.e r a := by
  show c * a.1 + lev r (lmul c a.2) 0 = _
  rw [lev_mul, ← Int.mul_add]; rfl
noncomputable def lr (N : List Nat) (I : List Int) (k : Nat) : Int := if k % 2 = 0 then (lat 0 N (k / 2) : Nat) else lat 0 I (k / 2)
variable {N : List Nat} {I : List Int}
theorem lr_n (i : Nat) : lr N I (2 * i) = (lat 0 N i : Nat) := by
  unfold lr; rw [if_pos (Nat.mul_mod_right 2 i), Nat.mul_div_cancel_left i (by decide)]
theorem lr_i (i : Nat) : lr N I (2 * i + 1) = lat 0 I i := by
  have a : (2 * i + 1) % 2 = 1 := Nat.mul_add_mod 2 i 1
  have b : (2 * i + 1) / 2 = i := by rw [Nat.mul_add_div (by decide)]; rfl
  unfold lr; rw [a, b]; rfl
theorem LX.ln_e (x : LX) : LY.e (lr N I) x.ln = (x.n N : Nat) := by
  induction x with
  | V i =>
    show 0 + lev _ (lunit 1 (2 * i)) 0 = _
    rw [lev_unit, Int.zero_add, Nat.zero_add, Int.one_mul, lr_n]
  | P a b iha ihb => exact (LY.e_add _ _ _).trans (by rw [iha, ihb]; rfl)
  | M c a ih => exact (LY.e_mul _ _ _).trans (by rw [ih]; rfl)
  | _ => exact Int.add_zero _
theorem LX.li_e (x : LX) : LY.e (lr N I) x.li = x.i N I := by
  induction x with
  | V i =>
    show 0 + lev _ (lunit 1 (2 * i + 1)) 0 = _
    rw [lev_unit, Int.zero_add, Nat.zero_add, Int.one_mul, lr_i]
  | K n => exact Int.add_zero _
  | P a b iha ihb => exact (LY.e_add _ _ _).trans (by rw [iha, ihb])
  | S a b iha ihb => exact (LY.e_add _ _ _).trans (by rw [LY.e_mul, iha, ihb, Int.neg_one_mul]; rfl)
  | M c a ih => exact (LY.e_mul _ _ _).trans (by rw [ih]; rfl)
  | W b e => exact (Int.add_zero _).trans (Int.natCast_pow b e)
  | C a _ => exact a.ln_e
theorem LY.gap_e (r : Nat → Int) (x y : LY) (k : Int) : LY.e r (LY.gap x y k) = k + (LY.e r y - LY.e r x) := by
  refine (LY.e_add _ _ _).trans ?_
  rw [LY.e_add, LY.e_mul, Int.neg_one_mul]
  exact congrArg (· + _) (Int.add_zero k)
theorem gle {r : Nat → Int} {x y : LY} : 0 ≤ LY.e r (LY.gap x y 0) ↔ LY.e r x ≤ LY.e r y := by rw [LY.gap_e, Int.zero_add, Int.sub_nonneg]
theorem glt {r : Nat → Int} {x y : LY} : 0 ≤ LY.e r (LY.gap x y (-1)) ↔ LY.e r x < LY.e r y := by rw [LY.gap_e, Int.add_comm]; exact Int.le_sub_one_iff.trans Int.sub_pos
theorem geq {r : Nat → Int} {x y : LY} (h : LY.e r x = LY.e r y) : LY.e r (LY.gap x y 0) = 0 := by rw [LY.gap_e, h, Int.sub_self]; rfl
noncomputable def LRow (r : Nat → Int) (y : LY × Bool) : Prop := 0 ≤ LY.e r y.1 ∧ (y.2 = true → LY.e r y.1 = 0)
noncomputable def LRows (r : Nat → Int) : List (LY × Bool) → Prop
  | [] => True
  | y :: l => LRow r y ∧ LRows r l
theorem LRows.one {r : Nat → Int} {y : LY} (h : 0 ≤ LY.e r y) : LRows r [(y, false)] := ⟨⟨h, fun q => nomatch q⟩, trivial⟩
theorem LRows.app {r : Nat → Int} : ∀ {a b : List (LY × Bool)}, LRows r a → LRows r b → LRows r (a ++ b)
  | [], _, _, B => B
  | _ :: _, _, A, B => ⟨A.1, A.2.app B⟩
theorem nle_i {a b : LX} : a.n N ≤ b.n N ↔ LY.e (lr N I) a.ln ≤ LY.e (lr N I) b.ln := by rw [a.ln_e, b.ln_e, Int.ofNat_le]
theorem nlt_i {a b : LX} : a.n N < b.n N ↔ LY.e (lr N I) a.ln < LY.e (lr N I) b.ln := by rw [a.ln_e, b.ln_e, Int.ofNat_lt]
theorem ile_i {a b : LX} : a.i N I ≤ b.i N I ↔ LY.e (lr N I) a.li ≤ LY.e (lr N I) b.li := by rw [a.li_e, b.li_e]
theorem ilt_i {a b : LX} : a.i N I < b.i N I ↔ LY.e (lr N I) a.li < LY.e (lr N I) b.li := by rw [a.li_e, b.li_e]
theorem LP.rows_ok (p : LP) : p.d N I → LRows (lr N I) p.rows := by
  induction p with
  | nle a b => exact fun h => .one (gle.mpr (nle_i.mp h))
  | nlt a b => exact fun h => .one (glt.mpr (nlt_i.mp h))
  | neq a b =>
    intro h
    have e := geq (r := lr N I) (x := a.ln) (y := b.ln) (by rw [a.ln_e, b.ln_e]; exact congrArg _ h)
    exact ⟨⟨Int.le_of_eq e.symm, fun _ => e⟩, trivial⟩
  | ile a b => exact fun h => .one (gle.mpr (ile_i.mp h))
  | ilt a b => exact fun h => .one (glt.mpr (ilt_i.mp h))
  | ieq a b =>
    intro h
    have e := geq (r := lr N I) (x := a.li) (y := b.li) (by rw [a.li_e, b.li_e]; exact h)
    exact ⟨⟨Int.le_of_eq e.symm, fun _ => e⟩, trivial⟩
  | no p _ => cases p with
    | nle a b => exact fun h => .one (glt.mpr (nlt_i.mp (Nat.lt_of_not_le h)))
    | nlt a b => exact fun h => .one (gle.mpr (nle_i.mp (Nat.le_of_not_lt h)))
    | ile a b => exact fun h => .one (glt.mpr (ilt_i.mp (Int.lt_of_not_ge h)))
    | ilt a b => exact fun h => .one (gle.mpr (ile_i.mp (Int.not_lt.mp h)))
    | _ => exact fun _ => trivial
  | A p q hp hq => exact fun h => (hp h.1).app (hq h.2)
  | F => exact fun h => h.elim
noncomputable def LGs (r : Nat → Int) : List LY → Prop
  | [] => True
  | y :: l => 0 ≤ LY.e r y ∧ LGs r l
theorem LGs.l {r : Nat → Int} : ∀ {a b : List LY}, LGs r (a ++ b) → LGs r a
  | [], _, _ => trivial
  | _ :: _, _, h => ⟨h.1, h.2.l⟩
theorem LGs.r {r : Nat → Int} : ∀ {a b : List LY}, LGs r (a ++ b) → LGs r b
  | [], _, h => h
  | _ :: a, _, h => LGs.r (a := a) h.2
theorem lneg {r : Nat → Int} {P : Prop} (h : 0 ≤ LY.e r (-1, [])) : P := absurd h (by show ¬ (0 ≤ -1 + 0); decide)
theorem LP.goals_ok (p : LP) : LGs (lr N I) p.goals → p.d N I := by
  induction p with
  | nle a b => exact fun h => nle_i.mpr (gle.mp h.1)
  | nlt a b => exact fun h => nlt_i.mpr (glt.mp h.1)
  | neq a b => exact fun h => Nat.le_antisymm (nle_i.mpr (gle.mp h.1)) (nle_i.mpr (gle.mp h.2.1))
  | ile a b => exact fun h => ile_i.mpr (gle.mp h.1)
  | ilt a b => exact fun h => ilt_i.mpr (glt.mp h.1)
  | ieq a b => exact fun h => Int.le_antisymm (ile_i.mpr (gle.mp h.1)) (ile_i.mpr (gle.mp h.2.1))
  | no p _ => cases p with
    | nle a b => exact fun h => Nat.not_le.mpr (nlt_i.mpr (glt.mp h.1))
    | nlt a b => exact fun h => Nat.not_lt.mpr (nle_i.mpr (gle.mp h.1))
    | ile a b => exact fun h => Int.not_le.mpr (ilt_i.mpr (glt.mp h.1))
    | ilt a b => exact fun h => Int.not_lt.mpr (ile_i.mpr (gle.mp h.1))
    | _ => exact fun h => lneg h.1
  | A p q hp hq => exact fun h => ⟨hp h.l, hq h.r⟩
  | F => exact fun h => lneg h.1
theorem lfold_ok {r : Nat → Int} {z : LY} (l : List (LY × Bool)) : ∀ (cs : List Int) (y : LY), LRows r l → lfold l cs y = some z → LY.e r z ≤ LY.e r y := by
  induction l with
  | nil => intro cs y _ e; cases e; exact Int.le_refl _
  | cons p l ih =>
    intro cs y H e
    cases cs with
    | nil => cases e; exact Int.le_refl _
    | cons c cs =>
      have e : (if (p.2 || decide (0 ≤ c)) = true then lfold l cs (LY.add y (LY.mul (-c) p.1)) else none) = some z := e
      cases q : (p.2 || decide (0 ≤ c)) with
      | false => rw [q] at e; cases e
      | true =>
        rw [q] at e
        refine Int.le_trans (ih cs _ H.2 e) ?_
        rw [LY.e_add, LY.e_mul, Int.neg_mul]
        have n : 0 ≤ c * LY.e r p.1 := by
          cases b : p.2 with
          | true => rw [H.1.2 b, Int.mul_zero]; exact Int.le_refl _
          | false => rw [b] at q; exact Int.mul_nonneg (of_decide_eq_true q) H.1.1
        exact Int.le_trans (Int.add_le_add_left (Int.neg_nonpos_of_nonneg n) _) (Int.le_of_eq (Int.add_zero _))
theorem lnn_ok : ∀ (l : List Int) (k : Nat), lnn l = true → 0 ≤ lev (lr N I) l (2 * k)
  | [], _, _ => Int.le_refl _
  | [x], k, h => by
    show 0 ≤ x * lr N I (2 * k) + 0
    rw [Int.add_zero, lr_n]; exact Int.mul_nonneg (of_decide_eq_true h) (Int.natCast_nonneg _)
  | x :: y :: l, k, h => by
    have h := Bool.and_eq_true_iff.mp h
    have h1 := Bool.and_eq_true_iff.mp h.1
    show 0 ≤ x * lr N I (2 * k) + (y * lr N I (2 * k + 1) + lev (lr N I) l (2 * (k + 1)))
    rw [of_decide_eq_true h1.2, Int.zero_mul, Int.zero_add, lr_n]
    exact Int.add_nonneg (Int.mul_nonneg (of_decide_eq_true h1.1) (Int.natCast_nonneg _)) (lnn_ok l (k + 1) h.2)
theorem lone_ok {rs : List (LY × Bool)} (H : LRows (lr N I) rs) {g : LY} : ∀ {c : List Int}, lone rs g c = true → 0 ≤ LY.e (lr N I) g
  | [], h => by cases h
  | u :: cs, h => by
    have h : lfin u (lfold rs cs (LY.mul u g)) = true := h
    cases e : lfold rs cs (LY.mul u g) with
    | none => rw [e] at h; cases h
    | some z =>
      rw [e] at h
      have h := Bool.and_eq_true_iff.mp h
      have h1 := Bool.and_eq_true_iff.mp h.1
      have u0 : 0 < u := of_decide_eq_true h1.1
      have z0 : 0 < z.1 + u := of_decide_eq_true h1.2
      have a := lfold_ok rs cs _ H e
      have b : 0 ≤ lev (lr N I) z.2 0 := lnn_ok z.2 0 h.2
      rw [LY.e_mul] at a
      have c : z.1 + lev (lr N I) z.2 0 ≤ u * LY.e (lr N I) g := a
      refine Int.not_lt.mp fun n => ?_
      have d := Int.le_trans c (Int.mul_le_mul_of_nonneg_left (Int.le_sub_one_of_lt n) (Int.le_of_lt u0))
      have f := Int.add_le_add_right (Int.le_trans (Int.add_le_add_left b z.1) d) u
      rw [Int.add_zero, Int.zero_sub, Int.mul_neg, Int.mul_one, Int.add_left_neg] at f
      exact Int.not_le.mpr z0 f
theorem lall_ok {rs : List (LY × Bool)} (H : LRows (lr N I) rs) : ∀ {gs : List LY} {cs : List (List Int)}, lall rs gs cs = true → LGs (lr N I) gs
  | [], _, _ => trivial
  | _ :: _, [], h => by cases h
  | _ :: _, _ :: _, h => have h := Bool.and_eq_true_iff.mp h; ⟨lone_ok H h.1, lall_ok H h.2⟩
theorem okT : true = true := rfl
theorem lin0 (N : List Nat) (I : List Int) (g : LP) (c : List (List Int)) (ok : lall [] g.goals c = true) : g.d N I := g.goals_ok (lall_ok (N := N) (I := I) (rs := []) trivial ok)
theorem lin1 (N : List Nat) (I : List Int) (p g : LP) (c : List (List Int)) (h : p.d N I) (ok : lall p.rows g.goals c = true) : g.d N I := g.goals_ok (lall_ok (p.rows_ok h) ok)
theorem lin2 (N : List Nat) (I : List Int) (p q g : LP) (c : List (List Int)) (h : p.d N I) (h2 : q.d N I) (ok : lall (LP.A p q).rows g.goals c = true) : g.d N I := lin1 N I (LP.A p q) g c ⟨h, h2⟩ ok
theorem lin3 (N : List Nat) (I : List Int) (p q r g : LP) (c : List (List Int)) (h : p.d N I) (h2 : q.d N I) (h3 : r.d N I) (ok : lall (LP.A p (.A q r)).rows g.goals c = true) : g.d N I := lin1 N I (LP.A p (.A q r)) g c ⟨h, h2, h3⟩ ok
theorem lin4 (N : List Nat) (I : List Int) (p q r s g : LP) (c : List (List Int)) (h : p.d N I) (h2 : q.d N I) (h3 : r.d N I) (h4 : s.d N I) (ok : lall (LP.A p (.A q (.A r s))).rows g.goals c = true) : g.d N I := lin1 N I (LP.A p (.A q (.A r s))) g c ⟨h, h2, h3, h4⟩ ok
theorem lin5 (N : List Nat) (I : List Int) (p q r s t g : LP) (c : List (List Int)) (h : p.d N I) (h2 : q.d N I) (h3 : r.d N I) (h4 : s.d N I) (h5 : t.d N I) (ok : lall (LP.A p (.A q (.A r (.A s t)))).rows g.goals c = true) : g.d N I := lin1 N I (LP.A p (.A q (.A r (.A s t)))) g c ⟨h, h2, h3, h4, h5⟩ ok
end
section
noncomputable abbrev pg : Program := PySem.Challenge.pw_pb0535_01

noncomputable def lawTabs : List (Addr × Addr) := [(777, 773), (784, 780), (789, 787), (815, 811)]
theorem CodeAll.keeps {h h' : Heap} (k : h.StaysIn h') : ∀ {l : List (Addr × Addr)}, CodeAll l h → CodeAll l h'
  | [], _ => trivial
  | _ :: _, ⟨a, b⟩ => ⟨PySem.W.CodeHd.keeps a k, CodeAll.keeps k b⟩
structure Gl (w : World) (mg mb : Str → Option Value) (B : Heap) : Prop where
  X : (Mine.hd.heap_1 w.params).In B
  g : B.Ns mainGlobals mg
  b : B.Ns builtinsNs mb
  lim : B.NoLimit
  bi : ∀ x : Str, x ≠ "__name__" → mb x = bootBuiltins x
  bm : ∃ bm ob, mg "__builtins__" = some (.ref bm) ∧ bm ≠ builtinsNs ∧ B.get? bm = some ob ∧ ob.cls = .type "module" ∧ ob.dict = some builtinsNs ∧ ob.data = .plain
  cd : CodeAll lawTabs B
theorem Gl.keeps {w : World} {mg mb : Str → Option Value} {B B' : Heap} (G : Gl w mg mb B) (k : B.StaysIn B') : Gl w mg mb B' :=
  
  ⟨G.X.keeps k, G.g.keeps k, G.b.keeps k, G.lim.keeps k, G.bi, x2_4 G.bm fun bm ob a b c r => ⟨bm, ob, a, b, k _ _ c, r⟩, Mine.CodeAll.keeps k G.cd⟩

noncomputable def Chg (S : List Addr) (h h' : Heap) : Prop := ∀ a o, h.get? a = some o → a ∉ S → h'.get? a = some o
theorem Chg.trans {S : List Addr} {h h' h'' : Heap} (x : Chg S h h') (y : Chg S h' h'') : Chg S h h'' := fun a o e n => y a o (x a o e n) n
theorem ite_same {α : Type} {c : Prop} [Decidable c] {a b x : α} (ha : a = x) (hb : b = x) : ite c a b = x := by
  by_cases h : c
  · rw [if_pos h]; exact ha
  · rw [if_neg h]; exact hb
theorem none_ge {h : Heap} {n : Addr} (k : h.objs.size ≤ n) : h.get? n = none := by
  cases q : h.get? n with
  | none => rfl
  | some o => exact absurd (Heap.lt_size q) (Nat.not_lt.mpr k)
theorem new_none (h : Heap) : h.get? h.objs.size = none := none_ge (Nat.le_refl _)
theorem ne_none {B : Heap} {a b : Addr} {o : Obj} (h : B.get? a = some o) (k : B.get? b = none) : a ≠ b := fun q => by rw [q, k] at h; cases h
noncomputable def fr (ns : List (Str × NameKind)) (vs : List (Option Value)) (y : Str) : Option Value :=
  List.rec (motive := fun _ => List (Option Value) → Option Value) (fun _ => none) (fun p _ f vs => vs.casesOn none fun v vs => if y = p.1 then v else f vs) ns vs
theorem frq : (∀ vs y, fr [] vs y = none) ∧ (∀ ns y, fr ns [] y = none) ∧ ∀ n k ns v vs y, fr ((n, k) :: ns) (v :: vs) y = if y = n then v else fr ns vs y := ⟨fun _ _ => rfl, fun ns _ => by cases ns <;> rfl, fun _ _ _ _ _ _ => rfl⟩

noncomputable def key (x : Str) : Nat := x.cps.toList.foldl (fun a c => a * 2097152 + c + 1) 0
noncomputable def nodupN : List Nat → Bool
  | [] => true
  | a :: l => !(l.any (Nat.beq a)) && nodupN l
theorem nodupN_of {l : List Nat} : nodupN l = true → l.Nodup := by
  induction l with
  | nil => exact fun _ => List.nodup_nil
  | cons a l ih =>
    intro h
    refine x0_2 (Bool.and_eq_true_iff.mp h) fun h1 h2 => ?_
    refine List.nodup_cons.mpr ⟨fun m => ?_, ih h2⟩
    have : l.any (Nat.beq a) = true := List.any_eq_true.mpr ⟨a, m, Nat.beq_refl a⟩
    rw [this] at h1; cases h1
noncomputable def dbg : Nat := key "__debug__"
noncomputable def wfS (sc : Scope) : Bool := nodupN (dbg :: sc.names.map fun n => key n.1) && sc.kind == .function
theorem nodup_map {α β : Type} {f : α → β} {l : List α} : (l.map f).Nodup → l.Nodup := by
  induction l with
  | nil => exact fun _ => List.nodup_nil
  | cons a l ih => exact fun h => x0_2 (List.nodup_cons.mp h) fun h1 h2 => List.nodup_cons.mpr ⟨fun m => h1 (List.mem_map_of_mem m), ih h2⟩
structure Wf (sc : Scope) : Prop where
  nd : (sc.names.map (·.1)).Nodup
  db : ∀ x ∈ sc.names.map (·.1), (x == ("__debug__" : Str)) = false
  kd : sc.kind = .function
theorem wf_of {sc : Scope} (h : wfS sc = true) : Wf sc := by
  refine x0_2 (Bool.and_eq_true_iff.mp h) fun h1 h2 => ?_
  have n := nodupN_of h1
  have n2 : ((sc.names.map (·.1)).map key).Nodup := by
    rw [List.map_map]; exact (List.nodup_cons.mp n).2
  refine ⟨nodup_map n2, fun x hx => ?_, beq_iff_eq.mp h2⟩
  cases q : (x == ("__debug__" : Str)) with
  | false => rfl
  | true =>
    have e : x = ("__debug__" : Str) := beq_iff_eq.mp q
    refine absurd ?_ (List.nodup_cons.mp n).1
    refine x1_2 (List.mem_map.mp hx) fun p hp zq2 => ?_; subst zq2
    exact List.mem_map.mpr ⟨p, hp, by rw [e]; rfl⟩

inductive Loc : List (Str × NameKind) → List (Option Value) → Str → Value → Prop where
  | z {x ns v vs} : Loc ((x, .local) :: ns) (some v :: vs) x v
  | s {p u ns vs x v} : Loc ns vs x v → Loc (p :: ns) (u :: vs) x v
inductive Sto : List (Str × NameKind) → List (Option Value) → Str → Value → List (Option Value) → Prop where
  | z {x ns u v vs} : Sto ((x, .local) :: ns) (u :: vs) x v (some v :: vs)
  | z0 {x ns v} : Sto ((x, .local) :: ns) [] x v [some v]
  | s {p u ns vs x v vs'} : Sto ns vs x v vs' → Sto (p :: ns) (u :: vs) x v (u :: vs')
  | s0 {p ns x v vs'} : Sto ns [] x v vs' → Sto (p :: ns) [] x v (none :: vs')
inductive Glo : List (Str × NameKind) → Str → Prop where
  | z {x ns} : Glo ((x, .globalImplicit) :: ns) x
  | s {p ns x} : Glo ns x → Glo (p :: ns) x

section
variable {x : Str} {ns : List (Str × NameKind)} {v : Value} {vs : List (Option Value)} {p q r t : Str × NameKind} {u1 u2 u3 u4 : Option Value}
theorem Loc.z1 : Loc (p :: (x, .local) :: ns) (u1 :: some v :: vs) x v := .s .z
theorem Loc.z2 : Loc (p :: q :: (x, .local) :: ns) (u1 :: u2 :: some v :: vs) x v := .s .z1
theorem Loc.z3 : Loc (p :: q :: r :: (x, .local) :: ns) (u1 :: u2 :: u3 :: some v :: vs) x v := .s .z2
theorem Loc.s4 (h : Loc ns vs x v) : Loc (p :: q :: r :: t :: ns) (u1 :: u2 :: u3 :: u4 :: vs) x v := .s (.s (.s (.s h)))
theorem Glo.z1 : Glo (p :: (x, .globalImplicit) :: ns) x := .s .z
theorem Glo.z2 : Glo (p :: q :: (x, .globalImplicit) :: ns) x := .s .z1
theorem Glo.z3 : Glo (p :: q :: r :: (x, .globalImplicit) :: ns) x := .s .z2
theorem Glo.s4 (h : Glo ns x) : Glo (p :: q :: r :: t :: ns) x := .s (.s (.s (.s h)))
end
theorem lookup_cons_ne {x y : Str} {k : NameKind} {l : List (Str × NameKind)} (h : x ≠ y) : List.lookup x ((y, k) :: l) = l.lookup x := by
  rw [List.lookup_cons, beq_eq_false_iff_ne.mpr h]
theorem Loc.mem {ns vs x v} (h : Loc ns vs x v) : x ∈ ns.map (·.1) := by
  induction h with
  | z => exact .head _
  | s _ ih => exact .tail _ ih
theorem Loc.get {ns vs x v} (h : Loc ns vs x v) : (ns.map (·.1)).Nodup → fr ns vs x = some v ∧ ns.lookup x = some .local := by
  induction h with
  | z => intro _; exact ⟨by simp [frq], by simp⟩
  | @s p u ns vs x v h ih =>
    intro nd
    obtain ⟨pn, pk⟩ := p
    refine x0_2 (List.nodup_cons.mp nd) fun nm nd' => ?_
    have ne : x ≠ pn := fun e => nm (e ▸ h.mem)
    refine x0_2 (ih nd') fun a b => ?_
    exact ⟨by simp only [frq, if_neg ne]; exact a, by rw [lookup_cons_ne ne]; exact b⟩
theorem Glo.mem {ns x} (h : Glo ns x) : x ∈ ns.map (·.1) := by
  induction h with
  | z => exact .head _
  | s _ ih => exact .tail _ ih
theorem Glo.get {ns x} (h : Glo ns x) : (ns.map (·.1)).Nodup → ns.lookup x = some .globalImplicit := by
  induction h with
  | z => intro _; simp
  | @s p ns x h ih =>
    intro nd
    obtain ⟨pn, pk⟩ := p
    refine x0_2 (List.nodup_cons.mp nd) fun nm nd' => ?_
    have ne : x ≠ pn := fun e => nm (e ▸ h.mem)
    rw [lookup_cons_ne ne]; exact ih nd'
theorem fr_none {ns vs x} (h : x ∉ ns.map (·.1)) : fr ns vs x = none := by
  induction ns generalizing vs with
  | nil => cases vs <;> rfl
  | cons p ns ih =>
    obtain ⟨pn, pk⟩ := p
    cases vs with
    | nil => rfl
    | cons v vs =>
      have ne : x ≠ pn := fun e => h (e ▸ .head _)
      simp only [frq, if_neg ne]
      exact ih fun q => h (.tail _ q)
theorem Sto.mem {ns vs x v vs'} (h : Sto ns vs x v vs') : x ∈ ns.map (·.1) := by
  induction h with
  | z => exact .head _
  | z0 => exact .head _
  | s _ ih => exact .tail _ ih
  | s0 _ ih => exact .tail _ ih
theorem Sto.get {ns vs x v vs'} (h : Sto ns vs x v vs') : (ns.map (·.1)).Nodup → (∀ y, (if y = x then some v else fr ns vs y) = fr ns vs' y) ∧ ns.lookup x = some .local := by
  induction h with
  | @z x ns u v vs =>
    intro nd
    refine ⟨fun y => ?_, by simp⟩
    by_cases e : y = x <;> simp [frq, e]
  | @z0 x ns v =>
    intro nd
    refine ⟨fun y => ?_, by simp⟩
    by_cases e : y = x
    · simp [frq, e]
    · cases ns <;> simp [frq, e]
  | @s p u ns vs x v vs' h ih =>
    intro nd
    obtain ⟨pn, pk⟩ := p
    refine x0_2 (List.nodup_cons.mp nd) fun nm nd' => ?_
    have ne : x ≠ pn := fun e => nm (e ▸ h.mem)
    refine x0_2 (ih nd') fun a b => ?_
    refine ⟨fun y => ?_, by rw [lookup_cons_ne ne]; exact b⟩
    by_cases e : y = pn
    · subst e; simp [frq, Ne.symm ne]
    · simp only [frq, if_neg e]; exact a y
  | @s0 p ns x v vs' h ih =>
    intro nd
    obtain ⟨pn, pk⟩ := p
    refine x0_2 (List.nodup_cons.mp nd) fun nm nd' => ?_
    have ne : x ≠ pn := fun e => nm (e ▸ h.mem)
    refine x0_2 (ih nd') fun a b => ?_
    refine ⟨fun y => ?_, by rw [lookup_cons_ne ne]; exact b⟩
    by_cases e : y = pn
    · subst e; simp [frq, Ne.symm ne]
    · have := a y
      have z : fr ns [] y = none := by cases ns <;> rfl
      rw [z] at this
      simp only [frq, if_neg e]; exact this

theorem fr_congr {h₀ h : Heap} {L : Addr} {m m' : Str → Option Value} (F : Fr h₀ L h m) (e : ∀ x, m x = m' x) : Fr h₀ L h m' := (funext e : m = m') ▸ F
end
section
theorem zip_lookup_some {ns : List Str} {vs : List Value} (hl : ns.length = vs.length) {n : Str} (hn : n ∈ ns) : ((ns.zip vs).lookup n).isSome = true := by
  induction ns generalizing vs with
  | nil => cases hn
  | cons a ns ih =>
    cases vs with
    | nil => cases hl
    | cons v vs =>
      rw [List.zip_cons_cons, List.lookup_cons]
      by_cases e : (n == a) = true
      · rw [e]; rfl
      · rw [Bool.not_eq_true] at e
        rw [e]
        rcases List.mem_cons.mp hn with q | q
        · rw [q] at e; simp at e
        · exact ih (by simpa using hl) q
theorem zip_filterMap {ns : List Str} {vs : List Value} (hl : ns.length = vs.length) (nd : ns.Nodup) : ns.filterMap (fun n => ((ns.zip vs).lookup n).map (n, ·)) = ns.zip vs := by
  suffices H : ∀ (pre : List (Str × Value)) (ns : List Str) (vs : List Value), ns.length = vs.length → ns.Nodup → (∀ n ∈ ns, pre.lookup n = none) → ns.filterMap (fun n => ((pre ++ ns.zip vs).lookup n).map (n, ·)) = ns.zip vs from by
    simpa using H [] ns vs hl nd (fun _ _ => rfl)
  intro pre ns
  induction ns generalizing pre with
  | nil => intro vs _ _ _; rfl
  | cons a ns ih =>
    intro vs hl nd hp
    cases vs with
    | nil => cases hl
    | cons v vs =>
      refine x0_2 (List.nodup_cons.mp nd) fun n1 n2 => ?_
      have e1 : (pre ++ (a :: ns).zip (v :: vs)).lookup a = some v := by
        rw [List.lookup_append, hp a (.head _)]
        simp
      rw [List.filterMap_cons, e1]
      simp only [Option.map_some, List.zip_cons_cons]
      congr 1
      have := ih (pre ++ [(a, v)]) vs (by simpa using hl) n2 (fun n hn => by
        rw [List.lookup_append, hp n (.tail _ hn)]
        have : n ≠ a := fun e => n1 (e ▸ hn)
        rw [Option.none_or, List.lookup_cons, beq_eq_false_iff_ne.mpr this]; rfl)
      simpa using this
theorem bind_plain {fd : FuncData} {as : List Arg} {vals : List Value} (hp : fd.params = ⟨[], as, none, [], [], none, []⟩) (hd : fd.defaults = .none) (hl : as.length = vals.length) (nd : (as.map (·.arg)).Nodup) :
    bindArgs fd ⟨vals, []⟩ = pure ((as.map (·.arg)).zip vals) := by
  obtain ⟨a1, a2, a3, a4, a5, a6, a7, a8, a9, a10, a11, a12, a13, a14⟩ := fd
  cases hp; cases hd
  have hl' : (as.map (·.arg)).length = vals.length := by rw [List.length_map]; exact hl
  have h1 : (as.map (·.arg)).filter (fun n => (((as.map (·.arg)).zip vals).lookup n).isNone) = [] := List.filter_eq_nil_iff.mpr fun n hn => by
    rw [Option.isNone_iff_eq_none]
    intro q
    have := zip_lookup_some hl' hn
    rw [q] at this; cases this
  have h2 := zip_filterMap hl' nd
  generalize hns : as.map (·.arg) = ns at *
  unfold bindArgs
  refine Eq.trans (b := ite _ _ _) rfl ?_
  refine (if_neg ?_).trans ?_
  · show ¬ (decide (vals.length > (as.map (·.arg)).length) && true) = true
    rw [hns, hl', decide_eq_false (Nat.lt_irrefl _)]; exact Bool.false_ne_true
  refine Eq.trans (b := ite _ _ _) rfl ?_
  refine (if_neg ?_).trans ?_
  · show ¬ (!(((as.map (·.arg)).take ((as.map (·.arg)).length - (([] : List Value).drop (0 - (as.map (·.arg)).length)).length)).filter (fun n => (((as.map (·.arg)).zip vals).lookup n).isNone)).isEmpty) = true
    rw [hns, List.drop_nil, List.length_nil, Nat.sub_zero, List.take_length, h1]; exact Bool.false_ne_true
  show (forIn (m := Sem) (((as.map (·.arg)).drop ((as.map (·.arg)).length - (([] : List Value).drop (0 - (as.map (·.arg)).length)).length)).zip (([] : List Value).drop (0 - (as.map (·.arg)).length))) ((as.map (·.arg)).zip vals) _ >>= _) = _
  rw [hns, List.drop_nil, List.zip_nil_right]
  show (pure (f := Sem)) ((ns ++ []).filterMap fun n => ((ns.zip vals).lookup n).map (n, ·)) = _
  rw [List.append_nil, h2]

inductive Bnd : List (Str × NameKind) → List (Str × Value) → List (Option Value) → Prop where
  | nil {ns} : Bnd ns [] []
  | cons {x v ns bs vs} : Bnd ns bs vs → Bnd ((x, .local) :: ns) ((x, v) :: bs) (some v :: vs)
theorem Bnd.names {ns bs vs} (h : Bnd ns bs vs) : ∀ p ∈ bs, p.1 ∈ ns.map (·.1) := by
  induction h with
  | nil => intro p hp; cases hp
  | cons _ ih =>
    intro p hp
    rcases List.mem_cons.mp hp with rfl | hp
    · exact .head _
    · exact .tail _ (ih p hp)
theorem Bnd.get {ns bs vs} (h : Bnd ns bs vs) : (ns.map (·.1)).Nodup → (∀ y, bs.reverse.lookup y = fr ns vs y) ∧ ∀ p ∈ bs, ns.lookup p.1 = some .local := by
  induction h with
  | @nil ns =>
    intro _
    refine ⟨fun y => ?_, fun p hp => ?_⟩
    · cases ns <;> rfl
    · cases hp
  | @cons x v ns bs vs h ih =>
    intro nd
    refine x0_2 (List.nodup_cons.mp nd) fun nm nd' => ?_
    refine x0_2 (ih nd') fun a b => ?_
    refine ⟨fun y => ?_, fun p hp => ?_⟩
    · rw [List.reverse_cons, List.lookup_append, a]
      by_cases e : y = x
      · subst e
        rw [fr_none nm]
        simp [frq]
      · have : (y == x) = false := beq_eq_false_iff_ne.mpr e
        simp [frq, e, List.lookup_cons, this]
    · rcases List.mem_cons.mp hp with rfl | hp
      · simp
      · have : p.1 ≠ x := fun e => nm (e ▸ h.names p hp)
        rw [lookup_cons_ne this]; exact b p hp
noncomputable def noCell (sc : Scope) : Bool := sc.names.all fun x => x.2 != .cell

noncomputable abbrev Body (w : World) (A : Around) (R : Result → Shared → Prop) (env : Env) (body : List Stmt) (s : Shared) : Prop :=
  wpAny (model pg w) (A.deeper env) (execs body env)
    (fun fl s' => R (.ok (.ret (match fl with | .ret v => v | _ => .none))) s')
    (fun e s' => wpAny (model pg w) (A.deeper env) (leaving env e) (fun _ s'' => R (.error e) s'') (fun e' s'' => R (.error e') s'') s') s

theorem enter {w : World} {A : Around} {mg mb : Str → Option Value} {g : Heap} {s : Shared} {R : Result → Shared → Prop} {name qual : Str} {params : Arguments} {body : List Stmt} {scope : Scope} {dV kV doc pm cdv ct oc : Value} {an od : Option Addr} {osl : Array (Option Value)} {f : Addr} {args : Args}
    {binds : List (Str × Value)} {vs : List (Option Value)} (led : List (Addr × Obj))
    (G : Gl w mg mb g) (hk : g.StaysIn s.heap)
    (ho : (Mine.hd.heap_1 w.params).lookup f = some ⟨oc, od, .func (fnOf name qual params body scope dV kV doc pm an cdv ct), osl⟩)
    (hcd : codeIn (Mine.hd.heap_1 w.params) cdv qual = true) (W : Wf scope) (hroom : A.depth < recursionLimit)
    (hbind : BindsTo s (fnOf name qual params body scope dV kV doc pm an cdv ct) args binds) (hb : Bnd scope.names binds vs)
    (hled : ∀ p ∈ led, s.heap.get? p.1 = some p.2 ∧ g.get? p.1 = none)
    (h : ∀ B h₁ L tk, Wf scope → Gl w mg mb B → Fr B L h₁ (fr scope.names vs) → News B L h₁ led → (∀ a o, s.heap.get? a = some o → a ∉ led.map (·.1) → B.get? a = some o) → (∀ a o, B.get? a = some o → s.heap.get? a = some o) → s.heap.get? L = none →
      Body w A R (envOf qual scope L f cdv) body { s with heap := h₁, toks := tk })
    (hcell : noCell scope = true) (hco : scope.isCoroutine = false) (hgen : scope.isGenerator = false) :
    codeAny (model pg w) A (.call (.ref f) args) R s := by
  refine x0_2 (hb.get W.nd) fun b1 b2 => ?_
  have hcell' : ∀ x ∈ scope.names, x.2 ≠ .cell := fun x hx e => by
    have := List.all_eq_true.mp hcell x hx
    rw [e] at this; cases this
  have st : ∀ a o, s.heap.get? a = some o → a ∉ led.map (·.1) → (hideAll s.heap (led.map (·.1))).get? a = some o := fun a o e n => hideAll_get _ e n
  have gB : g.StaysIn (hideAll s.heap (led.map (·.1))) := fun a o e => st a o (hk a o e) fun m => by
    refine x1_2 (List.mem_map.mp m) fun p hp zq2 => ?_; subst zq2
    rw [(hled p hp).2] at e; cases e
  refine codeAny_call_def (fd := fnOf name qual params body scope dV kV doc pm an cdv ct) (body := body) (binds := binds) hroom ((G.X.keeps hk) _ _ ho) rfl (G.lim.keeps hk) (codeRec_of (G.X.keeps hk) hcd) rfl hbind hcell' b2 (fun h₁ hns hk₁ => ?_) hco hgen W.kd
  refine h _ h₁ s.heap.objs.size _ W (G.keeps gB) (fr_congr (m := fun x => binds.reverse.lookup x) ⟨hns, fun b o e => hk₁ b o (of_hideAll _ e), Nat.le_of_eq (hideAll_size _ _)⟩ b1) (fun p hp => ⟨hk₁ _ _ (hled p hp).1, Nat.ne_of_lt (Heap.lt_size (hled p hp).1), hideAll_none _ (List.mem_map_of_mem hp)⟩) st (fun a o e => of_hideAll _ e) ?_
  cases q : s.heap.get? s.heap.objs.size with
  | none => rfl
  | some o => exact absurd (Heap.lt_size q) (Nat.lt_irrefl _)
end
section
inductive Inn {α : Type} (x : α) : List α → Prop
  | z {l} : Inn x (x :: l)
  | s {y l} : Inn x l → Inn x (y :: l)
section
variable {α : Type} {x a b c d : α} {l : List α}
theorem Inn.z1 : Inn x (a :: x :: l) := .s .z
theorem Inn.z2 : Inn x (a :: b :: x :: l) := .s .z1
theorem Inn.z3 : Inn x (a :: b :: c :: x :: l) := .s .z2
theorem Inn.s4 (h : Inn x l) : Inn x (a :: b :: c :: d :: l) := .s (.s (.s (.s h)))
end
theorem Inn.mem {α : Type} {x : α} {l : List α} (h : Inn x l) : x ∈ l := by
  induction h with
  | z => exact .head _
  | s _ ih => exact .tail _ ih
noncomputable def Tup (o : Obj) : Prop := match o.data with
  | .seq _ _ => o.cls = .type "tuple"
  | .fields vs => ∃ x t, vs[1]? = some (.str x t)
  | .func _ => True
  | _ => False
theorem tup_seq {o : Obj} {xs n} (c : o.cls = .type "tuple") (d : o.data = .seq xs n) : Tup o := by unfold Tup; rw [d]; exact c
theorem tup_rec {o : Obj} {vs x t} (d : o.data = .fields vs) (e : vs[1]? = some (.str x t)) : Tup o := by unfold Tup; rw [d]; exact ⟨x, t, e⟩
theorem ntup_dict {o : Obj} {es n} (d : o.data = .dict es n) : ¬ Tup o := fun t => by unfold Tup at t; rw [d] at t; exact t
theorem ntup_cell {o : Obj} {v} (d : o.data = .cell v) : ¬ Tup o := fun t => by unfold Tup at t; rw [d] at t; exact t
theorem ntup_int {o : Obj} {vs i t} (d : o.data = .fields vs) (e : vs[1]? = some (.int i t)) : ¬ Tup o := fun q => by
  unfold Tup at q; rw [d] at q
  refine x2_1 q ?_; (try clear q); intro x t q
  rw [e] at q; cases q
noncomputable def Tk (h h' : Heap) : Prop := ∀ a o, h.get? a = some o → Tup o → h'.get? a = some o
theorem Tk.refl (h : Heap) : Tk h h := fun _ _ e _ => e
theorem Tk.of_stays {h h' : Heap} (x : h.StaysIn h') : Tk h h' := fun a o e _ => x a o e
theorem Tk.tup {h h' : Heap} (x : Tk h h') {a : Addr} {l : Array Value} (t : IsTup h a l) : IsTup h' a l := by
  obtain ⟨o, e, c, n, d⟩ := t
  exact ⟨o, x a o e (tup_seq c d), c, n, d⟩

structure Fact where
  says : Heap → Prop
  keeps : ∀ h h', Tk h h' → says h → says h'
noncomputable def tupF (a : Addr) (l : Array Value) : Fact := ⟨fun h => IsTup h a l, fun _ _ k t => k.tup t⟩

structure Sx (B : Heap) (L : Addr) (h : Heap) (ns : List (Str × NameKind)) (vs : List (Option Value)) (news : List (Addr × Obj)) (fs : List Fact) : Prop where
  F : Fr B L h (fr ns vs)
  N : News B L h news
  nd : (news.map (·.1)).Nodup
  ft : ∀ f ∈ fs, f.says h

structure Ev (env : Env) (ns : List (Str × NameKind)) (L : Addr) : Prop where
  nm : env.scope.names = ns
  wf : Wf env.scope
  loc : env.locals = L
  glo : env.globals = mainGlobals
  bui : env.builtins = builtinsNs

@[reducible] noncomputable def St (s : Shared) (h : Heap) (tk : Nat) : Shared := ⟨h, s.gens, s.drawn, tk, s.os⟩
inductive Up (d : Addr) (o o' : Obj) : List (Addr × Obj) → List (Addr × Obj) → Prop
  | z {r} : Up d o o' ((d, o) :: r) ((d, o') :: r)
  | s {p r r'} : Up d o o' r r' → Up d o o' (p :: r) (p :: r')
theorem Up.mem {d o o' l l'} (h : Up d o o' l l') : (d, o) ∈ l := by
  induction h with
  | z => exact .head _
  | s _ ih => exact .tail _ ih
theorem Up.keys {d o o' l l'} (h : Up d o o' l l') : l'.map (·.1) = l.map (·.1) := by
  induction h with
  | z => rfl
  | s _ ih => rw [List.map_cons, List.map_cons, ih]
theorem Up.out {d o o' l l'} (h : Up d o o' l l') : (l.map (·.1)).Nodup → ∀ p ∈ l', p = (d, o') ∨ (p ∈ l ∧ p.1 ≠ d) := by
  induction h with
  | @z r =>
    intro nd p hp
    rcases List.mem_cons.mp hp with rfl | hp
    · exact .inl rfl
    · exact .inr ⟨.tail _ hp, fun e => (List.nodup_cons.mp nd).1 (List.mem_map.mpr ⟨p, hp, e⟩)⟩
  | @s q r r' hr ih =>
    intro nd p hp
    refine x0_2 (List.nodup_cons.mp nd) fun n1 n2 => ?_
    rcases List.mem_cons.mp hp with rfl | hp
    · exact .inr ⟨.head _, fun e => n1 (List.mem_map.mpr ⟨_, hr.mem, e.symm⟩)⟩
    · rcases ih n2 p hp with q | ⟨q1, q2⟩
      · exact .inl q
      · exact .inr ⟨.tail _ q1, q2⟩

section
variable {B h h' : Heap} {L d : Addr} {ns : List (Str × NameKind)} {vs vs' : List (Option Value)} {news news' : List (Addr × Obj)} {fs : List Fact} {o o' : Obj}
theorem Sx.frame_ne (S : Sx B L h ns vs news fs) {a : Addr} {o : Obj} (e : h.get? a = some o) (t : Tup o) : a ≠ L := fun q => by
  refine x3_3 (S.F.ns) fun oL es ep hL hd _ => ?_
  rw [q, hL] at e
  cases e
  exact ntup_dict hd t
theorem Sx.tk (S : Sx B L h ns vs news fs) (hm : (d, o) ∈ news) (ho : ¬ Tup o) (k : ∀ a x, h.get? a = some x → a ≠ L → a ≠ d → h'.get? a = some x) : Tk h h' := fun a x e t =>
  k a x e (S.frame_ne e t) fun q => by
    have := (S.N _ hm).1
    rw [q, this] at e; cases e; exact ho t

noncomputable def rst (B : Heap) (L : Addr) (X : List Addr) (h : Heap) : List (Addr × Obj) :=
  (List.range h.objs.size).filterMap fun a => if a = L ∨ a ∈ X ∨ (B.get? a).isSome = true then none else (h.get? a).map (a, ·)
theorem rst_mem {B h : Heap} {L : Addr} {X : List Addr} {p : Addr × Obj} : p ∈ rst B L X h ↔ h.get? p.1 = some p.2 ∧ p.1 ≠ L ∧ p.1 ∉ X ∧ B.get? p.1 = none := by
  unfold rst
  rw [List.mem_filterMap]
  constructor
  · rintro ⟨a, _, e⟩
    split at e
    · cases e
    · rename_i hn
      refine x1_2 (Option.map_eq_some_iff.mp e) fun o ho zq2 => ?_; subst zq2
      refine ⟨ho, fun q => hn (.inl q), fun q => hn (.inr (.inl q)), ?_⟩
      cases q : B.get? a with
      | none => rfl
      | some x => exact absurd (.inr (.inr (by rw [q]; rfl))) hn
  · rintro ⟨e, n1, n2, n3⟩
    refine ⟨p.1, List.mem_range.mpr (Heap.lt_size e), ?_⟩
    rw [if_neg (by rw [n3]; simp [n1, n2]), e]
    rfl
theorem rst_ne {d : Addr} : ∀ p ∈ rst B L [d] h, p.1 ≠ d := fun p hp e => (rst_mem.mp hp).2.2.1 (by rw [e]; exact .head _)
theorem Sx.all (S : Sx B L h ns vs news fs) (X : List Addr) : News B L h (rst B L X h) := fun p hp => by
  refine x0_4 (rst_mem.mp hp) fun e n1 _ n3 => ?_
  exact ⟨e, n1, n3⟩
theorem Sx.one (S : Sx B L h ns vs news fs) (hm : (d, o) ∈ news) : News B L h ((d, o) :: rst B L [d] h) := fun p hp => by
  rcases List.mem_cons.mp hp with rfl | hp
  · exact S.N _ hm
  · exact S.all _ p hp
theorem Sx.mut (S : Sx B L h ns vs news fs) (U : Up d o o' news news') (ho : ¬ Tup o) (F' : Fr B L h' (fr ns vs)) (N' : News B L h' ((d, o') :: rst B L [d] h)) : Sx B L h' ns vs news' fs := by
  have D := S.N _ U.mem
  have k : ∀ a x, h.get? a = some x → a ≠ L → a ≠ d → h'.get? a = some x := fun a x e n1 n2 => by
    cases q : B.get? a with
    | none => exact (N' (a, x) (.tail _ (rst_mem.mpr ⟨e, n1, by simpa using n2, q⟩))).1
    | some y =>
      have := S.F.keep a y q
      rw [e] at this; cases this
      exact F'.keep a _ q
  refine ⟨F', fun p hp => ?_, by rw [U.keys]; exact S.nd, fun f hf => f.keeps _ _ (S.tk U.mem ho k) (S.ft f hf)⟩
  rcases U.out S.nd p hp with rfl | ⟨hp, hne⟩
  · exact ⟨(N' _ (.head _)).1, D.2.1, D.2.2⟩
  · have P := S.N p hp
    exact ⟨k _ _ P.1 P.2.1 hne, P.2⟩
theorem Sx.size (S : Sx B L h ns vs news fs) : L < h.objs.size := S.F.ns.lt
theorem Sx.push (S : Sx B L h ns vs news fs) {a : Addr} {o : Obj} (F' : Fr B L h' (fr ns vs)) (N' : News B L h' ((a, o) :: rst B L [] h)) (ha : h.get? a = none) : Sx B L h' ns vs ((a, o) :: news) fs := by
  have k : ∀ b x, h.get? b = some x → b ≠ L → h'.get? b = some x := fun b x e n1 => by
    cases q : B.get? b with
    | none => exact (N' (b, x) (.tail _ (rst_mem.mpr ⟨e, n1, by simp, q⟩))).1
    | some y =>
      have := S.F.keep b y q
      rw [e] at this; cases this
      exact F'.keep b _ q
  refine ⟨F', fun p hp => ?_, ?_, fun f hf => f.keeps _ _ (fun b x e t => k b x e (S.frame_ne e t)) (S.ft f hf)⟩
  · rcases List.mem_cons.mp hp with rfl | hp
    · exact N' _ (.head _)
    · have P := S.N p hp
      exact ⟨k _ _ P.1 P.2.1, P.2⟩
  · refine List.nodup_cons.mpr ⟨fun m => ?_, S.nd⟩
    refine x1_2 (List.mem_map.mp m) fun p hp e => ?_
    have := (S.N p hp).1
    rw [e, ha] at this; cases this
theorem Sx.drop (S : Sx B L h ns vs news fs) {news' : List (Addr × Obj)} (k : news'.Sublist news) : Sx B L h ns vs news' fs :=
  ⟨S.F, fun p hp => S.N p (k.subset hp), S.nd.sublist (k.map _), S.ft⟩
theorem Sx.fact (S : Sx B L h ns vs news fs) (f : Fact) (hf : f.says h) : Sx B L h ns vs news (f :: fs) :=
  ⟨S.F, S.N, S.nd, fun g hg => by
    rcases List.mem_cons.mp hg with rfl | hg
    · exact hf
    · exact S.ft g hg⟩
theorem Sx.facts (S : Sx B L h ns vs news fs) {fs' : List Fact} (k : ∀ f ∈ fs', f ∈ fs) : Sx B L h ns vs news fs' := ⟨S.F, S.N, S.nd, fun g hg => S.ft g (k g hg)⟩
theorem mem_one {α : Type _} {P : α → Prop} {a : α} (ha : P a) : ∀ f ∈ [a], P f := fun _ m => List.mem_singleton.mp m ▸ ha
theorem mem_two {α : Type _} {P : α → Prop} {a b : α} (ha : P a) (hb : P b) : ∀ f ∈ [a, b], P f := fun _ m => (List.mem_cons.mp m).elim (fun e => e ▸ ha) (mem_one hb _)
theorem mem_three {α : Type _} {P : α → Prop} {a b c : α} (ha : P a) (hb : P b) (hc : P c) : ∀ f ∈ [a, b, c], P f := fun _ m => (List.mem_cons.mp m).elim (fun e => e ▸ ha) (mem_two hb hc _)
theorem Sx.facts0 (S : Sx B L h ns vs news fs) : Sx B L h ns vs news [] := S.facts fun _ hf => nomatch hf
theorem Sx.facts1 {f1 : Fact} (S : Sx B L h ns vs news fs) (m1 : Inn f1 fs) : Sx B L h ns vs news [f1] := S.facts (mem_one m1.mem)
theorem Sx.facts2 {f1 f2 : Fact} (S : Sx B L h ns vs news fs) (m1 : Inn f1 fs) (m2 : Inn f2 fs) : Sx B L h ns vs news [f1, f2] := S.facts (mem_two m1.mem m2.mem)
theorem Sx.facts3 {f1 f2 f3 : Fact} (S : Sx B L h ns vs news fs) (m1 : Inn f1 fs) (m2 : Inn f2 fs) (m3 : Inn f3 fs) : Sx B L h ns vs news [f1, f2, f3] := S.facts (mem_three m1.mem m2.mem m3.mem)
theorem Sx.none_size (S : Sx B L h ns vs news fs) : h.get? h.objs.size = none := by
  exact new_none h
theorem Sx.names (S : Sx B L h ns vs news fs) (F' : Fr B L h' (fr ns vs')) (hs : Heap.SameBut L h h') : Sx B L h' ns vs' news fs :=
  ⟨F', S.N.set hs, S.nd, fun f hf => f.keeps _ _ (fun b x e t => (hs.2 b (S.frame_ne e t)).trans e) (S.ft f hf)⟩
theorem Sx.call (S : Sx B L h ns vs news fs) (k : h.StaysIn h') : Sx B L h' ns vs news fs := by
  refine x3_2 (S.F.ns) fun oL a1 a2 hL a3 => ?_
  exact ⟨⟨⟨oL, a1, a2, k _ _ hL, a3⟩, fun b o e => k _ _ (S.F.keep b o e), S.F.above⟩, fun p hp => ⟨k _ _ (S.N p hp).1, (S.N p hp).2⟩, S.nd, fun f hf => f.keeps _ _ (Tk.of_stays k) (S.ft f hf)⟩
theorem Sx.got (S : Sx B L h ns vs news fs) {a : Addr} {o : Obj} (k : h.StaysIn h') (hn : h.get? a = none) (ho : h'.get? a = some o) : Sx B L h' ns vs ((a, o) :: news) fs := by
  have S' := S.call k
  refine ⟨S'.F, fun p hp => ?_, ?_, S'.ft⟩
  · rcases List.mem_cons.mp hp with rfl | hp
    · refine ⟨ho, fun q => ?_, ?_⟩
      · refine x3_2 (S.F.ns) fun oL a1 a2 hL a3 => ?_
        have q' : a = L := q
        rw [q', hL] at hn; cases hn
      · cases q : B.get? a with
        | none => rfl
        | some x => have := S.F.keep _ _ q; rw [hn] at this; cases this
    · exact S'.N p hp
  · refine List.nodup_cons.mpr ⟨fun m => ?_, S.nd⟩
    refine x1_2 (List.mem_map.mp m) fun p hp e => ?_
    have := (S.N p hp).1
    rw [e, hn] at this; cases this
theorem Sx.inB (S : Sx B L h ns vs news fs) {a : Addr} {l : Array Value} (t : IsTup B a l) : IsTup h a l := by
  refine x1_2 t ?_; (try clear t); intro o e r
  exact ⟨o, S.F.keep _ _ e, r⟩
theorem Sx.inF (S : Sx B L h ns vs news fs) {a : Addr} {l : Array Value} (m : Inn (tupF a l) fs) : IsTup h a l := S.ft _ m.mem
end
end
section
theorem Ev.fn {env ns L} (V : Ev env ns L) : interactive env = false := by
  show (env.scope.kind == .module && _) = false
  rw [V.wf.kd]; rfl

noncomputable def Sq (M : Model) (A : Around) (rest : List Stmt) (env : Env) (Q : Flow → Shared → Prop) (E : Value → Shared → Prop) : Flow → Shared → Prop
  | .next, s => wpAny M A (execs rest env) Q E s
  | f, s => Q f s
noncomputable def retv : Flow → Value
  | .ret v => v
  | _ => .none
noncomputable def Fq (Q : Value → Shared → Prop) (f : Flow) (s : Shared) : Prop := Q (retv f) s
noncomputable def Evs (M : Model) (A : Around) (env : Env) (E : Value → Shared → Prop) : List Expr → (List Value → Shared → Prop) → Shared → Prop
  | [], Q, s => Q [] s
  | e :: es, Q, s => wpAny M A (eval e env) (fun v s' => Evs M A env E es (fun vs s'' => Q (v :: vs) s'') s') E s
noncomputable def unst (e : Expr) : Bool := !(Nat.beq e.ctorIdx 22)
noncomputable def noStar : List Expr → Bool
  | [] => true
  | e :: es => unst e && noStar es

section
variable {M : Model} {A : Around} {E : Value → Shared → Prop} {s : Shared} {env : Env}
theorem m_cons {st : Stmt} {rest : List Stmt} {Q : Flow → Shared → Prop} (h : wpAny M A (exec st env) (Sq M A rest env Q E) E s) : wpAny M A (execs (st :: rest) env) Q E s :=
  wpAny_execs_cons (wpAny_mono h (fun f s' h' => by cases f <;> exact h') fun _ _ x => x)
theorem m_last {st : Stmt} {Q : Flow → Shared → Prop} (h : wpAny M A (exec st env) Q E s) : wpAny M A (execs [st] env) Q E s :=
  wpAny_execs_cons (wpAny_mono h (fun f s' h' => by cases f <;> first | exact wpAny_execs_nil h' | exact h') fun _ _ x => x)
theorem m_nil {Q : Flow → Shared → Prop} (h : Q .next s) : wpAny M A (execs [] env) Q E s := wpAny_execs_nil h
theorem sq_next {rest : List Stmt} {Q : Flow → Shared → Prop} (h : wpAny M A (execs rest env) Q E s) : Sq M A rest env Q E .next s := h
theorem sq_ret {rest : List Stmt} {Q : Flow → Shared → Prop} {v : Value} (h : Q (.ret v) s) : Sq M A rest env Q E (.ret v) s := h
theorem sq_brk {rest : List Stmt} {Q : Flow → Shared → Prop} (h : Q .brk s) : Sq M A rest env Q E .brk s := h
theorem fq_ret {Q : Value → Shared → Prop} {v : Value} (h : Q v s) : Fq Q (.ret v) s := h
theorem fq_next {Q : Value → Shared → Prop} (h : Q .none s) : Fq Q .next s := h
theorem evs_nil {Q : List Value → Shared → Prop} (h : Q [] s) : Evs M A env E [] Q s := h
theorem evs_cons {e : Expr} {es : List Expr} {Q : List Value → Shared → Prop} (h : wpAny M A (eval e env) (fun v s' => Evs M A env E es (fun vs s'' => Q (v :: vs) s'') s') E s) : Evs M A env E (e :: es) Q s := h
theorem star_cons {pos : Pos} {e : Expr} (es : List Expr) (hn : unst e = true) : backTo pos (starEach (e :: es) env) = (false, eval e env) :: backTo pos (starEach es env) := by
  cases e <;> first | (cases hn; done) | rfl
theorem spl {pos : Pos} {args : List Expr} : ∀ {s : Shared} {Q : List Value → Shared → Prop}, noStar args = true → Evs M A env E args Q s → wpAny M A (spliced (backTo pos (starEach args env))) Q E s := by
  induction args with
  | nil => exact fun _ h => spliced_nil h
  | cons e es ih =>
    intro s Q hn h
    have hn := Bool.and_eq_true_iff.mp hn
    rw [star_cons es hn.1]
    exact spliced_cons (wpAny_mono h (fun v s' h' => ih hn.2 h') fun _ _ x => x)
theorem e_tuple {elts : List Expr} {k : Nat} {pos : Pos} {Q : Value → Shared → Prop} (hn : noStar elts = true) (h : Evs M A env E elts (fun vs s₁ => wpAny M A (newTuple vs) Q E s₁) s) : wpAny M A (eval (.Tuple elts k pos) env) Q E s := Tuple_ (spl hn h)
theorem e_list {elts : List Expr} {pos : Pos} {Q : Value → Shared → Prop} (hn : noStar elts = true) (h : Evs M A env E elts (fun vs s₁ => wpAny M A (newList vs) Q E s₁) s) : wpAny M A (eval (.List elts pos) env) Q E s := List_ (spl hn h)
theorem ite_tt {c : Prop} [Decidable c] {a b : Prop} (hc : c) (h : a) : if c then a else b := by rw [if_pos hc]; exact h
theorem ite_ff {c : Prop} [Decidable c] {a b : Prop} (hc : ¬ c) (h : b) : if c then a else b := by rw [if_neg hc]; exact h
theorem it_t {a b : Prop} (h : a) : if true = true then a else b := h
theorem it_f {a b : Prop} (h : b) : if false = true then a else b := by simpa using h
theorem it_is {x y : Bool} {a b : Prop} (e : x = y) (h : if y = true then a else b) : if x = true then a else b := e ▸ h
end

section
variable {w : World} {mg mb : Str → Option Value} {B : Heap} {A : Around} {E : Value → Shared → Prop} {s : Shared} {env : Env} {L : Addr} {h : Heap} {tk : Nat} {ns : List (Str × NameKind)} {vs vs' : List (Option Value)} {news news' : List (Addr × Obj)} {fs : List Fact}

theorem e_loc {x : Str} {pos : Pos} {v : Value} {Q : Value → Shared → Prop} (V : Ev env ns L) (S : Sx B L h ns vs news fs) (l : Loc ns vs x v) (k : Q v (St s h tk)) : wpAny (model pg w) A (eval (.Name x pos) env) Q E (St s h tk) := by
  obtain ⟨rfl, W, rfl, hg, hb⟩ := V
  refine x0_2 (l.get W.nd) fun e1 e2 => ?_
  exact wpAny_Name (wpAny_loadName_local W.kd e2 S.F.ns e1 k) (W.db x l.mem)
theorem e_locn {x : Str} {v : Value} {Q : Value → Shared → Prop} (V : Ev env ns L) (S : Sx B L h ns vs news fs) (l : Loc ns vs x v) (k : Q v (St s h tk)) : wpAny (model pg w) A (loadName env x) Q E (St s h tk) := by
  obtain ⟨rfl, W, rfl, hg, hb⟩ := V
  refine x0_2 (l.get W.nd) fun e1 e2 => ?_
  exact wpAny_loadName_local W.kd e2 S.F.ns e1 k
theorem e_glo {x : Str} {pos : Pos} {v : Value} {Q : Value → Shared → Prop} (V : Ev env ns L) (G : Gl w mg mb B) (S : Sx B L h ns vs news fs) (l : Glo ns x) (hv : mg x = some v) (k : Q v (St s h tk)) : wpAny (model pg w) A (eval (.Name x pos) env) Q E (St s h tk) := by
  obtain ⟨rfl, W, rfl, hg, hb⟩ := V
  exact Name_function_global W.kd (l.get W.nd) (loadGlobal_global (by rw [hg]; exact G.g.keeps S.F.keep) hv k) (W.db x l.mem)
theorem e_bui {x : Str} {pos : Pos} {v : Value} {Q : Value → Shared → Prop} (V : Ev env ns L) (G : Gl w mg mb B) (S : Sx B L h ns vs news fs) (l : Glo ns x) (hv : mg x = none ∧ mb x = some v) (k : Q v (St s h tk)) : wpAny (model pg w) A (eval (.Name x pos) env) Q E (St s h tk) := by
  obtain ⟨rfl, W, rfl, hg, hb⟩ := V
  exact Name_function_global W.kd (l.get W.nd) (loadGlobal_builtin (by rw [hg]; exact G.g.keeps S.F.keep) hv.1 (by rw [hb]; exact G.b.keeps S.F.keep) hv.2 k) (W.db x l.mem)
theorem x_sto {x : Str} {v : Value} {Q : Unit → Shared → Prop} (V : Ev env ns L) (S : Sx B L h ns vs news fs) (l : Sto ns vs x v vs')
    (k : ∀ h' tk', Sx B L h' ns vs' news fs → Q () (St s h' tk')) : wpAny (model pg w) A (storeName env x v) Q E (St s h tk) := by
  obtain ⟨rfl, W, rfl, hg, hb⟩ := V
  refine x0_2 (l.get W.nd) fun e1 e2 => ?_
  refine wpAny_storeName_local e2 S.F.ns (fun h' hn hs => k h' _ (S.names (fr_congr (S.F.set hn hs) e1) hs)) ?_
  rw [W.kd]; rfl
theorem x_expr {e : Expr} {pos : Pos} {Q : Flow → Shared → Prop} (V : Ev env ns L) (h : wpAny (model pg w) A (eval e env) (fun v s' => match v with | .ref _ => False | _ => Q .next s') E s) (hs : swapsWith e none pos.line env = pure false) : wpAny (model pg w) A (exec (.Expr e pos) env) Q E s := wpAny_Expr h V.fn hs
theorem e_str {i : Str} {n : Nat} {pos : Pos} {Q : Value → Shared → Prop} (k : ∀ t tk', Q (.str i t) (St s h tk')) : wpAny (model pg w) A (eval (.Constant (.str i) n pos) env) Q E (St s h tk) := Constant_str (k _ _)
noncomputable def NewT (L : Addr) (h h' : Heap) (l : List Value) (a : Addr) : Prop := a ≠ L ∧ h.get? a = none ∧ h'.get? a = some { cls := .type "tuple", data := .seq l.toArray }
theorem n_tuple {l : List Value} {Q : Value → Shared → Prop} (S : Sx B L h ns vs news fs) (hsz : l.length ≤ sizeLine) (k : ∀ a h' tk', Sx B L h' ns vs news (tupF a l.toArray :: fs) → NewT L h h' l a → Q (.ref a) (St s h' tk')) : wpAny (model pg w) A (newTuple l) Q E (St s h tk) := by
  refine wpAny_newObj_type (k h.objs.size (h.push _) tk (((S.push (o := { cls := .type "tuple", data := .seq l.toArray }) (S.F.push _) (News.push S.F (S.all []) _ rfl) S.none_size).drop (List.sublist_cons_self _ _)).fact _ ?_) ?_) (by show l.toArray.size ≤ sizeLine; rw [List.size_toArray]; exact hsz)
  · exact ⟨_, Heap.get?_push_size _ rfl, rfl, _, rfl⟩
  · exact ⟨Nat.ne_of_gt S.size, S.none_size, Heap.get?_push_size _ rfl⟩
theorem n_list {l : List Value} {Q : Value → Shared → Prop} (S : Sx B L h ns vs news fs) (hsz : l.length ≤ sizeLine) (k : ∀ a h' tk', Sx B L h' ns vs ((a, listOf l.toArray 0) :: news) fs → h.get? a = none → Q (.ref a) (St s h' tk')) : wpAny (model pg w) A (newList l) Q E (St s h tk) :=
  wpAny_newObj_type (k h.objs.size (h.push _) tk (S.push (S.F.push _) (News.push S.F (S.all []) _ rfl) S.none_size) S.none_size) (by show l.toArray.size ≤ sizeLine; rw [List.size_toArray]; exact hsz)
theorem i_tup {value slice : Expr} {t : Addr} {l : List Value} {i : Int} {u : Tok} {j : Nat} {x : Value} {Q : Value → Shared → Prop} (ht : IsTup h t l.toArray)
    (hlo : -(2 ^ 63) ≤ i) (hhi : i < 2 ^ 63) (hj : seqIndex? i l.length = some j) (hx : l[j]? = some x) (k : Q x (St s h tk))
    (hs : subscripted slice false (.ref t) (.int i u) = operate [.ref t, .int i u] (getItem (.ref t) (.int i u))) :
    wpAny (model pg w) A (subscriptTail value slice (.ref t) (.int i u)) Q E (St s h tk) := item_tupleT ht hlo hhi hj hx k hs
end
structure Ad (A' A : Around) : Prop where
  depth : A'.depth = A.depth + 1
  units : A'.units = A.units + 3
  handled : A'.handled = A.handled

theorem enterN {w : World} {A : Around} {mg mb : Str → Option Value} {g h : Heap} {s : Shared} {tk : Nat} {Q E : Value → Shared → Prop} {name qual : Str} {params : Arguments} {body : List Stmt} {scope : Scope} {dV kV doc pm cdv ct oc : Value} {an od : Option Addr} {osl : Array (Option Value)} {f : Addr} {args : List Value}
    {binds : List (Str × Value)} (led : List (Addr × Obj)) (vs : List (Option Value))
    (G : Gl w mg mb g) (hk : g.StaysIn h)
    (ho : (Mine.hd.heap_1 w.params).lookup f = some ⟨oc, od, .func (fnOf name qual params body scope dV kV doc pm an cdv ct), osl⟩)
    (hcd : codeIn (Mine.hd.heap_1 w.params) cdv qual = true) (W : wfS scope = true) (hroom : A.depth < recursionLimit)
    (hbind : BindsTo (St s h tk) (fnOf name qual params body scope dV kV doc pm an cdv ct) ⟨args, []⟩ binds) (hb : Bnd scope.names binds vs)
    (hled : ∀ p ∈ led, h.get? p.1 = some p.2 ∧ g.get? p.1 = none) (hnd : (led.map (·.1)).Nodup)
    (hcell : noCell scope = true)
    (k : ∀ B h₁ L tk' env A', Ev env scope.names L → Gl w mg mb B → Sx B L h₁ scope.names vs led [] → (Chg (led.map (·.1)) h B) → B.StaysIn h → h.get? L = none → Ad A' A →
      wpAny (model pg w) A' (execs body env) (Fq Q) (fun _ _ => False) (St s h₁ tk'))
    (hco : scope.isCoroutine = false) (hgen : scope.isGenerator = false) :
    wpAny (model pg w) A (call (.ref f) args) Q E (St s h tk) := by
  refine wpAny_call (enter led G hk ho hcd (wf_of W) hroom hbind hb hled (fun B h₁ L tk' W' G' F' N' hB hB' hL => ?_) hcell hco hgen)
  exact wpAny_mono (k B h₁ L tk' _ _ ⟨rfl, W', rfl, rfl, rfl⟩ G' ⟨F', N', hnd, fun f hf => nomatch hf⟩ hB hB' hL ⟨rfl, rfl, rfl⟩) (fun fl s' q => q) fun _ _ x => x.elim
section
variable {M : Model} {A : Around} {E : Value → Shared → Prop} {s : Shared} {env : Env}
theorem x_assign {x : Str} {pos' pos : Pos} {value : Expr} {Q : Flow → Shared → Prop} (hs : swapsWith value (some (.Name x pos')) pos.line env = pure false)
    (h : wpAny M A (eval value env) (fun v s₁ => wpAny M A (storeName env x v) (fun _ => Q .next) E s₁) E s) : wpAny M A (exec (.Assign [.Name x pos'] value pos) env) Q E s := wpAny_Assign_Name h hs
theorem e_cmp {l r : Expr} {op : CmpOp} {pos : Pos} {Q : Value → Shared → Prop} (hm : behindInMarks op r = false)
    (h : wpAny M A (eval l env) (fun a s₁ => wpAny M A (eval r env) (fun b s₂ => wpAny M A (compareOp op a b) Q E s₂) E s₁) E s) : wpAny M A (eval (.Compare l [op] [r] pos) env) Q E s := wpAny_Compare1 h hm
theorem t_cmp {l r : Expr} {op : CmpOp} {pos : Pos} {whole : Sem Value} {Q : Bool → Shared → Prop} (hm : behindInMarks op r = false)
    (h : wpAny M A (eval l env) (fun a s₁ => wpAny M A (eval r env) (fun b s₂ => wpAny M A (compareOp op a b) (fun c s₃ => wpAny M A (truthy c) Q E s₃) E s₂) E s₁) E s) : wpAny M A (isTrue (.Compare l [op] [r] pos) env whole) Q E s := wpAny_isTrue_Compare1 h hm
end
end
section
section
variable {w : World} {mg mb : Str → Option Value} {B : Heap} {A : Around} {E : Value → Shared → Prop} {s : Shared} {env : Env} {L D : Addr} {h : Heap} {tk : Nat} {ns : List (Str × NameKind)} {vs vs' : List (Option Value)} {news news' : List (Addr × Obj)} {fs : List Fact}

theorem gm_append {l : List Value} {n : Nat} {pl : Sem Bool} {Q : Value × List Value → Shared → Prop} (S : Sx B L h ns vs news fs) (m : Inn (D, listOf l.toArray n) news) (k : Q (.builtin "list.append", [.ref D]) (St s h tk)) : wpAny (model pg w) A (getMethod (.ref D) (Str.ofString "append") pl) Q E (St s h tk) :=
  kl_method (s := St s h tk) S.N m.mem PySem.F.slot_list_append PySem.F.type_list_append k
theorem gm_pop {l : List Value} {n : Nat} {pl : Sem Bool} {Q : Value × List Value → Shared → Prop} (S : Sx B L h ns vs news fs) (m : Inn (D, listOf l.toArray n) news) (k : Q (.builtin "list.pop", [.ref D]) (St s h tk)) : wpAny (model pg w) A (getMethod (.ref D) (Str.ofString "pop") pl) Q E (St s h tk) :=
  kl_method (s := St s h tk) S.N m.mem PySem.F.slot_list_pop PySem.F.type_list_pop k
theorem gm_extend {l : List Value} {n : Nat} {pl : Sem Bool} {Q : Value × List Value → Shared → Prop} (S : Sx B L h ns vs news fs) (m : Inn (D, listOf l.toArray n) news) (k : Q (.builtin "list.extend", [.ref D]) (St s h tk)) : wpAny (model pg w) A (getMethod (.ref D) (Str.ofString "extend") pl) Q E (St s h tk) :=
  kl_method (s := St s h tk) S.N m.mem PySem.F.slot_list_extend PySem.F.type_list_extend k
theorem gm_reverse {l : List Value} {n : Nat} {pl : Sem Bool} {Q : Value × List Value → Shared → Prop} (S : Sx B L h ns vs news fs) (m : Inn (D, listOf l.toArray n) news) (k : Q (.builtin "list.reverse", [.ref D]) (St s h tk)) : wpAny (model pg w) A (getMethod (.ref D) (Str.ofString "reverse") pl) Q E (St s h tk) :=
  kl_method (s := St s h tk) S.N m.mem PySem.F.slot_list_reverse PySem.F.type_list_reverse k
theorem not_tup_list {l : Array Value} {n : Nat} : ¬ Tup (listOf l n) := fun t => absurd (show Value.type "list" = Value.type "tuple" from t) (by decide)
theorem upd_one {d : Addr} {o o' : Obj} : Upd d o o' ((d, o) :: rst B L [d] h) ((d, o') :: rst B L [d] h) := Upd.head rst_ne
theorem o_append {l l' : List Value} {n : Nat} {x : Value} {Q : Value → Shared → Prop} (S : Sx B L h ns vs news fs) (U : Up D (listOf l.toArray n) (listOf l'.toArray (n + 1)) news news') (e : l ++ [x] = l') (hz : l.length ≤ sizeLine)
    (k : ∀ h' tk', Sx B L h' ns vs news' fs → Q .none (St s h' tk')) : wpAny (model pg w) A (call (.builtin "list.append") [.ref D, x]) Q E (St s h tk) := by
  subst e
  refine append_K (s := St s h tk) S.F (S.one U.mem) upd_one (fun h' F' N' => k h' _ (S.mut U not_tup_list F' ?_)) (by simpa using hz)
  have e : l.toArray.push x = (l ++ [x]).toArray := by simp
  rw [e] at N'
  exact N'
theorem o_pop {l l' : List Value} {n : Nat} {x : Value} {Q : Value → Shared → Prop} (S : Sx B L h ns vs news fs) (U : Up D (listOf l.toArray n) (listOf l'.toArray (n + 1)) news news') (e : kl_last l = some (l', x)) (hz : l.length ≤ sizeLine)
    (k : ∀ h' tk', Sx B L h' ns vs news' fs → Q x (St s h' tk')) : wpAny (model pg w) A (call (.builtin "list.pop") [.ref D]) Q E (St s h tk) :=
  kl_pop (s := St s h tk) S.F (S.one U.mem) (by simpa using e) upd_one (by simpa using hz) (fun h' F' N' => k h' _ (S.mut U not_tup_list F' N'))
theorem o_reverse {l l' : List Value} {n : Nat} {Q : Value → Shared → Prop} (S : Sx B L h ns vs news fs) (U : Up D (listOf l.toArray n) (listOf l'.toArray n) news news') (e : l.reverse = l') (hz : l.length ≤ sizeLine)
    (k : ∀ h' tk', Sx B L h' ns vs news' fs → Q .none (St s h' tk')) : wpAny (model pg w) A (call (.builtin "list.reverse") [.ref D]) Q E (St s h tk) :=
  kl_reverse (s := St s h tk) S.F (S.one U.mem) (by simpa using e) upd_one (by simpa using hz) (fun h' F' N' => k h' _ (S.mut U not_tup_list F' N'))
theorem o_len {l : List Value} {n : Nat} {Q : Value → Shared → Prop} (S : Sx B L h ns vs news fs) (m : Inn (D, listOf l.toArray n) news) (hz : (l.length : Int) < 2 ^ 63)
    (k : ∀ t tk', Q (.int l.length t) (St s h tk')) : wpAny (model pg w) A (call (.builtin "len") [.ref D]) Q E (St s h tk) := by
  have := len_list (prog := pg) (w := w) (A := A) (E := E) (s := St s h tk) (Q := Q) ⟨_, (S.N _ m.mem).1, rfl, n, rfl⟩ (by simpa using hz) (by simpa using k _ _)
  exact this
theorem o_lenL {l : List Value} {Q : Value → Shared → Prop} (hl : h.IsList D l.toArray) (hz : (l.length : Int) < 2 ^ 63)
    (k : ∀ t tk', Q (.int l.length t) (St s h tk')) : wpAny (model pg w) A (call (.builtin "len") [.ref D]) Q E (St s h tk) := by
  have := len_list (prog := pg) (w := w) (A := A) (E := E) (s := St s h tk) (Q := Q) hl (by simpa using hz) (by simpa using k _ _)
  exact this
theorem o_setitem {l l' : List Value} {n : Nat} {i : Int} {t : Tok} {v : Value} {Q : Unit → Shared → Prop} (S : Sx B L h ns vs news fs) (U : Up D (listOf l.toArray n) (listOf l'.toArray n) news news') (h0 : 0 ≤ i) (h1 : i < l.length) (hz : i < 2 ^ 63) (e : l.set i.toNat v = l')
    (k : ∀ h' tk', Sx B L h' ns vs news' fs → Q () (St s h' tk')) : wpAny (model pg w) A (setItem (.ref D) (.int i t) v) Q E (St s h tk) := by
  subst e
  have z := S.N _ U.mem
  refine ki_setAt (s := St s h tk) z.1 h0 hz (by simpa using h1) (k _ _ (S.mut U not_tup_list (S.F.change (Heap.SameBut.update ..) z.2.1 z.2.2) (fun p hp => ?_)))
  have N := ki_turn (pre := []) (post := rst B L [D] h) (D := D) (n := n) (its := l.toArray) (its' := (l.set i.toNat v).toArray) (n' := n) (fun x => x.setIfInBounds i.toNat v) (S.one U.mem) (fun _ hp => nomatch hp) rst_ne (by
    apply Array.toList_inj.mp
    simp) (by simp)
  exact N p hp

theorem cw_end {args : List Expr} (hn : noStar args = true) : ∀ {pos : Pos}, (backTo pos (starEach args env)).any (·.1) = false := by
  intro pos
  induction args with
  | nil => rfl
  | cons e es ih =>
    have hn := Bool.and_eq_true_iff.mp hn
    rw [star_cons es hn.1, List.any_cons, ih hn.2]; rfl
theorem ev_args {f : Value} {args : List Expr} {Q : Args → Shared → Prop} {pos : Pos} (hn : noStar args = true) (k : Evs (model pg w) A env E args (fun vs s' => Q ⟨vs, []⟩ s') s) : wpAny (model pg w) A (evalArgs f true (backTo pos (starEach args env)) []) Q E s := by
  cases args with
  | nil => exact evalArgs_nil3 k
  | cons e es =>
    have he := star_cons (env := env) (pos := pos) es (Bool.and_eq_true_iff.mp hn).1
    have z := spl (M := model pg w) (A := A) (E := E) (pos := pos) hn k
    rw [he] at z ⊢
    exact evalArgs_plain z
theorem cw_bui {pos : Pos} {id : String} {first : List Value} {args : List Expr} {Q : Value → Shared → Prop} (hn : noStar args = true) (k : Evs (model pg w) A env E args (fun vs s' => wpAny (model pg w) A (call (.builtin id) (first ++ vs)) Q E s') s) :
    wpAny (model pg w) A (callWith pos (.builtin id) first (backTo pos (starEach args env)) []) Q E s := callWith_builtin (cw_end hn) (ev_args hn k)
theorem cw_typ {pos : Pos} {T : String} {args : List Expr} {Q : Value → Shared → Prop} (hn : noStar args = true) (k : Evs (model pg w) A env E args (fun vs s' => wpAny (model pg w) A (call (.type T) vs) Q E s') s) :
    wpAny (model pg w) A (callWith pos (.type T) [] (backTo pos (starEach args env)) []) Q E s := PySem.callWith_type (cw_end hn) (ev_args hn k)
structure Fn (w : World) (a : Addr) : Prop where
  k : keepIn (Mine.hd.heap_1 w.params) (.ref a) = true
theorem cw_ref {pos : Pos} {a : Addr} {first : List Value} {args : List Expr} {Q : Value → Shared → Prop} (G : Gl w mg mb B) (K : Fn w a) (hn : noStar args = true) (k : Evs (model pg w) A env E args (fun vs s' => B.StaysIn s'.heap ∧ wpAny (model pg w) A (call (.ref a) (first ++ vs)) Q E s') s) :
    wpAny (model pg w) A (callWith pos (.ref a) first (backTo pos (starEach args env)) []) Q E s := by
  refine callWith_of (by rw [cw_end hn]; rfl) (keeps_K K.k) (ev_args hn ?_)
  revert k
  suffices H : ∀ (es : List Expr) (Q1 Q2 : List Value → Shared → Prop) (s : Shared), (∀ v s, Q1 v s → Q2 v s) → Evs (model pg w) A env E es Q1 s → Evs (model pg w) A env E es Q2 s from
    H args _ _ s (fun v s' q => ⟨G.X.keeps q.1, q.2⟩)
  intro es
  induction es with
  | nil => exact fun Q1 Q2 s q k => q _ _ k
  | cons e es ih => exact fun Q1 Q2 s q k => wpAny_mono k (fun v s' k' => ih _ _ s' (fun vs s'' => q (v :: vs) s'') k') fun _ _ x => x
end
end
section
noncomputable def ents (P : Params) (ns : List Str) (ts : List Tok) (vs : List Value) : List DictEntry :=
  List.rec (motive := fun _ => List Tok → List Value → List DictEntry) (fun _ _ => []) (fun n _ f ts vs => ts.casesOn [] fun t ts => vs.casesOn [] fun v vs => ⟨PyData.keyHash P n, .str n t, v⟩ :: f ts vs) ns ts vs
theorem entq {P : Params} {n ns t ts v vs} : ents P (n :: ns) (t :: ts) (v :: vs) = ⟨PyData.keyHash P n, .str n t, v⟩ :: ents P ns ts vs := rfl
theorem ents_ind {P : Params} {C : List Str → List DictEntry → Prop} (h0 : ∀ ns, C ns []) (h1 : ∀ n ns t ts v vs, C ns (ents P ns ts vs) → C (n :: ns) (⟨PyData.keyHash P n, .str n t, v⟩ :: ents P ns ts vs)) (ns : List Str) : ∀ ts vs, C ns (ents P ns ts vs) := by
  induction ns with
  | nil => exact fun _ _ => h0 _
  | cons n ns ih =>
    intro ts vs
    cases ts with
    | nil => exact h0 _
    | cons t ts =>
      cases vs with
      | nil => exact h0 _
      | cons v vs => exact h1 _ _ _ _ _ _ (ih ts vs)
inductive Fld : List Str → List Tok → List Value → Str → Value → Prop
  | z {x ns t ts v vs} : Fld (x :: ns) (t :: ts) (v :: vs) x v
  | s {n ns t ts u vs x v} : Fld ns ts vs x v → Fld (n :: ns) (t :: ts) (u :: vs) x v
inductive Fst : List Str → List Tok → List Value → Str → Value → List Value → Prop
  | z {x ns t ts u v vs} : Fst (x :: ns) (t :: ts) (u :: vs) x v (v :: vs)
  | s {n ns t ts u vs x v vs'} : Fst ns ts vs x v vs' → Fst (n :: ns) (t :: ts) (u :: vs) x v (u :: vs')
theorem ents_noRef {P : Params} {ns ts vs} : (ents P ns ts vs).any (·.refKey) = false :=
  ents_ind (C := fun _ l => l.any (·.refKey) = false) (fun _ => rfl) (fun _ _ _ _ _ _ h => h) ns ts vs
theorem isStr_self (x : Str) (t : Tok) : (Value.str x t).isStr x = true := by show (x == x) = true; simp
theorem isStr_ne {n x : Str} (t : Tok) (h : n ≠ x) : (Value.str n t).isStr x = false := beq_eq_false_iff_ne.mpr h
theorem Fld.mem {ns ts vs x v} (h : Fld ns ts vs x v) : x ∈ ns := by
  induction h with
  | z => exact .head _
  | s _ ih => exact .tail _ ih
theorem Fld.get {P : Params} {ns ts vs x v} (h : Fld ns ts vs x v) : ns.Nodup → getL x (ents P ns ts vs) = some (some v) := by
  induction h with
  | z =>
    intro _
    unfold getL
    rw [entq]
    rw [List.find?_cons]
    rw [isStr_self]
  | @s n ns t ts u vs x v h ih =>
    intro nd
    refine x0_2 (List.nodup_cons.mp nd) fun n1 n2 => ?_
    have ne : n ≠ x := fun e => n1 (by rw [e]; exact h.mem)
    have := ih n2
    unfold getL at this ⊢
    rw [entq, List.find?_cons, isStr_ne t ne]
    have e : (List.any ({ hash := PyData.keyHash P n, key := Value.str n t, val := u } :: ents P ns ts vs) fun x => x.refKey) = (ents P ns ts vs).any (·.refKey) := rfl
    rw [e]
    exact this
theorem ents_miss {P : Params} {x : Str} {ns ts vs} : x ∉ ns → (ents P ns ts vs).find? (·.key.isStr x) = none :=
  ents_ind (C := fun ns l => x ∉ ns → l.find? (·.key.isStr x) = none) (fun _ _ => rfl) (fun n ns t ts v vs ih h => by
    rw [List.find?_cons, isStr_ne t (fun e => h (by rw [e]; exact .head _) : n ≠ x)]
    exact ih fun q => h (.tail _ q)) ns ts vs
theorem get_none {P : Params} {x : Str} {ns ts vs} (h : x ∉ ns) : getL x (ents P ns ts vs) = some none := by
  unfold getL
  rw [ents_miss h, ents_noRef]; rfl
theorem Fst.mem {ns ts vs x v vs'} (h : Fst ns ts vs x v vs') : x ∈ ns := by
  induction h with
  | z => exact .head _
  | s _ ih => exact .tail _ ih
theorem Fst.put {P : Params} {hs : Int} {k : Value} {ns ts vs x v vs'} (h : Fst ns ts vs x v vs') : ns.Nodup → putL x hs k v (ents P ns ts vs) = ents P ns ts vs' ∧ (ents P ns ts vs).any (·.key.isStr x) = true ∧ (getL x (ents P ns ts vs)).isSome = true := by
  induction h with
  | @z x ns t ts u v vs =>
    intro _
    refine ⟨?_, ?_, ?_⟩
    · rw [entq, entq]
      unfold putL
      rw [if_pos (isStr_self x t)]
    · rw [entq, List.any_cons, isStr_self]; rfl
    · unfold getL
      rw [entq, List.find?_cons, isStr_self]; rfl
  | @s n ns t ts u vs x v vs' h ih =>
    intro nd
    refine x0_2 (List.nodup_cons.mp nd) fun n1 n2 => ?_
    have ne : n ≠ x := fun e => n1 (by rw [e]; exact h.mem)
    refine x0_3 (ih n2) fun a b c => ?_
    refine ⟨?_, ?_, ?_⟩
    · rw [entq, entq]
      unfold putL
      rw [if_neg (by rw [isStr_ne t ne]; decide), a]
    · rw [entq, List.any_cons, isStr_ne t ne, b]; rfl
    · unfold getL at c ⊢
      rw [entq, List.find?_cons, isStr_ne t ne]
      exact c
theorem ents_app {P : Params} {hs : Int} {x : Str} {t : Tok} {v : Value} (he : hs = PyData.keyHash P x) : ∀ {ns : List Str} {ts : List Tok} {vs : List Value}, ts.length = ns.length → vs.length = ns.length → x ∉ ns → putL x hs (.str x t) v (ents P ns ts vs) = ents P (ns ++ [x]) (ts ++ [t]) (vs ++ [v]) := by
  intro ns
  induction ns with
  | nil =>
    intro ts vs h1 h2 _
    obtain rfl := List.eq_nil_of_length_eq_zero h1
    obtain rfl := List.eq_nil_of_length_eq_zero h2
    subst he; rfl
  | cons n ns ih =>
    intro ts vs h1 h2 h3
    cases ts with
    | nil => cases h1
    | cons t' ts =>
    cases vs with
    | nil => cases h2
    | cons u vs =>
    rw [entq]
    unfold putL
    rw [if_neg (by rw [isStr_ne t' (fun e => h3 (by rw [e]; exact .head _) : n ≠ x)]; decide), ih (Nat.succ.inj h1) (Nat.succ.inj h2) (fun q => h3 (.tail _ q))]
    rfl
theorem ents_any {P : Params} {x : Str} {ns ts vs} : x ∉ ns → (ents P ns ts vs).any (·.key.isStr x) = false :=
  ents_ind (C := fun ns l => x ∉ ns → l.any (·.key.isStr x) = false) (fun _ _ => rfl) (fun n ns t ts v vs ih h => by
    rw [List.any_cons, isStr_ne t (fun e => h (by rw [e]; exact .head _) : n ≠ x), ih fun q => h (.tail _ q)]; rfl) ns ts vs
theorem ents_length {P : Params} : ∀ {ns : List Str} {ts : List Tok} {vs : List Value}, ts.length = ns.length → vs.length = ns.length → (ents P ns ts vs).length = ns.length := by
  intro ns
  induction ns with
  | nil =>
    intro ts vs h1 h2
    obtain rfl := List.eq_nil_of_length_eq_zero h1
    rfl
  | cons n ns ih =>
    intro ts vs h1 h2
    cases ts with
    | nil => cases h1
    | cons t' ts =>
    cases vs with
    | nil => cases h2
    | cons u vs => exact congrArg Nat.succ (ih (Nat.succ.inj h1) (Nat.succ.inj h2))

noncomputable abbrev dob (P : Params) (ns : List Str) (ts : List Tok) (vs : List Value) : Obj := dictOf (ents P ns ts vs) ns.length

theorem am {α : Type} {P : α → Prop} {a : α} {l : List α} (h : P a) (k : ∀ x ∈ l, P x) : ∀ x ∈ a :: l, P x := fun _ m => (List.mem_cons.mp m).elim (fun e => e ▸ h) (k _)
theorem an {α : Type} {P : α → Prop} : ∀ x ∈ ([] : List α), P x := fun _ m => nomatch m
structure Cl (w : World) (C : Addr) (ns : List Str) : Prop where
  get : plainGet (Mine.hd.heap_1 w.params) C "" = true
  dict : hasDictIn (Mine.hd.heap_1 w.params) C = true
  set : findIn (Mine.hd.heap_1 w.params) (.ref C) "__setattr__" = some (some (.builtin "object.__setattr__"))
  over : plainOver (Mine.hd.heap_1 w.params) C = true
  nd : ns.Nodup
  no : ∀ x ∈ ns, findIn (Mine.hd.heap_1 w.params) (.ref C) x = some none

section
variable {w : World} {mg mb : Str → Option Value} {B : Heap} {A : Around} {E : Value → Shared → Prop} {s : Shared} {env : Env} {L D C x dx : Addr} {h : Heap} {tk : Nat} {ns : List (Str × NameKind)} {vs vs' : List (Option Value)} {news news' : List (Addr × Obj)} {fs : List Fact}
  {as : List Str} {ts : List Tok} {us us' : List Value} {name : Str} {v : Value}
theorem not_tup_dict {es : List DictEntry} {n : Nat} : ¬ Tup (dictOf es n) := ntup_dict rfl
structure Ins (h : Heap) (x C dx : Addr) (o : Obj) : Prop where
  inst : h.get? x = some (instObj C dx)
  dict : h.get? dx = some o
theorem Ins.at' {o : Obj} (I : Ins h x C dx o) : InstAt h x (instObj C dx) C (some o) := ⟨I.inst, rfl, rfl, I.dict⟩
theorem Sx.ins (S : Sx B L h ns vs news fs) {o : Obj} (m1 : Inn (x, instObj C dx) news) (m2 : Inn (dx, o) news) : Ins h x C dx o := ⟨(S.N _ m1.mem).1, (S.N _ m2.mem).1⟩
theorem Sx.insB (S : Sx B L h ns vs news fs) {o : Obj} (I : Ins B x C dx o) : Ins h x C dx o := ⟨S.F.keep _ _ I.inst, S.F.keep _ _ I.dict⟩
theorem Sx.insX (S : Sx B L h ns vs news fs) {o : Obj} (m1 : B.get? x = some (instObj C dx)) (m2 : Inn (dx, o) news) : Ins h x C dx o := ⟨S.F.keep _ _ m1, (S.N _ m2.mem).1⟩

theorem s_fld {Q : Unit → Shared → Prop} (G : Gl w mg mb B) (K : Cl w C as) (S : Sx B L h ns vs news fs) (I : Ins h x C dx (dob w.params as ts us)) (l : Fst as ts us name v us') (hz : as.length ≤ 1000) (h1 : ts.length = as.length) (h2 : us'.length = as.length)
    (U : Up dx (dob w.params as ts us) (dob w.params as ts us') news news') (k : ∀ h' tk', Sx B L h' ns vs news' fs → Q () (St s h' tk')) :
    wpAny (model pg w) A (setAttr (.ref x) name v) Q E (St s h tk) := by
  refine x0_3 (l.put (P := w.params) (hs := PyData.keyHash w.params name) (k := .str name (tk + 1)) K.nd) fun p1 p2 p3 => ?_
  refine set_dict (s := St s h tk) (es' := ents w.params as ts us') (n' := as.length) S.F G.X (S.one U.mem) I.at' rfl K.set K.over (by unfold takerIn; rw [K.no _ l.mem]; rfl) K.dict p3 ?_ upd_one (by rw [ents_length h1 h2]; exact hz) fun h' F' N' => k h' _ (S.mut U not_tup_dict F' N')
  rw [p1]
  unfold putN
  rw [p2]; rfl
theorem s_new {as' : List Str} {Q : Unit → Shared → Prop} (G : Gl w mg mb B) (K : Cl w C as) (S : Sx B L h ns vs news fs) (I : Ins h x C dx (dob w.params as' ts us)) (hz : as'.length < 1000) (hn : name ∈ as) (hno : name ∉ as') (h1 : ts.length = as'.length) (h2 : us.length = as'.length)
    (U' : Up dx (dob w.params as' ts us) (dob w.params (as' ++ [name]) (ts ++ [tk.succ]) (us ++ [v])) news news') (k : ∀ h' tk', Sx B L h' ns vs news' fs → Q () (St s h' tk')) :
    wpAny (model pg w) A (setAttr (.ref x) name v) Q E (St s h tk) := by
  refine set_dict (s := St s h tk) (es' := ents w.params (as' ++ [name]) (ts ++ [tk + 1]) (us ++ [v])) (n' := (as' ++ [name]).length) S.F G.X (S.one U'.mem) I.at' rfl K.set K.over (by unfold takerIn; rw [K.no _ hn]; rfl) K.dict (by rw [get_none hno]; rfl) ?_ upd_one ?_ fun h' F' N' => k h' _ (S.mut U' not_tup_dict F' N')
  · rw [ents_app rfl h1 h2 hno]
    unfold putN
    rw [ents_any hno]
    simp
  · rw [ents_length (by simp [h1]) (by simp [h2])]; simp; exact lin1 [_] [] (.nlt (.V 0) (.K 1000)) (.nle (.V 0) (.K 999)) [[1, 1]] hz okT
inductive Dk (w : World) (as : List Str) (k : Nat) : Obj → Prop
  | mk {ts : List Tok} {us : List Value} : ts.length = k → us.length = k → Dk w as k (dob w.params (as.take k) ts us)
theorem Sx.two (S : Sx B L h ns vs news fs) {p q : Addr × Obj} (i : Inn p news) (j : Inn q news) (n : p.1 ≠ q.1) : Sx B L h ns vs [p, q] [] :=
  ⟨S.F, am (S.N _ i.mem) (am (S.N _ j.mem) an), List.nodup_cons.mpr ⟨fun m => n (List.mem_singleton.mp m), List.nodup_cons.mpr ⟨(fun m => nomatch m), List.nodup_nil⟩⟩, an⟩
theorem s_nwk {o : Obj} {k : Nat} {Q : Unit → Shared → Prop} (G : Gl w mg mb B) (K : Cl w C as) (S : Sx B L h ns vs news fs) (i : Inn (x, instObj C dx) news) (j : Inn (dx, o) news) (D : Dk w as k o) (hn : as[k]? = some name) (hk : as.length < 1000)
    (ret : ∀ h' tk' o', Dk w as (k + 1) o' → Sx B L h' ns vs [(x, instObj C dx), (dx, o')] [] → Q () (St s h' tk')) : wpAny (model pg w) A (setAttr (.ref x) name v) Q E (St s h tk) := by
  cases D with | @mk ts us h1 h2 =>
  have hl := (List.getElem?_eq_some_iff.mp hn).1
  have hl2 : (as.take k).length = k := List.length_take_of_le (Nat.le_of_lt hl)
  have e : as.take (k + 1) = as.take k ++ [name] := by rw [List.take_add_one, hn]; rfl
  have nx : x ≠ dx := fun q => by
    have a := (S.N _ i.mem).1
    have b := (S.N _ j.mem).1
    rw [q] at a; rw [a] at b; cases b
  have no : name ∉ as.take k := fun m => by
    have nd := K.nd
    rw [← List.take_append_drop (k + 1) as, e] at nd
    exact (List.nodup_append.mp (List.nodup_append.mp nd).1).2.2 _ m _ (.head _) rfl
  have S2 := S.two i j nx
  refine s_new (as' := as.take k) (news' := [(x, instObj C dx), (dx, dob w.params (as.take k ++ [name]) (ts ++ [tk.succ]) (us ++ [v]))]) G K S2 (S2.ins .z (.s .z)) (by rw [hl2]; exact Nat.lt_trans hl hk) (List.mem_of_getElem? hn) no (h1.trans hl2.symm) (h2.trans hl2.symm) (.s .z) fun h' tk' S3 => ret _ _ _ ?_ S3
  exact e ▸ .mk (by rw [List.length_append, h1]; rfl) (by rw [List.length_append, h2]; rfl)
structure Mt (w : World) (C : Addr) (name : Str) (f : Addr) : Prop where
  find : findIn (Mine.hd.heap_1 w.params) (.ref C) name = some (some (.ref f))
  fn : isFn (Mine.hd.heap_1 w.params) (.ref f) = true
theorem gm_own {pl : Sem Bool} {f : Addr} {Q : Value × List Value → Shared → Prop} (G : Gl w mg mb B) (K : Cl w C as) (K2 : Mt w C name f) (S : Sx B L h ns vs news fs) (I : Ins h x C dx (dob w.params as ts us)) (hn : name ∉ as) (k : Q (.ref f, [.ref x]) (St s h tk)) :
    wpAny (model pg w) A (getMethod (.ref x) name pl) Q E (St s h tk) :=
  method_inst (s := St s h tk) S.F G.X I.at' K.get K2.find K2.fn (get_none hn) k
end
end
section
noncomputable abbrev Po (A : Around) (w : World) (env : Env) (E : Value → Shared → Prop) : Prop := PassesOwn (model pg w) A env E
theorem po_no {A : Around} {w : World} {env : Env} : Po A w env (fun _ _ => False) := fun _ _ h => h.elim

noncomputable abbrev Shp := List (Option Value) → List (Addr × Obj) → List Fact → Prop
section
variable {w : World} {mg mb : Str → Option Value} {B : Heap} {A : Around} {E : Value → Shared → Prop} {s : Shared} {env : Env} {L D C x dx : Addr} {h : Heap} {tk : Nat} {ns : List (Str × NameKind)} {vs vs' : List (Option Value)} {news news' : List (Addr × Obj)} {fs : List Fact}
inductive Std (s : Shared) (B : Heap) (L : Addr) (ns : List (Str × NameKind)) (J : Shp) : Shared → Prop
  | mk {h : Heap} {tk : Nat} {vs : List (Option Value)} {news : List (Addr × Obj)} {fs : List Fact} : Sx B L h ns vs news fs → J vs news fs → Std s B L ns J (St s h tk)
inductive StdP (s : Shared) (B : Heap) (L : Addr) (ns : List (Str × NameKind)) (p : Addr × Obj) (J : Shp) : Shared → Prop
  | mk {h : Heap} {tk : Nat} {vs : List (Option Value)} {news : List (Addr × Obj)} {fs : List Fact} : Sx B L h ns vs (p :: news) fs → J vs news fs → StdP s B L ns p J (St s h tk)
noncomputable def Lp (s : Shared) (B : Heap) (L : Addr) (ns : List (Str × NameKind)) (J : Nat → Shp) (Q : Flow → Shared → Prop) (n : Nat) : Flow → Shared → Prop
  | .brk, s' => Q .next s'
  | .ret v, s' => Q (.ret v) s'
  | _, s' => ∃ m, m < n ∧ Std s B L ns (J m) s'
theorem lp_next {J : Nat → Shp} {Q : Flow → Shared → Prop} {n m : Nat} (hm : m < n) (S : Sx B L h ns vs news fs) (hJ : J m vs news fs) : Lp s B L ns J Q n .next (St s h tk) := ⟨m, hm, S, hJ⟩
theorem lp_ret {J : Nat → Shp} {Q : Flow → Shared → Prop} {n : Nat} {v : Value} {s' : Shared} (k : Q (.ret v) s') : Lp s B L ns J Q n (.ret v) s' := k
theorem lp_brk {J : Nat → Shp} {Q : Flow → Shared → Prop} {n : Nat} {s' : Shared} (k : Q .next s') : Lp s B L ns J Q n .brk s' := k

theorem x_while {test : Expr} {body : List Stmt} {pos : Pos} {Q : Flow → Shared → Prop} (J : Nat → Shp) (n₀ : Nat) (S : Sx B L h ns vs news fs) (h0 : J n₀ vs news fs) (hE : Po A w env E)
    (turn : ∀ n vs news fs h tk, J n vs news fs → Sx B L h ns vs news fs → wpAny (model pg w) A (isTrue test env (eval test env)) (fun b s₂ =>
      if b = true then wpAny (model pg w) A (execs body env) (Lp s B L ns J Q n) E s₂ else Q .next s₂) E (St s h tk)) :
    wpAny (model pg w) A (exec (.While test body [] pos) env) Q E (St s h tk) := by
  refine wpAny_While (codeAny_whileLoop (fun n s' => Std s B L ns (J n) s') ?_ n₀ ⟨S, h0⟩)
  intro n s' W
  cases W with | @mk h tk vs news fs S hJ => ?_
  refine wpAny_mono (turn n vs news fs h tk hJ S) (fun b s₂ h₂ => ?_) hE
  cases b with
  | false => exact wpAny_execs_nil h₂
  | true =>
    refine wpAny_mono (show wpAny (model pg w) A (execs body env) (Lp s B L ns J Q n) E s₂ from h₂) (fun f s₃ q => ?_) hE
    cases f <;> exact q

noncomputable def Lf (s : Shared) (B : Heap) (L : Addr) (ns : List (Str × NameKind)) (p : Addr × Obj) (J : Shp) (Q : Flow → Shared → Prop) : Flow → Shared → Prop
  | .brk, s' => Q .next s'
  | .ret v, s' => Q (.ret v) s'
  | _, s' => StdP s B L ns p J s'
theorem lf_next {J : Shp} {Q : Flow → Shared → Prop} {p : Addr × Obj} (S : Sx B L h ns vs (p :: news) fs) (hJ : J vs news fs) : Lf s B L ns p J Q .next (St s h tk) := ⟨S, hJ⟩
theorem lf_ret {J : Shp} {Q : Flow → Shared → Prop} {p : Addr × Obj} {v : Value} {s' : Shared} (k : Q (.ret v) s') : Lf s B L ns p J Q (.ret v) s' := k
theorem Sx.turn {h' : Heap} {p : Addr × Obj} {o : Obj} (S : Sx B L h ns vs (p :: news) fs) (k : ∀ b x, b ≠ p.1 → h.get? b = some x → h'.get? b = some x) (hp : ¬ Tup p.2) (ho : h'.get? p.1 = some o) : Sx B L h' ns vs ((p.1, o) :: news) fs := by
  have P := S.N p (.head _)
  refine x3_2 (S.F.ns) fun oL a1 a2 hL a3 => ?_
  refine x0_2 (List.nodup_cons.mp S.nd) fun n1 n2 => ?_
  have nB : ∀ b x, B.get? b = some x → b ≠ p.1 := fun b x e q => by rw [q, P.2.2] at e; cases e
  refine ⟨⟨⟨oL, a1, a2, k _ _ (Ne.symm P.2.1) hL, a3⟩, fun b x e => k _ _ (nB b x e) (S.F.keep b x e), S.F.above⟩, fun q hq => ?_, S.nd, fun f hf => f.keeps _ _ (fun b x e t => k b x (fun q => ?_) e) (S.ft f hf)⟩
  · rcases List.mem_cons.mp hq with rfl | hq
    · exact ⟨ho, P.2.1, P.2.2⟩
    · have Q := S.N q (.tail _ hq)
      exact ⟨k _ _ (fun z => n1 (List.mem_map.mpr ⟨q, hq, z⟩)) Q.1, Q.2⟩
  · rw [q, P.1] at e
    cases e
    exact hp t
theorem Sx.tail {p : Addr × Obj} (S : Sx B L h ns vs (p :: news) fs) : Sx B L h ns vs news fs := S.drop (List.sublist_cons_self _ _)
noncomputable def LsIn (B : Heap) (news : List (Addr × Obj)) (l : Addr) (items : List Value) : Prop := (∃ n, (l, listOf items.toArray n) ∈ news) ∨ B.IsList l items.toArray
theorem LsIn.at' {l : Addr} {items : List Value} (x : LsIn B news l items) {p : Addr × Obj} (S : Sx B L h ns vs (p :: news) fs) : h.IsList l items.toArray ∧ l ≠ p.1 := by
  have P := S.N p (.head _)
  rcases x with ⟨n, m⟩ | ⟨o, e, r⟩
  · exact ⟨⟨_, (S.N _ (.tail _ m)).1, rfl, n, rfl⟩, fun q => (List.nodup_cons.mp S.nd).1 (List.mem_map.mpr ⟨_, m, q⟩)⟩
  · exact ⟨⟨o, S.F.keep _ _ e, r⟩, fun q => by rw [q, P.2.2] at e; cases e⟩
theorem LsIn.at0 {l : Addr} {items : List Value} (x : LsIn B news l items) (S : Sx B L h ns vs news fs) : h.IsList l items.toArray := by
  rcases x with ⟨n, m⟩ | ⟨o, e, r⟩
  · exact ⟨_, (S.N _ m).1, rfl, n, rfl⟩
  · exact ⟨o, S.F.keep _ _ e, r⟩

theorem x_assignN {x : Str} {px : Pos} {v : Value} {Q : Unit → Shared → Prop} (V : Ev env ns L) (S : Sx B L h ns vs news fs) (l : Sto ns vs x v vs') (k : ∀ h' tk', Sx B L h' ns vs' news fs → Q () (St s h' tk')) :
    wpAny (model pg w) A (assign (.Name x px) env v) Q E (St s h tk) := wpAny_assign_Name (x_sto V S l k)

theorem Sx.headless {h' : Heap} {p : Addr × Obj} (S : Sx B L h ns vs (p :: news) fs) (k : ∀ b x, b ≠ p.1 → h.get? b = some x → h'.get? b = some x) (hp : ¬ Tup p.2) : Sx B L h' ns vs news fs := by
  have P := S.N p (.head _)
  refine x3_2 (S.F.ns) fun oL a1 a2 hL a3 => ?_
  refine x0_2 (List.nodup_cons.mp S.nd) fun n1 n2 => ?_
  have nB : ∀ b x, B.get? b = some x → b ≠ p.1 := fun b x e q => by rw [q, P.2.2] at e; cases e
  refine ⟨⟨⟨oL, a1, a2, k _ _ (Ne.symm P.2.1) hL, a3⟩, fun b x e => k _ _ (nB b x e) (S.F.keep b x e), S.F.above⟩, fun q hq => ?_, n2, fun f hf => f.keeps _ _ (fun b x e t => k b x (fun q => ?_) e) (S.ft f hf)⟩
  · have Q := S.N q (.tail _ hq)
    exact ⟨k _ _ (fun z => n1 (List.mem_map.mpr ⟨q, hq, z⟩)) Q.1, Q.2⟩
  · rw [q, P.1] at e
    cases e
    exact hp t

inductive WkI (s : Shared) (B : Heap) (L : Addr) (ns : List (Str × NameKind)) (I : Addr) (n : Nat) (J : Nat → Shp) (It : Nat → Obj → Prop) : Nat → Shared → Prop
  | mk {i : Nat} {h : Heap} {tk : Nat} {vs : List (Option Value)} {news : List (Addr × Obj)} {fs : List Fact} {o : Obj} : i ≤ n → J i vs news fs → Sx B L h ns vs ((I, o) :: news) fs → It i o → WkI s B L ns I n J It (n + 1 - i) (St s h tk)
theorem x_walkA {target : Expr} {body : List Stmt} {Q : Flow → Shared → Prop} {I : Addr} {o₀ : Obj} {n : Nat} {P : Nat → Value → Prop} {It : Nat → Obj → Prop} {Ok : Heap → Prop} (J : Nat → Shp) (nt : ∀ i o, It i o → ¬ Tup o) (hgo : ∀ v, letOwnedTupleGo target (.ref I) v = pure ())
    (item : ∀ i o (s : Shared) (Q : Option Value → Shared → Prop) (E : Value → Shared → Prop), i < n → s.heap.get? I = some o → It i o → Ok s.heap →
      (∀ v h' o' tk, P i v → h'.get? I = some o' → It (i + 1) o' → (∀ b x, b ≠ I → s.heap.get? b = some x → h'.get? b = some x) → Q (some v) { s with heap := h', toks := tk }) → wpAny (model pg w) A (pyNext (.ref I)) Q E s)
    (fin : ∀ o (s : Shared) (Q : Option Value → Shared → Prop) (E : Value → Shared → Prop), s.heap.get? I = some o → It n o → Ok s.heap →
      (∀ h' tk, (∀ b x, b ≠ I → s.heap.get? b = some x → h'.get? b = some x) → Q none { s with heap := h', toks := tk }) → wpAny (model pg w) A (pyNext (.ref I)) Q E s)
    (ok : ∀ i vs news fs h p, J i vs news fs → Sx B L h ns vs (p :: news) fs → p.1 = I → Ok h)
    (S : Sx B L h ns vs ((I, o₀) :: news) fs) (hI : It 0 o₀) (h0 : J 0 vs news fs) (hE : Po A w env E)
    (turn : ∀ i vs news fs v h tk p, i < n → P i v → J i vs news fs → Sx B L h ns vs (p :: news) fs → wpAny (model pg w) A (assign target env v) (fun _ s₂ => wpAny (model pg w) A (execs body env) (Lf s B L ns p (J (i + 1)) Q) E s₂) E (St s h tk))
    (done : ∀ vs news fs h tk, J n vs news fs → Sx B L h ns vs news fs → Q .next (St s h tk)) :
    codeAny (model pg w) A (.forLoop target (.ref I) body [] env) (fun r s' => match r with | .ok f => Q f s' | .error e => cameBackBy (model pg w) A env E e s') (St s h tk) := by
  refine codeAny_forLoop (ht := hgo) (WkI s B L ns I n J It) ?_ (n + 1) (.mk (i := 0) (Nat.zero_le _) h0 S hI)
  intro k s' W
  cases W with | @mk i h tk vs news fs o hi hJ S hI => ?_
  have P0 := S.N _ (.head _)
  have hOk := ok _ _ _ _ _ _ hJ S rfl
  by_cases hlt : i < n
  · refine item i o (St s h tk) _ _ hlt P0.1 hI hOk fun v h₁ o₁ tk₁ hP ho₁ hI₁ hk₁ => ?_
    have S₁ := S.turn hk₁ (nt _ _ hI) ho₁
    refine wpAny_mono (turn i vs news fs v h₁ tk₁ _ hlt hP hJ S₁) (fun _ s₂ q₂ => wpAny_mono q₂ (fun f s₃ q => ?_) hE) hE
    have go : StdP s B L ns (I, o₁) (J (i + 1)) s₃ → ∃ m, m < n + 1 - i ∧ WkI s B L ns I n J It m s₃ := fun q => StdP.casesOn (motive := fun s₃ _ => ∃ m, m < n + 1 - i ∧ WkI s B L ns I n J It m s₃) q fun S₃ hJ₃ => ⟨n + 1 - (i + 1), turn_lt hlt, .mk hlt hJ₃ S₃ hI₁⟩
    cases f with
    | ret v => exact q
    | brk => exact q
    | next => exact go q
    | cont => exact go q
  · have : i = n := Nat.le_antisymm hi (Nat.le_of_not_lt hlt)
    subst this
    refine fin o (St s h tk) _ _ P0.1 hI hOk fun h₁ tk₁ hk₁ => wpAny_execs_nil ?_
    exact done vs news fs h₁ tk₁ hJ (S.headless hk₁ (nt _ _ hI))
theorem x_walk {x : Str} {px : Pos} {body : List Stmt} {Q : Flow → Shared → Prop} {I : Addr} {o₀ : Obj} {n : Nat} {P : Nat → Value → Prop} {It : Nat → Obj → Prop} {Ok : Heap → Prop} (J : Nat → Shp) (V : Ev env ns L) (nt : ∀ i o, It i o → ¬ Tup o)
    (item : ∀ i o (s : Shared) (Q : Option Value → Shared → Prop) (E : Value → Shared → Prop), i < n → s.heap.get? I = some o → It i o → Ok s.heap →
      (∀ v h' o' tk, P i v → h'.get? I = some o' → It (i + 1) o' → (∀ b x, b ≠ I → s.heap.get? b = some x → h'.get? b = some x) → Q (some v) { s with heap := h', toks := tk }) → wpAny (model pg w) A (pyNext (.ref I)) Q E s)
    (fin : ∀ o (s : Shared) (Q : Option Value → Shared → Prop) (E : Value → Shared → Prop), s.heap.get? I = some o → It n o → Ok s.heap →
      (∀ h' tk, (∀ b x, b ≠ I → s.heap.get? b = some x → h'.get? b = some x) → Q none { s with heap := h', toks := tk }) → wpAny (model pg w) A (pyNext (.ref I)) Q E s)
    (ok : ∀ i vs news fs h p, J i vs news fs → Sx B L h ns vs (p :: news) fs → p.1 = I → Ok h)
    (S : Sx B L h ns vs ((I, o₀) :: news) fs) (hI : It 0 o₀) (h0 : J 0 vs news fs) (hE : Po A w env E)
    (turn : ∀ i vs news fs v, i < n → P i v → J i vs news fs → ∃ vs', Sto ns vs x v vs' ∧ ∀ h tk p, Sx B L h ns vs' (p :: news) fs → wpAny (model pg w) A (execs body env) (Lf s B L ns p (J (i + 1)) Q) E (St s h tk))
    (done : ∀ vs news fs h tk, J n vs news fs → Sx B L h ns vs news fs → Q .next (St s h tk)) :
    codeAny (model pg w) A (.forLoop (.Name x px) (.ref I) body [] env) (fun r s' => match r with | .ok f => Q f s' | .error e => cameBackBy (model pg w) A env E e s') (St s h tk) := by
  refine x_walkA J nt (fun _ => rfl) item fin ok S hI h0 hE (fun i vs news fs v h tk p hlt hP hJ S₁ => ?_) done
  obtain ⟨vs', l, body'⟩ := turn i vs news fs v hlt hP hJ
  exact x_assignN (s := s) (h := h) (tk := tk) V S₁ l fun h₂ tk₂ S₂ => body' h₂ tk₂ _ S₂

theorem x_for_list {x : Str} {px : Pos} {body : List Stmt} {Q : Flow → Shared → Prop} {l : Addr} {items : List Value} (J : Nat → Shp) (V : Ev env ns L) (hh : A.handled = none) (S : Sx B L h ns vs news fs) (h0 : J 0 vs news fs) (hE : Po A w env E)
    (hl : ∀ i vs news fs, J i vs news fs → LsIn B news l items)
    (turn : ∀ i vs news fs v, items[i]? = some v → J i vs news fs → ∃ vs', Sto ns vs x v vs' ∧ ∀ h tk p, Sx B L h ns vs' (p :: news) fs → wpAny (model pg w) A (execs body env) (Lf s B L ns p (J (i + 1)) Q) E (St s h tk))
    (done : ∀ vs news fs h tk, J items.length vs news fs → Sx B L h ns vs news fs → Q .next (St s h tk)) :
    wpAny (model pg w) A (pyIter (.ref l)) (fun it s₂ => codeAny (model pg w) A (.forLoop (.Name x px) it body [] env) (fun r s' => match r with | .ok f => Q f s' | .error e => cameBackBy (model pg w) A env E e s') s₂) E (St s h tk) := by
  have hl0 := (hl _ _ _ _ h0).at0 S
  refine wpAny_pyIter_list (s := St s h tk) hl0 ?_
  have S1 := S.push (a := h.objs.size) (o := { cls := .type "list_iterator", data := .fields #[.ref l, .int 0 0] }) (S.F.push _) (News.push S.F (S.all []) _ rfl) S.none_size
  refine x_walk (s := s) (It := fun i o => o.cls = .type "list_iterator" ∧ o.data = .fields #[.ref l, .int i 0]) (P := fun i v => items[i]? = some v) (n := items.length) (Ok := fun h' => h'.IsList l items.toArray ∧ l ≠ h.objs.size) J V ?_ ?_ ?_ ?_ S1 ⟨rfl, rfl⟩ h0 hE (fun i vs news fs v _ hv hJ => turn i vs news fs v hv hJ) done
  · rintro i o ⟨_, hd⟩
    exact ntup_int hd rfl
  · rintro i o s Q E hi ho ⟨hc, hd⟩ ⟨hL, hne⟩ hQ
    have hx : items.toArray[i]? = some items[i] := by simp [hi]
    refine wpAny_pyNext_list_item ⟨o, ho, hc, hd⟩ hL hx fun h' hit' hs' => ?_
    refine x1_3 hit' ?_; (try clear hit'); intro o' ho' hc' hd'
    exact hQ _ h' o' s.toks (by simp [hi]) ho' ⟨hc', hd'⟩ fun b x hb e => hs'.extBut b x hb e
  · rintro o s Q E ho ⟨hc, hd⟩ ⟨hL, hne⟩ hQ
    exact wpAny_pyNext_list_end hh ⟨o, ho, hc, hd⟩ hL (by simp) fun h' he' => hQ h' s.toks fun b x hb e => he' b x hb e
  · intro i vs news fs h' p hJ S' hp
    refine x0_2 ((hl _ _ _ _ hJ).at' S') fun a b => ?_
    exact ⟨a, by rw [← hp]; exact b⟩
noncomputable abbrev rangeO (n : Int) (t u v : Tok) : Obj := { cls := .type "range", data := .fields #[.int 0 t, .int n u, .int 1 v] }
theorem o_range {n : Int} {u : Tok} {Q : Value → Shared → Prop} (S : Sx B L h ns vs news fs) (k : ∀ r t v h' tk', Sx B L h' ns vs ((r, rangeO n t u v) :: news) fs → Q (.ref r) (St s h' tk')) : wpAny (model pg w) A (call (.type "range") [.int n u]) Q E (St s h tk) :=
  call_range_1 (s := St s h tk) (k _ _ _ _ _ (S.push (S.F.push _) (News.push S.F (S.all []) _ rfl) S.none_size))
theorem x_for_range {x : Str} {px : Pos} {body : List Stmt} {Q : Flow → Shared → Prop} {r : Addr} {n : Nat} {t u v : Tok} (J : Nat → Shp) (V : Ev env ns L) (hh : A.handled = none) (S : Sx B L h ns vs news fs) (m : Inn (r, rangeO n t u v) news) (hn : n < 2 ^ 62) (h0 : J 0 vs news fs) (hE : Po A w env E)
    (turn : ∀ i vs news fs t, i < n → J i vs news fs → ∃ vs', Sto ns vs x (.int i t) vs' ∧ ∀ h tk p, Sx B L h ns vs' (p :: news) fs → wpAny (model pg w) A (execs body env) (Lf s B L ns p (J (i + 1)) Q) E (St s h tk))
    (done : ∀ vs news fs h tk, J n vs news fs → Sx B L h ns vs news fs → Q .next (St s h tk)) :
    wpAny (model pg w) A (pyIter (.ref r)) (fun it s₂ => codeAny (model pg w) A (.forLoop (.Name x px) it body [] env) (fun r s' => match r with | .ok f => Q f s' | .error e => cameBackBy (model pg w) A env E e s') s₂) E (St s h tk) := by
  have hr : IsRange (St s h tk).heap r 0 n 1 t u v := (S.N _ m.mem).1
  refine wpAny_pyIter_range (s := St s h tk) hr (small_one (by decide) (by decide) (by omega) (by exact lin1 [n] [] (.nlt (.V 0) (.W 2 62)) (.ilt (.C (.V 0)) (.W 2 62)) [[1, 1]] hn okT)) ?_
  have S1 := S.push (a := h.objs.size) (o := { cls := .type "range_iterator", data := .fields #[rawInt 0, rawInt (Builtin.Range.rangeSize 0 n 1), rawInt 1] }) (S.F.push _) (News.push S.F (S.all []) _ rfl) S.none_size
  have hsz : Builtin.Range.rangeSize 0 (n : Int) 1 = (n : Int) := by rw [rangeSize_one]; split <;> omega
  rw [hsz] at S1 ⊢
  have W := LCg.range_walks (prog := pg) (w := w) (A := A) (I := h.objs.size) hh 0 n
  refine x_walk (s := s) (n := n) (It := fun i o => o = { cls := .type "range_iterator", data := .fields #[rawInt (0 + (i : Nat) * 1), rawInt ((n : Int) - (i : Nat)), rawInt 1] }) (P := fun i v => ∃ t, v = .int (0 + (i : Int)) t) (Ok := fun _ => True) J V ?_ ?_ ?_ (fun _ _ _ _ _ _ _ _ _ => trivial) S1 (by simp) h0 hE (fun i vs news fs v hi hv hJ => ?_) done
  · rintro i o rfl
    exact ntup_int rfl rfl
  · rintro i o s Q E hi ho rfl _ hQ
    refine W.item i s Q E hi ho fun v h' tk hP hI hk => ?_
    exact hQ v h' _ tk hP hI rfl fun b x hb e => hk b x (by simp [hb]) e
  · rintro o s Q E ho rfl _ hQ
    exact W.done s Q E ho fun h' tk hk => hQ h' tk fun b x hb e => hk b x (by simp [hb]) e
  · refine x1_1 hv ?_; (try clear hv); intro t zq1; subst zq1
    rw [Int.zero_add]
    exact turn i vs news fs t hi hJ
theorem x_for {target iter : Expr} {body : List Stmt} {pos : Pos} {Q : Flow → Shared → Prop} {s : Shared} (hs : ∀ x, foldedSetIterable iter env x = pure x)
    (h : wpAny (model pg w) A (eval iter env) (fun x s₁ => wpAny (model pg w) A (pyIter x) (fun it s₂ =>
      codeAny (model pg w) A (.forLoop target it body [] env) (fun r s' => match r with | .ok f => Q f s' | .error e => cameBackBy (model pg w) A env E e s') s₂) E s₁) E s) :
    wpAny (model pg w) A (exec (.For target iter body [] pos) env) Q E s := wpAny_For h hs
end
end
section
theorem assignEach_len {env : Env} (es : List Expr) : (assignEach es env).length = es.length := by
  induction es with
  | nil => rfl
  | cons e es ih => cases e <;> exact congrArg Nat.succ ih
section
variable {w : World} {mg mb : Str → Option Value} {B : Heap} {A : Around} {E : Value → Shared → Prop} {s : Shared} {env : Env} {L D C x dx : Addr} {h : Heap} {tk : Nat} {ns : List (Str × NameKind)} {vs vs' : List (Option Value)} {news news' : List (Addr × Obj)} {fs : List Fact}
theorem x_asgtup {es : List Expr} {kk : Nat} {tp pos : Pos} {value : Expr} {Q : Flow → Shared → Prop} {s : Shared} (hs : swapsWithSole [.Tuple es kk tp] value pos.line env = pure false) (hw : swappedStores [.Tuple es kk tp] value env = pure none)
    (k : wpAny (model pg w) A (eval value env) (fun v s₁ => wpAny (model pg w) A (assign (.Tuple es kk tp) env v) (fun _ => Q .next) E s₁) E s) : wpAny (model pg w) A (exec (.Assign [.Tuple es kk tp] value pos) env) Q E s := PyProof.Rows.Assign_Tuple k hs hw

noncomputable def SwEnd (w : World) (A : Around) (env : Env) (x y : Str) (Q : Flow → Shared → Prop) (E : Value → Shared → Prop) (v1 v2 : Value) (s : Shared) : Prop :=
  wpAny (model pg w) A (newTuple [v1, v2]) (fun v s₁ => wpAny (model pg w) A (unpackItems v 2 none) (fun items s₂ => wpAny (model pg w) A (assignInOrder [bindName env y, bindName env x] items.reverse) (fun _ => Q .next) E s₂) E s₁) E s
theorem sw_end {x y : Str} {v1 v2 : Value} {vs1 vs2 : List (Option Value)} {Q : Flow → Shared → Prop} (V : Ev env ns L) (hh : A.handled = none) (S : Sx B L h ns vs news fs) (l1 : Sto ns vs y v2 vs1) (l2 : Sto ns vs1 x v1 vs2) (k : ∀ h' tk', Sx B L h' ns vs2 news fs → Q .next (St s h' tk')) :
    SwEnd w A env x y Q E v1 v2 (St s h tk) := by
  refine n_tuple S (Nat.le_of_ble_eq_true rfl) fun a h₁ tk₁ S₁ hn => ?_
  refine unpackItems_tuple (s := St s h₁ tk₁) (items := #[v1, v2]) hh (S₁.inF .z) fun h₂ he => ?_
  have S₂ := (S₁.call fun b o e => he b o (Nat.ne_of_lt (Heap.lt_size e)) e).facts (fs' := fs) fun f hf => .tail _ hf
  show wpAny _ _ (do holding [v1] (bindName env y v2); holding [] (bindName env x v1); pure ()) _ _ (St s h₂ tk₁)
  refine wpAny_bind (wpAny_holding (bindName_ (x_sto V S₂ l1 fun h₃ tk₃ S₃ => ?_)))
  exact wpAny_bind (wpAny_holding (bindName_ (x_sto V S₃ l2 fun h₄ tk₄ S₄ => wpAny_pure (k _ _ S₄))))
theorem x_swap {x y : Str} {p1 p2 tp tp2 pos : Pos} {kk k2 : Nat} {e1 e2 : Expr} {Q : Flow → Shared → Prop} {s : Shared} (V : Ev env ns L) (l1 : ns.lookup x = some .local) (l2 : ns.lookup y = some .local) (hxy : x ≠ y) (hp : p1.line = p2.line)
    (h1 : noStar [e1, e2] = true) (hst : ([e1, e2].any fun | .Starred .. => true | _ => false) = false) (h2 : [e1, e2].all (foldedForSure 8) = false) (h3 : [e1, e2].all (constantsAlone 8) = false)
    (k : wpAny (model pg w) A (eval e1 env) (fun v1 s₁ => wpAny (model pg w) A (eval e2 env) (fun v2 s₂ => SwEnd w A env x y Q E v1 v2 s₂) E s₁) E s) :
    wpAny (model pg w) A (exec (.Assign [.Tuple [.Name x p1, .Name y p2] kk tp] (.Tuple [e1, e2] k2 tp2) pos) env) Q E s := by
  have hw : swappedStores [.Tuple [.Name x p1, .Name y p2] kk tp] (.Tuple [e1, e2] k2 tp2) env = pure (some [x, y]) := by
    obtain ⟨rfl, W, rfl, hg, hbu⟩ := V
    have hb : env.blockKind = .function := by
      unfold Env.blockKind
      rw [W.kd]; rfl
    have kx : env.kindOf x = some .local := l1
    have ky : env.kindOf y = some .local := l2
    have ed : [x, y].eraseDups.length = 2 := by
      have : (y == x) = false := beq_eq_false_iff_ne.mpr (Ne.symm hxy)
      simp [List.eraseDups_cons, this]
    have hn : ([Expr.Name x p1, .Name y p2].filterMap fun | .Name id pos => if env.kindOf id == some .local && pos.line == p1.line then some id else none | _ => none) = [x, y] := by
      simp only [List.filterMap_cons, List.filterMap_nil, kx, ky, hp, beq_self_eq_true, Bool.and_self, if_true]
    unfold swappedStores
    refine Eq.trans (b := ite _ _ _) rfl ((if_neg (by rw [hb]; exact Bool.false_ne_true)).trans ?_)
    refine Eq.trans (b := ite _ _ _) rfl ((if_neg fun q => Bool.false_ne_true (hst.symm.trans q)).trans ?_)
    refine Eq.trans (b := ite _ _ _) rfl ((if_neg fun q => ?_).trans ?_)
    · have q : ((([Expr.Name x p1, .Name y p2].filterMap fun | .Name id pos => if env.kindOf id == some .local && pos.line == p1.line then some id else none | _ => none)).length != 2 || (([Expr.Name x p1, .Name y p2].filterMap fun | .Name id pos => if env.kindOf id == some .local && pos.line == p1.line then some id else none | _ => none)).eraseDups.length != (([Expr.Name x p1, .Name y p2].filterMap fun | .Name id pos => if env.kindOf id == some .local && pos.line == p1.line then some id else none | _ => none)).length) = true := q
      rw [hn, ed] at q
      exact Bool.false_ne_true q
    refine Eq.trans (b := ite _ _ _) rfl ((if_neg (by rw [h2]; exact Bool.false_ne_true)).trans ?_)
    refine Eq.trans (b := ite _ _ _) rfl ((if_neg (by rw [h3]; exact Bool.false_ne_true)).trans ?_)
    exact congrArg (fun z => (pure (some z) : Sem _)) hn
  refine PyProof.Rows.Assign_Tuple_swapped (names := [x, y]) ?_ rfl hw
  refine e_tuple h1 ?_
  exact wpAny_mono k (fun v1 s₁ k₁ => wpAny_mono k₁ (fun v2 s₂ k₂ => k₂) fun _ _ x => x) fun _ _ x => x
end
noncomputable def Iq (Q : Value → Shared → Prop) (x : Addr) (f : Flow) (s : Shared) : Prop := retv f = .none ∧ Q (.ref x) s
theorem iq_next {Q : Value → Shared → Prop} {x : Addr} {s : Shared} (k : Q (.ref x) s) : Iq Q x .next s := ⟨rfl, k⟩
structure Mk (w : World) (C fI : Addr) : Prop where
  makes : makesIn (Mine.hd.heap_1 w.params) C = true
  init : findIn (Mine.hd.heap_1 w.params) (.ref C) "__init__" = some (some (.ref fI))
  fn : isFn (Mine.hd.heap_1 w.params) (.ref fI) = true

theorem makeI {w : World} {A : Around} {mg mb : Str → Option Value} {g h : Heap} {s : Shared} {tk : Nat} {Q E : Value → Shared → Prop} {name qual : Str} {params : Arguments} {body : List Stmt} {scope : Scope} {dV kV doc pm cdv ct oc : Value} {an od : Option Addr} {osl : Array (Option Value)} {C fI : Addr} {args : List Value}
    (vs : Value → List (Option Value)) (binds : Value → List (Str × Value))
    (G : Gl w mg mb g) (hk : g.StaysIn h) (K : Mk w C fI)
    (ho : (Mine.hd.heap_1 w.params).lookup fI = some ⟨oc, od, .func (fnOf name qual params body scope dV kV doc pm an cdv ct), osl⟩)
    (hcd : codeIn (Mine.hd.heap_1 w.params) cdv qual = true) (W : wfS scope = true) (hroom : A.depth + 1 < recursionLimit)
    (hbind : ∀ x h, (∀ b o, g.get? b = some o → h.get? b = some o) → BindsTo (St s h tk) (fnOf name qual params body scope dV kV doc pm an cdv ct) ⟨.ref x :: args, []⟩ (binds (.ref x))) (hb : ∀ x, Bnd scope.names (binds x) (vs x))
    (hcell : noCell scope = true)
    (k : ∀ B h₁ L tk' env A' x dx, Ev env scope.names L → Gl w mg mb B → Sx B L h₁ scope.names (vs (.ref x)) [(x, instObj C dx), (dx, dictOf [] 0)] [] → h.StaysIn B → h.get? x = none → h.get? dx = none → A'.depth = A.depth + 2 → A'.handled = A.handled →
      wpAny (model pg w) A' (execs body env) (Iq Q x) (fun _ _ => False) (St s h₁ tk'))
    (hco : scope.isCoroutine = false) (hgen : scope.isGenerator = false) :
    wpAny (model pg w) A (call (.ref C) args) Q E (St s h tk) := by
  obtain ⟨hp, hp2⟩ : ∃ p, p = h.push (dictOf [] 0) ∧ True := ⟨_, rfl, trivial⟩
  refine wpAny_call ?_
  refine make_core (makes_of (G.X.keeps hk) K.makes) (looks_findIn (G.X.keeps hk) K.init) (fun self => bind_fn (G.X.keeps hk) self (beq_iff_eq.mp K.fn)) (.inl rfl) ?_
  have hs1 : h.StaysIn ((h.push (dictOf [] 0)).push (instObj C h.objs.size)) := fun b o e => Heap.get?_push_of_some _ (Heap.get?_push_of_some _ e)
  have hx : ((h.push (dictOf [] 0)).push (instObj C h.objs.size)).get? (h.objs.size + 1) = some (instObj C h.objs.size) := by
    have := Heap.get?_push_size (h.push (dictOf [] 0)) (o := instObj C h.objs.size) rfl
    rwa [Heap.size_push] at this
  have hdx : ((h.push (dictOf [] 0)).push (instObj C h.objs.size)).get? h.objs.size = some (dictOf [] 0) := Heap.get?_push_of_some _ (Heap.get?_push_size _ rfl)
  have nn : ∀ a, h.objs.size ≤ a → h.get? a = none := fun a ha => by
    cases q : h.get? a with
    | none => rfl
    | some o => exact absurd (Heap.lt_size q) (Nat.not_lt.mpr ha)
  have ng : ∀ a, h.get? a = none → g.get? a = none := fun a ha => by
    cases q : g.get? a with
    | none => rfl
    | some o => rw [hk _ _ q] at ha; cases ha
  have hw : (A.under (.builtin "type.__call__" ⟨.ref C :: args, []⟩)).depth = A.depth + 1 := depth_under_make ..
  refine enter (s := St s ((h.push (dictOf [] 0)).push (instObj C h.objs.size)) tk) [(h.objs.size + 1, instObj C h.objs.size), (h.objs.size, dictOf [] 0)] G (fun b o e => hs1 b o (hk b o e)) ho hcd (wf_of W) (by rw [hw]; exact hroom) (hbind _ _ fun b o e => hs1 b o (hk b o e)) (hb _) ?_ (fun B h₁ L tk' W' G' F' N' hB hB' hL => ?_) hcell hco hgen
  · intro p hp
    rcases List.mem_cons.mp hp with rfl | hp
    · exact ⟨hx, ng _ (nn _ (Nat.le_succ _))⟩
    · rw [List.mem_singleton.mp hp]
      exact ⟨hdx, ng _ (nn _ (Nat.le_refl _))⟩
  · refine wpAny_mono (k B h₁ L tk' _ _ _ _ ⟨rfl, W', rfl, rfl, rfl⟩ G' ⟨F', N', ?_, fun f hf => nomatch hf⟩ (fun a o e => hB a o (hs1 a o e) ?_) (nn _ (Nat.le_succ _)) (nn _ (Nat.le_refl _)) (by show (A.under _).depth + 1 = _; rw [hw]) rfl) (fun fl s' q => ?_) fun _ _ x => x.elim
    · simp
    · have q := Heap.lt_size e
      intro m
      simp only [List.map_cons, List.map_nil, List.mem_cons, List.not_mem_nil, or_false] at m
      rcases m with m | m
      · exact absurd (m ▸ q) (Nat.not_lt.mpr (Nat.le_succ _))
      · exact absurd (m ▸ q) (Nat.lt_irrefl _)
    · exact ⟨q.1, q.2⟩
end
section
set_option maxRecDepth 100000
theorem nm_SnobolError (w : World) : nsIn (Mine.hd.heap_1 w.params) mainGlobals (Str.ofString "SnobolError") = some (some (.ref 34)) := by kernel_rfl
theorem nm_Pattern (w : World) : nsIn (Mine.hd.heap_1 w.params) mainGlobals (Str.ofString "Pattern") = some (some (.ref 68)) := by kernel_rfl
theorem nm_Delayed (w : World) : nsIn (Mine.hd.heap_1 w.params) mainGlobals (Str.ofString "Delayed") = some (some (.ref 89)) := by kernel_rfl
theorem nm_NameRef (w : World) : nsIn (Mine.hd.heap_1 w.params) mainGlobals (Str.ofString "NameRef") = some (some (.ref 110)) := by kernel_rfl
theorem nm_is_null (w : World) : nsIn (Mine.hd.heap_1 w.params) mainGlobals (Str.ofString "is_null") = some (some (.ref 128)) := by kernel_rfl
theorem nm_is_plain (w : World) : nsIn (Mine.hd.heap_1 w.params) mainGlobals (Str.ofString "is_plain") = some (some (.ref 135)) := by kernel_rfl
theorem nm_COUNTED (w : World) : nsIn (Mine.hd.heap_1 w.params) mainGlobals (Str.ofString "COUNTED") = some (some (.ref 178)) := by kernel_rfl
theorem nm_SIGNED (w : World) : nsIn (Mine.hd.heap_1 w.params) mainGlobals (Str.ofString "SIGNED") = some (some (.ref 179)) := by kernel_rfl
theorem nm_NULL_NODE (w : World) : nsIn (Mine.hd.heap_1 w.params) mainGlobals (Str.ofString "NULL_NODE") = some (some (.ref 180)) := by kernel_rfl
theorem nm_MOST_PARTS (w : World) : nsIn (Mine.hd.heap_1 w.params) mainGlobals (Str.ofString "MOST_PARTS") = some (some (.int 600 422)) := by kernel_rfl
theorem nm_MOST_DEPTH (w : World) : nsIn (Mine.hd.heap_1 w.params) mainGlobals (Str.ofString "MOST_DEPTH") = some (some (.int 100 424)) := by kernel_rfl
theorem nm_MOST_SIGNS (w : World) : nsIn (Mine.hd.heap_1 w.params) mainGlobals (Str.ofString "MOST_SIGNS") = some (some (.int 20000 426)) := by kernel_rfl
theorem nm_TOO_GREAT (w : World) : nsIn (Mine.hd.heap_1 w.params) mainGlobals (Str.ofString "TOO_GREAT") = some (some (.int 23 428)) := by kernel_rfl
theorem nm_is_null_node (w : World) : nsIn (Mine.hd.heap_1 w.params) mainGlobals (Str.ofString "is_null_node") = some (some (.ref 187)) := by kernel_rfl
theorem nm_arbno_node (w : World) : nsIn (Mine.hd.heap_1 w.params) mainGlobals (Str.ofString "arbno_node") = some (some (.ref 208)) := by kernel_rfl
theorem nm_joined (w : World) : nsIn (Mine.hd.heap_1 w.params) mainGlobals (Str.ofString "joined") = some (some (.ref 215)) := by kernel_rfl
theorem nm_either (w : World) : nsIn (Mine.hd.heap_1 w.params) mainGlobals (Str.ofString "either") = some (some (.ref 222)) := by kernel_rfl
theorem nm_pattern_of (w : World) : nsIn (Mine.hd.heap_1 w.params) mainGlobals (Str.ofString "pattern_of") = some (some (.ref 229)) := by kernel_rfl
theorem nm_is_delayed (w : World) : nsIn (Mine.hd.heap_1 w.params) mainGlobals (Str.ofString "is_delayed") = some (some (.ref 236)) := by kernel_rfl
theorem nm_settled (w : World) : nsIn (Mine.hd.heap_1 w.params) mainGlobals (Str.ofString "settled") = some (some (.ref 243)) := by kernel_rfl
theorem nm_parts_of (w : World) : nsIn (Mine.hd.heap_1 w.params) mainGlobals (Str.ofString "parts_of") = some (some (.ref 250)) := by kernel_rfl
theorem nm_checked_node (w : World) : nsIn (Mine.hd.heap_1 w.params) mainGlobals (Str.ofString "checked_node") = some (some (.ref 257)) := by kernel_rfl
theorem nm_PlainHost (w : World) : nsIn (Mine.hd.heap_1 w.params) mainGlobals (Str.ofString "PlainHost") = some (some (.ref 295)) := by kernel_rfl
theorem nm_World (w : World) : nsIn (Mine.hd.heap_1 w.params) mainGlobals (Str.ofString "World") = some (some (.ref 317)) := by kernel_rfl
theorem nm_is_part (w : World) : nsIn (Mine.hd.heap_1 w.params) mainGlobals (Str.ofString "is_part") = some (some (.ref 335)) := by kernel_rfl
theorem nm_join_values (w : World) : nsIn (Mine.hd.heap_1 w.params) mainGlobals (Str.ofString "join_values") = some (some (.ref 342)) := by kernel_rfl
theorem nm_either_value (w : World) : nsIn (Mine.hd.heap_1 w.params) mainGlobals (Str.ofString "either_value") = some (some (.ref 349)) := by kernel_rfl
theorem nm_ONE (w : World) : nsIn (Mine.hd.heap_1 w.params) mainGlobals (Str.ofString "ONE") = some (some (.str (Str.ofString "one") 680)) := by kernel_rfl
theorem nm_SPLIT (w : World) : nsIn (Mine.hd.heap_1 w.params) mainGlobals (Str.ofString "SPLIT") = some (some (.str (Str.ofString "split") 684)) := by kernel_rfl
theorem nm_JUMP (w : World) : nsIn (Mine.hd.heap_1 w.params) mainGlobals (Str.ofString "JUMP") = some (some (.str (Str.ofString "jump") 686)) := by kernel_rfl
theorem nm_MARK (w : World) : nsIn (Mine.hd.heap_1 w.params) mainGlobals (Str.ofString "MARK") = some (some (.str (Str.ofString "mark") 688)) := by kernel_rfl
theorem nm_NAME (w : World) : nsIn (Mine.hd.heap_1 w.params) mainGlobals (Str.ofString "NAME") = some (some (.str (Str.ofString "name") 690)) := by kernel_rfl
theorem nm_SET (w : World) : nsIn (Mine.hd.heap_1 w.params) mainGlobals (Str.ofString "SET") = some (some (.str (Str.ofString "set") 692)) := by kernel_rfl
theorem nm_GAIN (w : World) : nsIn (Mine.hd.heap_1 w.params) mainGlobals (Str.ofString "GAIN") = some (some (.str (Str.ofString "gain") 694)) := by kernel_rfl
theorem nm_PLACE (w : World) : nsIn (Mine.hd.heap_1 w.params) mainGlobals (Str.ofString "PLACE") = some (some (.str (Str.ofString "place") 696)) := by kernel_rfl
theorem nm_FAIL (w : World) : nsIn (Mine.hd.heap_1 w.params) mainGlobals (Str.ofString "FAIL") = some (some (.str (Str.ofString "fail") 702)) := by kernel_rfl
theorem nm_ABORT (w : World) : nsIn (Mine.hd.heap_1 w.params) mainGlobals (Str.ofString "ABORT") = some (some (.str (Str.ofString "abort") 704)) := by kernel_rfl
theorem nm_DONE (w : World) : nsIn (Mine.hd.heap_1 w.params) mainGlobals (Str.ofString "DONE") = some (some (.str (Str.ofString "done") 708)) := by kernel_rfl
theorem nm_SINGLE (w : World) : nsIn (Mine.hd.heap_1 w.params) mainGlobals (Str.ofString "SINGLE") = some (some (.ref 350)) := by kernel_rfl
theorem nm_ALONE (w : World) : nsIn (Mine.hd.heap_1 w.params) mainGlobals (Str.ofString "ALONE") = some (some (.ref 351)) := by kernel_rfl
theorem nm_row_of (w : World) : nsIn (Mine.hd.heap_1 w.params) mainGlobals (Str.ofString "row_of") = some (some (.ref 358)) := by kernel_rfl
theorem nm_is_plain_text (w : World) : nsIn (Mine.hd.heap_1 w.params) mainGlobals (Str.ofString "is_plain_text") = some (some (.ref 365)) := by kernel_rfl
theorem nm_with_texts_joined (w : World) : nsIn (Mine.hd.heap_1 w.params) mainGlobals (Str.ofString "with_texts_joined") = some (some (.ref 372)) := by kernel_rfl
theorem nm_PatternCode (w : World) : nsIn (Mine.hd.heap_1 w.params) mainGlobals (Str.ofString "PatternCode") = some (some (.ref 417)) := by kernel_rfl
theorem nm_straightened (w : World) : nsIn (Mine.hd.heap_1 w.params) mainGlobals (Str.ofString "straightened") = some (some (.ref 428)) := by kernel_rfl
theorem nm_compile_pattern (w : World) : nsIn (Mine.hd.heap_1 w.params) mainGlobals (Str.ofString "compile_pattern") = some (some (.ref 435)) := by kernel_rfl
theorem nm_chars_end (w : World) : nsIn (Mine.hd.heap_1 w.params) mainGlobals (Str.ofString "chars_end") = some (some (.ref 442)) := by kernel_rfl
theorem nm_len_end (w : World) : nsIn (Mine.hd.heap_1 w.params) mainGlobals (Str.ofString "len_end") = some (some (.ref 449)) := by kernel_rfl
theorem nm_rem_end (w : World) : nsIn (Mine.hd.heap_1 w.params) mainGlobals (Str.ofString "rem_end") = some (some (.ref 484)) := by kernel_rfl
theorem nm_any_at (w : World) : nsIn (Mine.hd.heap_1 w.params) mainGlobals (Str.ofString "any_at") = some (some (.ref 491)) := by kernel_rfl
theorem nm_one_end (w : World) : nsIn (Mine.hd.heap_1 w.params) mainGlobals (Str.ofString "one_end") = some (some (.ref 547)) := by kernel_rfl
theorem nm_plain_end (w : World) : nsIn (Mine.hd.heap_1 w.params) mainGlobals (Str.ofString "plain_end") = some (some (.ref 554)) := by kernel_rfl
theorem nm_MET (w : World) : nsIn (Mine.hd.heap_1 w.params) mainGlobals (Str.ofString "MET") = some (some (.int 0 1015)) := by kernel_rfl
theorem nm_FAILED (w : World) : nsIn (Mine.hd.heap_1 w.params) mainGlobals (Str.ofString "FAILED") = some (some (.int 1 1017)) := by kernel_rfl
theorem nm_OVER (w : World) : nsIn (Mine.hd.heap_1 w.params) mainGlobals (Str.ofString "OVER") = some (some (.int 2 1019)) := by kernel_rfl
theorem nm_Way (w : World) : nsIn (Mine.hd.heap_1 w.params) mainGlobals (Str.ofString "Way") = some (some (.ref 585)) := by kernel_rfl
theorem nm_Match (w : World) : nsIn (Mine.hd.heap_1 w.params) mainGlobals (Str.ofString "Match") = some (some (.ref 662)) := by kernel_rfl
theorem nm_named_rows (w : World) : nsIn (Mine.hd.heap_1 w.params) mainGlobals (Str.ofString "named_rows") = some (some (.ref 673)) := by kernel_rfl
theorem nm_match_orders (w : World) : nsIn (Mine.hd.heap_1 w.params) mainGlobals (Str.ofString "match_orders") = some (some (.ref 680)) := by kernel_rfl
theorem nm_match_compiled (w : World) : nsIn (Mine.hd.heap_1 w.params) mainGlobals (Str.ofString "match_compiled") = some (some (.ref 687)) := by kernel_rfl
theorem nm_make_arbno (w : World) : nsIn (Mine.hd.heap_1 w.params) mainGlobals (Str.ofString "make_arbno") = some (some (.ref 694)) := by kernel_rfl
theorem nm_LOST (w : World) : nsIn (Mine.hd.heap_1 w.params) mainGlobals (Str.ofString "LOST") = some (some (.str (Str.ofString "lost") 1227)) := by kernel_rfl
theorem nm_match_plain (w : World) : nsIn (Mine.hd.heap_1 w.params) mainGlobals (Str.ofString "match_plain") = some (some (.ref 701)) := by kernel_rfl
theorem nm_match_at (w : World) : nsIn (Mine.hd.heap_1 w.params) mainGlobals (Str.ofString "match_at") = some (some (.ref 708)) := by kernel_rfl
theorem nm_tried (w : World) : nsIn (Mine.hd.heap_1 w.params) mainGlobals (Str.ofString "tried") = some (some (.ref 715)) := by kernel_rfl
theorem nm_advanced (w : World) : nsIn (Mine.hd.heap_1 w.params) mainGlobals (Str.ofString "advanced") = some (some (.ref 722)) := by kernel_rfl
theorem nm_led_in (w : World) : nsIn (Mine.hd.heap_1 w.params) mainGlobals (Str.ofString "led_in") = some (some (.ref 729)) := by kernel_rfl
theorem nm_led_out (w : World) : nsIn (Mine.hd.heap_1 w.params) mainGlobals (Str.ofString "led_out") = some (some (.ref 736)) := by kernel_rfl
theorem nm_steered (w : World) : nsIn (Mine.hd.heap_1 w.params) mainGlobals (Str.ofString "steered") = some (some (.ref 743)) := by kernel_rfl
theorem nm_taken (w : World) : nsIn (Mine.hd.heap_1 w.params) mainGlobals (Str.ofString "taken") = some (some (.ref 750)) := by kernel_rfl
theorem nm__law_given (w : World) : nsIn (Mine.hd.heap_1 w.params) mainGlobals (Str.ofString "_law_given") = some (some (.ref 757)) := by kernel_rfl
theorem nm__law_outcome (w : World) : nsIn (Mine.hd.heap_1 w.params) mainGlobals (Str.ofString "_law_outcome") = some (some (.ref 764)) := by kernel_rfl
theorem nm__law_node_of (w : World) : nsIn (Mine.hd.heap_1 w.params) mainGlobals (Str.ofString "_law_node_of") = some (some (.ref 771)) := by kernel_rfl
theorem nm__law_put_right (w : World) : nsIn (Mine.hd.heap_1 w.params) mainGlobals (Str.ofString "_law_put_right") = some (some (.ref 778)) := by kernel_rfl
theorem nm__law_texts_right (w : World) : nsIn (Mine.hd.heap_1 w.params) mainGlobals (Str.ofString "_law_texts_right") = some (some (.ref 785)) := by kernel_rfl
theorem nm__law_deep_right (w : World) : nsIn (Mine.hd.heap_1 w.params) mainGlobals (Str.ofString "_law_deep_right") = some (some (.ref 790)) := by kernel_rfl
theorem nm__law_same (w : World) : nsIn (Mine.hd.heap_1 w.params) mainGlobals (Str.ofString "_law_same") = some (some (.ref 795)) := by kernel_rfl
theorem nm__law_of (w : World) : nsIn (Mine.hd.heap_1 w.params) mainGlobals (Str.ofString "_law_of") = some (some (.ref 802)) := by kernel_rfl
theorem nm__law_parts_right (w : World) : nsIn (Mine.hd.heap_1 w.params) mainGlobals (Str.ofString "_law_parts_right") = some (some (.ref 809)) := by kernel_rfl
theorem nm__law_doubled_right (w : World) : nsIn (Mine.hd.heap_1 w.params) mainGlobals (Str.ofString "_law_doubled_right") = some (some (.ref 816)) := by kernel_rfl
theorem nb_isinstance (w : World) : nsIn (Mine.hd.heap_1 w.params) mainGlobals (Str.ofString "isinstance") = some none ∧ bootBuiltins (Str.ofString "isinstance") = some (.builtin "isinstance") ∧ (Str.ofString "isinstance" ≠ "__name__") := ⟨by kernel_rfl, by kernel_rfl, by decide⟩
theorem nb_len (w : World) : nsIn (Mine.hd.heap_1 w.params) mainGlobals (Str.ofString "len") = some none ∧ bootBuiltins (Str.ofString "len") = some (.builtin "len") ∧ (Str.ofString "len" ≠ "__name__") := ⟨by kernel_rfl, by kernel_rfl, by decide⟩
theorem nb_str (w : World) : nsIn (Mine.hd.heap_1 w.params) mainGlobals (Str.ofString "str") = some none ∧ bootBuiltins (Str.ofString "str") = some (.type "str") ∧ (Str.ofString "str" ≠ "__name__") := ⟨by kernel_rfl, by kernel_rfl, by decide⟩
theorem nb_int (w : World) : nsIn (Mine.hd.heap_1 w.params) mainGlobals (Str.ofString "int") = some none ∧ bootBuiltins (Str.ofString "int") = some (.type "int") ∧ (Str.ofString "int" ≠ "__name__") := ⟨by kernel_rfl, by kernel_rfl, by decide⟩
theorem nb_tuple (w : World) : nsIn (Mine.hd.heap_1 w.params) mainGlobals (Str.ofString "tuple") = some none ∧ bootBuiltins (Str.ofString "tuple") = some (.type "tuple") ∧ (Str.ofString "tuple" ≠ "__name__") := ⟨by kernel_rfl, by kernel_rfl, by decide⟩
theorem nb_range (w : World) : nsIn (Mine.hd.heap_1 w.params) mainGlobals (Str.ofString "range") = some none ∧ bootBuiltins (Str.ofString "range") = some (.type "range") ∧ (Str.ofString "range" ≠ "__name__") := ⟨by kernel_rfl, by kernel_rfl, by decide⟩
theorem nb_list (w : World) : nsIn (Mine.hd.heap_1 w.params) mainGlobals (Str.ofString "list") = some none ∧ bootBuiltins (Str.ofString "list") = some (.type "list") ∧ (Str.ofString "list" ≠ "__name__") := ⟨by kernel_rfl, by kernel_rfl, by decide⟩
theorem nb_abs (w : World) : nsIn (Mine.hd.heap_1 w.params) mainGlobals (Str.ofString "abs") = some none ∧ bootBuiltins (Str.ofString "abs") = some (.builtin "abs") ∧ (Str.ofString "abs" ≠ "__name__") := ⟨by kernel_rfl, by kernel_rfl, by decide⟩
theorem nb_sum (w : World) : nsIn (Mine.hd.heap_1 w.params) mainGlobals (Str.ofString "sum") = some none ∧ bootBuiltins (Str.ofString "sum") = some (.builtin "sum") ∧ (Str.ofString "sum" ≠ "__name__") := ⟨by kernel_rfl, by kernel_rfl, by decide⟩
end
section
structure Rm (A : Around) (n : Nat) : Prop where
  d : A.depth + n < recursionLimit
  u : A.units + 3 * n + 100 < cLine
  h : A.handled = none
theorem Rm.le {A : Around} {n m : Nat} (R : Rm A n) (h : m ≤ n) : Rm A m := ⟨by have := R.d; exact lin2 [m, n, _, PySem.recursionLimit] [] (.nle (.V 0) (.V 1)) (.nlt (.P (.V 2) (.V 1)) (.V 3)) (.nlt (.P (.V 2) (.V 0)) (.V 3)) [[1, 1, 1]] h this okT, by have := R.u; exact lin2 [m, n, _, PySem.cLine] [] (.nle (.V 0) (.V 1)) (.nlt (.P (.P (.V 2) (.M 3 (.V 1))) (.K 100)) (.V 3)) (.nlt (.P (.P (.V 2) (.M 3 (.V 0))) (.K 100)) (.V 3)) [[1, 3, 1]] h this okT, R.h⟩
theorem Rm.in {A A' : Around} {n : Nat} (R : Rm A (n + 1)) (a : Ad A' A) : Rm A' n := ⟨by have q1 := R.d; have q2 := a.depth; exact lin2 [_, n, PySem.recursionLimit, _] [] (.nlt (.P (.V 0) (.P (.V 1) (.K 1))) (.V 2)) (.neq (.V 3) (.P (.V 0) (.K 1))) (.nlt (.P (.V 3) (.V 1)) (.V 2)) [[1, 1, 1]] q1 q2 okT, by have q1 := R.u; have q2 := a.units; exact lin2 [_, n, PySem.cLine, _] [] (.nlt (.P (.P (.V 0) (.M 3 (.P (.V 1) (.K 1)))) (.K 100)) (.V 2)) (.neq (.V 3) (.P (.V 0) (.K 3))) (.nlt (.P (.P (.V 3) (.M 3 (.V 1))) (.K 100)) (.V 2)) [[1, 1, 1]] q1 q2 okT, by rw [a.handled]; exact R.h⟩
theorem Rm.room {A : Around} {n : Nat} (R : Rm A (n + 1)) : A.depth < recursionLimit := by have := R.d; exact lin1 [_, n, PySem.recursionLimit] [] (.nlt (.P (.V 0) (.P (.V 1) (.K 1))) (.V 2)) (.nlt (.V 0) (.V 2)) [[1, 1]] this okT
theorem Rm.cl1 {A : Around} {n : Nat} (R : Rm A n) : A.in1.units < cLine := by have := R.u; show A.units + 1 < cLine; exact lin1 [_, n, PySem.cLine] [] (.nlt (.P (.P (.V 0) (.M 3 (.V 1))) (.K 100)) (.V 2)) (.nlt (.P (.V 0) (.K 1)) (.V 2)) [[1, 1]] this okT
theorem Rm.cl {A : Around} {n : Nat} (R : Rm A n) : A.units < cLine := by have := R.u; exact lin1 [_, n, PySem.cLine] [] (.nlt (.P (.P (.V 0) (.M 3 (.V 1))) (.K 100)) (.V 2)) (.nlt (.V 0) (.V 2)) [[1, 1]] this okT

theorem enterR {w : World} {A : Around} {mg mb : Str → Option Value} {g h : Heap} {s : Shared} {tk n : Nat} {Q E : Value → Shared → Prop} {name qual : Str} {params : Arguments} {body : List Stmt} {scope : Scope} {dV kV doc pm cdv ct oc : Value} {an od : Option Addr} {osl : Array (Option Value)} {f : Addr} {args : List Value}
    {binds : List (Str × Value)} (led : List (Addr × Obj)) (vs : List (Option Value))
    (G : Gl w mg mb g) (hk : g.StaysIn h)
    (ho : (Mine.hd.heap_1 w.params).lookup f = some ⟨oc, od, .func (fnOf name qual params body scope dV kV doc pm an cdv ct), osl⟩)
    (hcd : codeIn (Mine.hd.heap_1 w.params) cdv qual = true) (W : wfS scope = true) (R : Rm A (n + 1))
    (hbind : BindsTo (St s h tk) (fnOf name qual params body scope dV kV doc pm an cdv ct) ⟨args, []⟩ binds) (hb : Bnd scope.names binds vs)
    (hled : ∀ p ∈ led, h.get? p.1 = some p.2 ∧ g.get? p.1 = none) (hnd : (led.map (·.1)).Nodup)
    (hcell : noCell scope = true)
    (k : ∀ B h₁ L tk' env A', Ev env scope.names L → Gl w mg mb B → Sx B L h₁ scope.names vs led [] → (Chg (led.map (·.1)) h B) → B.StaysIn h → h.get? L = none → Rm A' n →
      wpAny (model pg w) A' (execs body env) (Fq Q) (fun _ _ => False) (St s h₁ tk'))
    (hco : scope.isCoroutine = false) (hgen : scope.isGenerator = false) :
    wpAny (model pg w) A (call (.ref f) args) Q E (St s h tk) :=
  enterN led vs G hk ho hcd W R.room hbind hb hled hnd hcell (fun B h₁ L tk' env A' V G S a b c d => k B h₁ L tk' env A' V G S a b c (R.in d)) hco hgen

theorem Sx.stays {h B : Heap} {L : Addr} {ns vs news fs} (S : Sx B L h ns vs news fs) : B.StaysIn h := S.F.keep
theorem stay {h h' B : Heap} {L : Addr} {ns vs news fs} (S : Sx B L h' ns vs news fs) (hB : Chg ((([] : List (Addr × Obj)).map (·.1))) h B) : h.StaysIn h' :=
  fun a o e => S.F.keep a o (hB a o e (fun q => nomatch q))
theorem stayC {h h' B : Heap} {L : Addr} {ns vs news fs} {led : List (Addr × Obj)} (S : Sx B L h' ns vs news fs) (hB : Chg (led.map (·.1)) h B) : Chg (led.map (·.1)) h h' :=
  fun a o e n => S.F.keep a o (hB a o e n)
theorem fresh {h h' B : Heap} {L a : Addr} {o : Obj} {ns vs news fs} (S : Sx B L h' ns vs news fs) (hB : Chg ((([] : List (Addr × Obj)).map (·.1))) h B) (m : Inn (a, o) news) : h.get? a = none ∧ h'.get? a = some o := by
  have P := S.N _ m.mem
  refine ⟨?_, P.1⟩
  cases q : h.get? a with
  | none => rfl
  | some x =>
    have z := hB a x q (fun q => nomatch q)
    have P2 := P.2.2
    rw [z] at P2; cases P2
theorem freshC {h h' B : Heap} {L a : Addr} {o : Obj} {ns vs news fs} {led : List (Addr × Obj)} (S : Sx B L h' ns vs news fs) (hB : Chg (led.map (·.1)) h B) (m : Inn (a, o) news) (hn : a ∉ led.map (·.1)) : h.get? a = none ∧ h'.get? a = some o := by
  have P := S.N _ m.mem
  refine ⟨?_, P.1⟩
  cases q : h.get? a with
  | none => rfl
  | some x =>
    have z := hB a x q hn
    have P2 := P.2.2
    rw [z] at P2; cases P2

section
variable {w : World} {mg mb : Str → Option Value} {B : Heap} {A : Around} {E : Value → Shared → Prop} {s : Shared} {env : Env} {L : Addr} {h : Heap} {tk : Nat} {ns : List (Str × NameKind)} {vs vs' : List (Option Value)} {news news' : List (Addr × Obj)} {fs : List Fact}
theorem e_gl {x : Str} {pos : Pos} {v : Value} {Q : Value → Shared → Prop} (V : Ev env ns L) (G : Gl w mg mb B) (S : Sx B L h ns vs news fs) (l : Glo ns x) (hv : nsIn (Mine.hd.heap_1 w.params) mainGlobals x = some (some v)) (k : Q v (St s h tk)) : wpAny (model pg w) A (eval (.Name x pos) env) Q E (St s h tk) :=
  e_glo V G S l (mg_of G.X G.g hv) k
theorem e_bl {x : Str} {pos : Pos} {v : Value} {Q : Value → Shared → Prop} (V : Ev env ns L) (G : Gl w mg mb B) (S : Sx B L h ns vs news fs) (l : Glo ns x) (hv : nsIn (Mine.hd.heap_1 w.params) mainGlobals x = some none ∧ bootBuiltins x = some v ∧ (x ≠ "__name__")) (k : Q v (St s h tk)) : wpAny (model pg w) A (eval (.Name x pos) env) Q E (St s h tk) :=
  e_bui V G S l ⟨ns_none_of G.X G.g hv.1, (G.bi _ hv.2.2).trans hv.2.1⟩ k
theorem x_asgattr {o value : Expr} {attr : Str} {pos' pos : Pos} {Q : Flow → Shared → Prop} {s : Shared} (hs : swapsWith value (some (.Attribute o attr pos')) pos.line env = pure false)
    (h : wpAny (model pg w) A (eval value env) (fun v s₁ => wpAny (model pg w) A (eval o env) (fun ov s₂ => wpAny (model pg w) A (setAttr ov attr v) (fun _ => Q .next) E s₂) E s₁) E s) : wpAny (model pg w) A (exec (.Assign [.Attribute o attr pos'] value pos) env) Q E s := plainObj_wpAny_Assign_Attribute h hs
theorem cd_0 {a : Addr} {as : List Value} {Q : Value → Shared → Prop} (S : Sx B L h ns vs news fs) (k : wpAny (model pg w) A (call (.ref a) as) Q E (St s h tk)) : B.StaysIn (St s h tk).heap ∧ wpAny (model pg w) A (call (.ref a) ([] ++ as)) Q E (St s h tk) := ⟨S.F.keep, k⟩
theorem cd_1 {a : Addr} {x : Value} {as : List Value} {Q : Value → Shared → Prop} (S : Sx B L h ns vs news fs) (k : wpAny (model pg w) A (call (.ref a) (x :: as)) Q E (St s h tk)) : B.StaysIn (St s h tk).heap ∧ wpAny (model pg w) A (call (.ref a) ([x] ++ as)) Q E (St s h tk) := ⟨S.F.keep, k⟩
theorem cb_0 {id : String} {as : List Value} {Q : Value → Shared → Prop} {s : Shared} (k : wpAny (model pg w) A (call (.builtin id) as) Q E s) : wpAny (model pg w) A (call (.builtin id) ([] ++ as)) Q E s := k
theorem cb_1 {id : String} {x : Value} {as : List Value} {Q : Value → Shared → Prop} {s : Shared} (k : wpAny (model pg w) A (call (.builtin id) (x :: as)) Q E s) : wpAny (model pg w) A (call (.builtin id) ([x] ++ as)) Q E s := k
theorem o_isi {x t c : Value} {H : Heap → Prop} {b : Bool} {Q : Value → Shared → Prop} (G : Gl w mg mb B) (S : Sx B L h ns vs news fs) (Z : KitX (Mine.hd.heap_1 w.params) x t H) (p : H h) (e : kitOne (Mine.hd.heap_1 w.params) t c = some b) (hx : x ≠ .builtin "__main__.__loader__#opaque") (k : ∀ tk', Q (.bool b) (St s h tk')) :
    wpAny (model pg w) A (call (.builtin "isinstance") [x, c]) Q E (St s h tk) := kia_one (s := St s h tk) Z (G.X.keeps S.F.keep) p e hx k
theorem o_isit {x t : Value} {tp : Addr} {its : List Value} {H : Heap → Prop} {b : Bool} {Q : Value → Shared → Prop} (G : Gl w mg mb B) (S : Sx B L h ns vs news fs) (Z : KitX (Mine.hd.heap_1 w.params) x t H) (p : H h) (ht : IsTup h tp its.toArray) (e : kitAny (Mine.hd.heap_1 w.params) t its = some b) (hx : x ≠ .builtin "__main__.__loader__#opaque") (k : ∀ tk', Q (.bool b) (St s h tk')) :
    wpAny (model pg w) A (call (.builtin "isinstance") [x, .ref tp]) Q E (St s h tk) := by
  obtain ⟨⟨c, d, da, sl⟩, ho, hc, n, hd⟩ := ht
  simp only at hc hd
  subst hc hd
  exact kia_tup (s := St s h tk) Z (G.X.keeps S.F.keep) p ho e hx k
theorem is_nn {Q : Value → Shared → Prop} {M : Model} {s : Shared} (k : Q (.bool true) s) : wpAny M A (compareOp .Is .none .none) Q E s := is_none k
theorem isnot_nn {Q : Value → Shared → Prop} {s : Shared} (k : Q (.bool false) s) : wpAny (model pg w) A (compareOp .IsNot .none .none) Q E s := wpAny_isNot_self rfl k
end
end
section
section
variable {w : World} {mg mb : Str → Option Value} {B : Heap} {A : Around} {E : Value → Shared → Prop} {s : Shared} {env : Env} {L D : Addr} {h h' : Heap} {tk : Nat} {ns : List (Str × NameKind)} {vs vs' : List (Option Value)} {news news' : List (Addr × Obj)} {fs : List Fact}
theorem Sx.ext (S : Sx B L h ns vs news fs) (F' : Fr B L h' (fr ns vs)) (N' : News B L h' (rst B L [] h)) : Sx B L h' ns vs news fs := by
  have k : ∀ b x, h.get? b = some x → b ≠ L → h'.get? b = some x := fun b x e n1 => by
    cases q : B.get? b with
    | none => exact (N' (b, x) (rst_mem.mpr ⟨e, n1, by simp, q⟩)).1
    | some y =>
      have := S.F.keep b y q
      rw [e] at this; cases this
      exact F'.keep b _ q
  exact ⟨F', fun p hp => ⟨k _ _ (S.N p hp).1 (S.N p hp).2.1, (S.N p hp).2⟩, S.nd, fun f hf => f.keeps _ _ (fun b x e t => k b x e (S.frame_ne e t)) (S.ft f hf)⟩
theorem Sx.inK (G : Gl w mg mb B) (S : Sx B L h ns vs news fs) {a : Addr} {d : Option Addr} {l : Array Value} {n : Nat} {sl : Array (Option Value)} (e : (Mine.hd.heap_1 w.params).lookup a = some ⟨.type "tuple", d, .seq l n, sl⟩) : IsTup h a l :=
  ⟨_, S.F.keep _ _ (G.X _ _ e), rfl, n, rfl⟩
theorem o_slice {value slice : Expr} {x : Str} {t ui uj : Tok} {i j : Int} {Q : Value → Shared → Prop} (S : Sx B L h ns vs news fs) (hsz : x.length ≤ sizeLine)
    (hs : subscripted slice false (.str x t) (.ref h.objs.size) = operate [.ref h.objs.size, .str x t] (getItem (.str x t) (.ref h.objs.size)))
    (ht : ∀ r, letTemporaryGo value (.str x t) r = pure ())
    (k : ∀ t' h' tk', Sx B L h' ns vs news fs → Q (.str (Txt.slice x (some i) (some j)) t') (St s h' tk')) :
    wpAny (model pg w) A (subscriptTail value slice (.str x t) (.ref h.objs.size)) Q E (St s (h.push { cls := .type "slice", data := .fields #[.int i ui, .int j uj, .none] }) tk) :=
  slice_strN_ss (s := St s h tk) S.F (S.all []) (fun h' t' k' F' N' => k t' h' k' (S.ext F' N')) hs ht hsz
theorem e_slice {a b : Expr} {p : Pos} {Q : Value → Shared → Prop} {s : Shared} (k : wpAny (model pg w) A (eval a env) (fun l s₁ => wpAny (model pg w) A (eval b env) (fun u s₂ => Q (.ref s₂.heap.objs.size) { s₂ with heap := s₂.heap.push { cls := .type "slice", data := .fields #[l, u, .none] } }) E s₁) E s) :
    wpAny (model pg w) A (eval (.Slice (some a) (some b) none p) env) Q E s :=
  wpAny_Slice (wpAny_mono k (fun l s₁ h₁ => wpAny_mono h₁ (fun u s₂ h₂ => wpAny_pure h₂) fun _ _ x => x) fun _ _ x => x)
theorem e_sliceto {b : Expr} {p : Pos} {Q : Value → Shared → Prop} {s : Shared} (k : wpAny (model pg w) A (eval b env) (fun u s₂ => Q (.ref s₂.heap.objs.size) { s₂ with heap := s₂.heap.push { cls := .type "slice", data := .fields #[.none, u, .none] } }) E s) :
    wpAny (model pg w) A (eval (.Slice none (some b) none p) env) Q E s :=
  wpAny_Slice (wpAny_pure (wpAny_mono k (fun u s₂ h₂ => wpAny_pure h₂) fun _ _ x => x))
theorem i_hd {value slice : Expr} {t : Addr} {l : List Value} {u : Tok} {x : Value} {Q : Value → Shared → Prop} (ht : IsTup h t (List.toArray (x :: l))) (k : Q x (St s h tk))
    (hs : subscripted slice false (.ref t) (.int 0 u) = operate [.ref t, .int 0 u] (getItem (.ref t) (.int 0 u))) (hg : ∀ r, letTemporaryGo value (.ref t) r = pure ()) :
    wpAny (model pg w) A (subscriptTail value slice (.ref t) (.int 0 u)) Q E (St s h tk) :=
  PyProof.Rows.item_tuple (s := St s h tk) (j := 0) ht (by decide) (by decide) (by simp [seqIndex?]) (by simp) k hs hg
theorem b_cat {x y : Str} {t u : Tok} {Q : Value → Shared → Prop} (hsz : x.length + y.length ≤ sizeLine) (k : ∀ t' tk', Q (.str (x ++ y) t') (St s h tk')) : wpAny (model pg w) A (binaryOp .Add (.str x t) (.str y u)) Q E (St s h tk) :=
  PyProof.Rows.add_str (s := St s h tk) k hsz
theorem o_eqt {l b : Addr} {items items2 : List Value} {e : Nat → Bool} {r : Bool} {Q : Value → Shared → Prop} (hl : IsTup h l items.toArray) (hb : IsTup h b items2.toArray) (hu : A.units < cLine)
    (he : ∀ j (h1 : j < items.toArray.size) (h2 : j < items2.toArray.size), SeqAt.EqAt A.in1 (St s h tk) items.toArray[j] items2.toArray[j] (e j)) (hr : ((List.range (min items.length items2.length)).all e && items.length == items2.length) = r) (k : Q (.bool r) (St s h tk)) :
    wpAny (model pg w) A (compareOp .Eq (.ref l) (.ref b)) Q E (St s h tk) :=
  SeqAt.eq_tupleAt (s := St s h tk) hl hb hu he (by rw [← hr] at k; simpa using k)
theorem eq_ts {n : Nat} {a : Addr} {l : Array Value} {x : Str} {t : Tok} (R : Rm A n) (ht : IsTup h a l) : SeqAt.EqAt A.in1 (St s h tk) (.ref a) (.str x t) false := SeqAt.EqAt.tuple_str _ _ (s := St s h tk) ht R.cl1
inductive EqAll (A : Around) (s : Shared) : List Value → List Value → Bool → Prop
  | nil : EqAll A s [] [] true
  | left {x xs} : EqAll A s (x :: xs) [] false
  | right {y ys} : EqAll A s [] (y :: ys) false
  | cons {x y xs ys b c} : SeqAt.EqAt A.in1 s x y b → EqAll A s xs ys c → EqAll A s (x :: xs) (y :: ys) (b && c)
theorem range_all_succ {n : Nat} {e : Nat → Bool} : (List.range (n + 1)).all e = (e 0 && (List.range n).all fun j => e (j + 1)) := by
  rw [List.range_succ_eq_map, List.all_cons, List.all_map]; rfl
theorem EqAll.get {A : Around} {s : Shared} {xs ys : List Value} {r : Bool} (H : EqAll A s xs ys r) : ∃ e : Nat → Bool, (∀ j (h1 : j < xs.length) (h2 : j < ys.length), SeqAt.EqAt A.in1 s xs[j] ys[j] (e j)) ∧ ((List.range (min xs.length ys.length)).all e && xs.length == ys.length) = r := by
  induction H with
  | nil => exact ⟨fun _ => true, fun j h1 => absurd h1 (Nat.not_lt_zero _), rfl⟩
  | left => exact ⟨fun _ => true, fun j _ h2 => absurd h2 (Nat.not_lt_zero _), by simp⟩
  | right => exact ⟨fun _ => true, fun j h1 => absurd h1 (Nat.not_lt_zero _), by simp⟩
  | @cons x y xs ys b c h H ih =>
    refine x1_2 ih ?_; (try clear ih); intro e h1 h2
    refine ⟨fun j => match j with | 0 => b | j + 1 => e j, fun j j1 j2 => ?_, ?_⟩
    · cases j with
      | zero => exact h
      | succ j => exact h1 j (by simpa using j1) (by simpa using j2)
    · rw [← h2, List.length_cons, List.length_cons, Nat.succ_min_succ, range_all_succ, Bool.and_assoc]
      simp
theorem o_eqs {l b : Addr} {items items2 : List Value} {r : Bool} {Q : Value → Shared → Prop} (hl : IsTup h l items.toArray) (hb : IsTup h b items2.toArray) (hu : A.units < cLine) (H : EqAll A (St s h tk) items items2 r) (k : Q (.bool r) (St s h tk)) :
    wpAny (model pg w) A (compareOp .Eq (.ref l) (.ref b)) Q E (St s h tk) := by
  refine x1_2 (H.get) fun e h1 h2 => ?_
  exact o_eqt hl hb hu (fun j j1 j2 => by simpa using h1 j (by simpa using j1) (by simpa using j2)) h2 k
theorem o_nes {l b : Addr} {items items2 : List Value} {r : Bool} {Q : Value → Shared → Prop} (hl : IsTup h l items.toArray) (hb : IsTup h b items2.toArray) (hu : A.units < cLine) (H : EqAll A (St s h tk) items items2 r) (k : Q (.bool (!r)) (St s h tk)) :
    wpAny (model pg w) A (compareOp .NotEq (.ref l) (.ref b)) Q E (St s h tk) := by
  refine x1_2 (H.get) fun e h1 h2 => ?_
  refine SeqAt.RcNeAt.tuples (s := St s h tk) hl hb hu (e := e) (fun j j1 j2 => by simpa using h1 j (by simpa using j1) (by simpa using j2)) pg w E Q ?_
  rw [← h2] at k
  simpa using k
end
end
section
section
variable {w : World} {mg mb : Str → Option Value} {B : Heap} {A : Around} {E : Value → Shared → Prop} {s : Shared} {env : Env} {L D : Addr} {h h' : Heap} {tk : Nat} {ns : List (Str × NameKind)} {vs vs' : List (Option Value)} {news news' : List (Addr × Obj)} {fs : List Fact}
theorem e_dict0 {pos : Pos} {Q : Value → Shared → Prop} (S : Sx B L h ns vs news fs) (k : ∀ a h' tk', Sx B L h' ns vs ((a, { cls := .type "dict", data := .dict #[] }) :: news) fs → h.get? a = none → Q (.ref a) (St s h' tk')) : wpAny (model pg w) A (eval (.Dict [] [] pos) env) Q E (St s h tk) :=
  wpAny_Dict_empty (s := St s h tk) (k h.objs.size _ tk (S.push (S.F.push _) (News.push S.F (S.all []) _ rfl) S.none_size) S.none_size)
theorem e_dict1 {x y : Str} {i j : Nat} {p1 p2 pos : Pos} {Q : Value → Shared → Prop} (S : Sx B L h ns vs news fs) (k : ∀ a h' tk', Sx B L h' ns vs news fs → h.get? a = none → Q (.ref a) (St s h' tk')) : wpAny (model pg w) A (eval (.Dict [some (.Constant (.str x) i p1)] [.Constant (.str y) j p2] pos) env) Q E (St s h tk) := by
  refine Dict_made_str (s := St s h tk) rfl S.F rfl rfl (by simp) (Nat.le_of_ble_eq_true rfl) fun F1 => ?_
  refine evalPairs_cons (Constant_str (wpAny_bind (Constant_str (wpAny_bind (wpAny_standAt (wpAny_pure (evalPairs_nil ?_)))))))
  refine ⟨[(x, .str y _)], ⟨by show (x == x) = true; simp, rfl, trivial⟩, Heap.DictOf.new _, fun h' hd hs => ?_⟩
  exact k h.objs.size h' _ (S.call fun b o e => (hs.2 b (Nat.ne_of_lt (Heap.lt_size e))).trans (Heap.get?_push_of_some _ e)) S.none_size
end
theorem fr_nones (ns : List (Str × NameKind)) (y : Str) : ∀ k, fr ns (List.replicate k none) y = none := by
  induction ns with
  | nil => intro k; cases k <;> rfl
  | cons p ns ih =>
    intro k
    cases k with
    | zero => rfl
    | succ k => exact ite_same rfl (ih k)
theorem fr_pad (ns : List (Str × NameKind)) (k : Nat) (y : Str) : ∀ vs : List (Option Value), fr ns (vs ++ List.replicate k none) y = fr ns vs y := by
  induction ns with
  | nil => intro vs; rfl
  | cons p ns ih =>
    intro vs
    cases vs with
    | nil => exact fr_nones _ _ _
    | cons v vs => exact congrArg (fun z => if y = p.1 then v else z) (ih vs)
theorem Sx.pad {B : Heap} {L : Addr} {h : Heap} {ns : List (Str × NameKind)} {vs : List (Option Value)} {news : List (Addr × Obj)} {fs : List Fact} (k : Nat) (S : Sx B L h ns vs news fs) : Sx B L h ns (vs ++ List.replicate k none) news fs :=
  ⟨fr_congr S.F fun x => (fr_pad ns k x vs).symm, S.N, S.nd, S.ft⟩
end
section
set_option maxRecDepth 100000
section
variable {prog : Program} {w : World} {A : Around} {h : Heap} {g : Array GenState} {d : Drawn} {t : Nat} {os : OsState}
variable {nm q : Str} {C N fI : Addr} {bs bm : List Value} {hdct : Bool} {sn : List Str} {sub : List Value} {ab : Bool} {col : Option Bool} {dd : Option Addr} {k0 k1 k2 k3 k5 : Option Value} {B newId initId : String}
noncomputable abbrev excObj (C t : Addr) : Obj := { cls := .ref C, data := .fields #[.ref t, .none, .none, .none, .bool false, .none] }
theorem call_excI (F : ExcBaseFacts B newId initId bm) {mN : Str → Option Value} {rest : List Value} {R : Result → Shared → Prop}
    (hC : h.get? C = some (excClassObj nm q C N bs bm hdct sn sub ab col dd k0 k1 k2 k3 k5 newId)) (hn : h.Ns N mN) (hi : mN "__init__" = some (.ref fI))
    (hb : ∀ self, Looks (model prog w) h (bindSpecial (.ref fI) self) (.ref fI, [self])) (hrest : rest.length ≤ sizeLine)
    (hq : codeAny (model prog w) (A.under (.builtin "type.__call__" ⟨.ref C :: rest, []⟩)) (.call (.ref fI) ⟨.ref (h.objs.size + 1) :: rest, []⟩) (InitBack (h.objs.size + 1) R)
      ⟨(h.push { cls := .type "tuple", data := .seq rest.toArray }).push (excObj C h.objs.size), g, d, t, os⟩) :
    codeAny (model prog w) A (.call (.ref C) ⟨rest, []⟩) R ⟨h, g, d, t, os⟩ := by
  have f1 := tc_lookup
  have f2 := tc_bind (.ref C)
  have hT : (⟨h, g, d, t, os⟩ : Shared).TypeIs (.ref C) "type" := ⟨_, hC, rfl⟩
  refine codeAny_of_tree ?_
  show wpAny _ _ (callAny (.ref C) _) _ _ _
  repeat (any_goals (first | assumption | with_reducible refine wpAny_loadPart_at hC ?_ | wp_step))
  refine ⟨rfl, ?_⟩
  refine codeAny_call_builtin_at (Code.quiet_builtin _ (by decide +kernel)) entry_typeCall (wpAny_check_type_call_sub hC ?_)
  unfold Builtin.«type.__call__»
  repeat (first | with_reducible refine wpAny_loadPart_at hC ?_ | with_reducible refine wpAny_madeBy_exc hC ?_ | wp_step)
  refine codeAny_call_builtin_code (Code.quiet_builtin _ F.quiet) (wpAny_check_new_sub F hC ?_)
  refine codeAny_exc_new_sub F hC ?_ hrest
  show wpAny _ _ _ _ _ _
  have hC₁ := Heap.get?_push_of_some (excObj C h.objs.size) (Heap.get?_push_of_some { cls := .type "tuple", data := .seq rest.toArray } hC)
  have hn₁ : ((h.push { cls := .type "tuple", data := .seq rest.toArray }).push (excObj C h.objs.size)).Ns N mN :=
    x3_2 hn fun o es ep e r => ⟨o, es, ep, Heap.get?_push_of_some _ (Heap.get?_push_of_some _ e), r⟩
  have hget : ((h.push { cls := .type "tuple", data := .seq rest.toArray }).push (excObj C h.objs.size)).get? (h.objs.size + 1) = some (excObj C h.objs.size) := by heap_get
  have hcC : (Value.ref C :: bm).contains (.ref C) = true := by simp
  unfold isInstance
  repeat (first | with_reducible refine wpAny_loadPart_at hget ?_ | (with_reducible refine wpAny_isSubtype_exc hC₁ ?_; rw [hcC]) | wp_step)
  show wpAny _ _ (isSubtype (.ref C) _) _ _ _
  refine wpAny_isSubtype_exc hC₁ ?_
  rw [hcC]
  unfold callSpecial? specialOf
  repeat (first | with_reducible refine wpAny_loadPart_at hget ?_ | wp_step)
  show wpAny _ _ (typeLookup (.ref C) _) _ _ _
  refine wpAny_typeLookup_exc hC₁ hn₁ F.mroIs F.init.lookup ?_
  rw [hi]
  have b1 := (hb (.ref (h.objs.size + 1))).keeps (h' := (h.push { cls := .type "tuple", data := .seq rest.toArray }).push (excObj C h.objs.size)) (fun b o e => Heap.get?_push_of_some _ (Heap.get?_push_of_some _ e))
  repeat (first | with_reducible refine wpAny_call ?_ | with_reducible refine wpAny_holding ?_ | with_reducible refine wpAny_bind ?_)
  refine b1.at ?_
  refine wpAny_bind (wpAny_call ?_)
  refine codeAny_mono hq fun r s' z => ?_
  rcases r with e | (v | _ | _ | _) <;> first | exact z | exact z.elim | skip
  refine x0_2 z ?_; (try clear z); intro zq0 z; subst zq0
  exact wpAny_pure (wpAny_pure z)
end
end
section
set_option maxRecDepth 100000
theorem wd_slot_get : Slot "wrapper_descriptor" "__get__" "wrapper_descriptor.__get__" := .of (owner := "wrapper_descriptor") (n := "__get__") (by rw [typeLookup_type, builtinLookup_eq_fast]; kernel_rfl) (by decide +kernel) (by decide +kernel) (by decide +kernel) (by first | exact .inl (by decide +kernel) | exact .inr (by decide +kernel)) (by rw [isSubtype_type]; kernel_rfl)
theorem wd_entry_get : entryFor table "wrapper_descriptor.__get__" = some Builtin.«wrapper_descriptor.__get__» := entryFor_of_tree (by kernel_rfl)
theorem wd_args_get (a b c : Value) : argsOk "wrapper_descriptor.__get__" ⟨[a, b, c], []⟩ := by unfold argsOk; kernel_rfl
theorem wd_type : typeOf (.builtin "Exception.__init__") = pure (.type "wrapper_descriptor") := by kernel_rfl
noncomputable abbrev mwObj (x : Addr) : Obj := { cls := .type "method-wrapper", data := .fields #[.builtin "Exception.__init__", .ref x] }
section
variable {prog : Program} {w : World} {A : Around} {E : Value → Shared → Prop} {h : Heap} {g : Array GenState} {d : Drawn} {t : Nat} {os : OsState} {K : Frag}
variable {nm q : Str} {C N D so x : Addr} {bs bm : List Value} {hdct : Bool} {sn : List Str} {sub : List Value} {ab : Bool} {col : Option Bool} {dd : Option Addr} {k0 k1 k2 k3 k5 : Option Value} {newId : String} {ox : Obj}
set_option maxHeartbeats 4000000 in
theorem sup_ga {tk : Tok} {Q : Fin → Shared → Prop}
    (hso : h.get? so = some { cls := .type "super", dict := none, data := .fields #[.ref C, .ref x, .ref C], slots := #[] }) (hno : Looks (model prog w) h (opaqueClassAbove (.ref C)) none)
    (hC : h.get? C = some (excClassObj nm q C N bs bm hdct sn sub ab col dd k0 k1 k2 k3 k5 newId)) (hE : bm.contains (.type "Exception") = true)
    (X : K.In h) (hf : alongIn K "__init__" bm = some (some (.builtin "Exception.__init__"))) (hx : h.get? x = some ox) (hxc : ox.cls = .ref C) (hxC : x ≠ C)
    (hq : Q (.done (.ret (.ref h.objs.size))) ⟨h.push (mwObj x), g, d, t, os⟩) :
    wpAny (model prog w) A (Builtin.«super.__getattribute__» ⟨[.ref so, .str "__init__" tk], []⟩) Q E ⟨h, g, d, t, os⟩ := by
  have hne : (Value.ref x == Value.ref C) = false := by simp [hxC]
  have hn : ((Str.ofString "__init__") == (Str.ofString "__class__")) = false := by decide
  have hdt : ({ cls := .type "super", dict := none, data := .fields #[.ref C, .ref x, .ref C], slots := #[] } : Obj).data = .fields #[.ref C, .ref x, .ref C] := rfl
  have f0 : (#[.ref C, .ref x, .ref C] : Array Value)[0]? = some (.ref C) := rfl
  have f1 : (#[.ref C, .ref x, .ref C] : Array Value)[1]? = some (.ref x) := rfl
  have f2 : (#[.ref C, .ref x, .ref C] : Array Value)[2]? = some (.ref C) := rfl
  have hcE : (Value.ref C :: bm).contains (.type "Exception") = true := by rw [List.contains_cons, hE, Bool.or_true]
  have hdrop : (((Value.ref C :: bm).dropWhile (· != .ref C)).drop 1) = bm := by simp
  have hTd : (⟨h, g, d, t, os⟩ : Shared).TypeIs (.builtin "Exception.__init__") "wrapper_descriptor" := by
    first | exact wd_type | (show typeOf _ = _; exact wd_type) | exact (rfl)
  unfold Builtin.«super.__getattribute__»
  repeat (first
    | (with_reducible refine wpAny_field hso hdt f0 ?_) | (with_reducible refine wpAny_field hso hdt f1 ?_) | (with_reducible refine wpAny_field hso hdt f2 ?_)
    | (with_reducible refine ks_wpAny_notOpaque hno ?_)
    | (with_reducible refine wpAny_mroOf_exc hC ?_; rw [hdrop])
    | (refine ks_forIn_along X (fun _ _ => rfl) rfl ?_ hf)
    | (with_reducible refine wpAny_typeOf hTd ?_)
    | (with_reducible refine wpAny_of_eq wd_slot_get.lookup ?_)
    | (with_reducible refine wpAny_call_entry wd_slot_get hTd wd_entry_get ?_ (wd_args_get _ _ _))
    | (with_reducible refine ⟨_, rfl, ?_⟩)
    | (simp only [hn, hne, Bool.or_false, Bool.false_eq_true, if_false])
    | wp_step
    | dsimp only)
  rw [hxc, show (".".intercalate ("Exception.__init__".cutAt '.').dropLast) = "Exception" by decide +kernel]
  refine wpAny_isSubtype_exc hC ?_
  rw [hcE]
  repeat (first | (with_reducible refine ⟨_, rfl, ?_⟩) | wp_step)
  all_goals exact hq
end
end
section
set_option maxRecDepth 100000
section
variable {prog : Program} {w : World} {A : Around} {E : Value → Shared → Prop} {h : Heap} {g : Array GenState} {d : Drawn} {t : Nat} {os : OsState} {K : Frag}
variable {nm q : Str} {C N D so x m : Addr} {bs bm : List Value} {hdct : Bool} {sn : List Str} {sub : List Value} {ab : Bool} {col : Option Bool} {dd : Option Addr} {k0 k1 k2 k3 k5 : Option Value} {newId : String} {ox : Obj}
theorem sup_method {pl : Sem Bool} {Q : Value × List Value → Shared → Prop}
    (hso : h.get? so = some { cls := .type "super", dict := none, data := .fields #[.ref C, .ref x, .ref C], slots := #[] }) (hno : Looks (model prog w) h (opaqueClassAbove (.ref C)) none)
    (hC : h.get? C = some (excClassObj nm q C N bs bm hdct sn sub ab col dd k0 k1 k2 k3 k5 newId)) (hE : bm.contains (.type "Exception") = true)
    (X : K.In h) (hf : alongIn K "__init__" bm = some (some (.builtin "Exception.__init__"))) (hx : h.get? x = some ox) (hxc : ox.cls = .ref C) (hxC : x ≠ C)
    (hq : Q (.ref h.objs.size, []) ⟨h.push (mwObj x), g, d, t + 1, os⟩) :
    wpAny (model prog w) A (getMethod (.ref so) "__init__" pl) Q E ⟨h, g, d, t, os⟩ := by
  have hlk := F.ks_slot_super_ga.lookup
  have hcan := F.ks_canon_super_ga
  have hT : ∀ t', (⟨h, g, d, t', os⟩ : Shared).TypeIs (.ref so) "super" := fun _ => ⟨_, hso, rfl⟩
  unfold getMethod
  refine wpAny_bind (wpAny_specialOf (hT _) hlk ?_)
  show wpAny _ _ (if (Manifest.canonical "super.__getattribute__" != "object.__getattribute__") = true then _ else _) _ _ _
  rw [if_pos hcan]
  unfold getAttr getAttrBy
  refine wpAny_bind (wpAny_bind (wpAny_mkText (wpAny_holding (wpAny_bind (wpAny_typeOf (hT _) (wpAny_bind (wpAny_of_eq hlk ?_)))))))
  show wpAny _ _ (getAttrByItsOwn (.ref so) (.str "__init__" t) (.type "super") (.builtin "super.__getattribute__") true false) _ _ _
  unfold getAttrByItsOwn hookBefore callGetattribute boundAndCalled
  refine wpAny_bind (wpAny_of_eq (show (if onTheHeap (.type "super") then typeLookup (.type "super") "__getattr__" else pure none) = pure none from rfl) ?_)
  refine wpAny_bind (wpAny_attempt (wpAny_holding ?_))
  show wpAny _ _ (bindSpecial (.builtin "super.__getattribute__") (.ref so) >>= _) _ _ _
  refine wpAny_bind (wpAny_of_eq (F.ks_slot_super_ga.bind _) ?_)
  refine wpAny_mono (Q := fun v s' => v = .ref h.objs.size ∧ s' = ⟨h.push (mwObj x), g, d, t + 1, os⟩) (E := fun _ _ => False)
    (wpAny_call_entry F.ks_slot_super_ga (hT _) F.ks_entry_super_ga (sup_ga hso hno hC hE X hf hx hxc hxC ⟨_, rfl, rfl, rfl⟩) (F.ks_gaArgs_super _ _)) (fun v s' hv => ?_) fun _ _ z => z.elim
  refine x0_2 hv ?_; (try clear hv); intro zq0 zq1; subst zq0; subst zq1
  exact wpAny_pure (wpAny_pure hq)
theorem mw_eq {x : Addr} {v : Value} : checkBoundCall "Exception.__init__" ⟨[.ref x, v], []⟩ = Bind.checkArgs "Exception.__init__" ⟨.positional, "*", "Exception", .self, [⟨"args", .varPos, false⟩]⟩ ⟨[.ref x, v], []⟩ := by kernel_rfl
theorem mw_check {M : Model} {v : Value} {Q : Unit → Shared → Prop} (hC : h.get? C = some (excClassObj nm q C N bs [.type "Exception", .type "BaseException", .type "object"] hdct sn sub ab col dd k0 k1 k2 k3 k5 newId)) (he : h.get? x = some ox) (hcls : ox.cls = .ref C) (hq : Q () ⟨h, g, d, t, os⟩) :
    wpAny M A (checkBoundCall "Exception.__init__" ⟨[.ref x, v], []⟩) Q E ⟨h, g, d, t, os⟩ := by
  have FB := PySem.F.excBase_Exception
  have hcB : (Value.ref C :: [.type "Exception", .type "BaseException", .type "object"]).contains (.type "Exception") = true := by rw [List.contains_cons, FB.hasB, Bool.or_true]
  have hshort := FB.noStar
  rw [mw_eq]
  repeat (first | (with_reducible refine wpAny_loadPart_at he ?_; rw [hcls]) | with_reducible refine wpAny_loadPart_at hC ?_ | (with_reducible refine wpAny_isSubtype_exc hC ?_; rw [hcB]) | wp_step)
  exact hq
theorem mw_call {v : Value} {dx : Option Addr} {vs : Array Value} {t0 : Addr} {sl : Array (Option Value)} {Q : Value → Shared → Prop}
    (hC : h.get? C = some (excClassObj nm q C N bs [.type "Exception", .type "BaseException", .type "object"] hdct sn sub ab col dd k0 k1 k2 k3 k5 newId))
    (hm : h.get? m = some (mwObj x)) (hx : h.get? x = some ⟨.ref C, dx, .fields vs, sl⟩) (h0 : vs[0]? = some (.ref t0))
    (hq : Q .none ⟨(h.push { cls := .type "tuple", data := .seq [v].toArray }).update x (Obj.mapFields (·.setIfInBounds 0 (.ref h.objs.size))), g, d, t, os⟩) :
    wpAny (model prog w) A (call (.ref m) [v]) Q E ⟨h, g, d, t, os⟩ := by
  refine wpAny_call (codeAny_of_tree ?_)
  show wpAny _ A.in1 (callAny (.ref m) _) _ _ _
  unfold callAny
  refine wpAny_bind (wpAny_load hm ?_)
  show wpAny _ _ (checkBoundCall "Exception.__init__" ⟨[.ref x, v], []⟩ >>= fun _ => again (.builtin "Exception.__init__" ⟨[.ref x, v], []⟩)) _ _ _
  refine wpAny_bind (mw_check hC hx rfl ?_)
  refine wpAny_pure ⟨plainId_quiet PySem.F.excBase_Exception.init.plain _, codeAny_builtin PySem.F.excBase_Exception.initEntry ?_⟩
  unfold Builtin.«BaseException.__init__»
  have hx1 := Heap.get?_push_of_some { cls := .type "tuple", data := .seq [v].toArray } hx
  have hsz : 0 < vs.size := (Array.getElem?_eq_some_iff.mp h0).1
  unfold Builtin.BaseException.bexcPut
  repeat (first | (with_reducible refine wpAny_field hx1 rfl h0 ?_) | (with_reducible refine wpAny_setField hx1 rfl hsz ?_) | wp_step)
  all_goals exact hq
end
end
section
set_option maxRecDepth 100000
structure Fly (h₀ h : Heap) (e d C : Addr) (od : Obj) : Prop where
  e0 : h₀.get? e = none
  d0 : h₀.get? d = none
  nf : ∀ vs, od.data ≠ .fields vs
  dict : h.get? d = some od
  body : ∃ vs sl, h.get? e = some ⟨.ref C, some d, .fields vs, sl⟩ ∧ 1 < vs.size ∧
    (vs[1]? = some .none ∨ ∃ T oT ts, vs[1]? = some (.ref T) ∧ T ≠ e ∧ h₀.get? T = none ∧ h.get? T = some oT ∧ oT.data = .fields ts ∧ ts[3]? = some .none)
theorem Fly.mono {h₀ h₁ h : Heap} {e d C : Addr} {od : Obj} (X : Fly h₀ h e d C od) (k : ∀ b, h₀.get? b = none → h₁.get? b = none) : Fly h₁ h e d C od := by
  obtain ⟨a, b, c, d', vs, sl, x1, x2, x3⟩ := X
  refine ⟨k _ a, k _ b, c, d', vs, sl, x1, x2, ?_⟩
  rcases x3 with x | ⟨T, oT, ts, y1, y2, y3, y⟩
  · exact .inl x
  · exact .inr ⟨T, oT, ts, y1, y2, k _ y3, y⟩
structure Slo (S : List Addr) (h₀ h h' : Heap) : Prop where
  keep : ∀ b o, h₀.get? b ≠ none → h.get? b = some o → b ∉ S → h'.get? b = some o
  slots : ∀ b o, h.get? b = some o → b ∈ S → ∃ sl, h'.get? b = some { o with slots := sl }
section
variable {M : Model} {A : Around} {E : Value → Shared → Prop} {s : Shared}
theorem newEntry_own {base h₀ : Heap} {env : Env} {outer : List Env} {L e d C : Addr} {od : Obj} {vs : Array Value} {sl : Array (Option Value)} {head : Value} {hadNext : Bool} {Q : Unit → Shared → Prop}
    (hfr : A.frames = some (env :: outer)) (hl : s.heap.FunFrames base (env :: outer)) (hf : env.frame = some L) (e0 : h₀.get? e = none) (d0 : h₀.get? d = none) (nf : ∀ vs, od.data ≠ .fields vs)
    (he : s.heap.get? e = some ⟨.ref C, some d, .fields vs, sl⟩) (hsz : 1 < vs.size) (hd : s.heap.get? d = some od) (hdS : d ∉ (env :: outer).filterMap (·.frame)) (h0 : ∀ b, h₀.get? b ≠ none → s.heap.get? b ≠ none)
    (h : ∀ h', Fly h₀ h' e d C od → Slo ((env :: outer).filterMap (·.frame)) h₀ s.heap h' → Q () { s with heap := h' }) :
    wpAny M A (do let a ← frameOf env; let pl ← entryPlaceOf L hadNext; let b ← EntryCells.newEntry head a .none (rawInt L) .none pl; setField (.ref e) 1 b) (fun _ s' => wpAny M A (setFlight (.ref e) none) Q E s') E s := by
  have hes : e ∉ (env :: outer).filterMap (·.frame) := fun hm => by
    obtain ⟨_, o, ho, hnf⟩ := hl.mem hm
    rw [he] at ho; injection ho with ho; subst ho; exact hnf vs rfl
  have hde : d ≠ e := fun q => by rw [q, he] at hd; injection hd with hd; subst hd; exact nf _ rfl
  refine wpAny_bind (wpAny_frameOf_fun hfr hl hf fun h₁ hs₁ => ?_)
  refine wpAny_bind (wpAny_entryPlaceOf fun pl hpl => ?_)
  unfold EntryCells.newEntry newFields
  refine wpAny_bind (wpAny_newObj_type ?_ (hpl.sizeOk5 _ _ _ _ _))
  have he₁ : h₁.get? e = _ := (hs₁.2.1 e hes).trans he
  have hd₁ : h₁.get? d = _ := (hs₁.2.1 d hdS).trans hd
  have he₂ := Heap.get?_push_of_some (h := h₁) { cls := .type "traceback", dict := none, data := .fields ([head, .ref L, .none, rawInt L, .none] ++ (if pl.isEmpty then List.replicate 6 Value.none else pl)).toArray } he₁
  refine wpAny_setField he₂ rfl hsz ?_
  have hTe : h₁.objs.size ≠ e := Nat.ne_of_gt (Heap.lt_size he₁)
  have hTd : h₁.objs.size ≠ d := Nat.ne_of_gt (Heap.lt_size hd₁)
  have he₃ := Heap.get?_update_self (Obj.mapFields (·.setIfInBounds 1 (Value.ref h₁.objs.size))) he₂ (Obj.isFreed_of_fields (Obj.data_mapFields rfl _))
  have hT₃ := (Heap.get?_update_other (h₁.push { cls := .type "traceback", dict := none, data := .fields ([head, .ref L, .none, rawInt L, .none] ++ (if pl.isEmpty then List.replicate 6 Value.none else pl)).toArray })
    (Obj.mapFields (·.setIfInBounds 1 (Value.ref h₁.objs.size))) (Ne.symm hTe)).trans (Heap.get?_push_size h₁ rfl)
  unfold setFlight
  refine wpAny_bind (wpAny_field he₃ (Obj.data_mapFields rfl _) (x := .ref h₁.objs.size) (by simp [hsz]) ?_)
  rw [if_pos (show (Value.ref h₁.objs.size != Value.none) = true from by simp)]
  refine wpAny_setField hT₃ rfl (by simp only [List.size_toArray, List.length_append, List.length_cons, List.length_nil] <;> exact lin0 [_] [] (.nlt (.K 3) (.P (.P (.P (.P (.P (.P (.K 0) (.K 1)) (.K 1)) (.K 1)) (.K 1)) (.K 1)) (.V 0))) [[1]]  okT) (h _ ?_ ?_)
  all_goals
    have keep : ∀ b o, b ≠ e → h₁.get? b = some o →
        (((h₁.push { cls := .type "traceback", dict := none, data := .fields ([head, .ref L, .none, rawInt L, .none] ++ (if pl.isEmpty then List.replicate 6 Value.none else pl)).toArray }).update e (Obj.mapFields (·.setIfInBounds 1 (Value.ref h₁.objs.size)))).update h₁.objs.size
          (Obj.mapFields (·.setIfInBounds 3 ((none : Option Addr).elim Value.none fun f => rawInt f)))).get? b = some o := fun b o hbe hb => by
      have hbT : h₁.objs.size ≠ b := Nat.ne_of_gt (Heap.lt_size hb)
      rw [Heap.get?_update_other _ _ hbT, Heap.get?_update_other _ _ (Ne.symm hbe)]
      exact Heap.get?_push_of_some _ hb
  · refine ⟨e0, d0, nf, keep _ _ hde hd₁, vs.setIfInBounds 1 (.ref h₁.objs.size), sl, ?_, ?_, .inr ⟨h₁.objs.size, _, _, ?_, hTe, ?_, Heap.get?_update_self _ hT₃ (Obj.isFreed_of_fields (Obj.data_mapFields rfl _)), Obj.data_mapFields rfl _, ?_⟩⟩
    · rw [Heap.get?_update_other _ _ hTe]; exact he₃
    · simpa using hsz
    · simp [hsz]
    · cases q : h₀.get? h₁.objs.size with
      | none => rfl
      | some o =>
        have := h0 h₁.objs.size (by rw [q]; intro z; cases z)
        have hs : h₁.objs.size = s.heap.objs.size := hs₁.1
        rw [hs] at this
        cases z : s.heap.get? s.heap.objs.size with
        | none => exact absurd z this
        | some o => exact absurd (Heap.lt_size z) (Nat.lt_irrefl _)
    · first | (simp; done) | (rcases hpl with rfl | ⟨_, _, _, _, _, _, _, rfl⟩ <;> simp)
  · refine ⟨fun b o h0b hb hS => ?_, fun b o hb hS => ?_⟩
    · exact keep b o (fun q => by rw [q] at h0b; exact h0b e0) ((hs₁.2.1 b hS).trans hb)
    · refine x1_1 (hs₁.2.2 b o hb) fun sl' e' => ?_
      exact ⟨sl', keep b _ (fun q => hes (q ▸ hS)) e'⟩
theorem note_own {base h₀ : Heap} {env : Env} {outer : List Env} {L e d C : Addr} {od : Obj} {Q : Unit → Shared → Prop}
    (hfr : A.frames = some (env :: outer)) (hl : s.heap.FunFrames base (env :: outer)) (hf : env.frame = some L) (X : Fly h₀ s.heap e d C od) (hdS : d ∉ (env :: outer).filterMap (·.frame)) (h0 : ∀ b, h₀.get? b ≠ none → s.heap.get? b ≠ none)
    (h : ∀ h', Fly h₀ h' e d C od → Slo ((env :: outer).filterMap (·.frame)) h₀ s.heap h' → Q () { s with heap := h' }) :
    wpAny M A (noteFrame (.ref e) env) (fun _ s' => wpAny M A (setFlight (.ref e) none) Q E s') E s := by
  obtain ⟨e0, d0, nf, hd, vs, sl, he, hsz, hT⟩ := X
  unfold noteFrame
  simp only [hf]
  rcases hT with h1 | ⟨T, oT, ts, h1, hTe, hT0, hT, hdT, h3⟩
  · refine wpAny_bind (wpAny_field he rfl h1 ?_)
    rw [if_neg (by decide)]
    exact newEntry_own hfr hl hf e0 d0 nf he hsz hd hdS h0 h
  · refine wpAny_bind (wpAny_field he rfl h1 ?_)
    rw [if_pos (show (Value.ref T != Value.none) = true from by simp)]
    refine wpAny_bind (wpAny_field hT hdT h3 ?_)
    rw [if_neg (show ¬ ((Value.none == rawInt L) = true) from by simp [rawInt])]
    refine wpAny_bind (wpAny_setField hT hdT (Array.getElem?_eq_some_iff.mp h3).1 ?_)
    have other : ∀ b, b ≠ T → (s.heap.update T (Obj.mapFields (·.setIfInBounds 3 Value.none))).get? b = s.heap.get? b := fun b hb => Heap.get?_update_other _ _ (Ne.symm hb)
    have noRecord : ∀ b o, s.heap.get? b = some o → (∀ vs, o.data ≠ .fields vs) → b ≠ T := fun b o hb hnf q => by
      rw [q, hT] at hb; injection hb with hb; subst hb; exact hnf ts hdT
    have hS : T ∉ (env :: outer).filterMap (·.frame) := fun hm => by
      obtain ⟨_, o, ho, hnf⟩ := hl.mem hm
      exact noRecord T o ho hnf rfl
    have n0 : ∀ b, h₀.get? b ≠ none → b ≠ T := fun b hb q => hb (q ▸ hT0)
    refine newEntry_own hfr (hl.of_keeps fun b o hb hnf => ⟨o, (other b (noRecord b o hb hnf)).trans hb, rfl⟩) hf e0 d0 nf ((other e (Ne.symm hTe)).trans he) hsz ((other d (noRecord d od hd nf)).trans hd) hdS (fun b hb => ?_) (fun h' X' Z => h h' X' ⟨fun b o b0 hb hbS => Z.keep b o b0 ((other b (n0 b b0)).trans hb) hbS, fun b o hb hbS => Z.slots b o ((other b (fun q => hS (q ▸ hbS))).trans hb) hbS⟩)
    show (s.heap.update T _).get? b ≠ none
    rw [other b (n0 b hb)]; exact h0 b hb
theorem leave_own {base h₀ : Heap} {env : Env} {outer : List Env} {L e d C : Addr} {od : Obj} {Q : Unit → Shared → Prop}
    (hfr : A.frames = some (env :: outer)) (hl : s.heap.FunFrames base (env :: outer)) (hf : env.frame = some L) (X : Fly h₀ s.heap e d C od) (hdS : d ∉ (env :: outer).filterMap (·.frame)) (h0 : ∀ b, h₀.get? b ≠ none → s.heap.get? b ≠ none)
    (h : ∀ h', Fly h₀ h' e d C od → Slo ((env :: outer).filterMap (·.frame)) h₀ s.heap h' → Q () { s with heap := h' }) :
    wpAny M A (leaving env (.ref e)) Q E s := wpAny_bind (note_own hfr hl hf X hdS h0 h)
end
end
section
set_option maxRecDepth 100000
theorem fill_Re : PySem.Challenge.rw_pb0535_01 = PySem.Challenge.rw_pb0535_01 ∧ Mine.hd.heap_1 = Mine.hd.heap_1 := by k_fill; exact ⟨rfl, rfl⟩
theorem exc_hB_number : typeLookup (.type "Exception") "number" = pure none := by rw [typeLookup_type, builtinLookup_eq_fast]; kernel_rfl
theorem exc_hB_told : typeLookup (.type "Exception") "told" = pure none := by rw [typeLookup_type, builtinLookup_eq_fast]; kernel_rfl
theorem ns_some_of {K : Frag} {h : Heap} {N : Addr} {mg : Str → Option Value} {n : Str} {v : Value} (X : K.In h) (G : h.Ns N mg) (e : nsIn K N n = some (some v)) : mg n = some v := by
  refine x3_4 G ?_; (try clear G); intro o es ep ho hd _ hf
  unfold nsIn at e
  split at e
  · rename_i c d es' n' sl q
    have := X _ _ q
    rw [ho] at this
    cases this
    cases hd
    split at e
    · rename_i en he
      cases e
      rw [← hf]
      unfold nsFind findBy
      rw [← Array.find?_toList, he]
      rfl
    · split at e <;> cases e
  · cases e
noncomputable abbrev excMro : List Value := [.type "Exception", .type "BaseException", .type "object"]
theorem excOut (w : World) {P : Prop} (k : ∀ nm q bs sn sub ab col dd k0 k1 k2 k3 k5, (Mine.hd.heap_1 w.params).lookup 34 = some (excClassObj nm q 34 33 bs excMro true sn sub ab col dd k0 k1 k2 k3 k5 "Exception.__new__") → P) : P := k _ _ _ _ _ _ _ _ _ _ _ _ _ (by k_is)
structure ExcN (h : Heap) (mN : Str → Option Value) : Prop where
  ns : h.Ns 33 mN
  init : mN "__init__" = some (.ref 31)
  sa : mN "__setattr__" = none
  num : mN "number" = none
  told : mN "told" = none
  ga : mN "__getattribute__" = none
  gt : mN "__getattr__" = none
theorem excNs (w : World) {h : Heap} (X : (Mine.hd.heap_1 w.params).In h) : ∃ mN, ExcN h mN := by
  have ok : nsOkIn (Mine.hd.heap_1 w.params) 33 = true := by kernel_rfl
  have n := isNs_of_in X ok
  have e : ∀ x : Str, nsIn (Mine.hd.heap_1 w.params) 33 x = some none → h.nsMap 33 x = none := fun x q => nsMap_none_of_in X ok q
  exact ⟨h.nsMap 33, .of_isNs n, ns_some_of X (.of_isNs n) (by k_is), e _ (by k_is), e _ (by k_is), e _ (by k_is), e _ (by k_is), e _ (by k_is)⟩
theorem ExcN.keeps {h h' : Heap} {mN : Str → Option Value} (N : ExcN h mN) (k : ∀ b o, h.get? b = some o → h'.get? b = some o) : ExcN h' mN := ⟨N.ns.keeps k, N.init, N.sa, N.num, N.told, N.ga, N.gt⟩
end
section
open Builtin Builtin.ObjectAttr
set_option maxRecDepth 100000
section
variable {prog : Program} {w : World} {A : Around} {E : Value → Shared → Prop} {h : Heap} {g : Array GenState} {d : Drawn} {t : Nat} {os : OsState}
variable {nm q : Str} {C N x : Addr} {bs bm : List Value} {sn : List Str} {sub : List Value} {ab : Bool} {col : Option Bool} {dd : Option Addr} {k0 k1 k2 k3 k5 : Option Value} {newId B sa owner : String}
  {mN : Str → Option Value} {name : Str} {v : Value} {sl : Array (Option Value)} {fvs : Array Value}
theorem first_entry (SF : StoreFacts B bm sa owner) {tk : Tok} {o : Obj} {Q : Fin → Shared → Prop}
    (hC : h.get? C = some (excClassObj nm q C N bs bm true sn sub ab col dd k0 k1 k2 k3 k5 newId)) (hn : h.Ns N mN) (hna : mN name = none)
    (hB : typeLookup (.type B) name = pure none) (hx : h.get? x = some o) (hc : o.cls = .ref C) (hdn : o.dict = none) (hdt : o.data = .fields fvs)
    (hq : ∀ h' dx tk', h.get? dx = none → h'.get? x = some { o with dict := some dx } → h'.Ns1 dx (fun y => if y = name then some v else none) → (∀ b o, b ≠ x → h.get? b = some o → h'.get? b = some o) → Q (.done (.ret .none)) ⟨h', g, d, tk', os⟩) :
    wpAny (model prog w) A (Builtin.«object.__setattr__» ⟨[.ref x, .str name tk, v], []⟩) Q E ⟨h, g, d, t, os⟩ := by
  have hpass := SF.passes (.ref x)
  have hxs : x ≠ h.objs.size := Nat.ne_of_lt (Heap.lt_size hx)
  have hx₁ : (h.push { cls := .type "dict", data := .dict #[] }).get? x = some o := Heap.get?_push_of_some _ hx
  have hgd : ((h.push { cls := .type "dict", data := .dict #[] }).update x fun o => { cls := o.cls, dict := some h.objs.size, data := o.data, slots := o.slots }).get? h.objs.size
      = some { cls := .type "dict", data := .dict #[] } :=
    (Heap.get?_update_ne _ _ _ _ hxs.symm).trans (Heap.get?_push_at rfl rfl)
  have hnd : ((h.push { cls := .type "dict", data := .dict #[] }).update x fun o => { cls := o.cls, dict := some h.objs.size, data := o.data, slots := o.slots }).Ns h.objs.size (fun _ => none) :=
    ⟨_, #[], _, hgd, rfl, fun e he => absurd he (by simp), fun _ => rfl⟩
  have hd0 : h.get? h.objs.size = none := by
    exact new_none h
  unfold Builtin.«object.__setattr__»
  repeat (first | rw [refuse_eq] | (rw [refuseLoop_ref, hpass]) | (with_reducible refine wpAny_loadPart_at hx ?_; rewrite [hc]) | with_reducible refine wpAny_mroOf_exc hC ?_ | (with_reducible refine wpAny_typeLookup_exc hC hn SF.mro hB ?_; rw [hna]) | wp_step)
  rw [hdn, if_neg (by simp [typeHasDict])]
  split
  · rename_i hcd
    cases hcd
  split
  · rename_i c hcd
    rw [hdt] at hcd; cases hcd
  · refine wpAny_bind (wpAny_alloc' ?_)
    refine wpAny_bind (wpAny_update' hx₁ ?_)
    refine wpAny_pure ?_
    show wpAny _ _ (storeInDict h.objs.size (.str name tk) name v) _ _ _
    unfold storeInDict newKeyGuard
    refine wpAny_bind (wpAny_pure (wpAny_bind (wpAny_nsSet1 (Heap.Ns1.of_empty hnd) fun h' hn' hs => ?_)))
    refine x3_3 (hn'.count (Within.cons name v Within.nil)) fun oD esD epD hoD hdD hcD => ?_
    refine wpAny_bind (wpAny_lookBehind hoD (by rw [hdD]; exact pastItsLine_dict (Nat.le_trans hcD (by rw [List.length_cons, List.length_nil, sizeLine_eq]; exact lin0 [] [] (.nle (.P (.K 0) (.K 1)) (.P (.K 16777216) (.K 1))) [[1]]  okT))) ?_)
    wp_walk
    have hx' : h'.get? x = some { o with dict := some h.objs.size } := by
      refine (hs.2 x hxs).trans (Heap.get?_update_self _ hx₁ ?_)
      show Obj.isFreed _ = false
      obtain ⟨oc, od, odt, osl⟩ := o
      cases hdt; rfl
    exact hq h' h.objs.size _ hd0 hx' hn' fun b ob hbx hb => (hs.2 b (Nat.ne_of_lt (Heap.lt_size hb))).trans ((Heap.get?_update_ne _ _ _ _ hbx).trans (Heap.get?_push_of_some _ hb))
theorem first_store (SF : StoreFacts B bm sa owner) {o : Obj} {Q : Unit → Shared → Prop}
    (hC : h.get? C = some (excClassObj nm q C N bs bm true sn sub ab col dd k0 k1 k2 k3 k5 newId)) (hn : h.Ns N mN) (hns : mN "__setattr__" = none) (hna : mN name = none)
    (hB : typeLookup (.type B) name = pure none) (hx : h.get? x = some o) (hc : o.cls = .ref C) (hdn : o.dict = none) (hdt : o.data = .fields fvs)
    (hq : ∀ h' dx tk', h.get? dx = none → h'.get? x = some { o with dict := some dx } → h'.Ns1 dx (fun y => if y = name then some v else none) → (∀ b o, b ≠ x → h.get? b = some o → h'.get? b = some o) → Q () ⟨h', g, d, tk', os⟩) :
    wpAny (model prog w) A (setAttr (.ref x) name v) Q E ⟨h, g, d, t, os⟩ := by
  have f3 := SF.slot.bind (.ref x)
  unfold setAttr callSpecial? specialOf
  repeat (first | (with_reducible refine wpAny_loadPart_at hx ?_; rewrite [hc]) | (with_reducible refine wpAny_typeLookup_exc hC hn SF.mro SF.slot.lookup ?_; rewrite [hns]) | (rewrite [f3]) | wp_step)
  show codeAny _ _ (Code.call (.builtin sa) ⟨[.ref x, .str name t, v], []⟩) _ _
  refine codeAny_call_builtin SF.slot.plain SF.entry ?_
  refine wpAny_check_sa SF hC hx hc ?_
  refine first_entry SF hC hn hna hB hx hc hdn hdt fun h' dx tk' a b c e => ?_
  repeat wp_step
  exact hq h' dx tk' a b c e
end
end
section
set_option maxRecDepth 100000
theorem fill_Rf : PySem.Challenge.rw_pb0535_01 = PySem.Challenge.rw_pb0535_01 ∧ Mine.hd.heap_1 = Mine.hd.heap_1 := by k_fill; exact ⟨rfl, rfl⟩
theorem enterS {w : World} {A : Around} {h : Heap} {s : Shared} {tk : Nat} {R : Result → Shared → Prop} {name qual : Str} {params : Arguments} {body : List Stmt} {scope : Scope} {dV kV doc pm cdv ct oc : Value} {an od : Option Addr} {osl : Array (Option Value)} {f cc : Addr} {args : Args}
    {binds : List (Str × Value)} (X : (Mine.hd.heap_1 w.params).In h) (lim : h.NoLimit)
    (ho : (Mine.hd.heap_1 w.params).lookup f = some ⟨oc, od, .func (ksFn name qual params body scope dV kV doc pm an cdv ct cc), osl⟩)
    (hcd : codeIn (Mine.hd.heap_1 w.params) cdv qual = true) (hroom : A.depth < recursionLimit)
    (hbind : BindsTo (St s h tk) (ksFn name qual params body scope dV kV doc pm an cdv ct cc) args binds) (hloc : ∀ y ∈ binds, scope.names.lookup y.1 = some .local) (hcell : ∀ x ∈ scope.names, x.2 ≠ .cell)
    (k : ∀ L h₁ tk', h₁.Ns L (fun x => binds.reverse.lookup x) → h.StaysIn h₁ → h.get? L = none →
      _root_.PySem.wpAt (model pg w) (A.deeper (ksEnv qual scope L f cdv cc)) (.func body (ksEnv qual scope L f cdv cc)) (execs body (ksEnv qual scope L f cdv cc)) (fun fl s' => R (.ok (.ret (retv fl))) s') (fun _ _ => False) (St s h₁ tk'))
    (hco : scope.isCoroutine = false) (hgen : scope.isGenerator = false) (hkd : scope.kind = .function) :
    codeAny (model pg w) A (.call (.ref f) args) R (St s h tk) := by
  refine ks_codeAny_call_defAt (s := St s h tk) (fd := ksFn name qual params body scope dV kV doc pm an cdv ct cc) (body := body) (binds := binds) hroom (X _ _ ho) rfl lim (codeRec_of X hcd) rfl hbind hcell hloc (fun h₁ hns hk₁ => ?_) hco hgen hkd
  have hL : h.get? h.objs.size = none := by
    exact new_none h
  exact ks_wpAt_mono (k h.objs.size h₁ _ hns hk₁ hL) (fun fl s' q => by cases fl <;> exact q) fun _ _ z => z.elim

theorem exc_super {w : World} {A : Around} {mg mb : Str → Option Value} {h : Heap} {s : Shared} {tk : Nat} {E : Value → Shared → Prop} {body : List Stmt} {q : Str} {scope : Scope} {L e t0 cda : Addr} {m : Str → Option Value} {p0 p1 : Pos} {whole : Sem Value} {fd : FuncData} {ar : Arg} {vs : Array Value} {file : Str} {tf : Tok} {oc ccl cl : Value} {od cdd cld : Option Addr} {osl ccs csl : Array (Option Value)} {Q : Value → Shared → Prop}
  {nm qn : Str} {bs : List Value} {sn : List Str} {sub : List Value} {ab : Bool} {col : Option Bool} {dd : Option Addr} {k0 k1 k2 k3 k5 : Option Value}
    (G : Gl w mg mb h) (hns : h.Ns L m) (he : h.get? e = some (excObj 34 t0)) (hC : h.get? 34 = some (excClassObj nm qn 34 33 bs excMro true sn sub ab col dd k0 k1 k2 k3 k5 "Exception.__new__"))
    (hf : (Mine.hd.heap_1 w.params).lookup 31 = some ⟨oc, od, .func fd, osl⟩) (hp : (fd.params.posonlyargs ++ fd.params.args).head? = some ar) (hv : m ar.arg = some (.ref e))
    (hcode : (Mine.hd.heap_1 w.params).lookup cda = some ⟨ccl, cdd, .fields vs, ccs⟩) (hvs : vs[2]? = some (.str file tf)) (hfile : ((pg.main.file : Str) == file) = true)
    (hcell : (Mine.hd.heap_1 w.params).lookup 18 = some ⟨cl, cld, .cell (some (.ref 34)), csl⟩) (hsub : mroIn (Mine.hd.heap_1 w.params) 34 (.ref 34) = some true) (hsuper : nsIn (Mine.hd.heap_1 w.params) mainGlobals "super" = some none)
    (hks : scope.names.lookup ("super" : Str) = some .globalImplicit) (hkc : scope.names.lookup ("__class__" : Str) = some .free) (hka : scope.names.lookup ar.arg = some .local) (hk : scope.kind = .function)
    (htop : (pg.main.scope.names.lookup ("super" : Str)).isSome = false) (hboot : bootBuiltins "super" = some (.type "super"))
    (k : ∀ so h', h'.get? so = some { cls := .type "super", dict := none, data := .fields #[.ref 34, .ref e, .ref 34], slots := #[] } → h.get? so = none → h.StaysIn h' → Q (.ref so) (St s h' tk)) :
    _root_.PySem.wpAt (model pg w) A (.func body (ksEnv q scope L 31 (.ref cda) 18)) (attributeBase (.Call (.Name "super" p0) [] [] p1) "__init__" (ksEnv q scope L 31 (.ref cda) 18) whole) Q E (St s h tk) := by
  have X := G.X
  refine ks_wpAt_super_base (env := ksEnv q scope L 31 (.ref cda) 18) hks hkc (by decide) rfl (X _ _ hf) rfl hp rfl (X _ _ hcode) rfl hvs hfile htop ?_
  refine ks_loadName_global hk hks (loadGlobal_builtin (env := ksEnv q scope L 31 (.ref cda) 18) G.g (mg_none_of X G.g hsuper) G.b ((G.bi _ (by decide +kernel)).trans hboot) ⟨rfl, ?_⟩)
  refine wpAny_loadName_free hk hkc rfl ⟨_, X _ _ hcell, rfl⟩ ?_
  refine wpAny_loadName_local hk hka hns hv ?_
  refine ks_wpAny_isType_cls hC rfl ⟨rfl, ?_⟩
  refine ks_wpAny_call_super hC rfl he rfl (fun c e => nomatch e) (looks_mroIn X hsub) (fun h' e' k' => k _ h' e' ?_ k')
  exact new_none h

theorem mw_call' {w : World} {A : Around} {E : Value → Shared → Prop} {h : Heap} {s : Shared} {tk : Nat} {m x C N : Addr} {v : Value} {dx : Option Addr} {vs : Array Value} {t0 : Addr} {sl : Array (Option Value)} {Q : Value → Shared → Prop}
  {nm q : Str} {bs : List Value} {hdct : Bool} {sn : List Str} {sub : List Value} {ab : Bool} {col : Option Bool} {dd : Option Addr} {k0 k1 k2 k3 k5 : Option Value} {newId : String}
    (hC : h.get? C = some (excClassObj nm q C N bs excMro hdct sn sub ab col dd k0 k1 k2 k3 k5 newId))
    (hm : h.get? m = some (mwObj x)) (hx : h.get? x = some ⟨.ref C, dx, .fields vs, sl⟩) (h0 : vs[0]? = some (.ref t0))
    (hq : ∀ h' t1, (∀ b o, b ≠ x → h.get? b = some o → h'.get? b = some o) → h'.get? x = some ⟨.ref C, dx, .fields (vs.setIfInBounds 0 (.ref t1)), sl⟩ → Q .none (St s h' tk)) :
    wpAny (model pg w) A (call (.ref m) [v]) Q E (St s h tk) :=
  mw_call (h := h) hC hm hx h0 (hq _ h.objs.size (fun b o hb z => by
    rw [Heap.get?_update_other _ _ (Ne.symm hb)]
    exact Heap.get?_push_of_some _ z) (Heap.get?_update_self _ (Heap.get?_push_of_some _ hx) rfl))

theorem c_exc {w : World} {A : Around} {mg mb : Str → Option Value} {g h : Heap} {s : Shared} {tk : Nat} {Q E : Value → Shared → Prop} {num : Int} {u v : Tok} {told : Str} (G : Gl w mg mb g) (hk : g.StaysIn h) (R : Rm A 2)
    (ret : ∀ e d od mA h' tk', h.StaysIn h' → Fly h h' e d 34 od → h'.Ns1 d mA → mA "number" = some (.int num u) → (∃ t1, h'.get? e = some ⟨.ref 34, some d, .fields #[.ref t1, .none, .none, .none, .bool false, .none], #[]⟩) → Q (.ref e) (St s h' tk')) :
    wpAny (model pg w) A (call (.ref 34) [.int num u, .str told v]) Q E (St s h tk) := by
  refine excOut w fun nm q bs sn sub ab col dd k0 k1 k2 k3 k5 hoC => ?_
  have X : (Mine.hd.heap_1 w.params).In h := G.X.keeps hk
  refine x1_1 (excNs w X) fun mN N => ?_
  have hC := X _ _ hoC
  refine wpAny_call (call_excI PySem.F.excBase_Exception hC N.ns N.init (fun self => bind_fn X self (by k_is)) (Nat.le_of_ble_eq_true rfl) ?_)
  have K1 : h.StaysIn ((h.push { cls := .type "tuple", data := .seq [Value.int num u, .str told v].toArray }).push (excObj 34 h.objs.size)) := fun b o e => Heap.get?_push_of_some _ (Heap.get?_push_of_some _ e)
  have he : ((h.push { cls := .type "tuple", data := .seq [Value.int num u, .str told v].toArray }).push (excObj 34 h.objs.size)).get? (h.objs.size + 1) = some (excObj 34 h.objs.size) := by
    have := Heap.get?_push_size (h.push { cls := .type "tuple", data := .seq [Value.int num u, .str told v].toArray }) (o := excObj 34 h.objs.size) rfl
    rwa [Heap.size_push] at this
  have e0 : h.get? (h.objs.size + 1) = none := none_ge (Nat.le_succ _)
  have t00 : h.get? h.objs.size = none := by
    exact new_none h
  generalize h.objs.size + 1 = e at *
  generalize h.objs.size = t0 at *
  generalize (h.push { cls := .type "tuple", data := .seq [Value.int num u, .str told v].toArray }).push (excObj 34 t0) = h1 at *
  refine enterS (s := s) (h := h1) (tk := tk) (binds := [(Str.ofString "self", .ref e), (Str.ofString "number", .int num u), (Str.ofString "told", .str told v)]) (X.keeps K1) ((G.lim.keeps hk).keeps K1) (by k_is) (by k_is) (by show (A.under _).depth < _; rw [depth_under_make]; have := R.d; exact lin1 [_, PySem.recursionLimit] [] (.nlt (.P (.V 0) (.K 2)) (.V 1)) (.nlt (.P (.V 0) (.K 1)) (.V 1)) [[1, 1]] this okT) (binds_K (X.keeps K1) rfl (by k_is) rfl rfl rfl) (locs rfl) (by decide) ?_ (by rfl) (by rfl) (by rfl)
  intro L h2 tk2 hns K2 hL
  have X2 := (X.keeps K1).keeps K2
  have N2 := (N.keeps K1).keeps K2
  have G2 := ((G.keeps hk).keeps K1).keeps K2
  have hC2 := K2 _ _ (K1 _ _ hC)
  have he2 := K2 _ _ he
  refine ks_wpAt_execs_cons (ks_wpAt_Expr_any (ks_wpAt_MethodCall ?_ rfl))
  refine exc_super (s := s) (tk := tk2) G2 hns he2 hC2 (by k_is) rfl rfl (by k_is) rfl (by kernel_rfl) (by k_is) (by k_is) (by k_is) rfl rfl rfl rfl (by kernel_rfl) (by kernel_rfl) ?_
  intro so h3 hso so0 K3
  have G3 := G2.keeps K3
  have he3 := K3 _ _ he2
  have hC3 := K3 _ _ hC2
  have heC : e ≠ 34 := (ne_none hC e0).symm
  refine sup_method (K := (Mine.hd.heap_1 w.params)) hso (looks_opaque G3.X (by k_is)) hC3 (by decide) G3.X (by kernel_rfl) he3 rfl heC ?_
  have K4 : h3.StaysIn (h3.push (mwObj e)) := fun b o q => Heap.get?_push_of_some _ q
  have hm4 : (h3.push (mwObj e)).get? h3.objs.size = some (mwObj e) := Heap.get?_push_size _ rfl
  have m0 : h3.get? h3.objs.size = none := by
    exact new_none h3
  generalize h3.push (mwObj e) = h4 at *
  generalize h3.objs.size = m at *
  refine callWith_of (P := fun H => H.get? m = some (mwObj e)) (by rfl) (fun H hm => ⟨.machine, .inr (.inl rfl), ?_⟩) (ev_args rfl (evs_cons (Constant_str (evs_nil ⟨hm4, ?_⟩))))
  · intro A' Q' E' s' k' q'
    unfold keeperOf
    refine wpAny_bind (wpAny_load (k' _ _ hm) ?_)
    show wpAny _ _ (if _ then pure (if _ then _ else _) else _) _ _ _
    rw [if_pos (show ((Value.type "method-wrapper") != Value.type "method") = true by decide), if_pos (show (Value.type "method-wrapper" == Value.type "builtin_function_or_method" || Value.type "method-wrapper" == Value.type "method-wrapper") = true by decide)]
    exact wpAny_pure q'
  refine mw_call' (s := s) (K4 _ _ hC3) hm4 (K4 _ _ he3) rfl fun h5 t1 K5 he5 => ?_
  have hL2 : ∀ b o, h1.get? b = some o → b ≠ e → h5.get? b = some o := fun b o z hb => K5 b o hb (K4 _ _ (K3 _ _ (K2 _ _ z)))
  have hLe : L ≠ e := fun z => by rw [z, he] at hL; cases hL
  have ns5 : h5.Ns L (fun x => [(Str.ofString "self", Value.ref e), (Str.ofString "number", Value.int num u), (Str.ofString "told", Value.str told v)].reverse.lookup x) := by
    refine x3_2 hns ?_; (try clear hns); intro oL es ep z r
    exact ⟨oL, es, ep, K5 _ _ hLe (K4 _ _ (K3 _ _ z)), r⟩
  have N5 : ExcN h5 mN := by
    refine ⟨?_, N.init, N.sa, N.num, N.told, N.ga, N.gt⟩
    refine x3_2 (N.ns) fun oN es ep z r => ?_
    exact ⟨oN, es, ep, hL2 _ _ (K1 _ _ z) (ne_none z e0), r⟩
  have hC5 := hL2 _ _ (K1 _ _ hC) (Ne.symm heC)
  refine wpAt_of_wpAny ?_
  refine m_cons (x_asgattr rfl (wpAny_Name (wpAny_loadName_local rfl rfl ns5 rfl ?_) rfl))
  refine wpAny_Name (wpAny_loadName_local rfl rfl ns5 rfl ?_) rfl
  refine first_store (h := h5) PySem.F.store_Exception hC5 N5.ns N5.sa N5.num exc_hB_number he5 rfl rfl rfl fun h6 d tk6 d0 he6 nd6 K6 => ?_
  have N6 : ExcN h6 mN := by
    refine ⟨?_, N5.init, N5.sa, N5.num, N5.told, N5.ga, N5.gt⟩
    refine x3_2 (N5.ns) fun oN es ep z r => ?_
    exact ⟨oN, es, ep, K6 _ _ (fun y => by
      refine x3_2 (N.ns) fun oN' es' ep' z' _ => ?_
      rw [y, e0] at z'; cases z') z, r⟩
  have hC6 := K6 _ _ (Ne.symm heC) hC5
  have ns6 : h6.Ns L (fun x => [(Str.ofString "self", Value.ref e), (Str.ofString "number", Value.int num u), (Str.ofString "told", Value.str told v)].reverse.lookup x) := by
    refine x3_2 ns5 ?_; (try clear ns5); intro oL es ep z r
    exact ⟨oL, es, ep, K6 _ _ hLe z, r⟩
  have hde : d ≠ e := (ne_none he5 d0).symm
  refine m_last (x_asgattr rfl (wpAny_Name (wpAny_loadName_local rfl rfl ns6 rfl ?_) rfl))
  refine wpAny_Name (wpAny_loadName_local rfl rfl ns6 rfl ?_) rfl
  refine store_attr (h := h6) (ns := [Str.ofString "number"]) PySem.F.store_Exception hC6 N6.ns N6.sa N6.told exc_hB_told heC (mA := fun y => if y = Str.ofString "number" then some (.int num u) else none) ⟨_, he6, rfl, (fun c z => nomatch z), .inr ⟨d, rfl, hde, nd6⟩⟩ (fun h7 tk7 I7 K7 S7 => ?_) (fun y hy => ?_) (Nat.le_of_ble_eq_true rfl)
  · obtain ⟨⟨oc, odd, oda, osl⟩, g1, g2, g3, g4, g5⟩ := S7 _ he6
    obtain rfl := g2
    obtain rfl := g3
    obtain rfl := g4
    obtain rfl := g5 d rfl
    refine x1_4 I7 ?_; (try clear I7); intro o' z _ _ y
    rw [g1] at z
    cases z
    rcases y with ⟨y, _⟩ | ⟨d', y, _, nd7⟩
    · cases y
    cases y
    have hst : h.StaysIn h5 := fun b o z => hL2 _ _ (K1 _ _ z) (ne_none z e0)
    have st : h.StaysIn h7 := fun b o z => by
      have be := ne_none z e0
      refine K7 b o be (fun o₀ dx a1 a2 q => ?_) (K6 b o be (hst b o z))
      rw [he6] at a1
      cases a1; cases a2
      have := hst b o z
      rw [q, d0] at this; cases this
    refine x3_3 (id nd7) fun oD es ep hD hDd r => ?_
    refine ⟨rfl, ret e d oD _ h7 tk7 st ⟨e0, ?_, (fun vs z => by rw [hDd] at z; cases z), hD, _, _, g1, (Nat.le_of_ble_eq_true rfl : 2 ≤ 6), .inl rfl⟩ nd7 ?_ ⟨t1, g1⟩⟩
    · cases z : h.get? d with
      | none => rfl
      | some o => rw [hst _ _ z] at d0; cases d0
    · rw [if_neg (by decide), if_pos rfl]
  · by_cases z : y = Str.ofString "number"
    · rw [z]; exact .head _
    · exact absurd (if_neg z) hy
end
section
set_option maxRecDepth 100000
section
variable {M : Model} {A : Around} {E : Value → Shared → Prop} {s : Shared} {env : Env}
variable {nm q : Str} {C N : Addr} {bs bm : List Value} {hdct : Bool} {sn : List Str} {sub : List Value} {ab : Bool} {col : Option Bool} {dd : Option Addr} {k0 k1 k2 k3 k5 : Option Value} {newId : String}
theorem raise_made {x : Sem Value} {Q : Flow → Shared → Prop} (hbase : bm.contains (.type "BaseException") = true) (hh : A.handled = none)
    (h : wpAny M A x (fun v s₁ => ∃ e t d, v = .ref e ∧ s₁.heap.get? C = some (excClassObj nm q C N bs bm hdct sn sub ab col dd k0 k1 k2 k3 k5 newId) ∧
      s₁.heap.get? e = some ⟨.ref C, some d, .fields #[.ref t, .none, .none, .none, .bool false, .none], #[]⟩ ∧ E (.ref e) s₁) E s) :
    wpAny M A (raiseStmt env (some x) none) Q E s := by
  have hcB : (Value.ref C :: bm).contains (.type "BaseException") = true := by rw [List.contains_cons, hbase, Bool.or_true]
  unfold raiseStmt
  refine wpAny_bind (wpAny_mono h (fun v s₁ h₁ => ?_) fun _ _ x => x)
  refine x3_4 h₁ ?_; (try clear h₁); intro e t d zq3 hC he hE; subst zq3
  obtain ⟨hp, g, d, tk, os⟩ := s₁
  repeat (first | with_reducible refine wpAny_loadPart_at he ?_ | with_reducible refine wpAny_loadPart_at hC ?_ | (with_reducible refine wpAny_isSubtype_exc hC ?_; rw [hcB]) | wp_step)
  exact wpAny_raiseNew_none hh hE
end
section
variable {w : World} {mg mb : Str → Option Value} {B : Heap} {A : Around} {E : Value → Shared → Prop} {s : Shared} {env : Env} {L : Addr} {h : Heap} {tk : Nat} {ns : List (Str × NameKind)} {vs vs' : List (Option Value)} {news news' : List (Addr × Obj)} {fs : List Fact}
theorem x_raise {e : Expr} {pos : Pos} {Q : Flow → Shared → Prop} {s : Shared} (hh : A.handled = none)
    (k : wpAny (model pg w) A (eval e env) (fun v s₁ => ∃ ex t d, v = .ref ex ∧ (Mine.hd.heap_1 w.params).In s₁.heap ∧ s₁.heap.get? ex = some ⟨.ref 34, some d, .fields #[.ref t, .none, .none, .none, .bool false, .none], #[]⟩ ∧ E (.ref ex) s₁) E s) :
    wpAny (model pg w) A (exec (.Raise (some e) none pos) env) Q E s := by
  refine excOut w fun nm q bs sn sub ab col dd k0 k1 k2 k3 k5 hoC => ?_
  rw [arm_exec_Raise]
  refine wpAny_bind (wpAny_standAt ?_)
  show wpAny _ _ (raiseStmt env (some _) none) _ _ _
  refine raise_made (C := 34) (N := 33) (bm := excMro) (nm := nm) (q := q) (bs := bs) (hdct := true) (sn := sn) (sub := sub) (ab := ab) (col := col) (dd := dd) (k0 := k0) (k1 := k1) (k2 := k2) (k3 := k3) (k5 := k5) (newId := "Exception.__new__") (by decide) hh ?_
  refine wpAny_bind (wpAny_mono k (fun v s₁ h₁ => ?_) fun _ _ x => x)
  refine x3_4 h₁ ?_; (try clear h₁); intro ex t d zq3 X he hE; subst zq3
  exact wpAny_bind (wpAny_standAt (wpAny_pure ⟨ex, t, d, rfl, X _ _ hoC, he, hE⟩))
end
end
section
set_option maxRecDepth 100000
inductive Frs : List Env → List (Addr × Obj) → Prop
  | nil : Frs [] []
  | cons {env outer a o FX} : env.scope.kind ≠ .module → env.frame = some a → (∀ vs, o.data ≠ .fields vs) → ¬ Tup o → Frs outer FX → Frs (env :: outer) ((a, o) :: FX)
theorem Frs.nd {e : Env} {l : List Env} {p : Addr × Obj} {FX : List (Addr × Obj)} (F : Frs (e :: l) (p :: FX)) : ∀ vs, p.2.data ≠ .fields vs := by cases F; assumption
theorem Frs.keys {l : List Env} {FX : List (Addr × Obj)} (F : Frs l FX) : l.filterMap (·.frame) = FX.map (·.1) := by
  induction F with
  | nil => rfl
  | cons _ hf _ _ _ ih => rw [List.filterMap_cons, hf, List.map_cons, ih]
theorem Frs.fun {l : List Env} {FX : List (Addr × Obj)} (F : Frs l FX) {base h : Heap} : (∀ p ∈ FX, base.get? p.1 = none ∧ ∃ sl, h.get? p.1 = some { p.2 with slots := sl }) → h.FunFrames base l := by
  induction F with
  | nil => exact fun _ => trivial
  | cons hk hf hd _ _ ih =>
    intro k
    obtain ⟨k1, sl, k2⟩ := k _ (.head _)
    exact ⟨hk, ⟨_, _, hf, k1, k2, hd⟩, ih fun p hp => k p (.tail _ hp)⟩
theorem Frs.nt {l : List Env} {FX : List (Addr × Obj)} (F : Frs l FX) : ∀ p ∈ FX, ¬ Tup p.2 := by
  induction F with
  | nil => exact fun p hp => nomatch hp
  | cons _ _ _ ht _ ih =>
    intro p hp
    rcases List.mem_cons.mp hp with rfl | hp
    · exact ht
    · exact ih p hp
structure Thrown (h₀ : Heap) (FX : List (Addr × Obj)) (num : Int) (e : Addr) (h' : Heap) : Prop where
  fly : ∃ d od mA u, Fly h₀ h' e d 34 od ∧ h'.Ns1 d mA ∧ mA "number" = some (.int num u)
  keep : ∀ b o, h₀.get? b = some o → b ∉ FX.map (·.1) → h'.get? b = some o
  fr : ∀ p ∈ FX, ∃ sl, h'.get? p.1 = some { p.2 with slots := sl }
noncomputable def Eb (s : Shared) (h₀ : Heap) (FX : List (Addr × Obj)) (num : Int) (L : Addr) (v : Value) (s' : Shared) : Prop :=
  ∃ e h' tk' oL, v = .ref e ∧ s' = St s h' tk' ∧ Thrown h₀ FX num e h' ∧ h'.get? L = some oL ∧ (∀ vs, oL.data ≠ .fields vs) ∧ (∃ hx d od, Fly hx h' e d 34 od ∧ hx.get? L ≠ none)
theorem Fly.same {h₀ h₁ h : Heap} {e d d' C C' : Addr} {od od' : Obj} (X : Fly h₀ h e d C od) (Y : Fly h₁ h e d' C' od') : d = d' := by
  refine x2_2 (X.body) fun vs sl x _ => ?_
  refine x2_2 (Y.body) fun vs' sl' y _ => ?_
  rw [x] at y; cases y; rfl

theorem enterX {w : World} {A : Around} {mg mb : Str → Option Value} {g h : Heap} {s : Shared} {tk n : Nat} {Q E : Value → Shared → Prop} {name qual : Str} {params : Arguments} {body : List Stmt} {scope : Scope} {dV kV doc pm cdv ct oc : Value} {an od : Option Addr} {osl : Array (Option Value)} {f : Addr} {args : List Value}
    {binds : List (Str × Value)} {outer : List Env} {FX : List (Addr × Obj)} {num : Int} {P : Prop} (vs : List (Option Value))
    (G : Gl w mg mb g) (hk : g.StaysIn h)
    (ho : (Mine.hd.heap_1 w.params).lookup f = some ⟨oc, od, .func (fnOf name qual params body scope dV kV doc pm an cdv ct), osl⟩)
    (hcd : codeIn (Mine.hd.heap_1 w.params) cdv qual = true) (W : wfS scope = true) (R : Rm A (n + 1))
    (hbind : BindsTo (St s h tk) (fnOf name qual params body scope dV kV doc pm an cdv ct) ⟨args, []⟩ binds) (hb : Bnd scope.names binds vs)
    (hA : A.frames = some outer) (Fs : Frs outer FX) (hFX : ∀ p ∈ FX, h.get? p.1 = some p.2 ∧ g.get? p.1 = none) (hnd : (FX.map (·.1)).Nodup)
    (hcell : noCell scope = true)
    (hE : P → ∀ e h' tk', Thrown h FX num e h' → E (.ref e) (St s h' tk'))
    (k : ∀ B h₁ L tk' env A', Ev env scope.names L → Gl w mg mb B → Sx B L h₁ scope.names vs FX [] → (Chg (FX.map (·.1)) h B) → B.StaysIn h → h.get? L = none → Rm A' n →
      A'.frames = some (env :: outer) → env.scope.kind ≠ .module → env.frame = some L →
      ∀ Lv : Value → Shared → Prop, Po A' w env Lv → (P → ∀ v s', Eb s h FX num L v s' → Lv v s') →
      wpAny (model pg w) A' (execs body env) (Fq Q) Lv (St s h₁ tk'))
    (hco : scope.isCoroutine = false) (hgen : scope.isGenerator = false) :
    wpAny (model pg w) A (call (.ref f) args) Q E (St s h tk) := by
  refine wpAny_call (enter FX G hk ho hcd (wf_of W) R.room hbind hb hFX (fun B h₁ L tk' W' G' F' N' hB hB' hL => ?_) hcell hco hgen)
  have hfr : (A.deeper (envOf qual scope L f cdv)).frames = some (envOf qual scope L f cdv :: outer) := Around.frames_deeper hA
  refine wpAny_mono (k B h₁ L tk' (envOf qual scope L f cdv) (A.deeper (envOf qual scope L f cdv)) ⟨rfl, W', rfl, rfl, rfl⟩ G' ⟨F', N', hnd, fun f hf => nomatch hf⟩ hB hB' hL (R.in ⟨rfl, rfl, rfl⟩) hfr (by show scope.kind ≠ _; rw [W'.kd]; decide) rfl _ PassesOwn.leaving (fun hp v s' q => ?_)) (fun fl s' q => q) fun v s' q => q
  obtain ⟨e, h', tk'', oL, rfl, rfl, T, hL', hLd, hx, d, od', hfx, hxL⟩ := q
  refine x4_3 (T.fly) fun d' od2 mA u X ns1 hn => ?_
  obtain rfl := hfx.same X
  have hBn : ∀ p ∈ FX, B.get? p.1 = none := fun p hp => (N' p hp).2.2
  have hLn : B.get? L = none := by
    cases z : B.get? L with
    | none => rfl
    | some o => rw [hB' _ _ z] at hL; cases hL
  have ff : h'.FunFrames B (envOf qual scope L f cdv :: outer) := ⟨by show scope.kind ≠ _; rw [W'.kd]; decide, ⟨L, oL, rfl, hLn, hL', hLd⟩, Fs.fun fun p hp => ⟨hBn p hp, T.fr p hp⟩⟩
  have keys : (envOf qual scope L f cdv :: outer).filterMap (·.frame) = L :: FX.map (·.1) := by
    rw [List.filterMap_cons]
    show L :: _ = _
    rw [Fs.keys]
  have hdS : d ∉ (envOf qual scope L f cdv :: outer).filterMap (·.frame) := by
    rw [keys]
    intro m
    rcases List.mem_cons.mp m with z | m
    · rw [z] at hfx; exact hxL hfx.d0
    · refine x1_2 (List.mem_map.mp m) fun p hp z => ?_
      have := (hFX p hp).1
      rw [z, X.d0] at this; cases this
  refine leave_own (s := St s h' tk'') hfr ff rfl X hdS (fun b hb => ?_) (fun h₂ X₂ Z => ?_)
  · cases z : h.get? b with
    | none => exact absurd z hb
    | some o =>
      by_cases m : b ∈ FX.map (·.1)
      · refine x1_2 (List.mem_map.mp m) fun p hp zq2 => ?_; subst zq2
        refine x1_1 (T.fr p hp) fun sl z' => ?_
        show h'.get? p.1 ≠ none
        rw [z']; intro q; cases q
      · show h'.get? b ≠ none
        rw [T.keep b o z m]; intro q; cases q
  · have hLh : ∀ b o, h.get? b = some o → b ≠ L := fun b o z q => by rw [q, hL] at z; cases z
    refine hE hp e h₂ tk'' ⟨⟨d, _, mA, u, X₂, ?_, hn⟩, fun b o z m => ?_, fun p hp => ?_⟩
    · refine x3_2 ns1 ?_; (try clear ns1); intro oD es ep hD r
      rw [X.dict] at hD; cases hD
      exact ⟨_, es, ep, X₂.dict, r⟩
    · refine Z.keep b o (by rw [z]; intro q; cases q) (T.keep b o z m) ?_
      rw [keys]
      intro q
      rcases List.mem_cons.mp q with q | q
      · exact hLh b o z q
      · exact m q
    · refine x1_1 (T.fr p hp) fun sl z => ?_
      obtain ⟨sl', z'⟩ := Z.slots _ _ z (by rw [keys]; exact .tail _ (List.mem_map_of_mem hp))
      exact ⟨sl', z'⟩
section
variable {w : World} {mg mb : Str → Option Value} {B : Heap} {A : Around} {E : Value → Shared → Prop} {s : Shared} {env : Env} {L : Addr} {h h₀ h' : Heap} {tk : Nat} {ns : List (Str × NameKind)} {vs : List (Option Value)} {news FX : List (Addr × Obj)} {fs : List Fact} {outer : List Env} {num : Int}
theorem Sx.out (S : Sx B L h ns vs news fs) (sub : ∀ p ∈ FX, p ∈ news) (nd : (FX.map (·.1)).Nodup) (Fs : Frs outer FX) (hk : env.scope.kind ≠ .module) (hf : env.frame = some L) :
    ∃ oL, Frs (env :: outer) ((L, oL) :: FX) ∧ (∀ p ∈ (L, oL) :: FX, h.get? p.1 = some p.2 ∧ B.get? p.1 = none) ∧ (((L, oL) :: FX).map (·.1)).Nodup := by
  refine x3_3 (S.F.ns) fun oL es ep hL hd _ => ?_
  refine ⟨oL, .cons hk hf (fun vs q => by rw [hd] at q; cases q) (ntup_dict hd) Fs, fun p hp => ?_, List.nodup_cons.mpr ⟨fun m => ?_, nd⟩⟩
  · rcases List.mem_cons.mp hp with rfl | hp
    · refine ⟨hL, ?_⟩
      cases q : B.get? L with
      | none => rfl
      | some o => exact absurd (Heap.lt_size q) (Nat.not_lt.mpr S.F.above)
    · exact ⟨(S.N p (sub p hp)).1, (S.N p (sub p hp)).2.2⟩
  · refine x1_2 (List.mem_map.mp m) fun p hp e => ?_
    exact (S.N p (sub p hp)).2.1 e
theorem dom_of (S : Sx B L h ns vs news fs) (sub : ∀ p ∈ FX, p ∈ news) (hB : Chg (FX.map (·.1)) h₀ B) : ∀ b, h.get? b = none → h₀.get? b = none := fun b hb => by
  cases z : h₀.get? b with
  | none => rfl
  | some o =>
    by_cases m : b ∈ FX.map (·.1)
    · refine x1_2 (List.mem_map.mp m) fun p hp zq2 => ?_; subst zq2
      rw [(S.N p (sub p hp)).1] at hb; cases hb
    · rw [S.F.keep _ _ (hB b o z m)] at hb; cases hb
theorem eb_raise (S : Sx B L h ns vs news fs) (sub : ∀ p ∈ FX, p ∈ news) (hB : Chg (FX.map (·.1)) h₀ B)
    {e d : Addr} {od : Obj} {mA : Str → Option Value} {u : Tok} (k : h.StaysIn h') (X : Fly h h' e d 34 od) (n1 : h'.Ns1 d mA) (hn : mA "number" = some (.int num u)) : Eb s h₀ FX num L (.ref e) (St s h' tk) := by
  refine x3_3 (S.F.ns) fun oL es ep hL hd _ => ?_
  have dm := dom_of S sub hB
  exact ⟨e, h', tk, oL, rfl, rfl, ⟨⟨d, od, mA, u, X.mono dm, n1, hn⟩, fun b o z m => k _ _ (S.F.keep _ _ (hB b o z m)), fun p hp => ⟨p.2.slots, k _ _ (S.N p (sub p hp)).1⟩⟩, k _ _ hL, (fun vs q => by rw [hd] at q; cases q), ⟨h, d, od, X, by rw [hL]; intro q; cases q⟩⟩
theorem eb_call (S : Sx B L h ns vs news fs) (sub : ∀ p ∈ FX, p ∈ news) (hB : Chg (FX.map (·.1)) h₀ B) {oL : Obj} (ho : h.get? L = some oL) (hd : ∀ vs, oL.data ≠ .fields vs)
    {e : Addr} (T : Thrown h ((L, oL) :: FX) num e h') : Eb s h₀ FX num L (.ref e) (St s h' tk) := by
  have dm := dom_of S sub hB
  refine x4_3 (T.fly) fun d od mA u X n1 hn => ?_
  refine x1_1 (T.fr _ (.head _)) fun sl z => ?_
  refine ⟨e, h', tk, _, rfl, rfl, ⟨⟨d, od, mA, u, X.mono dm, n1, hn⟩, fun b o y m => T.keep b o (S.F.keep _ _ (hB b o y m)) ?_, fun p hp => T.fr p (.tail _ hp)⟩, z, hd, ⟨h, d, od, X, by rw [ho]; intro q; cases q⟩⟩
  intro q
  rcases List.mem_cons.mp q with q | q
  · have := hB b o y m
    rw [q] at this
    exact absurd (Heap.lt_size this) (Nat.not_lt.mpr S.F.above)
  · exact m q
theorem stayX (S : Sx B L h ns vs news fs) (sub : ∀ p ∈ FX, p ∈ news) (hFX : ∀ p ∈ FX, h₀.get? p.1 = some p.2) (hB : Chg (FX.map (·.1)) h₀ B) : h₀.StaysIn h := fun a o e => by
  by_cases m : a ∈ FX.map (·.1)
  · refine x1_2 (List.mem_map.mp m) fun p hp zq2 => ?_; subst zq2
    rw [hFX p hp] at e; cases e
    exact (S.N p (sub p hp)).1
  · exact S.F.keep _ _ (hB a o e m)
end
end
section
set_option maxRecDepth 100000
section
variable {M : Model} {A : Around} {E : Value → Shared → Prop} {s : Shared}
theorem fly_set {h₀ : Heap} {e d C : Addr} {od : Obj} {Q : Unit → Shared → Prop} (X : Fly h₀ s.heap e d C od)
    (k : ∀ h', Fly h₀ h' e d C od → (∀ b o, h₀.get? b ≠ none → s.heap.get? b = some o → h'.get? b = some o) → Q () { s with heap := h' }) : wpAny M A (setFlight (.ref e) none) Q E s := by
  obtain ⟨e0, d0, nf, hd, vs, sl, he, hsz, hT⟩ := X
  unfold setFlight
  rcases hT with h1 | ⟨T, oT, ts, h1, hTe, hT0, hT, hdT, h3⟩
  · refine wpAny_bind (wpAny_field he rfl h1 ?_)
    rw [if_neg (by decide)]
    exact wpAny_pure (k s.heap ⟨e0, d0, nf, hd, vs, sl, he, hsz, .inl h1⟩ fun b o _ z => z)
  · refine wpAny_bind (wpAny_field he rfl h1 ?_)
    rw [if_pos (show (Value.ref T != Value.none) = true from by simp)]
    have h3s := (Array.getElem?_eq_some_iff.mp h3).1
    refine wpAny_setField hT hdT h3s ?_
    have other : ∀ b, b ≠ T → (s.heap.update T (Obj.mapFields (·.setIfInBounds 3 Value.none))).get? b = s.heap.get? b := fun b hb => Heap.get?_update_other _ _ (Ne.symm hb)
    have hdT' : d ≠ T := fun q => by rw [q, hT] at hd; cases hd; exact nf _ hdT
    refine k _ ⟨e0, d0, nf, (other d hdT').trans hd, vs, sl, (other e (Ne.symm hTe)).trans he, hsz, .inr ⟨T, _, _, h1, hTe, hT0, Heap.get?_update_self _ hT (Obj.isFreed_of_fields (Obj.data_mapFields hdT _)), Obj.data_mapFields hdT _, by simp [h3s]⟩⟩ fun b o b0 z => ?_
    exact (other b (fun q => b0 (q ▸ hT0))).trans z
end
section
variable {prog : Program} {w : World} {A : Around} {E : Value → Shared → Prop} {h : Heap} {g : Array GenState} {d : Drawn} {t : Nat} {os : OsState}
variable {nm q : Str} {C N x : Addr} {bs : List Value} {sn : List Str} {sub : List Value} {ab : Bool} {col : Option Bool} {dd : Option Addr} {k0 k1 k2 k3 k5 : Option Value} {newId : String}
  {mN mA : Str → Option Value} {name : Str} {v : Value}
theorem exc_entry {tk : Tok} {Q : Fin → Shared → Prop}
    (hC : h.get? C = some (excClassObj nm q C N bs excMro true sn sub ab col dd k0 k1 k2 k3 k5 newId)) (hn : h.Ns N mN) (hna : mN name = none)
    (hB : typeLookup (.type "Exception") name = pure none) (I : h.Inst x C mA) (hv : mA name = some v) (hq : Q (.done (.ret v)) ⟨h, g, d, t, os⟩) :
    wpAny (model prog w) A (Builtin.«object.__getattribute__» ⟨[.ref x, .str name tk], []⟩) Q E ⟨h, g, d, t, os⟩ := by
  have hmro := PySem.F.store_Exception.mro
  refine x1_4 I ?_; (try clear I); intro o hx hc hnc hd
  rcases hd with ⟨_, hmA⟩ | ⟨dx, hdx, hne, hns⟩
  · rw [hmA name] at hv; cases hv
  unfold Builtin.«object.__getattribute__»
  repeat (first | (with_reducible refine wpAny_loadPart_at hx ?_; rw [hc]) | (with_reducible refine wpAny_typeLookup_exc hC hn hmro hB ?_; rw [hna]) | wp_step)
  split
  · rename_i c hcd
    exact absurd hcd (hnc c)
  unfold instanceDict
  repeat (first | (with_reducible refine wpAny_loadPart_at hx ?_; rw [hc]) | with_reducible refine wpAny_loadPart_at hC ?_ | wp_step)
  rw [hdx]
  repeat (first | (with_reducible refine wpAny_nsGet hns.ns ?_; rw [hv]) | wp_step)
  exact hq
theorem exc_check {M : Model} {nameV : Value} {o : Obj} {Q : Unit → Shared → Prop} (hC : h.get? C = some (excClassObj nm q C N bs excMro true sn sub ab col dd k0 k1 k2 k3 k5 newId))
    (hx : h.get? x = some o) (hc : o.cls = .ref C) (hq : Q () ⟨h, g, d, t, os⟩) : wpAny M A (checkBuiltinCall "BaseException.__getattribute__" ⟨[.ref x, nameV], []⟩) Q E ⟨h, g, d, t, os⟩ := by
  have hk : builtinKind "BaseException.__getattribute__" = some .slot := by decide +kernel
  have hsplit : splitId "BaseException.__getattribute__" = some ("BaseException", "__getattribute__") := by decide +kernel
  have hcB : (Value.ref C :: excMro).contains (.type "BaseException") = true := by rw [List.contains_cons]; rfl
  have ha := F.args_bexc_ga (.ref x) nameV
  simp only [checkBuiltinCall, hk, hsplit]
  refine wpAny_bind ?_
  · unfold isInstance
    repeat (first | (with_reducible refine wpAny_loadPart_at hx ?_; rw [hc]) | (with_reducible refine wpAny_isSubtype_exc hC ?_; rw [hcB]) | wp_step)
    exact hq
theorem exc_attr {expr : Bool} {Q : Value → Shared → Prop}
    (hC : h.get? C = some (excClassObj nm q C N bs excMro true sn sub ab col dd k0 k1 k2 k3 k5 newId)) (hn : h.Ns N mN) (hng : mN "__getattribute__" = none) (hnt : mN "__getattr__" = none) (hna : mN name = none)
    (hB : typeLookup (.type "Exception") name = pure none) (I : h.Inst x C mA) (hv : mA name = some v) (hh : handedOut v = pure v) (hq : Q v ⟨h, g, d, t + 1, os⟩) :
    wpAny (model prog w) A (getAttr (.ref x) name expr) Q E ⟨h, g, d, t, os⟩ := by
  have FB : ExcAttrBase "Exception" excMro := PySem.F.attrBase_Exception
  have hmro := FB.mro
  have f3 := FB.ga.bind (.ref x)
  have hx0 : (expr && onTheHeap (Value.builtin "BaseException.__getattribute__")) = false := by cases expr <;> rfl
  have hx2 : (Value.builtin "BaseException.__getattribute__" == Value.builtin "object.__getattribute__") = false := by decide +kernel
  have hx1 : (onTheHeap (Value.ref C) && Value.builtin "BaseException.__getattribute__" == Value.builtin "object.__getattribute__") = false := by rw [hx2]; rfl
  refine x1_3 (id I) fun o hx hc _ => ?_
  unfold getAttr getAttrBy
  repeat (first | (with_reducible refine wpAny_loadPart_at hx ?_; rw [hc]) | (with_reducible refine wpAny_typeLookup_exc hC hn hmro FB.ga.lookup ?_; rw [hng]) | (with_reducible refine wpAny_typeLookup_exc hC hn hmro FB.noGetattr ?_; rw [hnt]) | wp_step)
  show codeAny _ _ (.call (.builtin "BaseException.__getattribute__") ⟨[.ref x, .str name t], []⟩) _ _
  refine codeAny_call_builtin FB.ga.plain F.entry_bexc_ga ?_
  refine exc_check hC hx hc ?_
  refine exc_entry hC hn hna hB I hv ?_
  repeat wp_step
  first | exact hq | (show wpAny _ _ (handedOut v) _ _ _; rw [hh]; exact wpAny_pure hq)
end
inductive Slf : List (Addr × Obj) → List (Addr × Obj) → Prop
  | nil : Slf [] []
  | cons {a o sl FX FX'} : Slf FX FX' → Slf ((a, o) :: FX) ((a, { o with slots := sl }) :: FX')
theorem Slf.refl : ∀ FX : List (Addr × Obj), Slf FX FX
  | [] => .nil
  | (a, ⟨_, _, _, _⟩) :: FX => .cons (Slf.refl FX)
theorem Slf.keys {X Y : List (Addr × Obj)} (a : Slf X Y) : Y.map (·.1) = X.map (·.1) := by
  induction a with
  | nil => rfl
  | cons _ ih => rw [List.map_cons, List.map_cons, ih]
theorem Slf.frs {X Y : List (Addr × Obj)} {l : List Env} (a : Slf X Y) : Frs l X → Frs l Y := by
  induction a generalizing l with
  | nil => exact id
  | cons _ ih =>
    intro F
    cases F with
    | cons k f d t F => exact .cons k f d t (ih F)
theorem Slf.of {h : Heap} {FX : List (Addr × Obj)} : (∀ p ∈ FX, ∃ sl, h.get? p.1 = some { p.2 with slots := sl }) → ∃ FX', Slf FX FX' ∧ ∀ p ∈ FX', h.get? p.1 = some p.2 := by
  induction FX with
  | nil => exact fun _ => ⟨[], .nil, fun _ hp => nomatch hp⟩
  | cons p FX ih =>
    intro k
    obtain ⟨a, o⟩ := p
    refine x1_2 (ih fun p hp => k p (.tail _ hp)) fun FX' s e => ?_
    refine x1_1 (k _ (.head _)) fun sl z => ?_
    refine ⟨(a, { o with slots := sl }) :: FX', .cons s, fun p hp => ?_⟩
    rcases List.mem_cons.mp hp with rfl | hp
    · exact z
    · exact e p hp
theorem Sx.thrown {B h h' : Heap} {L : Addr} {ns : List (Str × NameKind)} {vs : List (Option Value)} {own FX : List (Addr × Obj)} {fs : List Fact} {oL : Obj} {l : List Env} (S : Sx B L h ns vs (own ++ FX) fs) (hL : h.get? L = some oL) (Fs : Frs l FX)
    (keep : ∀ b o, h.get? b = some o → b ∉ ((L, oL) :: FX).map (·.1) → h'.get? b = some o) (fr : ∀ p ∈ (L, oL) :: FX, ∃ sl, h'.get? p.1 = some { p.2 with slots := sl }) :
    ∃ FX', Slf FX FX' ∧ Sx B L h' ns vs (own ++ FX') fs := by
  refine x1_2 (Slf.of (FX := FX) fun p hp => fr p (.tail _ hp)) fun FX' s e => ?_
  have hn := S.nd
  rw [List.map_append] at hn
  refine x0_3 (List.nodup_append.mp hn) fun n1 n2 n3 => ?_
  have kB : B.StaysIn h' := fun b o z => keep b o (S.F.keep _ _ z) fun m => by
    rcases List.mem_cons.mp m with q | q
    · rw [q] at z
      exact absurd (Heap.lt_size z) (Nat.not_lt.mpr S.F.above)
    · refine x1_2 (List.mem_map.mp q) fun p hp q => ?_
      have := (S.N p (List.mem_append_right _ hp)).2.2
      rw [q, z] at this; cases this
  refine ⟨FX', s, ⟨?_, kB, S.F.above⟩, fun p hp => ?_, ?_, fun f hf => f.keeps _ _ (fun b x z t => ?_) (S.ft f hf)⟩
  · refine x3_2 (S.F.ns) fun o' es ep z r => ?_
    rw [hL] at z; cases z
    refine x1_1 (fr _ (.head _)) fun sl z => ?_
    exact ⟨_, es, ep, z, r⟩
  · rcases List.mem_append.mp hp with hp | hp
    · have P := S.N p (List.mem_append_left _ hp)
      refine ⟨keep _ _ P.1 fun m => ?_, P.2⟩
      rcases List.mem_cons.mp m with q | q
      · exact P.2.1 q
      · exact n3 _ (List.mem_map_of_mem hp) _ q rfl
    · have : p.1 ∈ FX.map (·.1) := by rw [← s.keys]; exact List.mem_map_of_mem hp
      refine x1_2 (List.mem_map.mp this) fun p' hp' q => ?_
      have P := S.N p' (List.mem_append_right _ hp')
      rw [q] at P
      exact ⟨e p hp, P.2⟩
  · rw [List.map_append, s.keys, ← List.map_append]; exact S.nd
  · refine keep b x z fun m => ?_
    rcases List.mem_cons.mp m with q | q
    · exact S.frame_ne z t q
    · refine x1_2 (List.mem_map.mp q) fun p' hp' q => ?_
      have P := (S.N p' (List.mem_append_right _ hp')).1
      rw [q, z] at P
      cases P
      exact Fs.nt p' hp' t
end
section
set_option maxRecDepth 100000
theorem x_catch {w : World} {A : Around} {mg mb : Str → Option Value} {B h4 h5 : Heap} {s : Shared} {tk : Nat} {Q : Flow → Shared → Prop} {E : Value → Shared → Prop} {env : Env} {outer : List Env} {FX : List (Addr × Obj)} {L e : Addr} {ns : List (Str × NameKind)} {vs vs' : List (Option Value)} {fs : List Fact} {oL : Obj} {num : Int}
    {n : Str} {b₀ : Stmt} {suite : List Stmt} {pos np : Pos}
    (V : Ev env ns L) (G : Gl w mg mb B) (S : Sx B L h4 ns vs FX fs) (hA : A.frames = some (env :: outer)) (Fs : Frs outer FX) (hke : env.scope.kind ≠ .module) (hf : env.frame = some L)
    (hL : h4.get? L = some oL) (hLd : ∀ vs, oL.data ≠ .fields vs) (T : Thrown h4 ((L, oL) :: FX) num e h5) (lg : Glo ns (Str.ofString "SnobolError")) (l : Sto ns vs n (.ref e) vs')
    (k : ∀ h7 tk7 FX' d od mA u, ∀ fvs sl, Slf FX FX' → Sx B L h7 ns vs' ((e, ⟨.ref 34, some d, .fields fvs, sl⟩) :: (d, od) :: FX') fs → (∀ H : Heap, H.get? d = some od → H.Ns1 d mA) → d ≠ e → mA "number" = some (.int num u) →
      wpAny (model pg w) (A.mark (some (.ref e))) (execs (b₀ :: suite) env) (fun f s₄ => wpAny (model pg w) A (do bindName env n .none; unbindBehindTheSuite env n pos) (fun _ s₅ => Q f s₅) E s₄) (fun _ _ => False) (St s h7 tk7)) :
    wpAny (model pg w) A (noteFrame (.ref e) env) (fun _ s₂ => wpAny (model pg w) A (setFlight (.ref e) none) (fun _ s₃ => wpAny (model pg w) A (handleBy (.ref e) env [.ExceptHandler (some (.Name (Str.ofString "SnobolError") np)) (some n) (b₀ :: suite) pos]) Q E s₃) E s₂) E (St s h5 tk) := by
  refine excOut w fun nm q bs sn sub ab col dd k0 k1 k2 k3 k5 hoC => ?_
  refine x4_3 (T.fly) fun d od mA u X n1 hn => ?_
  have hBL : B.get? L = none := by
    cases z : B.get? L with
    | none => rfl
    | some o => exact absurd (Heap.lt_size z) (Nat.not_lt.mpr S.F.above)
  have hFX : ∀ p ∈ FX, h4.get? p.1 = some p.2 := fun p hp => (S.N p hp).1
  have ff : h5.FunFrames B (env :: outer) := by
    refine x1_1 (T.fr _ (.head _)) fun sl z => ?_
    exact ⟨hke, ⟨L, _, hf, hBL, z, hLd⟩, Fs.fun fun p hp => ⟨(S.N p hp).2.2, T.fr p (.tail _ hp)⟩⟩
  have keys : (env :: outer).filterMap (·.frame) = ((L, oL) :: FX).map (·.1) := by rw [List.filterMap_cons, hf, List.map_cons, Fs.keys]
  have in4 : ∀ b ∈ ((L, oL) :: FX).map (·.1), h4.get? b ≠ none := fun b hb => by
    rcases List.mem_cons.mp hb with q | q
    · rw [q, hL]; intro z; cases z
    · refine x1_2 (List.mem_map.mp q) fun p hp q => ?_
      rw [← q, hFX p hp]; intro z; cases z
  have dom : ∀ b, h4.get? b ≠ none → h5.get? b ≠ none := fun b hb => by
    by_cases m : b ∈ ((L, oL) :: FX).map (·.1)
    · refine x1_2 (List.mem_map.mp m) fun p hp zq2 => ?_; subst zq2
      refine x1_1 (T.fr p hp) fun sl z => ?_
      rw [z]; intro q; cases q
    · cases z : h4.get? b with
      | none => exact absurd z hb
      | some o => rw [T.keep b o z m]; intro q; cases q
  refine note_own (s := St s h5 tk) hA ff hf X (fun m => by rw [keys] at m; exact in4 _ m X.d0) dom fun h6 X6 Z => ?_
  have keep6 : ∀ b o, h4.get? b = some o → b ∉ ((L, oL) :: FX).map (·.1) → h6.get? b = some o := fun b o z m =>
    Z.keep b o (by rw [z]; intro q; cases q) (T.keep b o z m) (by rw [keys]; exact m)
  have fr6 : ∀ p ∈ (L, oL) :: FX, ∃ sl, h6.get? p.1 = some { p.2 with slots := sl } := fun p hp => by
    refine x1_1 (T.fr p hp) fun sl z => ?_
    obtain ⟨sl', z'⟩ := Z.slots _ _ z (by rw [keys]; exact List.mem_map_of_mem hp)
    exact ⟨sl', z'⟩
  refine x1_2 (Sx.thrown (own := []) S hL Fs keep6 fr6) fun FX6 s6 S6 => ?_
  refine wpAny_handleBy_cons (codeAny_handlers_test ?_) (by intro q; cases q)
  refine e_gl (s := s) (h := h6) (tk := tk) V G S6 lg (nm_SnobolError w) ?_
  have hC6 := S6.F.keep _ _ (G.X _ _ hoC)
  refine x2_2 (X6.body) fun fvs6 sl6 he6 _ => ?_
  refine wpAny_excMatches_sub_self hC6 he6 rfl (by decide) (codeAny_handlers_suite_as ?_)
  refine fly_set (s := St s h6 tk) X6 fun h7 X7 K7 => ?_
  have keep7 : ∀ b o, h4.get? b = some o → b ∉ ((L, oL) :: FX).map (·.1) → h7.get? b = some o := fun b o z m =>
    K7 b o (by rw [z]; intro q; cases q) (keep6 b o z m)
  have fr7 : ∀ p ∈ (L, oL) :: FX, ∃ sl, h7.get? p.1 = some { p.2 with slots := sl } := fun p hp => by
    refine x1_1 (fr6 p hp) fun sl z => ?_
    exact ⟨sl, K7 _ _ (in4 _ (List.mem_map_of_mem hp)) z⟩
  refine x1_2 (Sx.thrown (own := []) S hL Fs keep7 fr7) fun FX7 s7 S7 => ?_
  refine x2_2 (X7.body) fun fvs sl he7 _ => ?_
  have hde : d ≠ e := fun z => by
    have := X7.dict
    rw [z, he7] at this; cases this
    exact X7.nf _ rfl
  have out : ∀ b, h4.get? b = none → b ≠ L ∧ B.get? b = none ∧ b ∉ FX7.map (·.1) := fun b hb => by
    refine ⟨(fun z => by rw [z, hL] at hb; cases hb), ?_, fun m => ?_⟩
    · cases z : B.get? b with
      | none => rfl
      | some o => rw [S.F.keep _ _ z] at hb; cases hb
    · rw [s7.keys] at m
      exact in4 b (.tail _ m) hb
  refine x0_3 (out e X7.e0) fun e1 e2 e3 => ?_
  refine x0_3 (out d X7.d0) fun d1 d2 d3 => ?_
  have S8 : Sx B L h7 ns vs ((e, ⟨.ref 34, some d, .fields fvs, sl⟩) :: (d, od) :: FX7) fs := by
    refine ⟨S7.F, fun p hp => ?_, ?_, S7.ft⟩
    · rcases List.mem_cons.mp hp with rfl | hp
      · exact ⟨he7, e1, e2⟩
      rcases List.mem_cons.mp hp with rfl | hp
      · exact ⟨X7.dict, d1, d2⟩
      · exact S7.N p hp
    · refine List.nodup_cons.mpr ⟨fun m => ?_, List.nodup_cons.mpr ⟨d3, S7.nd⟩⟩
      rcases List.mem_cons.mp m with q | q
      · exact hde q.symm
      · exact e3 q
  refine x_sto (s := s) (h := h7) (tk := tk) V S8 l fun h8 tk8 S9 => ?_
  refine wpAny_mono (k h8 tk8 FX7 d od mA u fvs sl s7 S9 (fun H hH => ?_) hde hn) (fun f s₄ q => q) fun _ _ q => q.elim
  refine x3_2 n1 ?_; (try clear n1); intro oD es ep z r
  rw [X.dict] at z; cases z
  exact ⟨_, es, ep, hH, r⟩
end
section
set_option maxRecDepth 100000
section
variable {B h h' : Heap} {L d : Addr} {ns : List (Str × NameKind)} {vs vs' : List (Option Value)} {news news' own chd chd' : List (Addr × Obj)} {fs : List Fact} {o o' oL : Obj}
theorem Sx.perm (S : Sx B L h ns vs news fs) (p : news.Perm news') : Sx B L h ns vs news' fs :=
  ⟨S.F, fun q hq => S.N q (p.mem_iff.mpr hq), (p.map (·.1)).nodup_iff.mp S.nd, S.ft⟩
theorem Sx.chg (S : Sx B L h ns vs news fs) (U : Up d o o' news news') (nt : ¬ Tup o) (k : Chg [d] h h') (e : h'.get? d = some o') : Sx B L h' ns vs news' fs := by
  have D := S.N _ U.mem
  have kk : ∀ a x, h.get? a = some x → a ≠ d → h'.get? a = some x := fun a x z n => k a x z (by simpa using n)
  refine x3_2 (S.F.ns) fun oL a1 a2 hL a3 => ?_
  refine ⟨⟨⟨oL, a1, a2, kk _ _ hL (Ne.symm D.2.1), a3⟩, (fun b x z => kk _ _ (S.F.keep b x z) fun q => by
    rw [q, D.2.2] at z; cases z), S.F.above⟩, fun p hp => ?_, by rw [U.keys]; exact S.nd, fun f hf => f.keeps _ _ (S.tk U.mem nt fun a x z _ n => kk a x z n) (S.ft f hf)⟩
  rcases U.out S.nd p hp with rfl | ⟨hp, hne⟩
  · exact ⟨e, D.2⟩
  · exact ⟨kk _ _ (S.N p hp).1 hne, (S.N p hp).2⟩
end

inductive Cel : List (Str × NameKind) → Str → Prop where
  | z {x ns} : Cel ((x, .cell) :: ns) x
  | s {p ns x} : Cel ns x → Cel (p :: ns) x
inductive Fre : List (Str × NameKind) → Str → Prop where
  | z {x ns} : Fre ((x, .free) :: ns) x
  | s {p ns x} : Fre ns x → Fre (p :: ns) x
theorem Cel.mem {ns x} (h : Cel ns x) : x ∈ ns.map (·.1) := by
  induction h with
  | z => exact .head _
  | s _ ih => exact .tail _ ih
theorem Fre.mem {ns x} (h : Fre ns x) : x ∈ ns.map (·.1) := by
  induction h with
  | z => exact .head _
  | s _ ih => exact .tail _ ih
theorem Cel.get {ns x} (h : Cel ns x) : (ns.map (·.1)).Nodup → ns.lookup x = some .cell := by
  induction h with
  | z => intro _; simp
  | @s p ns x h ih =>
    intro nd
    obtain ⟨pn, pk⟩ := p
    refine x0_2 (List.nodup_cons.mp nd) fun nm nd' => ?_
    have ne : x ≠ pn := fun e => nm (e ▸ h.mem)
    rw [lookup_cons_ne ne]; exact ih nd'
theorem Fre.get {ns x} (h : Fre ns x) : (ns.map (·.1)).Nodup → ns.lookup x = some .free := by
  induction h with
  | z => intro _; simp
  | @s p ns x h ih =>
    intro nd
    obtain ⟨pn, pk⟩ := p
    refine x0_2 (List.nodup_cons.mp nd) fun nm nd' => ?_
    have ne : x ≠ pn := fun e => nm (e ▸ h.mem)
    rw [lookup_cons_ne ne]; exact ih nd'
section
variable {w : World} {mg mb : Str → Option Value} {B : Heap} {A : Around} {E : Value → Shared → Prop} {s : Shared} {env : Env} {L c : Addr} {h : Heap} {tk : Nat} {ns : List (Str × NameKind)} {vs vs' : List (Option Value)} {news : List (Addr × Obj)} {fs : List Fact} {o : Obj}
theorem e_cel {x : Str} {pos : Pos} {v : Value} {Q : Value → Shared → Prop} (V : Ev env ns L) (S : Sx B L h ns vs news fs) (l : Cel ns x) (hc : env.cells.lookup x = some c) (m : Inn (c, o) news) (hd : o.data = .cell (some v)) (k : Q v (St s h tk)) :
    wpAny (model pg w) A (eval (.Name x pos) env) Q E (St s h tk) := by
  obtain ⟨rfl, W, rfl, hg, hb⟩ := V
  exact wpAny_Name (wpAny_loadName_cell W.kd (l.get W.nd) hc ⟨o, (S.N _ m.mem).1, hd⟩ k) (W.db x l.mem)
theorem e_fre {x : Str} {pos : Pos} {v : Value} {Q : Value → Shared → Prop} (V : Ev env ns L) (S : Sx B L h ns vs news fs) (l : Fre ns x) (hc : env.cells.lookup x = some c) (hB : B.get? c = some o) (hd : o.data = .cell (some v)) (hn : (x == ("__classdict__" : Str)) = false) (k : Q v (St s h tk)) :
    wpAny (model pg w) A (eval (.Name x pos) env) Q E (St s h tk) := by
  obtain ⟨rfl, W, rfl, hg, hb⟩ := V
  exact wpAny_Name (wpAny_loadName_free W.kd (l.get W.nd) hc ⟨o, S.F.keep _ _ hB, hd⟩ k hn) (W.db x l.mem)
theorem x_stc {x : Str} {v : Value} {v₀ : Option Value} {Q : Unit → Shared → Prop} (V : Ev env ns L) (S : Sx B L h ns vs news fs) (l : Cel ns x) (hc : env.cells.lookup x = some c) (m : Inn (c, o) news) (hd : o.data = .cell v₀)
    (k : ∀ o', ∃ news', Up c o o' news news' ∧ ∀ h', o'.data = .cell (some v) → Sx B L h' ns vs news' fs → Q () (St s h' tk)) : wpAny (model pg w) A (storeName env x v) Q E (St s h tk) := by
  obtain ⟨rfl, W, rfl, hg, hb⟩ := V
  refine wpAny_storeName_cell W.kd (l.get W.nd) hc ⟨o, (S.N _ m.mem).1, hd⟩ fun h' hv hs => ?_
  refine x1_2 hv ?_; (try clear hv); intro o' e hd'
  refine x1_2 (k o') fun news' U k => ?_
  exact k h' hd' (S.chg U (ntup_cell hd) (fun a x z n => (hs.2 a (by simpa using n)).trans z) e)
end

inductive BndC : List (Str × NameKind) → List (Str × Value) → List (Option Value) → Prop where
  | nil {ns} : BndC ns [] []
  | loc {x v ns bs vs} : BndC ns bs vs → BndC ((x, .local) :: ns) ((x, v) :: bs) (some v :: vs)
  | cel {x v ns bs vs} : BndC ns bs vs → BndC ((x, .cell) :: ns) ((x, v) :: bs) (none :: vs)
theorem BndC.names {ns bs vs} (h : BndC ns bs vs) : ∀ p ∈ bs, p.1 ∈ ns.map (·.1) := by
  induction h with
  | nil => intro p hp; cases hp
  | loc _ ih =>
    intro p hp
    rcases List.mem_cons.mp hp with rfl | hp
    · exact .head _
    · exact .tail _ (ih p hp)
  | cel _ ih =>
    intro p hp
    rcases List.mem_cons.mp hp with rfl | hp
    · exact .head _
    · exact .tail _ (ih p hp)
theorem bindL_off {kindOf : Str → Option NameKind} {y : Str} {bs : List (Str × Value)} : ∀ {m : Str → Option Value}, (∀ p ∈ bs, p.1 ≠ y) → bindL kindOf bs m y = m y := by
  induction bs with
  | nil => exact fun _ => rfl
  | cons p bs ih =>
    intro m h
    obtain ⟨n, v⟩ := p
    show bindL kindOf bs _ y = m y
    rw [ih fun p hp => h p (.tail _ hp)]
    have ne : y ≠ n := fun e => h (n, v) (.head _) e.symm
    by_cases c : kindOf n = some .local
    · rw [if_pos c]; simp [ne]
    · rw [if_neg c]
theorem BndC.get {ns bs vs} (h : BndC ns bs vs) : (ns.map (·.1)).Nodup → (∀ p ∈ bs, ns.lookup p.1 = some .local ∨ ns.lookup p.1 = some .cell) ∧
    ∀ (kindOf : Str → Option NameKind) (m : Str → Option Value), (∀ p ∈ bs, kindOf p.1 = ns.lookup p.1) → (∀ n ∈ ns, m n.1 = none) → ∀ y ∈ ns.map (·.1), bindL kindOf bs m y = fr ns vs y := by
  induction h with
  | @nil ns =>
    intro _
    refine ⟨(fun p hp => nomatch hp), fun kindOf m _ hm y hy => ?_⟩
    refine x1_2 (List.mem_map.mp hy) fun n hn zq2 => ?_; subst zq2
    show m n.1 = _
    rw [hm n hn]; cases ns <;> rfl
  | @loc x v ns bs vs h ih =>
    intro nd
    refine x0_2 (List.nodup_cons.mp nd) fun nm nd' => ?_
    refine x0_2 (ih nd') fun a b => ?_
    have ne : ∀ p ∈ bs, p.1 ≠ x := fun p hp e => nm (e ▸ h.names p hp)
    refine ⟨fun p hp => ?_, fun kindOf m hk hm y hy => ?_⟩
    · rcases List.mem_cons.mp hp with rfl | hp
      · exact .inl (by simp)
      · rw [lookup_cons_ne (ne p hp)]; exact a p hp
    · have hx : kindOf x = some .local := (hk (x, v) (.head _)).trans (by simp)
      show bindL kindOf bs _ y = _
      rw [if_pos hx]
      by_cases e : y = x
      · subst e
        rw [bindL_off fun p hp => ne p hp]
        simp [frq]
      · have hy' : y ∈ ns.map (·.1) := by
          rcases List.mem_cons.mp hy with q | q
          · exact absurd q e
          · exact q
        have := b kindOf (fun z => if z = x then some v else m z) (fun p hp => by rw [hk p (.tail _ hp), lookup_cons_ne (ne p hp)]) (fun n hn => by
          have : n.1 ≠ x := fun q => nm (List.mem_map.mpr ⟨n, hn, q⟩)
          rw [if_neg this]; exact hm n (.tail _ hn)) y hy'
        rw [this]; simp [frq, e]
  | @cel x v ns bs vs h ih =>
    intro nd
    refine x0_2 (List.nodup_cons.mp nd) fun nm nd' => ?_
    refine x0_2 (ih nd') fun a b => ?_
    have ne : ∀ p ∈ bs, p.1 ≠ x := fun p hp e => nm (e ▸ h.names p hp)
    refine ⟨fun p hp => ?_, fun kindOf m hk hm y hy => ?_⟩
    · rcases List.mem_cons.mp hp with rfl | hp
      · exact .inr (by simp)
      · rw [lookup_cons_ne (ne p hp)]; exact a p hp
    · have hx : kindOf x = some .cell := (hk (x, v) (.head _)).trans (by simp)
      show bindL kindOf bs _ y = _
      rw [hx, if_neg (by decide)]
      by_cases e : y = x
      · subst e
        rw [bindL_off fun p hp => ne p hp, hm (y, .cell) (.head _)]
        simp [frq]
      · have hy' : y ∈ ns.map (·.1) := by
          rcases List.mem_cons.mp hy with q | q
          · exact absurd q e
          · exact q
        rw [b kindOf m (fun p hp => by rw [hk p (.tail _ hp), lookup_cons_ne (ne p hp)]) (fun n hn => hm n (.tail _ hn)) y hy']
        simp [frq, e]
theorem bindL_all {scope : Scope} {bs vs} (W : Wf scope) (hb : BndC scope.names bs vs) (kindOf : Str → Option NameKind) (hk : ∀ x, kindOf x = scope.names.lookup x) : ∀ y, bindL kindOf bs (fun _ => none) y = fr scope.names vs y := fun y => by
  refine x0_2 (hb.get W.nd) fun _ b => ?_
  by_cases m : y ∈ scope.names.map (·.1)
  · exact b kindOf _ (fun p _ => hk _) (fun _ _ => rfl) y m
  · rw [fr_none m, bindL_off fun p hp e => m (by rw [← e]; exact hb.names p hp)]

theorem cellsAre_keys {cm : Str → Option Value} {cs : List (Str × Addr)} {cells : List (Addr × Obj)} (x : CellsAre cm cs cells) : cells.map (·.1) = cs.map (·.2) := by
  induction x with
  | nil => rfl
  | cons _ _ ih => rw [List.map_cons, List.map_cons, ih]
theorem enterC {w : World} {A : Around} {mg mb : Str → Option Value} {g h : Heap} {s : Shared} {tk n : Nat} {Q E : Value → Shared → Prop} {name qual : Str} {params : Arguments} {body : List Stmt} {scope : Scope} {dV kV doc pm cdv ct oc : Value} {an od : Option Addr} {osl : Array (Option Value)} {f : Addr} {args : List Value}
    {binds : List (Str × Value)} {outer : List Env} (led : List (Addr × Obj)) (vs : List (Option Value))
    (G : Gl w mg mb g) (hk : g.StaysIn h)
    (ho : (Mine.hd.heap_1 w.params).lookup f = some ⟨oc, od, .func (fnOf name qual params body scope dV kV doc pm an cdv ct), osl⟩)
    (hcd : codeIn (Mine.hd.heap_1 w.params) cdv qual = true) (W : wfS scope = true) (R : Rm A (n + 1))
    (hbind : BindsTo (St s h tk) (fnOf name qual params body scope dV kV doc pm an cdv ct) ⟨args, []⟩ binds) (hb : BndC scope.names binds vs)
    (hA : A.frames = some outer) (hled : ∀ p ∈ led, h.get? p.1 = some p.2 ∧ g.get? p.1 = none) (hnd : (led.map (·.1)).Nodup)
    (hcn : ((cellsFrom 0 scope.names []).map (·.1)).Nodup)
    (k : ∀ B h₁ L tk' env A' cells, Ev env scope.names L → env.cells = cellsFrom (L + 1) scope.names [] → env.qual = qual ++ ".<locals>." → env.code = cdv → Gl w mg mb B →
      CellsAre (bindC (fun x => scope.names.lookup x) binds fun _ => none) (cellsFrom (L + 1) scope.names []) cells → Sx B L h₁ scope.names vs (cells ++ led) [] →
      (Chg (led.map (·.1)) h B) → B.StaysIn h → h.get? L = none → Rm A' n →
      A'.frames = some (env :: outer) → env.scope.kind ≠ .module → env.frame = some L →
      wpAny (model pg w) A' (execs body env) (Fq Q) (fun _ _ => False) (St s h₁ tk'))
    (hco : scope.isCoroutine = false) (hgen : scope.isGenerator = false) :
    wpAny (model pg w) A (call (.ref f) args) Q E (St s h tk) := by
  have W := wf_of W
  refine x0_2 (hb.get W.nd) fun b1 _ => ?_
  have st : ∀ a o, h.get? a = some o → a ∉ led.map (·.1) → (hideAll h (led.map (·.1))).get? a = some o := fun a o e n => hideAll_get _ e n
  have gB : g.StaysIn (hideAll h (led.map (·.1))) := fun a o e => st a o (hk a o e) fun m => by
    refine x1_2 (List.mem_map.mp m) fun p hp zq2 => ?_; subst zq2
    rw [(hled p hp).2] at e; cases e
  refine wpAny_call (codeAny_call_function (s := St s h tk) R.room ((G.X.keeps hk) _ _ ho) rfl hco hgen rfl (codeRec_of (G.X.keeps hk) hcd) (hbind _ _ _ _ ?_))
  refine wpAny_newFunctionEnv_cells W.kd (fun x hx => ?_) fun env' he s' x => ?_
  · rcases b1 x hx with q | q
    · exact .inl q
    · exact .inr ⟨q, cellsFrom_some _ _ _ (.inl q)⟩
  subst he
  refine ⟨((G.lim.keeps hk)).keeps x.toInCall.keep, codeAny_func ?_⟩
  refine x2_2 (x.done) fun h₁ tk₁ zq2 _ => ?_; subst zq2
  have hk₁ := x.toInCall.keep
  have cl := fun (n : Str) (c : Addr) (hm : (n, c) ∈ cellsFrom (h.objs.size + 1) scope.names []) => lookup_of_mem_nodup (cellsFrom_names scope.names 0 (h.objs.size + 1) [] [] rfl ▸ hcn) hm
  refine x1_2 (Cl.news (h₀ := h) (L := h.objs.size) (cs := cellsFrom (h.objs.size + 1) scope.names []) (Nat.le_refl _) fun n c hm => ⟨x.cell n c (cl n c hm), x.above n c hm⟩) fun cells NC Y => ?_
  have hL : h.get? h.objs.size = none := by
    exact new_none h
  refine wpAny_mono (k (hideAll h (led.map (·.1))) h₁ h.objs.size tk₁ _ _ cells ⟨rfl, W, rfl, rfl, rfl⟩ rfl rfl rfl (G.keeps gB) Y ⟨?_, ?_, ?_, fun f hf => nomatch hf⟩ st (fun a o e => of_hideAll _ e) hL (R.in ⟨rfl, rfl, rfl⟩) (Around.frames_deeper hA) (by show scope.kind ≠ _; rw [W.kd]; decide) rfl) (fun fl s' q => q) fun _ _ x => x.elim
  · exact ⟨(funext (bindL_all W hb _ fun _ => rfl) : _ = _) ▸ x.toInCall.ns, fun b o e => hk₁ b o (of_hideAll _ e), Nat.le_of_eq (hideAll_size _ _)⟩
  · intro p hp
    rcases List.mem_append.mp hp with hp | hp
    · refine ⟨(NC p hp).1, (NC p hp).2.1, ?_⟩
      cases q : (hideAll h (led.map (·.1))).get? p.1 with
      | none => rfl
      | some o => have := of_hideAll _ q; rw [(NC p hp).2.2] at this; cases this
    · exact ⟨hk₁ _ _ (hled p hp).1, Nat.ne_of_lt (Heap.lt_size (hled p hp).1), hideAll_none _ (List.mem_map_of_mem hp)⟩
  · rw [List.map_append]
    refine List.nodup_append.mpr ⟨?_, hnd, fun a ha b hb e => ?_⟩
    · rw [cellsAre_keys Y]
      exact List.pairwise_map.mpr x.apart
    · refine x1_2 (List.mem_map.mp hb) fun p hp zq2 => ?_; subst zq2
      refine x1_2 (List.mem_map.mp ha) fun q hq zq2 => ?_; subst zq2
      have z := (NC q hq).2.2
      rw [e, (hled p hp).1] at z; cases z
end
section
set_option maxRecDepth 100000
theorem closureFor_cells {scope : Scope} {env : Env} {cl : List (Str × Addr)} (h : env.cells = cl) : closureFor scope env = closureFor scope { (default : Env) with cells := cl } := by
  subst h; rfl
theorem coderec_keep {h h' : Heap} {v : Value} {q : Str} (k : Tk h h') (x : h.CodeRec v q) : h'.CodeRec v q := by
  refine x4_4 x ?_; (try clear x); intro c o vs t e g d r
  exact ⟨c, o, vs, t, e, k _ _ g (tup_rec d r), d, r⟩
noncomputable def tabOk (q : Str) (ps : Array Value) (h : Heap) : Prop := ∀ pos cv, codeAmong pos ps.toList = some cv → ∃ c, cv = .ref c ∧ h.CodeRec (.ref c) q
noncomputable def tabF (q : Str) (ps : Array Value) : Fact := ⟨tabOk q ps, fun _ _ k x pos cv e => x1_2 (x pos cv e) fun c a b => ⟨c, a, coderec_keep k b⟩⟩
inductive Tr3 : List Value → Prop
  | nil : Tr3 []
  | cons {a b : Int} {t u : Tok} {c : Value} {r : List Value} : Tr3 r → Tr3 (.int a t :: .int b u :: c :: r)
theorem Tr3.one {v : Value} {l : List Value} (h : TriplesOk (v :: l)) : ∃ a t, v = .int a t := by cases v <;> first | exact ⟨_, _, rfl⟩ | exact False.elim h
theorem Tr3.two {a : Int} {t : Tok} {v : Value} {l : List Value} (h : TriplesOk (.int a t :: v :: l)) : ∃ a t, v = .int a t := by cases v <;> first | exact ⟨_, _, rfl⟩ | exact False.elim h
theorem Tr3.le (n : Nat) : ∀ {l : List Value}, l.length ≤ n → TriplesOk l → Tr3 l := by
  induction n with
  | zero => intro l hl _; exact List.eq_nil_of_length_eq_zero (Nat.le_zero.mp hl) ▸ .nil
  | succ n ih =>
    intro l hl h
    cases l with
    | nil => exact .nil
    | cons v l =>
      obtain ⟨a, t, rfl⟩ := Tr3.one h
      cases l with
      | nil => exact False.elim h
      | cons v l =>
        obtain ⟨b, u, rfl⟩ := Tr3.two h
        cases l with
        | nil => exact False.elim h
        | cons c l => exact .cons (ih (Nat.le_of_succ_le (Nat.le_of_succ_le (Nat.le_of_succ_le_succ hl))) h)
theorem Tr3.of {l : List Value} (h : TriplesOk l) : Tr3 l := Tr3.le _ (Nat.le_refl _) h
theorem triples_snoc {a b : Int} {t u : Tok} {c : Value} (l : List Value) (h : TriplesOk l) : TriplesOk (l ++ [.int a t, .int b u, c]) := by
  induction Tr3.of h with
  | nil => trivial
  | cons _ ih => exact ih h
theorem among_snoc {pos : Pos} {a b : Int} {t u : Tok} {c cv : Value} (l : List Value) (ht : TriplesOk l) (h : codeAmong pos (l ++ [.int a t, .int b u, c]) = some cv) : codeAmong pos l = some cv ∨ cv = c := by
  induction Tr3.of ht with
  | nil =>
    replace h : (if (a == pos.line && b == pos.col) = true then some c else none) = some cv := h
    by_cases q : (a == pos.line && b == pos.col) = true
    · rw [if_pos q] at h; exact .inr (Option.some.inj h).symm
    · rw [if_neg q] at h; cases h
  | @cons x y t u z r _ ih =>
    replace h : (if (x == pos.line && y == pos.col) = true then some z else codeAmong pos (r ++ _)) = some cv := h
    show (if (x == pos.line && y == pos.col) = true then some z else codeAmong pos r) = some cv ∨ _
    by_cases q : (x == pos.line && y == pos.col) = true
    · rw [if_pos q] at h ⊢; exact .inl h
    · rw [if_neg q] at h ⊢; exact ih ht h
theorem ntup_tab {ps : Array Value} (h : TriplesOk ps.toList) : ¬ Tup (tabObj ps) := fun t => by
  obtain ⟨x, u, e⟩ : ∃ (x : Str) (u : Tok), ps[1]? = some (Value.str x u) := t
  obtain ⟨l⟩ := ps
  cases Tr3.of h <;> simp at e
section
variable {w : World} {mg mb : Str → Option Value} {B : Heap} {A : Around} {E : Value → Shared → Prop} {s : Shared} {env : Env} {L c P : Addr} {h : Heap} {tk : Nat} {ns : List (Str × NameKind)} {vs vs' : List (Option Value)} {news : List (Addr × Obj)} {fs : List Fact} {o : Obj}
theorem e_lam {params : Arguments} {body : Expr} {scope : Scope} {pos : Pos} {q : Str} {ps : Array Value} {clos : List (Str × Addr)} {Q : Value → Shared → Prop} (V : Ev env ns L) (G : Gl w mg mb B) (S : Sx B L h ns vs news fs) (hdef : defaultsOf params env = ([], [])) (hq : env.qual ++ "<lambda>" = q) (hcode : env.code = .ref c)
    (C : CodeHd B c P) (hcl : closureFor scope env = pure clos) (m : Inn (P, tabObj ps) news) (ht : TriplesOk ps.toList) (ok : tabOk q ps h)
    (k : ∀ ps', ∃ news', Up P (tabObj ps) (tabObj ps') news news' ∧ ∀ f c' ctv h' tk', TriplesOk ps'.toList → tabOk q ps' h' → h'.CodeRec (.ref c') q → Sx B L h' ns vs ((f, kla_obj "<lambda>" q params body scope clos ((mg "__name__").getD .none) c' ctv) :: news') fs → Q (.ref f) (St s h' tk')) :
    wpAny (model pg w) A (eval (.Lambda params body scope pos) env) Q E (St s h tk) := by
  refine kla_eval hdef ?_
  rw [hq]
  have hm := S.N _ m.mem
  have hgs := G.g.keeps S.F.keep
  refine x2_6 (G.bm) fun bm ob b1 b2 b3 b4 b5 b6 => ?_
  have b3 := S.F.keep _ _ b3
  have hgP : mainGlobals ≠ P := fun z => by
    refine x3_3 hgs ?_; (try clear hgs); intro o es ep e hd _
    rw [z, hm.1] at e; cases e; cases hd
  have hbP : bm ≠ P := fun z => by
    rw [z, hm.1] at b3; cases b3; cases b4
  have hbG : bm ≠ mainGlobals := fun z => by
    refine x3_3 hgs ?_; (try clear hgs); intro o es ep e hd _
    rw [z, e] at b3; cases b3; rw [hd] at b6; cases b6
  have BA : h.BuiltinsAt mg P := ⟨bm, ob, b1, b2, hbG, hbP, b3, b4, b5, b6⟩
  cases hf : codeAmong pos ps.toList with
  | none =>
    refine kla_makeFunction (s := St s h tk) hcl V.glo hgs hcode (C.keeps S.F.keep) hm.1 ht hf hgP BA fun c' ctv h' tk' hx hge hlt hrec htb => ?_
    refine x1_2 (k (ps ++ #[rawInt pos.line, rawInt pos.col, .ref c'])) fun news' U k => ?_
    have S1 := S.chg U (ntup_tab ht) (fun a x z n => hx a x (by simpa using n) z) htb
    have S2 := S1.got (a := h'.objs.size) (o := kla_obj "<lambda>" q params body scope clos ((mg "__name__").getD .none) c' ctv) (h' := h'.push _) (fun b o e => Heap.get?_push_of_some _ e) (new_none _) (Heap.get?_push_size _ rfl)
    have keep : Tk h h' := fun a x z t => hx a x (fun z' => by rw [z', hm.1] at z; cases z; exact ntup_tab ht t) z
    refine k _ c' ctv _ _ ?_ ?_ (hrec.push _) S2
    · rw [Array.toList_append]; exact triples_snoc _ ht
    · intro p cv e
      rw [Array.toList_append] at e
      rcases among_snoc _ ht e with e | rfl
      · refine x1_2 (ok p cv e) fun c2 a b => ?_
        exact ⟨c2, a, (coderec_keep keep b).push _⟩
      · exact ⟨c', rfl, hrec.push _⟩
  | some cv =>
    refine x1_2 (ok _ _ hf) fun c' zq1 hrec => ?_; subst zq1
    refine kla_makeFunctionHit (s := St s h tk) hcl V.glo hgs hcode (C.keeps S.F.keep) hm.1 ht hf BA fun ctv h' tk' hk hsz => ?_
    refine x1_2 (k ps) fun news' U k2 => ?_
    have e0 : news' = news := by
      have : ∀ {l l' : List (Addr × Obj)}, Up P (tabObj ps) (tabObj ps) l l' → l' = l := by
        intro l l' U
        induction U with
        | z => rfl
        | s _ ih => rw [ih]
      exact this U
    subst e0
    have hk : h.StaysIn h' := hk
    have S1 := S.call hk
    have S2 := S1.got (a := h'.objs.size) (o := kla_obj "<lambda>" q params body scope clos ((mg "__name__").getD .none) c' ctv) (h' := h'.push _) (fun b o e => Heap.get?_push_of_some _ e) (new_none _) (Heap.get?_push_size _ rfl)
    have kk : h.StaysIn (h'.push (kla_obj "<lambda>" q params body scope clos ((mg "__name__").getD .none) c' ctv)) := fun b o e => Heap.get?_push_of_some _ (hk b o e)
    exact k2 _ c' ctv _ _ ht (fun p cv e => let ⟨c2, a, b⟩ := ok p cv e; ⟨c2, a, b.keeps kk⟩) (hrec.keeps kk) S2
end

theorem enterL {w : World} {A : Around} {mg mb : Str → Option Value} {g h : Heap} {s : Shared} {tk n : Nat} {Q E : Value → Shared → Prop} {qual : Str} {params : Arguments} {body : Expr} {scope : Scope} {clos : List (Str × Addr)} {pm ctv : Value} {c' f : Addr}
    {outer : List Env} {FX : List (Addr × Obj)} {num : Int} {P : Prop}
    (G : Gl w mg mb g) (hk : g.StaysIn h) (ho : h.get? f = some (kla_obj "<lambda>" qual params body scope clos pm c' ctv)) (hcd : h.CodeRec (.ref c') qual) (W : wfS scope = true) (R : Rm A (n + 1))
    (hbind : bindArgs (kla_fn "<lambda>" qual params body scope clos pm (.ref c') ctv) ⟨[], []⟩ = pure [])
    (hA : A.frames = some outer) (Fs : Frs outer FX) (hFX : ∀ p ∈ FX, h.get? p.1 = some p.2 ∧ g.get? p.1 = none) (hnd : (FX.map (·.1)).Nodup)
    (hcell : noCell scope = true)
    (hE : P → ∀ e h' tk', Thrown h FX num e h' → E (.ref e) (St s h' tk'))
    (k : ∀ B h₁ L tk' env A', Ev env scope.names L → env.cells = clos → Gl w mg mb B → Sx B L h₁ scope.names [] FX [] → (Chg (FX.map (·.1)) h B) → B.StaysIn h → h.get? L = none → Rm A' n →
      A'.frames = some (env :: outer) → env.scope.kind ≠ .module → env.frame = some L →
      ∀ Lv : Value → Shared → Prop, (P → ∀ v s', Eb s h FX num L v s' → Lv v s') →
      wpAny (model pg w) A' (eval body env) Q Lv (St s h₁ tk'))
    (hco : scope.isCoroutine = false) (hgen : scope.isGenerator = false) :
    wpAny (model pg w) A (call (.ref f) []) Q E (St s h tk) := by
  have W := wf_of W
  have hcell' : ∀ x ∈ scope.names, x.2 ≠ .cell := fun x hx e => by
    have := List.all_eq_true.mp hcell x hx
    rw [e] at this; cases this
  have st : ∀ a o, h.get? a = some o → a ∉ FX.map (·.1) → (hideAll h (FX.map (·.1))).get? a = some o := fun a o e n => hideAll_get _ e n
  have gB : g.StaysIn (hideAll h (FX.map (·.1))) := fun a o e => st a o (hk a o e) fun m => by
    refine x1_2 (List.mem_map.mp m) fun p hp zq2 => ?_; subst zq2
    rw [(hFX p hp).2] at e; cases e
  have hL : h.get? h.objs.size = none := new_none h
  refine wpAny_call (kla_callFunE (s := St s h tk) R.room ho rfl hco hgen rfl hcd ?_)
  rw [hbind]
  refine wpAny_pure (wpAny_newFunctionEnv hcell' (by intro y hy; cases hy) (fun h₁ hns hsb => ⟨((G.lim.keeps hk)).fresh _ hsb, ?_⟩) W.kd)
  have hk₁ : ∀ b o, h.get? b = some o → h₁.get? b = some o := fun b o e => hsb.extBut b o (Nat.ne_of_lt (Heap.lt_size e)) (Heap.get?_push_of_some _ e)
  have hfr : ∀ env : Env, (A.deeper env).frames = some (env :: outer) := fun env => Around.frames_deeper hA
  have B0 : ∀ p ∈ FX, (hideAll h (FX.map (·.1))).get? p.1 = none := fun p hp => hideAll_none _ (List.mem_map_of_mem hp)
  have F' : Fr (hideAll h (FX.map (·.1))) h.objs.size h₁ (fr scope.names []) := by
    refine ⟨?_, fun b o e => hk₁ b o (of_hideAll _ e), Nat.le_of_eq (hideAll_size _ _)⟩
    have : (fun y => ([] : List (Str × Value)).reverse.lookup y) = fr scope.names [] := funext fun y => by cases scope.names <;> rfl
    exact this ▸ hns
  have N' : News (hideAll h (FX.map (·.1))) h.objs.size h₁ FX := fun p hp => ⟨hk₁ _ _ (hFX p hp).1, Nat.ne_of_lt (Heap.lt_size (hFX p hp).1), B0 p hp⟩
  refine kla_codeExpr ?_
  obtain ⟨envE, hE0⟩ : ∃ e : Env, e = { scope := scope, locals := h.objs.size, globals := mainGlobals, cells := clos, qual := qual ++ ".<locals>.", func := some f, code := .ref c', frame := some h.objs.size, builtins := builtinsNs } := ⟨_, rfl⟩
  have k1 : envE.scope = scope := by rw [hE0]
  have k2 : envE.frame = some h.objs.size := by rw [hE0]
  show wpAny _ (A.deeper { scope := scope, locals := h.objs.size, globals := mainGlobals, cells := clos, qual := qual ++ ".<locals>.", func := some f, code := .ref c', frame := some h.objs.size, builtins := builtinsNs }) (eval body { scope := scope, locals := h.objs.size, globals := mainGlobals, cells := clos, qual := qual ++ ".<locals>.", func := some f, code := .ref c', frame := some h.objs.size, builtins := builtinsNs }) _ _ _
  rw [← hE0]
  refine wpAny_mono (k (hideAll h (FX.map (·.1))) h₁ h.objs.size _ envE (A.deeper envE) ⟨by rw [k1], by rw [k1]; exact W, by rw [hE0], by rw [hE0], by rw [hE0]⟩ (by rw [hE0]) (G.keeps gB) ⟨F', N', hnd, fun f hf => nomatch hf⟩ st (fun a o e => of_hideAll _ e) hL (R.in ⟨rfl, rfl, rfl⟩) (hfr _) (by rw [k1, W.kd]; decide) k2 _ fun hp v s' q => ?_) (fun v s' q => q) fun v s' q => q
  obtain ⟨e, h', tk'', oL, rfl, rfl, T, hL', hLd, hx, d, od', hfx, hxL⟩ := q
  refine x4_3 (T.fly) fun d' od2 mA u X ns1 hn => ?_
  obtain rfl := hfx.same X
  have hBn := B0
  have hLn : (hideAll h (FX.map (·.1))).get? h.objs.size = none := by
    cases z : (hideAll h (FX.map (·.1))).get? h.objs.size with
    | none => rfl
    | some o => rw [of_hideAll _ z] at hL; cases hL
  generalize hB : hideAll h (FX.map (·.1)) = B at *
  have ff : h'.FunFrames B (envE :: outer) := ⟨by rw [k1, W.kd]; decide, ⟨h.objs.size, oL, k2, hLn, hL', hLd⟩, Fs.fun fun p hp => ⟨hBn p hp, T.fr p hp⟩⟩
  have keys : (envE :: outer).filterMap (·.frame) = h.objs.size :: FX.map (·.1) := by
    rw [List.filterMap_cons, k2]
    show h.objs.size :: _ = _
    rw [Fs.keys]
  have hdS : d ∉ (envE :: outer).filterMap (·.frame) := by
    rw [keys]
    intro m
    rcases List.mem_cons.mp m with z | m
    · rw [z] at hfx; exact hxL hfx.d0
    · refine x1_2 (List.mem_map.mp m) fun p hp z => ?_
      have := (hFX p hp).1
      rw [z, X.d0] at this; cases this
  subst hE0
  refine leave_own (s := St s h' tk'') (hfr _) ff rfl X hdS (fun b hb => ?_) (fun h₂ X₂ Z => ?_)
  · cases z : h.get? b with
    | none => exact absurd z hb
    | some o =>
      by_cases m : b ∈ FX.map (·.1)
      · refine x1_2 (List.mem_map.mp m) fun p hp zq2 => ?_; subst zq2
        refine x1_1 (T.fr p hp) fun sl z' => ?_
        show h'.get? p.1 ≠ none
        rw [z']; intro q; cases q
      · show h'.get? b ≠ none
        rw [T.keep b o z m]; intro q; cases q
  · have hLh : ∀ b o, h.get? b = some o → b ≠ h.objs.size := fun b o z q => by rw [q, hL] at z; cases z
    refine hE hp e h₂ tk'' ⟨⟨d, _, mA, u, X₂, ?_, hn⟩, fun b o z m => ?_, fun p hp => ?_⟩
    · refine x3_2 ns1 ?_; (try clear ns1); intro oD es ep hD r
      rw [X.dict] at hD; cases hD
      exact ⟨_, es, ep, X₂.dict, r⟩
    · refine Z.keep b o (by rw [z]; intro q; cases q) (T.keep b o z m) (keys ▸ ?_)
      intro q
      rcases List.mem_cons.mp q with q | q
      · exact hLh b o z q
      · exact m q
    · refine x1_1 (T.fr p hp) fun sl z => ?_
      refine x1_1 (Z.slots _ _ z (keys ▸ .tail _ (List.mem_map_of_mem hp))) fun sl' z' => ?_
      exact ⟨sl', z'⟩
end
section
set_option maxRecDepth 100000
section
variable {w : World} {mg mb : Str → Option Value} {B : Heap} {A : Around} {E : Value → Shared → Prop} {s : Shared} {env : Env} {L C : Addr} {h h' : Heap} {tk : Nat} {ns nsC : List (Str × NameKind)} {vs vs' vsC : List (Option Value)} {news news' : List (Addr × Obj)} {fs : List Fact} {oL : Obj}
theorem x_for_tup {target : Expr} {body : List Stmt} {Q : Flow → Shared → Prop} {t : Addr} {items : List Value} (J : Nat → Shp) (hgo : ∀ i v, letOwnedTupleGo target i v = pure ()) (hh : A.handled = none) (S : Sx B L h ns vs news fs) (h0 : J 0 vs news fs) (hE : Po A w env E)
    (hl : ∀ i vs news fs h, J i vs news fs → Sx B L h ns vs news fs → IsTup h t items.toArray)
    (turn : ∀ i vs news fs v h tk p, items[i]? = some v → J i vs news fs → Sx B L h ns vs (p :: news) fs → wpAny (model pg w) A (assign target env v) (fun _ s₂ => wpAny (model pg w) A (execs body env) (Lf s B L ns p (J (i + 1)) Q) E s₂) E (St s h tk))
    (done : ∀ vs news fs h tk, J items.length vs news fs → Sx B L h ns vs news fs → Q .next (St s h tk)) :
    wpAny (model pg w) A (pyIter (.ref t)) (fun it s₂ => codeAny (model pg w) A (.forLoop target it body [] env) (fun r s' => match r with | .ok f => Q f s' | .error e => cameBackBy (model pg w) A env E e s') s₂) E (St s h tk) := by
  have hl0 := hl _ _ _ _ _ h0 S
  refine wpAny_pyIter_tuple (s := St s h tk) hl0 ?_
  have S1 := S.push (a := h.objs.size) (o := { cls := .type "tuple_iterator", data := .fields #[.ref t, .int 0 0] }) (S.F.push _) (News.push S.F (S.all []) _ rfl) S.none_size
  have hne : t ≠ h.objs.size := by
    refine x1_2 hl0 ?_; (try clear hl0); intro o e _
    exact Nat.ne_of_lt (Heap.lt_size e)
  refine x_walkA (s := s) (It := fun i o => o.cls = .type "tuple_iterator" ∧ o.data = .fields #[.ref t, .int i 0]) (P := fun i v => items[i]? = some v) (n := items.length) (Ok := fun h' => IsTup h' t items.toArray) J ?_ (hgo _) ?_ ?_ (fun i vs news fs h p hJ S _ => hl i vs news fs h hJ S.tail) S1 ⟨rfl, rfl⟩ h0 hE (fun i vs news fs v h tk p _ hv hJ => turn i vs news fs v h tk p hv hJ) done
  · rintro i o ⟨_, hd⟩
    exact ntup_int hd rfl
  · rintro i o s Q E hi ho ⟨hc, hd⟩ hL hQ
    have hx : items.toArray[i]? = some items[i] := by simp [hi]
    refine wpAny_pyNext_tuple_item ⟨o, ho, hc, hd⟩ hL hx fun h' hit' hs' => ?_
    refine x1_3 hit' ?_; (try clear hit'); intro o' ho' hc' hd'
    exact hQ _ h' o' s.toks (by simp [hi]) ho' ⟨hc', hd'⟩ fun b x hb e => hs'.extBut b x hb e
  · rintro o s Q E ho ⟨hc, hd⟩ hL hQ
    exact wpAny_pyNext_tuple_end hh ⟨o, ho, hc, hd⟩ hL (by simp) fun h' he' => hQ h' s.toks fun b x hb e => he' b x hb e

theorem Sx.into (S : Sx B L h ns vs news fs) (hC : h.get? C = none) (hlt : L < C) (k : h.StaysIn h') (hn : h'.Ns C (fr nsC vsC)) :
    ∃ oL, (∀ H : Heap, H.get? L = some oL → H.Ns L (fr ns vs)) ∧ Sx B C h' nsC vsC ((L, oL) :: news) fs := by
  refine x3_2 (S.F.ns) fun oL es ep hL r => ?_
  have hB : ∀ b o, B.get? b = some o → b < L := fun b o e => Nat.lt_of_lt_of_le (Heap.lt_size e) S.F.above
  refine ⟨oL, fun H e => ⟨oL, es, ep, e, r⟩, ⟨hn, fun b o e => k _ _ (S.F.keep b o e), Nat.le_trans S.F.above (Nat.le_of_lt hlt)⟩, fun p hp => ?_, ?_, fun f hf => f.keeps _ _ (Tk.of_stays k) (S.ft f hf)⟩
  · rcases List.mem_cons.mp hp with rfl | hp
    · refine ⟨k _ _ hL, Nat.ne_of_lt hlt, ?_⟩
      cases q : B.get? L with
      | none => rfl
      | some o => exact absurd (hB _ _ q) (Nat.lt_irrefl _)
    · have P := S.N p hp
      exact ⟨k _ _ P.1, (fun q => by rw [q, hC] at P; cases P.1), P.2.2⟩
  · refine List.nodup_cons.mpr ⟨fun m => ?_, S.nd⟩
    refine x1_2 (List.mem_map.mp m) fun p hp e => ?_
    exact (S.N p hp).2.1 e
theorem Sx.back (S : Sx B C h nsC vsC ((L, oL) :: news) fs) (hL : ∀ H : Heap, H.get? L = some oL → H.Ns L (fr ns vs)) (ab : B.objs.size ≤ L) (k : ∀ b o, b ≠ C → h.get? b = some o → h'.get? b = some o) : Sx B L h' ns vs news fs := by
  have P := S.N _ (.head _)
  refine x0_2 (List.nodup_cons.mp S.nd) fun n1 n2 => ?_
  refine ⟨⟨hL _ (k _ _ P.2.1 P.1), fun b o e => k b o (fun q => ?_) (S.F.keep b o e), ab⟩, fun p hp => ?_, n2, fun f hf => f.keeps _ _ (fun b x e t => k b x (S.frame_ne e t) e) (S.ft f hf)⟩
  · rw [q] at e
    exact absurd (Heap.lt_size e) (Nat.not_lt.mpr S.F.above)
  · have Q := S.N p (.tail _ hp)
    exact ⟨k _ _ Q.2.1 Q.1, fun e => n1 (List.mem_map.mpr ⟨p, hp, e⟩), Q.2.2⟩

theorem relabel_eq {scope : Scope} {env : Env} {nsC : List (Str × NameKind)} (h : (relabel scope env).names = nsC) : relabel scope env = { scope with names := nsC } := by
  unfold relabel at h ⊢
  rw [← h]
inductive CmI (s : Shared) (B : Heap) (C : Addr) (nsC : List (Str × NameKind)) (I D : Addr) (lo : Addr × Obj) (n : Nat) (J : Nat → List Value → List (Addr × Obj) → List Fact → Prop) (Kv : List (Option Value) → Prop) (It : Nat → Obj → Prop) : Nat → Shared → Prop
  | mk {i : Nat} {h : Heap} {tk : Nat} {ys : List Value} {vsC : List (Option Value)} {news : List (Addr × Obj)} {fs : List Fact} {o : Obj} {c : Nat} : i ≤ n → ys.length = i → J i ys news fs → Kv vsC → Sx B C h nsC vsC ((I, o) :: (D, listOf ys.toArray c) :: lo :: news) fs → It i o → CmI s B C nsC I D lo n J Kv It (n + 1 - i) (St s h tk)
inductive CmE (s : Shared) (B : Heap) (C : Addr) (ns : List (Str × NameKind)) (p1 p2 p3 : Addr × Obj) (Kv : List (Option Value) → Prop) (J : List (Addr × Obj) → List Fact → Prop) : Shared → Prop
  | mk {h : Heap} {tk : Nat} {vs : List (Option Value)} {news : List (Addr × Obj)} {fs : List Fact} : Sx B C h ns vs (p1 :: p2 :: p3 :: news) fs → Kv vs → J news fs → CmE s B C ns p1 p2 p3 Kv J (St s h tk)
inductive CmS (s : Shared) (B : Heap) (L : Addr) (ns : List (Str × NameKind)) (vs : List (Option Value)) (J : List (Addr × Obj) → List Fact → Prop) (It : Addr → Obj → Prop) : Value → Shared → Prop
  | mk {I : Addr} {o : Obj} {h : Heap} {tk : Nat} {news : List (Addr × Obj)} {fs : List Fact} : Sx B L h ns vs ((I, o) :: news) fs → It I o → J news fs → CmS s B L ns vs J It (.ref I) (St s h tk)
inductive CmL (s : Shared) (B : Heap) (L : Addr) (ns : List (Str × NameKind)) (vs : List (Option Value)) (J : List (Addr × Obj) → List Fact → Prop) (l : Addr) : Value → Shared → Prop
  | mk {h : Heap} {tk : Nat} {news : List (Addr × Obj)} {fs : List Fact} : Sx B L h ns vs news fs → J news fs → CmL s B L ns vs J l (.ref l) (St s h tk)
inductive CmR (s : Shared) (B : Heap) (L : Addr) (ns : List (Str × NameKind)) (vs : List (Option Value)) (J : List (Addr × Obj) → List Fact → Prop) (n : Int) : Value → Shared → Prop
  | mk {r : Addr} {t u v : Tok} {h : Heap} {tk : Nat} {news : List (Addr × Obj)} {fs : List Fact} : Sx B L h ns vs news fs → (r, rangeO n t u v) ∈ news → J news fs → CmR s B L ns vs J n (.ref r) (St s h tk)
theorem x_comp {elt target iter : Expr} {scope : Scope} {cl : List (Str × Addr)} {pos : Pos} {Q : Value → Shared → Prop} {n : Nat} {P : Nat → Value → Prop} {It : Addr → Nat → Obj → Prop} {Ok : Addr → Heap → Prop} (J : Nat → List Value → List (Addr × Obj) → List Fact → Prop) (Kv : List (Option Value) → Prop) (kv : Nat)
    (V : Ev env ns L) (hclos : closureFor scope env = pure cl) (hcell : ∀ y ∈ scope.names, y.2 ≠ .cell) (hnames : ∀ y ∈ scope.names, y.2 = .local → scope.names.lookup y.1 = some .local)
    (hrel : (relabel scope env).names = nsC) (hwf : wfS { scope with names := nsC } = true) (hkd : scope.kind = .function) (hsz : n ≤ sizeLine) (hKv : Kv (List.replicate kv none))
    (nt : ∀ I i o, It I i o → ¬ Tup o)
    (go : ∀ I i o (s : Shared) v (Q : Unit → Shared → Prop) (E : Value → Shared → Prop), s.heap.get? I = some o → It I i o → Q () s → wpAny (model pg w) A (letOwnedTupleGo target (.ref I) v) Q E s)
    (self : ∀ I o (s : Shared) (Q : Value → Shared → Prop) (E : Value → Shared → Prop), s.heap.get? I = some o → It I 0 o → Q (.ref I) s → wpAny (model pg w) A (pyIter (.ref I)) Q E s)
    (item : ∀ I i o (s : Shared) (Q : Option Value → Shared → Prop) (E : Value → Shared → Prop), i < n → s.heap.get? I = some o → It I i o → Ok I s.heap →
      (∀ v h' o' tk, P i v → h'.get? I = some o' → It I (i + 1) o' → (∀ b x, b ≠ I → s.heap.get? b = some x → h'.get? b = some x) → Q (some v) { s with heap := h', toks := tk }) → wpAny (model pg w) A (pyNext (.ref I)) Q E s)
    (fin : ∀ I o (s : Shared) (Q : Option Value → Shared → Prop) (E : Value → Shared → Prop), s.heap.get? I = some o → It I n o → Ok I s.heap →
      (∀ h' tk, (∀ b x, b ≠ I → s.heap.get? b = some x → h'.get? b = some x) → Q none { s with heap := h', toks := tk }) → wpAny (model pg w) A (pyNext (.ref I)) Q E s)
    (ok : ∀ I i ys news fs L ns vs h, J i ys news fs → Sx B L h ns vs news fs → I ∉ news.map (·.1) → B.get? I = none → Ok I h)
    (h : wpAny (model pg w) A (eval iter env) (fun x s₁ => wpAny (model pg w) A (pyIter x) (CmS s B L ns vs (J 0 []) fun I o => It I 0 o) E s₁) E s)
    (turn : ∀ i ys news fs v h tk p1 p2 p3 C vsC cenv, i < n → P i v → J i ys news fs → Kv vsC → Ev cenv nsC C → cenv.cells = cl → Sx B C h nsC vsC (p1 :: p2 :: p3 :: news) fs →
      wpAny (model pg w) A (assign target cenv v) (fun _ s₂ => wpAny (model pg w) A (eval elt cenv) (fun y => CmE s B C nsC p1 p2 p3 Kv (J (i + 1) (ys ++ [y]))) (fun _ _ => False) s₂) (fun _ _ => False) (St s h tk))
    (done : ∀ ys news fs D c h tk, J n ys news fs → Sx B L h ns vs ((D, listOf ys.toArray c) :: news) fs → Q (.ref D) (St s h tk))
    (hs : ∀ x, foldedSetIterable iter env x = pure x) :
    wpAny (model pg w) A (eval (.ListComp elt [⟨target, iter, [], 0⟩] scope pos) env) Q E s := by
  rw [eval_ListComp]
  refine wpAny_comprehension_free (use := none) rfl hs hclos hkd hnames (wpAny_mono h (fun x s₁ h₁ => wpAny_mono h₁ (fun it s₂ h₂ => ?_) fun _ _ e => e) fun _ _ e => e)
  cases h₂ with | @mk I o₀ h tk news fs S hI h0 => ?_
  refine n_list S (l := []) (Nat.zero_le _) fun D h2 tk2 S2 nD => ?_
  refine wpAny_newFunctionEnv (s := St s h2 tk2) hcell (by intro y hy; simp at hy) (fun h3 hns hsb => ?_) hkd
  have hlt : L < h2.objs.size := S2.size
  have k3 : h2.StaysIn h3 := fun b o e => hsb.extBut b o (Nat.ne_of_lt (Heap.lt_size e)) (Heap.get?_push_of_some _ e)
  obtain ⟨C, hC⟩ : ∃ C, C = h2.objs.size := ⟨_, rfl⟩
  obtain ⟨cenv, hce⟩ : ∃ e : Env, e = compEnvC scope cl C env := ⟨_, rfl⟩
  have hWf : Wf { scope with names := nsC } := wf_of hwf
  have Vc : Ev cenv nsC C := by
    refine ⟨by rw [hce]; exact hrel, by rw [hce]; show Wf (relabel scope env); rw [relabel_eq hrel]; exact hWf, by rw [hce]; rfl, by rw [hce]; exact V.glo, by rw [hce]; exact V.bui⟩
  have hcl : cenv.cells = cl := by rw [hce]; rfl
  have hns' : h3.Ns C (fr nsC []) := by
    have : (fun y => ([] : List (Str × Value)).reverse.lookup y) = fr nsC [] := funext fun y => by cases nsC <;> rfl
    rw [hC]
    exact this ▸ hns
  obtain ⟨oL, hoL, S3⟩ := S2.into (C := C) (by rw [hC]; exact new_none h2) (by rw [hC]; exact hlt) k3 hns'
  have S3 := (S3.pad kv).perm (news' := (I, o₀) :: (D, listOf ([] : List Value).toArray 0) :: (L, oL) :: news) (by
    refine List.Perm.trans (List.Perm.swap _ _ _) ?_
    refine List.Perm.trans (List.Perm.cons _ (List.Perm.swap _ _ _)) ?_
    exact List.Perm.swap _ _ _)
  rw [List.nil_append] at S3
  have ab := S.F.above
  have loop : ∀ s₃ : Shared, s₃ = St s h3 (tk2 + 0) → codeAny (model pg w) A (.compLoop (.ListComp elt [⟨target, iter, [], 0⟩] scope pos) 0 (.ref I) (.ref D) cenv) (compPost (model pg w) A E none Q (.ref D) C) s₃ := by
    rintro s₃ rfl
    refine kcp_loop (CmI s B C nsC I D (L, oL) n J Kv (It I)) ?_ (n + 1) (.mk (i := 0) (Nat.zero_le _) rfl h0 hKv S3 hI)
    intro k s' W
    cases W with | @mk i h tk ys vsC news fs o c hi hlen hJ hK S hI => ?_
    have P0 := S.N _ (.head _)
    have hOk := ok I i ys news fs _ _ _ h hJ (S.drop (news' := news) ((List.sublist_cons_self _ _).trans ((List.sublist_cons_self _ _).trans (List.sublist_cons_self _ _)))) (fun m => (List.nodup_cons.mp S.nd).1 (.tail _ (.tail _ m))) P0.2.2
    by_cases hlt : i < n
    · refine item I i o (St s h tk) _ _ hlt P0.1 hI hOk fun v h₁ o₁ tk₁ hP ho₁ hI₁ hk₁ => ?_
      have S₁ := S.turn hk₁ (nt _ _ _ hI) ho₁
      refine go I _ o₁ (St s h₁ tk₁) v _ _ ho₁ hI₁ ?_
      refine wpAny_mono (turn i ys news fs v h₁ tk₁ _ _ _ C vsC cenv hlt hP hJ hK Vc hcl S₁) (fun _ s₂ q₂ => wpAny_mono q₂ (fun y s₃ q => ?_) fun _ _ z => z.elim) fun _ _ z => z.elim
      cases q with | @mk h' tk' vsC' news' fs' S' hK' hJ' => ?_
      refine o_append S' (.s .z) rfl (hlen ▸ Nat.le_trans (Nat.le_of_lt hlt) hsz) fun h4 tk4 S4 => ?_
      exact ⟨n + 1 - (i + 1), turn_lt hlt, .mk hlt (by rw [List.length_append, hlen]; rfl) hJ' hK' S4 hI₁⟩
    · have : i = n := Nat.le_antisymm hi (Nat.le_of_not_lt hlt)
      subst this
      refine fin I o (St s h tk) _ _ P0.1 hI hOk fun h₁ tk₁ hk₁ => ?_
      have S1 := S.headless hk₁ (nt _ _ _ hI)
      have S2 := S1.perm (List.Perm.swap _ _ _)
      refine ⟨_, S1.F.ns, fun h' hs' => ?_⟩
      exact done ys news fs D c h' tk₁ hJ (S2.back hoL ab fun b o hb e => hs'.extBut b o hb e)
  subst hC
  have loop' := loop _ rfl
  rw [hce] at loop'
  refine codeAny_compStart_list loop' (self I o₀ _ _ _ (S3.N _ (.head _)).1 hI loop')
end
end
section
set_option maxRecDepth 100000
section
variable {w : World} {mg mb : Str → Option Value} {B : Heap} {A : Around} {E : Value → Shared → Prop} {s : Shared} {env : Env} {L C : Addr} {h h' : Heap} {tk : Nat} {ns nsC : List (Str × NameKind)} {vs vs' vsC : List (Option Value)} {news news' : List (Addr × Obj)} {fs : List Fact} {oL : Obj}
theorem o_itemL {D : Addr} {value slice : Expr} {l : List Value} {u : Tok} {i : Int} {x : Value} {Q : Value → Shared → Prop} (hl : h.IsList D l.toArray) (h0 : 0 ≤ i) (hfit : i < 2 ^ 63) (hx : l[i.toNat]? = some x) (k : Q x (St s h tk))
    (hs : subscripted slice false (.ref D) (.int i u) = operate [.ref D, .int i u] (getItem (.ref D) (.int i u))) (hg : ∀ r, letTemporaryGo value (.ref D) r = pure ()) :
    wpAny (model pg w) A (subscriptTail value slice (.ref D) (.int i u)) Q E (St s h tk) :=
  PyProof.Rows.item_listL (s := St s h tk) hl h0 hfit hx k hs hg
theorem o_itemS {D : Addr} {value slice : Expr} {l : List Value} {u : Tok} {i : Int} {x : Value} {c : Nat} {Q : Value → Shared → Prop} (S : Sx B L h ns vs news fs) (m : Inn (D, listOf l.toArray c) news) (h0 : 0 ≤ i) (hfit : i < 2 ^ 63) (hx : l[i.toNat]? = some x) (k : Q x (St s h tk))
    (hs : subscripted slice false (.ref D) (.int i u) = operate [.ref D, .int i u] (getItem (.ref D) (.int i u))) (hg : ∀ r, letTemporaryGo value (.ref D) r = pure ()) :
    wpAny (model pg w) A (subscriptTail value slice (.ref D) (.int i u)) Q E (St s h tk) :=
  o_itemL ⟨_, (S.N _ m.mem).1, rfl, c, rfl⟩ h0 hfit hx k hs hg
theorem o_itemT {D : Addr} {value slice : Expr} {l : List Value} {u : Tok} {i : Int} {x : Value} {Q : Value → Shared → Prop} (hl : h.IsList D l.toArray) (h0 : 0 ≤ i) (hfit : i < 2 ^ 63) (hx : l[i.toNat]? = some x) (k : Q x (St s h tk))
    (hs : subscripted slice false (.ref D) (.int i u) = operate [.ref D, .int i u] (getItem (.ref D) (.int i u))) :
    wpAny (model pg w) A (subscriptTail value slice (.ref D) (.int i u)) Q E (St s h tk) := by
  have hT : (St s h tk).TypeIs (.ref D) "list" := Heap.IsList.typeIs (s := St s h tk) hl
  unfold subscriptTail
  refine wpAny_bind ?_
  rw [getitemInPython_of_ne hT.not_modules]
  refine wpAny_bind (wpAny_specialOf hT slot_list_getitem.lookup ?_)
  have fin : wpAny (model pg w) A (subscripted slice false (.ref D) (.int i u)) (fun r s₃ => wpAny (model pg w) A (letTemporaryGo value (.ref D) r >>= fun _ => pure r) Q E s₃) E (St s h tk) := by
    rw [hs]
    exact wpAny_operating (wpAny_mono (wpAny_getItem_list (s := St s h tk) hl h0 hfit (by simpa using hx) k) (fun r s₃ h₃ => wpAny_bind (wpAny_letTemporaryGo (wpAny_pure h₃))) fun _ _ x => x)
  first
    | exact wpAny_pure (wpAny_bind fin)
    | exact wpAny_bind (wpAny_pure (wpAny_bind fin))
    | exact wpAny_bind fin
theorem x_asgsub {env : Env} {o i value : Expr} {pos' pos : Pos} {Q : Flow → Shared → Prop} {s : Shared} (hs : swapsWith value (some (.Subscript o i pos')) pos.line env = pure false)
    (k : wpAny (model pg w) A (eval value env) (fun v s₁ => wpAny (model pg w) A (eval o env) (fun ov s₂ => wpAny (model pg w) A (eval i env) (fun iv s₃ => wpAny (model pg w) A (setItem ov iv v) (fun _ => Q .next) E s₃) E s₂) E s₁) E s) :
    wpAny (model pg w) A (exec (.Assign [.Subscript o i pos'] value pos) env) Q E s := wpAny_Assign_Subscript k hs
theorem b_mul {a b : Int} {t u : Tok} {Q : Value → Shared → Prop} (hm : IntMulOk a b) (k : ∀ t' tk', Q (.int (a * b) t') (St s h tk')) : wpAny (model pg w) A (binaryOp .Mult (.int a t) (.int b u)) Q E (St s h tk) := PyProof.Rows.mul_int (s := St s h tk) (k _ _) hm
inductive Sat : List Value → Nat → Value → List Value → Prop
  | z {x v l} : Sat (x :: l) 0 v (v :: l)
  | s {x v l l' n} : Sat l n v l' → Sat (x :: l) (n + 1) v (x :: l')
theorem Sat.get {l l' : List Value} {n : Nat} {v : Value} (H : Sat l n v l') : n < l.length ∧ l.set n v = l' := by
  induction H with
  | z => exact ⟨Nat.zero_lt_succ _, rfl⟩
  | s _ ih => exact ⟨Nat.succ_lt_succ ih.1, by rw [List.set_cons_succ, ih.2]⟩
theorem o_setat {D : Addr} {l l' : List Value} {c n : Nat} {t : Tok} {v : Value} {Q : Unit → Shared → Prop} (S : Sx B L h ns vs news fs) (H : Sat l n v l') (U : Up D (listOf l.toArray c) (listOf l'.toArray c) news news') (hz : n < 2 ^ 62)
    (k : ∀ h' tk', Sx B L h' ns vs news' fs → Q () (St s h' tk')) : wpAny (model pg w) A (setItem (.ref D) (.int (OfNat.ofNat n) t) v) Q E (St s h tk) := by
  refine x0_2 (H.get) fun h1 h2 => ?_
  have e : (OfNat.ofNat n : Int) = (n : Int) := rfl
  refine o_setitem (i := (OfNat.ofNat n : Int)) S U ?_ ?_ ?_ ?_ k
  · rw [e]; exact lin0 [n] [] (.ile (.K 0) (.C (.V 0))) [[1]] okT
  · rw [e]; exact lin1 [n, _] [] (.nlt (.V 0) (.V 1)) (.ilt (.C (.V 0)) (.C (.V 1))) [[1, 1]] h1 okT
  · rw [e]; exact lin1 [n] [] (.nlt (.V 0) (.W 2 62)) (.ilt (.C (.V 0)) (.W 2 63)) [[1, 1]] hz okT
  · rw [e]; simpa using h2
theorem Sx.ne {p q : Addr × Obj} (S : Sx B L h ns vs news fs) (m1 : Inn p (q :: news')) (m2 : Inn q (q :: news')) (e : news = q :: news') (hne : p ≠ q) : q.1 ≠ p.1 := by
  subst e
  cases m1 with
  | z => exact absurd rfl hne
  | s m => exact fun z => (List.nodup_cons.mp S.nd).1 (List.mem_map.mpr ⟨p, m.mem, z.symm⟩)
theorem o_extend {D b : Addr} {l l2 l' : List Value} {n n2 : Nat} {Q : Value → Shared → Prop} (S : Sx B L h ns vs news fs) (U : Up D (listOf l.toArray n) (listOf l'.toArray (n + 1)) news news') (m : Inn (b, listOf l2.toArray n2) news) (hne : b ≠ D) (h0 : l2.length ≠ 0) (e : l ++ l2 = l') (hz : l.length + l2.length ≤ sizeLine)
    (k : ∀ h' tk', Sx B L h' ns vs news' fs → Q .none (St s h' tk')) : wpAny (model pg w) A (call (.builtin "list.extend") [.ref D, .ref b]) Q E (St s h tk) := by
  have P := S.N _ m.mem
  refine kl_extend (s := St s h tk) (l := l') S.F (S.one U.mem) (.tail _ (rst_mem.mpr ⟨P.1, P.2.1, by simpa using hne, P.2.2⟩)) (by simpa using e) (by simpa using h0) upd_one (extend_door (by simpa using hz)) (by simp; omega) (by simp; omega) (fun h' F' N' => k h' _ (S.mut U not_tup_list F' N'))
theorem x_asgn {x : Str} {px : Pos} {v : Value} {Q : Unit → Shared → Prop} {s : Shared} (k : wpAny (model pg w) A (storeName env x v) Q E s) : wpAny (model pg w) A (assign (.Name x px) env v) Q E s := wpAny_assign_Name k
noncomputable def Aio (w : World) (A : Around) (env : Env) (E : Value → Shared → Prop) (es : List Expr) (us : List Value) (Q : Unit → Shared → Prop) (s : Shared) : Prop :=
  wpAny (model pg w) A (assignInOrder ((assignEach es env).map (·.2)) us) Q E s
theorem x_aio {x : Str} {px : Pos} {es : List Expr} {v : Value} {us : List Value} {Q : Unit → Shared → Prop} {s : Shared} (k : wpAny (model pg w) A (storeName env x v) (fun _ s' => Aio w A env E es us Q s') E s) : Aio w A env E (.Name x px :: es) (v :: us) Q s := by
  show wpAny _ _ (do holding us (assign (.Name x px) env v); assignInOrder ((assignEach es env).map (·.2)) us) _ _ _
  exact wpAny_bind (wpAny_holding (wpAny_assign_Name k))
theorem x_aio0 {Q : Unit → Shared → Prop} {s : Shared} (k : Q () s) : Aio w A env E [] [] Q s := wpAny_pure k
theorem x_unp {es : List Expr} {kk : Nat} {tp : Pos} {t : Addr} {us : List Value} {Q : Unit → Shared → Prop} (hh : A.handled = none) (S : Sx B L h ns vs news fs) (ht : IsTup h t us.toArray) (hl : es.length = us.length) (hst : (assignEach es env).findIdx? (·.1) = none)
    (k : ∀ h' tk', Sx B L h' ns vs news fs → Aio w A env E es us Q (St s h' tk')) :
    wpAny (model pg w) A (assign (.Tuple es kk tp) env (.ref t)) Q E (St s h tk) := by
  rw [PyProof.Rows.assign_Tuple]
  refine wpAny_bind (wpAny_standAt (PyProof.Rows.unpack_tuple (s := St s h tk) hh ht (by rw [assignEach_len, hl, List.size_toArray]) hst fun h' he => ?_))
  exact k h' tk (S.call fun b o e => he b o (Nat.ne_of_lt (Heap.lt_size e)) e)
theorem sw_none {ts us : List Expr} {k k2 : Nat} {p p2 : Pos} (V : Ev env ns L)
    (hn : ((ts.filterMap fun | .Name id pos => if ns.lookup id == some .local && pos.line == (ts.head?.map (·.pos.line)).getD 0 then some id else none | _ => none).length != ts.length) = true) : swappedStores [.Tuple ts k p] (.Tuple us k2 p2) env = pure none := by
  obtain ⟨rfl, _, _, _, _⟩ := V
  unfold swappedStores
  refine Eq.trans (b := ite _ _ _) rfl (ite_same rfl ?_)
  refine Eq.trans (b := ite _ _ _) rfl (ite_same rfl ?_)
  exact Eq.trans (b := ite _ _ _) rfl (if_pos (Bool.or_eq_true_iff.mpr (.inl hn)))
theorem x_asgtupC {ts us : List Expr} {kk k2 : Nat} {tp tp2 pos : Pos} {Q : Flow → Shared → Prop} {s : Shared} (V : Ev env ns L)
    (hn : ((ts.filterMap fun | .Name id pos => if ns.lookup id == some .local && pos.line == (ts.head?.map (·.pos.line)).getD 0 then some id else none | _ => none).length != ts.length) = true) (hs : swapsWithSole [.Tuple ts kk tp] (.Tuple us k2 tp2) pos.line env = pure false)
    (k : wpAny (model pg w) A (eval (.Tuple us k2 tp2) env) (fun v s₁ => wpAny (model pg w) A (assign (.Tuple ts kk tp) env v) (fun _ => Q .next) E s₁) E s) : wpAny (model pg w) A (exec (.Assign [.Tuple ts kk tp] (.Tuple us k2 tp2) pos) env) Q E s := PyProof.Rows.Assign_Tuple k hs (sw_none V hn)
end
section
variable {B : Heap} {L : Addr} {h h' : Heap} {ns : List (Str × NameKind)} {vs : List (Option Value)} {news : List (Addr × Obj)} {fs : List Fact}
theorem Sx.gotI (S : Sx B L h ns vs news fs) {x dx C : Addr} {o : Obj} (k : h.StaysIn h') (ne : x ≠ dx) (n1 : h.get? x = none) (n2 : h.get? dx = none) (P : Ins h' x C dx o) : Sx B L h' ns vs ((x, instObj C dx) :: (dx, o) :: news) fs := by
  have S1 := S.got k n2 P.dict
  have S2 := S.got k n1 P.inst
  refine ⟨S1.F, fun p hp => ?_, ?_, S1.ft⟩
  · rcases List.mem_cons.mp hp with rfl | hp
    · exact S2.N _ (.head _)
    · exact S1.N _ hp
  · refine List.nodup_cons.mpr ⟨fun m => ?_, S1.nd⟩
    rcases List.mem_cons.mp m with q | q
    · exact ne q
    · exact (List.nodup_cons.mp S2.nd).1 q
end
theorem base_in {B h B2 : Heap} {FX : List (Addr × Obj)} (hk : B.StaysIn h) (hFX : ∀ p ∈ FX, h.get? p.1 = some p.2 ∧ B.get? p.1 = none) (hB : Chg (FX.map (·.1)) h B2) : B.StaysIn B2 := fun a o e => hB a o (hk _ _ e) fun m => by
  refine x1_2 (List.mem_map.mp m) fun p hp q => ?_
  rw [← q, (hFX p hp).2] at e; cases e
theorem base_not {B : Heap} {FX : List (Addr × Obj)} {a : Addr} {o : Obj} (e : B.get? a = some o) (n : ∀ p ∈ FX, B.get? p.1 = none) : a ∉ FX.map (·.1) := fun m => by
  refine x1_2 (List.mem_map.mp m) fun p hp q => ?_
  rw [← q, n p hp] at e; cases e
theorem pat_stays {w : World} {h h' : Heap} {x dx : Addr} {t : Tok} {v : Value} (k : h.StaysIn h') (I : Ins h x 68 dx (dob w.params [Str.ofString "node"] [t] [v])) : Ins h' x 68 dx (dob w.params [Str.ofString "node"] [t] [v]) := ⟨k _ _ I.inst, k _ _ I.dict⟩
section
variable {B B2 : Heap} {L : Addr} {h h' : Heap} {ns : List (Str × NameKind)} {vs : List (Option Value)} {news own FX : List (Addr × Obj)} {fs : List Fact} {oL : Obj} {l : List Env}
theorem Sx.seen (S : Sx B L h ns vs (own ++ FX) fs) (hL : h.get? L = some oL) (Fs : Frs l FX) (hB2 : Chg (((L, oL) :: FX).map (·.1)) h B2) :
    (∀ p ∈ own, B2.get? p.1 = some p.2) ∧ B.StaysIn B2 ∧ Tk h B2 := by
  have hn := S.nd
  rw [List.map_append] at hn
  refine x0_3 (List.nodup_append.mp hn) fun n1 n2 n3 => ?_
  refine ⟨fun p hp => ?_, fun a o e => ?_, fun a o e t => ?_⟩
  · have P := S.N p (List.mem_append_left _ hp)
    refine hB2 _ _ P.1 fun m => ?_
    rcases List.mem_cons.mp m with q | q
    · exact P.2.1 q
    · exact n3 _ (List.mem_map_of_mem hp) _ q rfl
  · refine hB2 _ _ (S.F.keep _ _ e) fun m => ?_
    rcases List.mem_cons.mp m with q | q
    · rw [q] at e
      exact absurd (Heap.lt_size e) (Nat.not_lt.mpr S.F.above)
    · refine x1_2 (List.mem_map.mp q) fun p hp q => ?_
      have := (S.N p (List.mem_append_right _ hp)).2.2
      rw [q, e] at this; cases this
  · refine hB2 _ _ e fun m => ?_
    rcases List.mem_cons.mp m with q | q
    · exact S.frame_ne e t q
    · refine x1_2 (List.mem_map.mp q) fun p hp q => ?_
      have := (S.N p (List.mem_append_right _ hp)).1
      rw [q, e] at this; cases this
      exact Fs.nt p hp t
theorem Sx.off (S : Sx B L h ns vs (own ++ FX) fs) {p : Addr × Obj} (hp : p ∈ own) : p.1 ∉ ((L, oL) :: FX).map (·.1) := by
  have hn := S.nd
  rw [List.map_append] at hn
  refine x0_3 (List.nodup_append.mp hn) fun n1 n2 n3 => ?_
  intro m
  rcases List.mem_cons.mp m with q | q
  · exact (S.N p (List.mem_append_left _ hp)).2.1 q
  · exact n3 _ (List.mem_map_of_mem hp) _ q rfl
theorem Slf.fr {FX FX' : List (Addr × Obj)} (s : Slf FX FX') : (∀ p ∈ FX', h'.get? p.1 = some p.2) → ∀ p ∈ FX, ∃ sl, h'.get? p.1 = some { p.2 with slots := sl } := by
  induction s with
  | nil => intro _ p hp; cases hp
  | @cons a o sl FX FX' _ ih =>
    intro e p hp
    rcases List.mem_cons.mp hp with rfl | hp
    · exact ⟨sl, e _ (.head _)⟩
    · exact ih (fun p hp => e p (.tail _ hp)) p hp
theorem Sx.refused {FX2 : List (Addr × Obj)} (S : Sx B L h ns vs (own ++ FX) fs) (hL : h.get? L = some oL) (Fs : Frs l FX) (k : Chg (((L, oL) :: FX).map (·.1)) h h') (s : Slf ((L, oL) :: FX) FX2) (e : ∀ p ∈ FX2, h'.get? p.1 = some p.2) :
    ∃ FX', Slf FX FX' ∧ Sx B L h' ns vs (own ++ FX') fs := Sx.thrown S hL Fs k (s.fr e)
end
end
section
set_option maxRecDepth 100000
section
variable {w : World} {mg mb : Str → Option Value} {B : Heap} {A : Around} {E : Value → Shared → Prop} {s : Shared} {env : Env} {L C : Addr} {h h' : Heap} {tk : Nat} {ns : List (Str × NameKind)} {vs : List (Option Value)} {news news' : List (Addr × Obj)} {fs : List Fact}
theorem Sx.gotL (S : Sx B L h ns vs news fs) {x dx lo C : Addr} {o o2 : Obj} (k : h.StaysIn h') (ne : x ≠ dx) (n1 : h.get? x = none) (n2 : h.get? dx = none) (n3 : h.get? lo = none) (ne1 : x ≠ lo) (ne2 : dx ≠ lo) (P : Ins h' x C dx o) (hl : h'.get? lo = some o2) : Sx B L h' ns vs ((x, instObj C dx) :: (dx, o) :: (lo, o2) :: news) fs := by
  have S0 := S.got k n3 hl
  have S1 := S.got k n2 P.dict
  have S2 := S.got k n1 P.inst
  refine ⟨S1.F, fun p hp => ?_, ?_, S1.ft⟩
  · rcases List.mem_cons.mp hp with rfl | hp
    · exact S2.N _ (.head _)
    rcases List.mem_cons.mp hp with rfl | hp
    · exact S1.N _ (.head _)
    · exact S0.N _ hp
  · refine List.nodup_cons.mpr ⟨fun m => ?_, List.nodup_cons.mpr ⟨fun m => ?_, S0.nd⟩⟩
    · rcases List.mem_cons.mp m with q | q
      · exact ne q
      rcases List.mem_cons.mp q with q | q
      · exact ne1 q
      · exact (List.nodup_cons.mp S2.nd).1 q
    · rcases List.mem_cons.mp m with q | q
      · exact ne2 q
      · exact (List.nodup_cons.mp S1.nd).1 q
theorem i_hdT {value slice : Expr} {t : Addr} {l : List Value} {u : Tok} {x : Value} {Q : Value → Shared → Prop} (ht : IsTup h t (List.toArray (x :: l))) (k : Q x (St s h tk))
    (hs : subscripted slice false (.ref t) (.int 0 u) = operate [.ref t, .int 0 u] (getItem (.ref t) (.int 0 u))) :
    wpAny (model pg w) A (subscriptTail value slice (.ref t) (.int 0 u)) Q E (St s h tk) :=
  item_tupleT (s := St s h tk) (j := 0) ht (by decide) (by decide) (by simp [seqIndex?]) (by simp) k hs
theorem min_cast (n m : Nat) : min (n : Int) (m : Int) = ((min n m : Nat) : Int) := by
  rcases Nat.le_total n m with h | h
  · rw [Nat.min_eq_left h, Int.min_eq_left (Int.ofNat_le.mpr h)]
  · rw [Nat.min_eq_right h, Int.min_eq_right (Int.ofNat_le.mpr h)]
theorem pick_to {l : List Value} {y : Int} (h : 0 ≤ y) : slicePick l.toArray none (some y) none = (l.take y.toNat).toArray := by
  obtain ⟨n, rfl⟩ := Int.eq_ofNat_of_zero_le h
  have e : sliceBounds none (some (n : Int)) none l.toArray.size = (((0 : Nat) : Int), ((min n l.toArray.size : Nat) : Int), 1) := by
    unfold sliceBounds
    dsimp only
    rw [if_neg (Int.not_lt.mpr h), if_pos (by decide), if_pos (by decide), min_cast, Int.max_eq_right (Int.natCast_nonneg _)]; rfl
  rw [kmk_pick_nat _ e]
  show ((l.drop 0).take (min n l.toArray.size - 0)).toArray = _
  rw [List.drop_zero, Nat.sub_zero, List.size_toArray, kmk_take_min]; rfl
theorem o_slto {value slice : Expr} {D : Addr} {l : List Value} {y : Int} {uy : Tok} {Q : Value → Shared → Prop} (S : Sx B L h ns vs news fs) (hl : h.IsList D l.toArray) (h0 : 0 ≤ y) (hsz : l.length ≤ sizeLine)
    (hs : subscripted slice false (.ref D) (.ref h.objs.size) = operate [.ref h.objs.size, .ref D] (getItem (.ref D) (.ref h.objs.size)))
    (ht : ∀ r, letTemporaryGo value (.ref D) r = pure ())
    (k : ∀ a h' tk', Sx B L h' ns vs ((a, listOf (l.take y.toNat).toArray 0) :: news) fs → h.get? a = none → Q (.ref a) (St s h' tk')) :
    wpAny (model pg w) A (subscriptTail value slice (.ref D) (.ref h.objs.size)) Q E (St s (h.push { cls := .type "slice", data := .fields #[.none, .int y uy, .none] }) tk) := by
  refine slice_listK (s := St s h tk) hl .none (.int _ _) ?_ hs ht (by simpa using hsz)
  rw [pick_to h0]
  have hn : (h.push { cls := .type "slice", data := .fields #[.none, .int y uy, .none] }).objs.size = h.objs.size + 1 := Heap.size_push _ _
  have S1 := S.call (h' := h.push { cls := .type "slice", data := .fields #[.none, .int y uy, .none] }) (fun b o e => Heap.get?_push_of_some _ e)
  have S2 := S1.got (a := h.objs.size + 1) (o := listOf (l.take y.toNat).toArray 0) (fun b o e => Heap.get?_push_of_some _ e) (by rw [← hn]; exact new_none _) (by rw [← hn]; exact Heap.get?_push_size _ rfl)
  refine k (h.objs.size + 1) _ _ S2 ?_
  cases q : h.get? (h.objs.size + 1) with
  | none => rfl
  | some o => exact absurd (Heap.lt_size q) (Nat.not_lt.mpr (Nat.le_succ _))
end
end
section
section
variable (w : World) (A : Around) (env : Env) (E : Value → Shared → Prop)
@[reducible] noncomputable def kT (Q : Bool → Shared → Prop) (v : Value) (s : Shared) : Prop := wpAny (model pg w) A (truthy v) Q E s
@[reducible] noncomputable def kC2 (op : CmpOp) (Q : Value → Shared → Prop) (a b : Value) (s : Shared) : Prop := wpAny (model pg w) A (compareOp op a b) Q E s
@[reducible] noncomputable def kC1 (op : CmpOp) (r : Expr) (Q : Value → Shared → Prop) (a : Value) (s : Shared) : Prop := wpAny (model pg w) A (eval r env) (kC2 w A E op Q a) E s
@[reducible] noncomputable def kCal (pos : Pos) (args : List Expr) (Q : Value → Shared → Prop) (f : Value) (s : Shared) : Prop := wpAny (model pg w) A (callWith pos f [] (backTo pos (starEach args env)) []) Q E s
@[reducible] noncomputable def kS2 (value slice : Expr) (Q : Value → Shared → Prop) (o i : Value) (s : Shared) : Prop := wpAny (model pg w) A (subscriptTail value slice o i) Q E s
@[reducible] noncomputable def kS1 (value slice : Expr) (Q : Value → Shared → Prop) (o : Value) (s : Shared) : Prop := wpAny (model pg w) A (eval slice env) (kS2 w A E value slice Q o) E s
@[reducible] noncomputable def kM2 (pos : Pos) (args : List Expr) (Q : Value → Shared → Prop) (fx : Value × List Value) (s : Shared) : Prop := wpAny (model pg w) A (callWith pos fx.1 fx.2 (backTo pos (starEach args env)) []) Q E s
@[reducible] noncomputable def kM1 (name : Str) (pl : Sem Bool) (pos : Pos) (args : List Expr) (Q : Value → Shared → Prop) (o : Value) (s : Shared) : Prop := wpAny (model pg w) A (getMethod o name pl) (kM2 w A env E pos args Q) E s
@[reducible] noncomputable def kA (attr : Str) (Q : Value → Shared → Prop) (o : Value) (s : Shared) : Prop := wpAny (model pg w) A (getAttr o attr true) Q E s
@[reducible] noncomputable def kB2 (op : Operator) (Q : Value → Shared → Prop) (a b : Value) (s : Shared) : Prop := wpAny (model pg w) A (binaryOp op a b) Q E s
@[reducible] noncomputable def kB1 (op : Operator) (r : Expr) (Q : Value → Shared → Prop) (a : Value) (s : Shared) : Prop := wpAny (model pg w) A (eval r env) (kB2 w A E op Q a) E s
@[reducible] noncomputable def kIE (body orelse : Expr) (Q : Value → Shared → Prop) (c : Bool) (s : Shared) : Prop := if c = true then wpAny (model pg w) A (eval body env) Q E s else wpAny (model pg w) A (eval orelse env) Q E s
@[reducible] noncomputable def kAn2 (rest : Expr) (Q : Value → Shared → Prop) (v : Value) (c : Bool) (s : Shared) : Prop := if c = true then wpAny (model pg w) A (eval rest env) Q E s else Q v s
@[reducible] noncomputable def kAn1 (rest : Expr) (Q : Value → Shared → Prop) (v : Value) (s : Shared) : Prop := wpAny (model pg w) A (truthy v) (kAn2 w A env E rest Q v) E s
@[reducible] noncomputable def kOr2 (rest : Expr) (Q : Value → Shared → Prop) (v : Value) (c : Bool) (s : Shared) : Prop := if c = true then Q v s else wpAny (model pg w) A (eval rest env) Q E s
@[reducible] noncomputable def kOr1 (rest : Expr) (Q : Value → Shared → Prop) (v : Value) (s : Shared) : Prop := wpAny (model pg w) A (truthy v) (kOr2 w A env E rest Q v) E s
@[reducible] noncomputable def kIf (body orelse : List Stmt) (Q : Flow → Shared → Prop) (c : Bool) (s : Shared) : Prop := if c = true then wpAny (model pg w) A (execs body env) Q E s else wpAny (model pg w) A (execs orelse env) Q E s
@[reducible] noncomputable def kR (Q : Flow → Shared → Prop) (v : Value) (s : Shared) : Prop := Q (.ret v) s
@[reducible] noncomputable def kU (Q : Flow → Shared → Prop) (_ : Unit) (s : Shared) : Prop := Q .next s
@[reducible] noncomputable def kSto (x : Str) (Q : Flow → Shared → Prop) (v : Value) (s : Shared) : Prop := wpAny (model pg w) A (storeName env x v) (kU Q) E s
@[reducible] noncomputable def kAug2 (x : Str) (op : Operator) (Q : Flow → Shared → Prop) (old v : Value) (s : Shared) : Prop := wpAny (model pg w) A (inplaceOp op old v) (kSto w A env E x Q) E s
@[reducible] noncomputable def kAug1 (x : Str) (op : Operator) (value : Expr) (Q : Flow → Shared → Prop) (old : Value) (s : Shared) : Prop := wpAny (model pg w) A (eval value env) (kAug2 w A env E x op Q old) E s
@[reducible] noncomputable def kSA3 (attr : Str) (Q : Flow → Shared → Prop) (o v : Value) (s : Shared) : Prop := wpAny (model pg w) A (setAttr o attr v) (kU Q) E s
@[reducible] noncomputable def kSA2 (attr : Str) (Q : Flow → Shared → Prop) (v o : Value) (s : Shared) : Prop := wpAny (model pg w) A (setAttr o attr v) (kU Q) E s
@[reducible] noncomputable def kSA1 (o : Expr) (attr : Str) (Q : Flow → Shared → Prop) (v : Value) (s : Shared) : Prop := wpAny (model pg w) A (eval o env) (kSA2 w A E attr Q v) E s
@[reducible] noncomputable def kAA3 (attr : Str) (op : Operator) (Q : Flow → Shared → Prop) (o old v : Value) (s : Shared) : Prop := wpAny (model pg w) A (inplaceOp op old v) (kSA3 w A E attr Q o) E s
@[reducible] noncomputable def kAA2 (attr : Str) (op : Operator) (value : Expr) (Q : Flow → Shared → Prop) (o old : Value) (s : Shared) : Prop := wpAny (model pg w) A (eval value env) (kAA3 w A E attr op Q o old) E s
@[reducible] noncomputable def kAA1 (attr : Str) (op : Operator) (value : Expr) (Q : Flow → Shared → Prop) (o : Value) (s : Shared) : Prop := wpAny (model pg w) A (getAttr o attr true) (kAA2 w A env E attr op value Q o) E s
@[reducible] noncomputable def kN (Q : Bool → Shared → Prop) (c : Bool) (s : Shared) : Prop := Q (!c) s
@[reducible] noncomputable def kTA (rest : List Expr) (pos : Pos) (whole : Sem Value) (Q : Bool → Shared → Prop) (c : Bool) (s : Shared) : Prop := if c = true then wpAny (model pg w) A (isTrue (.BoolOp .And rest pos) env whole) Q E s else Q false s
@[reducible] noncomputable def kTO (rest : List Expr) (pos : Pos) (whole : Sem Value) (Q : Bool → Shared → Prop) (c : Bool) (s : Shared) : Prop := if c = true then Q true s else wpAny (model pg w) A (isTrue (.BoolOp .Or rest pos) env whole) Q E s
@[reducible] noncomputable def kNT (Q : Value → Shared → Prop) (vs : List Value) (s : Shared) : Prop := wpAny (model pg w) A (newTuple vs) Q E s
@[reducible] noncomputable def kNL (Q : Value → Shared → Prop) (vs : List Value) (s : Shared) : Prop := wpAny (model pg w) A (newList vs) Q E s
@[reducible] noncomputable def kCB (id : String) (first : List Value) (Q : Value → Shared → Prop) (vs : List Value) (s : Shared) : Prop := wpAny (model pg w) A (call (.builtin id) (first ++ vs)) Q E s
@[reducible] noncomputable def kCT (T : String) (Q : Value → Shared → Prop) (vs : List Value) (s : Shared) : Prop := wpAny (model pg w) A (call (.type T) vs) Q E s
@[reducible] noncomputable def kCR (B : Heap) (a : Addr) (first : List Value) (Q : Value → Shared → Prop) (vs : List Value) (s : Shared) : Prop := B.StaysIn s.heap ∧ wpAny (model pg w) A (call (.ref a) (first ++ vs)) Q E s
@[reducible] noncomputable def kV (Q : List Value → Shared → Prop) (v : Value) (vs : List Value) (s : Shared) : Prop := Q (v :: vs) s
@[reducible] noncomputable def kE (es : List Expr) (Q : List Value → Shared → Prop) (v : Value) (s : Shared) : Prop := Evs (model pg w) A env E es (kV Q v) s
@[reducible] noncomputable def kAs (t : Expr) (Q : Flow → Shared → Prop) (v : Value) (s : Shared) : Prop := wpAny (model pg w) A (assign t env v) (kU Q) E s
@[reducible] noncomputable def kAi (es : List Expr) (us : List Value) (Q : Unit → Shared → Prop) (_ : Unit) (s : Shared) : Prop := Aio w A env E es us Q s
@[reducible] noncomputable def kSS3 (Q : Flow → Shared → Prop) (v o i : Value) (s : Shared) : Prop := wpAny (model pg w) A (setItem o i v) (kU Q) E s
@[reducible] noncomputable def kSS2 (i : Expr) (Q : Flow → Shared → Prop) (v o : Value) (s : Shared) : Prop := wpAny (model pg w) A (eval i env) (kSS3 w A E Q v o) E s
@[reducible] noncomputable def kSS1 (o i : Expr) (Q : Flow → Shared → Prop) (v : Value) (s : Shared) : Prop := wpAny (model pg w) A (eval o env) (kSS2 w A env E i Q v) E s
@[reducible] noncomputable def kX (Q : Flow → Shared → Prop) (v : Value) (s : Shared) : Prop := match v with | .ref _ => False | _ => Q .next s
end
section
variable {w : World} {A : Around} {env : Env} {E : Value → Shared → Prop} {s : Shared}
theorem r_call {func : Expr} {args : List Expr} {pos : Pos} {Q : Value → Shared → Prop} (h : wpAny (model pg w) A (eval func env) (kCal w A env E pos args Q) E s)
    (hs : eval (func.Call args [] pos) env = (do callWith pos (← eval func env) [] (backTo pos (starEach args env)) (backToKw pos (keywordEach [] env)))) : wpAny (model pg w) A (eval (func.Call args [] pos) env) Q E s := Call_ h hs
theorem r_sub {value slice : Expr} {pos : Pos} {Q : Value → Shared → Prop} (h : wpAny (model pg w) A (eval value env) (kS1 w A env E value slice Q) E s) : wpAny (model pg w) A (eval (value.Subscript slice pos) env) Q E s := Subscript_ h
theorem r_meth {o : Expr} {name : Str} {apos pos : Pos} {args : List Expr} {pl : Sem Bool} {Q : Value → Shared → Prop} (h : wpAny (model pg w) A (eval o env) (kM1 w A env E name pl pos args Q) E s)
    (hs : eval ((o.Attribute name apos).Call args [] pos) env = (do let ov ← eval o env; standAt apos.atName; let (f, first) ← holding [ov] (getMethod ov name pl); callWith pos f first (backTo pos (starEach args env)) [])) : wpAny (model pg w) A (eval ((o.Attribute name apos).Call args [] pos) env) Q E s := MethodCall_ h hs
theorem r_attr {n attr : Str} {np pos : Pos} {Q : Value → Shared → Prop} (h : wpAny (model pg w) A (eval (.Name n np) env) (kA w A E attr Q) E s) : wpAny (model pg w) A (eval ((Expr.Name n np).Attribute attr pos) env) Q E s := Attribute_name h
theorem r_bin {l r : Expr} {op : Operator} {pos : Pos} {Q : Value → Shared → Prop} (h : wpAny (model pg w) A (eval l env) (kB1 w A env E op r Q) E s) : wpAny (model pg w) A (eval (l.BinOp op r pos) env) Q E s := wpAny_BinOp h
theorem r_ifexp {test body orelse : Expr} {pos : Pos} {Q : Value → Shared → Prop} (h : wpAny (model pg w) A (isTrue test env (eval test env)) (kIE w A env E body orelse Q) E s) : wpAny (model pg w) A (eval (test.IfExp body orelse pos) env) Q E s := IfExp_ h
theorem r_and {e₁ e₂ : Expr} {rest : List Expr} {pos : Pos} {Q : Value → Shared → Prop} (h : wpAny (model pg w) A (eval e₁ env) (kAn1 w A env E (.BoolOp .And (e₂ :: rest) pos) Q) E s) : wpAny (model pg w) A (eval (.BoolOp .And (e₁ :: e₂ :: rest) pos) env) Q E s := BoolOp_and h
theorem r_or {e₁ e₂ : Expr} {rest : List Expr} {pos : Pos} {Q : Value → Shared → Prop} (h : wpAny (model pg w) A (eval e₁ env) (kOr1 w A env E (.BoolOp .Or (e₂ :: rest) pos) Q) E s) : wpAny (model pg w) A (eval (.BoolOp .Or (e₁ :: e₂ :: rest) pos) env) Q E s := BoolOp_or h
theorem r_if {test : Expr} {body orelse : List Stmt} {pos : Pos} {Q : Flow → Shared → Prop} (h : wpAny (model pg w) A (isTrue test env (eval test env)) (kIf w A env E body orelse Q) E s) : wpAny (model pg w) A (exec (.If test body orelse pos) env) Q E s := wpAny_If h
theorem r_ret {e : Expr} {pos : Pos} {Q : Flow → Shared → Prop} (h : wpAny (model pg w) A (eval e env) (kR Q) E s) : wpAny (model pg w) A (exec (.Return (some e) pos) env) Q E s := wpAny_Return_some h
theorem r_aug {x : Str} {pos' : Pos} {op : Operator} {value : Expr} {pos : Pos} {Q : Flow → Shared → Prop} (h : wpAny (model pg w) A (loadName env x) (kAug1 w A env E x op value Q) E s) : wpAny (model pg w) A (exec (.AugAssign (.Name x pos') op value pos) env) Q E s := wpAny_AugAssign_Name h
theorem r_augat {o value : Expr} {attr : Str} {tpos pos : Pos} {op : Operator} {Q : Flow → Shared → Prop} (h : wpAny (model pg w) A (eval o env) (kAA1 w A env E attr op value Q) E s) : wpAny (model pg w) A (exec (.AugAssign (o.Attribute attr tpos) op value pos) env) Q E s := wpAny_AugAssign_AttributeAny h
theorem r_not {x : Expr} {pos : Pos} {whole : Sem Value} {Q : Bool → Shared → Prop} (h : wpAny (model pg w) A (isTrue x env (eval x env)) (kN Q) E s) : wpAny (model pg w) A (isTrue (.UnaryOp .Not x pos) env whole) Q E s := isTrue_not h
theorem r_tand {x : Expr} {rest : List Expr} {pos : Pos} {whole : Sem Value} {Q : Bool → Shared → Prop} (h : wpAny (model pg w) A (isTrue x env (eval x env)) (kTA w A env E rest pos whole Q) E s) : wpAny (model pg w) A (isTrue (.BoolOp .And (x :: rest) pos) env whole) Q E s := isTrue_and h
theorem r_tor {x : Expr} {rest : List Expr} {pos : Pos} {whole : Sem Value} {Q : Bool → Shared → Prop} (h : wpAny (model pg w) A (isTrue x env (eval x env)) (kTO w A env E rest pos whole Q) E s) : wpAny (model pg w) A (isTrue (.BoolOp .Or (x :: rest) pos) env whole) Q E s := isTrue_or h
theorem r_plain {e : Expr} {whole : Sem Value} {Q : Bool → Shared → Prop} (h : wpAny (model pg w) A whole (kT w A E Q) E s) (hs : isTrue e env whole = (do let v ← whole; standAt e.pos; holding [v] (truthy v))) : wpAny (model pg w) A (isTrue e env whole) Q E s := isTrue_plain h hs
theorem r_tuple {elts : List Expr} {k : Nat} {pos : Pos} {Q : Value → Shared → Prop} (hn : noStar elts = true) (h : Evs (model pg w) A env E elts (kNT w A E Q) s) : wpAny (model pg w) A (eval (.Tuple elts k pos) env) Q E s := e_tuple hn h
theorem r_list {elts : List Expr} {pos : Pos} {Q : Value → Shared → Prop} (hn : noStar elts = true) (h : Evs (model pg w) A env E elts (kNL w A E Q) s) : wpAny (model pg w) A (eval (.List elts pos) env) Q E s := e_list hn h
theorem r_cmp {l r : Expr} {op : CmpOp} {pos : Pos} {Q : Value → Shared → Prop} (hm : behindInMarks op r = false) (h : wpAny (model pg w) A (eval l env) (kC1 w A env E op r Q) E s) : wpAny (model pg w) A (eval (.Compare l [op] [r] pos) env) Q E s := e_cmp hm h
theorem r_tcmp {l r : Expr} {op : CmpOp} {pos : Pos} {whole : Sem Value} {Q : Bool → Shared → Prop} (hm : behindInMarks op r = false) (h : wpAny (model pg w) A (eval l env) (kC1 w A env E op r (kT w A E Q)) E s) : wpAny (model pg w) A (isTrue (.Compare l [op] [r] pos) env whole) Q E s := t_cmp hm h
theorem r_asg {x : Str} {pos' pos : Pos} {value : Expr} {Q : Flow → Shared → Prop} (hs : swapsWith value (some (.Name x pos')) pos.line env = pure false) (h : wpAny (model pg w) A (eval value env) (kSto w A env E x Q) E s) : wpAny (model pg w) A (exec (.Assign [.Name x pos'] value pos) env) Q E s := x_assign hs h
theorem r_asgattr {o value : Expr} {attr : Str} {pos' pos : Pos} {Q : Flow → Shared → Prop} (hs : swapsWith value (some (.Attribute o attr pos')) pos.line env = pure false) (h : wpAny (model pg w) A (eval value env) (kSA1 w A env E o attr Q) E s) : wpAny (model pg w) A (exec (.Assign [.Attribute o attr pos'] value pos) env) Q E s := x_asgattr hs h
theorem r_asgtup {es : List Expr} {kk : Nat} {tp pos : Pos} {value : Expr} {Q : Flow → Shared → Prop} (hs : swapsWithSole [.Tuple es kk tp] value pos.line env = pure false) (hw : swappedStores [.Tuple es kk tp] value env = pure none) (h : wpAny (model pg w) A (eval value env) (kAs w A env E (.Tuple es kk tp) Q) E s) : wpAny (model pg w) A (exec (.Assign [.Tuple es kk tp] value pos) env) Q E s := x_asgtup hs hw h
theorem r_asgsub {o i value : Expr} {pos' pos : Pos} {Q : Flow → Shared → Prop} (hs : swapsWith value (some (.Subscript o i pos')) pos.line env = pure false) (h : wpAny (model pg w) A (eval value env) (kSS1 w A env E o i Q) E s) : wpAny (model pg w) A (exec (.Assign [.Subscript o i pos'] value pos) env) Q E s := x_asgsub hs h
theorem r_expr {L : Addr} {ns : List (Str × NameKind)} {e : Expr} {pos : Pos} {Q : Flow → Shared → Prop} (V : Ev env ns L) (h : wpAny (model pg w) A (eval e env) (kX Q) E s) (hs : swapsWith e none pos.line env = pure false) : wpAny (model pg w) A (exec (.Expr e pos) env) Q E s := x_expr V h hs
theorem r_bui {pos : Pos} {id : String} {first : List Value} {args : List Expr} {Q : Value → Shared → Prop} (hn : noStar args = true) (k : Evs (model pg w) A env E args (kCB w A E id first Q) s) : wpAny (model pg w) A (callWith pos (.builtin id) first (backTo pos (starEach args env)) []) Q E s := cw_bui hn k
theorem r_typ {pos : Pos} {T : String} {args : List Expr} {Q : Value → Shared → Prop} (hn : noStar args = true) (k : Evs (model pg w) A env E args (kCT w A E T Q) s) : wpAny (model pg w) A (callWith pos (.type T) [] (backTo pos (starEach args env)) []) Q E s := cw_typ hn k
theorem r_ref {mg mb : Str → Option Value} {B : Heap} {pos : Pos} {a : Addr} {first : List Value} {args : List Expr} {Q : Value → Shared → Prop} (G : Gl w mg mb B) (K : Fn w a) (hn : noStar args = true) (k : Evs (model pg w) A env E args (kCR w A E B a first Q) s) : wpAny (model pg w) A (callWith pos (.ref a) first (backTo pos (starEach args env)) []) Q E s := cw_ref G K hn k
theorem r_evs {e : Expr} {es : List Expr} {Q : List Value → Shared → Prop} (h : wpAny (model pg w) A (eval e env) (kE w A env E es Q) E s) : Evs (model pg w) A env E (e :: es) Q s := h
theorem r_aio {x : Str} {px : Pos} {es : List Expr} {v : Value} {us : List Value} {Q : Unit → Shared → Prop} (k : wpAny (model pg w) A (storeName env x v) (kAi w A env E es us Q) E s) : Aio w A env E (.Name x px :: es) (v :: us) Q s := x_aio k
end
section
variable {w : World} {mg mb : Str → Option Value} {B : Heap} {A : Around} {E : Value → Shared → Prop} {s : Shared} {env : Env} {L : Addr} {h : Heap} {tk : Nat} {ns : List (Str × NameKind)} {vs vs' : List (Option Value)} {news news' : List (Addr × Obj)} {fs : List Fact} {Q : Value → Shared → Prop}
theorem r_int {i : Int} {n : Nat} {pos : Pos} (k : Q (.int i tk) (St s h tk.succ)) : wpAny (model pg w) A (eval (.Constant (.int i) n pos) env) Q E (St s h tk) := wpAny_Constant_int (s := St s h tk) k
theorem r_str {i : Str} {n : Nat} {pos : Pos} (k : Q (.str i tk) (St s h tk.succ)) : wpAny (model pg w) A (eval (.Constant (.str i) n pos) env) Q E (St s h tk) := Constant_str (s := St s h tk) k
theorem r_add {a b : Int} {t u : Tok} (k : Q (.int (a + b) tk) (St s h tk.succ)) : wpAny (model pg w) A (binaryOp .Add (.int a t) (.int b u)) Q E (St s h tk) := add_int (s := St s h tk) k
theorem r_sub' {a b : Int} {t u : Tok} (k : Q (.int (a - b) tk) (St s h tk.succ)) : wpAny (model pg w) A (binaryOp .Sub (.int a t) (.int b u)) Q E (St s h tk) := sub_int (s := St s h tk) k
theorem r_iadd {a b : Int} {t u : Tok} (k : Q (.int (a + b) tk) (St s h tk.succ)) : wpAny (model pg w) A (inplaceOp .Add (.int a t) (.int b u)) Q E (St s h tk) := iadd_int (s := St s h tk) k
theorem r_mod {a b : Int} {t u : Tok} (hb : b ≠ 0) (k : Q (.int (a.fmod b) tk) (St s h tk.succ)) : wpAny (model pg w) A (binaryOp .Mod (.int a t) (.int b u)) Q E (St s h tk) := mod_int' (s := St s h tk) hb k
theorem r_mul {a b : Int} {t u : Tok} (hm : IntMulOk a b) (k : Q (.int (a * b) tk) (St s h tk.succ)) : wpAny (model pg w) A (binaryOp .Mult (.int a t) (.int b u)) Q E (St s h tk) := PyProof.Rows.mul_int (s := St s h tk) k hm
theorem r_fdiv {a b : Int} {t u : Tok} (hb : b ≠ 0) (hp : Builtin.divisionGoesByPylong a b = false) (k : Q (.int (a.fdiv b) tk) (St s h tk.succ)) : wpAny (model pg w) A (binaryOp .FloorDiv (.int a t) (.int b u)) Q E (St s h tk) := PyProof.Rows.floordiv_int (s := St s h tk) hb k (.inl hp)
theorem r_len {D : Addr} {l : List Value} {n : Nat} (S : Sx B L h ns vs news fs) (m : Inn (D, listOf l.toArray n) news) (hz : (l.length : Int) < 2 ^ 63) (k : Q (.int l.length tk.succ) (St s h tk.succ.succ)) : wpAny (model pg w) A (call (.builtin "len") [.ref D]) Q E (St s h tk) :=
  len_list (prog := pg) (s := St s h tk) ⟨_, (S.N _ m.mem).1, rfl, n, rfl⟩ (by simpa using hz) (by simpa using k)
theorem r_lens {x : Str} {t : Tok} (hfit : (x.length : Int) < 2 ^ 63) (k : Q (.int x.length tk.succ) (St s h tk.succ.succ)) : wpAny (model pg w) A (call (.builtin "len") [.str x t]) Q E (St s h tk) := PyProof.Rows.len_str (s := St s h tk) (by exact lin1 [_] [] (.ilt (.C (.V 0)) (.W 2 63)) (.no (.ile (.W 2 63) (.C (.V 0)))) [[1, 1]] hfit okT) k
theorem r_lent {t : Addr} {l : List Value} (ht : IsTup h t l.toArray) (hz : Nat.ble l.length 1000 = true) (k : Q (.int (l.length : Int) tk.succ) (St s h tk.succ.succ)) : wpAny (model pg w) A (call (.builtin "len") [.ref t]) Q E (St s h tk) := by
  have := Nat.le_of_ble_eq_true hz
  exact PyProof.Rows.len_tuple (s := St s h tk) ht (by simp; exact lin1 [_] [] (.nle (.V 0) (.K 1000)) (.ilt (.C (.V 0)) (.K 9223372036854775808)) [[1, 1]] this okT) (by simpa using k)
theorem r_item {value slice : Expr} {x : Str} {t u : Tok} {i : Int} (h0 : 0 ≤ i) (h1 : i < x.length) (hz : x.length < 2 ^ 62)
    (hs : subscripted slice false (.str x t) (.int i u) = operate [.str x t, .int i u] (getItem (.str x t) (.int i u))) (ht : ∀ r, letTemporaryGo value (.str x t) r = pure ())
    (k : Q (.str (Txt.item x i) tk) (St s h tk.succ)) : wpAny (model pg w) A (subscriptTail value slice (.str x t) (.int i u)) Q E (St s h tk) :=
  PyProof.Rows.item_str (s := St s h tk) (by unfold fitsSsize; simp; omega) (by omega) h1 (fun _ => k) hs ht
theorem r_fld {C x dx : Addr} {as : List Str} {ts : List Tok} {us : List Value} {name : Str} {v : Value} {expr : Bool} (G : Gl w mg mb B) (K : Cl w C as) (S : Sx B L h ns vs news fs) (I : Ins h x C dx (dob w.params as ts us)) (l : Fld as ts us name v) (hv : handedIn v = true) (k : Q v (St s h tk.succ)) :
    wpAny (model pg w) A (getAttr (.ref x) name expr) Q E (St s h tk) :=
  get_own (s := St s h tk) S.F G.X I.at' K.get K.dict (K.no _ l.mem) rfl (l.get K.nd) hv k
theorem r_sto {x : Str} {v : Value} {Q : Unit → Shared → Prop} (V : Ev env ns L) (S : Sx B L h ns vs news fs) (l : Sto ns vs x v vs')
    (k : ∀ h', Sx B L h' ns vs' news fs → Q () (St s h' tk.succ)) : wpAny (model pg w) A (storeName env x v) Q E (St s h tk) := by
  obtain ⟨rfl, W, rfl, hg, hb⟩ := V
  obtain ⟨e1, e2⟩ := l.get W.nd
  refine wpAny_storeName_local e2 S.F.ns (fun h' hn hs => k h' (S.names (fr_congr (S.F.set hn hs) e1) hs)) ?_
  rw [W.kd]; rfl
theorem r_evl {x : Str} {pos : Pos} {es : List Expr} {v : Value} {Q : List Value → Shared → Prop} (V : Ev env ns L) (S : Sx B L h ns vs news fs) (l : Loc ns vs x v) (k : Evs (model pg w) A env E es (kV Q v) (St s h tk)) : Evs (model pg w) A env E (.Name x pos :: es) Q (St s h tk) := r_evs (e_loc V S l k)
theorem r_evl1 {x : Str} {pos : Pos} {v : Value} {Q : List Value → Shared → Prop} (V : Ev env ns L) (S : Sx B L h ns vs news fs) (l : Loc ns vs x v) (k : Q [v] (St s h tk)) : Evs (model pg w) A env E [.Name x pos] Q (St s h tk) := r_evs (e_loc V S l (evs_nil k))
theorem r_evi {i : Int} {n : Nat} {pos : Pos} {es : List Expr} {Q : List Value → Shared → Prop} (k : Evs (model pg w) A env E es (kV Q (.int i tk)) (St s h tk.succ)) : Evs (model pg w) A env E (.Constant (.int i) n pos :: es) Q (St s h tk) := r_evs (r_int k)
theorem r_evst {x : Str} {n : Nat} {pos : Pos} {es : List Expr} {Q : List Value → Shared → Prop} (k : Evs (model pg w) A env E es (kV Q (.str x tk)) (St s h tk.succ)) : Evs (model pg w) A env E (.Constant (.str x) n pos :: es) Q (St s h tk) := r_evs (r_str k)
theorem r_stoS {x : Str} {v : Value} {rest : List Stmt} {Q : Flow → Shared → Prop} (V : Ev env ns L) (S : Sx B L h ns vs news fs) (l : Sto ns vs x v vs')
    (k : ∀ h', Sx B L h' ns vs' news fs → wpAny (model pg w) A (execs rest env) Q E (St s h' tk.succ)) : wpAny (model pg w) A (storeName env x v) (kU (Sq (model pg w) A rest env Q E)) E (St s h tk) := r_sto V S l fun h' S => k h' S
theorem r_callg {f : Str} {fp pos : Pos} {args : List Expr} {a : Addr} (V : Ev env ns L) (G : Gl w mg mb B) (S : Sx B L h ns vs news fs) (l : Glo ns f) (hv : nsIn (Mine.hd.heap_1 w.params) mainGlobals f = some (some (.ref a))) (K : Fn w a) (hn : noStar args = true)
    (hs : eval ((Expr.Name f fp).Call args [] pos) env = (do callWith pos (← eval (.Name f fp) env) [] (backTo pos (starEach args env)) (backToKw pos (keywordEach [] env)))) (k : Evs (model pg w) A env E args (kCR w A E B a [] Q) (St s h tk)) : wpAny (model pg w) A (eval ((Expr.Name f fp).Call args [] pos) env) Q E (St s h tk) :=
  r_call (e_gl V G S l hv (r_ref G K hn k)) hs
end
section
variable {w : World} {A : Around} {env : Env} {E : Value → Shared → Prop} {s : Shared} {Q : Flow → Shared → Prop}
theorem m_asg {x : Str} {pos' pos : Pos} {value : Expr} {rest : List Stmt} (hs : swapsWith value (some (.Name x pos')) pos.line env = pure false) (h : wpAny (model pg w) A (eval value env) (kSto w A env E x (Sq (model pg w) A rest env Q E)) E s) : wpAny (model pg w) A (execs (.Assign [.Name x pos'] value pos :: rest) env) Q E s := m_cons (r_asg hs h)
theorem m_ifc {test : Expr} {body orelse : List Stmt} {pos : Pos} {rest : List Stmt} (h : wpAny (model pg w) A (isTrue test env (eval test env)) (kIf w A env E body orelse (Sq (model pg w) A rest env Q E)) E s) : wpAny (model pg w) A (execs (.If test body orelse pos :: rest) env) Q E s := m_cons (r_if h)
theorem m_ifl {test : Expr} {body orelse : List Stmt} {pos : Pos} (h : wpAny (model pg w) A (isTrue test env (eval test env)) (kIf w A env E body orelse Q) E s) : wpAny (model pg w) A (execs [.If test body orelse pos] env) Q E s := m_last (r_if h)
theorem m_retl {e : Expr} {pos : Pos} (h : wpAny (model pg w) A (eval e env) (kR Q) E s) : wpAny (model pg w) A (execs [.Return (some e) pos] env) Q E s := m_last (r_ret h)
end
end
theorem fill_K : PySem.Challenge.rw_pb0535_01 = PySem.Challenge.rw_pb0535_01 ∧ Mine.hd.heap_1 = Mine.hd.heap_1 := by k_fill; exact ⟨rfl, rfl⟩

set_option maxRecDepth 100000

open Lean in
def nmI (s : String) : Name := (s.splitOn ".").foldl (fun n x => Name.mkStr n x) Name.anonymous
open Lean in
def kdI (s : String) : Name := if s.startsWith "T." then Name.mkStr `Lean.Parser.Tactic (s.drop 2).toString else if s.startsWith "M." then Name.mkStr `Lean.Parser.Term (s.drop 2).toString else nmI s
open Lean in
def synPut (x : Syntax) : List (String × Array Syntax) → List (String × Array Syntax)
  | [] => []
  | p :: r => (p.1, p.2.push x) :: r
open Lean in
def synStep (st : List (String × Array Syntax)) (t : String) : List (String × Array Syntax) :=
  if t == ")" then (match st with | p :: r => synPut (Syntax.node .none (kdI p.1) p.2) r | [] => [])
  else if t.startsWith "(" then ((t.drop 1).toString, #[]) :: st
  else if t.startsWith "'" then synPut (mkIdent (if t == "'" then Name.anonymous else nmI (t.drop 1).toString)) st
  else synPut (Syntax.atom .none (t.drop 1).toString) st
open Lean in
def synOf (s : String) : Syntax := match (s.splitOn " ").foldl synStep [("", #[])] with
  | p :: _ => p.2[0]!
  | [] => Syntax.missing
open Lean in
def nd (k : Name) (as : Array Syntax) : Syntax := Syntax.node .none k as
open Lean in
def at' (s : String) : Syntax := Syntax.atom .none s
open Lean in
def tk (k : String) (as : Array Syntax) : Syntax := nd (Name.mkStr `Lean.Parser.Tactic k) as
open Lean in
def idI (s : String) : Syntax := mkIdent (nmI s)
open Lean in
def hoI (s : String) : Syntax := nd `Lean.Parser.Term.syntheticHole #[at' "?", if s == "_" then at' "_" else mkIdent (Name.mkSimple ("zz" ++ s))]
open Lean in
def seqI (ts : Array Syntax) : Syntax := tk "tacticSeq" #[tk "tacticSeq1Indented" #[mkNullNode (ts.foldl (fun a t => if a.isEmpty then a.push t else (a.push (mkNullNode #[])).push t) #[])]]
open Lean in
def parI (t : Syntax) : Syntax := tk "paren" #[at' "(", seqI #[t], at' ")"]
open Lean in
def redI (t : Syntax) : Syntax := tk "withReducible" #[at' "with_reducible", seqI #[t]]
open Lean in
def appI (f : Syntax) (as : Array Syntax) : Syntax := if as.isEmpty then f else nd `Lean.Parser.Term.app #[f, mkNullNode as]
open Lean in
def holeI : Syntax := nd `Lean.Parser.Term.hole #[at' "_"]
open Lean in
def parT (t : Syntax) : Syntax := nd `Lean.Parser.Term.paren #[nd `Lean.Parser.Term.hygienicLParen #[at' "(", nd `hygieneInfo #[mkIdent Name.anonymous]], t, at' ")"]
open Lean in
def argI (a : String) : Syntax :=
  if a == "_" then holeI else if a.startsWith "?" then hoI (a.drop 1).toString
  else match a.splitOn "(" with
    | [f, r] => parT (appI (idI f) (((r.dropEnd 1).toString.splitOn ",").toArray.map fun x => if x == "_" then holeI else if x.startsWith "?" then hoI (x.drop 1).toString else idI x))
    | _ => idI a
open Lean in
def walkI (k : String) : Syntax := nd `PyProof.Rows.tacticWalk_at_ #[at' "walk_at ", Syntax.mkStrLit k]
open Lean in
def firstI (ts : Array Syntax) : Syntax := tk "first" #[at' "first", mkNullNode (ts.map fun t => nd `group #[at' "|", t])]
def lookI (s k : String) : String := (((s.splitOn ("#" ++ k ++ "=")).getD 1 "").splitOn "#").headD ""
def sxOf (k : String) : String := lookI r##"#me=(T.first `first (null (group `| (T.tacticSeq (T.tacticSeq1Indented (null (T.paren `( (T.tacticSeq (T.tacticSeq1Indented (null (T.paren `( (T.tacticSeq (T.tacticSeq1Indented (null (T.failIfSuccess `fail_if_success (T.tacticSeq (T.tacticSeq1Indented (null (T.paren `( (T.tacticSeq (T.tacticSeq1Indented (null (T.failIfSuccess `fail_if_success (T.tacticSeq (T.tacticSeq1Indented (null (T.paren `( (T.tacticSeq (T.tacticSeq1Indented (null (T.withReducible `with_reducible (T.tacticSeq (T.tacticSeq1Indented (null (T.show `show (M.app 'wpAny (null (M.hole `_ ) (M.hole `_ ) (M.paren (M.hygienicLParen `( (hygieneInfo ' ) ) (M.app 'eval (null (M.paren (M.hygienicLParen `( (hygieneInfo ' ) ) (M.app (M.dotIdent `. 'Name ) (null (M.hole `_ ) (M.hole `_ ) ) ) `) ) (M.hole `_ ) ) ) `) ) (M.hole `_ ) (M.hole `_ ) (M.hole `_ ) ) ) ) ) ) ) ) ) ) ) `) ) ) ) ) ) ) ) ) `) ) ) ) ) ) ) ) ) `) ) `; (PyProof.Rows.tacticWalk_at_ `walk_at (str `"mn~" ) ) ) ) ) `) ) ) ) ) ) (group `| (T.tacticSeq (T.tacticSeq1Indented (null (PyProof.Rows.tacticWalk_at_ `walk_at (str `"mv~" ) ) ) ) ) ) ) )#mb=(T.first `first (null (group `| (T.tacticSeq (T.tacticSeq1Indented (null (T.paren `( (T.tacticSeq (T.tacticSeq1Indented (null (T.paren `( (T.tacticSeq (T.tacticSeq1Indented (null (T.failIfSuccess `fail_if_success (T.tacticSeq (T.tacticSeq1Indented (null (T.paren `( (T.tacticSeq (T.tacticSeq1Indented (null (T.failIfSuccess `fail_if_success (T.tacticSeq (T.tacticSeq1Indented (null (T.paren `( (T.tacticSeq (T.tacticSeq1Indented (null (T.withReducible `with_reducible (T.tacticSeq (T.tacticSeq1Indented (null (T.show `show (M.app 'wpAny (null (M.hole `_ ) (M.hole `_ ) (M.paren (M.hygienicLParen `( (hygieneInfo ' ) ) (M.app 'call (null (M.paren (M.hygienicLParen `( (hygieneInfo ' ) ) (M.app (M.dotIdent `. 'builtin ) (null (str `"isinstance" ) ) ) `) ) (M.hole `_ ) ) ) `) ) (M.hole `_ ) (M.hole `_ ) (M.hole `_ ) ) ) ) ) ) ) ) ) ) ) `) ) ) ) ) ) ) ) ) `) ) ) ) ) ) ) ) ) `) ) `; (PyProof.Rows.tacticWalk_at_ `walk_at (str `"my~" ) ) ) ) ) `) ) ) ) ) ) (group `| (T.tacticSeq (T.tacticSeq1Indented (null (PyProof.Rows.tacticWalk_at_ `walk_at (str `"mu~" ) ) ) ) ) ) ) )#zfx=(T.paren `( (T.tacticSeq (T.tacticSeq1Indented (null (T.paren `( (T.tacticSeq (T.tacticSeq1Indented (null (T.tacticRepeat_ `repeat (T.tacticSeq (T.tacticSeq1Indented (null (T.paren `( (T.tacticSeq (T.tacticSeq1Indented (null (T.first `first (null (group `| (T.tacticSeq (T.tacticSeq1Indented (null (T.withReducible `with_reducible (T.tacticSeq (T.tacticSeq1Indented (null (T.exact `exact 'hp ) ) ) ) ) ) ) ) ) (group `| (T.tacticSeq (T.tacticSeq1Indented (null (T.withReducible `with_reducible (T.tacticSeq (T.tacticSeq1Indented (null (T.exact `exact (M.app 'List.mem_append_right (null (M.hole `_ ) 'hp ) ) ) ) ) ) ) ) ) ) ) (group `| (T.tacticSeq (T.tacticSeq1Indented (null (T.refine `refine (M.app 'List.mem_cons_of_mem (null (M.hole `_ ) (M.syntheticHole `? `_ ) ) ) ) ) ) ) ) ) ) ) ) ) `) ) ) ) ) ) ) ) ) `) ) `; (T.done `done ) ) ) ) `) )#zf=(T.exact `exact (M.app 'Inn.mem (null (M.paren (M.hygienicLParen `( (hygieneInfo ' ) ) (M.byTactic `by (T.tacticSeq (T.tacticSeq1Indented (null (PyProof.Rows.tacticWalk_at_ `walk_at (str `"zm~" ) ) ) ) ) ) `) ) ) ) )#zt=(T.first `first (null (group `| (T.tacticSeq (T.tacticSeq1Indented (null (T.withReducible `with_reducible (T.tacticSeq (T.tacticSeq1Indented (null (T.exact `exact (M.app 'Sx.inB (null 'S (M.paren (M.hygienicLParen `( (hygieneInfo ' ) ) (M.byTactic `by (T.tacticSeq (T.tacticSeq1Indented (null (T.assumption `assumption ) ) ) ) ) `) ) ) ) ) ) ) ) ) ) ) ) ) (group `| (T.tacticSeq (T.tacticSeq1Indented (null (T.paren `( (T.tacticSeq (T.tacticSeq1Indented (null (T.paren `( (T.tacticSeq (T.tacticSeq1Indented (null (T.withReducible `with_reducible (T.tacticSeq (T.tacticSeq1Indented (null (T.refine' `refine' (M.app 'Sx.inF (null 'S (M.syntheticHole `? 'zztm ) ) ) ) ) ) ) ) ) ) ) `) ) `; (T.paren `( (T.tacticSeq (T.tacticSeq1Indented (null (T.case `case (null (T.caseArg (Lean.binderIdent 'zztm ) (null ) ) ) `=> (T.tacticSeq (T.tacticSeq1Indented (null (PyProof.Rows.tacticWalk_at_ `walk_at (str `"zm~" ) ) ) ) ) ) ) ) ) `) ) ) ) ) `) ) ) ) ) ) (group `| (T.tacticSeq (T.tacticSeq1Indented (null (T.paren `( (T.tacticSeq (T.tacticSeq1Indented (null (T.paren `( (T.tacticSeq (T.tacticSeq1Indented (null (T.withReducible `with_reducible (T.tacticSeq (T.tacticSeq1Indented (null (T.refine' `refine' (M.app 'Sx.inK (null 'G 'S (M.syntheticHole `? 'zzte ) ) ) ) ) ) ) ) ) ) ) `) ) `; (T.paren `( (T.tacticSeq (T.tacticSeq1Indented (null (T.case `case (null (T.caseArg (Lean.binderIdent 'zzte ) (null ) ) ) `=> (T.tacticSeq (T.tacticSeq1Indented (null (PySem.W.tacticK_is `k_is ) ) ) ) ) ) ) ) `) ) ) ) ) `) ) ) ) ) ) ) )#zi=(T.first `first (null (group `| (T.tacticSeq (T.tacticSeq1Indented (null (T.withReducible `with_reducible (T.tacticSeq (T.tacticSeq1Indented (null (T.exact `exact (M.app 'Sx.insB (null 'S (M.paren (M.hygienicLParen `( (hygieneInfo ' ) ) (M.byTactic `by (T.tacticSeq (T.tacticSeq1Indented (null (T.assumption `assumption ) ) ) ) ) `) ) ) ) ) ) ) ) ) ) ) ) ) (group `| (T.tacticSeq (T.tacticSeq1Indented (null (T.paren `( (T.tacticSeq (T.tacticSeq1Indented (null (T.paren `( (T.tacticSeq (T.tacticSeq1Indented (null (T.withReducible `with_reducible (T.tacticSeq (T.tacticSeq1Indented (null (T.refine' `refine' (M.app 'Sx.ins (null 'S (M.syntheticHole `? 'zzia ) (M.syntheticHole `? 'zzib ) ) ) ) ) ) ) ) ) ) ) `) ) `; (T.paren `( (T.tacticSeq (T.tacticSeq1Indented (null (T.case `case (null (T.caseArg (Lean.binderIdent 'zzia ) (null ) ) ) `=> (T.tacticSeq (T.tacticSeq1Indented (null (PyProof.Rows.tacticWalk_at_ `walk_at (str `"zm~" ) ) ) ) ) ) ) ) ) `) ) `; (T.paren `( (T.tacticSeq (T.tacticSeq1Indented (null (T.case `case (null (T.caseArg (Lean.binderIdent 'zzib ) (null ) ) ) `=> (T.tacticSeq (T.tacticSeq1Indented (null (PyProof.Rows.tacticWalk_at_ `walk_at (str `"zm~" ) ) ) ) ) ) ) ) ) `) ) ) ) ) `) ) ) ) ) ) (group `| (T.tacticSeq (T.tacticSeq1Indented (null (T.paren `( (T.tacticSeq (T.tacticSeq1Indented (null (T.paren `( (T.tacticSeq (T.tacticSeq1Indented (null (T.withReducible `with_reducible (T.tacticSeq (T.tacticSeq1Indented (null (T.refine' `refine' (M.app 'Sx.insX (null 'S (M.syntheticHole `? 'zzia ) (M.syntheticHole `? 'zzib ) ) ) ) ) ) ) ) ) ) ) `) ) `; (T.paren `( (T.tacticSeq (T.tacticSeq1Indented (null (T.case `case (null (T.caseArg (Lean.binderIdent 'zzia ) (null ) ) ) `=> (T.tacticSeq (T.tacticSeq1Indented (null (T.withReducible `with_reducible (T.tacticSeq (T.tacticSeq1Indented (null (T.assumption `assumption ) ) ) ) ) ) ) ) ) ) ) ) `) ) `; (T.paren `( (T.tacticSeq (T.tacticSeq1Indented (null (T.case `case (null (T.caseArg (Lean.binderIdent 'zzib ) (null ) ) ) `=> (T.tacticSeq (T.tacticSeq1Indented (null (PyProof.Rows.tacticWalk_at_ `walk_at (str `"zm~" ) ) ) ) ) ) ) ) ) `) ) ) ) ) `) ) ) ) ) ) ) )#zq=(T.first `first (null (group `| (T.tacticSeq (T.tacticSeq1Indented (null (T.withReducible `with_reducible (T.tacticSeq (T.tacticSeq1Indented (null (T.exact `exact (M.app 'SeqAt.EqAt.same (null (M.hole `_ ) ) ) ) ) ) ) ) ) ) ) ) (group `| (T.tacticSeq (T.tacticSeq1Indented (null (T.withReducible `with_reducible (T.tacticSeq (T.tacticSeq1Indented (null (T.exact `exact (M.app 'SeqAt.EqAt.str_str (null (M.hole `_ ) (M.hole `_ ) (M.hole `_ ) (M.hole `_ ) ) ) ) ) ) ) ) ) ) ) ) (group `| (T.tacticSeq (T.tacticSeq1Indented (null (T.withReducible `with_reducible (T.tacticSeq (T.tacticSeq1Indented (null (T.exact `exact (M.app 'SeqAt.EqAt.int_int (null (M.hole `_ ) (M.hole `_ ) (M.hole `_ ) (M.hole `_ ) ) ) ) ) ) ) ) ) ) ) ) (group `| (T.tacticSeq (T.tacticSeq1Indented (null (T.withReducible `with_reducible (T.tacticSeq (T.tacticSeq1Indented (null (T.exact `exact (M.app 'SeqAt.EqAt.int_str (null (M.hole `_ ) (M.hole `_ ) (M.hole `_ ) (M.hole `_ ) ) ) ) ) ) ) ) ) ) ) ) (group `| (T.tacticSeq (T.tacticSeq1Indented (null (T.withReducible `with_reducible (T.tacticSeq (T.tacticSeq1Indented (null (T.exact `exact (M.app 'SeqAt.EqAt.str_int (null (M.hole `_ ) (M.hole `_ ) (M.hole `_ ) (M.hole `_ ) ) ) ) ) ) ) ) ) ) ) ) (group `| (T.tacticSeq (T.tacticSeq1Indented (null (T.paren `( (T.tacticSeq (T.tacticSeq1Indented (null (T.paren `( (T.tacticSeq (T.tacticSeq1Indented (null (T.withReducible `with_reducible (T.tacticSeq (T.tacticSeq1Indented (null (T.refine' `refine' (M.app 'eq_ts (null 'R (M.syntheticHole `? 'zzea ) ) ) ) ) ) ) ) ) ) ) `) ) `; (T.paren `( (T.tacticSeq (T.tacticSeq1Indented (null (T.case `case (null (T.caseArg (Lean.binderIdent 'zzea ) (null ) ) ) `=> (T.tacticSeq (T.tacticSeq1Indented (null (PyProof.Rows.tacticWalk_at_ `walk_at (str `"zt~" ) ) ) ) ) ) ) ) ) `) ) ) ) ) `) ) ) ) ) ) ) )#mf=(T.first `first (null (group `| (T.tacticSeq (T.tacticSeq1Indented (null (T.withReducible `with_reducible (T.tacticSeq (T.tacticSeq1Indented (null (T.refine `refine (M.app 'it_t (null (M.syntheticHole `? `_ ) ) ) ) ) ) ) ) ) ) ) ) (group `| (T.tacticSeq (T.tacticSeq1Indented (null (T.withReducible `with_reducible (T.tacticSeq (T.tacticSeq1Indented (null (T.refine `refine (M.app 'it_f (null (M.syntheticHole `? `_ ) ) ) ) ) ) ) ) ) ) ) ) (group `| (T.tacticSeq (T.tacticSeq1Indented (null (T.refine `refine (M.app 'it_is (null (M.namedArgument `( 'y `:= 'true `) ) (M.paren (M.hygienicLParen `( (hygieneInfo ' ) ) (M.byTactic `by (T.tacticSeq (T.tacticSeq1Indented (null (T.first `first (null (group `| (T.tacticSeq (T.tacticSeq1Indented (null (T.withReducible `with_reducible (T.tacticSeq (T.tacticSeq1Indented (null (T.assumption `assumption ) ) ) ) ) ) ) ) ) (group `| (T.tacticSeq (T.tacticSeq1Indented (null (T.decide `decide (T.optConfig (null ) ) ) ) ) ) ) ) ) ) ) ) ) `) ) (M.paren (M.hygienicLParen `( (hygieneInfo ' ) ) (M.app 'it_t (null (M.syntheticHole `? `_ ) ) ) `) ) ) ) ) ) ) ) ) (group `| (T.tacticSeq (T.tacticSeq1Indented (null (T.refine `refine (M.app 'it_is (null (M.namedArgument `( 'y `:= 'false `) ) (M.paren (M.hygienicLParen `( (hygieneInfo ' ) ) (M.byTactic `by (T.tacticSeq (T.tacticSeq1Indented (null (T.first `first (null (group `| (T.tacticSeq (T.tacticSeq1Indented (null (T.withReducible `with_reducible (T.tacticSeq (T.tacticSeq1Indented (null (T.assumption `assumption ) ) ) ) ) ) ) ) ) (group `| (T.tacticSeq (T.tacticSeq1Indented (null (T.decide `decide (T.optConfig (null ) ) ) ) ) ) ) ) ) ) ) ) ) `) ) (M.paren (M.hygienicLParen `( (hygieneInfo ' ) ) (M.app 'it_f (null (M.syntheticHole `? `_ ) ) ) `) ) ) ) ) ) ) ) ) (group `| (T.tacticSeq (T.tacticSeq1Indented (null (T.refine `refine (M.app 'it_is (null (M.namedArgument `( 'y `:= 'true `) ) (M.paren (M.hygienicLParen `( (hygieneInfo ' ) ) (M.byTactic `by (T.tacticSeq (T.tacticSeq1Indented (null (T.exact `exact 'rfl ) ) ) ) ) `) ) (M.paren (M.hygienicLParen `( (hygieneInfo ' ) ) (M.app 'it_t (null (M.syntheticHole `? `_ ) ) ) `) ) ) ) ) ) ) ) ) (group `| (T.tacticSeq (T.tacticSeq1Indented (null (T.refine `refine (M.app 'it_is (null (M.namedArgument `( 'y `:= 'false `) ) (M.paren (M.hygienicLParen `( (hygieneInfo ' ) ) (M.byTactic `by (T.tacticSeq (T.tacticSeq1Indented (null (T.exact `exact 'rfl ) ) ) ) ) `) ) (M.paren (M.hygienicLParen `( (hygieneInfo ' ) ) (M.app 'it_f (null (M.syntheticHole `? `_ ) ) ) `) ) ) ) ) ) ) ) ) ) )#@eq=(T.first `first (null (group `| (T.tacticSeq (T.tacticSeq1Indented (null (T.exact `exact 'EqAll.nil ) ) ) ) ) (group `| (T.tacticSeq (T.tacticSeq1Indented (null (T.exact `exact 'EqAll.left ) ) ) ) ) (group `| (T.tacticSeq (T.tacticSeq1Indented (null (T.exact `exact 'EqAll.right ) ) ) ) ) ) )#@call=(T.tacticHave__ `have (M.letConfig (null ) ) (M.letDecl (M.letIdDecl (M.letId 'S ) (null ) (null ) `:= (M.app 'S.call (null 'k ) ) ) ) )#@callt=(T.tacticHave__ `have (M.letConfig (null ) ) (M.letDecl (M.letIdDecl (M.letId 'S ) (null ) (null ) `:= (M.app 'Sx.fact (null (M.paren (M.hygienicLParen `( (hygieneInfo ' ) ) (M.app 'S.call (null 'k ) ) `) ) (M.paren (M.hygienicLParen `( (hygieneInfo ' ) ) (M.app 'tupF (null 'a (M.hole `_ ) ) ) `) ) 'ht ) ) ) ) )#@up=(T.refine' `refine' (M.anonymousCtor `⟨ (null (M.hole `_ ) `, (M.syntheticHole `? 'zzu ) `, (M.syntheticHole `? `_ ) ) `⟩ ) )#@nil=(T.simp `simp (T.optConfig (null ) ) (null ) (null `only ) (null `[ (null (T.simpLemma (null ) (null ) 'List.nil_append ) `, (T.simpLemma (null ) (null ) 'List.cons_append ) ) `] ) (null (T.location `at (T.locationHyp (null 'S ) ) ) ) )#@ite=(T.exact `exact (M.app (M.explicit `@ 'ite ) (null (M.hole `_ ) (M.hole `_ ) (M.hole `_ ) (M.hole `_ ) (M.hole `_ ) ) ) )#dec=(T.decide `decide (T.optConfig (null ) ) )#kdec=(T.decide `decide (T.optConfig (null (T.configItem (T.posConfigItem `+ 'kernel ) ) ) ) )#om=(T.omega `omega (T.optConfig (null ) ) )#as=(T.assumption `assumption )#is=(PySem.W.tacticK_is `k_is )#kit=(PySem.W.tacticKit_is `kit_is )#no=(T.exact `exact (M.paren (M.hygienicLParen `( (hygieneInfo ' ) ) (M.fun `fun (M.basicFun (null 'q ) (null ) `=> (M.nomatch `nomatch (null 'q ) ) ) ) `) ) )#rfl=(T.exact `exact 'rfl )#urfl=(T.withUnfoldingAll `with_unfolding_all (T.tacticSeq (T.tacticSeq1Indented (null (T.exact `exact 'rfl ) ) ) ) )#iurfl=(T.paren `( (T.tacticSeq (T.tacticSeq1Indented (null (T.intro `intro (null (M.hole `_ ) ) ) `; (T.withUnfoldingAll `with_unfolding_all (T.tacticSeq (T.tacticSeq1Indented (null (T.exact `exact 'rfl ) ) ) ) ) ) ) ) `) )#asm=(T.withReducible `with_reducible (T.tacticSeq (T.tacticSeq1Indented (null (T.assumption `assumption ) ) ) ) )#ras=(T.first `first (null (group `| (T.tacticSeq (T.tacticSeq1Indented (null (T.exact `exact 'rfl ) ) ) ) ) (group `| (T.tacticSeq (T.tacticSeq1Indented (null (T.assumption `assumption ) ) ) ) ) ) )#rasm=(T.first `first (null (group `| (T.tacticSeq (T.tacticSeq1Indented (null (T.exact `exact 'rfl ) ) ) ) ) (group `| (T.tacticSeq (T.tacticSeq1Indented (null (T.withReducible `with_reducible (T.tacticSeq (T.tacticSeq1Indented (null (T.assumption `assumption ) ) ) ) ) ) ) ) ) ) )#le=(T.first `first (null (group `| (T.tacticSeq (T.tacticSeq1Indented (null (T.decide `decide (T.optConfig (null ) ) ) ) ) ) ) (group `| (T.tacticSeq (T.tacticSeq1Indented (null (T.omega `omega (T.optConfig (null ) ) ) ) ) ) ) ) )#aom=(T.first `first (null (group `| (T.tacticSeq (T.tacticSeq1Indented (null (T.withReducible `with_reducible (T.tacticSeq (T.tacticSeq1Indented (null (T.assumption `assumption ) ) ) ) ) ) ) ) ) (group `| (T.tacticSeq (T.tacticSeq1Indented (null (T.omega `omega (T.optConfig (null ) ) ) ) ) ) ) ) )#uom=(T.paren `( (T.tacticSeq (T.tacticSeq1Indented (null (T.unfold `unfold (null 'sizeLine ) (null ) ) `; (T.omega `omega (T.optConfig (null ) ) ) ) ) ) `) )#sz=(T.first `first (null (group `| (T.tacticSeq (T.tacticSeq1Indented (null (T.paren `( (T.tacticSeq (T.tacticSeq1Indented (null (T.first `first (null (group `| (T.tacticSeq (T.tacticSeq1Indented (null (T.withReducible `with_reducible (T.tacticSeq (T.tacticSeq1Indented (null (T.assumption `assumption ) ) ) ) ) ) ) ) ) (group `| (T.tacticSeq (T.tacticSeq1Indented (null (T.omega `omega (T.optConfig (null ) ) ) ) ) ) ) ) ) ) ) ) `) ) ) ) ) ) (group `| (T.tacticSeq (T.tacticSeq1Indented (null (T.paren `( (T.tacticSeq (T.tacticSeq1Indented (null (T.unfold `unfold (null 'sizeLine ) (null ) ) `; (T.omega `omega (T.optConfig (null ) ) ) ) ) ) `) ) ) ) ) ) ) )#ble=(T.exact `exact (M.app 'Nat.le_of_ble_eq_true (null 'rfl ) ) )#nsz=(T.first `first (null (group `| (T.tacticSeq (T.tacticSeq1Indented (null (T.exact `exact (M.app 'Nat.le_of_ble_eq_true (null 'rfl ) ) ) ) ) ) ) (group `| (T.tacticSeq (T.tacticSeq1Indented (null (T.paren `( (T.tacticSeq (T.tacticSeq1Indented (null (T.first `first (null (group `| (T.tacticSeq (T.tacticSeq1Indented (null (T.assumption `assumption ) ) ) ) ) (group `| (T.tacticSeq (T.tacticSeq1Indented (null (T.omega `omega (T.optConfig (null ) ) ) ) ) ) ) ) ) ) ) ) `) ) ) ) ) ) ) )#EC=(T.paren `( (T.tacticSeq (T.tacticSeq1Indented (null (T.rwSeq `rw (T.optConfig (null ) ) (T.rwRuleSeq `[ (null (T.rwRule (null ) 'EC ) ) `] ) (null ) ) `; (T.exact `exact 'rfl ) ) ) ) `) )#mul=(T.exact `exact (M.app 'IntMulOk.of_right (null (M.paren (M.hygienicLParen `( (hygieneInfo ' ) ) (M.byTactic `by (T.tacticSeq (T.tacticSeq1Indented (null (T.decide `decide (T.optConfig (null ) ) ) ) ) ) ) `) ) ) ) )#pyl=(T.exact `exact (M.app 'PyProof.noPylong_of_log2 (null (M.paren (M.hygienicLParen `( (hygieneInfo ' ) ) (M.byTactic `by (T.tacticSeq (T.tacticSeq1Indented (null (T.decide `decide (T.optConfig (null (T.configItem (T.posConfigItem `+ 'kernel ) ) ) ) ) ) ) ) ) `) ) ) ) )#at=(T.exact `exact (M.app 'Ins.at' (null (M.paren (M.hygienicLParen `( (hygieneInfo ' ) ) (M.byTactic `by (T.tacticSeq (T.tacticSeq1Indented (null (PyProof.Rows.tacticWalk_at_ `walk_at (str `"zi~" ) ) ) ) ) ) `) ) ) ) )#mem=(T.exact `exact (M.app 'Inn.mem (null (M.paren (M.hygienicLParen `( (hygieneInfo ' ) ) (M.byTactic `by (T.tacticSeq (T.tacticSeq1Indented (null (PyProof.Rows.tacticWalk_at_ `walk_at (str `"zm~" ) ) ) ) ) ) `) ) ) ) )#fn=(T.exact `exact (M.app 'Fn.mk (null (M.paren (M.hygienicLParen `( (hygieneInfo ' ) ) (M.byTactic `by (T.tacticSeq (T.tacticSeq1Indented (null (PySem.W.tacticK_is `k_is ) ) ) ) ) `) ) ) ) )#tr=(T.exact `exact (M.app 'IsTr.keep (null (M.paren (M.hygienicLParen `( (hygieneInfo ' ) ) (M.app 'tk_of (null 'S ) ) `) ) (M.paren (M.hygienicLParen `( (hygieneInfo ' ) ) (M.byTactic `by (T.tacticSeq (T.tacticSeq1Indented (null (T.assumption `assumption ) ) ) ) ) `) ) ) ) )#s30=(T.exact `exact (M.app 'Nat.lt_of_lt_of_le (null (M.paren (M.hygienicLParen `( (hygieneInfo ' ) ) (M.app 'Nat.lt_of_le_of_lt (null (M.paren (M.hygienicLParen `( (hygieneInfo ' ) ) (M.app 'Nat.le_of_ble_eq_true (null 'rfl ) ) `) ) (M.paren (M.hygienicLParen `( (hygieneInfo ' ) ) (M.app 'Nat.lt_succ_self (null (num `30 ) ) ) `) ) ) ) `) ) (M.paren (M.hygienicLParen `( (hygieneInfo ' ) ) (M.app 'Nat.le_of_ble_eq_true (null 'rfl ) ) `) ) ) ) )#zm2=(T.paren `( (T.tacticSeq (T.tacticSeq1Indented (null (T.paren `( (T.tacticSeq (T.tacticSeq1Indented (null (T.tacticRepeat_ `repeat (T.tacticSeq (T.tacticSeq1Indented (null (T.paren `( (T.tacticSeq (T.tacticSeq1Indented (null (T.first `first (null (group `| (T.tacticSeq (T.tacticSeq1Indented (null (T.withReducible `with_reducible (T.tacticSeq (T.tacticSeq1Indented (null (T.apply `apply 'Inn.z ) ) ) ) ) ) ) ) ) (group `| (T.tacticSeq (T.tacticSeq1Indented (null (T.withReducible `with_reducible (T.tacticSeq (T.tacticSeq1Indented (null (T.apply `apply 'Inn.z1 ) ) ) ) ) ) ) ) ) (group `| (T.tacticSeq (T.tacticSeq1Indented (null (T.withReducible `with_reducible (T.tacticSeq (T.tacticSeq1Indented (null (T.apply `apply 'Inn.z2 ) ) ) ) ) ) ) ) ) (group `| (T.tacticSeq (T.tacticSeq1Indented (null (T.withReducible `with_reducible (T.tacticSeq (T.tacticSeq1Indented (null (T.apply `apply 'Inn.z3 ) ) ) ) ) ) ) ) ) (group `| (T.tacticSeq (T.tacticSeq1Indented (null (T.withReducible `with_reducible (T.tacticSeq (T.tacticSeq1Indented (null (T.apply `apply 'Inn.s4 ) ) ) ) ) ) ) ) ) (group `| (T.tacticSeq (T.tacticSeq1Indented (null (T.paren `( (T.tacticSeq (T.tacticSeq1Indented (null (T.paren `( (T.tacticSeq (T.tacticSeq1Indented (null (T.withReducible `with_reducible (T.tacticSeq (T.tacticSeq1Indented (null (T.apply `apply 'Inn.left ) ) ) ) ) ) ) ) `) ) `; (T.paren `( (T.tacticSeq (T.tacticSeq1Indented (null (T.withReducible `with_reducible (T.tacticSeq (T.tacticSeq1Indented (null (T.assumption `assumption ) ) ) ) ) ) ) ) `) ) ) ) ) `) ) ) ) ) ) (group `| (T.tacticSeq (T.tacticSeq1Indented (null (T.withReducible `with_reducible (T.tacticSeq (T.tacticSeq1Indented (null (T.assumption `assumption ) ) ) ) ) ) ) ) ) (group `| (T.tacticSeq (T.tacticSeq1Indented (null (T.withReducible `with_reducible (T.tacticSeq (T.tacticSeq1Indented (null (T.apply `apply 'Inn.s ) ) ) ) ) ) ) ) ) ) ) ) ) ) `) ) ) ) ) ) ) ) ) `) ) `; (T.done `done ) ) ) ) `) )#bd=(T.paren `( (T.tacticSeq (T.tacticSeq1Indented (null (T.paren `( (T.tacticSeq (T.tacticSeq1Indented (null (T.refine' `refine' (M.app 'Bd.le (null (M.syntheticHole `? 'zza ) (M.syntheticHole `? 'zzb ) ) ) ) ) ) ) `) ) `; (T.paren `( (T.tacticSeq (T.tacticSeq1Indented (null (T.case `case (null (T.caseArg (Lean.binderIdent 'zza ) (null ) ) ) `=> (T.tacticSeq (T.tacticSeq1Indented (null (T.tacticRepeat_ `repeat (T.tacticSeq (T.tacticSeq1Indented (null (T.paren `( (T.tacticSeq (T.tacticSeq1Indented (null (T.first `first (null (group `| (T.tacticSeq (T.tacticSeq1Indented (null (T.assumption `assumption ) ) ) ) ) (group `| (T.tacticSeq (T.tacticSeq1Indented (null (T.exact `exact 'Bd.one ) ) ) ) ) (group `| (T.tacticSeq (T.tacticSeq1Indented (null (T.apply `apply 'Bd.app ) ) ) ) ) (group `| (T.tacticSeq (T.tacticSeq1Indented (null (T.apply `apply 'Bd.set ) ) ) ) ) ) ) ) ) ) `) ) ) ) ) ) ) ) ) ) ) ) ) `) ) `; (T.paren `( (T.tacticSeq (T.tacticSeq1Indented (null (T.case `case (null (T.caseArg (Lean.binderIdent 'zzb ) (null ) ) ) `=> (T.tacticSeq (T.tacticSeq1Indented (null (T.exact `exact 'rfl ) ) ) ) ) ) ) ) `) ) ) ) ) `) )#lt=(T.tacticRepeat_ `repeat (T.tacticSeq (T.tacticSeq1Indented (null (T.paren `( (T.tacticSeq (T.tacticSeq1Indented (null (T.first `first (null (group `| (T.tacticSeq (T.tacticSeq1Indented (null (T.exact `exact 'lt_one ) ) ) ) ) (group `| (T.tacticSeq (T.tacticSeq1Indented (null (T.apply `apply 'lt_more ) ) ) ) ) (group `| (T.tacticSeq (T.tacticSeq1Indented (null (T.apply `apply 'lt_set ) ) ) ) ) ) ) ) ) ) `) ) ) ) ) )#"## k
open Lean in
def sxI (f k : String) : Syntax := synOf ((sxOf k).replace "~" f)
open Lean in
def tacI (f k : String) : Syntax := let s := sxOf k; if s == "" then walkI (k ++ f) else synOf (s.replace "~" f)
open Lean in
def caseI (x : String) (t : Syntax) : Syntax := tk "case" #[at' "case", mkNullNode #[tk "caseArg" #[nd `Lean.binderIdent #[mkIdent (Name.mkSimple ("zz" ++ x))], mkNullNode #[]]], at' "=>", seqI #[t]]
open Lean in
def thenI (f s : String) : Syntax := match s.splitOn ":" with
  | [x, k] => if x == "intro" then tk "intro" #[at' "intro", mkNullNode ((k.splitOn ",").toArray.map idI)] else if x == "clear" then tk "clear" #[at' "clear", mkNullNode #[idI k]] else caseI x (tacI f k)
  | _ => sxI f ("@" ++ s)
open Lean in
def refI (t : Syntax) : Syntax := tk "refine'" #[at' "refine' ", t]
open Lean in
def altI (f r : String) : Syntax :=
  let w := (r.splitOn " ").filter (· != "")
  let as := w.takeWhile (· != ";")
  let ps := (w.dropWhile (· != ";")).drop 1
  seqI (#[redI (refI (appI (idI as.head!) (as.tail.toArray.map argI)))] ++ ps.toArray.map (thenI f))
open Lean in
def rowsI (s : String) : Array String := ((s.splitOn "\n").filter (· != "")).toArray
open Lean in
def showI (t : Syntax) : Syntax :=
  let f := fun s => tk "failIfSuccess" #[at' "fail_if_success ", seqI #[s]]
  parI (f (parI (f (parI (redI (tk "show" #[at' "show ", t]))))))
open Lean in
def shapeI (f r : String) : Syntax :=
  let w := r.splitOn " "
  let as := w.takeWhile (· != ";")
  let t := if as.length == 1 then holeI else parT (appI (idI as.head!) (as.tail.toArray.map argI))
  seqI #[showI (appI (idI "wpAny") #[holeI, holeI, t, holeI, holeI, holeI]), walkI (w.getLast! ++ f)]
open Lean in
def chainI (z : Syntax) (s : Syntax → Syntax) : Nat → List Syntax
  | 0 => []
  | n + 1 => z :: chainI (s z) s n
open Lean in
def exaI (t : Syntax) : Syntax := seqI #[redI (tk "exact" #[at' "exact ", t])]
open Lean in
def chainF (l : List Syntax) : Syntax := firstI (l.toArray.map exaI)
open Lean in
def exNames (pre s : String) : Syntax := firstI ((s.splitOn " ").toArray.map fun x => exaI (appI (idI (pre ++ x)) #[holeI]))
open Lean in
def repI (c : String) (xs : List String) : Syntax :=
  tk "paren" #[at' "(", seqI #[parI (tk "tacticRepeat_" #[at' "repeat ", seqI #[parI (firstI (xs.toArray.map fun x => seqI #[redI (tk "apply" #[at' "apply ", idI (c ++ "." ++ x)])]))]]), tk "done" #[at' "done"]], at' ")"]
open Lean in
def eqsI (f : String) : Nat → Syntax
  | 0 => sxI f "@eq"
  | n + 1 => firstI #[seqI #[sxI f "@eq"], seqI #[refI (appI (idI "EqAll.cons") #[hoI (toString n ++ "x"), hoI (toString n ++ "y")]), caseI (toString n ++ "x") (tacI f "zq"), caseI (toString n ++ "y") (eqsI f n)]]
def rowOf (k : String) : String := lookI r##"#mn=e_loc V S ?l ?_ ; l:zl
e_cel V S ?l ?hc ?m ?hd ?_ ; l:zj hc:EC m:zm hd:asm
e_fre V S ?l ?hc ?m ?hd ?hn ?_ ; l:zy hc:EC m:asm hd:asm hn:dec
e_celB V S ?l ?hc ?m ?hd ?_ ; l:zj hc:EC m:asm hd:asm
e_gl V G S ?l ?hv ?_ ; hv:zn l:zg
e_bl V G S ?l ?hv ?_ ; hv:zb l:zg#mv=r_str ?_
r_int ?_
r_callg V G S ?l ?hv ?f ?n ?h ?_ ; hv:zn l:zg f:fn n:rfl h:rfl
r_call ?_ ?h ; h:rfl
r_sub ?_
r_meth ?_ ?h ; h:rfl
r_attr ?_
r_tuple ?h ?_ ; h:rfl
r_cmp ?h ?_ ; h:urfl
r_bin ?_
PyProof.Rows.Constant_none ?_
PyProof.Rows.Constant_bool ?_
r_list ?h ?_ ; h:rfl
r_ifexp ?_
e_slice ?_
e_sliceto ?_
e_dict0 S ?_ ; clear:S intro:a,h,tk,S,na
e_dict1 S ?_ ; clear:S intro:a,h,tk,S,na
BoolOp_one ?_
r_and ?_
r_or ?_#mx=m_ifl ?_
m_retl ?_
m_last ?_
m_asg ?h ?_ ; h:rfl
m_ifc ?_
m_cons ?_
m_nil ?_
r_asg ?h ?_ ; h:rfl
r_if ?_
r_ret ?_
r_asgattr ?h ?_ ; h:rfl
r_asgtup ?h1 ?h2 ?_ ; h1:rfl h2:rfl
x_asgtupC V ?hn ?hs ?_ ; hn:kdec hs:rfl
x_swap V ?l1 ?l2 ?ne ?hp ?h1 ?hs ?h2 ?h3 ?_ ; l1:rfl l2:rfl ne:dec hp:rfl h1:rfl hs:rfl h2:urfl h3:urfl
r_asgsub ?h ?_ ; h:rfl
r_expr V ?_ ?h ; h:rfl
r_aug ?_
r_augat ?_
wpAny_Continue ?_
wpAny_Break ?_#mt=r_tcmp ?h ?_ ; h:urfl
r_not ?_
r_tand ?_
r_tor ?_
isTrue_and_nil ?_
isTrue_or_nil ?_
r_tif ?_
r_plain ?_ ?h ; h:rfl#mq=eq_str ?_
ne_str ?_
eq_int ?_
ne_int ?_
lt_int ?_
gt_int ?_
le_int ?_
ge_int ?_
o_eqs ?a ?b R.cl ?e ?_ ; a:zt b:zt e:ze
o_nes ?a ?b R.cl ?e ?_ ; a:zt b:zt e:ze
PyProof.Rows.in_str ?_
is_nn ?_
isnot_nn ?_
is_ref_none ?_
isnot_ref_none ?_
is_int_none ?_
isnot_int_none ?_
in_tuple_strs ?t ?i ?_ ; t:zt i:zx
notin_tuple_strs ?t ?i ?_ ; t:zt i:zx#mz=r_bui ?n ?_ ; n:rfl
r_typ ?n ?_ ; n:rfl
r_ref G ?f ?n ?_ ; f:fn n:rfl#my=o_isi G S kitx_str trivial ?e ?n ?_ ; e:kit n:no intro:tk
o_isi G S kitx_int trivial ?e ?n ?_ ; e:kit n:no intro:tk
o_isi G S kitx_none trivial ?e ?n ?_ ; e:kit n:no intro:tk
o_isi G S kitx_own(?k4,?k5,?k6,?k7,?k8,?k9) ?p ?e ?n ?_ ; p:at e:kit n:no k4:is k5:is k6:is k7:is k8:is k9:is intro:tk
o_isit G S kitx_str trivial ?t ?e ?n ?_ ; t:zt e:kit n:no intro:tk
o_isit G S kitx_own(?k4,?k5,?k6,?k7,?k8,?k9) ?p ?t ?e ?n ?_ ; p:at t:zt e:kit n:no k4:is k5:is k6:is k7:is k8:is k9:is intro:tk#mu=cb_0 ?_
cb_1 ?_
r_len S ?m ?z ?_ ; m:zm z:aom
r_lens ?z ?_ ; z:sz
r_lent ?t ?z ?_ ; t:zt z:rfl#md=i_hd ?t ?_ ?d ?e ; t:zt d:urfl e:iurfl
i_tup ?t ?a ?b ?c ?d ?_ ?e ; t:zt a:dec b:dec c:rfl d:rfl e:urfl
r_item ?a ?b ?c ?d ?e ?_ ; a:om b:om c:om d:urfl e:iurfl
o_slice S ?z ?a ?b ?_ ; z:sz a:urfl b:iurfl intro:t1,h,tk,S
o_itemS S ?m ?a ?b ?c ?_ ?d ?e ; m:zm a:dec b:dec c:rfl d:urfl e:iurfl
i_hdT ?t ?_ ?d ; t:zt d:urfl#ma=r_fld G ?c S ?i ?l ?v ?_ ; i:zi c:zk l:zd v:rasm
s_fld G ?c S ?i ?l ?z ?l1 ?l2 ?u ?_ ; i:zi c:zk l:ze2 z:ble l1:rfl l2:rfl u:zu clear:S intro:h,tk,S
s_new G ?c S ?i ?z ?n ?no ?l1 ?l2 ?u ?_ ; i:zi c:zk z:s30 n:mem no:kdec l1:rfl l2:rfl u:zu clear:S intro:h,tk,S nil
s_nwk G ?c S ?i ?j ?d ?n ?k ?_ ; i:zm c:zk j:zm d:as n:rfl k:dec clear:S clear:D intro:h,tk,oz,D,S
gm_pop S ?m ?_ ; m:zm
gm_append S ?m ?_ ; m:zm
gm_extend S ?m ?_ ; m:zm
gm_own G ?c ?mt S ?i ?nn ?_ ; i:zi c:zk mt:zh nn:kdec#mi=r_add ?_
r_sub' ?_
r_iadd ?_
b_cat ?z ?_ ; z:sz intro:t1,tk
r_mod ?z ?_ ; z:aom
r_mul ?z ?_ ; z:mul
r_fdiv ?z ?y ?_ ; z:dec y:pyl#mo=r_evl1 V S ?l ?_ ; l:zl
r_evl V S ?l ?_ ; l:zl
r_evi ?_
r_evst ?_
r_evs ?_
evs_nil ?_
sq_next ?_
cd_0 S ?_
cd_1 S ?_
sq_ret ?_
fq_ret ?_
fq_next ?_
wpAny_truthy_bool ?_
r_stoS V S ?l ?_ ; l:zs clear:S intro:h,S
r_sto V S ?l ?_ ; l:zs clear:S intro:h,S
n_tuple S ?z ?_ ; z:nsz clear:S intro:a,h,tk,S,na
n_list S ?z ?_ ; z:nsz clear:S intro:a,h,tk,S,na
sq_brk ?_
sq_cont ?_
sw_end V R.h S ?l1 ?l2 ?_ ; l1:zs l2:zs clear:S intro:h,tk,S
e_locn V S ?l ?_ ; l:zl
x_stc V S ?l ?hc ?m ?hd ?_ ; l:zj hc:EC m:zm hd:asm intro:oc up u:zu clear:S intro:h,hoc,S
x_asgn ?_
x_unp R.h S ?t ?ln ?st ?_ ; t:zt ln:rfl st:rfl clear:S intro:h,tk,S
r_aio ?_
x_aio0 ?_
o_setat S ?hs ?u ?z ?_ ; u:zu hs:sat z:dec clear:S intro:h,tk,S#con_is_null=c_is_null G S.stays R.le(?r) ?i ?_ ; r:le i:zi intro:h,tk,k call#con_is_plain=c_is_plain G S.stays R.le(?r) ?i ?_ ; r:le i:zi intro:h,tk,k call#con_is_part=c_is_part G S.stays R.le(?r) ?i ?_ ; r:le i:zi intro:h,tk,k call#con_pattern_of=c_pattern_of G S.stays R.le(?r) ?i ?hv ?_ ; r:le i:zi hv:ras intro:h,tk,k call#con_is_delayed_str=c_is_delayed_str G S.stays R.le(?r) ?_ ; r:le intro:h,tk,k call#con_is_delayed_int=c_is_delayed_int G S.stays R.le(?r) ?_ ; r:le intro:h,tk,k call#con_is_null_node=c_is_null_node G S.stays R.le(?r) ?i ?hv ?_ ; r:le i:tr hv:as intro:h,tk,k call#con_either=c_either G S.stays R.le(?r) ?_ ; r:le intro:a,t1,h,tk,k,ht callt#con_arbno_node=c_arbno_node G S.stays R.le(?r) ?i ?hv ?_ ; r:le i:zi hv:ras intro:a,t1,h,tk,k,ht callt#con_joined=c_joined G S.stays R.le(?r) ?i ?j ?n1 ?n2 ?z ?_ ; r:le i:tr j:tr n1:as n2:as z:as intro:r,h,tk,k,hj call#con_len_end=c_len_end G S.stays R.le(?r) ?i ?_ ; r:le i:om intro:r,h,tk,k,hr call#con_rem_end=c_rem_end G S.stays R.le(?r) ?i ?_ ; r:le i:om intro:t1,h,tk,k call#con_chars_end=c_chars_end G S.stays R.le(?r) ?i ?j ?_ ; r:le i:om j:om intro:r,h,tk,k,hr call#con_any_at=c_any_at G S.stays R.le(?r) ?i ?j ?k ?_ ; r:le i:om j:om k:om intro:r,h,tk,k,hr call#con_one_len=c_one_len G S.stays R.le(?r) ?i ?j ?_ ; r:le i:om j:om intro:r,h,tk,k,hr call#con_one_chars=c_one_chars G S.stays R.le(?r) ?i ?j ?k ?_ ; r:le i:om j:om k:om intro:r,h,tk,k,hr call#con_one_any=c_one_any G S.stays R.le(?r) ?i ?j ?k ?_ ; r:le i:om j:om k:om intro:r,h,tk,k,hr call#"## k
/-- names, classes, methods, contracts, kind of a text -/
def txOf (f : String) (i : Nat) : String := (((lookI r##"#1_1=Pattern Delayed to_text SnobolError|Pattern|||#1_2=is_plain Pattern Delayed pattern_of to_text SnobolError|Pattern||is_null is_plain pattern_of|#2_1=||||#3_1=NULL_NODE||||#4_1=is_null_node COUNTED SIGNED is_delayed is_fail plain_count plain_signs|||is_null_node is_delayed_str is_delayed_int|#4_2=chars_end len_end pos_end rpos_end tab_end rtab_end any_at notany_at span_end break_end is_null_node COUNTED SIGNED is_delayed is_fail plain_count plain_signs|||len_end rem_end chars_end any_at is_null_node is_delayed_str is_delayed_int|#4_3=rem_end one_end chars_end len_end pos_end rpos_end tab_end rtab_end any_at notany_at span_end break_end is_null_node COUNTED SIGNED is_delayed is_fail plain_count plain_signs|||rem_end one_len one_chars one_any len_end chars_end any_at is_null_node is_delayed_str is_delayed_int|#5_1=|Pattern|||#5_2=|World Pattern|||#6_1=MOST_PARTS MOST_DEPTH MOST_SIGNS SnobolError TOO_GREAT parts_of||||#7_1=is_part SnobolError Pattern checked_node either pattern_of is_null is_plain check_length to_text joined arbno_node|Pattern||is_null is_plain is_part pattern_of is_delayed_str is_delayed_int is_null_node either arbno_node joined|#8_1=SnobolError||||#9_1=Pattern|Pattern|||#10_1=_law_of||||#11_1=|Pattern NameRef PlainHost PatternCode|||#12_1=SnobolError|PlainHost|||#13_1=|PatternCode|||#14_1=|Way|||#15_1=|Match|||#16_1=join_values either_value World Pattern _law_node_of _law_outcome|Pattern|||#17_1=||||#18_1=is_plain_text||||#20_1=SPLIT MARK GAIN JUMP|PatternCode|emit put||#21_1=SPLIT JUMP|PatternCode|emit put||#22_1=with_texts_joined row_of SINGLE ONE WAYS ALONE PLACE ASK MARK NAME SET|PatternCode|emit put put_choice put_repeat||#23_1=JUMP SPLIT||||#24_1=PatternCode DONE straightened|PatternCode|emit put||#25_1=Way|Way Match|||#26_1=settled plain_end|Way Match|||#27_1=GAIN SET|Way Match|||#27_2=FAIL WAYS ends_of ASK DONE FENCE Way SUCCEED GAIN SET|Way Match|||#28_1=ONE SPLIT JUMP MARK NAME SET GAIN PLACE|Way Match|met_once ended other copied||#29_1=Way DONE MET ABORT OVER FAILED|Way Match PlainHost|step done way_back||#30_1=||||#30_2=Match MET named_rows OVER|Way Match|run||#31_1=match_orders compile_pattern||||#32_1=||||#32_2=||||#32_3=LOST||||#32_4=bal_ends settled plain_end LOST||||#33_1=led_in led_out is_fail pattern_of steered taken||||#34_1=LOST advanced|PlainHost|step||#35_1=tried LOST||||#35_2=match_at LOST tried||||#39_1=PlainHost match_compiled match_plain|NameRef PlainHost|||#41_1=_law_given _law_put_right _law_of||||#43_1=join_values either_value _law_given Pattern World _law_outcome _law_node_of|Pattern|||2#44_1=join_values World checked_node _law_given Pattern _law_outcome _law_node_of|Pattern|||#46_1=_law_given make_arbno World Pattern checked_node NameRef _law_put_right _law_node_of _law_outcome _law_same|Pattern NameRef|||2#47_1=_law_given _law_texts_right _law_deep_right _law_parts_right _law_doubled_right||||#"## f).splitOn "|").getD i "")
open Lean in
def baseOf (k : TSyntax `str) : MacroM (TSyntax `tactic) := do
  let w := k.getString.splitOn "@"
  let k := w.headD ""
  let f := w.getD 1 ""
  let k := if k == "zm" && txOf f 4 == "2" then "zm2" else k
  let f := if f == "" then "" else "@" ++ f
  let r := rowOf k
  let s := sxOf k
  if r != "" then return ⟨firstI ((rowsI r).map (altI f))⟩
  else if s != "" then return ⟨synOf (s.replace "~" f)⟩
  else if k == "ms" then return ⟨firstI (((rowsI r##"eval _ _ ; me
exec _ _ ; mx
execs _ _ ; mx
isTrue _ _ _ ; mt
call Value.ref(_) _ ; zc
callWith _ _ _ _ _ ; mz
subscriptTail _ _ _ _ ; md
compareOp _ _ _ ; mq
call Value.builtin(_) _ ; mb
binaryOp _ _ _ ; mi
inplaceOp _ _ _ ; mi
getAttr _ _ _ ; ma
getMethod _ _ _ ; ma
setAttr _ _ _ ; ma
_ ; mo"##).map (shapeI f)) ++ #[seqI #[showI ((sxI f "@ite").getArg 1), walkI ("mf" ++ f)], seqI #[walkI ("mo" ++ f)]])⟩
  else
    let x := lookI r##"#zl=Loc z z1 z2 z3 s4#zm=Inn z z1 z2 z3 s4#zg=Glo z z1 z2 z3 s4#zs=Sto z z0 s s0#zj=Cel z s#zy=Fre z s#zd=Fld z s#ze2=Fst z s#"## k
    let n := lookI r##"#zn=nm_0#zk=cl_1#zh=mt_2#"## k
    if x != "" then return ⟨repI ((x.splitOn " ").headD "") ((x.splitOn " ").drop 1)⟩
    else if k == "zb" then return ⟨exNames "nb_" "isinstance len str int tuple range list abs sum"⟩
    else if k == "zu" then return ⟨chainF (chainI (idI "Up.z") (fun t => parT (appI (idI "Up.s") #[t])) 22)⟩
    else if k == "zx" then return ⟨chainF (chainI (idI "StrsAre.nil") (fun t => parT (appI (idI "StrsAre.cons") #[holeI, holeI, t])) 13)⟩
    else if k == "sat" then return ⟨chainF (chainI (idI "Sat.z") (fun t => parT (appI (idI "Sat.s") #[t])) 3)⟩
    else if k == "ze" then return ⟨eqsI f 4⟩
    else if k == "zc" && txOf (w.getD 1 "") 3 != "" then return ⟨firstI (((txOf (w.getD 1 "") 3).splitOn " ").toArray.map fun c => altI f (rowOf ("con_" ++ c)))⟩
    else if n != "" then
      let v := txOf (w.getD 1 "") ((n.drop 3).toString.toNat!)
      if v == "" then Macro.throwUnsupported else return ⟨exNames (n.take 3).toString v⟩
    else Macro.throwUnsupported
set_option hygiene false in
local macro_rules | `(tactic| walk_at $k:str) => baseOf k

section
set_option maxHeartbeats 2000000
variable {w : World} {mg mb : Str → Option Value} {g : Heap} {A : Around} {s : Shared} {Q E : Value → Shared → Prop} {h : Heap} {tk n : Nat}

theorem cl_Pattern (w : World) : Cl w 68 [Str.ofString "node"] := ⟨by k_is, by k_is, by k_is, by k_is, by decide, by intro x hx; rw [List.mem_singleton.mp hx]; k_is⟩
noncomputable abbrev Pat (w : World) (h : Heap) (x dx : Addr) (t : Tok) (v : Value) : Prop := Ins h x 68 dx (dob w.params [Str.ofString "node"] [t] [v])
theorem Pat.in {w : World} {h B : Heap} {x dx : Addr} {t : Tok} {v : Value} {T : List Addr} (I : Pat w h x dx t v) (hB : Chg (T) h B) (n1 : x ∉ T) (n2 : dx ∉ T) : Pat w B x dx t v := ⟨hB _ _ I.inst n1, hB _ _ I.dict n2⟩
variable {x dx : Addr} {t : Tok} {v : Value}

theorem c_is_null (G : Gl w mg mb g) (hk : g.StaysIn h) (R : Rm A 1) (I : Pat w h x dx t v) (ret : ∀ h' tk', h.StaysIn h' → Q (.bool false) (St s h' tk')) : wpAny (model pg w) A (call (.ref 128) [.ref x]) Q E (St s h tk) := by
  refine enterR [] [some (.ref x)] G hk (by k_is) (by k_is) (by decide +kernel) R (BindsTo.of_eq (bind_plain rfl rfl rfl (by decide +kernel))) (by dsimp only; repeat (first | exact Bnd.nil | refine Bnd.cons ?_)) (fun p hp => nomatch hp) List.nodup_nil (by decide +kernel) ?_ (by rfl) (by rfl); intro B h L tk env A V G S hB hB' hL R; dsimp only at V S
  have I := I.in hB (fun q => nomatch q) (fun q => nomatch q)
  repeat' (walk_at "ms@1_1")
  exact ret _ _ (stay S hB)
theorem c_is_plain (G : Gl w mg mb g) (hk : g.StaysIn h) (R : Rm A 1) (I : Pat w h x dx t v) (ret : ∀ h' tk', h.StaysIn h' → Q (.bool false) (St s h' tk')) : wpAny (model pg w) A (call (.ref 135) [.ref x]) Q E (St s h tk) := by
  refine enterR [] [some (.ref x)] G hk (by k_is) (by k_is) (by decide +kernel) R (BindsTo.of_eq (bind_plain rfl rfl rfl (by decide +kernel))) (by dsimp only; repeat (first | exact Bnd.nil | refine Bnd.cons ?_)) (fun p hp => nomatch hp) List.nodup_nil (by decide +kernel) ?_ (by rfl) (by rfl); intro B h L tk env A V G S hB hB' hL R; dsimp only at V S
  have I := I.in hB (fun q => nomatch q) (fun q => nomatch q)
  repeat' (walk_at "ms@1_1")
  exact ret _ _ (stay S hB)
theorem c_is_delayed_str {k : Str} {u : Tok} (G : Gl w mg mb g) (hk : g.StaysIn h) (R : Rm A 1) (ret : ∀ h' tk', h.StaysIn h' → Q (.bool false) (St s h' tk')) : wpAny (model pg w) A (call (.ref 236) [.str k u]) Q E (St s h tk) := by
  refine enterR [] [some (.str k u)] G hk (by k_is) (by k_is) (by decide +kernel) R (BindsTo.of_eq (bind_plain rfl rfl rfl (by decide +kernel))) (by dsimp only; repeat (first | exact Bnd.nil | refine Bnd.cons ?_)) (fun p hp => nomatch hp) List.nodup_nil (by decide +kernel) ?_ (by rfl) (by rfl); intro B h L tk env A V G S hB hB' hL R; dsimp only at V S
  repeat' (walk_at "ms@1_1")
  exact ret _ _ (stay S hB)
theorem c_is_delayed_int {k : Int} {u : Tok} (G : Gl w mg mb g) (hk : g.StaysIn h) (R : Rm A 1) (ret : ∀ h' tk', h.StaysIn h' → Q (.bool false) (St s h' tk')) : wpAny (model pg w) A (call (.ref 236) [.int k u]) Q E (St s h tk) := by
  refine enterR [] [some (.int k u)] G hk (by k_is) (by k_is) (by decide +kernel) R (BindsTo.of_eq (bind_plain rfl rfl rfl (by decide +kernel))) (by dsimp only; repeat (first | exact Bnd.nil | refine Bnd.cons ?_)) (fun p hp => nomatch hp) List.nodup_nil (by decide +kernel) ?_ (by rfl) (by rfl); intro B h L tk env A V G S hB hB' hL R; dsimp only at V S
  repeat' (walk_at "ms@1_1")
  exact ret _ _ (stay S hB)
theorem c_either {v1 v2 : Value} (G : Gl w mg mb g) (hk : g.StaysIn h) (R : Rm A 1) (ret : ∀ a u h' tk', h.StaysIn h' → IsTup h' a [.str (Str.ofString "alt") u, v1, v2].toArray → Q (.ref a) (St s h' tk')) : wpAny (model pg w) A (call (.ref 222) [v1, v2]) Q E (St s h tk) := by
  refine enterR [] [some v1, some v2] G hk (by k_is) (by k_is) (by decide +kernel) R (BindsTo.of_eq (bind_plain rfl rfl rfl (by decide +kernel))) (by dsimp only; repeat (first | exact Bnd.nil | refine Bnd.cons ?_)) (fun p hp => nomatch hp) List.nodup_nil (by decide +kernel) ?_ (by rfl) (by rfl); intro B h L tk env A V G S hB hB' hL R; dsimp only at V S
  repeat' (walk_at "ms@1_1")
  exact ret a _ _ _ (stay S hB) (S.inF .z)
theorem c_pattern_of (G : Gl w mg mb g) (hk : g.StaysIn h) (R : Rm A 1) (I : Pat w h x dx t v) (hv : handedIn v = true) (ret : ∀ h' tk', h.StaysIn h' → Q v (St s h' tk')) : wpAny (model pg w) A (call (.ref 229) [.ref x]) Q E (St s h tk) := by
  refine enterR [] [some (.ref x)] G hk (by k_is) (by k_is) (by decide +kernel) R (BindsTo.of_eq (bind_plain rfl rfl rfl (by decide +kernel))) (by dsimp only; repeat (first | exact Bnd.nil | refine Bnd.cons ?_)) (fun p hp => nomatch hp) List.nodup_nil (by decide +kernel) ?_ (by rfl) (by rfl); intro B h L tk env A V G S hB hB' hL R; dsimp only at V S
  have I := I.in hB (fun q => nomatch q) (fun q => nomatch q)
  repeat' (walk_at "ms@1_1")
  exact ret _ _ (stay S hB)
theorem c_is_part (G : Gl w mg mb g) (hk : g.StaysIn h) (R : Rm A 2) (I : Pat w h x dx t v) (ret : ∀ h' tk', h.StaysIn h' → Q (.bool true) (St s h' tk')) : wpAny (model pg w) A (call (.ref 335) [.ref x]) Q E (St s h tk) := by
  refine enterR [] [some (.ref x)] G hk (by k_is) (by k_is) (by decide +kernel) R (BindsTo.of_eq (bind_plain rfl rfl rfl (by decide +kernel))) (by dsimp only; repeat (first | exact Bnd.nil | refine Bnd.cons ?_)) (fun p hp => nomatch hp) List.nodup_nil (by decide +kernel) ?_ (by rfl) (by rfl); intro B h L tk env A V G S hB hB' hL R; dsimp only at V S
  have I := I.in hB (fun q => nomatch q) (fun q => nomatch q)
  repeat' (walk_at "ms@1_2")
  exact ret _ _ (stay S hB)
theorem c_arbno_node (G : Gl w mg mb g) (hk : g.StaysIn h) (R : Rm A 2) (I : Pat w h x dx t v) (hv : handedIn v = true) (ret : ∀ a u h' tk', h.StaysIn h' → IsTup h' a [.str (Str.ofString "arbno") u, v].toArray → Q (.ref a) (St s h' tk')) : wpAny (model pg w) A (call (.ref 208) [.ref x]) Q E (St s h tk) := by
  refine enterR [] [some (.ref x)] G hk (by k_is) (by k_is) (by decide +kernel) R (BindsTo.of_eq (bind_plain rfl rfl rfl (by decide +kernel))) (by dsimp only; repeat (first | exact Bnd.nil | refine Bnd.cons ?_)) (fun p hp => nomatch hp) List.nodup_nil (by decide +kernel) ?_ (by rfl) (by rfl); intro B h L tk env A V G S hB hB' hL R; dsimp only at V S
  have I := I.in hB (fun q => nomatch q) (fun q => nomatch q)
  repeat' (walk_at "ms@1_2")
  exact ret a _ _ _ (stay S hB) (S.inF .z)
end
section
set_option maxHeartbeats 2000000
variable {w : World} {mg mb : Str → Option Value} {g : Heap} {A : Around} {s : Shared} {Q E : Value → Shared → Prop} {h : Heap} {tk n : Nat}

inductive Tr | rem | fail | len (i : Int) | chars (x : Str) | any (x : Str) | brk (x : Str) | arb (a : Tr) | lat (a : Tr) (r : Addr) | alt (a b : Tr) | cat (a b : Tr)
noncomputable def Tr.fold {α : Type} (e : Tr → α) (f : α → α) (g k : α → α → α) (T : Tr) : α :=
  Tr.rec (e .rem) (e .fail) (fun i => e (.len i)) (fun x => e (.chars x)) (fun x => e (.any x)) (fun x => e (.brk x)) (fun _ => f) (fun _ _ => f) (fun _ _ => g) (fun _ _ => k) T
section
variable (h : Heap) (k : Str) (v : Value)
inductive At0 : Prop | mk (a : Addr) (t : Tok) : v = .ref a → IsTup h a [.str k t].toArray → At0
inductive AtI (i : Int) : Prop | mk (a : Addr) (t u : Tok) : v = .ref a → IsTup h a [.str k t, .int i u].toArray → AtI i
inductive AtS (x : Str) : Prop | mk (a : Addr) (t u : Tok) : v = .ref a → IsTup h a [.str k t, .str x u].toArray → AtS x
inductive AtA (P : Value → Prop) : Prop | mk (a : Addr) (t : Tok) (u : Value) : v = .ref a → IsTup h a [.str k t, u].toArray → P u → AtA P
inductive AtL (r : Addr) (P : Value → Prop) : Prop | mk (a : Addr) (t : Tok) (u : Value) : v = .ref a → IsTup h a [.str k t, u, .ref r].toArray → P u → AtL r P
inductive At2 (P R : Value → Prop) : Prop | mk (a : Addr) (t : Tok) (u x : Value) : v = .ref a → IsTup h a [.str k t, u, x].toArray → P u → R x → At2 P R
end
noncomputable def IsTr (h : Heap) : Value → Tr → Prop
  | v, .rem => At0 h (Str.ofString "rem") v
  | v, .fail => At0 h (Str.ofString "fail") v
  | v, .len i => AtI h (Str.ofString "len") v i
  | v, .chars x => AtS h (Str.ofString "chars") v x
  | v, .any x => AtS h (Str.ofString "any") v x
  | v, .brk x => AtS h (Str.ofString "break") v x
  | v, .arb T => AtA h (Str.ofString "arbno") v (fun u => IsTr h u T)
  | v, .lat T r => AtL h (Str.ofString "later") v r (fun u => IsTr h u T)
  | v, .alt T U => At2 h (Str.ofString "alt") v (fun u => IsTr h u T) (fun u => IsTr h u U)
  | v, .cat T U => At2 h (Str.ofString "cat") v (fun u => IsTr h u T) (fun u => IsTr h u U)
noncomputable def Tr.kind (T : Tr) : Str := T.casesOn (Str.ofString "rem") (Str.ofString "fail") (fun _ => Str.ofString "len") (fun _ => Str.ofString "chars") (fun _ => Str.ofString "any") (fun _ => Str.ofString "break") (fun _ => Str.ofString "arbno") (fun _ _ => Str.ofString "later") (fun _ _ => Str.ofString "alt") (fun _ _ => Str.ofString "cat")
section
variable {h : Heap} {k : Str} {v : Value} {P : Prop}
theorem At0.out (I : At0 h k v) (f : ∀ a t, v = .ref a → IsTup h a [.str k t].toArray → P) : P := At0.casesOn I f
theorem AtI.out {i : Int} (I : AtI h k v i) (f : ∀ a t u, v = .ref a → IsTup h a [.str k t, .int i u].toArray → P) : P := AtI.casesOn I f
theorem AtS.out {x : Str} (I : AtS h k v x) (f : ∀ a t u, v = .ref a → IsTup h a [.str k t, .str x u].toArray → P) : P := AtS.casesOn I f
theorem AtA.out {R : Value → Prop} (I : AtA h k v R) (f : ∀ a t u, v = .ref a → IsTup h a [.str k t, u].toArray → R u → P) : P := AtA.casesOn I f
theorem AtL.out {r : Addr} {R : Value → Prop} (I : AtL h k v r R) (f : ∀ a t u, v = .ref a → IsTup h a [.str k t, u, .ref r].toArray → R u → P) : P := AtL.casesOn I f
theorem At2.out {R S : Value → Prop} (I : At2 h k v R S) (f : ∀ a t u x, v = .ref a → IsTup h a [.str k t, u, x].toArray → R u → S x → P) : P := At2.casesOn I f
end
theorem IsTr.keep {h h' : Heap} (k : Tk h h') {T : Tr} : ∀ {v : Value}, IsTr h v T → IsTr h' v T := by
  induction T with
  | arb T ih => exact fun I => AtA.out I fun a t u e i j => ⟨a, t, u, e, k.tup i, ih j⟩
  | lat T r ih => exact fun I => AtL.out I fun a t u e i j => ⟨a, t, u, e, k.tup i, ih j⟩
  | alt T U ih jh => exact fun I => At2.out I fun a t u x e i j l => ⟨a, t, u, x, e, k.tup i, ih j, jh l⟩
  | cat T U ih jh => exact fun I => At2.out I fun a t u x e i j l => ⟨a, t, u, x, e, k.tup i, ih j, jh l⟩
  | rem => exact fun I => At0.out I fun a t e i => ⟨a, t, e, k.tup i⟩
  | fail => exact fun I => At0.out I fun a t e i => ⟨a, t, e, k.tup i⟩
  | len _ => exact fun I => AtI.out I fun a t u e i => ⟨a, t, u, e, k.tup i⟩
  | _ => exact fun I => AtS.out I fun a t u e i => ⟨a, t, u, e, k.tup i⟩
theorem IsTr.head {h : Heap} {T : Tr} {v : Value} {P : Prop} (I : IsTr h v T) (f : ∀ a t l, v = .ref a → IsTup h a (List.toArray (.str T.kind t :: l)) → P) : P := by
  cases T with
  | arb T => exact AtA.out I fun a t u e i _ => f a t _ e i
  | lat T r => exact AtL.out I fun a t u e i _ => f a t _ e i
  | alt T U => exact At2.out I fun a t u x e i _ _ => f a t _ e i
  | cat T U => exact At2.out I fun a t u x e i _ _ => f a t _ e i
  | rem => exact At0.out I fun a t e i => f a t _ e i
  | fail => exact At0.out I fun a t e i => f a t _ e i
  | len _ => exact AtI.out I fun a t u e i => f a t _ e i
  | _ => exact AtS.out I fun a t u e i => f a t _ e i
theorem IsTr.ref {h : Heap} {T : Tr} {v : Value} (I : IsTr h v T) : ∃ a, v = .ref a := I.head fun a _ _ e _ => ⟨a, e⟩
section
variable {h : Heap} {k : Str} {v : Value} {a : Addr} {P : Prop}
theorem At0.el (I : At0 h k (.ref a)) (f : ∀ t, IsTup h a [.str k t].toArray → P) : P := At0.out I fun _ t e i => f t (by cases e; exact i)
theorem AtI.el {i : Int} (I : AtI h k (.ref a) i) (f : ∀ t u, IsTup h a [.str k t, .int i u].toArray → P) : P := AtI.out I fun _ t u e i => f t u (by cases e; exact i)
theorem AtS.el {x : Str} (I : AtS h k (.ref a) x) (f : ∀ t u, IsTup h a [.str k t, .str x u].toArray → P) : P := AtS.out I fun _ t u e i => f t u (by cases e; exact i)
theorem At2.el {R S : Value → Prop} (I : At2 h k (.ref a) R S) (f : ∀ t u x, IsTup h a [.str k t, u, x].toArray → R u → S x → P) : P := At2.out I fun _ t u x e i j l => f t u x (by cases e; exact i) j l
theorem IsTr.arb {T : Tr} (I : IsTr h (.ref a) (.arb T)) (f : ∀ t u, IsTup h a [.str (Str.ofString "arbno") t, u].toArray → IsTr h u T → P) : P := AtA.out I fun _ t u e i j => f t u (by cases e; exact i) j
theorem IsTr.lat {T : Tr} {r : Addr} (I : IsTr h (.ref a) (.lat T r)) (f : ∀ t u, IsTup h a [.str (Str.ofString "later") t, u, .ref r].toArray → IsTr h u T → P) : P := AtL.out I fun _ t u e i j => f t u (by cases e; exact i) j
theorem IsTr.alt {T U : Tr} (I : IsTr h (.ref a) (.alt T U)) (f : ∀ t u x, IsTup h a [.str (Str.ofString "alt") t, u, x].toArray → IsTr h u T → IsTr h x U → P) : P := At2.el I f
theorem IsTr.cat {T U : Tr} (I : IsTr h (.ref a) (.cat T U)) (f : ∀ t u x, IsTup h a [.str (Str.ofString "cat") t, u, x].toArray → IsTr h u T → IsTr h x U → P) : P := At2.el I f
theorem IsTr.at {T : Tr} (I : IsTr h (.ref a) T) (f : ∀ t l, IsTup h a (List.toArray (.str T.kind t :: l)) → P) : P := I.head fun _ t l e i => f t l (by cases e; exact i)
end
noncomputable def trF (v : Value) (T : Tr) : Fact := ⟨fun h => IsTr h v T, fun _ _ k t => t.keep k⟩
noncomputable def Tr.kids (T : Tr) : List Tr := T.casesOn [] [] (fun _ => []) (fun _ => []) (fun _ => []) (fun _ => []) (fun a => [a]) (fun a _ => [a]) (fun a b => [a, b]) (fun a b => [a, b])
inductive Ks (h : Heap) : List Value → List Tr → Prop
  | nil : Ks h [] []
  | cons {v T l ts} : IsTr h v T → Ks h l ts → Ks h (v :: l) (T :: ts)
theorem tk_base {h B : Heap} {T : List Addr} (hB : Chg (T) h B) (hT : ∀ a ∈ T, ∀ o, h.get? a = some o → ¬ Tup o) : Tk h B := fun a o e t => hB a o e fun m => hT a m o e t
theorem mem_cons' {α : Type _} {P : α → Prop} {a : α} {l : List α} (ha : P a) (hl : ∀ p ∈ l, P p) : ∀ p ∈ a :: l, P p := fun _ m => (List.mem_cons.mp m).elim (fun e => e ▸ ha) (hl _)
theorem tk_led {h B g : Heap} {led : List (Addr × Obj)} (hB : Chg (led.map (·.1)) h B) (hled : ∀ p ∈ led, h.get? p.1 = some p.2 ∧ g.get? p.1 = none) (nt : ∀ p ∈ led, ¬ Tup p.2) : Tk h B := tk_base hB fun a m o e => by
  obtain ⟨p, hp, rfl⟩ := List.mem_map.mp m
  rw [(hled p hp).1] at e; cases e; exact nt p hp
theorem nd_one {p : Addr × Obj} : ([p].map (·.1)).Nodup := List.nodup_cons.mpr ⟨(fun q => nomatch q), List.nodup_nil⟩
theorem nd_two {p q : Addr × Obj} (n : p.1 ≠ q.1) : ([p, q].map (·.1)).Nodup := List.nodup_cons.mpr ⟨fun m => n (List.mem_singleton.mp m), nd_one⟩
theorem list_base {h B : Heap} {X : List Addr} {li : Addr} {l : Array Value} (hB : Chg (X) h B) (hl : h.IsList li l) (n : li ∉ X) : B.IsList li l := (fun ⟨o, e, r⟩ => ⟨o, hB _ _ e n, r⟩) hl
theorem not_two {a x : Addr} {l : List Addr} (h : a ≠ x ∧ a ∉ l) : a ∉ x :: l := fun m => (List.mem_cons.mp m).elim h.1 h.2
theorem not_one {a x : Addr} (h : a ≠ x) : a ∉ [x] := fun m => h (List.mem_singleton.mp m)
theorem tk_base0 {h B : Heap} (hB : Chg ((([] : List (Addr × Obj)).map (·.1))) h B) : Tk h B := tk_base hB (fun a m => nomatch m)
theorem tk_of {h B : Heap} {L : Addr} {ns vs news fs} (S : Sx B L h ns vs news fs) : Tk B h := fun a o e _ => S.F.keep a o e

noncomputable def Tr.leaf (T : Tr) : Bool := T.fold (fun _ => true) (fun _ => false) (fun _ _ => false) (fun _ _ => false)
theorem Tr.leaf_two {T : Tr} (c : T.leaf = true) : ([Str.ofString "cat", Str.ofString "alt"].any fun x => x == T.kind) = false := by cases T <;> first | (cases c; done) | exact of_decide_eq_true rfl
theorem Tr.leaf_one {T : Tr} (c : T.leaf = true) : ([Str.ofString "arbno", Str.ofString "later", Str.ofString "now"].any fun x => x == T.kind) = false := by cases T <;> first | (cases c; done) | exact of_decide_eq_true rfl
theorem Tr.leaf_kids {h : Heap} {T : Tr} (c : T.leaf = true) : Ks h [] T.kids := by cases T <;> first | (cases c; done) | exact .nil
theorem c_parts_of {T : Tr} {v : Value} (G : Gl w mg mb g) (hk : g.StaysIn h) (R : Rm A 1) (I : IsTr h v T) (ret : ∀ a l h' tk', h.StaysIn h' → h.get? a = none → h'.get? a = some (listOf l.toArray 0) → l.length ≤ 2 → Ks h' l T.kids → Q (.ref a) (St s h' tk')) : wpAny (model pg w) A (call (.ref 250) [v]) Q E (St s h tk) := by
  obtain ⟨b, rfl⟩ := I.ref
  refine enterR [] [some (.ref b)] G hk (by k_is) (by k_is) (by decide +kernel) R (BindsTo.of_eq (bind_plain rfl rfl rfl (by decide +kernel))) (by dsimp only; repeat (first | exact Bnd.nil | refine Bnd.cons ?_)) (fun p hp => nomatch hp) List.nodup_nil (by decide +kernel) ?_ (by rfl) (by rfl); intro B h L tk env A V G S hB hB' hL R; dsimp only at V S
  have I := I.keep (tk_base0 hB)
  by_cases c : T.leaf = true
  · refine I.at fun t l i => ?_
    repeat' (walk_at "ms@2_1")
    refine it_is (y := false) (Tr.leaf_two c) (it_f ?_)
    repeat' (walk_at "ms@2_1")
    refine it_is (y := false) (Tr.leaf_one c) (it_f ?_)
    repeat' (walk_at "ms@2_1")
    exact ret a [] _ _ (stay S hB) (fresh S hB .z).1 (fresh S hB .z).2 (Nat.le_of_ble_eq_true rfl) (Tr.leaf_kids c)
  cases T with
  | arb =>
    refine I.arb fun t u i j => ?_
    repeat' (walk_at "ms@2_1")
    exact ret a [u] _ _ (stay S hB) (fresh S hB .z).1 (fresh S hB .z).2 (Nat.le_of_ble_eq_true rfl) (.cons (j.keep (tk_of S)) .nil)
  | lat =>
    refine I.lat fun t u i j => ?_
    repeat' (walk_at "ms@2_1")
    exact ret a [u] _ _ (stay S hB) (fresh S hB .z).1 (fresh S hB .z).2 (Nat.le_of_ble_eq_true rfl) (.cons (j.keep (tk_of S)) .nil)
  | alt =>
    refine I.alt fun t u x i j l => ?_
    repeat' (walk_at "ms@2_1")
    exact ret a [u, x] _ _ (stay S hB) (fresh S hB .z).1 (fresh S hB .z).2 (Nat.le_of_ble_eq_true rfl) (.cons (j.keep (tk_of S)) (.cons (l.keep (tk_of S)) .nil))
  | cat =>
    refine I.cat fun t u x i j l => ?_
    repeat' (walk_at "ms@2_1")
    exact ret a [u, x] _ _ (stay S hB) (fresh S hB .z).1 (fresh S hB .z).2 (Nat.le_of_ble_eq_true rfl) (.cons (j.keep (tk_of S)) (.cons (l.keep (tk_of S)) .nil))
  | _ => exact absurd rfl c
end
section
set_option maxHeartbeats 2000000
variable {w : World} {mg mb : Str → Option Value} {g : Heap} {A : Around} {s : Shared} {Q E : Value → Shared → Prop} {h : Heap} {tk n : Nat}

noncomputable def OInt (o : Option Int) (r : Value) : Prop := match o with | some i => ∃ t, r = .int i t | none => r = .none
theorem q_of {Q : Value → Shared → Prop} {b b' : Bool} {s : Shared} (e : b = b') (k : Q (.bool b') s) : Q (.bool b) s := e ▸ k
theorem it_dt {p : Prop} [Decidable p] {a b : Prop} (hp : p) (h : a) : if decide p = true then a else b := by rw [if_pos (decide_eq_true hp)]; exact h
theorem it_df {p : Prop} [Decidable p] {a b : Prop} (hp : ¬ p) (h : b) : if decide p = true then a else b := by rw [if_neg (by simpa using hp)]; exact h
variable {x y : Str} {i m : Int} {t u v1 v2 : Tok}
theorem c_len_end (G : Gl w mg mb g) (hk : g.StaysIn h) (R : Rm A 1) (hx : x.length < 2 ^ 20) (ret : ∀ r h' tk', h.StaysIn h' → OInt (if i + m ≤ x.length then some (i + m) else none) r → Q r (St s h' tk')) : wpAny (model pg w) A (call (.ref 449) [.str x t, .int i u, .int m v1]) Q E (St s h tk) := by
  refine enterR [] [some (.str x t), some (.int i u), some (.int m v1)] G hk (by k_is) (by k_is) (by decide +kernel) R (BindsTo.of_eq (bind_plain rfl rfl rfl (by decide +kernel))) (by dsimp only; repeat (first | exact Bnd.nil | refine Bnd.cons ?_)) (fun p hp => nomatch hp) List.nodup_nil (by decide +kernel) ?_ (by rfl) (by rfl); intro B h L tk env A V G S hB hB' hL R; dsimp only at V S
  repeat' (walk_at "ms@3_1")
  by_cases c : i + m ≤ x.length
  · refine it_dt c ?_
    repeat' (walk_at "ms@3_1")
    exact ret _ _ _ (stay S hB) (by rw [if_pos c]; exact ⟨_, rfl⟩)
  · refine it_df c ?_
    repeat' (walk_at "ms@3_1")
    exact ret _ _ _ (stay S hB) (by rw [if_neg c]; exact rfl)
theorem c_rem_end (G : Gl w mg mb g) (hk : g.StaysIn h) (R : Rm A 1) (hx : x.length < 2 ^ 20) (ret : ∀ t h' tk', h.StaysIn h' → Q (.int x.length t) (St s h' tk')) : wpAny (model pg w) A (call (.ref 484) [.str x t]) Q E (St s h tk) := by
  refine enterR [] [some (.str x t)] G hk (by k_is) (by k_is) (by decide +kernel) R (BindsTo.of_eq (bind_plain rfl rfl rfl (by decide +kernel))) (by dsimp only; repeat (first | exact Bnd.nil | refine Bnd.cons ?_)) (fun p hp => nomatch hp) List.nodup_nil (by decide +kernel) ?_ (by rfl) (by rfl); intro B h L tk env A V G S hB hB' hL R; dsimp only at V S
  repeat' (walk_at "ms@3_1")
  exact ret _ _ _ (stay S hB)
theorem c_chars_end (G : Gl w mg mb g) (hk : g.StaysIn h) (R : Rm A 1) (hx : x.length < 2 ^ 20) (hy : y.length < 2 ^ 20) (ret : ∀ r h' tk', h.StaysIn h' → OInt (if (Txt.slice x (some i) (some (i + y.length)) == y) = true then some (i + y.length) else none) r → Q r (St s h' tk')) : wpAny (model pg w) A (call (.ref 442) [.str x t, .int i u, .str y v1]) Q E (St s h tk) := by
  refine enterR [] [some (.str x t), some (.int i u), some (.str y v1)] G hk (by k_is) (by k_is) (by decide +kernel) R (BindsTo.of_eq (bind_plain rfl rfl rfl (by decide +kernel))) (by dsimp only; repeat (first | exact Bnd.nil | refine Bnd.cons ?_)) (fun p hp => nomatch hp) List.nodup_nil (by decide +kernel) ?_ (by rfl) (by rfl); intro B h L tk env A V G S hB hB' hL R; dsimp only at V S
  repeat' (walk_at "ms@3_1")
  by_cases c : (Txt.slice x (some i) (some (i + y.length)) == y) = true
  · refine ite_tt c ?_
    repeat' (walk_at "ms@3_1")
    exact ret _ _ _ (stay S hB) (by rw [if_pos c]; exact ⟨_, rfl⟩)
  · refine ite_ff c ?_
    repeat' (walk_at "ms@3_1")
    exact ret _ _ _ (stay S hB) (by rw [if_neg c]; exact rfl)
theorem c_any_at (G : Gl w mg mb g) (hk : g.StaysIn h) (R : Rm A 1) (hx : x.length < 2 ^ 20) (hy : y.length < 2 ^ 20) (h0 : 0 ≤ i) (ret : ∀ r h' tk', h.StaysIn h' → OInt (if i < x.length ∧ (!(Builtin.Str.occurrences y (Txt.item x i) 0 y.length 1).isEmpty) = true then some (i + 1) else none) r → Q r (St s h' tk')) : wpAny (model pg w) A (call (.ref 491) [.str x t, .int i u, .str y v1]) Q E (St s h tk) := by
  refine enterR [] [some (.str x t), some (.int i u), some (.str y v1)] G hk (by k_is) (by k_is) (by decide +kernel) R (BindsTo.of_eq (bind_plain rfl rfl rfl (by decide +kernel))) (by dsimp only; repeat (first | exact Bnd.nil | refine Bnd.cons ?_)) (fun p hp => nomatch hp) List.nodup_nil (by decide +kernel) ?_ (by rfl) (by rfl); intro B h L tk env A V G S hB hB' hL R; dsimp only at V S
  repeat' (walk_at "ms@3_1")
  by_cases c : i < x.length
  · refine it_dt c ?_
    repeat' (walk_at "ms@3_1")
    by_cases c2 : (!(Builtin.Str.occurrences y (Txt.item x i) 0 y.length 1).isEmpty) = true
    · refine ite_tt c2 ?_
      repeat' (walk_at "ms@3_1")
      exact ret _ _ _ (stay S hB) (by rw [if_pos ⟨c, c2⟩]; exact ⟨_, rfl⟩)
    · refine ite_ff c2 ?_
      repeat' (walk_at "ms@3_1")
      exact ret _ _ _ (stay S hB) (by rw [if_neg (fun q => c2 q.2)]; exact rfl)
  · refine it_df c ?_
    repeat' (walk_at "ms@3_1")
    exact ret _ _ _ (stay S hB) (by rw [if_neg (fun q => c q.1)]; exact rfl)
theorem c_is_null_node {T : Tr} {v : Value} (G : Gl w mg mb g) (hk : g.StaysIn h) (R : Rm A 1) (I : IsTr h v T) (hT : ∀ x, T = .chars x → (x == Str.ofString "") = false) (ret : ∀ h' tk', h.StaysIn h' → Q (.bool false) (St s h' tk')) : wpAny (model pg w) A (call (.ref 187) [v]) Q E (St s h tk) := by
  obtain ⟨b, rfl⟩ := I.ref
  refine enterR [] [some (.ref b)] G hk (by k_is) (by k_is) (by decide +kernel) R (BindsTo.of_eq (bind_plain rfl rfl rfl (by decide +kernel))) (by dsimp only; repeat (first | exact Bnd.nil | refine Bnd.cons ?_)) (fun p hp => nomatch hp) List.nodup_nil (by decide +kernel) ?_ (by rfl) (by rfl); intro B h L tk env A V G S hB hB' hL R; dsimp only at V S
  have I := I.keep (tk_base0 hB)
  cases T with
  | rem =>
    refine At0.el I fun t i => ?_
    repeat' (walk_at "ms@3_1")
    exact q_of (b' := false) (by decide) (ret _ _ (stay S hB))
  | fail =>
    refine At0.el I fun t i => ?_
    repeat' (walk_at "ms@3_1")
    exact q_of (b' := false) (by decide) (ret _ _ (stay S hB))
  | len =>
    refine AtI.el I fun t u i => ?_
    repeat' (walk_at "ms@3_1")
    exact q_of (b' := false) (by decide) (ret _ _ (stay S hB))
  | chars x =>
    refine AtS.el I fun t u i => ?_
    repeat' (walk_at "ms@3_1")
    exact q_of (by rw [hT x rfl]; rfl) (ret _ _ (stay S hB))
  | any x =>
    refine AtS.el I fun t u i => ?_
    repeat' (walk_at "ms@3_1")
    exact q_of (by rw [show (Str.ofString "any" == Str.ofString "chars") = false by decide]; rfl) (ret _ _ (stay S hB))
  | brk x =>
    refine AtS.el I fun t u i => ?_
    repeat' (walk_at "ms@3_1")
    exact q_of (by rw [show (Str.ofString "break" == Str.ofString "chars") = false by decide]; rfl) (ret _ _ (stay S hB))
  | arb =>
    refine I.arb fun t u i j => ?_
    obtain ⟨c, rfl⟩ := j.ref
    refine j.at fun t2 l j2 => ?_
    repeat' (walk_at "ms@3_1")
    exact q_of (b' := false) (by decide) (ret _ _ (stay S hB))
  | lat =>
    refine I.lat fun t u i j => ?_
    obtain ⟨c, rfl⟩ := j.ref
    refine j.at fun t2 l j2 => ?_
    repeat' (walk_at "ms@3_1")
    exact q_of (b' := false) (by decide) (ret _ _ (stay S hB))
  | alt =>
    refine I.alt fun t u x i j l => ?_
    obtain ⟨c, rfl⟩ := j.ref
    refine j.at fun t2 l j2 => ?_
    repeat' (walk_at "ms@3_1")
    exact q_of (b' := false) (by decide) (ret _ _ (stay S hB))
  | cat =>
    refine I.cat fun t u x i j l => ?_
    obtain ⟨c, rfl⟩ := j.ref
    refine j.at fun t2 l j2 => ?_
    repeat' (walk_at "ms@3_1")
    exact q_of (b' := false) (by decide) (ret _ _ (stay S hB))
end
section
set_option maxHeartbeats 2000000
variable {w : World} {mg mb : Str → Option Value} {g : Heap} {A : Around} {s : Shared} {Q E : Value → Shared → Prop} {h : Heap} {tk n : Nat}

noncomputable def Tr.txt (T : Tr) : Option Str := T.casesOn none none (fun _ => none) some (fun _ => none) (fun _ => none) (fun _ => none) (fun _ _ => none) (fun _ _ => none) (fun _ _ => none)
noncomputable def Tr.isChars (T : Tr) : Bool := T.txt.isSome
theorem Tr.kind_chars (T : Tr) : (T.kind == Str.ofString "chars") = T.isChars := by cases T <;> first | (show (Str.ofString _ == Str.ofString "chars") = false; decide) | (show (Str.ofString _ == Str.ofString "chars") = true; decide)
noncomputable def Nn (T : Tr) : Prop := ∀ x, T = .chars x → (x == Str.ofString "") = false
noncomputable def joinO {α : Sort u} (f : Str → Str → α) (d : α) : Option Str → Option Str → α
  | some x, some y => f x y
  | _, _ => d
theorem joinO_ne {α : Sort u} {f : Str → Str → α} {d : α} : ∀ {a b : Option Str}, (a.isSome && b.isSome) = false → joinO f d a b = d
  | none, _, _ => rfl
  | some _, none, _ => rfl
theorem joinO_map {α : Sort u} {f : Str → Str → Prop} {d : Prop} {f' : Str → Str → α} {d' : α} {P : α → Prop} (k1 : ∀ x y, f x y → P (f' x y)) (k2 : d → P d') : ∀ a b : Option Str, joinO f d a b → P (joinO f' d' a b)
  | none, _ => k2
  | some _, none => k2
  | some _, some _ => k1 _ _
theorem Tr.txt_eq (T : Tr) {x : Str} (c : T.txt = some x) : T = .chars x := by cases T <;> cases c; rfl
theorem Tr.txt_kind (T : Tr) (c : T.txt = none) : (T.kind == Str.ofString "chars") = false := by
  rw [T.kind_chars]; cases T <;> first | rfl | cases c
theorem Tr.txt_some (T : Tr) : T.txt.isSome = T.isChars := by cases T <;> rfl
inductive CatOf (h : Heap) (v1 v2 r : Value) : Prop | mk (a : Addr) (t : Tok) : r = .ref a → IsTup h a [.str (Str.ofString "cat") t, v1, v2].toArray → CatOf h v1 v2 r
noncomputable def Joined (h : Heap) (v1 v2 : Value) (T U : Tr) (r : Value) : Prop := joinO (fun x y => AtS h (Str.ofString "chars") r (x ++ y)) (CatOf h v1 v2 r) T.txt U.txt
theorem Joined.cat {h : Heap} {v1 v2 : Value} {T U : Tr} {a : Addr} {t : Tok} (c : (T.isChars && U.isChars) = false) (i : IsTup h a [.str (Str.ofString "cat") t, v1, v2].toArray) : Joined h v1 v2 T U (.ref a) := by
  rw [← T.txt_some, ← U.txt_some] at c
  unfold Joined; rw [joinO_ne c]; exact ⟨a, t, rfl, i⟩
theorem Joined.ne {h : Heap} {v1 v2 r : Value} {T U : Tr} (c : (T.isChars && U.isChars) = false) (J : Joined h v1 v2 T U r) : CatOf h v1 v2 r := by
  rw [← T.txt_some, ← U.txt_some] at c
  unfold Joined at J; rw [joinO_ne c] at J; exact J
theorem c_joined {T U : Tr} {v1 v2 : Value} (G : Gl w mg mb g) (hk : g.StaysIn h) (R : Rm A 2) (I : IsTr h v1 T) (J : IsTr h v2 U) (hT : Nn T) (hU : Nn U) (hsz : ∀ x y, T = .chars x → U = .chars y → x.length + y.length ≤ sizeLine)
   (ret : ∀ r h' tk', h.StaysIn h' → Joined h' v1 v2 T U r → Q r (St s h' tk')) : wpAny (model pg w) A (call (.ref 215) [v1, v2]) Q E (St s h tk) := by
  obtain ⟨a, rfl⟩ := I.ref
  obtain ⟨a2, rfl⟩ := J.ref
  refine enterR [] [some (.ref a), some (.ref a2)] G hk (by k_is) (by k_is) (by decide +kernel) R (BindsTo.of_eq (bind_plain rfl rfl rfl (by decide +kernel))) (by dsimp only; repeat (first | exact Bnd.nil | refine Bnd.cons ?_)) (fun p hp => nomatch hp) List.nodup_nil (by decide +kernel) ?_ (by rfl) (by rfl); intro B h L tk env A V G S hB hB' hL R; dsimp only at V S
  have I := I.keep (tk_base0 hB)
  have J := J.keep (tk_base0 hB)
  cases c1 : T.txt with
  | some x =>
    have eT := T.txt_eq c1
    refine AtS.el (show IsTr B (.ref a) (.chars x) from eT ▸ I) fun t u i => ?_
    cases c2 : U.txt with
    | some y =>
      have eU := U.txt_eq c2
      refine AtS.el (show IsTr B (.ref a2) (.chars y) from eU ▸ J) fun t2 u2 i2 => ?_
      have hz := hsz x y eT eU
      repeat' (walk_at "ms@4_1")
      exact ret _ _ _ (stay S hB) (by unfold Joined; rw [c1, c2]; exact ⟨_, _, _, rfl, S.inF .z⟩)
    | none =>
      refine J.at fun t2 l2 i2 => ?_
      have hk2 := U.txt_kind c2
      repeat' (walk_at "ms@4_1")
      exact ret _ _ _ (stay S hB) (Joined.cat (by rw [← T.txt_some, ← U.txt_some, c1, c2]; rfl) (S.inF .z))
  | none =>
    refine I.at fun t l i => ?_
    have hk1 := T.txt_kind c1
    repeat' (walk_at "ms@4_1")
    exact ret _ _ _ (stay S hB) (Joined.cat (by rw [← T.txt_some, c1]; rfl) (S.inF .z))

noncomputable def okLf (T : Tr) : Prop := T.casesOn True False (fun _ => True) (fun y => y.length < 2 ^ 20) (fun y => y.length < 2 ^ 20) (fun _ => False) (fun _ => False) (fun _ _ => False) (fun _ _ => False) (fun _ _ => False)
inductive PlR (h : Heap) (v : Value) : Prop | mk (a : Addr) (t : Tok) (l : List Value) : v = .ref a → IsTup h a (List.toArray (.str (Str.ofString "rem") t :: l)) → PlR h v
noncomputable def Pl (h : Heap) (v : Value) : Tr → Prop
  | .rem => PlR h v
  | T => IsTr h v T
noncomputable def endOf (x : Str) (i : Int) (T : Tr) : Option Int := T.casesOn (some x.length) none (fun m => if i + m ≤ x.length then some (i + m) else none) (fun y => if (Txt.slice x (some i) (some (i + y.length)) == y) = true then some (i + y.length) else none)
  (fun y => if i < x.length ∧ (!(Builtin.Str.occurrences y (Txt.item x i) 0 y.length 1).isEmpty) = true then some (i + 1) else none) (fun _ => none) (fun _ => none) (fun _ _ => none) (fun _ _ => none) (fun _ _ => none)
theorem IsTr.pl {h : Heap} {v : Value} {T : Tr} (I : IsTr h v T) : Pl h v T := by
  cases T with
  | rem => exact (fun ⟨a, t, e, i⟩ => ⟨a, t, _, e, i⟩) I
  | _ => exact I
theorem Pl.keep {h h' : Heap} (k : Tk h h') {v : Value} {T : Tr} (I : Pl h v T) : Pl h' v T := by
  cases T with
  | rem => exact (fun ⟨a, t, l, e, i⟩ => ⟨a, t, l, e, k.tup i⟩) I
  | _ => exact IsTr.keep k I
theorem Pl.ref {h : Heap} {v : Value} {T : Tr} (I : Pl h v T) : ∃ a, v = .ref a := by
  cases T with
  | rem => exact (fun ⟨a, t, l, e, i⟩ => ⟨a, e⟩) I
  | _ => exact IsTr.ref I
theorem PlR.el {h : Heap} {a : Addr} {P : Prop} (I : PlR h (.ref a)) (f : ∀ t l, IsTup h a (List.toArray (.str (Str.ofString "rem") t :: l)) → P) : P := (fun ⟨_, t, l, e, i⟩ => f t l (by cases e; exact i)) I
theorem c_settled {T : Tr} {v hv : Value} (G : Gl w mg mb g) (hk : g.StaysIn h) (R : Rm A 2) (I : IsTr h v T) (ok : okLf T) (ret : ∀ h' tk', h.StaysIn h' → Q v (St s h' tk')) : wpAny (model pg w) A (call (.ref 243) [v, hv]) Q E (St s h tk) := by
  obtain ⟨b, rfl⟩ := I.ref
  refine enterR [] [some (.ref b), some hv] G hk (by k_is) (by k_is) (by decide +kernel) R (BindsTo.of_eq (bind_plain rfl rfl rfl (by decide +kernel))) (by dsimp only; repeat (first | exact Bnd.nil | refine Bnd.cons ?_)) (fun p hp => nomatch hp) List.nodup_nil (by decide +kernel) ?_ (by rfl) (by rfl); intro B h L tk env A V G S hB hB' hL R; dsimp only at V S
  have I := I.keep (tk_base0 hB)
  cases T with
  | rem =>
    refine At0.el I fun t i => ?_
    repeat' (walk_at "ms@4_1")
    exact ret _ _ (stay S hB)
  | len =>
    refine AtI.el I fun t u i => ?_
    repeat' (walk_at "ms@4_1")
    exact ret _ _ (stay S hB)
  | chars =>
    refine AtS.el I fun t u i => ?_
    repeat' (walk_at "ms@4_1")
    exact ret _ _ (stay S hB)
  | any =>
    refine AtS.el I fun t u i => ?_
    repeat' (walk_at "ms@4_1")
    exact ret _ _ (stay S hB)
  | _ => exact ok.elim
variable {x y : Str} {i m : Int} {t u v1 v2 : Tok}
theorem c_one_len (G : Gl w mg mb g) (hk : g.StaysIn h) (R : Rm A 2) (hx : x.length < 2 ^ 20) (h0 : 0 ≤ i) (ret : ∀ r h' tk', h.StaysIn h' → OInt (endOf x i (.len m)) r → Q r (St s h' tk')) : wpAny (model pg w) A (call (.ref 547) [.str (Str.ofString "len") v2, .str x t, .int i u, .int m v1]) Q E (St s h tk) := by
  refine enterR [] [some (.str (Str.ofString "len") v2), some (.str x t), some (.int i u), some (.int m v1)] G hk (by k_is) (by k_is) (by decide +kernel) R (BindsTo.of_eq (bind_plain rfl rfl rfl (by decide +kernel))) (by dsimp only; repeat (first | exact Bnd.nil | refine Bnd.cons ?_)) (fun p hp => nomatch hp) List.nodup_nil (by decide +kernel) ?_ (by rfl) (by rfl); intro B h L tk env A V G S hB hB' hL R; dsimp only at V S
  repeat' (walk_at "ms@4_2")
  exact ret _ _ _ (stay S hB) hr
theorem c_one_chars (G : Gl w mg mb g) (hk : g.StaysIn h) (R : Rm A 2) (hx : x.length < 2 ^ 20) (h0 : 0 ≤ i) (hy : y.length < 2 ^ 20) (ret : ∀ r h' tk', h.StaysIn h' → OInt (endOf x i (.chars y)) r → Q r (St s h' tk')) : wpAny (model pg w) A (call (.ref 547) [.str (Str.ofString "chars") v2, .str x t, .int i u, .str y v1]) Q E (St s h tk) := by
  refine enterR [] [some (.str (Str.ofString "chars") v2), some (.str x t), some (.int i u), some (.str y v1)] G hk (by k_is) (by k_is) (by decide +kernel) R (BindsTo.of_eq (bind_plain rfl rfl rfl (by decide +kernel))) (by dsimp only; repeat (first | exact Bnd.nil | refine Bnd.cons ?_)) (fun p hp => nomatch hp) List.nodup_nil (by decide +kernel) ?_ (by rfl) (by rfl); intro B h L tk env A V G S hB hB' hL R; dsimp only at V S
  repeat' (walk_at "ms@4_2")
  exact ret _ _ _ (stay S hB) hr
theorem c_one_any (G : Gl w mg mb g) (hk : g.StaysIn h) (R : Rm A 2) (hx : x.length < 2 ^ 20) (h0 : 0 ≤ i) (hy : y.length < 2 ^ 20) (ret : ∀ r h' tk', h.StaysIn h' → OInt (endOf x i (.any y)) r → Q r (St s h' tk')) : wpAny (model pg w) A (call (.ref 547) [.str (Str.ofString "any") v2, .str x t, .int i u, .str y v1]) Q E (St s h tk) := by
  refine enterR [] [some (.str (Str.ofString "any") v2), some (.str x t), some (.int i u), some (.str y v1)] G hk (by k_is) (by k_is) (by decide +kernel) R (BindsTo.of_eq (bind_plain rfl rfl rfl (by decide +kernel))) (by dsimp only; repeat (first | exact Bnd.nil | refine Bnd.cons ?_)) (fun p hp => nomatch hp) List.nodup_nil (by decide +kernel) ?_ (by rfl) (by rfl); intro B h L tk env A V G S hB hB' hL R; dsimp only at V S
  repeat' (walk_at "ms@4_2")
  exact ret _ _ _ (stay S hB) hr
theorem c_plain_end {T : Tr} {v : Value} (G : Gl w mg mb g) (hk : g.StaysIn h) (R : Rm A 3) (I : Pl h v T) (ok : okLf T) (hx : x.length < 2 ^ 20) (h0 : 0 ≤ i) (ret : ∀ r h' tk', h.StaysIn h' → OInt (endOf x i T) r → Q r (St s h' tk')) : wpAny (model pg w) A (call (.ref 554) [v, .str x t, .int i u]) Q E (St s h tk) := by
  obtain ⟨b, rfl⟩ := I.ref
  refine enterR [] [some (.ref b), some (.str x t), some (.int i u)] G hk (by k_is) (by k_is) (by decide +kernel) R (BindsTo.of_eq (bind_plain rfl rfl rfl (by decide +kernel))) (by dsimp only; repeat (first | exact Bnd.nil | refine Bnd.cons ?_)) (fun p hp => nomatch hp) List.nodup_nil (by decide +kernel) ?_ (by rfl) (by rfl); intro B h L tk env A V G S hB hB' hL R; dsimp only at V S
  have I := I.keep (tk_base0 hB)
  cases T with
  | rem =>
    refine PlR.el I fun t l i => ?_
    repeat' (walk_at "ms@4_3")
    exact ret _ _ _ (stay S hB) ⟨_, rfl⟩
  | len =>
    refine AtI.el I fun t u i => ?_
    repeat' (walk_at "ms@4_3")
    exact ret _ _ _ (stay S hB) hr
  | chars y =>
    refine AtS.el I fun t u i => ?_
    have ok : y.length < 2 ^ 20 := ok
    repeat' (walk_at "ms@4_3")
    exact ret _ _ _ (stay S hB) hr
  | any y =>
    refine AtS.el I fun t u i => ?_
    have ok : y.length < 2 ^ 20 := ok
    repeat' (walk_at "ms@4_3")
    exact ret _ _ _ (stay S hB) hr
  | _ => exact ok.elim
end
section
set_option maxHeartbeats 2000000
variable {w : World} {mg mb : Str → Option Value} {g : Heap} {A : Around} {s : Shared} {Q E : Value → Shared → Prop} {h : Heap} {tk n : Nat}

theorem c_Pattern {v : Value} (G : Gl w mg mb g) (hk : g.StaysIn h) (R : Rm A 2) (ret : ∀ x dx t h' tk', h.StaysIn h' → x ≠ dx → h.get? x = none → h.get? dx = none → Pat w h' x dx t v → Q (.ref x) (St s h' tk')) : wpAny (model pg w) A (call (.ref 68) [v]) Q E (St s h tk) := by
  refine' makeI (C := 68) (fI := 65) (fun x => [some x, some v]) (fun x => [(Str.ofString "self", x), (Str.ofString "node", v)]) G hk ⟨by k_is, by k_is, by k_is⟩ (by k_is) (by k_is) (by decide +kernel) (by have := R.d; exact lin1 [_, PySem.recursionLimit] [] (.nlt (.P (.V 0) (.K 2)) (.V 1)) (.nlt (.P (.V 0) (.K 1)) (.V 1)) [[1, 1]] this okT) ?hb (fun x => by dsimp only; repeat (first | exact Bnd.nil | apply Bnd.cons)) (by decide +kernel) ?_ (by rfl) (by rfl)
  case hb => intro x h k; refine BindsTo.of_eq ((bind_plain rfl rfl rfl ?_).trans rfl); decide +kernel
  intro B h L tk env A x dx V G S hk' n1 n2 hd hh
  dsimp only at V S
  have S : Sx B L h _ _ [(x, instObj 68 dx), (dx, dob w.params [] [] [])] [] := S
  repeat' (walk_at "ms@5_1")
  refine iq_next (ret _ _ _ _ _ (fun b o e => S.F.keep b o (hk' b o e)) ?_ n1 n2 (S.ins .z (.s .z)))
  exact fun q => (List.nodup_cons.mp S.nd).1 (by rw [q]; exact .head _)
noncomputable abbrev wns : List Str := [Str.ofString "width", Str.ofString "most_steps", Str.ofString "most_depth", Str.ofString "most_length", Str.ofString "store", Str.ofString "functions", Str.ofString "labels", Str.ofString "keywords", Str.ofString "opsyns", Str.ofString "inputs", Str.ofString "outputs", Str.ofString "traces", Str.ofString "read_names", Str.ofString "write_names", Str.ofString "traced", Str.ofString "steps", Str.ofString "depth", Str.ofString "made", Str.ofString "holders", Str.ofString "evaluate", Str.ofString "make_code", Str.ofString "matcher", Str.ofString "kept_names"]
theorem cl_World (w : World) : Cl w 317 wns := ⟨by k_is, by k_is, by k_is, by k_is, by decide +kernel, by repeat (first | exact an | refine am (by k_is) ?_)⟩
theorem c_World (G : Gl w mg mb g) (hk : g.StaysIn h) (R : Rm A 2) (ret : ∀ x h' tk', h.StaysIn h' → h.get? x = none → Q (.ref x) (St s h' tk')) : wpAny (model pg w) A (call (.ref 317) []) Q E (St s h tk) := by
  refine' makeI (C := 317) (fI := 314) (fun x => [some x, some (.int 32 598), some (.int 5000 599), some (.int 40 600), some (.int 5000 601)]) (fun x => [(Str.ofString "self", x), (Str.ofString "width", .int 32 598), (Str.ofString "most_steps", .int 5000 599), (Str.ofString "most_depth", .int 40 600), (Str.ofString "most_length", .int 5000 601)]) G hk ⟨by k_is, by k_is, by k_is⟩ (by k_is) (by k_is) (by decide +kernel) (by have := R.d; exact lin1 [_, PySem.recursionLimit] [] (.nlt (.P (.V 0) (.K 2)) (.V 1)) (.nlt (.P (.V 0) (.K 1)) (.V 1)) [[1, 1]] this okT) ?hb (fun x => by dsimp only; repeat (first | exact Bnd.nil | apply Bnd.cons)) (by decide +kernel) ?_ (by rfl) (by rfl)
  case hb => intro x h k; exact binds_K (G.X.keeps k) rfl (by k_is) rfl rfl rfl
  intro B h L tk env A x dx V G S hk' n1 n2 hd hh
  dsimp only at V S
  have S : Sx B L h _ _ [(x, instObj 317 dx), (dx, dob w.params [] [] [])] [] := S
  have D : Dk w wns 0 (dob w.params [] [] []) := .mk (ts := []) (us := []) rfl rfl
  generalize dob w.params [] [] [] = oz at S D
  repeat' (walk_at "ms@5_2")
  exact iq_next (ret _ _ _ (fun b o e => S.F.keep b o (hk' b o e)) n1)
end
section
set_option maxHeartbeats 2000000
variable {w : World} {mg mb : Str → Option Value} {g : Heap} {A : Around} {s : Shared} {Q E : Value → Shared → Prop} {h : Heap} {tk n : Nat}

noncomputable def Tr.size (T : Tr) : Nat := T.fold (fun _ => 1) (· + 1) (fun a b => a + b + 1) (fun a b => a + b + 1)
noncomputable def Tr.dep (T : Tr) : Nat := T.fold (fun _ => 1) (· + 1) (fun a b => max a b + 1) (fun a b => max a b + 1)
noncomputable def Tr.cok (T : Tr) : Bool := T.casesOn true true (fun _ => true) (fun x => x.length ≤ 20000) (fun _ => true) (fun _ => true) (fun _ => true) (fun _ _ => true) (fun _ _ => true) (fun _ _ => true)
noncomputable def Tr.okc (T : Tr) : Bool := T.fold Tr.cok (fun a => a) (fun a b => a && b) (fun a b => a && b)
noncomputable def Tr.sm (T : Tr) : Bool := T.fold (fun T => T.casesOn true true (fun _ => true) (fun x => x.length < 2 ^ 20) (fun _ => true) (fun _ => true) (fun _ => true) (fun _ _ => true) (fun _ _ => true) (fun _ _ => true)) (fun a => a) (fun a b => a && b) (fun a b => a && b)
theorem szq : (∀ a, (Tr.arb a).size = a.size + 1) ∧ (∀ a r, (Tr.lat a r).size = a.size + 1) ∧ (∀ a b, (Tr.alt a b).size = a.size + b.size + 1) ∧ (∀ a b, (Tr.cat a b).size = a.size + b.size + 1) ∧ Tr.fail.size = 1 ∧ Tr.rem.size = 1 ∧ ∀ i, (Tr.len i).size = 1 := ⟨fun _ => rfl, fun _ _ => rfl, fun _ _ => rfl, fun _ _ => rfl, rfl, rfl, fun _ => rfl⟩
theorem dpq : (∀ a, (Tr.arb a).dep = a.dep + 1) ∧ (∀ a r, (Tr.lat a r).dep = a.dep + 1) ∧ (∀ a b, (Tr.alt a b).dep = max a.dep b.dep + 1) ∧ (∀ a b, (Tr.cat a b).dep = max a.dep b.dep + 1) ∧ Tr.fail.dep = 1 ∧ ∀ i, (Tr.len i).dep = 1 := ⟨fun _ => rfl, fun _ _ => rfl, fun _ _ => rfl, fun _ _ => rfl, rfl, fun _ => rfl⟩
noncomputable def sizes (l : List (Tr × Nat)) : Nat := l.foldr (fun p n => p.1.size + n) 0
theorem ssq : sizes [] = 0 ∧ ∀ p r, sizes (p :: r) = p.1.size + sizes r := ⟨rfl, fun _ _ => rfl⟩
noncomputable def Good (many : Nat) (st : List (Tr × Nat)) : Prop := many + sizes st ≤ 600 ∧ ∀ p ∈ st, p.2 + p.1.dep ≤ 101 ∧ p.1.okc = true
inductive Stk (h : Heap) : List Value → List (Tr × Nat) → Prop
  | nil : Stk h [] []
  | snoc {xs st a v d t T} : Stk h xs st → IsTup h a [v, .int (d : Nat) t].toArray → IsTr h v T → Stk h (xs ++ [.ref a]) ((T, d) :: st)
theorem Stk.keep {h h' : Heap} (k : Tk h h') {l st} (H : Stk h l st) : Stk h' l st := by
  induction H with
  | nil => exact .nil
  | snoc _ i j ih => exact .snoc ih (k.tup i) (j.keep k)
theorem Stk.len {h : Heap} {l st} (H : Stk h l st) : l.length = st.length := by
  induction H with
  | nil => rfl
  | snoc _ _ _ ih => simp [ih]
theorem Tr.size_pos (T : Tr) : 0 < T.size := by cases T <;> exact Nat.succ_pos _
theorem kl_last_snoc (xs : List Value) (x : Value) : kl_last (xs ++ [x]) = some (xs, x) := by
  induction xs with
  | nil => with_unfolding_all rfl
  | cons y xs ih =>
    cases xs with
    | nil => with_unfolding_all rfl
    | cons z zs =>
      show kl_last (y :: z :: (zs ++ [x])) = _
      rw [List.cons_append] at ih
      unfold kl_last
      rw [ih]
      try rfl
noncomputable def stkF (l : List Value) (st : List (Tr × Nat)) : Fact := ⟨fun h => Stk h l st, fun _ _ k H => H.keep k⟩
theorem Ks.keep {h h' : Heap} (k : Tk h h') {l ts} (H : Ks h l ts) : Ks h' l ts := by
  induction H with
  | nil => exact .nil
  | cons i _ ih => exact .cons (i.keep k) ih
theorem Ks.len {h : Heap} {l ts} (H : Ks h l ts) : l.length = ts.length := by
  induction H with
  | nil => rfl
  | cons _ _ ih => simp [ih]
theorem Ks.at {h : Heap} {l ts} (H : Ks h l ts) : ∀ {i : Nat} {v : Value}, l[i]? = some v → ∃ T, ts[i]? = some T ∧ IsTr h v T := by
  induction H with
  | nil => exact fun e => nomatch e
  | @cons v T l ts j _ ih =>
    intro i u e
    cases i with
    | zero => cases e; exact ⟨T, rfl, j⟩
    | succ i => exact ih e
noncomputable def ksF (l : List Value) (ts : List Tr) : Fact := ⟨fun h => Ks h l ts, fun _ _ k H => H.keep k⟩
noncomputable def pushed (ts : List Tr) (d i : Nat) : List (Tr × Nat) := ((ts.take i).map fun T => (T, d + 1)).reverse
theorem pushed_succ {ts : List Tr} {d i : Nat} {T : Tr} (h : ts[i]? = some T) : pushed ts d (i + 1) = (T, d + 1) :: pushed ts d i := by
  unfold pushed
  rw [List.take_add_one, h]
  simp
theorem sizes_app (a b : List (Tr × Nat)) : sizes (a ++ b) = sizes a + sizes b := by
  induction a with
  | nil => exact (Nat.zero_add _).symm
  | cons p a ih => exact (congrArg _ ih).trans (Nat.add_assoc _ _ _).symm
theorem pushed_all (T : Tr) (d : Nat) : pushed T.kids d T.kids.length = (T.kids.map fun T => (T, d + 1)).reverse := by
  unfold pushed; rw [List.take_length]
theorem kids_size (T : Tr) (d : Nat) : sizes (pushed T.kids d T.kids.length) + 1 = T.size := by
  rw [pushed_all]
  cases T with
  | alt a b => exact congrArg Nat.succ (Nat.add_comm b.size a.size)
  | cat a b => exact congrArg Nat.succ (Nat.add_comm b.size a.size)
  | _ => rfl
section
variable {P : Tr → Prop} {T a b : Tr} {n d : Nat}
theorem mem0 : ∀ U ∈ ([] : List Tr), P U := fun _ m => nomatch m
theorem mem1 (h : P a) : ∀ U ∈ [a], P U := fun _ m => List.mem_singleton.mp m ▸ h
theorem mem2 (h : P a) (k : P b) : ∀ U ∈ [a, b], P U := fun _ m => (List.mem_cons.mp m).elim (fun e => e ▸ h) (mem1 k _)
theorem memb {f : Tr → Bool} (h : (f a && f b) = true) : ∀ U ∈ [a, b], f U = true := mem2 (P := fun U => f U = true) (Bool.and_eq_true_iff.mp h).1 (Bool.and_eq_true_iff.mp h).2
theorem Tr.dep_kids : ∀ U ∈ T.kids, U.dep + 1 ≤ T.dep := by
  cases T with
  | arb => exact mem1 (Nat.le_refl _)
  | lat => exact mem1 (Nat.le_refl _)
  | alt a b => exact mem2 (Nat.succ_le_succ (Nat.le_max_left a.dep b.dep)) (Nat.succ_le_succ (Nat.le_max_right a.dep b.dep))
  | cat a b => exact mem2 (Nat.succ_le_succ (Nat.le_max_left a.dep b.dep)) (Nat.succ_le_succ (Nat.le_max_right a.dep b.dep))
  | _ => exact mem0
theorem Tr.dep_le (h : ∀ U ∈ T.kids, U.dep ≤ n) : T.dep ≤ n + 1 := by
  cases T with
  | arb => exact Nat.succ_le_succ (h _ (.head _))
  | lat => exact Nat.succ_le_succ (h _ (.head _))
  | alt => exact Nat.succ_le_succ (Nat.max_le.mpr ⟨h _ (.head _), h _ (.tail _ (.head _))⟩)
  | cat => exact Nat.succ_le_succ (Nat.max_le.mpr ⟨h _ (.head _), h _ (.tail _ (.head _))⟩)
  | _ => exact Nat.succ_le_succ (Nat.zero_le _)
theorem Tr.okc_kids (h : T.okc = true) : ∀ U ∈ T.kids, U.okc = true := by
  cases T with
  | arb => exact mem1 (P := fun U => U.okc = true) h
  | lat => exact mem1 (P := fun U => U.okc = true) h
  | alt => exact memb h
  | cat => exact memb h
  | _ => exact mem0
theorem Tr.sm_kids (h : T.sm = true) : ∀ U ∈ T.kids, U.sm = true := by
  cases T with
  | arb => exact mem1 (P := fun U => U.sm = true) h
  | lat => exact mem1 (P := fun U => U.sm = true) h
  | alt => exact memb h
  | cat => exact memb h
  | _ => exact mem0
theorem Tr.okc_of (c : T.cok = true) (h : ∀ U ∈ T.kids, U.okc = true) : T.okc = true := by
  cases T with
  | chars => exact c
  | arb a => exact h a (.head _)
  | lat a r => exact h a (.head _)
  | alt => exact Bool.and_eq_true_iff.mpr ⟨h _ (.head _), h _ (.tail _ (.head _))⟩
  | cat => exact Bool.and_eq_true_iff.mpr ⟨h _ (.head _), h _ (.tail _ (.head _))⟩
  | _ => rfl
theorem Tr.dep_pos : 0 < T.dep := by cases T <;> exact Nat.succ_pos _
theorem mem_pushed {p : Tr × Nat} : p ∈ pushed T.kids d T.kids.length ↔ ∃ U ∈ T.kids, (U, d + 1) = p := by rw [pushed_all, List.mem_reverse, List.mem_map]
end
theorem good_step {T : Tr} {d many : Nat} {st : List (Tr × Nat)} (hm : many + 1 ≤ 600) (hd : d ≤ 100) (hc : T.cok = true) : Good many ((T, d) :: st) ↔ Good (many + 1) (pushed T.kids d T.kids.length ++ st) := by
  have hs : many + sizes ((T, d) :: st) = many + 1 + sizes (pushed T.kids d T.kids.length ++ st) := by
    have := kids_size T d
    rw [sizes_app]; simp only [ssq]; exact lin1 [_, _, many, _] [] (.neq (.P (.V 0) (.K 1)) (.V 1)) (.neq (.P (.V 2) (.P (.V 1) (.V 3))) (.P (.P (.V 2) (.K 1)) (.P (.V 0) (.V 3)))) [[1, -1], [1, 1]] this (by decide +kernel)
  unfold Good
  rw [hs]
  refine and_congr_right fun _ => ⟨fun b p hp => ?_, fun b p hp => ?_⟩
  · rcases List.mem_append.mp hp with hp | hp
    · obtain ⟨U, hU, rfl⟩ := mem_pushed.mp hp
      have h0 := b (T, d) (.head _)
      exact ⟨Nat.le_trans (Nat.le_of_eq (Nat.add_right_comm d 1 U.dep)) (Nat.le_trans (Nat.add_le_add_left (Tr.dep_kids U hU) d) h0.1), Tr.okc_kids h0.2 U hU⟩
    · exact b p (.tail _ hp)
  · rcases List.mem_cons.mp hp with rfl | hp
    · have h0 : ∀ U ∈ T.kids, d + 1 + U.dep ≤ 101 ∧ U.okc = true := fun U m => b (U, d + 1) (List.mem_append_left _ (mem_pushed.mpr ⟨U, m, rfl⟩))
      refine ⟨?_, Tr.okc_of hc fun U m => (h0 U m).2⟩
      have := Tr.dep_le (n := 100 - d) fun U m => (by have := (h0 U m).1; omega)
      show d + T.dep ≤ 101
      omega
    · exact b p (List.mem_append_right _ hp)
inductive ChkJ (T : Tr) (v : Value) (D : Addr) (FX : List (Addr × Obj)) : Nat → List (Option Value) → List (Addr × Obj) → List Fact → Prop
  | mk {n many c : Nat} {t : Tok} {l : List Value} {st : List (Tr × Nat)} {o1 o2 o3 : Option Value} : n = sizes st → st.length ≤ many + 1 → many ≤ 600 → (Good 0 [(T, 1)] ↔ Good many st) → (∀ p ∈ st, p.1.sm = true) →
    ChkJ T v D FX n [some v, some (.int ((many : Nat) : Int) t), some (.ref D), o1, o2, o3] ((D, listOf l.toArray c) :: FX) [stkF l st]
inductive ChkP (v : Value) (D pl ahd : Addr) (l : List Value) (ts : List Tr) (st' : List (Tr × Nat)) (many d : Nat) (td : Tok) (FX : List (Addr × Obj)) (i : Nat) : List (Option Value) → List (Addr × Obj) → List Fact → Prop
  | mk {cc : Nat} {op : Option Value} {lx : List Value} {tt : Tok} : lx.length ≤ 600 + i → i ≤ l.length →
    ChkP v D pl ahd l ts st' many d td FX i [some v, some (.int ((many : Int) + 1) tt), some (.ref D), some (.ref ahd), some (.int (d : Nat) td), op] ((pl, listOf l.toArray 0) :: (D, listOf lx.toArray cc) :: FX) [ksF l ts, stkF lx (pushed ts d i ++ st')]
theorem kids_sm {T : Tr} {d : Nat} (h : T.sm = true) : ∀ p ∈ pushed T.kids d T.kids.length, p.1.sm = true := fun p hp => by
  obtain ⟨U, hU, rfl⟩ := mem_pushed.mp hp
  exact Tr.sm_kids h U hU
inductive CutP (s : Shared) (B : Heap) (L : Addr) (ns : List (Str × NameKind)) (vs : List (Option Value)) (news : List (Addr × Obj)) (fs : List Fact) (X : Bool → Prop) : Bool → Shared → Prop
  | mk {c h tk} : Sx B L h ns vs news fs → X c → CutP s B L ns vs news fs X c (St s h tk)
theorem cut_or {B : Heap} {L : Addr} {h0 : Heap} {ns : List (Str × NameKind)} {vs : List (Option Value)} {news : List (Addr × Obj)} {fs : List Fact} {X : Bool → Prop} {Q : Bool → Shared → Prop} {E : Value → Shared → Prop} {env : Env} {rest : List Expr} {pos : Pos} {whole : Sem Value} {c : Bool} {s1 : Shared}
    (S : Sx B L h0 ns vs news fs) (fin : ∀ c h tk, Sx B L h ns vs news fs → X c → Q c (St s h tk)) (k : kTO w A env E rest pos whole (CutP s B L ns vs news fs X) c s1) : kTO w A env E rest pos whole Q c s1 := by
  have up : ∀ c s', CutP s B L ns vs news fs X c s' → Q c s' := fun _ _ ⟨p, x⟩ => fin _ _ _ p x
  cases c with
  | true => exact up _ _ k
  | false => exact wpAny_mono k up (fun _ _ x => x)
theorem chars_of {T : Tr} (c : T.isChars = true) : ∃ x, T = .chars x := by cases T <;> first | exact ⟨_, rfl⟩ | cases c
theorem nchars_cok {T : Tr} (c : T.isChars = false) : T.cok = true := by cases T <;> first | rfl | cases c
variable {outer : List Env} {FX : List (Addr × Obj)}
theorem c_checked {T : Tr} {v : Value} (G : Gl w mg mb g) (hk : g.StaysIn h) (R : Rm A 3) (I : IsTr h v T) (hsm : T.sm = true) (hA : A.frames = some outer) (Fs : Frs outer FX) (hFX : ∀ p ∈ FX, h.get? p.1 = some p.2 ∧ g.get? p.1 = none) (hnd : (FX.map (·.1)).Nodup)
   (hE : ¬ Good 0 [(T, 1)] → ∀ e h' tk', Thrown h FX 23 e h' → E (.ref e) (St s h' tk'))
   (ret : ∀ h' tk', h.StaysIn h' → Good 0 [(T, 1)] → Q v (St s h' tk')) : wpAny (model pg w) A (call (.ref 257) [v]) Q E (St s h tk) := by
  refine enterX [some v] G hk (by k_is) (by k_is) (by decide +kernel) R (BindsTo.of_eq (bind_plain rfl rfl rfl (by decide +kernel))) (by dsimp only; repeat (first | exact Bnd.nil | refine Bnd.cons ?_)) hA Fs hFX hnd (by decide +kernel) hE ?_ (by rfl) (by rfl); intro B h L tk env A V G S hB hB' hL R hA hke hfe Lv hpo hLv; dsimp only at V S
  have I := I.keep (tk_led hB hFX Fs.nt)
  repeat' (walk_at "ms@6_1")
  have S := S.pad 3
  have ha : IsTup h _ _ := S.inF .z
  have S : Sx B L h _ _ _ [stkF _ _] := S.facts0.fact (stkF _ [(T, 1)]) (Stk.snoc (xs := []) (d := 1) .nil ha (I.keep (tk_of S)))
  (rename Sx _ _ _ _ _ _ _ => a); rename_i D _ _ _; (rename Sx _ _ _ _ _ _ _ => S)
  refine x_while (ChkJ T v D FX) _ S (.mk (many := 0) rfl (Nat.le_refl _) (Nat.zero_le _) Iff.rfl fun p hp => by rw [List.mem_singleton.mp hp]; exact hsm) hpo ?_
  intro n _ _ _ h tk J S
  cases J with | @mk many c t l st o1 o2 o3 hn hlen hm hg hs => ?_
  subst hn
  have H : Stk h l st := S.ft _ (.head _)
  have hl := H.len
  cases H with
  | nil =>
    repeat' (walk_at "ms@6_1")
    exact ret _ _ (stayX S (fun p hp => .tail _ hp) (fun p hp => (hFX p hp).1) hB) (hg.mpr ⟨hm, fun p hp => nomatch hp⟩)
  | @snoc xs st' ah v' d td T' H i j =>
    refine j.head fun ahd th lh zq3 ih => ?_; subst zq3
    have S := (((S.facts0.fact (stkF xs st') H).fact (trF (.ref ahd) T') j).fact (tupF ahd _) ih).fact (tupF ah _) i
    simp only [List.length_append, List.length_cons, List.length_nil] at hl
    have hx : xs.length ≤ 600 := by simp only [List.length_cons] at hlen; exact lin3 [many, _, _] [] (.nle (.V 0) (.K 600)) (.nle (.P (.V 1) (.K 1)) (.P (.V 0) (.K 1))) (.neq (.P (.V 2) (.P (.K 0) (.K 1))) (.P (.V 1) (.K 1))) (.nle (.V 2) (.K 600)) [[1, 1, 1, 1]] hm hlen hl okT
    have hz : ((xs ++ [Value.ref ah]).length : Int) < 2 ^ 63 := by simp; exact lin1 [_] [] (.nle (.V 0) (.K 600)) (.ilt (.P (.C (.V 0)) (.K 1)) (.K 9223372036854775808)) [[1, 1]] hx okT
    repeat' (walk_at "ms@6_1")
    refine it_dt (by simp) ?_
    repeat' (walk_at "ms@6_1")
    refine o_pop S .z (kl_last_snoc xs _) (by rw [List.length_append]; unfold sizeLine; simp; exact lin1 [_] [] (.nle (.V 0) (.K 600)) (.nle (.V 0) (.K 16777215)) [[1, 1]] hx okT) ?_
    clear S; intro h tk S
    repeat' (walk_at "ms@6_1")
    refine cut_or (s := s) S (X := fun c => (c = true → ¬ Good 0 [(T, 1)]) ∧ (c = false → many + 1 ≤ 600 ∧ d ≤ 100 ∧ T'.cok = true)) (fun c h tk S P => ?_) ?_
    · refine x0_2 P fun bad ok => ?_
      cases c with
      | true =>
        refine it_t ?_
        repeat' (walk_at "ms@6_1")
        refine x_raise R.h ?_
        repeat' (walk_at "ms@6_1")
        refine c_exc G S.stays (R.le (by decide)) fun e d2 od mA h5 tk5 k5 X n1 hn ⟨t1, ex⟩ => ⟨e, t1, d2, rfl, G.X.keeps (fun b o z => k5 _ _ (S.F.keep _ _ z)), ex, ?_⟩
        exact hLv (bad rfl) _ _ (eb_raise S (fun p hp => .tail _ hp) hB k5 X n1 hn)
      | false =>
      refine it_f ?_
      refine x0_3 (ok rfl) fun m1 hd hcok => ?_
      have jj : IsTr h (.ref ahd) T' := S.ft (trF (.ref ahd) T') (by walk_at "zf")
      have S := S.facts (fs' := [stkF xs st']) (fun f hf => by rw [List.mem_singleton.mp hf]; exact .tail _ (.tail _ (.tail _ (.head _))))
      repeat' (walk_at "ms@6_1")
      refine x_for (fun _ => rfl) ?_
      repeat' (walk_at "ms@6_1")
      refine c_parts_of G S.stays (R.le (by decide)) (jj.keep (Tk.refl _)) fun pl l h tk k hn ho hl2 kd => ?_
      have S := (S.got k hn ho).fact (ksF l (Tr.kids T')) kd
      have hkl := kd.len
      refine x_for_list (items := l) (ChkP v D pl ahd l (Tr.kids T') st' many d td FX) V R.h S (.mk hx (Nat.zero_le _)) hpo ?_ ?_ ?_
      · intro i _ _ _ J
        cases J with | mk _ _ => exact .inl ⟨0, .head _⟩
      · intro i _ _ _ u hu J
        cases J with | @mk cc op lx tt hz2 hi => ?_
        refine ⟨_, by walk_at "zs", fun h tk p S => ?_⟩
        refine x1_2 ((S.ft (ksF l (Tr.kids T')) (.head _) : Ks h l _).at hu) fun U hU jU => ?_
        have S := S.fact (trF u U) jU
        have hil : i < l.length := (List.getElem?_eq_some_iff.mp hu).1
        repeat' (walk_at "ms@6_1")
        refine o_append S (.s (.s .z)) rfl (by unfold sizeLine; exact lin3 [_, _, i] [] (.nle (.V 0) (.K 2)) (.nle (.V 1) (.P (.K 600) (.V 2))) (.nlt (.V 2) (.V 0)) (.nle (.V 1) (.W 2 24)) [[1, 1, 1, 1]] hl2 hz2 hil okT) ?_
        clear S; intro h tk S
        have Hs : Stk h lx (pushed (Tr.kids T') d i ++ st') := S.ft (stkF _ _) (.tail _ (.tail _ (.tail _ (.head _))))
        have ht : IsTup h a [u, Value.int ((d + 1 : Nat) : Int) _].toArray := S.inF .z
        have jU : IsTr h u U := S.ft (trF u U) (.tail _ (.head _))
        have Hn := Hs.snoc ht jU
        have kk : Ks h l (Tr.kids T') := S.ft (ksF l (Tr.kids T')) (.tail _ (.tail _ (.head _)))
        rw [← List.cons_append, ← pushed_succ hU] at Hn
        exact lf_next ((S.facts0.fact (stkF _ _) Hn).fact (ksF _ _) kk) (.mk (by rw [List.length_append]; simp only [List.length_cons, List.length_nil]; exact lin1 [_, i] [] (.nle (.V 0) (.P (.K 600) (.V 1))) (.nle (.P (.V 0) (.P (.K 0) (.K 1))) (.P (.K 600) (.P (.V 1) (.K 1)))) [[1, 1]] hz2 okT) hil)
      · intro _ _ _ h tk J S
        cases J with | @mk cc op lx tt hz2 hi => ?_
        have S := S.drop (news' := (D, listOf lx.toArray cc) :: FX) (List.sublist_cons_self _ _)
        have S := S.facts (fs' := [stkF lx (pushed (Tr.kids T') d l.length ++ st')]) (fun f hf => by rw [List.mem_singleton.mp hf]; exact .tail _ (.head _))
        have ks := kids_size T' d
        rw [← hkl] at ks
        have gs := good_step (T := T') (d := d) (st := st') m1 hd hcok
        rw [← hkl] at gs
        have Hs : Stk h lx (pushed (Tr.kids T') d l.length ++ st') := S.ft (stkF _ _) (.head _)
        refine lp_next (m := sizes (pushed (Tr.kids T') d l.length ++ st')) ?_ S (.mk (many := many + 1) rfl ?_ m1 (hg.trans gs) fun p hp => ?_)
        · rw [sizes_app]; simp only [ssq]; exact lin1 [_, _, _] [] (.neq (.P (.V 0) (.K 1)) (.V 1)) (.nlt (.P (.V 0) (.V 2)) (.P (.V 1) (.V 2))) [[1, 1]] ks okT
        · rw [List.length_append]
          have : (pushed (Tr.kids T') d l.length).length ≤ 2 := by
            unfold pushed; rw [List.length_reverse, List.length_map, List.length_take]; omega
          simp only [List.length_cons] at hlen
          exact lin2 [_, many, _] [] (.nle (.P (.V 0) (.K 1)) (.P (.V 1) (.K 1))) (.nle (.V 2) (.K 2)) (.nle (.P (.V 2) (.V 0)) (.P (.P (.V 1) (.K 1)) (.K 1))) [[1, 1, 1]] hlen this okT
        · rcases List.mem_append.mp hp with hp | hp
          · exact kids_sm (hs _ (.head _)) p (hkl ▸ hp)
          · exact hs p (.tail _ hp)
    by_cases c1 : (600 : Int) < (many : Int) + 1
    · refine it_dt c1 (.mk S ⟨fun _ q => ?_, fun q => nomatch q⟩)
      have := (hg.mp q).1
      have := T'.size_pos
      simp only [ssq] at *; omega
    refine it_df c1 ?_
    repeat' (walk_at "ms@6_1")
    by_cases c2 : (100 : Int) < (d : Int)
    · refine it_dt c2 (.mk S ⟨fun _ q => ?_, fun q => nomatch q⟩)
      have := ((hg.mp q).2 _ (.head _)).1
      have := T'.dep_pos
      simp only at *; omega
    refine it_df c2 ?_
    have m1 : many + 1 ≤ 600 := by exact lin1 [many] [] (.no (.ilt (.K 600) (.P (.C (.V 0)) (.K 1)))) (.nle (.P (.V 0) (.K 1)) (.K 600)) [[1, 1]] c1 okT
    have hd : d ≤ 100 := by exact lin1 [d] [] (.no (.ilt (.K 100) (.C (.V 0)))) (.nle (.V 0) (.K 100)) [[1, 1]] c2 okT
    repeat' (walk_at "ms@6_1")
    cases c3 : T'.isChars with
    | true =>
      refine it_is (y := true) (by rw [Tr.kind_chars]; exact c3) (it_t ?_)
      have jj : IsTr h (.ref ahd) T' := S.ft (trF (.ref ahd) T') (by walk_at "zf")
      obtain ⟨x, rfl⟩ := chars_of c3
      refine AtS.el jj fun t' u' i' => ?_
      have S := S.fact (tupF ahd _) i'
      have hxs : x.length < 2 ^ 20 := of_decide_eq_true (hs _ (.head _))
      have hx63 : (x.length : Int) < 2 ^ 63 := by exact lin1 [_] [] (.nlt (.V 0) (.W 2 20)) (.ilt (.C (.V 0)) (.W 2 63)) [[1, 1]] hxs okT
      repeat' (walk_at "ms@6_1")
      by_cases c4 : (20000 : Int) < (x.length : Int)
      · refine it_dt c4 ?_
        repeat' (walk_at "ms@6_1")
        refine .mk (S.facts fun f hf => .tail _ hf) ⟨fun _ g => ?_, fun q => nomatch q⟩
        have := of_decide_eq_true ((hg.mp g).2 _ (.head _)).2
        exact lin2 [_] [] (.ilt (.K 20000) (.C (.V 0))) (.nle (.V 0) (.K 20000)) .F [[1, 1, 1]] c4 this okT
      refine it_df c4 ?_
      repeat' (walk_at "ms@6_1")
      exact .mk (S.facts fun f hf => .tail _ hf) ⟨(fun q => nomatch q), fun _ => ⟨m1, hd, decide_eq_true (by exact lin1 [_] [] (.no (.ilt (.K 20000) (.C (.V 0)))) (.nle (.V 0) (.K 20000)) [[1, 1]] c4 okT)⟩⟩
    | false =>
      refine it_is (y := false) (by rw [Tr.kind_chars]; exact c3) (it_f ?_)
      repeat' (walk_at "ms@6_1")
      exact .mk S ⟨(fun q => nomatch q), fun _ => ⟨m1, hd, nchars_cok c3⟩⟩
end
section
set_option maxHeartbeats 2000000
variable {w : World} {mg mb : Str → Option Value} {g : Heap} {A : Around} {s : Shared} {Q E : Value → Shared → Prop} {h : Heap} {tk n : Nat}

variable {outer : List Env} {FX : List (Addr × Obj)} {x dx x2 dx2 : Addr} {t t2 : Tok} {v1 v2 wv : Value} {T U : Tr}
theorem handed_tr {h : Heap} {v : Value} {T : Tr} (I : IsTr h v T) : handedIn v = true := by
  obtain ⟨a, rfl⟩ := I.ref; rfl
theorem c_either_value (G : Gl w mg mb g) (hk : g.StaysIn h) (R : Rm A 5) (I : Pat w h x dx t v1) (J : Pat w h x2 dx2 t2 v2) (i : IsTr h v1 T) (j : IsTr h v2 U) (hs1 : T.sm = true) (hs2 : U.sm = true)
   (nx : x ∉ FX.map (·.1) ∧ dx ∉ FX.map (·.1) ∧ x2 ∉ FX.map (·.1) ∧ dx2 ∉ FX.map (·.1))
   (hA : A.frames = some outer) (Fs : Frs outer FX) (hFX : ∀ p ∈ FX, h.get? p.1 = some p.2 ∧ g.get? p.1 = none) (hnd : (FX.map (·.1)).Nodup)
   (hE : ¬ Good 0 [(.alt T U, 1)] → ∀ e h' tk', Thrown h FX 23 e h' → E (.ref e) (St s h' tk'))
   (ret : ∀ x dx t a u h' tk', h.StaysIn h' → x ≠ dx → h.get? x = none → h.get? dx = none → Pat w h' x dx t (.ref a) → IsTup h' a [.str (Str.ofString "alt") u, v1, v2].toArray → Good 0 [(.alt T U, 1)] → Q (.ref x) (St s h' tk')) :
   wpAny (model pg w) A (call (.ref 349) [.ref x, .ref x2]) Q E (St s h tk) := by
  refine enterX [some (.ref x), some (.ref x2)] G hk (by k_is) (by k_is) (by decide +kernel) R (BindsTo.of_eq (bind_plain rfl rfl rfl (by decide +kernel))) (by dsimp only; repeat (first | exact Bnd.nil | refine Bnd.cons ?_)) hA Fs hFX hnd (by decide +kernel) hE ?_ (by rfl) (by rfl); intro B h L tk env A V G S hB hB' hL R hA hke hfe Lv hpo hLv; dsimp only at V S
  have kB : Tk _ B := tk_led hB hFX Fs.nt
  have I := I.in hB nx.1 nx.2.1
  have J := J.in hB nx.2.2.1 nx.2.2.2
  have i := i.keep kB
  have j := j.keep kB
  have hv1 := handed_tr i
  have hv2 := handed_tr j
  repeat' (walk_at "ms@7_1")
  refine x1_3 (S.out (FX := FX) (fun p hp => hp) hnd Fs hke hfe) fun oL Fs2 hFX2 hnd2 => ?_
  have it : IsTr h (.ref a) (.alt T U) := ⟨a, _, v1, v2, rfl, ht, i.keep (tk_of S), j.keep (tk_of S)⟩
  refine c_checked G S.stays (R.le (by decide)) it (Bool.and_eq_true_iff.mpr ⟨hs1, hs2⟩) hA Fs2 hFX2 hnd2 (fun bad e h5 tk5 Th => hLv bad _ _ (eb_call S (fun p hp => hp) hB (hFX2 _ (.head _)).1 Fs2.nd Th)) (fun h tk k gd => ?_)
  have S := S.call k
  repeat' (walk_at "ms@7_1")
  refine c_Pattern G S.stays (R.le (by decide)) fun x' dx' t' h5 tk5 k5 ne n1 n2 P => ?_
  have dm := dom_of S (FX := FX) (fun p hp => hp) hB
  have S := S.call k5
  exact ret x' dx' t' a _ h5 tk5 (stayX S (fun p hp => hp) (fun p hp => (hFX p hp).1) hB) ne (dm _ n1) (dm _ n2) P (S.inF .z) gd

noncomputable def joinT (T U : Tr) : Tr := joinO (fun x y => .chars (x ++ y)) (.cat T U) T.txt U.txt
theorem Joined.tr {h : Heap} {v1 v2 r : Value} {T U : Tr} (J : Joined h v1 v2 T U r) (I : IsTr h v1 T) (K : IsTr h v2 U) : IsTr h r (joinT T U) :=
  joinO_map (P := IsTr h r) (fun _ _ i => i) (fun ⟨a, t, e, i⟩ => ⟨a, t, v1, v2, e, i, I, K⟩) _ _ J
theorem Joined.keep {h h' : Heap} (k : Tk h h') {v1 v2 r : Value} {T U : Tr} (J : Joined h v1 v2 T U r) : Joined h' v1 v2 T U r :=
  joinO_map (P := fun p => p) (fun _ _ ⟨a, t, u, e, i⟩ => ⟨a, t, u, e, k.tup i⟩) (fun ⟨a, t, e, i⟩ => ⟨a, t, e, k.tup i⟩) _ _ J
theorem joinT_ne {T U : Tr} (h : (T.isChars && U.isChars) = false) : joinT T U = .cat T U := by rw [← T.txt_some, ← U.txt_some] at h; exact joinO_ne h
theorem c_join_values (G : Gl w mg mb g) (hk : g.StaysIn h) (R : Rm A 5) (I : Pat w h x dx t v1) (J : Pat w h x2 dx2 t2 v2) (i : IsTr h v1 T) (j : IsTr h v2 U) (hs : (joinT T U).sm = true) (hn1 : Nn T) (hn2 : Nn U) (hsz : ∀ x y, T = .chars x → U = .chars y → x.length + y.length ≤ sizeLine)
   (nx : x ∉ FX.map (·.1) ∧ dx ∉ FX.map (·.1) ∧ x2 ∉ FX.map (·.1) ∧ dx2 ∉ FX.map (·.1))
   (hA : A.frames = some outer) (Fs : Frs outer FX) (hFX : ∀ p ∈ FX, h.get? p.1 = some p.2 ∧ g.get? p.1 = none) (hnd : (FX.map (·.1)).Nodup)
   (hE : ¬ Good 0 [(joinT T U, 1)] → ∀ e h' tk', Thrown h FX 23 e h' → E (.ref e) (St s h' tk'))
   (ret : ∀ x dx t r h' tk', h.StaysIn h' → x ≠ dx → h.get? x = none → h.get? dx = none → Pat w h' x dx t r → Joined h' v1 v2 T U r → Good 0 [(joinT T U, 1)] → Q (.ref x) (St s h' tk')) :
   wpAny (model pg w) A (call (.ref 342) [wv, .ref x, .ref x2]) Q E (St s h tk) := by
  refine enterX [some wv, some (.ref x), some (.ref x2)] G hk (by k_is) (by k_is) (by decide +kernel) R (BindsTo.of_eq (bind_plain rfl rfl rfl (by decide +kernel))) (by dsimp only; repeat (first | exact Bnd.nil | refine Bnd.cons ?_)) hA Fs hFX hnd (by decide +kernel) hE ?_ (by rfl) (by rfl); intro B h L tk env A V G S hB hB' hL R hA hke hfe Lv hpo hLv; dsimp only at V S
  have kB : Tk _ B := tk_led hB hFX Fs.nt
  have I := I.in hB nx.1 nx.2.1
  have J := J.in hB nx.2.2.1 nx.2.2.2
  have i := i.keep kB
  have j := j.keep kB
  have hv1 := handed_tr i
  have hv2 := handed_tr j
  repeat' (walk_at "ms@7_1")
  refine x1_3 (S.out (FX := FX) (fun p hp => hp) hnd Fs hke hfe) fun oL Fs2 hFX2 hnd2 => ?_
  have it : IsTr h r (joinT T U) := hj.tr (i.keep (tk_of S)) (j.keep (tk_of S))
  refine c_checked G S.stays (R.le (by decide)) it hs hA Fs2 hFX2 hnd2 (fun bad e h5 tk5 Th => hLv bad _ _ (eb_call S (fun p hp => hp) hB (hFX2 _ (.head _)).1 Fs2.nd Th)) (fun h tk k gd => ?_)
  have S := S.call k
  repeat' (walk_at "ms@7_1")
  refine c_Pattern G S.stays (R.le (by decide)) fun x' dx' t' h5 tk5 k5 ne n1 n2 P => ?_
  have dm := dom_of S (FX := FX) (fun p hp => hp) hB
  have S := S.call k5
  exact ret x' dx' t' r h5 tk5 (stayX S (fun p hp => hp) (fun p hp => (hFX p hp).1) hB) ne (dm _ n1) (dm _ n2) P ((hj.keep (Tk.of_stays k)).keep (Tk.of_stays k5)) gd
theorem c_make_arbno {la : Addr} {c : Nat} (G : Gl w mg mb g) (hk : g.StaysIn h) (R : Rm A 5) (I : Pat w h x dx t v1) (hla : h.get? la = some (listOf [.ref x].toArray c)) (i : IsTr h v1 T) (hs : T.sm = true)
   (nx : x ∉ FX.map (·.1) ∧ dx ∉ FX.map (·.1) ∧ la ∉ FX.map (·.1))
   (hA : A.frames = some outer) (Fs : Frs outer FX) (hFX : ∀ p ∈ FX, h.get? p.1 = some p.2 ∧ g.get? p.1 = none) (hnd : (FX.map (·.1)).Nodup)
   (hE : ¬ Good 0 [(.arb T, 1)] → ∀ e h' tk', Thrown h FX 23 e h' → E (.ref e) (St s h' tk'))
   (ret : ∀ x dx t a u h' tk', h.StaysIn h' → x ≠ dx → h.get? x = none → h.get? dx = none → Pat w h' x dx t (.ref a) → IsTup h' a [.str (Str.ofString "arbno") u, v1].toArray → Good 0 [(.arb T, 1)] → Q (.ref x) (St s h' tk')) :
   wpAny (model pg w) A (call (.ref 694) [wv, .ref la]) Q E (St s h tk) := by
  refine enterX [some wv, some (.ref la)] G hk (by k_is) (by k_is) (by decide +kernel) R (BindsTo.of_eq (bind_plain rfl rfl rfl (by decide +kernel))) (by dsimp only; repeat (first | exact Bnd.nil | refine Bnd.cons ?_)) hA Fs hFX hnd (by decide +kernel) hE ?_ (by rfl) (by rfl); intro B h L tk env A V G S hB hB' hL R hA hke hfe Lv hpo hLv; dsimp only at V S
  have kB : Tk _ B := tk_led hB hFX Fs.nt
  have I := I.in hB nx.1 nx.2.1
  have i := i.keep kB
  have hv1 := handed_tr i
  have hl : B.IsList la [Value.ref x].toArray := ⟨_, hB _ _ hla nx.2.2, rfl, c, rfl⟩
  repeat' (walk_at "ms@7_1")
  refine o_itemL (hl.at fun o e => S.F.keep _ _ e) (by decide) (by decide) rfl ?_ (by with_unfolding_all rfl) (by intro _; with_unfolding_all rfl)
  repeat' (walk_at "ms@7_1")
  refine x1_3 (S.out (FX := FX) (fun p hp => hp) hnd Fs hke hfe) fun oL Fs2 hFX2 hnd2 => ?_
  have it : IsTr h (.ref a) (.arb T) := ⟨a, _, v1, rfl, ht, i.keep (tk_of S)⟩
  refine c_checked G S.stays (R.le (by decide)) it hs hA Fs2 hFX2 hnd2 (fun bad e h5 tk5 Th => hLv bad _ _ (eb_call S (fun p hp => hp) hB (hFX2 _ (.head _)).1 Fs2.nd Th)) (fun h tk k gd => ?_)
  have S := S.call k
  repeat' (walk_at "ms@7_1")
  refine c_Pattern G S.stays (R.le (by decide)) fun x' dx' t' h5 tk5 k5 ne n1 n2 P => ?_
  have dm := dom_of S (FX := FX) (fun p hp => hp) hB
  have S := S.call k5
  exact ret x' dx' t' a _ h5 tk5 (stayX S (fun p hp => hp) (fun p hp => (hFX p hp).1) hB) ne (dm _ n1) (dm _ n2) P (S.inF .z) gd
end
section
set_option maxHeartbeats 2000000
variable {w : World} {mg mb : Str → Option Value} {g : Heap} {A : Around} {s : Shared} {Q E : Value → Shared → Prop} {h : Heap} {tk n : Nat}

variable {outer : List Env} {FX : List (Addr × Obj)}
noncomputable def TaskX (w : World) (mg mb : Str → Option Value) (s : Shared) (h₀ : Heap) (X : List Addr) (m : Nat) (f : Addr) (P : Prop) (Ok : Heap → Value → Prop) : Prop :=
  ∀ {A : Around} {B h : Heap} {tk : Nat} {outer : List Env} {FX : List (Addr × Obj)} {Q E : Value → Shared → Prop}, Gl w mg mb B → B.StaysIn h → (∀ a o, h₀.get? a = some o → a ∉ X → B.get? a = some o) → (∀ a ∈ X, ∃ o, h.get? a = some o) → Rm A m → A.frames = some outer → Frs outer FX →
    (∀ p ∈ FX, h.get? p.1 = some p.2 ∧ B.get? p.1 = none) → (FX.map (·.1)).Nodup → (¬ P → ∀ e h' tk', Thrown h FX 23 e h' → E (.ref e) (St s h' tk')) → (∀ r h' tk', h.StaysIn h' → P → Ok h' r → Q r (St s h' tk')) → wpAny (model pg w) A (call (.ref f) []) Q E (St s h tk)
theorem c_outcomeX {f : Addr} {P : Prop} {Ok : Heap → Value → Prop} {m : Nat} (G : Gl w mg mb g) (hk : g.StaysIn h) (R : Rm A (m + 1)) (hf : FnAt f h) (nf : f ∉ FX.map (·.1)) (hT : TaskX w mg mb s h (FX.map (·.1)) m f P Ok)
   (hA : A.frames = some outer) (Fs : Frs outer FX) (hFX : ∀ p ∈ FX, h.get? p.1 = some p.2 ∧ g.get? p.1 = none) (hnd : (FX.map (·.1)).Nodup)
   (ret : ∀ r h' tk', h.StaysIn h' → P → Ok h' r → Q r (St s h' tk'))
   (ret23 : ¬ P → ∀ u h' FX' tk', Chg (FX.map (·.1)) h h' → Slf FX FX' → (∀ p ∈ FX', h'.get? p.1 = some p.2) → Q (.int 23 u) (St s h' tk')) : wpAny (model pg w) A (call (.ref 764) [.ref f]) Q E (St s h tk) := by
  have hE : False → ∀ e h' tk', Thrown h FX 23 e h' → E (.ref e) (St s h' tk') := fun q => q.elim
  refine enterX [some (.ref f)] G hk (by k_is) (by k_is) (by decide +kernel) R (BindsTo.of_eq (bind_plain rfl rfl rfl (by decide +kernel))) (by dsimp only; repeat (first | exact Bnd.nil | refine Bnd.cons ?_)) hA Fs hFX hnd (by decide +kernel) hE ?_ (by rfl) (by rfl); intro B h L tk env A V G S hB hB' hL R hA hke hfe Lv hpo hLv; dsimp only at V S
  refine x4_1 hf ?_; (try clear hf); intro oc od fd fsl hfo
  have hfo := S.F.keep _ _ (hB _ _ hfo nf)
  refine m_last (wpAny_Try_except ?_)
  repeat' (walk_at "ms@8_1")
  refine callWith_of (P := FnAt f) rfl (keeps_F) (ev_args rfl (evs_nil ⟨⟨oc, od, fd, fsl, hfo⟩, ?_⟩))
  obtain ⟨oL, Fs2, hFX2, hnd2⟩ := S.out (FX := FX) (fun p hp => hp) hnd Fs hke hfe
  have dm := dom_of S (FX := FX) (fun p hp => hp) hB
  have nd2 : ∀ vs, oL.data ≠ .fields vs := Fs2.nd
  refine hT G S.stays hB (fun a m => by obtain ⟨p, hp, rfl⟩ := List.mem_map.mp m; exact ⟨_, (hFX2 p (.tail _ hp)).1⟩) R hA Fs2 hFX2 hnd2 (fun np e h5 tk5 Th => ?_) (fun r h5 tk5 k5 hP ok => ?_)
  · refine x_catch V G S hA Fs hke hfe (hFX2 _ (.head _)).1 nd2 Th (by walk_at "zg") (by walk_at "zs") fun h tk FX' d od2 mA u fvs sl sf S hD hde hn => ?_
    refine excOut w fun nm q bs sn sub ab col dd k0 k1 k2 k3 k5 hoC => ?_
    refine x1_1 (excNs w (G.X.keeps S.F.keep)) fun mN N => ?_
    have I : h.Inst e 34 mA := ⟨_, (S.N _ (.head _)).1, rfl, (fun c z => nomatch z), .inr ⟨d, rfl, hde, hD h (S.N _ (.tail _ (.head _))).1⟩⟩
    repeat' (walk_at "ms@8_1")
    refine exc_attr (h := h) (S.F.keep _ _ (G.X _ _ hoC)) N.ns N.ga N.gt N.num exc_hB_number I hn rfl ?_
    refine wpAny_nameGoes (s := St s h _) ?_ (by rw [V.loc]; exact S.F.ns) ?_ fun h6 m6 ns6 sb6 => ?_
    · show env.scope.names.lookup _ = _
      rw [V.nm]; rfl
    · rw [V.wf.kd]; rfl
    rw [V.loc] at sb6
    · refine ret23 np u h6 FX' _ (fun a o z m => ?_) sf (fun p hp => ?_)
      · have za := hB a o z m
        exact (sb6.2 a (fun q => by
          have q : a = L := q
          rw [q, hL] at z; cases z)).trans (S.F.keep _ _ za)
      · have Pp := S.N p (.tail _ (.tail _ hp))
        exact (sb6.2 p.1 Pp.2.1).trans Pp.1
  · exact ret r h5 tk5 (fun b o z => k5 _ _ (stayX S (fun p hp => hp) (fun p hp => (hFX p hp).1) hB b o z)) hP ok
end
section
set_option maxHeartbeats 2000000
variable {w : World} {mg mb : Str → Option Value} {g : Heap} {A : Around} {s : Shared} {Q E : Value → Shared → Prop} {h : Heap} {tk n : Nat}

variable {x dx li ha : Addr} {t t1 t2 : Tok} {v : Value}
theorem c_node_of_pat (G : Gl w mg mb g) (hk : g.StaysIn h) (R : Rm A 1) (I : Pat w h x dx t v) (hv : handedIn v = true) (ret : ∀ h' tk', h.StaysIn h' → Q v (St s h' tk')) : wpAny (model pg w) A (call (.ref 771) [.ref x]) Q E (St s h tk) := by
  refine enterR [] [some (.ref x)] G hk (by k_is) (by k_is) (by decide +kernel) R (BindsTo.of_eq (bind_plain rfl rfl rfl (by decide +kernel))) (by dsimp only; repeat (first | exact Bnd.nil | refine Bnd.cons ?_)) (fun p hp => nomatch hp) List.nodup_nil (by decide +kernel) ?_ (by rfl) (by rfl); intro B h L tk env A V G S hB hB' hL R; dsimp only at V S
  have I := I.in hB (fun q => nomatch q) (fun q => nomatch q)
  repeat' (walk_at "ms@9_1")
  exact ret _ _ (stay S hB)
theorem c_node_of_int {i : Int} (G : Gl w mg mb g) (hk : g.StaysIn h) (R : Rm A 1) (ret : ∀ h' tk', h.StaysIn h' → Q (.int i t) (St s h' tk')) : wpAny (model pg w) A (call (.ref 771) [.int i t]) Q E (St s h tk) := by
  refine enterR [] [some (.int i t)] G hk (by k_is) (by k_is) (by decide +kernel) R (BindsTo.of_eq (bind_plain rfl rfl rfl (by decide +kernel))) (by dsimp only; repeat (first | exact Bnd.nil | refine Bnd.cons ?_)) (fun p hp => nomatch hp) List.nodup_nil (by decide +kernel) ?_ (by rfl) (by rfl); intro B h L tk env A V G S hB hB' hL R; dsimp only at V S
  repeat' (walk_at "ms@9_1")
  exact ret _ _ (stay S hB)
theorem c_given {below nn zz : Int} {c : Nat} {tn tz tb : Tok} {ls : List Value} (G : Gl w mg mb g) (hk : g.StaysIn h) (R : Rm A 1) (hb : 0 < below) (hn : 0 ≤ nn ∧ nn < 2 ^ 40) (hz : 0 ≤ zz ∧ zz < 2 ^ 40)
   (hl : h.IsList li ls.toArray) (hls : ls.length < 2 ^ 40) (hi : ∀ v ∈ ls, ∃ i t, v = .int i t) (hne : li ≠ ha) (hha : h.get? ha = some (listOf [.ref li, .int nn tn, .int zz tz].toArray c) ∧ g.get? ha = none)
   (ret : ∀ r u n' z' tn' tz' c' h' tk', Chg [ha] h h' → h'.get? ha = some (listOf [.ref li, .int n' tn', .int z' tz'].toArray c') → 0 ≤ n' ∧ n' ≤ nn + 1 → 0 ≤ z' ∧ z' < 2 ^ 40 → 0 ≤ r ∧ r < below → Q (.int r u) (St s h' tk')) :
   wpAny (model pg w) A (call (.ref 757) [.ref ha, .int below tb]) Q E (St s h tk) := by
  refine enterR [(ha, listOf [.ref li, .int nn tn, .int zz tz].toArray c)] [some (.ref ha), some (.int below tb)] G hk (by k_is) (by k_is) (by decide +kernel) R (BindsTo.of_eq (bind_plain rfl rfl rfl (by decide +kernel))) (by dsimp only; repeat (first | exact Bnd.nil | refine Bnd.cons ?_)) (mem_one hha) (nd_one) (by decide +kernel) ?_ (by rfl) (by rfl); intro B h L tk env A V G S hB hB' hL R; dsimp only at V S
  refine x1_3 hl ?_; (try clear hl); intro lo hlo hlc hld
  have hlB : B.IsList li ls.toArray := ⟨lo, hB _ _ hlo (not_one hne), hlc, hld⟩
  have hb0 : below ≠ 0 := by omega
  repeat' (walk_at "ms@9_1")
  refine o_lenL (hlB.at fun o e => S.F.keep _ _ e) (by exact lin1 [_] [] (.nlt (.V 0) (.W 2 40)) (.ilt (.C (.V 0)) (.W 2 63)) [[1, 1]] hls okT) fun t1 tk => ?_
  repeat' (walk_at "ms@9_1")
  by_cases c1 : nn + 1 ≤ (ls.length : Int)
  · refine it_dt c1 ?_
    repeat' (walk_at "ms@9_1")
    have hidx : (nn + 1 - 1).toNat < ls.length := by omega
    refine x2_1 (hi ls[(nn + 1 - 1).toNat] (List.getElem_mem hidx)) fun i ti hiv => ?_
    refine o_itemT (x := .int i ti) (hlB.at fun o e => S.F.keep _ _ e) (by exact lin1 [] [nn] (.A (.ile (.K 0) (.V 0)) (.ilt (.V 0) (.W 2 40))) (.ile (.K 0) (.S (.P (.V 0) (.K 1)) (.K 1))) [[1, 1, 0]] hn okT) (by exact lin1 [] [nn] (.A (.ile (.K 0) (.V 0)) (.ilt (.V 0) (.W 2 40))) (.ilt (.S (.P (.V 0) (.K 1)) (.K 1)) (.W 2 63)) [[1, 0, 1]] hn okT) (by rw [List.getElem?_eq_getElem hidx, hiv]) ?_ (by with_unfolding_all rfl)
    repeat' (walk_at "ms@9_1")
    have P := S.N _ (.head _)
    refine ret _ _ _ _ _ _ _ _ _ (stayC S hB) P.1 ⟨by exact lin1 [] [nn] (.A (.ile (.K 0) (.V 0)) (.ilt (.V 0) (.W 2 40))) (.ile (.K 0) (.P (.V 0) (.K 1))) [[1, 1, 0]] hn okT, by exact lin0 [] [nn] (.ile (.P (.V 0) (.K 1)) (.P (.V 0) (.K 1))) [[1]]  okT⟩ hz ⟨?_, ?_⟩
    · exact Int.fmod_nonneg_of_pos _ hb
    · exact Int.fmod_lt_of_pos _ hb
  · refine it_df c1 ?_
    repeat' (walk_at "ms@9_1")
    have P := S.N _ (.head _)
    refine ret _ _ _ _ _ _ _ _ _ (stayC S hB) P.1 ⟨by exact lin1 [] [nn] (.A (.ile (.K 0) (.V 0)) (.ilt (.V 0) (.W 2 40))) (.ile (.K 0) (.P (.V 0) (.K 1))) [[1, 1, 0]] hn okT, by exact lin0 [] [nn] (.ile (.P (.V 0) (.K 1)) (.P (.V 0) (.K 1))) [[1]]  okT⟩ ⟨?_, ?_⟩ ⟨?_, ?_⟩
    · exact Int.fmod_nonneg_of_pos _ (by decide)
    · exact Int.lt_trans (Int.fmod_lt_of_pos _ (by decide)) (by decide)
    · exact Int.fmod_nonneg_of_pos _ hb
    · exact Int.fmod_lt_of_pos _ hb
end
section
set_option maxHeartbeats 2000000
variable {w : World} {mg mb : Str → Option Value} {g : Heap} {A : Around} {s : Shared} {Q E : Value → Shared → Prop} {h : Heap} {tk n : Nat}

noncomputable def lawOf (n : Nat) (T : Tr) : Tr :=
  if h : n < 3 then (if n = 1 then T else .arb T) else .alt (lawOf ((n - 1) / 2) T) (lawOf (n - 1 - (n - 1) / 2) T)
termination_by n
decreasing_by
  all_goals first | exact Nat.lt_of_le_of_lt (Nat.div_le_self _ _) (Nat.sub_lt (Nat.lt_of_lt_of_le (by decide) (Nat.le_of_not_lt h)) Nat.one_pos) | exact Nat.lt_of_le_of_lt (Nat.sub_le _ _) (Nat.sub_lt (Nat.lt_of_lt_of_le (by decide) (Nat.le_of_not_lt h)) Nat.one_pos)
theorem half_int {n : Nat} (h : 3 ≤ n) : ((n : Int) - 1).fdiv 2 = (((n - 1) / 2 : Nat) : Int) := by
  rw [Int.fdiv_eq_ediv_of_nonneg _ (by decide), show (n : Int) - 1 = ((n - 1 : Nat) : Int) from (Int.ofNat_sub (Nat.le_trans (by decide) h)).symm]; rfl
theorem c_law_of {T : Tr} {v : Value} : ∀ (n : Nat) {w : World} {mg mb : Str → Option Value} {g : Heap} {A : Around} {s : Shared} {Q E : Value → Shared → Prop} {h : Heap} {tk : Nat} {t : Tok} (G : Gl w mg mb g) (hk : g.StaysIn h) (R : Rm A (n + 1)) (I : IsTr h v T)
   (ret : ∀ r h' tk', h.StaysIn h' → IsTr h' r (lawOf n T) → Q r (St s h' tk')), wpAny (model pg w) A (call (.ref 802) [.int (n : Int) t, v]) Q E (St s h tk) := by
  intro n
  induction n using Nat.strongRecOn with
  | ind n ih =>
    intro w mg mb g A s Q E h tk t G hk R I ret
    refine enterR [] [some (.int (n : Int) t), some v] G hk (by k_is) (by k_is) (by decide +kernel) R (BindsTo.of_eq (bind_plain rfl rfl rfl (by decide +kernel))) (by dsimp only; repeat (first | exact Bnd.nil | refine Bnd.cons ?_)) (fun p hp => nomatch hp) List.nodup_nil (by decide +kernel) ?_ (by rfl) (by rfl); intro B h L tk env A V G S hB hB' hL R; dsimp only at V S
    have I := I.keep (tk_base0 hB)
    have hv : handedIn v = true := by obtain ⟨a, rfl⟩ := I.ref; rfl
    unfold lawOf at ret
    by_cases c : n < 3
    · rw [dif_pos c] at ret
      have c1 : (n : Int) < 3 := by exact lin1 [n] [] (.nlt (.V 0) (.K 3)) (.ilt (.C (.V 0)) (.K 3)) [[1, 1]] c okT
      repeat' (walk_at "ms@10_1")
      refine it_dt c1 ?_
      repeat' (walk_at "ms@10_1")
      by_cases c2 : n = 1
      · subst c2
        rw [if_pos rfl] at ret
        repeat' (walk_at "ms@10_1")
        exact ret _ _ _ (stay S hB) (I.keep (tk_of S))
      · rw [if_neg c2] at ret
        refine it_is (y := false) (beq_eq_false_iff_ne.mpr (by omega)) (it_f ?_)
        repeat' (walk_at "ms@10_1")
        exact ret _ _ _ (stay S hB) ⟨a, _, v, rfl, S.inF .z, I.keep (tk_of S)⟩
    · rw [dif_neg c] at ret
      have c1 : ¬ (n : Int) < 3 := by exact lin1 [n] [] (.no (.nlt (.V 0) (.K 3))) (.no (.ilt (.C (.V 0)) (.K 3))) [[1, 1]] c okT
      repeat' (walk_at "ms@10_1")
      refine it_df c1 ?_
      repeat' (walk_at "ms@10_1")
      simp only [half_int (show 3 ≤ n by exact lin1 [n] [] (.no (.nlt (.V 0) (.K 3))) (.nle (.K 3) (.V 0)) [[1, 1]] c okT)] at S ⊢
      have e2 : (n : Int) - 1 - (((n - 1) / 2 : Nat) : Int) = ((n - 1 - (n - 1) / 2 : Nat) : Int) := by
        rw [Int.ofNat_sub (Nat.div_le_self _ _), Int.ofNat_sub (Nat.le_trans (by decide) (Nat.le_of_not_lt c))]; rfl
      refine ih ((n - 1) / 2) (by exact lin1 [n, _, _] [] (.ieq (.S (.S (.C (.V 0)) (.K 1)) (.C (.V 1))) (.C (.V 2))) (.nlt (.V 1) (.V 0)) [[1, -1]] e2 (by decide +kernel)) G S.stays (R.le (by exact lin1 [n, _, _] [] (.ieq (.S (.S (.C (.V 0)) (.K 1)) (.C (.V 1))) (.C (.V 2))) (.nle (.P (.V 1) (.K 1)) (.V 0)) [[1, -1]] e2 (by decide +kernel))) (I.keep (tk_of S)) fun r1 h tk k i1 => ?_
      have S := (S.call k).fact (trF r1 _) i1
      repeat' (walk_at "ms@10_1")
      rw [e2]
      refine ih (n - 1 - (n - 1) / 2) (by exact lin1 [n, _, _] [] (.ieq (.S (.S (.C (.V 0)) (.K 1)) (.C (.V 1))) (.C (.V 2))) (.nlt (.V 2) (.V 0)) [[1, -1]] e2 (by decide +kernel)) G S.stays (R.le (by exact lin1 [n, _, _] [] (.ieq (.S (.S (.C (.V 0)) (.K 1)) (.C (.V 1))) (.C (.V 2))) (.nle (.P (.V 2) (.K 1)) (.V 0)) [[1, -1]] e2 (by decide +kernel))) (I.keep (tk_of S)) fun r2 h tk k i2 => ?_
      have S := (S.call k).fact (trF r2 _) i2
      repeat' (walk_at "ms@10_1")
      exact ret _ _ _ (stay S hB) ⟨a, _, r1, r2, rfl, S.inF .z, S.ft (trF r1 _) (.tail _ (.tail _ (.head _))), S.ft (trF r2 _) (.tail _ (.head _))⟩
end
section
set_option maxHeartbeats 2000000
variable {w : World} {mg mb : Str → Option Value} {g : Heap} {A : Around} {s : Shared} {Q E : Value → Shared → Prop} {h : Heap} {tk n : Nat}

variable {v v1 v2 v3 : Value}
theorem none_of {h B : Heap} {a : Addr} (k : h.StaysIn B) (n : B.get? a = none) : h.get? a = none := by
  cases z : h.get? a with
  | none => rfl
  | some o => rw [k _ _ z] at n; cases n
theorem cl_NameRef (w : World) : Cl w 110 [Str.ofString "kind", Str.ofString "owner", Str.ofString "key"] := ⟨by k_is, by k_is, by k_is, by k_is, by decide +kernel, by repeat (first | exact an | refine am (by k_is) ?_)⟩
theorem cl_PlainHost (w : World) : Cl w 295 [Str.ofString "values", Str.ofString "limit", Str.ofString "refused", Str.ofString "steps", Str.ofString "log"] := ⟨by k_is, by k_is, by k_is, by k_is, by decide +kernel, by repeat (first | exact an | refine am (by k_is) ?_)⟩
theorem cl_PatternCode (w : World) : Cl w 417 [Str.ofString "orders"] := ⟨by k_is, by k_is, by k_is, by k_is, by decide, by intro x hx; rw [List.mem_singleton.mp hx]; k_is⟩
noncomputable abbrev RefAt (w : World) (h : Heap) (x dx : Addr) (ts : List Tok) (v1 v2 v3 : Value) : Prop := Ins h x 110 dx (dob w.params [Str.ofString "kind", Str.ofString "owner", Str.ofString "key"] ts [v1, v2, v3])
theorem c_NameRef (G : Gl w mg mb g) (hk : g.StaysIn h) (R : Rm A 2) (ret : ∀ x dx t1 t2 t3 h' tk', h.StaysIn h' → x ≠ dx → h.get? x = none → h.get? dx = none → RefAt w h' x dx [t1, t2, t3] v1 v2 v3 → Q (.ref x) (St s h' tk')) : wpAny (model pg w) A (call (.ref 110) [v1, v2, v3]) Q E (St s h tk) := by
  refine' makeI (C := 110) (fI := 107) (fun x => [some x, some v1, some v2, some v3]) (fun x => [(Str.ofString "self", x), (Str.ofString "kind", v1), (Str.ofString "owner", v2), (Str.ofString "key", v3)]) G hk ⟨by k_is, by k_is, by k_is⟩ (by k_is) (by k_is) (by decide +kernel) (by have := R.d; exact lin1 [_, PySem.recursionLimit] [] (.nlt (.P (.V 0) (.K 2)) (.V 1)) (.nlt (.P (.V 0) (.K 1)) (.V 1)) [[1, 1]] this okT) ?hb (fun x => by dsimp only; repeat (first | exact Bnd.nil | apply Bnd.cons)) (by decide +kernel) ?_ (by rfl) (by rfl)
  case hb => intro x h k; refine BindsTo.of_eq ((bind_plain rfl rfl rfl ?_).trans rfl); decide +kernel
  intro B h L tk env A x dx V G S hk' n1 n2 hd hh
  dsimp only at V S
  have S : Sx B L h _ _ [(x, instObj 110 dx), (dx, dob w.params [] [] [])] [] := S
  repeat' (walk_at "ms@11_1")
  refine iq_next (ret _ _ _ _ _ _ _ (fun b o e => S.F.keep b o (hk' b o e)) ?_ n1 n2 (S.ins .z (.s .z)))
  exact fun q => (List.nodup_cons.mp S.nd).1 (by rw [q]; exact .head _)
noncomputable abbrev hns : List Str := [Str.ofString "values", Str.ofString "limit", Str.ofString "refused", Str.ofString "steps", Str.ofString "log"]
theorem c_PlainHost (G : Gl w mg mb g) (hk : g.StaysIn h) (R : Rm A 2) (ret : ∀ x dx ts lg t h' tk', h.StaysIn h' → x ≠ dx → h.get? x = none → h.get? dx = none → ts.length = 5 → Ins h' x 295 dx (dob w.params hns ts [v1, v2, v3, .int 0 t, .ref lg]) → Q (.ref x) (St s h' tk')) : wpAny (model pg w) A (call (.ref 295) [v1, v2, v3]) Q E (St s h tk) := by
  refine' makeI (C := 295) (fI := 271) (fun x => [some x, some v1, some v2, some v3]) (fun x => [(Str.ofString "self", x), (Str.ofString "values", v1), (Str.ofString "limit", v2), (Str.ofString "refused", v3)]) G hk ⟨by k_is, by k_is, by k_is⟩ (by k_is) (by k_is) (by decide +kernel) (by have := R.d; exact lin1 [_, PySem.recursionLimit] [] (.nlt (.P (.V 0) (.K 2)) (.V 1)) (.nlt (.P (.V 0) (.K 1)) (.V 1)) [[1, 1]] this okT) ?hb (fun x => by dsimp only; repeat (first | exact Bnd.nil | apply Bnd.cons)) (by decide +kernel) ?_ (by rfl) (by rfl)
  case hb => intro x h k; refine BindsTo.of_eq ((bind_plain rfl rfl rfl ?_).trans rfl); decide +kernel
  intro B h L tk env A x dx V G S hk' n1 n2 hd hh
  dsimp only at V S
  have S : Sx B L h _ _ [(x, instObj 295 dx), (dx, dob w.params [] [] [])] [] := S
  repeat' (walk_at "ms@11_1")
  refine iq_next (ret _ _ _ _ _ _ _ (fun b o e => S.F.keep b o (hk' b o e)) ?_ n1 n2 rfl (S.ins (.s .z) (.s (.s .z))))
  intro q
  have := (List.nodup_cons.mp (List.nodup_cons.mp S.nd).2).1
  exact this (by rw [q]; exact .head _)
theorem c_PatternCode (G : Gl w mg mb g) (hk : g.StaysIn h) (R : Rm A 2) (ret : ∀ x dx lo t h' tk', h.StaysIn h' → h.get? x = none → h.get? dx = none → h.get? lo = none → Ins h' x 417 dx (dob w.params [Str.ofString "orders"] [t] [.ref lo]) → h'.get? lo = some (listOf [].toArray 0) → [x, dx, lo].Nodup → Q (.ref x) (St s h' tk')) : wpAny (model pg w) A (call (.ref 417) []) Q E (St s h tk) := by
  refine' makeI (C := 417) (fI := 386) (fun x => [some x]) (fun x => [(Str.ofString "self", x)]) G hk ⟨by k_is, by k_is, by k_is⟩ (by k_is) (by k_is) (by decide +kernel) (by have := R.d; exact lin1 [_, PySem.recursionLimit] [] (.nlt (.P (.V 0) (.K 2)) (.V 1)) (.nlt (.P (.V 0) (.K 1)) (.V 1)) [[1, 1]] this okT) ?hb (fun x => by dsimp only; repeat (first | exact Bnd.nil | apply Bnd.cons)) (by decide +kernel) ?_ (by rfl) (by rfl)
  case hb => intro x h k; refine BindsTo.of_eq ((bind_plain rfl rfl rfl ?_).trans rfl); decide +kernel
  intro B h L tk env A x dx V G S hk' n1 n2 hd hh
  dsimp only at V S
  have S : Sx B L h _ _ [(x, instObj 417 dx), (dx, dob w.params [] [] [])] [] := S
  repeat' (walk_at "ms@11_1")
  have n3 : B.get? a = none := (S.N _ (.head _)).2.2
  refine iq_next (ret _ _ _ _ _ _ (fun b o e => S.F.keep b o (hk' b o e)) n1 n2 ?_ (S.ins (.s .z) (.s (.s .z))) (S.N _ (.head _)).1 ?_)
  · exact none_of hk' n3
  · exact (List.Perm.nodup_iff (List.perm_append_comm (l₁ := [a]) (l₂ := [x, dx]))).mp S.nd
end
section
set_option maxHeartbeats 2000000
variable {w : World} {mg mb : Str → Option Value} {g : Heap} {A : Around} {s : Shared} {Q E : Value → Shared → Prop} {h : Heap} {tk n : Nat}

variable {v v1 v2 v3 lg : Value} {x dx : Addr} {t1 t2 t3 t4 t5 : Tok}
noncomputable abbrev hob (w : World) (t1 t2 t3 t4 t5 : Tok) (v1 v2 v3 v4 v5 : Value) : Obj := dob w.params hns [t1, t2, t3, t4, t5] [v1, v2, v3, v4, v5]
theorem c_step {n lim : Int} {tn tl : Tok} (G : Gl w mg mb g) (hk : g.StaysIn h) (R : Rm A 1) (hx : h.get? x = some (instObj 295 dx)) (hne : x ≠ dx) (hd : h.get? dx = some (hob w t1 t2 t3 t4 t5 v1 (.int lim tl) v3 (.int n tn) lg) ∧ g.get? dx = none) (hlim : n + 1 ≤ lim)
   (ret : ∀ tn' h' tk', Chg [dx] h h' → h'.get? dx = some (hob w t1 t2 t3 t4 t5 v1 (.int lim tl) v3 (.int (n + 1) tn') lg) → Q .none (St s h' tk')) : wpAny (model pg w) A (call (.ref 292) [.ref x]) Q E (St s h tk) := by
  refine enterR [(dx, hob w t1 t2 t3 t4 t5 v1 (.int lim tl) v3 (.int n tn) lg)] [some (.ref x)] G hk (by k_is) (by k_is) (by decide +kernel) R (BindsTo.of_eq (bind_plain rfl rfl rfl (by decide +kernel))) (by dsimp only; repeat (first | exact Bnd.nil | refine Bnd.cons ?_)) (mem_one hd) (nd_one) (by decide +kernel) ?_ (by rfl) (by rfl); intro B h L tk env A V G S hB hB' hL R; dsimp only at V S
  have hxB := hB _ _ hx (not_one hne)
  repeat' (walk_at "ms@12_1")
  refine it_df (by exact lin1 [] [n, lim] (.ile (.P (.V 0) (.K 1)) (.V 1)) (.no (.ilt (.V 1) (.P (.V 0) (.K 1)))) [[1, 1]] hlim okT) ?_
  repeat' (walk_at "ms@12_1")
  exact ret _ _ _ (stayC S hB) (S.N _ (.head _)).1
end
section
set_option maxHeartbeats 2000000
variable {w : World} {mg mb : Str → Option Value} {g : Heap} {A : Around} {s : Shared} {Q E : Value → Shared → Prop} {h : Heap} {tk n : Nat}

variable {v v1 : Value} {x dx lo : Addr} {t1 : Tok}
noncomputable abbrev CodeAt (w : World) (h : Heap) (x dx lo : Addr) (t : Tok) : Prop := Ins h x 417 dx (dob w.params [Str.ofString "orders"] [t] [.ref lo])
theorem c_emit {l : List Value} {c : Nat} (G : Gl w mg mb g) (hk : g.StaysIn h) (R : Rm A 1) (I : CodeAt w h x dx lo t1) (hne : x ≠ lo ∧ dx ≠ lo) (hl : h.get? lo = some (listOf l.toArray c) ∧ g.get? lo = none) (hz : l.length ≤ 2 ^ 20)
   (ret : ∀ t h' tk', Chg [lo] h h' → h'.get? lo = some (listOf (l ++ [v]).toArray (c + 1)) → Q (.int (l.length : Int) t) (St s h' tk')) : wpAny (model pg w) A (call (.ref 393) [.ref x, v]) Q E (St s h tk) := by
  refine enterR [(lo, listOf l.toArray c)] [some (.ref x), some v] G hk (by k_is) (by k_is) (by decide +kernel) R (BindsTo.of_eq (bind_plain rfl rfl rfl (by decide +kernel))) (by dsimp only; repeat (first | exact Bnd.nil | refine Bnd.cons ?_)) (mem_one hl) (nd_one) (by decide +kernel) ?_ (by rfl) (by rfl); intro B h L tk env A V G S hB hB' hL R; dsimp only at V S
  have I : CodeAt w B x dx lo t1 := ⟨hB _ _ I.inst (not_one hne.1), hB _ _ I.dict (not_one hne.2)⟩
  repeat' (walk_at "ms@13_1")
  refine o_append S .z rfl (by unfold sizeLine; exact lin1 [_] [] (.nle (.V 0) (.W 2 20)) (.nle (.V 0) (.W 2 24)) [[1, 1]] hz okT) ?_
  clear S; intro h tk S
  have hz2 : ((l ++ [v]).length : Int) < 2 ^ 63 := by simp; exact lin1 [_] [] (.nle (.V 0) (.W 2 20)) (.ilt (.P (.C (.V 0)) (.K 1)) (.K 9223372036854775808)) [[1, 1]] hz okT
  repeat' (walk_at "ms@13_1")
  have e : (((l ++ [v]).length : Nat) : Int) - 1 = (l.length : Int) := by simp
  rw [e]
  exact ret _ _ _ (stayC S hB) (S.N _ (.head _)).1
theorem c_is_plain_text {T : Tr} (G : Gl w mg mb g) (hk : g.StaysIn h) (R : Rm A 1) (I : IsTr h v T) (ret : ∀ h' tk', h.StaysIn h' → Q (.bool T.isChars) (St s h' tk')) : wpAny (model pg w) A (call (.ref 365) [v]) Q E (St s h tk) := by
  obtain ⟨a, rfl⟩ := I.ref
  cases c1 : T.isChars with
  | true =>
    obtain ⟨x, rfl⟩ := chars_of c1
    refine enterR [] [some (.ref a)] G hk (by k_is) (by k_is) (by decide +kernel) R (BindsTo.of_eq (bind_plain rfl rfl rfl (by decide +kernel))) (by dsimp only; repeat (first | exact Bnd.nil | refine Bnd.cons ?_)) (fun p hp => nomatch hp) List.nodup_nil (by decide +kernel) ?_ (by rfl) (by rfl); intro B h L tk env A V G S hB hB' hL R; dsimp only at V S
    refine AtS.el (IsTr.keep (tk_base0 hB) I) fun t u i => ?_
    repeat' (walk_at "ms@13_1")
    exact c1 ▸ ret _ _ (stay S hB)
  | false =>
    refine enterR [] [some (.ref a)] G hk (by k_is) (by k_is) (by decide +kernel) R (BindsTo.of_eq (bind_plain rfl rfl rfl (by decide +kernel))) (by dsimp only; repeat (first | exact Bnd.nil | refine Bnd.cons ?_)) (fun p hp => nomatch hp) List.nodup_nil (by decide +kernel) ?_ (by rfl) (by rfl); intro B h L tk env A V G S hB hB' hL R; dsimp only at V S
    refine (I.keep (tk_base0 hB)).at fun t l i => ?_
    have hk1 := T.kind_chars.trans c1
    repeat' (walk_at "ms@13_1")
    exact q_of hk1 (c1 ▸ ret _ _ (stay S hB))
end
section
set_option maxHeartbeats 2000000
variable {w : World} {mg mb : Str → Option Value} {g : Heap} {A : Around} {s : Shared} {Q E : Value → Shared → Prop} {h : Heap} {tk n : Nat}

noncomputable abbrev wyn : List Str := [Str.ofString "orders", Str.ofString "pc", Str.ofString "at", Str.ofString "named", Str.ofString "marks", Str.ofString "calls"]
theorem cl_Way (w : World) : Cl w 585 wyn := ⟨by k_is, by k_is, by k_is, by k_is, by decide +kernel, by repeat (first | exact an | refine am (by k_is) ?_)⟩
theorem cl_Match (w : World) : Cl w 662 [Str.ofString "subject", Str.ofString "host", Str.ofString "history"] := ⟨by k_is, by k_is, by k_is, by k_is, by decide +kernel, by repeat (first | exact an | refine am (by k_is) ?_)⟩
variable {v1 v2 v3 v4 v5 v6 : Value}
theorem c_Way (G : Gl w mg mb g) (hk : g.StaysIn h) (R : Rm A 2) (ret : ∀ x dx ts h' tk', h.StaysIn h' → x ≠ dx → h.get? x = none → h.get? dx = none → ts.length = 6 → Ins h' x 585 dx (dob w.params wyn ts [v1, v2, v3, v4, v5, v6]) → Q (.ref x) (St s h' tk')) : wpAny (model pg w) A (call (.ref 585) [v1, v2, v3, v4, v5, v6]) Q E (St s h tk) := by
  refine' makeI (C := 585) (fI := 575) (fun x => [some x, some v1, some v2, some v3, some v4, some v5, some v6]) (fun x => [(Str.ofString "self", x), (Str.ofString "orders", v1), (Str.ofString "pc", v2), (Str.ofString "at", v3), (Str.ofString "named", v4), (Str.ofString "marks", v5), (Str.ofString "calls", v6)]) G hk ⟨by k_is, by k_is, by k_is⟩ (by k_is) (by k_is) (by decide +kernel) (by have := R.d; exact lin1 [_, PySem.recursionLimit] [] (.nlt (.P (.V 0) (.K 2)) (.V 1)) (.nlt (.P (.V 0) (.K 1)) (.V 1)) [[1, 1]] this okT) ?hb (fun x => by dsimp only; repeat (first | exact Bnd.nil | apply Bnd.cons)) (by decide +kernel) ?_ (by rfl) (by rfl)
  case hb => intro x h k; refine BindsTo.of_eq ((bind_plain rfl rfl rfl ?_).trans rfl); decide +kernel
  intro B h L tk env A x dx V G S hk' n1 n2 hd hh
  dsimp only at V S
  have S : Sx B L h _ _ [(x, instObj 585 dx), (dx, dob w.params [] [] [])] [] := S
  repeat' (walk_at "ms@14_1")
  refine iq_next (ret _ _ _ _ _ (fun b o e => S.F.keep b o (hk' b o e)) ?_ n1 n2 rfl (S.ins .z (.s .z)))
  exact fun q => (List.nodup_cons.mp S.nd).1 (by rw [q]; exact .head _)
end
section
set_option maxHeartbeats 2000000
variable {w : World} {mg mb : Str → Option Value} {g : Heap} {A : Around} {s : Shared} {Q E : Value → Shared → Prop} {h : Heap} {tk n : Nat}

variable {v1 v2 v3 : Value}
theorem c_Match (G : Gl w mg mb g) (hk : g.StaysIn h) (R : Rm A 2) (ret : ∀ x dx lo ts h' tk', h.StaysIn h' → h.get? x = none → h.get? dx = none → h.get? lo = none → ts.length = 3 → Ins h' x 662 dx (dob w.params [Str.ofString "subject", Str.ofString "host", Str.ofString "history"] ts [v1, v2, .ref lo]) → h'.get? lo = some (listOf [].toArray 0) → [x, dx, lo].Nodup → Q (.ref x) (St s h' tk')) : wpAny (model pg w) A (call (.ref 662) [v1, v2]) Q E (St s h tk) := by
  refine' makeI (C := 662) (fI := 603) (fun x => [some x, some v1, some v2]) (fun x => [(Str.ofString "self", x), (Str.ofString "subject", v1), (Str.ofString "host", v2)]) G hk ⟨by k_is, by k_is, by k_is⟩ (by k_is) (by k_is) (by decide +kernel) (by have := R.d; exact lin1 [_, PySem.recursionLimit] [] (.nlt (.P (.V 0) (.K 2)) (.V 1)) (.nlt (.P (.V 0) (.K 1)) (.V 1)) [[1, 1]] this okT) ?hb (fun x => by dsimp only; repeat (first | exact Bnd.nil | apply Bnd.cons)) (by decide +kernel) ?_ (by rfl) (by rfl)
  case hb => intro x h k; refine BindsTo.of_eq ((bind_plain rfl rfl rfl ?_).trans rfl); decide +kernel
  intro B h L tk env A x dx V G S hk' n1 n2 hd hh
  dsimp only at V S
  have S : Sx B L h _ _ [(x, instObj 662 dx), (dx, dob w.params [] [] [])] [] := S
  repeat' (walk_at "ms@15_1")
  have n3 : B.get? a = none := (S.N _ (.head _)).2.2
  refine iq_next (ret _ _ _ _ _ _ (fun b o e => S.F.keep b o (hk' b o e)) n1 n2 (none_of hk' n3) rfl (S.ins (.s .z) (.s (.s .z))) (S.N _ (.head _)).1 ?_)
  exact (List.Perm.nodup_iff (List.perm_append_comm (l₁ := [a]) (l₂ := [x, dx]))).mp S.nd
end
section
set_option maxHeartbeats 2000000
variable {w : World} {mg mb : Str → Option Value} {g : Heap} {A : Around} {s : Shared} {Q E : Value → Shared → Prop} {h : Heap} {tk n : Nat}

variable {outer : List Env} {FX : List (Addr × Obj)} {x dx x2 dx2 f c' ci cw cn cf : Addr} {t t2 : Tok} {v1 v2 wv pm ctv : Value} {T U : Tr} {X : List Addr} {h₀ : Heap} {q : Str} {params : Arguments} {pos1 pos2 : Pos} {oi ow on of : Obj} {j : Bool}
noncomputable abbrev putQ : Str := Str.ofString "_law_put_right" ++ ".<locals>." ++ "<lambda>"
theorem sm_cat {T U : Tr} (a : T.sm = true) (b : U.sm = true) : (Tr.cat T U).sm = true := Bool.and_eq_true_iff.mpr ⟨a, b⟩
theorem nc_both {T U : Tr} (h : (T.isChars && U.isChars) = false) : ∀ x y, T = .chars x → U = .chars y → x.length + y.length ≤ sizeLine := fun x y e1 e2 => by rw [e1, e2] at h; cases h
inductive MadeOk (w : World) (H : Heap) (sg : Str) (one other : Value) : Value → Prop
  | mk (x dx : Addr) (t : Tok) (a : Addr) (u : Tok) : Pat w H x dx t (.ref a) → IsTup H a [.str sg u, one, other].toArray → MadeOk w H sg one other (.ref x)
theorem ite_b {j : Bool} {a b : Prop} (f : j = true → a) (g : j = false → b) : if j = true then a else b := by cases j <;> first | exact it_t (f rfl) | exact it_f (g rfl)
theorem Joined.ok {w : World} {H : Heap} {T U : Tr} {one other r : Value} {x dx : Addr} {t : Tok} {j : Bool} (hj : j = true) (h : (T.isChars && U.isChars) = false) (P : Pat w H x dx t r) (J : Joined H one other T U r) : MadeOk w H (if j = true then Str.ofString "cat" else Str.ofString "alt") one other (.ref x) := by
  exact (fun ⟨a, u, e, i⟩ => by subst e hj; exact ⟨x, dx, t, a, u, P, i⟩) (J.ne h)
theorem c_put_right {T U : Tr} {one other : Value} {j due : Bool} {ps : Array Value} (G : Gl w mg mb g) (hk : g.StaysIn h) (R : Rm A 12) (I : IsTr h one T) (J : IsTr h other U) (hs1 : T.sm = true) (hs2 : U.sm = true) (hn1 : Nn T) (hn2 : Nn U) (hnc : (T.isChars && U.isChars) = false)
   (hdue : due = true ↔ Good 0 [(if j = true then .cat T U else .alt T U, 1)])
   (hps : h.get? 773 = some (tabObj ps) ∧ g.get? 773 = none) (ht : TriplesOk ps.toList) (ok : tabOk putQ ps h)
   (hA : A.frames = some outer) (Fs : Frs outer FX) (hFX : ∀ p ∈ FX, h.get? p.1 = some p.2 ∧ g.get? p.1 = none) (hnd : (((773, tabObj ps) :: FX).map (·.1)).Nodup)
   (ret : ∀ ps' FX' h' tk', Chg (773 :: FX.map (·.1)) h h' → h'.get? 773 = some (tabObj ps') → TriplesOk ps'.toList → tabOk putQ ps' h' → Slf FX FX' → (∀ p ∈ FX', h'.get? p.1 = some p.2) → Q (.bool true) (St s h' tk')) :
   wpAny (model pg w) A (call (.ref 778) [.bool j, one, other, .bool due]) Q E (St s h tk) := by
  have hled : ∀ p ∈ (773, tabObj ps) :: FX, h.get? p.1 = some p.2 ∧ g.get? p.1 = none := mem_cons' hps hFX
  refine enterC ((773, tabObj ps) :: FX) [none, some one, some other, some (.bool due)] G hk (by k_is) (by k_is) (by decide +kernel) R (BindsTo.of_eq (bind_plain rfl rfl rfl (by decide +kernel))) (by dsimp only; repeat (first | exact BndC.nil | refine BndC.loc ?_ | refine BndC.cel ?_)) hA hled hnd (by decide +kernel) ?_ (by rfl) (by rfl); intro B h L tk env A cells V EC EQ ED G CA S hB hB' hL R hA hke hfe; dsimp only at V S EC CA
  have EC : env.cells = [(Str.ofString "world", L + 1 + 1 + 1 + 1), (Str.ofString "near", L + 1 + 1 + 1), (Str.ofString "far", L + 1 + 1), (Str.ofString "is_join", L + 1)] := EC
  have CA : CellsAre _ [(Str.ofString "world", L + 1 + 1 + 1 + 1), (Str.ofString "near", L + 1 + 1 + 1), (Str.ofString "far", L + 1 + 1), (Str.ofString "is_join", L + 1)] cells := CA
  refine x4_5 (CA.four) fun o1 o2 o3 o4 zq4 d1 d2 d3 d4 => ?_; subst zq4
  have d4 : o4.data = .cell (some (.bool j)) := d4
  have d1 : o1.data = .cell none := d1
  have d2 : o2.data = .cell none := d2
  have d3 : o3.data = .cell none := d3
  generalize L + 1 + 1 + 1 + 1 = cw at *
  generalize L + 1 + 1 + 1 = cn at *
  generalize L + 1 + 1 = cf at *
  generalize L + 1 = ci at *
  simp only [List.cons_append, List.nil_append] at S
  repeat' (walk_at "ms@16_1")
  refine c_World G S.stays (R.le (by decide)) fun xw h tk k nw => ?_
  have S := S.call k
  repeat' (walk_at "ms@16_1")
  refine c_Pattern G S.stays (R.le (by decide)) fun x1 dx1 t1 h tk k ne n1 n2 P1 => ?_
  have S := S.gotI k ne n1 n2 P1
  repeat' (walk_at "ms@16_1")
  refine c_Pattern G S.stays (R.le (by decide)) fun x2 dx2 t2 h tk k ne2 n12 n22 P2 => ?_
  have S := S.gotI k ne2 n12 n22 P2
  repeat' (walk_at "ms@16_1")
  have okB : tabOk putQ ps B := (tabF putQ ps).keeps _ _ (tk_led hB hled (mem_cons' (ntup_tab ht) Fs.nt)) ok
  have kB : Tk _ B := tk_led hB hled (mem_cons' (ntup_tab ht) Fs.nt)
  have I := I.keep kB
  have J := J.keep kB
  refine e_lam V G S rfl (q := putQ) (by rw [EQ]) ED (c := 777) (P := 773) G.cd.1 ((closureFor_cells EC).trans rfl) (by walk_at "zm") ht ((tabF putQ ps).keeps _ _ (tk_of S) okB) fun ps' => ⟨_, by walk_at "zu", fun f c' ctv h tk ht' ok' hcr S => ?_⟩
  have S := S.fact (tabF putQ ps') ok'
  generalize hfo : kla_obj _ putQ _ _ _ _ _ _ _ = fo at S
  repeat' (walk_at "ms@16_1")
  refine x1_3 (S.out (FX := FX) (fun p hp => by walk_at "zfx") (List.nodup_cons.mp hnd).2 Fs hke hfe) fun oL Fs2 hFX2 hnd2 => ?_
  have S0 : Sx B L h _ _ ([_, _, _, _, _, _, _, _, _, _] ++ FX) _ := S
  have hLo := (hFX2 _ (.head _)).1
  refine c_outcomeX G S.stays (m := 9) (R.le (by decide)) (P := due = true) (Ok := fun H r => MadeOk w H (if j = true then Str.ofString "cat" else Str.ofString "alt") one other r) (by have := (S.N _ (.head _)).1; rw [← hfo] at this; exact ⟨_, _, _, _, this⟩) (S0.off (.head _)) ?task hA Fs2 hFX2 hnd2 ?ret ?ret23
  case task =>
    intro A B2 h2 tk2 outer2 FX2 Q E G2 hk2 hB2 _ R2 hA2 Fs2 hFX2 hnd2 hE2 ret2
    refine x0_3 (S0.seen hLo Fs hB2) fun sn sb st => ?_
    subst hfo
    refine enterL G2 hk2 (hk2 _ _ (sn _ (.head _))) ((coderec_keep st hcr).keeps hk2) (by decide +kernel) R2 rfl hA2 Fs2 hFX2 hnd2 (by decide +kernel) (P := ¬ due = true) hE2 ?_ (by rfl) (by rfl)
    intro B h L tk env A V EC G S hB hB' hL R hA hke hfe Lv hLv
    dsimp only at V S
    have bb := base_in hk2 hFX2 hB
    have b1 := bb _ _ (sn (cw, _) (Inn.mem (by walk_at "zm")))
    have b2 := bb _ _ (sn (cn, _) (Inn.mem (by walk_at "zm")))
    have b3 := bb _ _ (sn (cf, _) (Inn.mem (by walk_at "zm")))
    have b4 := bb _ _ (sn (ci, _) (Inn.mem (by walk_at "zm")))
    have I1 : Pat w B x1 dx1 t1 one := ⟨bb _ _ (sn (x1, _) (Inn.mem (by walk_at "zm"))), bb _ _ (sn (dx1, _) (Inn.mem (by walk_at "zm")))⟩
    have I2 : Pat w B x2 dx2 t2 other := ⟨bb _ _ (sn (x2, _) (Inn.mem (by walk_at "zm"))), bb _ _ (sn (dx2, _) (Inn.mem (by walk_at "zm")))⟩
    have I := I.keep (Tk.of_stays (fun a o e => bb a o (sb a o e)))
    have J := J.keep (Tk.of_stays (fun a o e => bb a o (sb a o e)))
    repeat' (walk_at "ms@16_1")
    refine x1_3 (S.out (FX := FX2) (fun p hp => hp) hnd2 Fs2 hke hfe) fun oL3 Fs3 hFX3 hnd3 => ?_
    have nd3 : ∀ vs, oL3.data ≠ .fields vs := Fs3.nd
    have nn : ∀ p ∈ (L, oL3) :: FX2, B.get? p.1 = none := fun p hp => (hFX3 p hp).2
    have nx : x1 ∉ ((L, oL3) :: FX2).map (·.1) ∧ dx1 ∉ ((L, oL3) :: FX2).map (·.1) ∧ x2 ∉ ((L, oL3) :: FX2).map (·.1) ∧ dx2 ∉ ((L, oL3) :: FX2).map (·.1) := ⟨base_not I1.inst nn, base_not I1.dict nn, base_not I2.inst nn, base_not I2.dict nn⟩
    have ks := S.stays
    refine ite_b (fun hj => ?_) (fun hj => ?_)
    · repeat' (walk_at "ms@16_1")
      have I1 := pat_stays S.stays I1
      have I2 := pat_stays S.stays I2
      have ej := joinT_ne hnc
      rw [if_pos hj, ← ej] at hdue
      refine c_join_values G S.stays (R.le (by decide)) I1 I2 (I.keep (tk_of S)) (J.keep (tk_of S)) (ej.symm ▸ sm_cat hs1 hs2) hn1 hn2 (nc_both hnc) nx hA Fs3 hFX3 hnd3 (fun bad e h5 tk5 Th => hLv (fun hd => bad (hdue.mp hd)) _ _ (eb_call S (fun p hp => hp) hB (hFX3 _ (.head _)).1 nd3 Th)) (fun x' dx' t' r h5 tk5 k5 ne n1 n2 P jn gd => ?_)
      exact ret2 _ _ _ (stayX (S.call k5) (fun p hp => hp) (fun p hp => (hFX2 p hp).1) hB) (hdue.mpr gd) (jn.ok hj hnc P)
    · repeat' (walk_at "ms@16_1")
      have I1 := pat_stays S.stays I1
      have I2 := pat_stays S.stays I2
      rw [if_neg (hj ▸ Bool.false_ne_true)] at hdue
      refine c_either_value G S.stays (R.le (by decide)) I1 I2 (I.keep (tk_of S)) (J.keep (tk_of S)) hs1 hs2 nx hA Fs3 hFX3 hnd3 (fun bad e h5 tk5 Th => hLv (fun hd => bad (hdue.mp hd)) _ _ (eb_call S (fun p hp => hp) hB (hFX3 _ (.head _)).1 nd3 Th)) (fun x' dx' t' a' u' h5 tk5 k5 ne n1 n2 P ia gd => ?_)
      exact ret2 _ _ _ (stayX (S.call k5) (fun p hp => hp) (fun p hp => (hFX2 p hp).1) hB) (hdue.mpr gd) ⟨x', dx', t', a', u', P, by rw [if_neg (hj ▸ Bool.false_ne_true)]; exact ia⟩
  case ret =>
    rintro r h tk k hd ⟨x, dx, t, a, u, P, ia⟩
    have S := (S.call k).fact (tupF a _) ia
    subst hd
    repeat' (walk_at "ms@16_1")
    refine c_node_of_pat G S.stays (R.le (by decide)) P rfl fun h tk k => ?_
    have S := S.call k
    repeat' (walk_at "ms@16_1")
    refine ite_b (fun hj => ?_) (fun hj => ?_) 
    · repeat' (walk_at "ms@16_1")
      refine q_of (b' := true) (by rw [if_pos hj]; decide) ?_
      exact ret ps' FX _ _ (stayC S hB) (S.N (773, tabObj ps') (Inn.mem (by walk_at "zm"))).1 ht' (S.ft (tabF putQ ps') (Inn.mem (by walk_at "zm"))) (Slf.refl FX) (fun p hp => (S.N p (by simp only [List.mem_cons, hp, or_true])).1)
    · repeat' (walk_at "ms@16_1")
      refine q_of (b' := true) (by rw [if_neg (hj ▸ Bool.false_ne_true)]; decide) ?_
      exact ret ps' FX _ _ (stayC S hB) (S.N (773, tabObj ps') (Inn.mem (by walk_at "zm"))).1 ht' (S.ft (tabF putQ ps') (Inn.mem (by walk_at "zm"))) (Slf.refl FX) (fun p hp => (S.N p (by simp only [List.mem_cons, hp, or_true])).1)
  case ret23 =>
    intro hd u h FX' tk k sl e
    refine x1_2 (S0.refused hLo Fs k sl e) fun FX'' sl2 S => ?_
    simp only [List.cons_append, List.nil_append] at S
    have hd : due = false := (Bool.not_eq_true _).mp hd
    subst hd
    repeat' (walk_at "ms@16_1")
    refine c_node_of_int G S.stays (R.le (by decide)) fun h tk k => ?_
    have S := S.call k
    repeat' (walk_at "ms@16_1")
    refine q_of (b' := true) (by decide) ?_
    exact ret ps' FX'' _ _ (stayC S hB) (S.N (773, tabObj ps') (Inn.mem (by walk_at "zm"))).1 ht' (S.ft (tabF putQ ps') (.head _)) sl2 (fun p hp => (S.N p (by simp only [List.mem_cons, hp, or_true])).1)
end
section
set_option maxHeartbeats 2000000
variable {w : World} {mg mb : Str → Option Value} {g : Heap} {A : Around} {s : Shared} {Q E : Value → Shared → Prop} {h : Heap} {tk n : Nat}

noncomputable def rowC (T : Tr) : List Tr := Tr.rec [.rem] [.fail] (fun i => [.len i]) (fun x => [.chars x]) (fun x => [.any x]) (fun x => [.brk x]) (fun a _ => [.arb a]) (fun a r _ => [.lat a r]) (fun a b _ _ => [.alt a b]) (fun _ _ a b => a ++ b) T
noncomputable def rowA (T : Tr) : List Tr := Tr.rec [.rem] [.fail] (fun i => [.len i]) (fun x => [.chars x]) (fun x => [.any x]) (fun x => [.brk x]) (fun a _ => [.arb a]) (fun a r _ => [.lat a r]) (fun _ _ a b => a ++ b) (fun a b _ _ => [.cat a b]) T
theorem rcq : (∀ a b, rowC (.cat a b) = rowC a ++ rowC b) ∧ rowC .rem = [.rem] ∧ rowC .fail = [.fail] ∧ (∀ i, rowC (.len i) = [.len i]) ∧ (∀ x, rowC (.chars x) = [.chars x]) ∧ (∀ x, rowC (.any x) = [.any x]) ∧ (∀ x, rowC (.brk x) = [.brk x]) ∧ (∀ a, rowC (.arb a) = [.arb a]) ∧ (∀ a r, rowC (.lat a r) = [.lat a r]) ∧ ∀ a b, rowC (.alt a b) = [.alt a b] := ⟨fun _ _ => rfl, rfl, rfl, fun _ => rfl, fun _ => rfl, fun _ => rfl, fun _ => rfl, fun _ => rfl, fun _ _ => rfl, fun _ _ => rfl⟩
theorem raq : (∀ a b, rowA (.alt a b) = rowA a ++ rowA b) ∧ rowA .rem = [.rem] ∧ rowA .fail = [.fail] ∧ (∀ i, rowA (.len i) = [.len i]) ∧ (∀ x, rowA (.chars x) = [.chars x]) ∧ (∀ x, rowA (.any x) = [.any x]) ∧ (∀ x, rowA (.brk x) = [.brk x]) ∧ (∀ a, rowA (.arb a) = [.arb a]) ∧ (∀ a r, rowA (.lat a r) = [.lat a r]) ∧ ∀ a b, rowA (.cat a b) = [.cat a b] := ⟨fun _ _ => rfl, rfl, rfl, fun _ => rfl, fun _ => rfl, fun _ => rfl, fun _ => rfl, fun _ => rfl, fun _ _ => rfl, fun _ _ => rfl⟩
noncomputable def rowK (isC : Bool) (T : Tr) : List Tr := if isC = true then rowC T else rowA T
noncomputable def wordK (isC : Bool) : Str := if isC = true then Str.ofString "cat" else Str.ofString "alt"
noncomputable def Tr.pair (isC : Bool) (T : Tr) : Option (Tr × Tr) := T.casesOn none none (fun _ => none) (fun _ => none) (fun _ => none) (fun _ => none) (fun _ => none) (fun _ _ => none) (fun a b => if isC = true then none else some (a, b)) (fun a b => if isC = true then some (a, b) else none)
noncomputable def tw (j : Bool) (a b : Tr) : Tr := if j = true then .cat a b else .alt a b
theorem pair_tw {isC : Bool} {T a b : Tr} (h : T.pair isC = some (a, b)) : T = tw isC a b := by cases isC <;> cases T <;> cases h <;> rfl
theorem rowK_pair {isC : Bool} {T a b : Tr} (h : T.pair isC = some (a, b)) : rowK isC T = rowK isC a ++ rowK isC b ∧ T.size = a.size + b.size + 1 := by
  rw [pair_tw h]; cases isC <;> exact ⟨rfl, rfl⟩
theorem rowK_none {isC : Bool} {T : Tr} (h : T.pair isC = none) : rowK isC T = [T] := by
  cases isC <;> cases T <;> first | (cases h; done) | rfl
theorem kind_nopair {isC : Bool} {T : Tr} (h : T.pair isC = none) : (T.kind == wordK isC) = false := by
  cases isC <;> cases T <;> first | (cases h; done) | exact of_decide_eq_true rfl
theorem IsTr.pair {h : Heap} {isC : Bool} {T a b : Tr} {v : Value} (e : T.pair isC = some (a, b)) (I : IsTr h v T) : At2 h (wordK isC) v (fun u => IsTr h u a) (fun u => IsTr h u b) := by
  rw [pair_tw e] at I; cases isC <;> exact I
noncomputable def szs (l : List Tr) : Nat := l.foldr (fun T n => T.size + n) 0
theorem zzq : szs [] = 0 ∧ ∀ T r, szs (T :: r) = T.size + szs r := ⟨rfl, fun _ _ => rfl⟩
theorem szs_len (l : List Tr) : l.length ≤ szs l := by
  induction l with
  | nil => exact Nat.le_refl _
  | cons T r ih => exact Nat.le_trans (Nat.add_le_add ih T.size_pos) (Nat.le_of_eq (Nat.add_comm _ _))
theorem szs_app (a b : List Tr) : szs (a ++ b) = szs a + szs b := by
  induction a with
  | nil => exact (Nat.zero_add _).symm
  | cons T a ih => exact (congrArg _ ih).trans (Nat.add_assoc _ _ _).symm
theorem ks_snoc {h : Heap} {l : List Value} {ts : List Tr} {v : Value} {T : Tr} (H : Ks h l ts) (I : IsTr h v T) : Ks h (l ++ [v]) (ts ++ [T]) := by
  induction H with
  | nil => exact .cons I .nil
  | cons i _ ih => exact .cons i ih
theorem ks_rev {h : Heap} : ∀ {ts : List Tr} {l : List Value}, Ks h l ts → ∀ {T : Tr} {ts' : List Tr}, ts = ts' ++ [T] → ∃ l' v, l = l' ++ [v] ∧ Ks h l' ts' ∧ IsTr h v T := by
  intro ts l H
  induction H with
  | nil => intro T ts' e; cases ts' <;> cases e
  | @cons v U l ts i H ih =>
    intro T ts' e
    cases ts' with
    | nil =>
      cases e
      cases H
      exact ⟨[], v, rfl, .nil, i⟩
    | cons U' ts' =>
      cases e
      refine x2_3 (ih rfl) fun l' v' zq2 H' i' => ?_; subst zq2
      exact ⟨v :: l', v', rfl, .cons i H', i'⟩
inductive RowJ (isC : Bool) (T : Tr) (v : Value) (u : Tok) (fa wa : Addr) : Nat → List (Option Value) → List (Addr × Obj) → List Fact → Prop
  | mk {n : Nat} {fl wl : List Value} {fd wt : List Tr} {c c' : Nat} {o : Option Value} : n = szs wt → fd ++ wt.reverse.flatMap (rowK isC) = rowK isC T → fd.length + szs wt ≤ T.size →
    RowJ isC T v u fa wa n [some v, some (.str (wordK isC) u), some (.ref fa), some (.ref wa), o] [(wa, listOf wl.toArray c), (fa, listOf fl.toArray c')] [ksF fl fd, ksF wl wt]
theorem c_row_of {isC : Bool} {T : Tr} {v : Value} {u : Tok} (G : Gl w mg mb g) (hk : g.StaysIn h) (R : Rm A 1) (I : IsTr h v T) (hsz : T.size ≤ 2 ^ 20) (ret : ∀ a l c h' tk', h.StaysIn h' → h.get? a = none → h'.get? a = some (listOf l.toArray c) → Ks h' l (rowK isC T) → Q (.ref a) (St s h' tk')) : wpAny (model pg w) A (call (.ref 358) [v, .str (wordK isC) u]) Q E (St s h tk) := by
  refine enterR [] [some v, some (.str (wordK isC) u)] G hk (by k_is) (by k_is) (by decide +kernel) R (BindsTo.of_eq (bind_plain rfl rfl rfl (by decide +kernel))) (by dsimp only; repeat (first | exact Bnd.nil | refine Bnd.cons ?_)) (fun p hp => nomatch hp) List.nodup_nil (by decide +kernel) ?_ (by rfl) (by rfl); intro B h L tk env A V G S hB hB' hL R; dsimp only at V S
  have I := I.keep (tk_base0 hB)
  repeat' (walk_at "ms@17_1")
  rename_i fa _ _ nfa _ _
  (rename Sx _ _ _ _ _ _ _ => a); rename_i wa _ _; (rename Sx _ _ _ _ _ _ _ => S)
  have S := S.pad 1
  have S := S.fact (ksF [v] [T]) (.cons (I.keep (tk_of S)) .nil)
  have S := S.fact (ksF [] []) .nil
  refine x_while (RowJ isC T v u fa wa) _ S (.mk rfl (by simp) (by simp [zzq])) po_no ?_
  intro n _ _ _ h tk J S
  cases J with | @mk fl wl fd wt c c' o hn hr hs => ?_
  subst hn
  have Hf : Ks h fl fd := S.ft (ksF fl fd) (.head _)
  have Hw : Ks h wl wt := S.ft (ksF wl wt) (.tail _ (.head _))
  have hwl := Hw.len
  have hfl := Hf.len
  have hle := szs_len wt
  have hz : (wl.length : Int) < 2 ^ 63 := by exact lin4 [_, _, _, _, _] [] (.nle (.V 0) (.W 2 20)) (.nle (.P (.V 1) (.V 2)) (.V 0)) (.neq (.V 3) (.V 4)) (.nle (.V 4) (.V 2)) (.ilt (.C (.V 3)) (.W 2 63)) [[1, 1, 1, 1, 1]] hsz hs hwl hle okT
  rcases List.eq_nil_or_concat wt with rfl | ⟨wt', X, rfl⟩
  · obtain rfl : wl = [] := List.eq_nil_of_length_eq_zero hwl
    repeat' (walk_at "ms@17_1")
    simp only [List.reverse_nil, List.flatMap_nil, List.append_nil] at hr
    subst hr
    exact ret fa fl c' _ _ (stay S hB) (fresh S hB (.s .z)).1 (fresh S hB (.s .z)).2 (S.ft (ksF fl _) (.head _))
  · rw [List.concat_eq_append] at *
    refine x2_3 (ks_rev Hw rfl) fun wl' x zq2 Hw' ix => ?_; subst zq2
    rw [szs_app] at hs hle
    simp only [zzq] at hs hle
    simp only [List.length_append, List.length_cons, List.length_nil] at hwl hle hz
    refine ix.head fun xa xt xl zq3 ih => ?_; subst zq3
    have S := ((S.fact (ksF wl' wt') Hw').fact (trF (.ref xa) X) ix).fact (tupF xa _) ih
    have hz2 : ((wl' ++ [Value.ref xa]).length : Int) < 2 ^ 63 := by simp; exact lin1 [_] [] (.ilt (.C (.P (.V 0) (.P (.K 0) (.K 1)))) (.W 2 63)) (.ilt (.P (.C (.V 0)) (.K 1)) (.K 9223372036854775808)) [[1, 1]] hz okT
    repeat' (walk_at "ms@17_1")
    refine it_dt (by simp) ?_
    repeat' (walk_at "ms@17_1")
    refine o_pop S .z (kl_last_snoc wl' _) (by rw [List.length_append]; unfold sizeLine; simp; exact lin4 [_, _, _, _, _, _] [] (.nle (.V 0) (.W 2 20)) (.nle (.P (.V 1) (.P (.V 2) (.P (.V 3) (.K 0)))) (.V 0)) (.neq (.P (.V 4) (.P (.K 0) (.K 1))) (.P (.V 5) (.P (.K 0) (.K 1)))) (.nle (.P (.V 5) (.P (.K 0) (.K 1))) (.P (.V 2) (.P (.V 3) (.K 0)))) (.nle (.V 4) (.K 16777215)) [[1, 1, 1, 1, 1]] hsz hs hwl hle okT) ?_
    clear S; intro h tk S
    cases e : X.pair isC with
    | some ab =>
      obtain ⟨Ta, Tb⟩ := ab
      have jx : IsTr h (.ref xa) X := S.ft (trF (.ref xa) X) (.tail _ (.head _))
      refine At2.el (jx.pair e) fun xt2 y1 y2 i2 j1 j2 => ?_
      have S := (((S.fact (tupF xa _) i2).fact (trF y1 Ta) j1).fact (trF y2 Tb) j2)
      have hk : (wordK isC == wordK isC) = true := beq_self_eq_true _
      repeat' (walk_at "ms@17_1")
      refine o_extend (l' := wl' ++ [y2, y1]) S (.s .z) .z (S.ne (.s .z) .z (by rfl) (by intro z; cases z)) (Nat.succ_ne_zero _) rfl (by unfold sizeLine; simp; exact lin4 [_, _, _, _, _, _] [] (.nle (.V 0) (.W 2 20)) (.nle (.P (.V 1) (.P (.V 2) (.P (.V 3) (.K 0)))) (.V 0)) (.neq (.P (.V 4) (.P (.K 0) (.K 1))) (.P (.V 5) (.P (.K 0) (.K 1)))) (.nle (.P (.V 5) (.P (.K 0) (.K 1))) (.P (.V 2) (.P (.V 3) (.K 0)))) (.nle (.V 4) (.K 16777214)) [[1, 1, 1, 1, 1]] hsz hs hwl hle okT) ?_
      clear S; intro h tk S
      have H2 := ks_snoc (ks_snoc (S.ft (ksF wl' wt') (by walk_at "zf") : Ks h wl' wt') (S.ft (trF y2 Tb) (by walk_at "zf") : IsTr h y2 Tb)) (S.ft (trF y1 Ta) (by walk_at "zf") : IsTr h y1 Ta)
      have H1 : Ks h fl fd := S.ft (ksF fl fd) (by walk_at "zf")
      simp only [List.append_assoc, List.cons_append, List.nil_append] at H2
      refine x0_2 (rowK_pair e) fun e1 e2 => ?_
      have S := S.drop (news' := [(wa, listOf (wl' ++ [y2, y1]).toArray (c + 1 + 1)), (fa, listOf fl.toArray c')]) (List.sublist_cons_self _ _)
      repeat' (walk_at "ms@17_1")
      refine lp_next (m := szs (wt' ++ [Tb, Ta])) ?_ ((S.facts0.fact (ksF _ _) H2).fact (ksF _ _) H1) (.mk rfl ?_ ?_)
      · rw [szs_app, szs_app]; simp only [zzq]; exact lin1 [_, _, _, _] [] (.neq (.V 0) (.P (.P (.V 1) (.V 2)) (.K 1))) (.nlt (.P (.V 3) (.P (.V 2) (.P (.V 1) (.K 0)))) (.P (.V 3) (.P (.V 0) (.K 0)))) [[1, -1]] e2 (by decide +kernel)
      · rw [← hr]; simp [e1]
      · rw [szs_app]; simp only [zzq]; exact lin2 [_, _, _, _, _, _] [] (.nle (.P (.V 0) (.P (.V 1) (.P (.V 2) (.K 0)))) (.V 3)) (.neq (.V 2) (.P (.P (.V 4) (.V 5)) (.K 1))) (.nle (.P (.V 0) (.P (.V 1) (.P (.V 5) (.P (.V 4) (.K 0))))) (.V 3)) [[1, 1, -1]] hs e2 (by decide +kernel)
    | none =>
      have hk := kind_nopair e
      repeat' (walk_at "ms@17_1")
      refine o_append S (.s .z) rfl (by unfold sizeLine; exact lin3 [_, _, _, _, _] [] (.nle (.V 0) (.W 2 20)) (.neq (.V 1) (.V 2)) (.nle (.P (.V 2) (.P (.V 3) (.P (.V 4) (.K 0)))) (.V 0)) (.nle (.V 1) (.W 2 24)) [[1, 1, 1, 1]] hsz hfl hs okT) ?_
      clear S; intro h tk S
      have H2 := ks_snoc (S.ft (ksF fl fd) (by walk_at "zf") : Ks h fl fd) (S.ft (trF (.ref xa) X) (by walk_at "zf") : IsTr h (.ref xa) X)
      have H1 : Ks h wl' wt' := S.ft (ksF wl' wt') (by walk_at "zf")
      repeat' (walk_at "ms@17_1")
      refine lp_next (m := szs wt') ?_ ((S.facts0.fact (ksF _ _) H1).fact (ksF _ _) H2) (.mk rfl ?_ ?_)
      · rw [szs_app]; simp only [zzq]; have := X.size_pos; exact lin1 [_, _] [] (.nlt (.K 0) (.V 0)) (.nlt (.V 1) (.P (.V 1) (.P (.V 0) (.K 0)))) [[1, 1]] this okT
      · rw [← hr]; simp [rowK_none e]
      · have := X.size_pos; simp only [List.length_append, List.length_cons, List.length_nil]; exact lin2 [_, _, _, _] [] (.nle (.P (.V 0) (.P (.V 1) (.P (.V 2) (.K 0)))) (.V 3)) (.nlt (.K 0) (.V 2)) (.nle (.P (.P (.V 0) (.P (.K 0) (.K 1))) (.V 1)) (.V 3)) [[1, 1, 1]] hs this okT
end
section
set_option maxHeartbeats 2000000
variable {w : World} {mg mb : Str → Option Value} {g : Heap} {A : Around} {s : Shared} {Q E : Value → Shared → Prop} {h : Heap} {tk n : Nat}

noncomputable def NoJoin (ts : List Tr) : Prop := ∀ i T, ts[i]? = some T → T.isChars = true → Nn T ∧ ∀ j U, i = j + 1 → ts[j]? = some U → U.isChars = false
theorem Ks.take {h : Heap} {l : List Value} {ts : List Tr} (H : Ks h l ts) : ∀ i, Ks h (l.take i) (ts.take i) := by
  induction H with
  | nil => intro i; simp; exact .nil
  | cons j H ih =>
    intro i
    cases i with
    | zero => exact .nil
    | succ i => exact .cons j (ih i)
theorem IsTr.chars_at {h : Heap} {v : Value} {T : Tr} (I : IsTr h v T) (c : T.isChars = true) : ∃ a t x u, T = .chars x ∧ v = .ref a ∧ IsTup h a [.str (Str.ofString "chars") t, .str x u].toArray := by
  have k : ∃ x, T.txt = some x := Option.isSome_iff_exists.mp (T.txt_some.trans c)
  refine k.elim fun x e => ?_
  have e := T.txt_eq e
  rw [e] at I
  exact AtS.out I fun a t u q i => ⟨a, t, x, u, e, q, i⟩
theorem c_joined_texts {la : Addr} {l : List Value} {c : Nat} {ts : List Tr} (G : Gl w mg mb g) (hk : g.StaysIn h) (R : Rm A 2) (hl : h.get? la = some (listOf l.toArray c)) (K : Ks h l ts) (nj : NoJoin ts) (hsz : ts.length ≤ 2 ^ 20) (ret : ∀ a c h' tk', h.StaysIn h' → h.get? a = none → h'.get? a = some (listOf l.toArray c) → Ks h' l ts → Q (.ref a) (St s h' tk')) : wpAny (model pg w) A (call (.ref 372) [.ref la]) Q E (St s h tk) := by
  refine enterR [] [some (.ref la)] G hk (by k_is) (by k_is) (by decide +kernel) R (BindsTo.of_eq (bind_plain rfl rfl rfl (by decide +kernel))) (by dsimp only; repeat (first | exact Bnd.nil | refine Bnd.cons ?_)) (fun p hp => nomatch hp) List.nodup_nil (by decide +kernel) ?_ (by rfl) (by rfl); intro B h L tk env A V G S hB hB' hL R; dsimp only at V S
  have K := K.keep (tk_base0 hB)
  have hlB := hB _ _ hl (fun q => nomatch q)
  have hlen := K.len
  repeat' (walk_at "ms@18_1")
  (rename Sx _ _ _ _ _ _ _ => a); rename_i fa _; (rename Sx _ _ _ _ _ _ _ => S)
  have S : Sx B L h _ [some (.ref la), some (.ref fa), none] _ _ := S.pad 1
  have S := S.fact (ksF l ts) (K.keep (tk_of S))
  refine x_for (fun _ => rfl) ?_
  repeat' (walk_at "ms@18_1")
  refine x_for_list (items := l) (fun i vs news fs => ∃ o c, vs = [some (.ref la), some (.ref fa), o] ∧ news = [(fa, listOf (l.take i).toArray c)] ∧ fs = [ksF l ts]) V R.h S ⟨_, _, rfl, rfl, rfl⟩ po_no ?_ ?_ ?_
  · rintro i _ _ _ ⟨o, c, rfl, rfl, rfl⟩
    exact .inr ⟨_, hlB, rfl, _, rfl⟩
  · rintro i _ _ _ v hv ⟨o, c, rfl, rfl, rfl⟩
    refine ⟨_, by walk_at "zs", fun h tk p S => ?_⟩
    have Kh : Ks h l ts := S.ft (ksF l ts) (.head _)
    refine x1_2 (Kh.at hv) fun T hT IT => ?_
    have hil : i < l.length := (List.getElem?_eq_some_iff.mp hv).1
    have htk : l.take i ++ [v] = l.take (i + 1) := by rw [List.take_add_one, hv]; rfl
    have tlen : (l.take i).length = i := by rw [List.length_take]; exact Nat.min_eq_left (Nat.le_of_lt hil)
    have IB : IsTr B v T := by
      refine x1_2 (K.at hv) fun U hU IU => ?_
      rw [hT] at hU; cases hU; exact IU
    repeat' (walk_at "ms@18_1")
    refine c_is_plain_text G S.stays (R.le (by decide)) (IB.keep (tk_of S)) fun h tk k => ?_
    have S := S.call k
    cases hc : T.isChars with
    | false =>
      repeat' (walk_at "ms@18_1")
      refine o_append S (.s .z) htk (by unfold sizeLine; exact lin4 [_, _, i, _] [] (.nle (.V 0) (.W 2 20)) (.neq (.V 1) (.V 0)) (.nlt (.V 2) (.V 1)) (.neq (.V 3) (.V 2)) (.nle (.V 3) (.W 2 24)) [[1, 1, 1, 1, 1]] hsz hlen hil tlen okT) ?_
      clear S; intro h tk S
      repeat' (walk_at "ms@18_1")
      exact lf_next S ⟨_, _, rfl, rfl, rfl⟩
    | true =>
      refine x4_3 (IB.chars_at hc) fun a t x u zq4 zq5 ia => ?_; subst zq4; subst zq5
      have hne : (x == Str.ofString "") = false := (nj i _ hT hc).1 x rfl
      have hz : ((l.take i).length : Int) < 2 ^ 63 := by exact lin4 [_, _, i, _] [] (.nle (.V 0) (.W 2 20)) (.neq (.V 1) (.V 0)) (.nlt (.V 2) (.V 1)) (.neq (.V 3) (.V 2)) (.ilt (.C (.V 3)) (.W 2 63)) [[1, 1, 1, 1, 1]] hsz hlen hil tlen okT
      repeat' (walk_at "ms@18_1")
      cases i with
      | zero =>
        refine it_df (by simp) ?_
        repeat' (walk_at "ms@18_1")
        refine o_append S (.s .z) htk (by unfold sizeLine; exact lin1 [_] [] (.neq (.V 0) (.K 0)) (.nle (.V 0) (.W 2 24)) [[1, 1]] tlen okT) ?_
        clear S; intro h tk S
        repeat' (walk_at "ms@18_1")
        exact lf_next S ⟨_, _, rfl, rfl, rfl⟩
      | succ j =>
        have hj : j < l.length := by exact lin1 [j, _] [] (.nlt (.P (.V 0) (.K 1)) (.V 1)) (.nlt (.V 0) (.V 1)) [[1, 1]] hil okT
        refine x1_2 (K.at (List.getElem?_eq_getElem hj)) fun U hU IU => ?_
        have hcU := (nj _ _ hT hc).2 j U rfl hU
        refine it_dt (by exact lin1 [_, j] [] (.neq (.V 0) (.P (.V 1) (.K 1))) (.ilt (.K 0) (.C (.V 0))) [[1, -1]] tlen (by decide +kernel)) ?_
        repeat' (walk_at "ms@18_1")
        refine o_itemS (x := l[j]) S (by walk_at "zm") (by exact lin1 [_, j] [] (.neq (.V 0) (.P (.V 1) (.K 1))) (.ile (.K 0) (.S (.C (.V 0)) (.K 1))) [[1, -1]] tlen (by decide +kernel)) (by exact lin1 [_] [] (.ilt (.C (.V 0)) (.W 2 63)) (.ilt (.S (.C (.V 0)) (.K 1)) (.W 2 63)) [[1, 1]] hz okT) (by rw [tlen, show (((j + 1 : Nat) : Int) - 1).toNat = j by omega, List.getElem?_take, if_pos (Nat.lt_succ_self j)]; exact List.getElem?_eq_getElem hj) ?_ (by with_unfolding_all rfl) (by intro _; with_unfolding_all rfl)
        repeat' (walk_at "ms@18_1")
        refine c_is_plain_text G S.stays (R.le (by decide)) (IU.keep (tk_of S)) fun h tk k => ?_
        have S := S.call k
        rw [hcU]
        repeat' (walk_at "ms@18_1")
        refine o_append S (.s .z) htk (by unfold sizeLine; exact lin4 [_, _, j, _] [] (.nle (.V 0) (.W 2 20)) (.neq (.V 1) (.V 0)) (.nlt (.P (.V 2) (.K 1)) (.V 1)) (.neq (.V 3) (.P (.V 2) (.K 1))) (.nle (.V 3) (.W 2 24)) [[1, 1, 1, 1, 1]] hsz hlen hil tlen okT) ?_
        clear S; intro h tk S
        repeat' (walk_at "ms@18_1")
        exact lf_next S ⟨_, _, rfl, rfl, rfl⟩
  · rintro _ _ _ h tk ⟨o, c, rfl, rfl, rfl⟩ S
    repeat' (walk_at "ms@18_1")
    have F := fresh S hB (.z)
    rw [List.take_length] at F
    exact ret fa _ _ _ (stay S hB) F.1 F.2 (S.ft (ksF l ts) (.head _))
end
section
set_option maxHeartbeats 2000000
variable {w : World} {mg mb : Str → Option Value} {g : Heap} {A : Around} {s : Shared} {Q E : Value → Shared → Prop} {h : Heap} {tk n : Nat}

inductive Ord | one (T : Tr) | split (n : Nat) | jump (n : Nat) | mark | name (r : Addr) | gain | fail | done
noncomputable def Told (T : Tr) (x : Value) : Prop := T.casesOn (x = .none) False (fun i => ∃ u, x = .int i u) (fun y => ∃ u, x = .str y u) (fun y => ∃ u, x = .str y u) (fun _ => False) (fun _ => False) (fun _ _ => False) (fun _ _ => False) (fun _ _ => False)
inductive OrOne (h : Heap) (v : Value) (T : Tr) : Prop | mk (a : Addr) (t1 t2 : Tok) (x : Value) : v = .ref a → IsTup h a [.str (Str.ofString "one") t1, .str T.kind t2, x].toArray → Told T x → OrOne h v T
inductive OrNm (h : Heap) (v : Value) (r : Addr) : Prop | mk (a : Addr) (t1 : Tok) : v = .ref a → IsTup h a [.str (Str.ofString "name") t1, .ref r].toArray → OrNm h v r
noncomputable def IsOrd (h : Heap) (v : Value) (o : Option Ord) : Prop := o.casesOn (v = .none) fun o => o.casesOn (fun T => OrOne h v T) (fun n => AtI h (Str.ofString "split") v n) (fun n => AtI h (Str.ofString "jump") v n) (At0 h (Str.ofString "mark") v) (fun r => OrNm h v r) (At0 h (Str.ofString "gain") v) (At0 h (Str.ofString "fail") v) (At0 h (Str.ofString "done") v)
noncomputable def Ord.word (o : Ord) : Str := o.casesOn (fun _ => Str.ofString "one") (fun _ => Str.ofString "split") (fun _ => Str.ofString "jump") (Str.ofString "mark") (fun _ => Str.ofString "name") (Str.ofString "gain") (Str.ofString "fail") (Str.ofString "done")
theorem IsOrd.keep {h h' : Heap} {v : Value} (k : Tk h h') {o : Option Ord} (I : IsOrd h v o) : IsOrd h' v o := by
  cases o with
  | none => exact I
  | some o =>
    cases o with
    | one => exact (fun ⟨a, t1, t2, x, e, i, j⟩ => ⟨a, t1, t2, x, e, k.tup i, j⟩) I
    | split => exact (fun ⟨a, t1, t2, e, i⟩ => ⟨a, t1, t2, e, k.tup i⟩) I
    | jump => exact (fun ⟨a, t1, t2, e, i⟩ => ⟨a, t1, t2, e, k.tup i⟩) I
    | _ => exact (fun ⟨a, t1, e, i⟩ => ⟨a, t1, e, k.tup i⟩) I
theorem IsOrd.head {h : Heap} {v : Value} {o : Ord} {P : Prop} (I : IsOrd h v (some o)) (f : ∀ a t l, v = .ref a → IsTup h a (List.toArray (.str o.word t :: l)) → P) : P := by
  cases o with
  | one => exact (fun ⟨a, t1, _, _, e, i, _⟩ => f a t1 _ e i) I
  | split => exact (fun ⟨a, t1, _, e, i⟩ => f a t1 _ e i) I
  | jump => exact (fun ⟨a, t1, _, e, i⟩ => f a t1 _ e i) I
  | _ => exact (fun ⟨a, t1, e, i⟩ => f a t1 _ e i) I
theorem IsOrd.ref {h : Heap} {v : Value} {o : Ord} (I : IsOrd h v (some o)) : ∃ a, v = .ref a := I.head fun a _ _ e _ => ⟨a, e⟩
theorem OrOne.el {h : Heap} {a : Addr} {T : Tr} {P : Prop} (I : OrOne h (.ref a) T) (f : ∀ t1 t2 x, IsTup h a [.str (Str.ofString "one") t1, .str T.kind t2, x].toArray → Told T x → P) : P := (fun ⟨_, t1, t2, x, e, i, j⟩ => f t1 t2 x (by cases e; exact i) j) I
theorem OrNm.el {h : Heap} {a : Addr} {r : Addr} {P : Prop} (I : OrNm h (.ref a) r) (f : ∀ t1, IsTup h a [.str (Str.ofString "name") t1, .ref r].toArray → P) : P := (fun ⟨_, t1, e, i⟩ => f t1 (by cases e; exact i)) I
inductive Oa (h : Heap) : List Value → List (Option Ord) → Prop
  | nil : Oa h [] []
  | cons {v o l os} : IsOrd h v o → Oa h l os → Oa h (v :: l) (o :: os)
theorem Oa.keep {h h' : Heap} (k : Tk h h') {l os} (H : Oa h l os) : Oa h' l os := by
  induction H with
  | nil => exact .nil
  | cons i _ ih => exact .cons (i.keep k) ih
theorem Oa.len {h : Heap} {l os} (H : Oa h l os) : l.length = os.length := by
  induction H with
  | nil => rfl
  | cons _ _ ih => simp [ih]
theorem Oa.snoc {h : Heap} {l os v o} (H : Oa h l os) (i : IsOrd h v o) : Oa h (l ++ [v]) (os ++ [o]) := by
  induction H with
  | nil => exact .cons i .nil
  | cons j _ ih => exact .cons j ih
theorem Oa.set {h : Heap} {l os v o} (H : Oa h l os) (i : IsOrd h v o) : ∀ n, Oa h (l.set n v) (os.set n o) := by
  induction H with
  | nil => intro n; cases n <;> exact .nil
  | cons j H ih =>
    intro n
    cases n with
    | zero => exact .cons i H
    | succ n => exact .cons j (ih n)
theorem Oa.at {h : Heap} {l os} (H : Oa h l os) : ∀ {i : Nat} {v : Value}, l[i]? = some v → ∃ o, os[i]? = some o ∧ IsOrd h v o := by
  induction H with
  | nil => exact fun e => nomatch e
  | @cons v o l os j _ ih =>
    intro i u e
    cases i with
    | zero => cases e; exact ⟨o, rfl, j⟩
    | succ i => exact ih e
noncomputable def oaF (l : List Value) (os : List (Option Ord)) : Fact := ⟨fun h => Oa h l os, fun _ _ k H => H.keep k⟩
noncomputable def code (T : Tr) : Nat → List Ord := Tr.rec (fun _ => [.one .rem]) (fun _ => [.fail]) (fun i _ => [.one (.len i)]) (fun x _ => [.one (.chars x)]) (fun x _ => [.one (.any x)]) (fun x _ => [.one (.brk x)])
  (fun _ f o => [.split (o + 2), .jump (o + 3 + (f (o + 3)).length + 2), .mark] ++ f (o + 3) ++ [.gain, .jump o])
  (fun _ r f o => [.mark] ++ f (o + 1) ++ [.name r])
  (fun _ _ f g o => [.split (o + (f (o + 1)).length + 2)] ++ f (o + 1) ++ [.jump (o + (f (o + 1)).length + 2 + (g (o + (f (o + 1)).length + 2)).length)] ++ g (o + (f (o + 1)).length + 2))
  (fun _ _ f g o => f o ++ g (o + (f o).length)) T
theorem cdq : (∀ a o, code (.arb a) o = [.split (o + 2), .jump (o + 3 + (code a (o + 3)).length + 2), .mark] ++ code a (o + 3) ++ [.gain, .jump o]) ∧ (∀ a r o, code (.lat a r) o = [.mark] ++ code a (o + 1) ++ [.name r]) ∧
  (∀ a b o, code (.alt a b) o = [.split (o + (code a (o + 1)).length + 2)] ++ code a (o + 1) ++ [.jump (o + (code a (o + 1)).length + 2 + (code b (o + (code a (o + 1)).length + 2)).length)] ++ code b (o + (code a (o + 1)).length + 2)) ∧
  ∀ a b o, code (.cat a b) o = code a o ++ code b (o + (code a o).length) := ⟨fun _ _ => rfl, fun _ _ _ => rfl, fun _ _ _ => rfl, fun _ _ _ => rfl⟩
theorem code_size (T : Tr) : ∀ o, (code T o).length ≤ 5 * T.size := by
  induction T with
  | arb a ih => intro o; have := ih (o + 3); simp [cdq, szq]; exact lin1 [_, _] [] (.nle (.V 0) (.M 5 (.V 1))) (.nle (.P (.P (.P (.P (.V 0) (.K 2)) (.K 1)) (.K 1)) (.K 1)) (.M 5 (.P (.V 1) (.K 1)))) [[1, 1]] this okT
  | lat a r ih => intro o; have := ih (o + 1); simp [cdq, szq]; exact lin1 [_, _] [] (.nle (.V 0) (.M 5 (.V 1))) (.nle (.P (.P (.V 0) (.K 1)) (.K 1)) (.M 5 (.P (.V 1) (.K 1)))) [[1, 1]] this okT
  | alt a b iha ihb =>
    intro o
    have h1 := iha (o + 1)
    have h2 := ihb (o + (code a (o + 1)).length + 2)
    simp only [cdq, List.length_append, List.length_cons, List.length_nil, szq]; exact lin2 [_, _, _, _] [] (.nle (.V 0) (.M 5 (.V 1))) (.nle (.V 2) (.M 5 (.V 3))) (.nle (.P (.P (.P (.P (.K 0) (.K 1)) (.V 0)) (.P (.K 0) (.K 1))) (.V 2)) (.M 5 (.P (.P (.V 1) (.V 3)) (.K 1)))) [[1, 1, 1]] h1 h2 okT
  | cat a b iha ihb =>
    intro o
    have h1 := iha o
    have h2 := ihb (o + (code a o).length)
    simp only [cdq, List.length_append, szq]; exact lin2 [_, _, _, _] [] (.nle (.V 0) (.M 5 (.V 1))) (.nle (.V 2) (.M 5 (.V 3))) (.nle (.P (.V 0) (.V 2)) (.M 5 (.P (.P (.V 1) (.V 3)) (.K 1)))) [[1, 1, 1]] h1 h2 okT
  | _ => intro o; exact (Nat.le_add_left 1 4 : 1 ≤ 5 * 1)
noncomputable def cs (T : Tr) (o : Nat) : List (Option Ord) := (code T o).map some
noncomputable def Sh : Tr → Prop
  | .brk _ => False
  | .chars y => Nn (.chars y) ∧ y.length < 2 ^ 20
  | .any y => y.length < 2 ^ 20
  | .arb a => Sh a
  | .lat a _ => Sh a
  | .alt a b => Sh a ∧ Sh b ∧ a.pair false = none
  | .cat a b => Sh a ∧ Sh b ∧ NoJoin (rowC (.cat a b))
  | _ => True
theorem rowC_size {T U : Tr} (h : U ∈ rowC T) : U.size ≤ T.size ∧ (∀ a b, T = .cat a b → U.size < T.size) := by
  induction T with
  | cat a b iha ihb =>
    simp only [rcq, List.mem_append] at h
    rcases h with h | h
    · have z : U.size < a.size + b.size + 1 := Nat.lt_succ_of_le (Nat.le_trans (iha h).1 (Nat.le_add_right _ _))
      exact ⟨Nat.le_of_lt z, fun _ _ _ => z⟩
    · have z : U.size < a.size + b.size + 1 := Nat.lt_succ_of_le (Nat.le_trans (ihb h).1 (Nat.le_add_left _ _))
      exact ⟨Nat.le_of_lt z, fun _ _ _ => z⟩
  | _ => simp only [rcq, List.mem_singleton] at h; subst h; exact ⟨Nat.le_refl _, fun _ _ e => nomatch e⟩
theorem rowA_size {T U : Tr} (h : U ∈ rowA T) : U.size ≤ T.size ∧ (∀ a b, T = .alt a b → U.size < T.size) := by
  induction T with
  | alt a b iha ihb =>
    simp only [raq, List.mem_append] at h
    rcases h with h | h
    · have z : U.size < a.size + b.size + 1 := Nat.lt_succ_of_le (Nat.le_trans (iha h).1 (Nat.le_add_right _ _))
      exact ⟨Nat.le_of_lt z, fun _ _ _ => z⟩
    · have z : U.size < a.size + b.size + 1 := Nat.lt_succ_of_le (Nat.le_trans (ihb h).1 (Nat.le_add_left _ _))
      exact ⟨Nat.le_of_lt z, fun _ _ _ => z⟩
  | _ => simp only [raq, List.mem_singleton] at h; subst h; exact ⟨Nat.le_refl _, fun _ _ e => nomatch e⟩
theorem rowC_sh {T U : Tr} (s : Sh T) (h : U ∈ rowC T) : Sh U := by
  induction T with
  | cat a b iha ihb =>
    simp only [rcq, List.mem_append] at h
    rcases h with h | h
    · exact iha s.1 h
    · exact ihb s.2.1 h
  | _ => simp only [rcq, List.mem_singleton] at h; subst h; exact s
theorem rowA_sh {T U : Tr} (s : Sh T) (h : U ∈ rowA T) : Sh U := by
  induction T with
  | alt a b iha ihb =>
    simp only [raq, List.mem_append] at h
    rcases h with h | h
    · exact iha s.1 h
    · exact ihb s.2.1 h
  | _ => simp only [raq, List.mem_singleton] at h; subst h; exact s
noncomputable def csr (l : List Tr) : Nat → List (Option Ord) := List.rec (fun _ => []) (fun T _ f o => cs T o ++ f (o + (cs T o).length)) l
theorem crq : (∀ o, csr [] o = []) ∧ ∀ T r o, csr (T :: r) o = cs T o ++ csr r (o + (cs T o).length) := ⟨fun _ => rfl, fun _ _ _ => rfl⟩
theorem csr_app (a b : List Tr) : ∀ o : Nat, csr (a ++ b) o = csr a o ++ csr b (o + (csr a o).length) := by
  induction a with
  | nil => exact fun _ => rfl
  | cons T a ih =>
    intro o
    simp only [List.cons_append, crq, ih, List.append_assoc, List.length_append]
    rw [Nat.add_assoc]
theorem csr_rowC (T : Tr) : ∀ o, csr (rowC T) o = cs T o := by
  induction T with
  | cat a b iha ihb =>
    intro o
    simp only [rcq, csr_app, iha, ihb]
    simp [cs, cdq]
  | _ => exact fun o => List.append_nil _
noncomputable def cha (e : Option Ord) (l : List Tr) : Nat → List (Option Ord) := List.rec (fun _ => []) (fun T _ f o => [some (.split (o + 1 + (cs T (o + 1)).length + 1))] ++ cs T (o + 1) ++ [e] ++ f (o + 1 + (cs T (o + 1)).length + 1)) l
noncomputable def chp (l : List Tr) : Nat → List Nat := List.rec (fun _ => []) (fun T _ f o => (o + 1 + (cs T (o + 1)).length) :: f (o + 1 + (cs T (o + 1)).length + 1)) l
theorem caq : (∀ e o, cha e [] o = []) ∧ (∀ e T r o, cha e (T :: r) o = [some (.split (o + 1 + (cs T (o + 1)).length + 1))] ++ cs T (o + 1) ++ [e] ++ cha e r (o + 1 + (cs T (o + 1)).length + 1)) := ⟨fun _ _ => rfl, fun _ _ _ _ => rfl⟩
theorem cpq : (∀ o, chp [] o = []) ∧ ∀ T r o, chp (T :: r) o = (o + 1 + (cs T (o + 1)).length) :: chp r (o + 1 + (cs T (o + 1)).length + 1) := ⟨fun _ => rfl, fun _ _ _ => rfl⟩
theorem cha_len (e e' : Option Ord) (r : List Tr) : ∀ o : Nat, (cha e r o).length = (cha e' r o).length := by
  induction r with
  | nil => exact fun _ => rfl
  | cons T r ih => intro o; simp only [caq, List.length_append, ih]; rfl
theorem cha_app (e : Option Ord) (a b : List Tr) : ∀ o : Nat, cha e (a ++ b) o = cha e a o ++ cha e b (o + (cha e a o).length) := by
  induction a with
  | nil => exact fun _ => rfl
  | cons T a ih =>
    intro o
    simp only [List.cons_append, caq, ih, List.append_assoc, List.nil_append, List.length_append, List.length_cons, List.length_nil]
    congr 5
    exact lin0 [o, _, _] [] (.neq (.P (.P (.P (.P (.V 0) (.K 1)) (.V 1)) (.K 1)) (.V 2)) (.P (.V 0) (.P (.P (.V 1) (.P (.V 2) (.K 1))) (.K 1)))) [[1], [1]] okT
theorem chp_app (a b : List Tr) : ∀ o : Nat, chp (a ++ b) o = chp a o ++ chp b (o + (cha none a o).length) := by
  induction a with
  | nil => exact fun _ => rfl
  | cons T a ih =>
    intro o
    simp only [List.cons_append, cpq, caq, ih, List.append_assoc, List.nil_append, List.length_append, List.length_cons, List.length_nil]
    congr 3
    exact lin0 [o, _, _] [] (.neq (.P (.P (.P (.P (.V 0) (.K 1)) (.V 1)) (.K 1)) (.V 2)) (.P (.V 0) (.P (.P (.V 1) (.P (.V 2) (.K 1))) (.K 1)))) [[1], [1]] okT
theorem set_at {α : Type} (a : List α) (x y : α) (b : List α) : ∀ n, n = a.length → (a ++ x :: b).set n y = a ++ y :: b := by
  intro n hn
  subst hn
  rw [List.set_append_right _ _ (Nat.le_refl _), Nat.sub_self]; rfl
theorem cha_set (e : Option Ord) (r : List Tr) : ∀ (pre tail : List (Option Ord)), (chp r pre.length).foldl (fun l n => l.set n e) (pre ++ cha none r pre.length ++ tail) = pre ++ cha e r pre.length ++ tail := by
  induction r with
  | nil => exact fun _ _ => rfl
  | cons T r ih =>
    intro pre tail
    obtain ⟨P, hP⟩ : ∃ P, P = pre ++ (some (Ord.split (pre.length + 1 + (cs T (pre.length + 1)).length + 1)) :: cs T (pre.length + 1)) := ⟨_, rfl⟩
    have hl : P.length = pre.length + 1 + (cs T (pre.length + 1)).length := by rw [hP]; simp; exact lin0 [_, _] [] (.neq (.P (.V 0) (.P (.V 1) (.K 1))) (.P (.P (.V 0) (.K 1)) (.V 1))) [[1], [1]] okT
    have a1 : ∀ x, pre ++ cha x (T :: r) pre.length ++ tail = P ++ x :: (cha x r (P.length + 1) ++ tail) := by
      intro x
      rw [hl, hP]
      simp [caq]
    have a2 : chp (T :: r) pre.length = P.length :: chp r (P.length + 1) := by rw [hl]; rfl
    rw [a2, a1, a1, List.foldl_cons, set_at P none e _ _ rfl]
    have ih := ih (P ++ [e]) tail
    have hl2 : (P ++ [e]).length = P.length + 1 := by simp
    rw [hl2] at ih
    simpa using ih
theorem cs_rowA (T : Tr) (s : Sh T) : ∀ o, ∃ r X, rowA T = r ++ [X] ∧ X.pair false = none ∧ ∀ e, e = o + (cs T o).length → cs T o = cha (some (.jump e)) r o ++ cs X (o + (cha none r o).length) := by
  induction T with
  | alt a b iha ihb =>
    intro o
    refine x0_3 s ?_; (try clear s); intro s1 s2 s3
    refine x2_3 (ihb s2 (o + 1 + (cs a (o + 1)).length + 1)) fun r X h1 h2 h3 => ?_
    have ha : rowA a = [a] := rowK_none (isC := false) s3
    refine ⟨a :: r, X, by simp [raq, ha, h1], h2, fun e he => ?_⟩
    have hlen : (cs (.alt a b) o).length = 1 + (cs a (o + 1)).length + 1 + (cs b (o + 1 + (cs a (o + 1)).length + 1)).length := by
      simp only [cs, cdq, List.length_map, List.length_append, List.length_cons, List.length_nil]
      rw [show o + 1 + (code a (o + 1)).length + 1 = o + (code a (o + 1)).length + 2 by exact lin0 [o, _] [] (.neq (.P (.P (.P (.V 0) (.K 1)) (.V 1)) (.K 1)) (.P (.P (.V 0) (.V 1)) (.K 2))) [[1], [1]] okT]
      try omega
    have h3 := h3 e (by rw [he, hlen]; exact lin0 [o, _, _] [] (.neq (.P (.V 0) (.P (.P (.P (.K 1) (.V 1)) (.K 1)) (.V 2))) (.P (.P (.P (.P (.V 0) (.K 1)) (.V 1)) (.K 1)) (.V 2))) [[1], [1]] okT)
    have e1 : cs (.alt a b) o = [some (.split (o + 1 + (cs a (o + 1)).length + 1))] ++ cs a (o + 1) ++ [some (.jump e)] ++ cs b (o + 1 + (cs a (o + 1)).length + 1) := by
      have e0 : e = o + (code a (o + 1)).length + 2 + (code b (o + (code a (o + 1)).length + 2)).length := by
        rw [he, hlen]; simp only [cs, List.length_map]
        rw [show o + 1 + (code a (o + 1)).length + 1 = o + (code a (o + 1)).length + 2 by exact lin0 [o, _] [] (.neq (.P (.P (.P (.V 0) (.K 1)) (.V 1)) (.K 1)) (.P (.P (.V 0) (.V 1)) (.K 2))) [[1], [1]] okT]
        try exact lin0 [o, _, _] [] (.neq (.P (.V 0) (.P (.P (.P (.K 1) (.V 1)) (.K 1)) (.V 2))) (.P (.P (.P (.V 0) (.V 1)) (.K 2)) (.V 2))) [[1], [1]] okT
      rw [e0]
      simp only [cs, cdq, List.map_append, List.map_cons, List.map_nil, List.length_map]
      rw [show o + 1 + (code a (o + 1)).length + 1 = o + (code a (o + 1)).length + 2 by exact lin0 [o, _] [] (.neq (.P (.P (.P (.V 0) (.K 1)) (.V 1)) (.K 1)) (.P (.P (.V 0) (.V 1)) (.K 2))) [[1], [1]] okT]
    rw [e1, h3]
    simp only [caq, List.append_assoc, List.length_append, List.length_cons, List.length_nil]
    rw [cha_len none (some (.jump e)) r]
    rw [show o + 1 + (cs a (o + 1)).length + 1 + (cha (some (.jump e)) r (o + 1 + (cs a (o + 1)).length + 1)).length = o + (0 + 1 + ((cs a (o + 1)).length + (0 + 1 + (cha (some (.jump e)) r (o + 1 + (cs a (o + 1)).length + 1)).length))) by exact lin0 [o, _, _] [] (.neq (.P (.P (.P (.P (.V 0) (.K 1)) (.V 1)) (.K 1)) (.V 2)) (.P (.V 0) (.P (.P (.K 0) (.K 1)) (.P (.V 1) (.P (.P (.K 0) (.K 1)) (.V 2)))))) [[1], [1]] okT]
  | _ =>
    intro o
    exact ⟨[], _, rfl, rfl, fun e he => by simp [caq]⟩
end
section
set_option maxHeartbeats 2000000
variable {w : World} {mg mb : Str → Option Value} {g : Heap} {A : Around} {s : Shared} {Q E : Value → Shared → Prop} {h : Heap} {tk n : Nat}

theorem mt_emit (w : World) : Mt w 417 (Str.ofString "emit") 393 := ⟨by k_is, by k_is⟩
theorem mt_put (w : World) : Mt w 417 (Str.ofString "put") 400 := ⟨by k_is, by k_is⟩
theorem mt_put_choice (w : World) : Mt w 417 (Str.ofString "put_choice") 407 := ⟨by k_is, by k_is⟩
theorem mt_put_repeat (w : World) : Mt w 417 (Str.ofString "put_repeat") 414 := ⟨by k_is, by k_is⟩
section
variable {B : Heap} {L : Addr} {ns : List (Str × NameKind)} {vs : List (Option Value)} {news news' : List (Addr × Obj)} {fs : List Fact}
noncomputable def ordF (v : Value) (o : Option Ord) : Fact := ⟨fun h => IsOrd h v o, fun _ _ k i => i.keep k⟩
theorem chg_tk {d : Addr} {o : Obj} {h h' : Heap} (S : Sx B L h ns vs news fs) (m : (d, o) ∈ news) (nt : ¬ Tup o) (k : Chg [d] h h') : Tk h h' := S.tk m nt fun a x z _ n => k a x z (by simpa using n)
theorem s_emit {x dx lo : Addr} {t1 : Tok} {l : List Value} {os : List (Option Ord)} {c : Nat} {v : Value} (o : Option Ord) (G : Gl w mg mb B) (S : Sx B L h ns vs news fs) (R : Rm A 1) (IC : CodeAt w B x dx lo t1) (U : Up lo (listOf l.toArray c) (listOf (l ++ [v]).toArray (c + 1)) news news') (mo : Inn (oaF l os) fs) (iv : IsOrd h v o) (hz : os.length ≤ 2 ^ 20)
   (k : ∀ t h' tk', Sx B L h' ns vs news' (oaF (l ++ [v]) (os ++ [o]) :: fs) → Q (.int (os.length : Int) t) (St s h' tk')) : wpAny (model pg w) A (call (.ref 393) [.ref x, v]) Q E (St s h tk) := by
  have P := S.N _ U.mem
  have O : Oa h l os := S.ft _ mo.mem
  have hl := O.len
  refine c_emit G S.stays R (S.insB IC) ⟨fun q => ?_, fun q => ?_⟩ ⟨P.1, P.2.2⟩ (by exact lin2 [_, _] [] (.nle (.V 0) (.W 2 20)) (.neq (.V 1) (.V 0)) (.nle (.V 1) (.W 2 20)) [[1, 1, 1]] hz hl okT) fun t h' tk' ch e => ?_
  · have := IC.inst; rw [q, P.2.2] at this; cases this
  · have := IC.dict; rw [q, P.2.2] at this; cases this
  · rw [hl]
    have tk := chg_tk S U.mem not_tup_list ch
    exact k t h' tk' ((S.chg U not_tup_list ch e).fact (oaF _ _) ((O.keep tk).snoc (iv.keep tk)))
theorem s_olen {lo : Addr} {l : List Value} {os : List (Option Ord)} {c : Nat} (S : Sx B L h ns vs news fs) (m : Inn (lo, listOf l.toArray c) news) (mo : Inn (oaF l os) fs) (hz : os.length ≤ 2 ^ 20) (k : ∀ t tk', Q (.int (os.length : Int) t) (St s h tk')) : wpAny (model pg w) A (call (.builtin "len") [.ref lo]) Q E (St s h tk) := by
  have O : Oa h l os := S.ft _ mo.mem
  have hl := O.len
  refine o_len S m (by exact lin2 [_, _] [] (.nle (.V 0) (.W 2 20)) (.neq (.V 1) (.V 0)) (.ilt (.C (.V 1)) (.W 2 63)) [[1, 1, 1]] hz hl okT) fun t tk => ?_
  rw [hl]; exact k t tk
theorem s_order {lo : Addr} {l : List Value} {os : List (Option Ord)} {c n : Nat} {v : Value} {t : Tok} {Q : Unit → Shared → Prop} (o : Option Ord) (S : Sx B L h ns vs news fs) (U : Up lo (listOf l.toArray c) (listOf (l.set n v).toArray c) news news') (mo : Inn (oaF l os) fs) (iv : IsOrd h v o) (hz : os.length ≤ 2 ^ 20) (hn : n < os.length)
   (k : ∀ h' tk', Sx B L h' ns vs news' (oaF (l.set n v) (os.set n o) :: fs) → Q () (St s h' tk')) : wpAny (model pg w) A (setItem (.ref lo) (.int (n : Int) t) v) Q E (St s h tk) := by
  have O : Oa h l os := S.ft _ mo.mem
  have hl := O.len
  have S := S.fact (ordF v o) iv
  refine o_setitem S U (by exact lin0 [n] [] (.ile (.K 0) (.C (.V 0))) [[1]]  okT) (by exact lin2 [n, _, _] [] (.nlt (.V 0) (.V 1)) (.neq (.V 2) (.V 1)) (.ilt (.C (.V 0)) (.C (.V 2))) [[1, 1, -1]] hn hl (by decide +kernel)) (by exact lin2 [_, n] [] (.nle (.V 0) (.W 2 20)) (.nlt (.V 1) (.V 0)) (.ilt (.C (.V 1)) (.W 2 63)) [[1, 1, 1]] hz hn okT) (by simp) fun h' tk' S' => ?_
  have P := S.N _ U.mem
  have P' := S'.N
  refine k h' tk' ((S'.facts (fs' := fs) (fun f hf => .tail _ hf)).fact (oaF _ _) ?_)
  have O' : Oa h' l os := S'.ft _ (.tail _ mo.mem)
  exact O'.set (S'.ft (ordF v o) (.head _)) n
end
noncomputable def PutOk (n : Nat) : Prop := ∀ {w : World} {mg mb : Str → Option Value} {g : Heap} {A : Around} {s : Shared} {Q E : Value → Shared → Prop} {h : Heap} {tk : Nat} {T : Tr} {v : Value} {x dx lo : Addr} {t1 : Tok} {l : List Value} {os : List (Option Ord)} {c : Nat},
  T.size ≤ n → Gl w mg mb g → g.StaysIn h → Rm A (2 * n + 4) → IsTr h v T → Sh T → CodeAt w h x dx lo t1 → h.get? lo = some (listOf l.toArray c) ∧ g.get? lo = none → x ≠ lo ∧ dx ≠ lo → Oa h l os → os.length + 5 * T.size ≤ 2 ^ 18 →
  (∀ l' c' h' tk', Chg [lo] h h' → h'.get? lo = some (listOf l'.toArray c') → Oa h' l' (os ++ cs T os.length) → Q .none (St s h' tk')) → wpAny (model pg w) A (call (.ref 400) [.ref x, v]) Q E (St s h tk)
section
variable {B : Heap} {L : Addr} {ns : List (Str × NameKind)} {vs : List (Option Value)} {news : List (Addr × Obj)} {fs : List Fact}
theorem s_put {N : Nat} {T : Tr} {x dx lo : Addr} {t1 : Tok} {l : List Value} {os : List (Option Ord)} {c : Nat} {v : Value} (IH : PutOk N) (hn : T.size ≤ N) (G : Gl w mg mb B) (S : Sx B L h ns vs news fs) (R : Rm A (2 * N + 4)) (I : IsTr h v T) (sh : Sh T) (IC : CodeAt w B x dx lo t1) (m : Inn (lo, listOf l.toArray c) news) (mo : Inn (oaF l os) fs) (hz : os.length + 5 * T.size ≤ 2 ^ 18)
   (k : ∀ l' c', ∃ news', Up lo (listOf l.toArray c) (listOf l'.toArray c') news news' ∧ ∀ h' tk', Sx B L h' ns vs news' (oaF l' (os ++ cs T os.length) :: fs) → Q .none (St s h' tk')) : wpAny (model pg w) A (call (.ref 400) [.ref x, v]) Q E (St s h tk) := by
  have P := S.N _ m.mem
  have O : Oa h l os := S.ft _ mo.mem
  refine IH hn G S.stays R I sh (S.insB IC) ⟨P.1, P.2.2⟩ ⟨fun q => ?_, fun q => ?_⟩ O hz fun l' c' h' tk' ch e O' => ?_
  · have := IC.inst; rw [q, P.2.2] at this; cases this
  · have := IC.dict; rw [q, P.2.2] at this; cases this
  · refine x1_2 (k l' c') fun news' U k => ?_
    exact k h' tk' ((S.chg U not_tup_list ch e).fact (oaF _ _) O')
end
noncomputable def Bd (l : List (Option Ord)) (n : Nat) : Prop := l.length ≤ n
theorem Bd.app {a b : List (Option Ord)} {n m : Nat} (h : Bd a n) (k : Bd b m) : Bd (a ++ b) (n + m) := Nat.le_trans (Nat.le_of_eq List.length_append) (Nat.add_le_add h k)
theorem Bd.one {x : Option Ord} : Bd [x] 1 := Nat.le_refl 1
theorem Bd.set {a : List (Option Ord)} {n i : Nat} {x : Option Ord} (h : Bd a n) : Bd (a.set i x) n := Nat.le_trans (Nat.le_of_eq List.length_set) h
theorem Bd.le {a : List (Option Ord)} {n m : Nat} (h : Bd a n) (k : Nat.ble n m = true) : a.length ≤ m := Nat.le_trans h (Nat.le_of_ble_eq_true k)
theorem lt_one {a : List (Option Ord)} {x : Option Ord} : a.length < (a ++ [x]).length := by rw [List.length_append]; exact Nat.lt_succ_self _
theorem lt_more {a b : List (Option Ord)} {n : Nat} (h : n < a.length) : n < (a ++ b).length := Nat.lt_of_lt_of_le h (Nat.le_trans (Nat.le_add_right _ _) (Nat.le_of_eq List.length_append.symm))
theorem lt_set {a : List (Option Ord)} {n i : Nat} {x : Option Ord} (h : n < a.length) : n < (a.set i x).length := Nat.lt_of_lt_of_eq h List.length_set.symm
theorem arb_fin {T : Tr} {os C : List (Option Ord)} {n m : Nat} (hC : cs T m = C) (hm : m = os.length + 3) (hn : n = os.length + C.length + 5) : ((os ++ [none] ++ [none]).set os.length (some (.split (os ++ [none] ++ [none]).length)) ++ [some Ord.mark] ++ C ++ [some Ord.gain] ++ [some (Ord.jump os.length)]).set (os ++ [none]).length (some (.jump n)) = os ++ cs (.arb T) os.length := by
  subst hm
  have e1 : (os ++ [none] ++ [none]).set os.length (some (.split (os ++ [none] ++ [none]).length)) = os ++ some (Ord.split (os.length + 2)) :: [none] := by
    rw [List.append_assoc, show os ++ ([none] ++ [none]) = os ++ none :: [none] from rfl, set_at _ _ _ _ _ rfl]; simp
  rw [e1]
  rw [show os ++ some (Ord.split (os.length + 2)) :: [none] ++ [some Ord.mark] ++ C ++ [some Ord.gain] ++ [some (Ord.jump os.length)] = (os ++ [some (Ord.split (os.length + 2))]) ++ none :: ([some Ord.mark] ++ C ++ [some Ord.gain] ++ [some (Ord.jump os.length)]) by simp, set_at _ _ _ _ _ (by simp)]
  have hl : C.length = (code T (os.length + 3)).length := by rw [← hC, cs, List.length_map]
  rw [hn, hl, ← hC]
  simp [cs, cdq]
  exact lin0 [_, _] [] (.neq (.P (.P (.V 0) (.V 1)) (.K 3)) (.P (.P (.V 0) (.K 3)) (.V 1))) [[1], [1]]  okT
theorem c_put_repeat {N : Nat} (IH : PutOk N) {T : Tr} {v : Value} {x dx lo : Addr} {t1 : Tok} {l : List Value} {os : List (Option Ord)} {c : Nat} (G : Gl w mg mb g) (hk : g.StaysIn h) (hn : T.size ≤ N) (R : Rm A (2 * N + 5)) (I : IsTr h v T) (sh : Sh T) (IC : CodeAt w h x dx lo t1) (hl : h.get? lo = some (listOf l.toArray c) ∧ g.get? lo = none) (hne : x ≠ lo ∧ dx ≠ lo) (O : Oa h l os) (hz : os.length + 5 * (T.size + 1) ≤ 2 ^ 18)
   (ret : ∀ l' c' h' tk', Chg [lo] h h' → h'.get? lo = some (listOf l'.toArray c') → Oa h' l' (os ++ cs (.arb T) os.length) → Q .none (St s h' tk')) : wpAny (model pg w) A (call (.ref 414) [.ref x, v]) Q E (St s h tk) := by
  refine enterR [(lo, listOf l.toArray c)] [some (.ref x), some v] G hk (by k_is) (by k_is) (by decide +kernel) R (BindsTo.of_eq (bind_plain rfl rfl rfl (by decide +kernel))) (by dsimp only; repeat (first | exact Bnd.nil | refine Bnd.cons ?_)) (mem_one hl) (nd_one) (by decide +kernel) ?_ (by rfl) (by rfl); intro B h L tk env A V G S hB hB' hL R; dsimp only at V S
  have hcs : ∀ o, (cs T o).length ≤ 5 * T.size := fun o => by rw [cs, List.length_map]; have := code_size T o; exact lin1 [_, _] [] (.nle (.V 0) (.M 5 (.V 1))) (.nle (.V 0) (.M 5 (.V 1))) [[1, 1]] this okT
  have R1 : Rm A 1 := R.le (by exact lin0 [N] [] (.nle (.K 1) (.P (.M 2 (.V 0)) (.K 4))) [[1]]  okT)
  have R4 : Rm A (2 * N + 4) := R.le (by exact lin0 [N] [] (.nle (.P (.M 2 (.V 0)) (.K 4)) (.P (.M 2 (.V 0)) (.K 4))) [[1]]  okT)
  have bo : Bd os (2 ^ 18) := Nat.le_trans (Nat.le_add_right _ _) hz
  have kB : Tk _ B := tk_led hB (mem_one hl) (mem_one not_tup_list)
  have I := I.keep kB
  have S := S.fact (oaF l os) ((O.keep kB).keep (tk_of S))
  have IC : CodeAt w B x dx lo t1 := ⟨hB _ _ IC.inst (not_one hne.1), hB _ _ IC.dict (not_one hne.2)⟩
  repeat' (walk_at "ms@20_1")
  refine s_emit (none) G S R1 IC (by walk_at "zu") (by walk_at "zm") ?_ (by walk_at "bd") ?_
  · rfl
  intro t1 h tk S
  repeat' (walk_at "ms@20_1")
  refine s_emit (none) G S R1 IC (by walk_at "zu") (by walk_at "zm") ?_ (by walk_at "bd") ?_
  · rfl
  intro t1 h tk S
  repeat' (walk_at "ms@20_1")
  refine s_olen S (by walk_at "zm") (by walk_at "zm") (by walk_at "bd") fun t1 tk => ?_
  repeat' (walk_at "ms@20_1")
  refine s_order (some (.split _)) S (by walk_at "zu") (by walk_at "zm") ⟨_, _, _, rfl, S.inF .z⟩ (by walk_at "bd") (by walk_at "lt") ?_
  clear S; intro h tk S
  repeat' (walk_at "ms@20_1")
  refine s_emit (some .mark) G S R1 IC (by walk_at "zu") (by walk_at "zm") ?_ (by walk_at "bd") ?_
  · exact ⟨_, _, rfl, S.inF .z⟩
  clear S; intro t1 h tk S
  repeat' (walk_at "ms@20_1")
  refine s_put IH hn G S R4 (I.keep (tk_of S)) sh IC (by walk_at "zm") (by walk_at "zm") (by simp; exact lin1 [_, _] [] (.nle (.P (.V 0) (.M 5 (.P (.V 1) (.K 1)))) (.W 2 18)) (.nle (.P (.P (.V 0) (.K 3)) (.M 5 (.V 1))) (.K 262144)) [[1, 1]] hz okT) fun l' c' => ⟨_, by walk_at "zu", ?_⟩
  clear S; intro h tk S
  generalize hC : cs T _ = C at S
  have hcl : C.length ≤ 5 * T.size := by rw [← hC]; exact hcs _
  have bC : Bd C (2 ^ 18) := Nat.le_trans hcl (by exact lin1 [_, _] [] (.nle (.P (.V 0) (.M 5 (.P (.V 1) (.K 1)))) (.W 2 18)) (.nle (.M 5 (.V 1)) (.W 2 18)) [[1, 1]] hz okT)
  repeat' (walk_at "ms@20_1")
  refine s_emit (some .gain) G S R1 IC (by walk_at "zu") (by walk_at "zm") ?_ (by walk_at "bd") ?_
  · exact ⟨_, _, rfl, S.inF .z⟩
  clear S; intro t1 h tk S
  repeat' (walk_at "ms@20_1")
  refine s_emit (some (.jump os.length)) G S R1 IC (by walk_at "zu") (by walk_at "zm") ?_ (by walk_at "bd") ?_
  · exact ⟨_, _, _, rfl, S.inF .z⟩
  clear S; intro t1 h tk S
  repeat' (walk_at "ms@20_1")
  refine s_olen S (by walk_at "zm") (by walk_at "zm") (by walk_at "bd") fun t1 tk => ?_
  repeat' (walk_at "ms@20_1")
  refine s_order (some (.jump _)) S (by walk_at "zu") (by walk_at "zm") ⟨_, _, _, rfl, S.inF .z⟩ (by walk_at "bd") (by walk_at "lt") ?_
  clear S; intro h tk S
  repeat' (walk_at "ms@20_1")
  have O : Oa h _ _ := S.ft (oaF _ _) (.head _)
  rw [arb_fin hC (by simp) (by simp <;> exact lin0 [_, _] [] (.neq (.P (.V 0) (.P (.P (.P (.P (.V 1) (.K 2)) (.K 1)) (.K 1)) (.K 1))) (.P (.P (.V 0) (.V 1)) (.K 5))) [[1], [1]]  okT)] at O
  exact ret _ _ _ _ (stayC S hB) (S.N _ (.head _)).1 O
end
section
set_option maxHeartbeats 2000000
variable {w : World} {mg mb : Str → Option Value} {g : Heap} {A : Around} {s : Shared} {Q E : Value → Shared → Prop} {h : Heap} {tk n : Nat}

theorem szs_take (r : List Tr) : ∀ (i : Nat) (U : Tr), r[i]? = some U → szs (r.take i) + U.size ≤ szs r := by
  induction r with
  | nil => exact fun _ _ e => nomatch e
  | cons T r ih =>
    intro i U e
    cases i with
    | zero => exact Option.some.inj e ▸ (Nat.zero_add T.size).symm ▸ Nat.le_add_right _ _
    | succ i => exact Nat.add_assoc T.size _ _ ▸ Nat.add_le_add_left (ih i U e) T.size
theorem cs_size (T : Tr) (o : Nat) : (cs T o).length ≤ 5 * T.size := by rw [cs, List.length_map]; exact code_size T o
theorem cha_size (e : Option Ord) (r : List Tr) : ∀ o : Nat, (cha e r o).length ≤ 5 * szs r + 2 * r.length := by
  induction r with
  | nil => exact fun _ => Nat.zero_le _
  | cons T r ih =>
    intro o
    have q1 := ih (o + 1 + (cs T (o + 1)).length + 1)
    have q2 := cs_size T (o + 1)
    simp only [caq, zzq, List.length_append, List.length_cons, List.length_nil]; exact lin2 [_, _, _, _, _] [] (.nle (.V 0) (.P (.M 5 (.V 1)) (.M 2 (.V 2)))) (.nle (.V 3) (.M 5 (.V 4))) (.nle (.P (.P (.P (.P (.K 0) (.K 1)) (.V 3)) (.P (.K 0) (.K 1))) (.V 0)) (.P (.M 5 (.P (.V 4) (.V 1))) (.M 2 (.P (.V 2) (.K 1))))) [[1, 1, 1]] q1 q2 okT
theorem Sx.isB {B h : Heap} {L pa : Addr} {ns vs news fs} {pl : List Value} {pc : Nat} (S : Sx B L h ns vs news fs) (e : B.get? pa = some (listOf pl.toArray pc)) : h.IsList pa pl.toArray := ⟨_, S.F.keep _ _ e, rfl, _, rfl⟩
inductive Is : List Value → List Nat → Prop
  | nil : Is [] []
  | snoc {l ns n t} : Is l ns → Is (l ++ [.int (n : Nat) t]) (ns ++ [n])
theorem Is.len {l ns} (H : Is l ns) : l.length = ns.length := by
  induction H with
  | nil => rfl
  | snoc _ ih => simp [ih]
theorem Is.at {l ns} (H : Is l ns) : ∀ {i : Nat} {v : Value}, l[i]? = some v → ∃ n t, ns[i]? = some n ∧ v = .int (n : Nat) t := by
  induction H with
  | nil => intro i v e; simp at e
  | @snoc l ns n t H ih =>
    intro i v e
    have hl := H.len
    by_cases c : i < l.length
    · rw [List.getElem?_append_left c] at e
      refine x2_2 (ih e) fun m u a b => ?_
      exact ⟨m, u, by rw [List.getElem?_append_left (by exact lin2 [_, _, i] [] (.neq (.V 0) (.V 1)) (.nlt (.V 2) (.V 0)) (.nlt (.V 2) (.V 1)) [[1, 1, 1]] hl c okT)]; exact a, b⟩
    · have hi : i = l.length := by
        have := (List.getElem?_eq_some_iff.mp e).1
        simp at this; exact lin2 [i, _] [] (.no (.nlt (.V 0) (.V 1))) (.nlt (.V 0) (.P (.V 1) (.K 1))) (.neq (.V 0) (.V 1)) [[1, 0, 1], [1, 1, 0]] c this okT
      subst hi
      simp at e
      exact ⟨n, t, by rw [hl]; simp, e.symm⟩
theorem cha_snoc {e : Option Ord} {r : List Tr} {i o : Nat} {T : Tr} (h : r[i]? = some T) : cha e (r.take (i + 1)) o = cha e (r.take i) o ++ ([some (.split (o + (cha e (r.take i) o).length + 1 + (cs T (o + (cha e (r.take i) o).length + 1)).length + 1))] ++ cs T (o + (cha e (r.take i) o).length + 1) ++ [e]) := by
  rw [List.take_add_one, h, Option.toList_some, cha_app]
  simp [caq]
theorem chp_snoc {r : List Tr} {i o : Nat} {T : Tr} (h : r[i]? = some T) : chp (r.take (i + 1)) o = chp (r.take i) o ++ [o + (cha none (r.take i) o).length + 1 + (cs T (o + (cha none (r.take i) o).length + 1)).length] := by
  rw [List.take_add_one, h, Option.toList_some, chp_app]; rfl
theorem choice_turn {A C : List (Option Ord)} {n : Nat} (hn : n = A.length + 1 + C.length + 1) : (A ++ [none] ++ C ++ [none]).set A.length (some (.split n)) = A ++ ([some (.split (A.length + 1 + C.length + 1))] ++ C ++ [none]) := by
  rw [show A ++ [none] ++ C ++ [none] = A ++ none :: (C ++ [none]) by simp, set_at _ _ _ _ _ rfl, hn]; simp
theorem foldl_set_len {e : Option Ord} (p : List Nat) : ∀ l : List (Option Ord), (p.foldl (fun l n => l.set n e) l).length = l.length := by
  induction p with
  | nil => exact fun _ => rfl
  | cons n p ih => exact fun l => (ih _).trans List.length_set
theorem chp_lt (r : List Tr) : ∀ (o : Nat) (e : Option Ord), ∀ n ∈ chp r o, n < o + (cha e r o).length := by
  induction r with
  | nil => exact fun _ _ _ h => nomatch h
  | cons T r ih =>
    intro o e n h
    have h := List.mem_cons.mp h
    simp only [caq, List.length_append, List.length_cons, List.length_nil]
    rcases h with rfl | h
    · exact lin0 [o, _, _] [] (.nlt (.P (.P (.V 0) (.K 1)) (.V 1)) (.P (.V 0) (.P (.P (.P (.P (.K 0) (.K 1)) (.V 1)) (.P (.K 0) (.K 1))) (.V 2)))) [[1]] okT
    · have := ih _ e n h; exact lin1 [n, o, _, _] [] (.nlt (.V 0) (.P (.P (.P (.P (.V 1) (.K 1)) (.V 2)) (.K 1)) (.V 3))) (.nlt (.V 0) (.P (.V 1) (.P (.P (.P (.P (.K 0) (.K 1)) (.V 2)) (.P (.K 0) (.K 1))) (.V 3)))) [[1, 1]] this okT
inductive ChJ (x pa ea sl lo : Addr) (pl : List Value) (r : List Tr) (os : List (Option Ord)) (i : Nat) : List (Option Value) → List (Addr × Obj) → List Fact → Prop
  | mk {o3 o4 : Option Value} {l' el : List Value} {c' ce : Nat} : Is el (chp (r.take i) os.length) → el.length = i → ChJ x pa ea sl lo pl r os i [some (.ref x), some (.ref pa), some (.ref ea), o3, o4, none] [(sl, listOf (pl.take r.length).toArray 0), (ea, listOf el.toArray ce), (lo, listOf l'.toArray c')] [oaF l' (os ++ cha none (r.take i) os.length)]
inductive ChK (x pa ea lo : Addr) (o3 o4 : Option Value) (el : List Value) (ce : Nat) (F : Nat → List (Option Ord)) (i : Nat) : List (Option Value) → List (Addr × Obj) → List Fact → Prop
  | mk {o5 : Option Value} {l' : List Value} {c' : Nat} : ChK x pa ea lo o3 o4 el ce F i [some (.ref x), some (.ref pa), some (.ref ea), o3, o4, o5] [(ea, listOf el.toArray ce), (lo, listOf l'.toArray c')] [oaF l' (F i)]
theorem ch1 {o z zi rl i xs c T : Nat} (hz : o + 5 * z + 5 * rl + 5 * xs ≤ 2 ^ 18) (hq : zi + T ≤ z) (hc : c ≤ 5 * zi + 2 * i) (hi : i < rl) : 5 * T ≤ 2 ^ 18 ∧ o + c + 1 + 5 * T ≤ 2 ^ 18 ∧ o + c ≤ 2 ^ 18 ∧ i ≤ 2 ^ 18 := by
  have h : o + c + 1 + 5 * T ≤ 2 ^ 18 := by exact lin4 [o, z, rl, xs, zi, T, c, i] [] (.nle (.P (.P (.P (.V 0) (.M 5 (.V 1))) (.M 5 (.V 2))) (.M 5 (.V 3))) (.W 2 18)) (.nle (.P (.V 4) (.V 5)) (.V 1)) (.nle (.V 6) (.P (.M 5 (.V 4)) (.M 2 (.V 7)))) (.nlt (.V 7) (.V 2)) (.nle (.P (.P (.P (.V 0) (.V 6)) (.K 1)) (.M 5 (.V 5))) (.W 2 18)) [[1, 1, 5, 1, 2]] hz hq hc hi okT
  exact ⟨Nat.le_trans (Nat.le_add_left _ _) h, h, Nat.le_trans (Nat.le_trans (Nat.le_succ _) (Nat.le_add_right _ _)) h, by clear hq hc h; exact lin2 [o, z, rl, xs, i] [] (.nle (.P (.P (.P (.V 0) (.M 5 (.V 1))) (.M 5 (.V 2))) (.M 5 (.V 3))) (.W 2 18)) (.nlt (.V 4) (.V 2)) (.nle (.V 4) (.W 2 18)) [[5, 1, 5]] hz hi okT⟩
theorem ch2 {o z rl xs c C : Nat} (hz : o + 5 * z + 5 * rl + 5 * xs ≤ 2 ^ 18) (hc : c ≤ 5 * z + 2 * rl) (hC : C ≤ 5 * xs) : o + c + 5 * xs ≤ 2 ^ 18 ∧ o + c + C ≤ 2 ^ 18 := by
  have h : o + c + 5 * xs ≤ 2 ^ 18 := by clear hC; exact lin2 [o, z, rl, xs, c] [] (.nle (.P (.P (.P (.V 0) (.M 5 (.V 1))) (.M 5 (.V 2))) (.M 5 (.V 3))) (.W 2 18)) (.nle (.V 4) (.P (.M 5 (.V 1)) (.M 2 (.V 2)))) (.nle (.P (.P (.V 0) (.V 4)) (.M 5 (.V 3))) (.W 2 18)) [[1, 1, 1]] hz hc okT
  exact ⟨h, Nat.le_trans (Nat.add_le_add_left hC _) h⟩
theorem ch3 {o z rl xs pl : Nat} (hz : o + 5 * z + 5 * rl + 5 * xs ≤ 2 ^ 18) (hp : pl = rl + 1) : (0 : Int) ≤ (pl : Int) - 1 ∧ (pl : Int) < 2 ^ 63 ∧ (pl : Int) - 1 < 2 ^ 63 ∧ pl ≤ sizeLine ∧ rl < pl ∧ ((pl : Int) - 1).toNat = rl := by
  have h : rl ≤ 2 ^ 18 := by clear hp; exact lin1 [o, z, rl, xs] [] (.nle (.P (.P (.P (.V 0) (.M 5 (.V 1))) (.M 5 (.V 2))) (.M 5 (.V 3))) (.W 2 18)) (.nle (.V 2) (.W 2 18)) [[5, 1]] hz okT
  subst hp
  clear hz
  have e : ((rl + 1 : Nat) : Int) - 1 = rl := Int.add_sub_cancel (rl : Int) 1
  rw [e]
  have k : rl + 1 ≤ 2 ^ 19 := Nat.le_trans (Nat.succ_le_succ h) (by decide)
  exact ⟨Int.natCast_nonneg _, Int.lt_of_le_of_lt (Int.ofNat_le.mpr k) (by decide), Int.lt_of_le_of_lt (Int.ofNat_le.mpr h) (by decide), Nat.le_trans k (by unfold sizeLine; decide), Nat.lt_succ_self _, Int.toNat_natCast _⟩
theorem size18 : 2 ^ 18 ≤ sizeLine := by unfold sizeLine; decide
theorem c_put_choice {N : Nat} (IH : PutOk N) {r : List Tr} {X : Tr} {x dx lo pa : Addr} {t1 : Tok} {l pl : List Value} {os : List (Option Ord)} {c pc : Nat} (G : Gl w mg mb g) (hk : g.StaysIn h) (hn : ∀ U ∈ r ++ [X], U.size ≤ N ∧ Sh U) (R : Rm A (2 * N + 5)) (hpl : h.get? pa = some (listOf pl.toArray pc)) (hpn : pa ≠ lo) (K : Ks h pl (r ++ [X])) (IC : CodeAt w h x dx lo t1) (hl : h.get? lo = some (listOf l.toArray c) ∧ g.get? lo = none) (hne : x ≠ lo ∧ dx ≠ lo) (O : Oa h l os) (hz : os.length + 5 * szs r + 5 * r.length + 5 * X.size ≤ 2 ^ 18)
   (ret : ∀ l' c' h' tk' e, e = os.length + (cha none r os.length).length + (cs X (os.length + (cha none r os.length).length)).length → Chg [lo] h h' → h'.get? lo = some (listOf l'.toArray c') → Oa h' l' (os ++ cha (some (.jump e)) r os.length ++ cs X (os.length + (cha none r os.length).length)) → Q .none (St s h' tk')) : wpAny (model pg w) A (call (.ref 407) [.ref x, .ref pa]) Q E (St s h tk) := by
  refine enterR [(lo, listOf l.toArray c)] [some (.ref x), some (.ref pa)] G hk (by k_is) (by k_is) (by decide +kernel) R (BindsTo.of_eq (bind_plain rfl rfl rfl (by decide +kernel))) (by dsimp only; repeat (first | exact Bnd.nil | refine Bnd.cons ?_)) (mem_one hl) (nd_one) (by decide +kernel) ?_ (by rfl) (by rfl); intro B h L tk env A V G S hB hB' hL R; dsimp only at V S
  have R1 : Rm A 1 := R.le (by exact lin0 [N] [] (.nle (.K 1) (.P (.M 2 (.V 0)) (.K 4))) [[1]] okT)
  have R4 : Rm A (2 * N + 4) := R.le (by exact lin0 [N] [] (.nle (.P (.M 2 (.V 0)) (.K 4)) (.P (.M 2 (.V 0)) (.K 4))) [[1]] okT)
  have kB : Tk _ B := tk_led hB (mem_one hl) (mem_one not_tup_list)
  have K := K.keep kB
  have hplB := hB _ _ hpl (not_one hpn)
  have hlen := K.len
  rw [List.length_append, List.length_cons, List.length_nil] at hlen
  have S := S.fact (oaF l os) ((O.keep kB).keep (tk_of S))
  have IC : CodeAt w B x dx lo t1 := ⟨hB _ _ IC.inst (not_one hne.1), hB _ _ IC.dict (not_one hne.2)⟩
  refine x0_6 (ch3 hz hlen) fun pl0 pl1 pl3 pl2 rlp et => ?_
  repeat' (walk_at "ms@21_1")
  (rename Sx _ _ _ _ _ _ _ => a); rename_i ea _; (rename Sx _ _ _ _ _ _ _ => S)
  refine x_for (fun _ => rfl) ?_
  repeat' (walk_at "ms@21_1")
  refine o_lenL (S.isB hplB) pl1 fun t1 tk => ?_
  repeat' (walk_at "ms@21_1")
  refine o_slto S (S.isB hplB) pl0 pl2 (by with_unfolding_all rfl) (by intro _; with_unfolding_all rfl) ?_
  clear S; intro sl h tk S nsl
  rw [et] at S
  have S : Sx B L h _ [some (.ref x), some (.ref pa), some (.ref ea), none, none, none] _ _ := S.pad 3
  have tkl : (pl.take r.length).length = r.length := by rw [List.length_take]; exact Nat.min_eq_left (Nat.le_of_lt rlp)
  have Kr : ∀ {h : Heap}, Tk B h → ∀ {i : Nat} {v : Value}, (pl.take r.length)[i]? = some v → ∃ T, r[i]? = some T ∧ IsTr h v T := fun k i v hv => by
    refine x1_2 (((K.take r.length).keep k).at hv) fun T hT IT => ?_
    rw [List.take_left] at hT
    exact ⟨T, hT, IT⟩
  have e0 : os = os ++ cha none (r.take 0) os.length := (List.append_nil os).symm
  have O0 : Oa h l (os ++ cha none (r.take 0) os.length) := by rw [← e0]; exact S.ft (oaF l os) (.head _)
  have S1 := S.facts0.fact (oaF l (os ++ cha none (r.take 0) os.length)) O0
  refine x_for_list (items := pl.take r.length) (ChJ x pa ea sl lo pl r os) V R.h S1 (.mk .nil rfl) po_no ?_ ?_ ?_
  · intro i _ _ _ J
    cases J
    exact .inl ⟨_, .head _⟩
  · intro i _ _ _ v hv J
    cases J with | @mk o3 o4 l' el c' ce his hel => ?_
    refine ⟨_, by walk_at "zs", fun h tk p S => ?_⟩
    refine x1_2 (Kr (tk_of S) hv) fun T hT IT => ?_
    have hil : i < r.length := (List.getElem?_eq_some_iff.mp hT).1
    have hm := hn T (List.mem_append_left _ (List.mem_of_getElem? hT))
    have hq := szs_take r i T hT
    have hcz := cha_size none (r.take i) os.length
    rw [List.length_take, Nat.min_eq_left (Nat.le_of_lt hil)] at hcz
    refine x0_4 (ch1 hz hq hcz hil) fun q1 q2 q3 q4 => ?_
    clear hcz hq
    have e1 := cha_snoc (e := none) (o := os.length) hT
    have e2 := chp_snoc (o := os.length) hT
    have hA : (os ++ cha none (r.take i) os.length).length = os.length + (cha none (r.take i) os.length).length := List.length_append
    generalize hAA : os ++ cha none (r.take i) os.length = AA at *
    have bA : Bd AA (2 ^ 18) := Nat.le_trans (Nat.le_of_eq hA) q3
    repeat' (walk_at "ms@21_1")
    refine s_emit (none) G S R1 IC (by walk_at "zu") (by walk_at "zm") ?_ (by walk_at "bd") ?_
    · rfl
    clear S; intro t1 h tk S
    repeat' (walk_at "ms@21_1")
    refine s_put IH hm.1 G S R4 ((Kr (tk_of S) hv).elim fun U z => by rw [hT] at z; cases z.1; exact z.2) hm.2 IC (by walk_at "zm") (by walk_at "zm") (by rw [List.length_append, hA]; exact q2) fun l' c' => ⟨_, by walk_at "zu", ?_⟩
    clear S; intro h tk S
    have hcl := cs_size T (AA ++ [none]).length
    generalize hC : cs T (AA ++ [none]).length = C at S hcl
    have bC : Bd C (2 ^ 18) := Nat.le_trans hcl q1
    repeat' (walk_at "ms@21_1")
    refine s_emit (none) G S R1 IC (by walk_at "zu") (by walk_at "zm") ?_ (by walk_at "bd") ?_
    · rfl
    clear S; intro t1 h tk S
    repeat' (walk_at "ms@21_1")
    refine o_append S (.s (.s .z)) rfl (hel.symm ▸ Nat.le_trans q4 size18) ?_
    clear S; intro h tk S
    repeat' (walk_at "ms@21_1")
    refine s_olen S (by walk_at "zm") (by walk_at "zm") (by walk_at "bd") fun t1 tk => ?_
    repeat' (walk_at "ms@21_1")
    refine s_order (some (.split _)) S (by walk_at "zu") (by walk_at "zm") ⟨_, _, _, rfl, S.inF .z⟩ (by walk_at "bd") (by walk_at "lt") ?_
    clear S; intro h tk S
    have O : Oa h _ _ := S.ft (oaF _ _) (.head _)
    rw [choice_turn (by rw [List.length_append, List.length_append, List.length_append]; rfl)] at O
    have hlen2 : AA.length + 1 = (AA ++ [none]).length := by rw [List.length_append]; rfl
    have fin : os ++ cha none (r.take (i + 1)) os.length = AA ++ ([some (Ord.split (AA.length + 1 + C.length + 1))] ++ C ++ [none]) := by
      rw [e1, ← List.append_assoc, hAA, ← hA, hlen2, hC]
    rw [← fin] at O
    refine lf_next (S.facts0.fact (oaF _ _) O) (.mk ?_ (by rw [List.length_append, hel]; rfl))
    rw [e2, ← hA, hlen2, hC]
    have : (AA ++ [none] ++ C).length = (AA ++ [none]).length + C.length := List.length_append
    rw [← this]
    exact his.snoc
  · intro _ _ _ h tk J S
    cases J with | @mk o3 o4 l' el c' ce his hel => ?_
    rw [tkl, List.take_length] at S his
    have S := S.drop (news' := [(ea, listOf el.toArray ce), (lo, listOf l'.toArray c')]) (List.sublist_cons_self _ _)
    have hcz := cha_size none r os.length
    have hA : (os ++ cha none r os.length).length = os.length + (cha none r os.length).length := List.length_append
    repeat' (walk_at "ms@21_1")
    refine o_lenL (S.isB hplB) pl1 fun t1 tk => ?_
    repeat' (walk_at "ms@21_1")
    obtain ⟨xv, hxv⟩ : ∃ v, pl[r.length]? = some v := ⟨pl[r.length]'rlp, List.getElem?_eq_getElem _⟩
    refine o_itemL (S.isB hplB) pl0 pl3 (x := xv) (by rw [et]; exact hxv) ?_ (by with_unfolding_all rfl) (by intro _; with_unfolding_all rfl)
    repeat' (walk_at "ms@21_1")
    have IX : IsTr B xv X := by
      refine x1_2 (K.at hxv) fun T hT IT => ?_
      rw [List.getElem?_append_right (Nat.le_refl _), Nat.sub_self] at hT
      cases hT; exact IT
    have hm := hn X (by simp)
    refine s_put IH hm.1 G S R4 (IX.keep (tk_of S)) hm.2 IC (by walk_at "zm") (by walk_at "zm") (by rw [hA]; exact (ch2 (C := 0) hz hcz (Nat.zero_le _)).1) fun l' c' => ⟨_, by walk_at "zu", ?_⟩
    clear S; intro h tk S
    have hcl := cs_size X (os ++ cha none r os.length).length
    rw [hA] at S hcl
    generalize hC : cs X (os.length + (cha none r os.length).length) = C at S hcl ret
    have S : Sx B L h _ [some (.ref x), some (.ref pa), some (.ref ea), o3, o4, none] _ _ := S
    have S := S.facts (fs' := [oaF l' (os ++ cha none r os.length ++ C)]) (fun f hf => by rw [List.mem_singleton.mp hf]; exact .head _)
    repeat' (walk_at "ms@21_1")
    refine x_for (fun _ => rfl) ?_
    repeat' (walk_at "ms@21_1")
    have hil := his.len
    refine x_for_list (items := el) (ChK x pa ea lo o3 o4 el ce (fun i => ((chp r os.length).take i).foldl (fun l n => l.set n (some (.jump (os ++ cha none r os.length ++ C).length))) (os ++ cha none r os.length ++ C))) V R.h S .mk po_no ?_ ?_ ?_
    · intro i _ _ _ J
      cases J
      exact .inl ⟨_, .head _⟩
    · intro i _ _ _ v hv J
      cases J with | @mk o5 l' c' => ?_
      refine ⟨_, by walk_at "zs", fun h tk p S => ?_⟩
      refine x2_2 (his.at hv) fun n t hn1 zq3 => ?_; subst zq3
      have hlt := chp_lt r os.length none n (List.mem_of_getElem? hn1)
      have hfl := foldl_set_len (e := some (.jump (os ++ cha none r os.length ++ C).length)) ((chp r os.length).take i) (os ++ cha none r os.length ++ C)
      have hAC : (os ++ cha none r os.length ++ C).length = os.length + (cha none r os.length).length + C.length := by rw [List.length_append, hA]
      have etk : ((chp r os.length).take (i + 1)).foldl (fun l n => l.set n (some (.jump (os ++ cha none r os.length ++ C).length))) (os ++ cha none r os.length ++ C) = (((chp r os.length).take i).foldl (fun l n => l.set n (some (.jump (os ++ cha none r os.length ++ C).length))) (os ++ cha none r os.length ++ C)).set n (some (.jump (os ++ cha none r os.length ++ C).length)) := by
        rw [List.take_add_one, hn1, Option.toList_some, List.foldl_append]; rfl
      generalize hD : ((chp r os.length).take i).foldl (fun l n => l.set n (some (.jump (os ++ cha none r os.length ++ C).length))) (os ++ cha none r os.length ++ C) = D at *
      have hD20 : D.length ≤ 2 ^ 20 := by rw [hfl, hAC]; exact Nat.le_trans (ch2 hz hcz hcl).2 (by decide)
      have hnD : n < D.length := by rw [hfl, hAC]; exact Nat.lt_of_lt_of_le hlt (Nat.le_add_right _ _)
      repeat' (walk_at "ms@21_1")
      refine s_olen S (by walk_at "zm") (by walk_at "zm") (by rw [hfl, hAC]; exact Nat.le_trans (ch2 hz hcz hcl).2 (by decide)) fun t1 tk => ?_
      repeat' (walk_at "ms@21_1")
      refine s_order (some (.jump _)) S (by walk_at "zu") (by walk_at "zm") ⟨_, _, _, rfl, S.inF .z⟩ hD20 hnD ?_
      clear S; intro h tk S
      have O : Oa h _ _ := S.ft (oaF _ _) (.head _)
      rw [hfl, ← etk] at O
      exact lf_next (S.facts0.fact (oaF _ _) O) .mk
    · intro _ _ _ h tk J S
      cases J with | @mk o5 l' c' => ?_
      have O : Oa h _ _ := S.ft (oaF _ _) (.head _)
      rw [hil, List.take_length, cha_set] at O
      repeat' (walk_at "ms@21_1")
      have hAC : (os ++ cha none r os.length ++ C).length = os.length + (cha none r os.length).length + C.length := by rw [List.length_append, hA]
      rw [hAC] at O
      exact ret _ _ _ _ _ rfl (stayC S hB) (S.N _ (.tail _ (.head _))).1 O
end
section
set_option maxHeartbeats 2000000
variable {w : World} {mg mb : Str → Option Value} {g : Heap} {A : Around} {s : Shared} {Q E : Value → Shared → Prop} {h : Heap} {tk n : Nat}

theorem rowA_szs : ∀ T : Tr, szs (rowA T) + (rowA T).length = T.size + 1 := by
  intro T
  induction T with
  | alt a b iha ihb => simp only [raq, szs_app, List.length_append, szq]; exact lin2 [_, _, _, _, _, _] [] (.neq (.P (.V 0) (.V 1)) (.P (.V 2) (.K 1))) (.neq (.P (.V 3) (.V 4)) (.P (.V 5) (.K 1))) (.neq (.P (.P (.V 0) (.V 3)) (.P (.V 1) (.V 4))) (.P (.P (.P (.V 2) (.V 5)) (.K 1)) (.K 1))) [[1, 1, 1], [1, -1, -1]] iha ihb (by decide +kernel)
  | _ => rfl
theorem rowC_szs : ∀ T : Tr, szs (rowC T) + (rowC T).length = T.size + 1 := by
  intro T
  induction T with
  | cat a b iha ihb => simp only [rcq, szs_app, List.length_append, szq]; exact lin2 [_, _, _, _, _, _] [] (.neq (.P (.V 0) (.V 1)) (.P (.V 2) (.K 1))) (.neq (.P (.V 3) (.V 4)) (.P (.V 5) (.K 1))) (.neq (.P (.P (.V 0) (.V 3)) (.P (.V 1) (.V 4))) (.P (.P (.P (.V 2) (.V 5)) (.K 1)) (.K 1))) [[1, 1, 1], [1, -1, -1]] iha ihb (by decide +kernel)
  | _ => rfl
theorem csr_size (r : List Tr) : ∀ o : Nat, (csr r o).length ≤ 5 * szs r := by
  induction r with
  | nil => exact fun _ => Nat.zero_le _
  | cons T r ih =>
    intro o
    have q1 := ih (o + (cs T o).length)
    have q2 := cs_size T o
    simp only [crq, zzq, List.length_append]; exact lin2 [_, _, _, _] [] (.nle (.V 0) (.M 5 (.V 1))) (.nle (.V 2) (.M 5 (.V 3))) (.nle (.P (.V 2) (.V 0)) (.M 5 (.P (.V 3) (.V 1)))) [[1, 1, 1]] q1 q2 okT
theorem csr_snoc {r : List Tr} {i o : Nat} {T : Tr} (h : r[i]? = some T) : csr (r.take (i + 1)) o = csr (r.take i) o ++ cs T (o + (csr (r.take i) o).length) := by
  rw [List.take_add_one, h, Option.toList_some, csr_app]
  exact congrArg _ (List.append_nil _)
theorem pk1 {o sz z rl xs : Nat} (hz : o + 5 * sz ≤ 2 ^ 18) (hs : z + (xs + 0) + (rl + (0 + 1)) = sz + 1) : o + 5 * z + 5 * rl + 5 * xs ≤ 2 ^ 18 := by exact lin2 [o, sz, z, xs, rl] [] (.nle (.P (.V 0) (.M 5 (.V 1))) (.W 2 18)) (.neq (.P (.P (.V 2) (.P (.V 3) (.K 0))) (.P (.V 4) (.P (.K 0) (.K 1)))) (.P (.V 1) (.K 1))) (.nle (.P (.P (.P (.V 0) (.M 5 (.V 2))) (.M 5 (.V 4))) (.M 5 (.V 3))) (.W 2 18)) [[1, 1, 5]] hz hs okT
theorem pk2 {o sz z rl i zi c W : Nat} (hz : o + 5 * sz ≤ 2 ^ 18) (hs : z + rl = sz + 1) (hi : i < rl) (hq : zi + W ≤ z) (hc : c ≤ 5 * zi) : o + c + 5 * W ≤ 2 ^ 18 := by exact lin5 [o, sz, z, rl, i, zi, W, c] [] (.nle (.P (.V 0) (.M 5 (.V 1))) (.W 2 18)) (.neq (.P (.V 2) (.V 3)) (.P (.V 1) (.K 1))) (.nlt (.V 4) (.V 3)) (.nle (.P (.V 5) (.V 6)) (.V 2)) (.nle (.V 7) (.M 5 (.V 5))) (.nle (.P (.P (.V 0) (.V 7)) (.M 5 (.V 6))) (.W 2 18)) [[1, 1, 5, 5, 5, 1]] hz hs hi hq hc okT
inductive CtJ (x p a2 lo : Addr) (t : Tok) (pl : List Value) (pc : Nat) (F : Nat → List (Option Ord)) (R : List Tr) (i : Nat) : List (Option Value) → List (Addr × Obj) → List Fact → Prop
  | mk {o4 : Option Value} {l' : List Value} {c' : Nat} : CtJ x p a2 lo t pl pc F R i [some (.ref x), some (.ref p), some (.str (Str.ofString "cat") t), o4] [(a2, listOf pl.toArray pc), (lo, listOf l'.toArray c')] [ksF pl R, oaF l' (F i)]
theorem put_ok : ∀ n, PutOk n := by
  intro N
  induction N with
  | zero => intro w mg mb g A s Q E h tk T v x dx lo t1 l os c hT; have := T.size_pos; omega
  | succ N IH =>
    intro w mg mb g A s Q E h tk T v x dx lo t1 l os c hT G hk R I sh IC hl hne O hz ret
    obtain ⟨p, rfl⟩ := I.ref
    refine enterR [(lo, listOf l.toArray c)] [some (.ref x), some (.ref p)] G hk (by k_is) (by k_is) (by decide +kernel) R (BindsTo.of_eq (bind_plain rfl rfl rfl (by decide +kernel))) (by dsimp only; repeat (first | exact Bnd.nil | refine Bnd.cons ?_)) (mem_one hl) (nd_one) (by decide +kernel) ?_ (by rfl) (by rfl); intro B h L tk env A V G S hB hB' hL R; dsimp only at V S
    have R1 : Rm A 1 := R.le (by exact lin0 [N] [] (.nle (.K 1) (.P (.M 2 (.P (.V 0) (.K 1))) (.K 3))) [[1]] okT)
    have R4 : Rm A (2 * N + 4) := R.le (by exact lin0 [N] [] (.nle (.P (.M 2 (.V 0)) (.K 4)) (.P (.M 2 (.P (.V 0) (.K 1))) (.K 3))) [[1]] okT)
    have R5 : Rm A (2 * N + 5) := R.le (by exact lin0 [N] [] (.nle (.P (.M 2 (.V 0)) (.K 5)) (.P (.M 2 (.P (.V 0) (.K 1))) (.K 3))) [[1]] okT)
    have bo : Bd os (2 ^ 18) := Nat.le_trans (Nat.le_add_right _ _) hz
    have h18 : T.size ≤ 2 ^ 18 := Nat.le_trans (Nat.le_mul_of_pos_left _ (by decide)) (Nat.le_trans (Nat.le_add_left _ _) hz)
    have kB : Tk _ B := tk_led hB (mem_one hl) (mem_one not_tup_list)
    have I := I.keep kB
    have S := S.fact (oaF l os) ((O.keep kB).keep (tk_of S))
    have IC : CodeAt w B x dx lo t1 := ⟨hB _ _ IC.inst (not_one hne.1), hB _ _ IC.dict (not_one hne.2)⟩
    cases T with
    | brk => exact sh.elim
    | rem =>
      refine At0.el I fun t i => ?_
      repeat' (walk_at "ms@22_1")
      refine s_emit (some (.one .rem)) G S R1 IC (by walk_at "zu") (by walk_at "zm") ?_ (by walk_at "bd") ?_
      · exact ⟨_, _, _, _, rfl, S.inF .z, rfl⟩
      clear S; intro t1 h tk S
      repeat' (walk_at "ms@22_1")
      exact ret _ _ _ _ (stayC S hB) (S.N _ (.head _)).1 (S.ft (oaF _ _) (.head _))
    | len m =>
      refine AtI.el I fun t u i => ?_
      repeat' (walk_at "ms@22_1")
      refine s_emit (some (.one (.len m))) G S R1 IC (by walk_at "zu") (by walk_at "zm") ?_ (by walk_at "bd") ?_
      · exact ⟨_, _, _, _, rfl, S.inF .z, _, rfl⟩
      clear S; intro t1 h tk S
      repeat' (walk_at "ms@22_1")
      exact ret _ _ _ _ (stayC S hB) (S.N _ (.head _)).1 (S.ft (oaF _ _) (.head _))
    | chars m =>
      refine AtS.el I fun t u i => ?_
      repeat' (walk_at "ms@22_1")
      refine s_emit (some (.one (.chars m))) G S R1 IC (by walk_at "zu") (by walk_at "zm") ?_ (by walk_at "bd") ?_
      · exact ⟨_, _, _, _, rfl, S.inF .z, _, rfl⟩
      clear S; intro t1 h tk S
      repeat' (walk_at "ms@22_1")
      exact ret _ _ _ _ (stayC S hB) (S.N _ (.head _)).1 (S.ft (oaF _ _) (.head _))
    | any m =>
      refine AtS.el I fun t u i => ?_
      repeat' (walk_at "ms@22_1")
      refine s_emit (some (.one (.any m))) G S R1 IC (by walk_at "zu") (by walk_at "zm") ?_ (by walk_at "bd") ?_
      · exact ⟨_, _, _, _, rfl, S.inF .z, _, rfl⟩
      clear S; intro t1 h tk S
      repeat' (walk_at "ms@22_1")
      exact ret _ _ _ _ (stayC S hB) (S.N _ (.head _)).1 (S.ft (oaF _ _) (.head _))
    | fail =>
      refine At0.el I fun t i => ?_
      repeat' (walk_at "ms@22_1")
      refine s_emit (some .fail) G S R1 IC (by walk_at "zu") (by walk_at "zm") ?_ (by walk_at "bd") ?_
      · exact ⟨_, _, rfl, S.inF .z⟩
      clear S; intro t1 h tk S
      repeat' (walk_at "ms@22_1")
      exact ret _ _ _ _ (stayC S hB) (S.N _ (.head _)).1 (S.ft (oaF _ _) (.head _))
    | arb T =>
      refine I.arb fun t u i j => ?_
      simp only [szq] at hT hz
      repeat' (walk_at "ms@22_1")
      refine c_put_repeat IH G S.stays (Nat.le_of_succ_le_succ hT) R5 (j.keep (tk_of S)) sh (S.insB IC) ⟨(S.N _ (.head _)).1, (S.N _ (.head _)).2.2⟩ hne (S.ft (oaF _ _) (.head _)) (by exact lin1 [_, _] [] (.nle (.P (.V 0) (.M 5 (.P (.V 1) (.K 1)))) (.W 2 18)) (.nle (.P (.V 0) (.M 5 (.P (.V 1) (.K 1)))) (.W 2 18)) [[1, 1]] hz okT) fun l' c' h' tk' ch e O' => ?_
      have S := S.chg .z not_tup_list ch e
      repeat' (walk_at "ms@22_1")
      exact ret _ _ _ _ (stayC S hB) (S.N _ (.head _)).1 O'
    | lat T r =>
      refine I.lat fun t u i j => ?_
      simp only [szq] at hT hz
      repeat' (walk_at "ms@22_1")
      refine s_emit (some .mark) G S R1 IC (by walk_at "zu") (by walk_at "zm") ?_ (by walk_at "bd") ?_
      · exact ⟨_, _, rfl, S.inF .z⟩
      clear S; intro t1 h tk S
      repeat' (walk_at "ms@22_1")
      refine s_put IH (Nat.le_of_succ_le_succ hT) G S R4 (j.keep (tk_of S)) sh IC (by walk_at "zm") (by walk_at "zm") (by simp <;> exact lin1 [_, _] [] (.nle (.P (.V 0) (.M 5 (.P (.V 1) (.K 1)))) (.W 2 18)) (.nle (.P (.P (.V 0) (.K 1)) (.M 5 (.V 1))) (.K 262144)) [[1, 1]] hz okT) fun l' c' => ⟨_, by walk_at "zu", ?_⟩
      clear S; intro h tk S
      have hcl := cs_size T (os ++ [some Ord.mark]).length
      generalize hC : cs T (os ++ [some Ord.mark]).length = C at S hcl
      have bC : Bd C (2 ^ 18) := Nat.le_trans hcl (by exact lin1 [_, _] [] (.nle (.P (.V 0) (.M 5 (.P (.V 1) (.K 1)))) (.W 2 18)) (.nle (.M 5 (.V 1)) (.W 2 18)) [[1, 1]] hz okT)
      repeat' (walk_at "ms@22_1")
      refine s_emit (some (.name r)) G S R1 IC (by walk_at "zu") (by walk_at "zm") ?_ (by walk_at "bd") ?_
      · exact ⟨_, _, rfl, S.inF .z⟩
      clear S; intro t1 h tk S
      repeat' (walk_at "ms@22_1")
      have O : Oa h _ _ := S.ft (oaF _ _) (.head _)
      refine ret _ _ _ _ (stayC S hB) (S.N _ (.head _)).1 ?_
      rw [show os ++ cs (.lat T r) os.length = os ++ [some Ord.mark] ++ C ++ [some (Ord.name r)] by rw [← hC]; simp [cs, cdq]]
      exact O
    | alt T U =>
      refine I.alt fun t u1 u2 i j1 j2 => ?_
      have kk : ∀ {h : Heap}, Tk B h → IsTr h (.ref p) (.alt T U) := fun k => I.keep k
      refine x2_3 (cs_rowA _ sh os.length) fun r X h1 h2 h3 => ?_
      have hsz := rowA_szs (.alt T U)
      have hls := szs_len r
      rw [h1, szs_app, List.length_append] at hsz
      simp only [zzq, List.length_cons, List.length_nil] at hsz
      have hmem : ∀ W ∈ r ++ [X], W.size ≤ N ∧ Sh W := fun W hW => by
        rw [← h1] at hW
        have := (rowA_size hW).2 _ _ rfl
        exact ⟨Nat.le_of_lt_succ (Nat.lt_of_lt_of_le this hT), rowA_sh sh hW⟩
      have h4 := h3 _ rfl
      have hl4 := congrArg List.length h4
      rw [List.length_append, cha_len _ none] at hl4
      repeat' (walk_at "ms@22_1")
      refine c_row_of (isC := false) G S.stays (R.le (by exact lin0 [N] [] (.nle (.K 1) (.P (.M 2 (.P (.V 0) (.K 1))) (.K 3))) [[1]] okT)) (kk (tk_of S)) (Nat.le_trans h18 (by decide)) fun a pl pc h tk k hn ho K => ?_
      have S := S.got k hn ho
      rw [show rowK false (.alt T U) = r ++ [X] from h1] at K
      repeat' (walk_at "ms@22_1")
      refine c_put_choice IH G S.stays hmem R5 (S.N _ (.head _)).1 (fun q => (List.nodup_cons.mp S.nd).1 (by rw [q]; exact .head _)) K (S.insB IC) ⟨(S.N _ (.tail _ (.head _))).1, (S.N _ (.tail _ (.head _))).2.2⟩ hne (S.ft (oaF _ _) (.head _)) (pk1 hz hsz) fun l' c' h' tk' e he ch e' O' => ?_
      have S := S.chg (.s .z) not_tup_list ch e'
      repeat' (walk_at "ms@22_1")
      refine ret _ _ _ _ (stayC S hB) (S.N _ (.tail _ (.head _))).1 ?_
      rw [h4, ← List.append_assoc]
      rw [hl4, ← Nat.add_assoc, ← he]
      exact O'
    | cat T U =>
      refine I.cat fun t u1 u2 i j1 j2 => ?_
      have kk : ∀ {h : Heap}, Tk B h → IsTr h (.ref p) (.cat T U) := fun k => I.keep k
      have hsz := rowC_szs (.cat T U)
      have hls := szs_len (rowC (.cat T U))
      repeat' (walk_at "ms@22_1")
      refine x_for (fun _ => rfl) ?_
      repeat' (walk_at "ms@22_1")
      refine c_row_of (isC := true) G S.stays (R.le (by exact lin0 [N] [] (.nle (.K 1) (.P (.M 2 (.P (.V 0) (.K 1))) (.K 3))) [[1]] okT)) (kk (tk_of S)) (Nat.le_trans h18 (by decide)) fun a pl pc h tk k hn ho K => ?_
      have S := S.got k hn ho
      repeat' (walk_at "ms@22_1")
      refine c_joined_texts G S.stays (R.le (by exact lin0 [N] [] (.nle (.K 2) (.P (.M 2 (.P (.V 0) (.K 1))) (.K 3))) [[1]] okT)) (S.N _ (.head _)).1 K sh.2.2 (Nat.le_trans (Nat.le_trans (Nat.le_add_left _ _) (Nat.le_of_eq hsz)) (Nat.le_trans (Nat.succ_le_succ h18) (by decide))) fun a2 pc2 h tk k hn2 ho2 K => ?_
      have S := (S.got k hn2 ho2).fact (ksF pl (rowC (.cat T U))) K
      have hlen : pl.length = (rowC (.cat T U)).length := K.len
      have S : Sx B L h _ [some (.ref x), some (.ref p), some (.str (Str.ofString "cat") t), none] _ _ := S.pad 1
      have O0 : Oa h l (os ++ csr ((rowC (.cat T U)).take 0) os.length) := by rw [show os ++ csr ((rowC (.cat T U)).take 0) os.length = os from List.append_nil os]; exact S.ft (oaF l os) (by walk_at "zf")
      have K1 : Ks h pl (rowC (.cat T U)) := S.ft (ksF _ _) (.head _)
      have S1 := (S.drop (news' := [(a2, listOf pl.toArray pc2), (lo, listOf l.toArray c)]) (.cons_cons _ (List.sublist_cons_self _ _))).facts0.fact (oaF l _) O0
      refine x_for_list (items := pl) (CtJ x p a2 lo t pl pc2 (fun i => os ++ csr ((rowC (.cat T U)).take i) os.length) (rowC (.cat T U))) V R.h (S1.fact (ksF pl (rowC (.cat T U))) K1) .mk po_no ?_ ?_ ?_
      · intro i _ _ _ J
        cases J
        exact .inl ⟨_, .head _⟩
      · intro i _ _ _ v hv J
        cases J with | @mk o4 l' c' => ?_
        refine ⟨_, by walk_at "zs", fun h tk p S => ?_⟩
        have Kh : Ks h pl (rowC (.cat T U)) := S.ft (ksF _ _) (.head _)
        refine x1_2 (Kh.at hv) fun W hW IW => ?_
        have hm := List.mem_of_getElem? hW
        have hil := (List.getElem?_eq_some_iff.mp hW).1
        have hs1 := (rowC_size hm).2 _ _ rfl
        have hq := szs_take _ i W hW
        have hc := csr_size ((rowC (.cat T U)).take i) os.length
        have hA : (os ++ csr ((rowC (.cat T U)).take i) os.length).length = os.length + (csr ((rowC (.cat T U)).take i) os.length).length := List.length_append
        repeat' (walk_at "ms@22_1")
        refine s_put IH (Nat.le_of_lt_succ (Nat.lt_of_lt_of_le hs1 hT)) G S R4 IW (rowC_sh sh hm) IC (by walk_at "zm") (by walk_at "zm") (by rw [hA]; exact pk2 hz hsz hil hq hc) fun l' c' => ⟨_, by walk_at "zu", ?_⟩
        clear S; intro h tk S
        have O : Oa h _ _ := S.ft (oaF _ _) (.head _)
        have K2 : Ks h pl (rowC (.cat T U)) := S.ft (ksF _ _) (by walk_at "zf")
        rw [hA, List.append_assoc, ← csr_snoc hW] at O
        repeat' (walk_at "ms@22_1")
        exact lf_next ((S.facts0.fact (oaF _ _) O).fact (ksF _ _) K2) .mk
      · intro _ _ _ h tk J S
        cases J with | @mk o4 l' c' => ?_
        have O : Oa h l' (os ++ csr ((rowC (.cat T U)).take pl.length) os.length) := S.ft (oaF _ _) (.tail _ (.head _))
        rw [hlen, List.take_length, csr_rowC] at O
        repeat' (walk_at "ms@22_1")
        exact ret _ _ _ _ (stayC S hB) (S.N _ (.tail _ (.head _))).1 O
end
section
set_option maxHeartbeats 2000000
variable {w : World} {mg mb : Str → Option Value} {g : Heap} {A : Around} {s : Shared} {Q E : Value → Shared → Prop} {h : Heap} {tk n : Nat}

noncomputable def Ord.goal (o : Ord) : Option Nat := o.casesOn (fun _ => none) some some none (fun _ => none) none none none
noncomputable def Ord.isJump (o : Ord) : Bool := o.casesOn (fun _ => false) (fun _ => false) (fun _ => true) false (fun _ => false) false false false
theorem Ord.word_jump (o : Ord) : (o.word == Str.ofString "jump") = o.isJump := by cases o <;> exact of_decide_eq_true rfl
theorem Ord.word_any (o : Ord) : ([Str.ofString "jump", Str.ofString "split"].any fun x => x == o.word) = o.goal.isSome := by cases o <;> exact of_decide_eq_true rfl
theorem IsOrd.goalTup {h : Heap} {v : Value} {o : Ord} {n : Nat} (I : IsOrd h v (some o)) (e : o.goal = some n) : AtI h o.word v n := by
  cases o <;> cases e <;> exact I
theorem IsOrd.ofGoal {h : Heap} {o : Ord} {n : Nat} {a : Addr} {t u : Tok} (e : o.goal = some n) (i : IsTup h a [.str o.word t, .int (n : Int) u].toArray) : IsOrd h (.ref a) (some o) := by
  cases o <;> cases e <;> exact ⟨a, t, u, rfl, i⟩
noncomputable def Strt (os : List Ord) : Prop := ∀ o ∈ os, ∀ n, o.goal = some n → ∃ o', os[n]? = some o' ∧ o'.isJump = false
noncomputable def Os (os : List Ord) : List (Option Ord) := os.map some
theorem c_straightened {la : Addr} {l : List Value} {c : Nat} {os : List Ord} (G : Gl w mg mb g) (hk : g.StaysIn h) (R : Rm A 1) (hl : h.get? la = some (listOf l.toArray c)) (O : Oa h l (Os os)) (st : Strt os) (hsz : os.length ≤ 2 ^ 20) (ret : ∀ a l' c h' tk', h.StaysIn h' → h.get? a = none → h'.get? a = some (listOf l'.toArray c) → Oa h' l' (Os os) → Q (.ref a) (St s h' tk')) : wpAny (model pg w) A (call (.ref 428) [.ref la]) Q E (St s h tk) := by
  refine enterR [] [some (.ref la)] G hk (by k_is) (by k_is) (by decide +kernel) R (BindsTo.of_eq (bind_plain rfl rfl rfl (by decide +kernel))) (by dsimp only; repeat (first | exact Bnd.nil | refine Bnd.cons ?_)) (fun p hp => nomatch hp) List.nodup_nil (by decide +kernel) ?_ (by rfl) (by rfl); intro B h L tk env A V G S hB hB' hL R; dsimp only at V S
  have O := O.keep (tk_base0 hB)
  have hlB := hB _ _ hl (fun q => nomatch q)
  have hlen : l.length = os.length := by rw [O.len]; simp [Os]
  have Oat : ∀ {h : Heap}, Tk B h → ∀ {i : Nat} {v : Value}, l[i]? = some v → ∃ o, os[i]? = some o ∧ IsOrd h v (some o) := fun k i v e => by
    refine x1_2 ((O.keep k).at e) fun o ho io => ?_
    simp only [Os, List.getElem?_map] at ho
    cases z : os[i]? with
    | none => rw [z] at ho; cases ho
    | some o' => rw [z] at ho; cases ho; exact ⟨o', rfl, io⟩
  repeat' (walk_at "ms@23_1")
  (rename Sx _ _ _ _ _ _ _ => a); rename_i fa _; (rename Sx _ _ _ _ _ _ _ => S)
  have S : Sx B L h _ [some (.ref la), some (.ref fa), none, none] _ _ := S.pad 2
  refine x_for (fun _ => rfl) ?_
  repeat' (walk_at "ms@23_1")
  refine x_for_list (items := l) (fun i vs news fs => ∃ o1 o2 fl c, vs = [some (.ref la), some (.ref fa), o1, o2] ∧ news = [(fa, listOf fl.toArray c)] ∧ fs = [oaF fl (Os (os.take i))] ∧ fl.length = i) V R.h (S.fact (oaF [] []) .nil) ⟨_, _, [], _, rfl, rfl, rfl, rfl⟩ po_no ?_ ?_ ?_
  · rintro i _ _ _ ⟨o1, o2, fl, c, rfl, rfl, rfl, _⟩
    exact .inr ⟨_, hlB, rfl, _, rfl⟩
  · rintro i _ _ _ v hv ⟨o1, o2, fl, c, rfl, rfl, rfl, hfl⟩
    refine ⟨_, by walk_at "zs", fun h tk p S => ?_⟩
    refine x1_2 (Oat (tk_of S) hv) fun o ho io => ?_
    have hil : i < l.length := (List.getElem?_eq_some_iff.mp hv).1
    have htk : Os (os.take i) ++ [some o] = Os (os.take (i + 1)) := by rw [List.take_add_one, ho]; simp [Os]
    have S := S.fact (ordF v (some o)) io
    cases hg : o.goal with
    | none =>
      refine io.head fun p1 t1 l1 zq3 ih => ?_; subst zq3
      have S := S.fact (tupF p1 _) ih
      repeat' (walk_at "ms@23_1")
      refine it_is (y := false) (by rw [o.word_any, hg]; rfl) (it_f ?_)
      repeat' (walk_at "ms@23_1")
      refine o_append S (.s .z) rfl (by unfold sizeLine; exact lin4 [_, _, _, i] [] (.nle (.V 0) (.W 2 20)) (.neq (.V 1) (.V 0)) (.neq (.V 2) (.V 3)) (.nlt (.V 3) (.V 1)) (.nle (.V 2) (.W 2 24)) [[1, 1, 1, 1, 1]] hsz hlen hfl hil okT) ?_
      clear S; intro h tk S
      have H2 : Oa h fl (Os (os.take i)) := S.ft (oaF _ _) (by walk_at "zf")
      have io2 : IsOrd h (.ref p1) (some o) := S.ft (ordF (.ref p1) (some o)) (by walk_at "zf")
      have O2 := H2.snoc io2
      rw [htk] at O2
      repeat' (walk_at "ms@23_1")
      exact lf_next (S.facts0.fact (oaF _ _) O2) ⟨_, _, _, _, rfl, rfl, rfl, by simp [hfl]⟩
    | some n =>
      refine x1_2 (st o (List.mem_of_getElem? ho) n hg) fun o' ho' hj => ?_
      have hnl : n < os.length := (List.getElem?_eq_some_iff.mp ho').1
      refine AtI.out (io.goalTup hg) fun p1 tz uz zq3 ih => ?_; subst zq3
      have S := S.fact (tupF p1 _) ih
      repeat' (walk_at "ms@23_1")
      refine it_is (y := true) (by rw [o.word_any, hg]; rfl) (it_t ?_)
      repeat' (walk_at "ms@23_1")
      refine x_while (fun k vs news fs => vs = [some (.ref la), some (.ref fa), some (.ref p1), some (.int (n : Int) uz)] ∧ news = [p, (fa, listOf fl.toArray c)] ∧ fs = [tupF p1 [.str o.word tz, .int (n : Int) uz].toArray, ordF (.ref p1) (some o), oaF fl (Os (os.take i))]) 0 (S.facts (fun f hf => by simp only [List.mem_cons, List.not_mem_nil, or_false] at hf; rcases hf with rfl | rfl | rfl <;> simp)) ⟨rfl, rfl, rfl⟩ po_no ?_
      rintro k _ _ _ h tk ⟨rfl, rfl, rfl⟩ S
      repeat' (walk_at "ms@23_1")
      refine o_itemL (S.isB hlB) (by exact lin0 [n] [] (.ile (.K 0) (.C (.V 0))) [[1]]  okT) (by exact lin2 [_, n] [] (.nle (.V 0) (.W 2 20)) (.nlt (.V 1) (.V 0)) (.ilt (.C (.V 1)) (.W 2 63)) [[1, 1, 1]] hsz hnl okT) (x := l[n]'(by exact lin2 [_, _, n] [] (.neq (.V 0) (.V 1)) (.nlt (.V 2) (.V 1)) (.nlt (.V 2) (.V 0)) [[1, -1, 1]] hlen hnl (by decide +kernel))) (by rw [Int.toNat_natCast]; exact List.getElem?_eq_getElem _) ?_ (by with_unfolding_all rfl) (by intro _; with_unfolding_all rfl)
      refine x1_2 (Oat (tk_of S) (i := n) (List.getElem?_eq_getElem (by exact lin2 [_, _, n] [] (.neq (.V 0) (.V 1)) (.nlt (.V 2) (.V 1)) (.nlt (.V 2) (.V 0)) [[1, -1, 1]] hlen hnl (by decide +kernel)))) fun o2' ho2 io2 => ?_
      rw [ho'] at ho2
      cases ho2
      refine io2.head fun p2 t2 l2 hp2 ih2 => ?_
      rw [hp2]
      have S := S.fact (tupF p2 _) ih2
      repeat' (walk_at "ms@23_1")
      refine it_is (y := false) (by rw [o'.word_jump, hj]) (it_f ?_)
      repeat' (walk_at "ms@23_1")
      refine o_append S (.s .z) rfl (by unfold sizeLine; exact lin4 [_, _, _, i] [] (.nle (.V 0) (.W 2 20)) (.neq (.V 1) (.V 0)) (.neq (.V 2) (.V 3)) (.nlt (.V 3) (.V 1)) (.nle (.V 2) (.W 2 24)) [[1, 1, 1, 1, 1]] hsz hlen hfl hil okT) ?_
      clear S; intro h tk S
      have H2 : Oa h fl (Os (os.take i)) := S.ft (oaF _ _) (by walk_at "zf")
      have O2 := H2.snoc (IsOrd.ofGoal hg (S.ft (tupF a _) (.head _)))
      rw [htk] at O2
      repeat' (walk_at "ms@23_1")
      exact lf_next (S.facts0.fact (oaF _ _) O2) ⟨_, _, _, _, rfl, rfl, rfl, by simp [hfl]⟩
  · rintro _ _ _ h tk ⟨o1, o2, fl, c, rfl, rfl, rfl, hfl⟩ S
    have O2 : Oa h fl _ := S.ft (oaF _ _) (by walk_at "zf")
    rw [hlen, List.take_length] at O2
    repeat' (walk_at "ms@23_1")
    have F := fresh S hB (.z)
    exact ret fa _ _ _ _ (stay S hB) F.1 F.2 O2
end
section
set_option maxHeartbeats 2000000
variable {w : World} {mg mb : Str → Option Value} {g : Heap} {A : Around} {s : Shared} {Q E : Value → Shared → Prop} {h : Heap} {tk n : Nat}

theorem c_compile {T : Tr} {v : Value} {N : Nat} (G : Gl w mg mb g) (hk : g.StaysIn h) (R : Rm A (2 * N + 6)) (hN : T.size ≤ N) (I : IsTr h v T) (sh : Sh T) (st : Strt (code T 0 ++ [.done])) (hz : 5 * T.size ≤ 2 ^ 17) (ret : ∀ a l c h' tk', h.StaysIn h' → h.get? a = none → h'.get? a = some (listOf l.toArray c) → Oa h' l (Os (code T 0 ++ [.done])) → Q (.ref a) (St s h' tk')) : wpAny (model pg w) A (call (.ref 435) [v]) Q E (St s h tk) := by
  refine enterR [] [some v] G hk (by k_is) (by k_is) (by decide +kernel) R (BindsTo.of_eq (bind_plain rfl rfl rfl (by decide +kernel))) (by dsimp only; repeat (first | exact Bnd.nil | refine Bnd.cons ?_)) (fun p hp => nomatch hp) List.nodup_nil (by decide +kernel) ?_ (by rfl) (by rfl); intro B h L tk env A V G S hB hB' hL R; dsimp only at V S
  have I := I.keep (tk_base0 hB)
  have hcs := code_size T 0
  repeat' (walk_at "ms@24_1")
  refine c_PatternCode G S.stays (R.le (by exact lin0 [N] [] (.nle (.K 2) (.P (.M 2 (.V 0)) (.K 5))) [[1]]  okT)) fun x dx lo t h tk k n1 n2 n3 IC hl nd => ?_
  refine x0_2 (List.nodup_cons.mp nd) fun nd1 nd2 => ?_
  have nx : x ≠ dx := fun q => nd1 (by rw [q]; exact .head _)
  have nlx : x ≠ lo := fun q => nd1 (by rw [q]; exact .tail _ (.head _))
  have nld : dx ≠ lo := fun q => (List.nodup_cons.mp nd2).1 (by rw [q]; exact .head _)
  have S := S.gotL k nx n1 n2 n3 nlx nld IC hl
  repeat' (walk_at "ms@24_1")
  refine put_ok N hN G S.stays (R.le (by exact lin0 [N] [] (.nle (.P (.M 2 (.V 0)) (.K 4)) (.P (.M 2 (.V 0)) (.K 5))) [[1]]  okT)) (I.keep (tk_of S)) sh (S.ins .z (.s .z)) ⟨(S.N _ (.tail _ (.tail _ (.head _)))).1, (S.N _ (.tail _ (.tail _ (.head _)))).2.2⟩ ⟨nlx, nld⟩ .nil (by simp; exact lin1 [_] [] (.nle (.M 5 (.V 0)) (.W 2 17)) (.nle (.M 5 (.V 0)) (.K 262144)) [[1, 1]] hz okT) fun l' c' h' tk' ch e O' => ?_
  have S := (S.chg (.s (.s .z)) not_tup_list ch e).fact (oaF l' (cs T 0)) O'
  repeat' (walk_at "ms@24_1")
  have hl' := O'.len
  refine c_emit G S.stays (R.le (by exact lin0 [N] [] (.nle (.K 1) (.P (.M 2 (.V 0)) (.K 5))) [[1]]  okT)) (S.ins .z (.s .z)) ⟨nlx, nld⟩ ⟨(S.N _ (.tail _ (.tail _ (.head _)))).1, (S.N _ (.tail _ (.tail _ (.head _)))).2.2⟩ (by rw [hl']; simp [cs]; exact lin2 [_, _] [] (.nle (.M 5 (.V 0)) (.W 2 17)) (.nle (.V 1) (.M 5 (.V 0))) (.nle (.V 1) (.K 1048576)) [[1, 1, 1]] hz hcs okT) fun t2 h' tk' ch e => ?_
  have td : IsTup _ a _ := S.inF .z
  have tkk := chg_tk S (.tail _ (.tail _ (.head _))) not_tup_list ch
  have O2 : Oa h' _ _ := (Oa.keep tkk (S.ft (oaF l' (cs T 0)) (by walk_at "zf"))).snoc (o := some .done) ⟨a, _, rfl, tkk.tup td⟩
  have S := S.chg (.s (.s .z)) not_tup_list ch e
  have ec : cs T 0 ++ [some .done] = Os (code T 0 ++ [.done]) := by simp [cs, Os]
  rw [ec] at O2
  repeat' (walk_at "ms@24_1")
  refine c_straightened G S.stays (R.le (by exact lin0 [N] [] (.nle (.K 1) (.P (.M 2 (.V 0)) (.K 5))) [[1]]  okT)) (S.N _ (.tail _ (.tail _ (.head _)))).1 O2 st (by simp; exact lin2 [_, _] [] (.nle (.M 5 (.V 0)) (.W 2 17)) (.nle (.V 1) (.M 5 (.V 0))) (.nle (.V 1) (.K 1048575)) [[1, 1, 1]] hz hcs okT) fun a2 l2 c2 h' tk' k2 ha2 hl2 O3 => ?_
  have e0 := none_of (stay S hB) ha2
  have S := S.call k2
  repeat' (walk_at "ms@24_1")
  exact ret a2 l2 c2 _ _ (stay S hB) e0 hl2 O3
end
section
set_option maxHeartbeats 2000000
variable {w : World} {mg mb : Str → Option Value} {g : Heap} {A : Around} {s : Shared} {Q E : Value → Shared → Prop} {h : Heap} {tk n : Nat}

noncomputable abbrev wyd (w : World) (t1 t2 t3 t4 t5 t6 : Tok) (vo vpc vat vn vm : Value) : Obj := dob w.params wyn [t1, t2, t3, t4, t5, t6] [vo, vpc, vat, vn, vm, .none]
noncomputable abbrev mtn : List Str := [Str.ofString "subject", Str.ofString "host", Str.ofString "history"]
noncomputable abbrev mtd (w : World) (t1 t2 t3 : Tok) (v1 v2 v3 : Value) : Obj := dob w.params mtn [t1, t2, t3] [v1, v2, v3]
theorem list_cons {α : Type} {n : Nat} {l : List α} (h : l.length = n + 1) : ∃ a r, l = a :: r ∧ r.length = n := by
  cases l with
  | nil => cases h
  | cons a r => exact ⟨a, r, rfl, Nat.succ.inj h⟩
theorem list_six {α : Type} {l : List α} (h : l.length = 6) : ∃ a b c d e f, l = [a, b, c, d, e, f] :=
  x2_2 (list_cons h) fun a _ e0 h => x2_2 (list_cons h) fun b _ e1 h => x2_2 (list_cons h) fun c _ e2 h => x2_2 (list_cons h) fun d _ e3 h => x2_2 (list_cons h) fun e _ e4 h => x2_2 (list_cons h) fun f _ e5 h =>
    ⟨a, b, c, d, e, f, by rw [e0, e1, e2, e3, e4, e5, List.eq_nil_of_length_eq_zero h]⟩
variable {x : Str} {m dm wy dw lh : Addr} {t t1 t2 t3 t4 t5 t6 tp ta tx u1 u2 u3 : Tok} {vo vn vm vh : Value} {pc at' : Int}
theorem c_copied {i : Int} {ti : Tok} (G : Gl w mg mb g) (hk : g.StaysIn h) (R : Rm A 3) (I : Ins h wy 585 dw (wyd w t1 t2 t3 t4 t5 t6 vo (.int pc tp) (.int at' ta) vn vm)) (h1 : handedIn vo = true) (h2 : handedIn vn = true) (h3 : handedIn vm = true) (ret : ∀ x dx t1 t2 t3 t4 t5 t6 h' tk', h.StaysIn h' → x ≠ dx → h.get? x = none → h.get? dx = none → Ins h' x 585 dx (wyd w t1 t2 t3 t4 t5 t6 vo (.int i ti) (.int at' ta) vn vm) → Q (.ref x) (St s h' tk')) : wpAny (model pg w) A (call (.ref 582) [.ref wy, .int i ti]) Q E (St s h tk) := by
  refine enterR [] [some (.ref wy), some (.int i ti)] G hk (by k_is) (by k_is) (by decide +kernel) R (BindsTo.of_eq (bind_plain rfl rfl rfl (by decide +kernel))) (by dsimp only; repeat (first | exact Bnd.nil | refine Bnd.cons ?_)) (fun p hp => nomatch hp) List.nodup_nil (by decide +kernel) ?_ (by rfl) (by rfl); intro B h L tk env A V G S hB hB' hL R; dsimp only at V S
  have I : Ins B wy 585 dw (wyd w t1 t2 t3 t4 t5 t6 vo (.int pc tp) (.int at' ta) vn vm) := ⟨hB _ _ I.inst (fun q => nomatch q), hB _ _ I.dict (fun q => nomatch q)⟩
  repeat' (walk_at "ms@25_1")
  refine c_Way G S.stays (R.le (by decide)) fun x dx ts h tk k ne n1 n2 hts I2 => ?_
  refine x6_1 (list_six hts) fun a1 a2 a3 a4 a5 a6 zq6 => ?_; subst zq6
  have e1 := none_of (stay S hB) n1
  have e2 := none_of (stay S hB) n2
  have S := S.call k
  repeat' (walk_at "ms@25_1")
  exact ret x dx _ _ _ _ _ _ _ _ (stay S hB) ne e1 e2 I2
theorem c_way_back_nil {c : Nat} (G : Gl w mg mb g) (hk : g.StaysIn h) (R : Rm A 1) (I : Ins h m 662 dm (mtd w t1 t2 t3 (.str x tx) vh (.ref lh))) (hl : h.get? lh = some (listOf [].toArray c)) (ret : ∀ h' tk', h.StaysIn h' → Q .none (St s h' tk')) : wpAny (model pg w) A (call (.ref 617) [.ref m]) Q E (St s h tk) := by
  refine enterR [] [some (.ref m)] G hk (by k_is) (by k_is) (by decide +kernel) R (BindsTo.of_eq (bind_plain rfl rfl rfl (by decide +kernel))) (by dsimp only; repeat (first | exact Bnd.nil | refine Bnd.cons ?_)) (fun p hp => nomatch hp) List.nodup_nil (by decide +kernel) ?_ (by rfl) (by rfl); intro B h L tk env A V G S hB hB' hL R; dsimp only at V S
  have I : Ins B m 662 dm (mtd w t1 t2 t3 (.str x tx) vh (.ref lh)) := ⟨hB _ _ I.inst (fun q => nomatch q), hB _ _ I.dict (fun q => nomatch q)⟩
  have hlB := hB _ _ hl (fun q => nomatch q)
  repeat' (walk_at "ms@25_1")
  refine o_lenL (S.isB hlB) (by decide) fun t1 tk => ?_
  repeat' (walk_at "ms@25_1")
  exact ret _ _ (stay S hB)
theorem c_way_back {c : Nat} {l : List Value} {v : Value} (G : Gl w mg mb g) (hk : g.StaysIn h) (R : Rm A 1) (I : Ins h m 662 dm (mtd w t1 t2 t3 (.str x tx) vh (.ref lh))) (hne : m ≠ lh ∧ dm ≠ lh) (hl : h.get? lh = some (listOf (l ++ [v]).toArray c) ∧ g.get? lh = none) (hz : l.length ≤ 2 ^ 20) (ret : ∀ c' h' tk', Chg [lh] h h' → h'.get? lh = some (listOf l.toArray c') → Q v (St s h' tk')) : wpAny (model pg w) A (call (.ref 617) [.ref m]) Q E (St s h tk) := by
  refine enterR [(lh, listOf (l ++ [v]).toArray c)] [some (.ref m)] G hk (by k_is) (by k_is) (by decide +kernel) R (BindsTo.of_eq (bind_plain rfl rfl rfl (by decide +kernel))) (by dsimp only; repeat (first | exact Bnd.nil | refine Bnd.cons ?_)) (mem_one hl) (nd_one) (by decide +kernel) ?_ (by rfl) (by rfl); intro B h L tk env A V G S hB hB' hL R; dsimp only at V S
  have I : Ins B m 662 dm (mtd w t1 t2 t3 (.str x tx) vh (.ref lh)) := ⟨hB _ _ I.inst (not_one hne.1), hB _ _ I.dict (not_one hne.2)⟩
  have hz2 : ((l ++ [v]).length : Int) < 2 ^ 63 := by simp; exact lin1 [_] [] (.nle (.V 0) (.W 2 20)) (.ilt (.P (.C (.V 0)) (.K 1)) (.K 9223372036854775808)) [[1, 1]] hz okT
  repeat' (walk_at "ms@25_1")
  refine it_dt (by simp) ?_
  repeat' (walk_at "ms@25_1")
  refine o_pop S .z (kl_last_snoc l _) (by rw [List.length_append]; unfold sizeLine; simp; exact lin1 [_] [] (.nle (.V 0) (.W 2 20)) (.nle (.V 0) (.K 16777215)) [[1, 1]] hz okT) ?_
  clear S; intro h tk S
  repeat' (walk_at "ms@25_1")
  exact ret _ _ _ (stayC S hB) (S.N _ (.head _)).1
end
section
set_option maxHeartbeats 2000000
variable {w : World} {mg mb : Str → Option Value} {g : Heap} {A : Around} {s : Shared} {Q E : Value → Shared → Prop} {h : Heap} {tk n : Nat}

theorem told_pl {h : Heap} {T : Tr} {a : Addr} {t : Tok} {x : Value} (ok : okLf T) (td : Told T x) (i : IsTup h a [.str T.kind t, x].toArray) : Pl h (.ref a) T := by
  cases T <;> try exact ok.elim
  · exact ⟨a, t, _, rfl, i⟩
  · obtain ⟨u, rfl⟩ := td; exact ⟨a, t, u, rfl, i⟩
  · obtain ⟨u, rfl⟩ := td; exact ⟨a, t, u, rfl, i⟩
  · obtain ⟨u, rfl⟩ := td; exact ⟨a, t, u, rfl, i⟩
theorem told_kind {T : Tr} {x : Value} (ok : okLf T) (td : Told T x) : x = .none ∨ (∃ i u, x = .int i u) ∨ ∃ y u, x = .str y u := by
  cases T <;> try exact ok.elim
  · exact .inl td
  · exact .inr (.inl ⟨_, td⟩)
  · exact .inr (.inr ⟨_, td⟩)
  · exact .inr (.inr ⟨_, td⟩)
theorem told_isi {B : Heap} {L : Addr} {ns : List (Str × NameKind)} {vs : List (Option Value)} {news : List (Addr × Obj)} {fs : List Fact} {x : Value} (hx : x = .none ∨ (∃ i u, x = .int i u) ∨ ∃ y u, x = .str y u) (G : Gl w mg mb B) (S : Sx B L h ns vs news fs) (k : ∀ tk', Q (.bool false) (St s h tk')) : wpAny (model pg w) A (call (.builtin "isinstance") [x, .type "tuple"]) Q E (St s h tk) := by
  rcases hx with rfl | ⟨i, u, rfl⟩ | ⟨y, u, rfl⟩
  · skip
    repeat' (walk_at "ms")
    exact k _
  · skip
    repeat' (walk_at "ms")
    exact k _
  · skip
    repeat' (walk_at "ms")
    exact k _
variable {x : Str} {m dm wy dw lh : Addr} {t t1 t2 t3 s1 s2 s3 s4 s5 s6 tp ta tx u1 u2 u3 : Tok} {vo vn vm vh : Value} {pc at' : Int}
theorem c_met_once {T : Tr} {ov : Value} (G : Gl w mg mb g) (hk : g.StaysIn h) (R : Rm A 4) (io : IsOrd h ov (some (.one T))) (ok : okLf T) (hx : x.length < 2 ^ 20) (h0 : 0 ≤ at') (M : Ins h m 662 dm (mtd w t1 t2 t3 (.str x tx) vh (.ref lh))) (hwy : h.get? wy = some (instObj 585 dw)) (hne : m ≠ dw ∧ dm ≠ dw ∧ wy ≠ dw) (hd : h.get? dw = some (wyd w s1 s2 s3 s4 s5 s6 vo (.int pc tp) (.int at' ta) vn vm) ∧ g.get? dw = none) (hvh : handedIn vh = true)
   (hit : ∀ e tp' ta' h' tk', endOf x at' T = some e → Chg [dw] h h' → h'.get? dw = some (wyd w s1 s2 s3 s4 s5 s6 vo (.int (pc + 1) tp') (.int e ta') vn vm) → Q (.bool true) (St s h' tk'))
   (miss : endOf x at' T = none → ∀ h' tk', Chg [dw] h h' → h'.get? dw = some (wyd w s1 s2 s3 s4 s5 s6 vo (.int pc tp) (.int at' ta) vn vm) → Q (.bool false) (St s h' tk')) : wpAny (model pg w) A (call (.ref 631) [.ref m, ov, .ref wy]) Q E (St s h tk) := by
  obtain ⟨p, rfl⟩ := IsOrd.ref io
  refine enterR [(dw, wyd w s1 s2 s3 s4 s5 s6 vo (.int pc tp) (.int at' ta) vn vm)] [some (.ref m), some (.ref p), some (.ref wy)] G hk (by k_is) (by k_is) (by decide +kernel) R (BindsTo.of_eq (bind_plain rfl rfl rfl (by decide +kernel))) (by dsimp only; repeat (first | exact Bnd.nil | refine Bnd.cons ?_)) (mem_one hd) (nd_one) (by decide +kernel) ?_ (by rfl) (by rfl); intro B h L tk env A V G S hB hB' hL R; dsimp only at V S
  have M : Ins B m 662 dm (mtd w t1 t2 t3 (.str x tx) vh (.ref lh)) := ⟨hB _ _ M.inst (not_one hne.1), hB _ _ M.dict (not_one hne.2.1)⟩
  have hwB := hB _ _ hwy (not_one hne.2.2)
  have io := io.keep (tk_led hB (mem_one hd) (mem_one not_tup_dict))
  refine OrOne.el io fun a1 a2 told ip td => ?_
  repeat' (walk_at "ms@26_1")
  refine told_isi (told_kind ok td) G S fun tk => ?_
  repeat' (walk_at "ms@26_1")
  refine c_plain_end G S.stays (R.le (by decide)) (told_pl ok td (S.inF .z)) ok hx h0 fun r h tk k hr => ?_
  have S := S.call k
  cases he : endOf x at' T with
  | none =>
    rw [he] at hr
    obtain rfl : r = .none := hr
    repeat' (walk_at "ms@26_1")
    exact miss he _ _ (stayC S hB) (S.N _ (.head _)).1
  | some e =>
    rw [he] at hr
    obtain ⟨te, rfl⟩ : ∃ t, r = .int e t := hr
    repeat' (walk_at "ms@26_1")
    exact hit e _ _ _ _ he (stayC S hB) (S.N _ (.head _)).1
end
section
set_option maxHeartbeats 2000000
variable {w : World} {mg mb : Str → Option Value} {g : Heap} {A : Around} {s : Shared} {Q E : Value → Shared → Prop} {h : Heap} {tk n : Nat}

variable {x : Str} {m dm wy dw lh r : Addr} {t t1 t2 t3 s1 s2 s3 s4 s5 s6 tp ta tx u1 u2 u3 tb : Tok} {vo vn vm vh : Value} {pc at' b : Int}
theorem c_ended {om : Addr} {ov : Value} (G : Gl w mg mb g) (hk : g.StaysIn h) (R : Rm A 2) (io : IsOrd h ov (some (.name r))) (hx : x.length < 2 ^ 20) (h0 : 0 ≤ at') (M : Ins h m 662 dm (mtd w t1 t2 t3 (.str x tx) vh (.ref lh))) (hwy : h.get? wy = some (instObj 585 dw)) (hne : m ≠ dw ∧ dm ≠ dw ∧ wy ≠ dw) (hd : h.get? dw = some (wyd w s1 s2 s3 s4 s5 s6 vo (.int pc tp) (.int at' ta) vn (.ref om)) ∧ g.get? dw = none) (hm : IsTup h om [vm, .int b tb].toArray) (hvn : handedIn vn = true) (hvm : handedIn vm = true)
   (ret : ∀ a c u h' tk', Chg [dw] h h' → h'.get? dw = some (wyd w s1 s2 s3 s4 s5 s6 vo (.int pc tp) (.int at' ta) (.ref a) vm) → IsTup h' a [vn, .ref c].toArray → IsTup h' c [.ref r, .str (Txt.slice x (some b) (some at')) u].toArray → Q (.bool true) (St s h' tk')) : wpAny (model pg w) A (call (.ref 638) [.ref m, ov, .ref wy]) Q E (St s h tk) := by
  obtain ⟨p, rfl⟩ := IsOrd.ref io
  refine enterR [(dw, wyd w s1 s2 s3 s4 s5 s6 vo (.int pc tp) (.int at' ta) vn (.ref om))] [some (.ref m), some (.ref p), some (.ref wy)] G hk (by k_is) (by k_is) (by decide +kernel) R (BindsTo.of_eq (bind_plain rfl rfl rfl (by decide +kernel))) (by dsimp only; repeat (first | exact Bnd.nil | refine Bnd.cons ?_)) (mem_one hd) (nd_one) (by decide +kernel) ?_ (by rfl) (by rfl); intro B h L tk env A V G S hB hB' hL R; dsimp only at V S
  have M : Ins B m 662 dm (mtd w t1 t2 t3 (.str x tx) vh (.ref lh)) := ⟨hB _ _ M.inst (not_one hne.1), hB _ _ M.dict (not_one hne.2.1)⟩
  have hwB := hB _ _ hwy (not_one hne.2.2)
  have kB : Tk _ B := tk_led hB (mem_one hd) (mem_one not_tup_dict)
  have io := io.keep kB
  have hm := kB.tup hm
  refine OrNm.el io fun a1 ip => ?_
  have S := S.fact (tupF om _) (S.inB hm)
  repeat' (walk_at "ms@27_1")
  exact ret _ _ _ _ _ (stayC S hB) (S.N _ (.head _)).1 (S.inF .z) (S.inF (.s .z))
theorem c_other_fail {ov : Value} (G : Gl w mg mb g) (hk : g.StaysIn h) (R : Rm A 1) (io : IsOrd h ov (some .fail)) (ret : ∀ h' tk', h.StaysIn h' → Q (.bool false) (St s h' tk')) : wpAny (model pg w) A (call (.ref 645) [.ref m, ov, .ref wy]) Q E (St s h tk) := by
  obtain ⟨p, rfl⟩ := IsOrd.ref io
  refine enterR [] [some (.ref m), some (.ref p), some (.ref wy)] G hk (by k_is) (by k_is) (by decide +kernel) R (BindsTo.of_eq (bind_plain rfl rfl rfl (by decide +kernel))) (by dsimp only; repeat (first | exact Bnd.nil | refine Bnd.cons ?_)) (fun p hp => nomatch hp) List.nodup_nil (by decide +kernel) ?_ (by rfl) (by rfl); intro B h L tk env A V G S hB hB' hL R; dsimp only at V S
  have io := io.keep (tk_base0 hB)
  refine At0.el io fun a1 ip => ?_
  repeat' (walk_at "ms@27_2")
  exact ret _ _ (stay S hB)
end
section
set_option maxHeartbeats 2000000
variable {w : World} {mg mb : Str → Option Value} {g : Heap} {A : Around} {s : Shared} {Q E : Value → Shared → Prop} {h : Heap} {tk n : Nat}

theorem mt_met_once (w : World) : Mt w 662 (Str.ofString "met_once") 631 := ⟨by k_is, by k_is⟩
theorem mt_ended (w : World) : Mt w 662 (Str.ofString "ended") 638 := ⟨by k_is, by k_is⟩
theorem mt_other (w : World) : Mt w 662 (Str.ofString "other") 645 := ⟨by k_is, by k_is⟩
theorem mt_copied (w : World) : Mt w 585 (Str.ofString "copied") 582 := ⟨by k_is, by k_is⟩
variable {x : Str} {m dm wy dw lh r : Addr} {t t1 t2 t3 s1 s2 s3 s4 s5 s6 tp ta tx u1 u2 u3 tb : Tok} {vo vn vm vh : Value} {pc at' b : Int}
theorem none_in {h₀ B h : Heap} {L : Addr} {ns vs fs} {led : List (Addr × Obj)} (S : Sx B L h ns vs led fs) (hB : ∀ a o, h₀.get? a = some o → a ∉ led.map (·.1) → B.get? a = some o) : ∀ b, h.get? b = none → h₀.get? b = none := fun b hb => by
  cases z : h₀.get? b with
  | none => rfl
  | some o =>
    by_cases q : b ∈ led.map (·.1)
    · refine x1_2 (List.mem_map.mp q) fun p hp zq2 => ?_; subst zq2
      rw [(S.N p hp).1] at hb; cases hb
    · rw [S.F.keep _ _ (hB _ _ z q)] at hb; cases hb
theorem c_done_one {T : Tr} {ov : Value} (G : Gl w mg mb g) (hk : g.StaysIn h) (R : Rm A 5) (io : IsOrd h ov (some (.one T))) (ok : okLf T) (hx : x.length < 2 ^ 20) (h0 : 0 ≤ at') (M : Ins h m 662 dm (mtd w t1 t2 t3 (.str x tx) vh (.ref lh))) (hwy : h.get? wy = some (instObj 585 dw)) (hne : m ≠ dw ∧ dm ≠ dw ∧ wy ≠ dw) (hd : h.get? dw = some (wyd w s1 s2 s3 s4 s5 s6 vo (.int pc tp) (.int at' ta) vn vm) ∧ g.get? dw = none) (hvh : handedIn vh = true)
   (hit : ∀ e tp' ta' h' tk', endOf x at' T = some e → Chg [dw] h h' → h'.get? dw = some (wyd w s1 s2 s3 s4 s5 s6 vo (.int (pc + 1) tp') (.int e ta') vn vm) → Q (.bool true) (St s h' tk'))
   (miss : endOf x at' T = none → ∀ h' tk', Chg [dw] h h' → h'.get? dw = some (wyd w s1 s2 s3 s4 s5 s6 vo (.int pc tp) (.int at' ta) vn vm) → Q (.bool false) (St s h' tk')) : wpAny (model pg w) A (call (.ref 624) [.ref m, ov, .ref wy]) Q E (St s h tk) := by
  obtain ⟨p, rfl⟩ := IsOrd.ref io
  refine enterR [(dw, wyd w s1 s2 s3 s4 s5 s6 vo (.int pc tp) (.int at' ta) vn vm)] [some (.ref m), some (.ref p), some (.ref wy)] G hk (by k_is) (by k_is) (by decide +kernel) R (BindsTo.of_eq (bind_plain rfl rfl rfl (by decide +kernel))) (by dsimp only; repeat (first | exact Bnd.nil | refine Bnd.cons ?_)) (mem_one hd) (nd_one) (by decide +kernel) ?_ (by rfl) (by rfl); intro B h L tk env A V G S hB hB' hL R; dsimp only at V S
  have M : Ins B m 662 dm (mtd w t1 t2 t3 (.str x tx) vh (.ref lh)) := ⟨hB _ _ M.inst (not_one hne.1), hB _ _ M.dict (not_one hne.2.1)⟩
  have hwB := hB _ _ hwy (not_one hne.2.2)
  have kB : Tk _ B := tk_led hB (mem_one hd) (mem_one not_tup_dict)
  have io := io.keep kB
  have io0 := io
  refine OrOne.el io fun a1 a2 told ip td => ?_
  repeat' (walk_at "ms@28_1")
  have P := S.N _ (.head _)
  refine c_met_once G S.stays (R.le (by decide)) (io0.keep (tk_of S)) ok hx h0 (S.insB M) (S.F.keep _ _ hwB) ⟨ne_none M.inst P.2.2, ne_none M.dict P.2.2, ne_none hwB P.2.2⟩ ⟨P.1, P.2.2⟩ hvh (fun e tp' ta' h' tk' he ch e' => ?_) (fun he h' tk' ch e' => ?_)
  · have S := S.chg .z not_tup_dict ch e'
    repeat' (walk_at "ms@28_1")
    exact hit e _ _ _ _ he (stayC S hB) e'
  · have S := S.chg .z not_tup_dict ch e'
    repeat' (walk_at "ms@28_1")
    exact miss he _ _ (stayC S hB) e'
theorem c_done_jump {n : Nat} {ov : Value} (G : Gl w mg mb g) (hk : g.StaysIn h) (R : Rm A 1) (io : IsOrd h ov (some (.jump n))) (M : Ins h m 662 dm (mtd w t1 t2 t3 (.str x tx) vh (.ref lh))) (hwy : h.get? wy = some (instObj 585 dw)) (hne : m ≠ dw ∧ dm ≠ dw ∧ wy ≠ dw) (hd : h.get? dw = some (wyd w s1 s2 s3 s4 s5 s6 vo (.int pc tp) (.int at' ta) vn vm) ∧ g.get? dw = none)
   (ret : ∀ tp' h' tk', Chg [dw] h h' → h'.get? dw = some (wyd w s1 s2 s3 s4 s5 s6 vo (.int (n : Int) tp') (.int at' ta) vn vm) → Q (.bool true) (St s h' tk')) : wpAny (model pg w) A (call (.ref 624) [.ref m, ov, .ref wy]) Q E (St s h tk) := by
  obtain ⟨p, rfl⟩ := IsOrd.ref io
  refine enterR [(dw, wyd w s1 s2 s3 s4 s5 s6 vo (.int pc tp) (.int at' ta) vn vm)] [some (.ref m), some (.ref p), some (.ref wy)] G hk (by k_is) (by k_is) (by decide +kernel) R (BindsTo.of_eq (bind_plain rfl rfl rfl (by decide +kernel))) (by dsimp only; repeat (first | exact Bnd.nil | refine Bnd.cons ?_)) (mem_one hd) (nd_one) (by decide +kernel) ?_ (by rfl) (by rfl); intro B h L tk env A V G S hB hB' hL R; dsimp only at V S
  have M : Ins B m 662 dm (mtd w t1 t2 t3 (.str x tx) vh (.ref lh)) := ⟨hB _ _ M.inst (not_one hne.1), hB _ _ M.dict (not_one hne.2.1)⟩
  have hwB := hB _ _ hwy (not_one hne.2.2)
  have kB : Tk _ B := tk_led hB (mem_one hd) (mem_one not_tup_dict)
  have io := io.keep kB
  refine AtI.el io fun a1 a2 ip => ?_
  repeat' (walk_at "ms@28_1")
  exact ret _ _ _ (stayC S hB) (S.N _ (.head _)).1
theorem c_done_mark {ov : Value} (G : Gl w mg mb g) (hk : g.StaysIn h) (R : Rm A 1) (io : IsOrd h ov (some .mark)) (M : Ins h m 662 dm (mtd w t1 t2 t3 (.str x tx) vh (.ref lh))) (hwy : h.get? wy = some (instObj 585 dw)) (hne : m ≠ dw ∧ dm ≠ dw ∧ wy ≠ dw) (hd : h.get? dw = some (wyd w s1 s2 s3 s4 s5 s6 vo (.int pc tp) (.int at' ta) vn vm) ∧ g.get? dw = none) (hvm : handedIn vm = true)
   (ret : ∀ a tp' h' tk', Chg [dw] h h' → h'.get? dw = some (wyd w s1 s2 s3 s4 s5 s6 vo (.int (pc + 1) tp') (.int at' ta) vn (.ref a)) → IsTup h' a [vm, .int at' ta].toArray → Q (.bool true) (St s h' tk')) : wpAny (model pg w) A (call (.ref 624) [.ref m, ov, .ref wy]) Q E (St s h tk) := by
  obtain ⟨p, rfl⟩ := IsOrd.ref io
  refine enterR [(dw, wyd w s1 s2 s3 s4 s5 s6 vo (.int pc tp) (.int at' ta) vn vm)] [some (.ref m), some (.ref p), some (.ref wy)] G hk (by k_is) (by k_is) (by decide +kernel) R (BindsTo.of_eq (bind_plain rfl rfl rfl (by decide +kernel))) (by dsimp only; repeat (first | exact Bnd.nil | refine Bnd.cons ?_)) (mem_one hd) (nd_one) (by decide +kernel) ?_ (by rfl) (by rfl); intro B h L tk env A V G S hB hB' hL R; dsimp only at V S
  have M : Ins B m 662 dm (mtd w t1 t2 t3 (.str x tx) vh (.ref lh)) := ⟨hB _ _ M.inst (not_one hne.1), hB _ _ M.dict (not_one hne.2.1)⟩
  have hwB := hB _ _ hwy (not_one hne.2.2)
  have kB : Tk _ B := tk_led hB (mem_one hd) (mem_one not_tup_dict)
  have io := io.keep kB
  refine At0.el io fun a1 ip => ?_
  repeat' (walk_at "ms@28_1")
  exact ret _ _ _ _ (stayC S hB) (S.N _ (.head _)).1 (S.inF .z)
theorem c_done_name {om : Addr} {ov : Value} (G : Gl w mg mb g) (hk : g.StaysIn h) (R : Rm A 3) (io : IsOrd h ov (some (.name r))) (hx : x.length < 2 ^ 20) (h0 : 0 ≤ at') (M : Ins h m 662 dm (mtd w t1 t2 t3 (.str x tx) vh (.ref lh))) (hwy : h.get? wy = some (instObj 585 dw)) (hne : m ≠ dw ∧ dm ≠ dw ∧ wy ≠ dw) (hd : h.get? dw = some (wyd w s1 s2 s3 s4 s5 s6 vo (.int pc tp) (.int at' ta) vn (.ref om)) ∧ g.get? dw = none) (hm : IsTup h om [vm, .int b tb].toArray) (hvn : handedIn vn = true) (hvm : handedIn vm = true)
   (ret : ∀ a c u tp' h' tk', Chg [dw] h h' → h'.get? dw = some (wyd w s1 s2 s3 s4 s5 s6 vo (.int (pc + 1) tp') (.int at' ta) (.ref a) vm) → IsTup h' a [vn, .ref c].toArray → IsTup h' c [.ref r, .str (Txt.slice x (some b) (some at')) u].toArray → Q (.bool true) (St s h' tk')) : wpAny (model pg w) A (call (.ref 624) [.ref m, ov, .ref wy]) Q E (St s h tk) := by
  obtain ⟨p, rfl⟩ := IsOrd.ref io
  refine enterR [(dw, wyd w s1 s2 s3 s4 s5 s6 vo (.int pc tp) (.int at' ta) vn (.ref om))] [some (.ref m), some (.ref p), some (.ref wy)] G hk (by k_is) (by k_is) (by decide +kernel) R (BindsTo.of_eq (bind_plain rfl rfl rfl (by decide +kernel))) (by dsimp only; repeat (first | exact Bnd.nil | refine Bnd.cons ?_)) (mem_one hd) (nd_one) (by decide +kernel) ?_ (by rfl) (by rfl); intro B h L tk env A V G S hB hB' hL R; dsimp only at V S
  have M : Ins B m 662 dm (mtd w t1 t2 t3 (.str x tx) vh (.ref lh)) := ⟨hB _ _ M.inst (not_one hne.1), hB _ _ M.dict (not_one hne.2.1)⟩
  have hwB := hB _ _ hwy (not_one hne.2.2)
  have kB : Tk _ B := tk_led hB (mem_one hd) (mem_one not_tup_dict)
  have io := io.keep kB
  have io0 := io
  refine OrNm.el io fun a1 ip => ?_
  have hm := kB.tup hm
  repeat' (walk_at "ms@28_1")
  have P := S.N _ (.head _)
  refine c_ended G S.stays (R.le (by decide)) (io0.keep (tk_of S)) hx h0 (S.insB M) (S.F.keep _ _ hwB) ⟨ne_none M.inst P.2.2, ne_none M.dict P.2.2, ne_none hwB P.2.2⟩ ⟨P.1, P.2.2⟩ (S.inB hm) hvn hvm (fun a c u h' tk' ch e' i1 i2 => ?_)
  · have S := ((S.chg .z not_tup_dict ch e').fact (tupF a _) i1).fact (tupF c _) i2
    repeat' (walk_at "ms@28_1")
    exact ret a c u _ _ _ (stayC S hB) (S.N _ (.head _)).1 (S.inF (.s .z)) (S.inF .z)
theorem c_done_fail {ov : Value} (G : Gl w mg mb g) (hk : g.StaysIn h) (R : Rm A 2) (io : IsOrd h ov (some .fail)) (M : Ins h m 662 dm (mtd w t1 t2 t3 (.str x tx) vh (.ref lh)))
   (ret : ∀ h' tk', h.StaysIn h' → Q (.bool false) (St s h' tk')) : wpAny (model pg w) A (call (.ref 624) [.ref m, ov, .ref wy]) Q E (St s h tk) := by
  obtain ⟨p, rfl⟩ := IsOrd.ref io
  refine enterR [] [some (.ref m), some (.ref p), some (.ref wy)] G hk (by k_is) (by k_is) (by decide +kernel) R (BindsTo.of_eq (bind_plain rfl rfl rfl (by decide +kernel))) (by dsimp only; repeat (first | exact Bnd.nil | refine Bnd.cons ?_)) (fun p hp => nomatch hp) List.nodup_nil (by decide +kernel) ?_ (by rfl) (by rfl); intro B h L tk env A V G S hB hB' hL R; dsimp only at V S
  have M : Ins B m 662 dm (mtd w t1 t2 t3 (.str x tx) vh (.ref lh)) := ⟨hB _ _ M.inst (fun q => nomatch q), hB _ _ M.dict (fun q => nomatch q)⟩
  have io := io.keep (tk_base0 hB)
  have io0 := io
  refine At0.el io fun a1 ip => ?_
  repeat' (walk_at "ms@28_1")
  refine c_other_fail G S.stays (R.le (by decide)) (io0.keep (tk_of S)) fun h tk k => ?_
  have S := S.call k
  repeat' (walk_at "ms@28_1")
  exact ret _ _ (stay S hB)
theorem c_done_split {n c : Nat} {l : List Value} {ov : Value} (G : Gl w mg mb g) (hk : g.StaysIn h) (R : Rm A 4) (io : IsOrd h ov (some (.split n))) (M : Ins h m 662 dm (mtd w t1 t2 t3 (.str x tx) vh (.ref lh))) (hwy : h.get? wy = some (instObj 585 dw)) (hne : m ≠ dw ∧ dm ≠ dw ∧ wy ≠ dw) (hne2 : m ≠ lh ∧ dm ≠ lh ∧ wy ≠ lh ∧ dw ≠ lh) (hd : h.get? dw = some (wyd w s1 s2 s3 s4 s5 s6 vo (.int pc tp) (.int at' ta) vn vm) ∧ g.get? dw = none) (hl : h.get? lh = some (listOf l.toArray c) ∧ g.get? lh = none) (hz : l.length ≤ 2 ^ 20) (hvo : handedIn vo = true) (hvn : handedIn vn = true) (hvm : handedIn vm = true)
   (ret : ∀ x2 dx2 t1 t2 t3 t4 t5 t6 tn tp' h' tk', Chg [dw, lh] h h' → x2 ≠ dx2 → h.get? x2 = none → h.get? dx2 = none → h'.get? dw = some (wyd w s1 s2 s3 s4 s5 s6 vo (.int (pc + 1) tp') (.int at' ta) vn vm) → h'.get? lh = some (listOf (l ++ [Value.ref x2]).toArray (c + 1)) → Ins h' x2 585 dx2 (wyd w t1 t2 t3 t4 t5 t6 vo (.int (n : Int) tn) (.int at' ta) vn vm) → Q (.bool true) (St s h' tk')) : wpAny (model pg w) A (call (.ref 624) [.ref m, ov, .ref wy]) Q E (St s h tk) := by
  obtain ⟨p, rfl⟩ := IsOrd.ref io
  refine enterR [(dw, wyd w s1 s2 s3 s4 s5 s6 vo (.int pc tp) (.int at' ta) vn vm), (lh, listOf l.toArray c)] [some (.ref m), some (.ref p), some (.ref wy)] G hk (by k_is) (by k_is) (by decide +kernel) R (BindsTo.of_eq (bind_plain rfl rfl rfl (by decide +kernel))) (by dsimp only; repeat (first | exact Bnd.nil | refine Bnd.cons ?_)) (mem_two hd hl) (nd_two hne2.2.2.2) (by decide +kernel) ?_ (by rfl) (by rfl); intro B h L tk env A V G S hB hB' hL R; dsimp only at V S
  have M : Ins B m 662 dm (mtd w t1 t2 t3 (.str x tx) vh (.ref lh)) := ⟨hB _ _ M.inst (not_two ⟨hne.1, not_one hne2.1⟩), hB _ _ M.dict (not_two ⟨hne.2.1, not_one hne2.2.1⟩)⟩
  have hwB := hB _ _ hwy (not_two ⟨hne.2.2, not_one hne2.2.2.1⟩)
  have kB : Tk _ B := tk_led hB (mem_two hd hl) (mem_two not_tup_dict not_tup_list)
  have io := io.keep kB
  refine AtI.el io fun a1 a2 ip => ?_
  repeat' (walk_at "ms@28_1")
  refine c_copied G S.stays (R.le (by decide)) ⟨S.F.keep _ _ hwB, (S.N _ (.head _)).1⟩ hvo hvn hvm fun x2 dx2 b1 b2 b3 b4 b5 b6 h tk k ne n1 n2 I2 => ?_
  have hs := none_in (led := [(dw, wyd w s1 s2 s3 s4 s5 s6 vo (.int pc tp) (.int at' ta) vn vm), (lh, listOf l.toArray c)]) S hB
  have e1 := hs _ n1
  have e2 := hs _ n2
  have S := S.gotI k ne n1 n2 I2
  repeat' (walk_at "ms@28_1")
  refine o_append S (.s (.s (.s .z))) rfl (by unfold sizeLine; exact lin1 [_] [] (.nle (.V 0) (.W 2 20)) (.nle (.V 0) (.W 2 24)) [[1, 1]] hz okT) ?_
  clear S; intro h tk S
  repeat' (walk_at "ms@28_1")
  exact ret x2 dx2 _ _ _ _ _ _ _ _ _ _ (stayC S hB) ne e1 e2 (S.N _ (.tail _ (.tail _ (.head _)))).1 (S.N _ (.tail _ (.tail _ (.tail _ (.head _))))).1 (S.ins .z (.s .z))
end
section
set_option maxHeartbeats 2000000
variable {w : World} {mg mb : Str → Option Value} {g : Heap} {A : Around} {s : Shared} {Q E : Value → Shared → Prop} {h : Heap} {tk n : Nat}

structure Wy where
  pc : Nat
  at' : Int
  named : List (Addr × Str)
  marks : List Int
inductive NmC (h : Heap) (r : Addr) (y : Str) (P : Value → Prop) (v : Value) : Prop | mk (a c : Addr) (u : Tok) (m : Value) : v = .ref a → IsTup h a [m, .ref c].toArray → IsTup h c [.ref r, .str y u].toArray → P m → NmC h r y P v
inductive MkC (h : Heap) (b : Int) (P : Value → Prop) (v : Value) : Prop | mk (a : Addr) (u : Tok) (m : Value) : v = .ref a → IsTup h a [m, .int b u].toArray → P m → MkC h b P v
noncomputable def IsNamed (h : Heap) : Value → List (Addr × Str) → Prop
  | v, [] => v = .none
  | v, (r, y) :: l => NmC h r y (fun m => IsNamed h m l) v
noncomputable def IsMarks (h : Heap) : Value → List Int → Prop
  | v, [] => v = .none
  | v, b :: l => MkC h b (fun m => IsMarks h m l) v
theorem NmC.el {h : Heap} {r : Addr} {y : Str} {P : Value → Prop} {v : Value} {X : Prop} (N : NmC h r y P v) (f : ∀ a c u m, v = .ref a → IsTup h a [m, .ref c].toArray → IsTup h c [.ref r, .str y u].toArray → P m → X) : X := (fun ⟨a, c, u, m, e, i, j, k⟩ => f a c u m e i j k) N
theorem IsNamed.keep {h h' : Heap} (k : Tk h h') {l : List (Addr × Str)} : ∀ {v : Value}, IsNamed h v l → IsNamed h' v l := by
  induction l with
  | nil => exact fun e => e
  | cons p l ih => exact fun ⟨a, c, u, m, e, i, j, n⟩ => ⟨a, c, u, m, e, k.tup i, k.tup j, ih n⟩
theorem IsMarks.keep {h h' : Heap} (k : Tk h h') {l : List Int} : ∀ {v : Value}, IsMarks h v l → IsMarks h' v l := by
  induction l with
  | nil => exact fun e => e
  | cons p l ih => exact fun ⟨a, u, m, e, i, n⟩ => ⟨a, u, m, e, k.tup i, ih n⟩
theorem IsNamed.handed {h : Heap} {l : List (Addr × Str)} {v : Value} (N : IsNamed h v l) : handedIn v = true := by
  cases l with
  | nil => cases N; rfl
  | cons => exact (fun ⟨_, _, _, _, e, _, _, _⟩ => e ▸ rfl) N
theorem IsMarks.handed {h : Heap} {l : List Int} {v : Value} (N : IsMarks h v l) : handedIn v = true := by
  cases l with
  | nil => cases N; rfl
  | cons => exact (fun ⟨_, _, _, e, _, _⟩ => e ▸ rfl) N
noncomputable def wyF (vn vm : Value) (y : Wy) : Fact := ⟨fun h => IsNamed h vn y.named ∧ IsMarks h vm y.marks, fun _ _ k x => ⟨x.1.keep k, x.2.keep k⟩⟩
inductive Pend (w : World) (vo : Value) (h : Heap) : List Value → List Wy → List (Addr × Obj) → Prop
  | nil : Pend w vo h [] [] []
  | snoc {l ys pend x dx t1 t2 t3 t4 t5 t6 tp ta vn vm y} : Pend w vo h l ys pend → IsNamed h vn y.named → IsMarks h vm y.marks → 0 ≤ y.at' → Pend w vo h (l ++ [.ref x]) (y :: ys) ((x, instObj 585 dx) :: (dx, wyd w t1 t2 t3 t4 t5 t6 vo (.int (y.pc : Int) tp) (.int y.at' ta) vn vm) :: pend)
theorem Pend.keep {w : World} {vo : Value} {h h' : Heap} (k : Tk h h') {l ys pend} (H : Pend w vo h l ys pend) : Pend w vo h' l ys pend := by
  induction H with
  | nil => exact .nil
  | snoc _ a b c ih => exact .snoc ih (a.keep k) (b.keep k) c
theorem Pend.len {w : World} {vo : Value} {h : Heap} {l ys pend} (H : Pend w vo h l ys pend) : l.length = ys.length := by
  induction H with
  | nil => rfl
  | snoc _ _ _ _ ih => simp [ih]
theorem Pend.of_nil {w : World} {vo : Value} {h : Heap} {l pend} (H : Pend w vo h l [] pend) : l = [] ∧ pend = [] := by cases H; exact ⟨rfl, rfl⟩
theorem Pend.of_cons {w : World} {vo : Value} {h : Heap} {l pend y ys} {P : Prop} (H : Pend w vo h l (y :: ys) pend) (k : ∀ l' pend' x dx t1 t2 t3 t4 t5 t6 tp ta vn vm, l = l' ++ [.ref x] → pend = (x, instObj 585 dx) :: (dx, wyd w t1 t2 t3 t4 t5 t6 vo (.int (y.pc : Int) tp) (.int y.at' ta) vn vm) :: pend' → Pend w vo h l' ys pend' → IsNamed h vn y.named → IsMarks h vm y.marks → 0 ≤ y.at' → P) : P := by
  cases H with | snoc H a b c => exact k _ _ _ _ _ _ _ _ _ _ _ _ _ _ rfl rfl H a b c
noncomputable def pdF (w : World) (vo : Value) (l : List Value) (ys : List Wy) (pend : List (Addr × Obj)) : Fact := ⟨fun h => Pend w vo h l ys pend, fun _ _ k H => H.keep k⟩
inductive Go (x : Str) (y : Wy) : Ord → Wy → Prop
  | hit {T : Tr} {e : Int} : okLf T → endOf x y.at' T = some e → 0 ≤ e → Go x y (.one T) ⟨y.pc + 1, e, y.named, y.marks⟩
  | jump (n : Nat) : Go x y (.jump n) ⟨n, y.at', y.named, y.marks⟩
  | mark : Go x y .mark ⟨y.pc + 1, y.at', y.named, y.at' :: y.marks⟩
  | name (a : Addr) {b : Int} {ms : List Int} : y.marks = b :: ms → Go x y (.name a) ⟨y.pc + 1, y.at', (a, Txt.slice x (some b) (some y.at')) :: y.named, ms⟩
inductive Miss (x : Str) (y : Wy) : Ord → Prop
  | one {T} : okLf T → endOf x y.at' T = none → Miss x y (.one T)
  | fail : Miss x y .fail
inductive Runs (os : List Ord) (x : Str) : Nat → Wy → List Wy → Option Wy → Prop
  | done {k y hs} : os[y.pc]? = some .done → Runs os x (k + 1) y hs (some y)
  | go {k y y' hs r o} : os[y.pc]? = some o → Go x y o y' → Runs os x k y' hs r → Runs os x (k + 1) y hs r
  | split {k y hs r n} : os[y.pc]? = some (.split n) → Runs os x k ⟨y.pc + 1, y.at', y.named, y.marks⟩ (⟨n, y.at', y.named, y.marks⟩ :: hs) r → Runs os x (k + 1) y hs r
  | back0 {k y o} : os[y.pc]? = some o → Miss x y o → Runs os x (k + 1) y [] none
  | back {k y y' hs r o} : os[y.pc]? = some o → Miss x y o → Runs os x k y' hs r → Runs os x (k + 1) y (y' :: hs) r
inductive Turn (os : List Ord) (x : Str) (k : Nat) (y : Wy) (hs : List Wy) (r : Option Wy) : Ord → Prop
  | done : r = some y → Turn os x k y hs r .done
  | go {o : Ord} (y' : Wy) : (o.word == Str.ofString "done") = false → Go x y o y' → 0 ≤ y'.at' → Runs os x k y' hs r → Turn os x k y hs r o
  | split (n : Nat) : Runs os x k ⟨y.pc + 1, y.at', y.named, y.marks⟩ (⟨n, y.at', y.named, y.marks⟩ :: hs) r → Turn os x k y hs r (.split n)
  | back0 {o : Ord} : (o.word == Str.ofString "done") = false → Miss x y o → hs = [] → r = none → Turn os x k y hs r o
  | back {o : Ord} (y' : Wy) (hs' : List Wy) : (o.word == Str.ofString "done") = false → Miss x y o → hs = y' :: hs' → Runs os x k y' hs' r → Turn os x k y hs r o
theorem Go.nd {x y o y'} (g : Go x y o y') : (o.word == Str.ofString "done") = false := by cases g <;> exact of_decide_eq_true rfl
theorem Go.pos {x y o y'} (g : Go x y o y') (h0 : 0 ≤ y.at') : 0 ≤ y'.at' := by cases g <;> assumption
theorem Miss.nd {x y o} (g : Miss x y o) : (o.word == Str.ofString "done") = false := by cases g <;> exact of_decide_eq_true rfl
theorem Runs.turn {os : List Ord} {x : Str} {K : Nat} {y : Wy} {hs : List Wy} {r : Option Wy} (H : Runs os x K y hs r) (h0 : 0 ≤ y.at') : ∃ k o, K = k + 1 ∧ os[y.pc]? = some o ∧ Turn os x k y hs r o := by
  cases H with
  | done e => exact ⟨_, _, rfl, e, .done rfl⟩
  | go e g H => exact ⟨_, _, rfl, e, .go _ g.nd g (g.pos h0) H⟩
  | split e H => exact ⟨_, _, rfl, e, .split _ H⟩
  | back0 e g => exact ⟨_, _, rfl, e, .back0 g.nd g rfl rfl⟩
  | back e g H => exact ⟨_, _, rfl, e, .back _ _ g.nd g rfl H⟩
theorem Ord.word_abort (o : Ord) : (o.word == Str.ofString "abort") = false := by cases o <;> exact of_decide_eq_true rfl
theorem mt_step (w : World) : Mt w 295 (Str.ofString "step") 292 := ⟨by k_is, by k_is⟩
theorem mt_done (w : World) : Mt w 662 (Str.ofString "done") 624 := ⟨by k_is, by k_is⟩
theorem mt_way_back (w : World) : Mt w 662 (Str.ofString "way_back") 617 := ⟨by k_is, by k_is⟩
theorem ne_obj {h : Heap} {a b : Addr} {o o' : Obj} (e : h.get? a = some o) (e' : h.get? b = some o') (n : o ≠ o') : a ≠ b := fun q => by
  rw [q, e'] at e; cases e; exact n rfl
theorem Sx.chg2 {B h h' : Heap} {L d1 d2 : Addr} {ns vs fs} {news news1 news2 : List (Addr × Obj)} {o1 o1' o2 o2' : Obj} (S : Sx B L h ns vs news fs) (U1 : Up d1 o1 o1' news news1) (U2 : Up d2 o2 o2' news1 news2) (nt1 : ¬ Tup o1) (nt2 : ¬ Tup o2) (m2 : (d2, o2) ∈ news) (k : Chg [d1, d2] h h') (e1 : h'.get? d1 = some o1') (e2 : h'.get? d2 = some o2') : Sx B L h' ns vs news2 fs := by
  have D1 := S.N _ U1.mem
  have D2 := S.N _ m2
  have kk : ∀ a x, h.get? a = some x → a ≠ d1 → a ≠ d2 → h'.get? a = some x := fun a x z n1 n2 => k a x z (by simp [n1, n2])
  refine x3_2 (S.F.ns) fun oL a1 a2 hL a3 => ?_
  have nd1 : (news1.map (·.1)).Nodup := by rw [U1.keys]; exact S.nd
  refine ⟨⟨⟨oL, a1, a2, kk _ _ hL (Ne.symm D1.2.1) (Ne.symm D2.2.1), a3⟩, (fun b x z => kk _ _ (S.F.keep b x z) (fun q => by
    rw [q, D1.2.2] at z; cases z) (fun q => by rw [q, D2.2.2] at z; cases z)), S.F.above⟩, fun p hp => ?_, by rw [U2.keys]; exact nd1, fun f hf => f.keeps _ _ (fun a x z t => kk a x z (fun q => by
      rw [q, D1.1] at z; cases z; exact nt1 t) (fun q => by rw [q, D2.1] at z; cases z; exact nt2 t)) (S.ft f hf)⟩
  rcases U2.out nd1 p hp with rfl | ⟨hp, hne⟩
  · exact ⟨e2, D2.2⟩
  rcases U1.out S.nd p hp with rfl | ⟨hp, hne1⟩
  · exact ⟨e1, D1.2⟩
  · exact ⟨kk _ _ (S.N p hp).1 hne1 hne, (S.N p hp).2⟩
theorem Sx.add {B h : Heap} {L a : Addr} {ns vs fs} {news : List (Addr × Obj)} {o : Obj} (S : Sx B L h ns vs news fs) (ho : h.get? a = some o) (h1 : a ≠ L) (h2 : B.get? a = none) (h3 : a ∉ news.map (·.1)) : Sx B L h ns vs ((a, o) :: news) fs :=
  ⟨S.F, fun p hp => by
    rcases List.mem_cons.mp hp with rfl | hp
    · exact ⟨ho, h1, h2⟩
    · exact S.N p hp, List.nodup_cons.mpr ⟨h3, S.nd⟩, S.ft⟩
theorem Sx.new {B h : Heap} {L a : Addr} {ns vs fs} {news : List (Addr × Obj)} (S : Sx B L h ns vs news fs) (e : h.get? a = none) : a ≠ L ∧ B.get? a = none ∧ a ∉ news.map (·.1) := by
  refine ⟨fun q => ?_, ?_, fun m => ?_⟩
  · refine x3_2 (S.F.ns) fun oL _ _ hL _ => ?_
    rw [q, hL] at e; cases e
  · cases z : B.get? a with
    | none => rfl
    | some o => rw [S.F.keep _ _ z] at e; cases e
  · refine x1_2 (List.mem_map.mp m) fun p hp q => ?_
    rw [← q, (S.N p hp).1] at e; cases e
theorem ne_il {C d : Addr} {l : Array Value} {n : Nat} : instObj C d ≠ listOf l n := by intro z; injection z with z1; cases z1
theorem ne_id {C d : Addr} {es : List DictEntry} {n : Nat} : instObj C d ≠ dictOf es n := by intro z; injection z with z1; cases z1
theorem ne_dl {es : List DictEntry} {l : Array Value} {n m : Nat} : dictOf es n ≠ listOf l m := by intro z; injection z with z1; exact absurd z1 (by decide)
theorem Sx.neB {B h : Heap} {L : Addr} {ns vs news fs} (S : Sx B L h ns vs news fs) {a d : Addr} {o o' : Obj} (e : B.get? a = some o) (m : (d, o') ∈ news) : a ≠ d := fun q => by
  rw [q, (S.N _ m).2.2] at e; cases e
inductive RunJ (w : World) (os : List Ord) (x : Str) (r : Option Wy) (k : Nat) (lim b : Int) (m lo lh dhx : Addr) (tb h1 h2 h3 h4 h5 tl : Tok) (hv1 hv3 hv5 : Value) : Nat → List (Option Value) → List (Addr × Obj) → List Fact → Prop
  | on {K : Nat} {y : Wy} {hs : List Wy} {hl : List Value} {cl : Nat} {wy dw : Addr} {s1 s2 s3 s4 s5 s6 tp ta : Tok} {vn vm : Value} {n' : Int} {tn' : Tok} {pend : List (Addr × Obj)} {o : Option Value} : Runs os x K y hs r → 0 ≤ y.at' → n' + K ≤ lim → hl.length + K ≤ k →
    RunJ w os x r k lim b m lo lh dhx tb h1 h2 h3 h4 h5 tl hv1 hv3 hv5 K [some (.ref m), some (.ref lo), some (.int b tb), some (.ref wy), o]
      ((wy, instObj 585 dw) :: (dw, wyd w s1 s2 s3 s4 s5 s6 (.ref lo) (.int (y.pc : Int) tp) (.int y.at' ta) vn vm) :: (lh, listOf hl.toArray cl) :: (dhx, hob w h1 h2 h3 h4 h5 hv1 (.int lim tl) hv3 (.int n' tn') hv5) :: pend) [wyF vn vm y, pdF w (.ref lo) hl hs pend]
  | off {o : Option Value} {hl : List Value} {cl : Nat} {n' : Int} {tn' : Tok} {fs : List Fact} : r = none →
    RunJ w os x r k lim b m lo lh dhx tb h1 h2 h3 h4 h5 tl hv1 hv3 hv5 0 [some (.ref m), some (.ref lo), some (.int b tb), some .none, o] [(lh, listOf hl.toArray cl), (dhx, hob w h1 h2 h3 h4 h5 hv1 (.int lim tl) hv3 (.int n' tn') hv5)] fs
variable {x : Str} {m dm wy dw lh lo hx dhx : Addr} {t1 t2 t3 tx h1 h2 h3 h4 h5 tb tl tn : Tok} {hv1 hv3 hv5 : Value} {n lim : Int} {l : List Value} {os : List Ord} {c cl0 : Nat}
section
variable {s1 s2 s3 s4 s5 s6 tp ta : Tok} {vn vm vh vo : Value} {y y' : Wy} {o : Ord} {p : Addr}
theorem tk_chg {d : Addr} {o : Obj} {h h' : Heap} (e : h.get? d = some o) (nt : ¬ Tup o) (ch : Chg [d] h h') : Tk h h' := fun a z ez t => ch a z ez fun q => by
  rw [List.mem_singleton.mp q, e] at ez; cases ez; exact nt t
theorem Os_at {os : List Ord} {i : Nat} {o : Ord} {oo : Option Ord} (e : os[i]? = some o) (e2 : (Os os)[i]? = some oo) : oo = some o := by
  simp only [Os, List.getElem?_map, e] at e2
  cases e2; rfl
theorem tk_chg2 {d1 d2 : Addr} {o1 o2 : Obj} {h h' : Heap} (e1 : h.get? d1 = some o1) (n1 : ¬ Tup o1) (e2 : h.get? d2 = some o2) (n2 : ¬ Tup o2) (ch : Chg [d1, d2] h h') : Tk h h' := fun a z ez t => ch a z ez fun q => by
  rcases List.mem_cons.mp q with q | q
  · rw [q, e1] at ez; cases ez; exact n1 t
  · rw [List.mem_singleton.mp q, e2] at ez; cases ez; exact n2 t
theorem IsMarks.top {h : Heap} {v : Value} {b : Int} {l m : List Int} (M : IsMarks h v m) (e : m = b :: l) : MkC h b (fun m => IsMarks h m l) v := by subst e; exact M
theorem c_go (G : Gl w mg mb g) (hk : g.StaysIn h) (R : Rm A 5) (io : IsOrd h (.ref p) (some o)) (go : Go x y o y') (hx : x.length < 2 ^ 20) (h0 : 0 ≤ y.at') (M : Ins h m 662 dm (mtd w t1 t2 t3 (.str x tx) vh (.ref lh))) (hwy : h.get? wy = some (instObj 585 dw)) (hne : m ≠ dw ∧ dm ≠ dw ∧ wy ≠ dw) (hd : h.get? dw = some (wyd w s1 s2 s3 s4 s5 s6 vo (.int (y.pc : Int) tp) (.int y.at' ta) vn vm) ∧ g.get? dw = none) (hvh : handedIn vh = true)
   (hN : IsNamed h vn y.named) (hM : IsMarks h vm y.marks)
   (ret : ∀ tp' ta' vn' vm' h' tk', Chg [dw] h h' → h'.get? dw = some (wyd w s1 s2 s3 s4 s5 s6 vo (.int (y'.pc : Int) tp') (.int y'.at' ta') vn' vm') → IsNamed h' vn' y'.named ∧ IsMarks h' vm' y'.marks → Q (.bool true) (St s h' tk')) : wpAny (model pg w) A (call (.ref 624) [.ref m, .ref p, .ref wy]) Q E (St s h tk) := by
  have nt : ¬ Tup (wyd w s1 s2 s3 s4 s5 s6 vo (.int (y.pc : Int) tp) (.int y.at' ta) vn vm) := not_tup_dict
  cases go with
  | hit ok he _ => exact c_done_one G hk R io ok hx h0 M hwy hne hd hvh (fun e tp' ta' h' tk' he' ch e' => by rw [he] at he'; cases he'; exact ret _ _ _ _ _ _ ch e' ⟨hN.keep (tk_chg hd.1 nt ch), hM.keep (tk_chg hd.1 nt ch)⟩) (fun he' => by rw [he] at he'; cases he')
  | jump => exact c_done_jump G hk (R.le (by decide)) io M hwy hne hd fun tp' h' tk' ch e => ret _ _ _ _ _ _ ch e ⟨hN.keep (tk_chg hd.1 nt ch), hM.keep (tk_chg hd.1 nt ch)⟩
  | mark => exact c_done_mark G hk (R.le (by decide)) io M hwy hne hd hM.handed fun a tp' h' tk' ch e i => ret _ _ _ _ _ _ ch e ⟨hN.keep (tk_chg hd.1 nt ch), a, _, _, rfl, i, hM.keep (tk_chg hd.1 nt ch)⟩
  | name a e =>
    obtain ⟨om, ub, vm', rfl, im, hm'⟩ := hM.top e
    exact c_done_name G hk (R.le (by decide)) io hx h0 M hwy hne hd im hN.handed hm'.handed fun a c u tp' h' tk' ch e i1 i2 => ret _ _ _ _ _ _ ch e ⟨⟨a, c, _, _, rfl, i1, i2, hN.keep (tk_chg hd.1 nt ch)⟩, hm'.keep (tk_chg hd.1 nt ch)⟩
theorem c_back (G : Gl w mg mb g) (hk : g.StaysIn h) (R : Rm A 5) (io : IsOrd h (.ref p) (some o)) (go : Miss x y o) (hx : x.length < 2 ^ 20) (h0 : 0 ≤ y.at') (M : Ins h m 662 dm (mtd w t1 t2 t3 (.str x tx) vh (.ref lh))) (hwy : h.get? wy = some (instObj 585 dw)) (hne : m ≠ dw ∧ dm ≠ dw ∧ wy ≠ dw) (hd : h.get? dw = some (wyd w s1 s2 s3 s4 s5 s6 vo (.int (y.pc : Int) tp) (.int y.at' ta) vn vm) ∧ g.get? dw = none) (hvh : handedIn vh = true)
   (ret : ∀ h' tk', Chg [dw] h h' → h'.get? dw = some (wyd w s1 s2 s3 s4 s5 s6 vo (.int (y.pc : Int) tp) (.int y.at' ta) vn vm) → Q (.bool false) (St s h' tk')) : wpAny (model pg w) A (call (.ref 624) [.ref m, .ref p, .ref wy]) Q E (St s h tk) := by
  cases go with
  | one ok he => exact c_done_one G hk R io ok hx h0 M hwy hne hd hvh (fun e tp' ta' h' tk' he' => by rw [he] at he'; cases he') (fun _ h' tk' ch e => ret _ _ ch e)
  | fail => exact c_done_fail G hk (R.le (by decide)) io M fun h' tk' k => ret _ _ (fun a o e _ => k a o e) (k _ _ hd.1)
end
theorem c_run {k : Nat} {r : Option Wy} {b : Int} (G : Gl w mg mb g) (hk : g.StaysIn h) (R : Rm A 8) (hlo : h.get? lo = some (listOf l.toArray c)) (O : Oa h l (Os os)) (hsz : os.length ≤ 2 ^ 20) (hx20 : x.length < 2 ^ 20) (hb : 0 ≤ b)
   (M : Ins h m 662 dm (mtd w t1 t2 t3 (.str x tx) (.ref hx) (.ref lh))) (hhx : h.get? hx = some (instObj 295 dhx)) (hhd : h.get? dhx = some (hob w h1 h2 h3 h4 h5 hv1 (.int lim tl) hv3 (.int n tn) hv5) ∧ g.get? dhx = none) (hlh : h.get? lh = some (listOf [].toArray cl0) ∧ g.get? lh = none) (hne : lo ≠ lh ∧ dm ≠ dhx) (hlim : n + k ≤ lim) (hk20 : k ≤ 2 ^ 20) (RN : Runs os x k ⟨0, b, [], []⟩ [] r)
   (met : ∀ y t u wy dw t1 t2 t3 t4 t5 t6 tp ta vn vm h' tk', r = some y → Chg [dhx, lh] h h' → wy ≠ dw → h.get? wy = none → h.get? dw = none → IsTup h' t [.int 0 u, .ref wy].toArray → Ins h' wy 585 dw (wyd w t1 t2 t3 t4 t5 t6 (.ref lo) (.int (y.pc : Int) tp) (.int y.at' ta) vn vm) → IsNamed h' vn y.named → (∃ n' tn', h'.get? dhx = some (hob w h1 h2 h3 h4 h5 hv1 (.int lim tl) hv3 (.int n' tn') hv5)) → (∃ l' c', h'.get? lh = some (listOf l' c')) → Q (.ref t) (St s h' tk'))
   (lost : r = none → ∀ t u h' tk', Chg [dhx, lh] h h' → IsTup h' t [.int 1 u, .none].toArray → Q (.ref t) (St s h' tk')) : wpAny (model pg w) A (call (.ref 610) [.ref m, .ref lo, .int b tb]) Q E (St s h tk) := by
  have n1 : m ≠ dhx := ne_obj M.inst hhd.1 ne_id
  have n2 : m ≠ lh := ne_obj M.inst hlh.1 ne_il
  have n3 : dm ≠ lh := ne_obj M.dict hlh.1 ne_dl
  have n4 : hx ≠ dhx := ne_obj hhx hhd.1 ne_id
  have n5 : hx ≠ lh := ne_obj hhx hlh.1 ne_il
  have n6 : lo ≠ dhx := ne_obj hlo hhd.1 ne_dl.symm
  have n7 : dhx ≠ lh := ne_obj hhd.1 hlh.1 ne_dl
  refine enterR [(dhx, hob w h1 h2 h3 h4 h5 hv1 (.int lim tl) hv3 (.int n tn) hv5), (lh, listOf [].toArray cl0)] [some (.ref m), some (.ref lo), some (.int b tb)] G hk (by k_is) (by k_is) (by decide +kernel) R (BindsTo.of_eq (bind_plain rfl rfl rfl (by decide +kernel))) (by dsimp only; repeat (first | exact Bnd.nil | refine Bnd.cons ?_)) (mem_two hhd hlh) (nd_two n7) (by decide +kernel) ?_ (by rfl) (by rfl); intro B h L tk env A V G S hB hB' hL R; dsimp only at V S
  have kB : Tk _ B := tk_led hB (mem_two hhd hlh) (mem_two not_tup_dict not_tup_list)
  have M : Ins B m 662 dm (mtd w t1 t2 t3 (.str x tx) (.ref hx) (.ref lh)) := ⟨hB _ _ M.inst (not_two ⟨n1, not_one n2⟩), hB _ _ M.dict (not_two ⟨hne.2, not_one n3⟩)⟩
  have hhB := hB _ _ hhx (not_two ⟨n4, not_one n5⟩)
  have hlB := hB _ _ hlo (not_two ⟨n6, not_one hne.1⟩)
  have O := O.keep kB
  have hlen : l.length = os.length := by rw [O.len]; simp [Os]
  repeat' (walk_at "ms@29_1")
  refine c_Way G S.stays (R.le (by decide)) fun wy dw ts h tk k0 ne e1 e2 hts I2 => ?_
  refine x6_1 (list_six hts) fun a1 a2 a3 a4 a5 a6 zq6 => ?_; subst zq6
  have S := S.gotI k0 ne e1 e2 I2
  repeat' (walk_at "ms@29_1")
  have S : Sx B L h _ [some (.ref m), some (.ref lo), some (.int b tb), some (.ref wy), none] _ _ := S.pad 1
  have S := (S.fact (pdF w (.ref lo) [] [] []) .nil).fact (wyF .none .none ⟨0, b, [], []⟩) ⟨rfl, rfl⟩
  refine x_while (RunJ w os x r k lim b m lo lh dhx tb h1 h2 h3 h4 h5 tl hv1 hv3 hv5) k (S.perm (.cons _ (.cons _ (.swap _ _ _)))) (.on RN hb hlim (by simp)) po_no ?_
  intro K _ _ _ h tk J S
  cases J with
  | @on _ y hs hl cl wy dw s1 s2 s3 s4 s5 s6 tp ta vn vm n' tn' pend o H h0 hlim hsz2 =>
  · obtain ⟨K, od, rfl, ho, H⟩ := H.turn h0
    have hpl : y.pc < os.length := (List.getElem?_eq_some_iff.mp ho).1
    repeat' (walk_at "ms@29_1")
    have P := S.N _ (.tail _ (.tail _ (.tail _ (.head _))))
    refine c_step G S.stays (R.le (by decide)) (S.F.keep _ _ hhB) n4 ⟨P.1, P.2.2⟩ (by exact lin1 [K] [n', lim] (.ile (.P (.V 0) (.C (.P (.V 0) (.K 1)))) (.V 1)) (.ile (.P (.V 0) (.K 1)) (.V 1)) [[1, 1]] hlim okT) fun tn2 h' tk' ch e => ?_
    have S := S.chg (.s (.s (.s .z))) not_tup_dict ch e
    repeat' (walk_at "ms@29_1")
    refine o_itemT (S.isB hlB) (by exact lin0 [_] [] (.ile (.K 0) (.C (.V 0))) [[1]]  okT) (by exact lin2 [_, _] [] (.nle (.V 0) (.W 2 20)) (.nlt (.V 1) (.V 0)) (.ilt (.C (.V 1)) (.W 2 63)) [[1, 1, 1]] hsz hpl okT) (x := l[y.pc]'(by exact lin2 [_, _, _] [] (.neq (.V 0) (.V 1)) (.nlt (.V 2) (.V 1)) (.nlt (.V 2) (.V 0)) [[1, -1, 1]] hlen hpl (by decide +kernel))) (by rw [Int.toNat_natCast]; exact List.getElem?_eq_getElem _) ?_ (by with_unfolding_all rfl)
    refine x1_2 (O.at (i := y.pc) (List.getElem?_eq_getElem (by exact lin2 [_, _, _] [] (.neq (.V 0) (.V 1)) (.nlt (.V 2) (.V 1)) (.nlt (.V 2) (.V 0)) [[1, -1, 1]] hlen hpl (by decide +kernel)))) fun oo ho2 io => ?_
    obtain rfl : oo = some od := Os_at ho ho2
    generalize l[y.pc]'(by exact lin2 [_, _, _] [] (.neq (.V 0) (.V 1)) (.nlt (.V 2) (.V 1)) (.nlt (.V 2) (.V 0)) [[1, -1, 1]] hlen hpl (by decide +kernel)) = ov at io ⊢
    refine io.head fun p pt pl zq3 ip => ?_; subst zq3
    repeat' (walk_at "ms@29_1")
    have nw : wy ≠ dw := fun q => (List.nodup_cons.mp S.nd).1 (by rw [q]; exact .head _)
    have nds : m ≠ dw ∧ dm ≠ dw ∧ wy ≠ dw := ⟨S.neB M.inst (.tail _ (.head _)), S.neB M.dict (.tail _ (.head _)), nw⟩
    have nls : m ≠ lh ∧ dm ≠ lh := ⟨n2, n3⟩
    have Pw := S.N _ (.head _)
    have Pd := S.N _ (.tail _ (.head _))
    have Pl := S.N _ (.tail _ (.tail _ (.head _)))
    have hW : IsNamed h vn y.named ∧ IsMarks h vm y.marks := S.ft (wyF vn vm y) (by walk_at "zf")
    have hP : Pend w (.ref lo) h hl hs pend := S.ft (pdF w (.ref lo) hl hs pend) (by walk_at "zf")
    have hpl := hP.len
    have io := io.keep (tk_of S)
    have eab := od.word_abort
    cases H with
    | done e =>
      subst e
      repeat' (walk_at "ms@29_1")
      refine lp_ret ?_
      repeat' (walk_at "ms@29_1")
      have nd' := S.nd
      simp only [List.map_cons, List.nodup_cons, List.mem_cons, not_or] at nd'
      have fw := (freshC (led := [(dhx, hob w h1 h2 h3 h4 h5 hv1 (.int lim tl) hv3 (.int n tn) hv5), (lh, listOf [].toArray cl0)]) S hB .z (by simp only [List.map_cons, List.map_nil, List.mem_cons, List.not_mem_nil, or_false, not_or]; exact ⟨nd'.1.2.2.1, nd'.1.2.1⟩)).1
      have fd := (freshC (led := [(dhx, hob w h1 h2 h3 h4 h5 hv1 (.int lim tl) hv3 (.int n tn) hv5), (lh, listOf [].toArray cl0)]) S hB (.s .z) (by simp only [List.map_cons, List.map_nil, List.mem_cons, List.not_mem_nil, or_false, not_or]; exact ⟨nd'.2.1.2.1, nd'.2.1.1⟩)).1
      exact met y a _ wy dw _ _ _ _ _ _ _ _ _ _ _ _ rfl (stayC S hB) nw fw fd (S.inF .z) (S.ins .z (.s .z)) (S.ft (wyF vn vm y) (by walk_at "zf") : _ ∧ _).1 ⟨_, _, (S.N _ (.tail _ (.tail _ (.tail _ (.head _))))).1⟩ ⟨_, _, (S.N _ (.tail _ (.tail _ (.head _)))).1⟩
    | go y2 nd gg h2 RN =>
      repeat' (walk_at "ms@29_1")
      refine c_go G S.stays (R.le (by decide)) io gg hx20 h0 (S.insB M) Pw.1 nds ⟨Pd.1, Pd.2.2⟩ rfl hW.1 hW.2 fun tp' ta' vn' vm' h' tk' ch e hw => ?_
      have S := S.chg (.s .z) not_tup_dict ch e
      repeat' (walk_at "ms@29_1")
      exact lp_next (m := _) (by exact lin0 [K] [] (.nlt (.V 0) (.P (.V 0) (.K 1))) [[1]]  okT) ((S.facts1 (f1 := pdF w (.ref lo) hl hs pend) (by walk_at "zm")).fact (wyF vn' vm' y2) hw) (.on RN h2 (by exact lin1 [K] [n', lim] (.ile (.P (.V 0) (.C (.P (.V 0) (.K 1)))) (.V 1)) (.ile (.P (.P (.V 0) (.K 1)) (.C (.V 0))) (.V 1)) [[1, 1]] hlim okT) (by exact lin1 [_, K, k] [] (.nle (.P (.V 0) (.P (.V 1) (.K 1))) (.V 2)) (.nle (.P (.V 0) (.V 1)) (.V 2)) [[1, 1]] hsz2 okT))
    | split nsp RN =>
      repeat' (walk_at "ms@29_1")
      refine c_done_split G S.stays (R.le (by decide)) io (S.insB M) Pw.1 nds ⟨n2, n3, ?_, ?_⟩ ⟨Pd.1, Pd.2.2⟩ ⟨Pl.1, Pl.2.2⟩ (by exact lin2 [k, _, K] [] (.nle (.V 0) (.W 2 20)) (.nle (.P (.V 1) (.P (.V 2) (.K 1))) (.V 0)) (.nle (.V 1) (.W 2 20)) [[1, 1, 1]] hk20 hsz2 okT) rfl hW.1.handed hW.2.handed fun x2 dx2 b1 b2 b3 b4 b5 b6 tn2 tp' h' tk' ch ne2 e1 e2 ed el I2 => ?_
      · exact fun q => (List.nodup_cons.mp S.nd).1 (by rw [q]; exact .tail _ (.head _))
      · exact fun q => (List.nodup_cons.mp (List.nodup_cons.mp S.nd).2).1 (by rw [q]; exact .head _)
      have kk2 := tk_chg2 Pd.1 not_tup_dict Pl.1 not_tup_list ch
      refine x0_3 (S.new e1) fun f1 f2 f3 => ?_
      refine x0_3 (S.new e2) fun g1 g2 g3 => ?_
      have S1 := S.chg2 (.s .z) (.s (.s .z)) not_tup_dict not_tup_list (.tail _ (.tail _ (.head _))) ch ed el
      have S2 := (S1.add I2.dict g1 g2 (by simpa using g3)).add I2.inst f1 f2 (by simp only [List.map_cons, List.mem_cons, not_or]; exact ⟨ne2, by simpa using f3⟩)
      have S := S2.perm ((List.perm_append_comm (l₁ := [_, _]) (l₂ := [_, _, _, _])).append_right pend)
      simp only [List.cons_append, List.nil_append] at S
      have hN2 := hW.1.keep kk2
      have hM2 := hW.2.keep kk2
      have hP2 := (hP.keep kk2).snoc (x := x2) (dx := dx2) (t1 := b1) (t2 := b2) (t3 := b3) (t4 := b4) (t5 := b5) (t6 := b6) (tp := tn2) (ta := ta) (y := ⟨nsp, y.at', y.named, y.marks⟩) hN2 hM2 h0
      have S := (S.facts0.fact (pdF w (.ref lo) _ _ _) hP2).fact (wyF vn vm ⟨y.pc + 1, y.at', y.named, y.marks⟩) ⟨hN2, hM2⟩
      repeat' (walk_at "ms@29_1")
      exact lp_next (m := _) (by exact lin0 [K] [] (.nlt (.V 0) (.P (.V 0) (.K 1))) [[1]]  okT) S (.on RN h0 (by exact lin1 [K] [n', lim] (.ile (.P (.V 0) (.C (.P (.V 0) (.K 1)))) (.V 1)) (.ile (.P (.P (.V 0) (.K 1)) (.C (.V 0))) (.V 1)) [[1, 1]] hlim okT) (by simp; exact lin1 [_, K, k] [] (.nle (.P (.V 0) (.P (.V 1) (.K 1))) (.V 2)) (.nle (.P (.P (.V 0) (.K 1)) (.V 1)) (.V 2)) [[1, 1]] hsz2 okT))
    | back0 nd ms eh er =>
      subst eh
      repeat' (walk_at "ms@29_1")
      refine c_back G S.stays (R.le (by decide)) io ms hx20 h0 (S.insB M) Pw.1 nds ⟨Pd.1, Pd.2.2⟩ rfl fun h' tk' ch e => ?_
      have S := S.chg (.s .z) not_tup_dict ch e
      repeat' (walk_at "ms@29_1")
      refine x0_2 hP.of_nil fun q1 q2 => ?_
      have S := q1 ▸ S
      have S := q2 ▸ S
      refine c_way_back_nil G S.stays (R.le (by decide)) (S.insB M) (S.N _ (.tail _ (.tail _ (.head _)))).1 fun h tk kk => ?_
      have S := S.call kk
      repeat' (walk_at "ms@29_1")
      refine lp_next (m := 0) (by exact lin0 [K] [] (.nlt (.K 0) (.P (.V 0) (.K 1))) [[1]]  okT) (S.drop (news' := [_, _]) (.cons _ (.cons _ (.cons_cons _ (.cons_cons _ (List.nil_sublist _)))))) (.off (hl := []) er)
    | back yb hsb nd ms eh RN =>
      subst eh
      repeat' (walk_at "ms@29_1")
      refine c_back G S.stays (R.le (by decide)) io ms hx20 h0 (S.insB M) Pw.1 nds ⟨Pd.1, Pd.2.2⟩ rfl fun h' tk' ch e => ?_
      have S := S.chg (.s .z) not_tup_dict ch e
      have hP : Pend w (.ref lo) _ hl (_ :: _) pend := S.ft (pdF w (.ref lo) hl _ pend) (by walk_at "zf")
      refine hP.of_cons fun l2 pend2 x2 dx2 c1 c2 c3 c4 c5 c6 tp2 ta2 vn2 vm2 q1 q2 hP' hN' hM' h9 => ?_
      have S := q1 ▸ S
      have S := q2 ▸ S
      rw [q1] at hsz2
      have S := (S.fact (pdF w (.ref lo) l2 hsb pend2) hP').fact (wyF vn2 vm2 yb) ⟨hN', hM'⟩
      repeat' (walk_at "ms@29_1")
      have Pl := S.N _ (.tail _ (.tail _ (.head _)))
      simp only [List.length_append, List.length_cons, List.length_nil] at hsz2
      refine c_way_back G S.stays (R.le (by decide)) (S.insB M) ⟨n2, n3⟩ ⟨Pl.1, Pl.2.2⟩ (by exact lin2 [k, _, K] [] (.nle (.V 0) (.W 2 20)) (.nle (.P (.P (.V 1) (.P (.K 0) (.K 1))) (.P (.V 2) (.K 1))) (.V 0)) (.nle (.V 1) (.W 2 20)) [[1, 1, 1]] hk20 hsz2 okT) fun c' h' tk' ch e => ?_
      have kk3 := chg_tk S (.tail _ (.tail _ (.head _))) not_tup_list ch
      have S := S.chg (.s (.s .z)) not_tup_list ch e
      repeat' (walk_at "ms@29_1")
      have S1 := (S.drop (.cons _ (.cons _ (List.Sublist.refl _)))).perm ((List.perm_append_comm (l₁ := [_, _]) (l₂ := [_, _])).append_right pend2)
      simp only [List.cons_append, List.nil_append] at S1
      refine lp_next (m := _) (by exact lin0 [K] [] (.nlt (.V 0) (.P (.V 0) (.K 1))) [[1]]  okT) (S1.facts2 (f1 := wyF vn2 vm2 yb) (f2 := pdF w (.ref lo) l2 hsb pend2) (by walk_at "zm") (by walk_at "zm")) (.on RN h9 (by exact lin1 [K] [n', lim] (.ile (.P (.V 0) (.C (.P (.V 0) (.K 1)))) (.V 1)) (.ile (.P (.P (.V 0) (.K 1)) (.C (.V 0))) (.V 1)) [[1, 1]] hlim okT) (by exact lin1 [_, K, k] [] (.nle (.P (.P (.V 0) (.P (.K 0) (.K 1))) (.P (.V 1) (.K 1))) (.V 2)) (.nle (.P (.V 0) (.V 1)) (.V 2)) [[1, 1]] hsz2 okT))
  | off hr =>
    repeat' (walk_at "ms@29_1")
    exact lost hr _ _ _ _ (stayC S (led := [(dhx, hob w h1 h2 h3 h4 h5 hv1 (.int lim tl) hv3 (.int n tn) hv5), (lh, listOf [].toArray cl0)]) hB) (S.inF .z)
end
section
set_option maxHeartbeats 2000000
variable {w : World} {mg mb : Str → Option Value} {g : Heap} {A : Around} {s : Shared} {Q E : Value → Shared → Prop} {h : Heap} {tk n : Nat}

inductive Rows (h : Heap) : List Value → List (Addr × Str) → Prop
  | nil : Rows h [] []
  | cons {c r y u l ps} : IsTup h c [.ref r, .str y u].toArray → Rows h l ps → Rows h (.ref c :: l) ((r, y) :: ps)
theorem Rows.keep {h h' : Heap} (k : Tk h h') {l ps} (H : Rows h l ps) : Rows h' l ps := by
  induction H with
  | nil => exact .nil
  | cons i _ ih => exact .cons (k.tup i) ih
theorem Rows.snoc {h : Heap} {l ps c r y u} (H : Rows h l ps) (i : IsTup h c [.ref r, .str y u].toArray) : Rows h (l ++ [.ref c]) (ps ++ [(r, y)]) := by
  induction H with
  | nil => exact .cons i .nil
  | cons j _ ih => exact .cons j ih
theorem Rows.len {h : Heap} {l ps} (H : Rows h l ps) : l.length = ps.length := by
  induction H with
  | nil => rfl
  | cons _ _ ih => simp [ih]
theorem Rows.rev {h : Heap} {l ps} (H : Rows h l ps) : Rows h l.reverse ps.reverse := by
  induction H with
  | nil => exact .nil
  | cons j _ ih => rw [List.reverse_cons, List.reverse_cons]; exact ih.snoc j
noncomputable def rwF (l : List Value) (ps : List (Addr × Str)) : Fact := ⟨fun h => Rows h l ps, fun _ _ k H => H.keep k⟩
noncomputable def nmF (v : Value) (ps : List (Addr × Str)) : Fact := ⟨fun h => IsNamed h v ps, fun _ _ k H => H.keep k⟩
section
variable {B h' : Heap} {L : Addr} {ns : List (Str × NameKind)} {vs : List (Option Value)} {own chd : List (Addr × Obj)} {fs : List Fact}
theorem Sx.lose (S : Sx B L h ns vs (own ++ chd) fs) (k : Chg (chd.map (·.1)) h h') (nt : ∀ p ∈ chd, ¬ Tup p.2) : Sx B L h' ns vs own fs := by
  have hn := S.nd
  rw [List.map_append] at hn
  refine x0_3 (List.nodup_append.mp hn) fun n1 n2 n3 => ?_
  refine x3_2 (S.F.ns) fun oL a1 a2 hL a3 => ?_
  refine ⟨⟨⟨oL, a1, a2, k _ _ hL fun m => ?_, a3⟩, fun b o z => k _ _ (S.F.keep _ _ z) fun m => ?_, S.F.above⟩, fun p hp => ⟨k _ _ (S.N p (List.mem_append_left _ hp)).1 fun m => n3 _ (List.mem_map_of_mem hp) _ m rfl, (S.N p (List.mem_append_left _ hp)).2⟩, n1, fun f hf => f.keeps _ _ (fun b x z t => k b x z fun m => ?_) (S.ft f hf)⟩
  · refine x1_2 (List.mem_map.mp m) fun p hp q => ?_
    exact (S.N p (List.mem_append_right _ hp)).2.1 q
  · refine x1_2 (List.mem_map.mp m) fun p hp q => ?_
    have := (S.N p (List.mem_append_right _ hp)).2.2
    rw [q, z] at this; cases this
  · refine x1_2 (List.mem_map.mp m) fun p hp q => ?_
    have := (S.N p (List.mem_append_right _ hp)).1
    rw [q, z] at this; cases this
    exact nt p hp t
end
inductive NrJ (fa : Addr) (ps : List (Addr × Str)) : Nat → List (Option Value) → List (Addr × Obj) → List Fact → Prop
  | mk {n c : Nat} {v : Value} {o : Option Value} {fl : List Value} {fp qs : List (Addr × Str)} : n = qs.length → fp ++ qs = ps → NrJ fa ps n [some v, some (.ref fa), o] [(fa, listOf fl.toArray c)] [rwF fl fp, nmF v qs]
theorem c_named_rows {v : Value} {ps : List (Addr × Str)} (G : Gl w mg mb g) (hk : g.StaysIn h) (R : Rm A 1) (I : IsNamed h v ps) (hsz : ps.length ≤ 2 ^ 20) (ret : ∀ a l c h' tk', h.StaysIn h' → h.get? a = none → h'.get? a = some (listOf l.toArray c) → Rows h' l ps.reverse → Q (.ref a) (St s h' tk')) : wpAny (model pg w) A (call (.ref 673) [v]) Q E (St s h tk) := by
  refine enterR [] [some v] G hk (by k_is) (by k_is) (by decide +kernel) R (BindsTo.of_eq (bind_plain rfl rfl rfl (by decide +kernel))) (by dsimp only; repeat (first | exact Bnd.nil | refine Bnd.cons ?_)) (fun p hp => nomatch hp) List.nodup_nil (by decide +kernel) ?_ (by rfl) (by rfl); intro B h L tk env A V G S hB hB' hL R; dsimp only at V S
  have I := I.keep (tk_base0 hB)
  repeat' (walk_at "ms@30_1")
  (rename Sx _ _ _ _ _ _ _ => a); rename_i fa _; (rename Sx _ _ _ _ _ _ _ => S)
  have S : Sx B L h _ [some v, some (.ref fa), none] _ _ := S.pad 1
  refine x_while (NrJ fa ps) ps.length ((S.fact (nmF v ps) (I.keep (tk_of S))).fact (rwF [] []) .nil) (.mk rfl rfl) po_no ?_
  intro n _ _ _ h tk J S
  cases J with | @mk c v o fl fp qs hn hp => ?_
  subst hn
  have Hr : Rows h fl fp := S.ft (rwF fl fp) (.head _)
  have Hn : IsNamed h v qs := S.ft (nmF v qs) (.tail _ (.head _))
  have hfl := Hr.len
  have hpl := congrArg List.length hp
  rw [List.length_append] at hpl
  cases qs with
  | nil =>
    obtain rfl : v = .none := Hn
    repeat' (walk_at "ms@30_1")
    refine gm_reverse S .z ?_
    repeat' (walk_at "ms@30_1")
    refine o_reverse S .z rfl (by unfold sizeLine; exact lin3 [_, _, _, _] [] (.nle (.V 0) (.W 2 20)) (.neq (.V 1) (.V 2)) (.neq (.P (.V 2) (.V 3)) (.V 0)) (.nle (.V 1) (.W 2 24)) [[1, 1, 1, 1]] hsz hfl hpl okT) ?_
    clear S; intro h tk S
    have Hr2 : Rows h _ _ := (S.ft (rwF fl fp) (.head _) : Rows h fl fp).rev
    rw [List.append_nil] at hp
    rw [hp] at Hr2
    repeat' (walk_at "ms@30_1")
    exact ret fa _ _ _ _ (stay S hB) (fresh S hB .z).1 (fresh S hB .z).2 Hr2
  | cons q qs =>
    obtain ⟨r, y⟩ := q
    refine NmC.el Hn fun a c2 u m e i1 i2 hm => ?_; clear Hn; subst e
    have S := ((S.fact (tupF a _) i1).fact (tupF c2 _) i2).fact (nmF m qs) hm
    repeat' (walk_at "ms@30_1")
    refine o_append S .z rfl (by unfold sizeLine; simp only [List.length_cons] at hpl; exact lin3 [_, _, _, _] [] (.nle (.V 0) (.W 2 20)) (.neq (.V 1) (.V 2)) (.neq (.P (.V 2) (.P (.V 3) (.K 1))) (.V 0)) (.nle (.V 1) (.W 2 24)) [[1, 1, 1, 1]] hsz hfl hpl okT) ?_
    clear S; intro h tk S
    have Hr2 := (S.ft (rwF fl fp) (by walk_at "zf") : Rows h fl fp).snoc (S.inF (by walk_at "zm") : IsTup h c2 [.ref r, .str y u].toArray)
    have Hn2 : IsNamed h m qs := S.ft (nmF m qs) (by walk_at "zf")
    repeat' (walk_at "ms@30_1")
    exact lp_next (m := qs.length) (by simp) ((S.facts0.fact (nmF m qs) Hn2).fact (rwF _ _) Hr2) (.mk rfl (by rw [← hp]; simp))

theorem mt_run (w : World) : Mt w 662 (Str.ofString "run") 610 := ⟨by k_is, by k_is⟩
theorem list_three {α : Type} {l : List α} (h : l.length = 3) : ∃ a b c, l = [a, b, c] := by
  obtain ⟨a, l0, e0, h0⟩ := list_cons h
  obtain ⟨b, l1, e1, h1⟩ := list_cons h0
  obtain ⟨c, l2, e2, h2⟩ := list_cons h1
  exact ⟨a, b, c, by rw [e0, e1, e2, List.eq_nil_of_length_eq_zero h2]⟩
variable {x : Str} {lo hx dhx : Addr} {tx h1 h2 h3 h4 h5 tl tn : Tok} {hv1 hv3 hv5 : Value} {n lim : Int} {l : List Value} {os : List Ord} {c : Nat}
theorem c_match_orders {k : Nat} {r : Option Wy} (G : Gl w mg mb g) (hk : g.StaysIn h) (R : Rm A 10) (hlo : h.get? lo = some (listOf l.toArray c)) (O : Oa h l (Os os)) (hsz : os.length ≤ 2 ^ 20) (hx20 : x.length < 2 ^ 20)
   (hhx : h.get? hx = some (instObj 295 dhx)) (hhd : h.get? dhx = some (hob w h1 h2 h3 h4 h5 hv1 (.int lim tl) hv3 (.int n tn) hv5) ∧ g.get? dhx = none) (hlim : n + k ≤ lim) (hk20 : k ≤ 2 ^ 20) (RN : Runs os x k ⟨0, 0, [], []⟩ [] r) (hnm : ∀ y, r = some y → y.named.length ≤ 2 ^ 20)
   (met : ∀ y t u1 u2 ra rl c h' tk', r = some y → Chg [dhx] h h' → h.get? ra = none → IsTup h' t [.int 0 u1, .int y.at' u2, .ref ra].toArray → h'.get? ra = some (listOf rl.toArray c) → Rows h' rl y.named.reverse → Q (.ref t) (St s h' tk'))
   (lost : r = none → ∀ h' tk', Chg [dhx] h h' → Q .none (St s h' tk')) : wpAny (model pg w) A (call (.ref 680) [.ref lo, .str x tx, .bool true, .ref hx]) Q E (St s h tk) := by
  have n4 : hx ≠ dhx := ne_obj hhx hhd.1 ne_id
  have n6 : lo ≠ dhx := ne_obj hlo hhd.1 ne_dl.symm
  refine enterR [(dhx, hob w h1 h2 h3 h4 h5 hv1 (.int lim tl) hv3 (.int n tn) hv5)] [some (.ref lo), some (.str x tx), some (.bool true), some (.ref hx)] G hk (by k_is) (by k_is) (by decide +kernel) R (BindsTo.of_eq (bind_plain rfl rfl rfl (by decide +kernel))) (by dsimp only; repeat (first | exact Bnd.nil | refine Bnd.cons ?_)) (mem_one hhd) (nd_one) (by decide +kernel) ?_ (by rfl) (by rfl); intro B h L tk env A V G S hB hB' hL R; dsimp only at V S
  have kB : Tk _ B := tk_led hB (mem_one hhd) (mem_one not_tup_dict)
  have hhB := hB _ _ hhx (not_one n4)
  have hlB := hB _ _ hlo (not_one n6)
  have O := O.keep kB
  refine m_cons ?_
  refine x_for (fun _ => rfl) ?_
  repeat' (walk_at "ms@30_2")
  refine o_range S ?_
  clear S; intro rg q1 q2 h tk S
  have S : Sx B L h _ [some (.ref lo), some (.str x tx), some (.bool true), some (.ref hx), none, none, none] _ _ := S.pad 3
  refine x_for_range (n := 1) (fun i vs news fs => (i = 0 ∧ ∃ q, vs = [some (.ref lo), some (.str x tx), some (.bool true), some (.ref hx), none, none, none] ∧ news = [(dhx, hob w h1 h2 h3 h4 h5 hv1 (.int lim tl) hv3 (.int n tn) hv5), q] ∧ fs = []) ∨ (i = 1 ∧ news = [] ∧ r = none)) V R.h (S.perm (List.Perm.swap _ _ _)) (by exact .s .z) (by decide) (.inl ⟨rfl, _, rfl, rfl, rfl⟩) po_no ?_ ?_
  · rintro i _ _ _ t hi (⟨rfl, q, rfl, rfl, rfl⟩ | ⟨rfl, _⟩)
    rotate_left
    · omega
    refine ⟨_, by walk_at "zs", fun h tk p S => ?_⟩
    repeat' (walk_at "ms@30_2")
    refine c_Match G S.stays (R.le (by decide)) fun m dm lh ts h tk k0 e1 e2 e3 hts M hl nd => ?_
    refine x3_1 (list_three hts) fun a1 a2 a3 zq3 => ?_; subst zq3
    refine x0_2 (List.nodup_cons.mp nd) fun nd1 nd2 => ?_
    have nx : m ≠ dm := fun q => nd1 (by rw [q]; exact .head _)
    have nlx : m ≠ lh := fun q => nd1 (by rw [q]; exact .tail _ (.head _))
    have nld : dm ≠ lh := fun q => (List.nodup_cons.mp nd2).1 (by rw [q]; exact .head _)
    have S := S.gotL k0 nx e1 e2 e3 nlx nld M hl
    repeat' (walk_at "ms@30_2")
    have Ph := S.N (dhx, hob w h1 h2 h3 h4 h5 hv1 (.int lim tl) hv3 (.int n tn) hv5) (Inn.mem (by walk_at "zm"))
    have Pl := S.N (lh, listOf [].toArray 0) (Inn.mem (by walk_at "zm"))
    have nmh : dm ≠ dhx := fun q => (List.nodup_cons.mp (List.nodup_cons.mp S.nd).2).1 (by rw [q]; simp)
    have S2 : Sx B L h _ _ ([(m, instObj 662 dm), (dm, _), p, q] ++ [(dhx, hob w h1 h2 h3 h4 h5 hv1 (.int lim tl) hv3 (.int n tn) hv5), (lh, listOf [].toArray 0)]) _ := S.perm (by
      refine .cons _ (.cons _ ?_)
      refine (List.perm_append_comm (l₁ := [_]) (l₂ := [p, _, q])).trans ?_
      refine .cons _ ?_
      exact (List.perm_append_comm (l₁ := [_]) (l₂ := [q, _])).trans (.cons _ (List.Perm.swap _ _ _)))
    refine c_run G S.stays (R.le (by decide)) (S.F.keep _ _ hlB) (O.keep (tk_of S)) hsz hx20 (by decide) (S.ins .z (.s .z)) (S.F.keep _ _ hhB) ⟨Ph.1, Ph.2.2⟩ ⟨Pl.1, Pl.2.2⟩ ⟨S.neB hlB (Inn.mem (by walk_at "zm")), nmh⟩ hlim hk20 RN ?_ ?_
    · intro y t u wy dw c1 c2 c3 c4 c5 c6 tp ta vn vm h' tk' hr ch nwd fw fd it I hN ⟨n', tn', ed⟩ ⟨l', c', el⟩
      refine x0_3 (S2.new fw) fun f1 f2 f3 => ?_
      refine x0_3 (S2.new fd) fun g1 g2 g3 => ?_
      have hvn := hN.handed
      have S := (S2.chg2 (.s (.s (.s (.s .z)))) (.s (.s (.s (.s (.s .z))))) not_tup_dict not_tup_list (.tail _ (.tail _ (.tail _ (.tail _ (.tail _ (.head _)))))) ch ed el).fact (tupF t _) it
      have S := ((S.add I.dict g1 g2 (by simpa using g3)).add I.inst f1 f2 (fun m => by
        rcases List.mem_cons.mp m with q | q
        · exact nwd q
        · exact f3 (by simpa using q))).fact (nmF vn y.named) hN
      repeat' (walk_at "ms@30_2")
      refine c_named_rows G S.stays (R.le (by decide)) (S.ft (nmF vn y.named) (by walk_at "zf")) (hnm y hr) fun ra rl rc h tk k er el hrr => ?_
      have S := (S.got k er el).fact (rwF _ _) hrr
      repeat' (walk_at "ms@30_2")
      refine lf_ret ?_
      repeat' (walk_at "ms@30_2")
      have fr := (freshC (led := [(dhx, hob w h1 h2 h3 h4 h5 hv1 (.int lim tl) hv3 (.int n tn) hv5)]) S hB .z (by
        have nd' := S.nd
        simp only [List.map_cons, List.nodup_cons, List.mem_cons, not_or, List.map_append, List.map_nil, List.not_mem_nil] at nd' ⊢
        exact ⟨nd'.1.2.2.2.2.2.2.1, not_false⟩)).1
      exact met y _ _ _ ra rl rc _ _ hr (stayC S hB) fr (S.inF .z) (S.N _ (.head _)).1 (S.ft (rwF _ _) (by walk_at "zf"))
    · intro hr t u h' tk' ch it
      have S := (S2.lose ch (fun p hp => by
        simp only [List.mem_cons, List.not_mem_nil, or_false] at hp
        rcases hp with rfl | rfl
        · exact not_tup_dict
        · exact not_tup_list)).fact (tupF t _) it
      repeat' (walk_at "ms@30_2")
      exact lf_next (S.drop (news' := [p]) (.cons _ (.cons _ (.cons_cons _ (List.nil_sublist _))))) (.inr ⟨rfl, rfl, hr⟩)
  · rintro _ _ _ h tk (⟨q, _⟩ | ⟨_, rfl, hr⟩) S
    · cases q
    repeat' (walk_at "ms@30_2")
    exact lost hr _ _ (stayC S hB)
end
section
set_option maxHeartbeats 2000000
variable {w : World} {mg mb : Str → Option Value} {g : Heap} {A : Around} {s : Shared} {Q E : Value → Shared → Prop} {h : Heap} {tk n : Nat}

variable {x : Str} {v : Value} {hx dhx : Addr} {tx h1 h2 h3 h4 h5 tl tn : Tok} {hv1 hv3 hv5 : Value} {n lim : Int} {T : Tr} {N : Nat}
theorem none_chg {h h' : Heap} {a : Addr} {led : List (Addr × Obj)} (hl : ∀ p ∈ led, h'.get? p.1 = some p.2) (k : Chg (led.map (·.1)) h h') (e : h'.get? a = none) : h.get? a = none := by
  cases z : h.get? a with
  | none => rfl
  | some o =>
    by_cases m : a ∈ led.map (·.1)
    · refine x1_2 (List.mem_map.mp m) fun p hp zq2 => ?_; subst zq2
      rw [hl p hp] at e; cases e
    · rw [k a o z m] at e; cases e
theorem c_match_compiled {k : Nat} {r : Option Wy} (G : Gl w mg mb g) (hk : g.StaysIn h) (R : Rm A (2 * N + 16)) (hN : T.size ≤ N) (I : IsTr h v T) (sh : Sh T) (st : Strt (code T 0 ++ [.done])) (hz : 5 * T.size ≤ 2 ^ 17) (hx20 : x.length < 2 ^ 20)
   (hhx : h.get? hx = some (instObj 295 dhx)) (hhd : h.get? dhx = some (hob w h1 h2 h3 h4 h5 hv1 (.int lim tl) hv3 (.int n tn) hv5) ∧ g.get? dhx = none) (hlim : n + k ≤ lim) (hk20 : k ≤ 2 ^ 20) (RN : Runs (code T 0 ++ [.done]) x k ⟨0, 0, [], []⟩ [] r) (hnm : ∀ y, r = some y → y.named.length ≤ 2 ^ 20)
   (met : ∀ y t u1 u2 ra rl c h' tk', r = some y → Chg [dhx] h h' → h.get? ra = none → IsTup h' t [.int 0 u1, .int y.at' u2, .ref ra].toArray → h'.get? ra = some (listOf rl.toArray c) → Rows h' rl y.named.reverse → Q (.ref t) (St s h' tk'))
   (lost : r = none → ∀ h' tk', Chg [dhx] h h' → Q .none (St s h' tk')) : wpAny (model pg w) A (call (.ref 687) [v, .str x tx, .bool true, .ref hx]) Q E (St s h tk) := by
  have n4 : hx ≠ dhx := ne_obj hhx hhd.1 ne_id
  refine enterR [(dhx, hob w h1 h2 h3 h4 h5 hv1 (.int lim tl) hv3 (.int n tn) hv5)] [some v, some (.str x tx), some (.bool true), some (.ref hx)] G hk (by k_is) (by k_is) (by decide +kernel) R (BindsTo.of_eq (bind_plain rfl rfl rfl (by decide +kernel))) (by dsimp only; repeat (first | exact Bnd.nil | refine Bnd.cons ?_)) (mem_one hhd) (nd_one) (by decide +kernel) ?_ (by rfl) (by rfl); intro B h L tk env A V G S hB hB' hL R; dsimp only at V S
  have kB : Tk _ B := tk_led hB (mem_one hhd) (mem_one not_tup_dict)
  have hhB := hB _ _ hhx (not_one n4)
  have I := I.keep kB
  repeat' (walk_at "ms@31_1")
  refine c_compile G S.stays (R.le (by exact lin0 [N] [] (.nle (.P (.M 2 (.V 0)) (.K 6)) (.P (.M 2 (.V 0)) (.K 15))) [[1]]  okT)) hN (I.keep (tk_of S)) sh st hz fun a l c h' tk' k na hl O => ?_
  have S := S.got k na hl
  repeat' (walk_at "ms@31_1")
  have P := S.N _ (.tail _ (.head _))
  have O := O.keep (Tk.refl _)
  have hcs := code_size T 0
  have kS : Chg [dhx] _ _ := stayC S hB
  refine c_match_orders G S.stays (R.le (by exact lin0 [N] [] (.nle (.K 10) (.P (.M 2 (.V 0)) (.K 15))) [[1]]  okT)) (S.N _ (.head _)).1 O (by simp; exact lin2 [_, _] [] (.nle (.M 5 (.V 0)) (.W 2 17)) (.nle (.V 1) (.M 5 (.V 0))) (.nle (.V 1) (.K 1048575)) [[1, 1, 1]] hz hcs okT) hx20 (S.F.keep _ _ hhB) ⟨P.1, P.2.2⟩ hlim hk20 RN hnm ?_ ?_
  · intro y t u1 u2 ra rl c h' tk' hr ch er it hrl hrows
    refine met y t u1 u2 ra rl c _ _ hr (Chg.trans kS ch) (none_chg (led := [(dhx, _)]) (fun p hp => by rw [List.mem_singleton.mp hp]; exact P.1) kS er) it hrl hrows
  · intro hr h' tk' ch
    exact lost hr _ _ (Chg.trans kS ch)
end
section
set_option maxHeartbeats 2000000
variable {w : World} {mg mb : Str → Option Value} {g : Heap} {A : Around} {s : Shared} {Q E : Value → Shared → Prop} {h : Heap} {tk n : Nat}

section
variable {B : Heap} {L D : Addr} {ns : List (Str × NameKind)} {vs : List (Option Value)} {news : List (Addr × Obj)} {fs : List Fact}
theorem o_sltos {value slice : Expr} {x : Str} {t uj : Tok} {j : Int} {Q : Value → Shared → Prop} (S : Sx B L h ns vs news fs) (hsz : x.length ≤ sizeLine)
    (hs : subscripted slice false (.str x t) (.ref h.objs.size) = operate [.ref h.objs.size, .str x t] (getItem (.str x t) (.ref h.objs.size)))
    (ht : ∀ r, letTemporaryGo value (.str x t) r = pure ())
    (k : ∀ t' h' tk', Sx B L h' ns vs news fs → Q (.str (Txt.slice x none (some j)) t') (St s h' tk')) :
    wpAny (model pg w) A (subscriptTail value slice (.str x t) (.ref h.objs.size)) Q E (St s (h.push { cls := .type "slice", data := .fields #[.none, .int j uj, .none] }) tk) :=
  slice_strN_ns (s := St s h tk) S.F (S.all []) (fun h' t' k' F' N' => k t' h' k' (S.ext F' N')) hs ht hsz
theorem o_addt {t b : Addr} {l l2 : List Value} {Q : Value → Shared → Prop} (S : Sx B L h ns vs news fs) (ht : IsTup h t l.toArray) (hb : IsTup h b l2.toArray) (h0 : l2 ≠ []) (hz : l.length + l2.length ≤ sizeLine)
    (k : ∀ a h' tk', Sx B L h' ns vs news (tupF a (l ++ l2).toArray :: fs) → Q (.ref a) (St s h' tk')) : wpAny (model pg w) A (binaryOp .Add (.ref t) (.ref b)) Q E (St s h tk) := by
  refine add_tuples (s := St s h tk) S.F (S.all []) ht hb (fun e => ?_) (fun _ e => absurd e h0) (fun _ _ h' F' N' => ?_) hz
  · subst e
    exact k b h tk (S.fact _ hb)
  · refine k _ h' tk ((S.ext F' (fun p hp => N' p (.tail _ hp))).fact (tupF _ _) ?_)
    exact ⟨_, N'.get (.head _), rfl, _, rfl⟩
theorem o_listT {t : Addr} {l : List Value} {Q : Value → Shared → Prop} (S : Sx B L h ns vs news fs) (ht : IsTup h t l.toArray) (hz : l.length ≤ sizeLine)
    (k : ∀ a c h' tk', Sx B L h' ns vs ((a, listOf l.toArray c) :: news) fs → h.get? a = none → Q (.ref a) (St s h' tk')) : wpAny (model pg w) A (call (.type "list") [.ref t]) Q E (St s h tk) := by
  obtain ⟨o, ho, hc, n, hd⟩ := ht
  refine call_list_seq (s := St s h tk) (hsz := by simpa using hz) t (.inr rfl) ho hc hd fun h' c' hk hD => k _ c' h' _ (S.got hk (new_none _) hD) (new_none _)
end

inductive Itm | node (T : Tr) | endl (r : Addr) (b : Int)
inductive IsEl (h : Heap) (v : Value) (r : Addr) (b : Int) : Prop | mk (a : Addr) (t1 t2 : Tok) : v = .ref a → IsTup h a [.str (Str.ofString "end later") t1, .ref r, .int b t2].toArray → IsEl h v r b
noncomputable def IsItm (h : Heap) (v : Value) (i : Itm) : Prop := i.casesOn (fun T => IsTr h v T) fun r b => IsEl h v r b
theorem IsItm.keep {h h' : Heap} (k : Tk h h') {v : Value} {i : Itm} (I : IsItm h v i) : IsItm h' v i := by
  cases i with
  | node => exact IsTr.keep k I
  | endl => exact (fun ⟨a, t1, t2, e, i⟩ => ⟨a, t1, t2, e, k.tup i⟩) I
inductive IsCc (h : Heap) (v : Value) (i : Itm) (P : Value → Prop) : Prop | mk (a : Addr) (u m : Value) : v = .ref a → IsTup h a [u, m].toArray → IsItm h u i → P m → IsCc h v i P
noncomputable def IsCh (h : Heap) : Value → List Itm → Prop
  | v, [] => v = .none
  | v, i :: c => IsCc h v i (fun m => IsCh h m c)
theorem IsCh.keep {h h' : Heap} (k : Tk h h') {c : List Itm} : ∀ {v : Value}, IsCh h v c → IsCh h' v c := by
  induction c with
  | nil => exact fun e => e
  | cons i c ih => exact fun ⟨a, u, m, e, i, j, n⟩ => ⟨a, u, m, e, k.tup i, j.keep k, ih n⟩
theorem IsCh.ref {h : Heap} {v : Value} {i : Itm} {c : List Itm} (C : IsCh h v (i :: c)) : ∃ a, v = .ref a := (fun ⟨a, _, _, e, _, _, _⟩ => ⟨a, e⟩) C
theorem IsCh.el {h : Heap} {a : Addr} {i : Itm} {c : List Itm} {P : Prop} (C : IsCh h (.ref a) (i :: c)) (f : ∀ u m, IsTup h a [u, m].toArray → IsItm h u i → IsCh h m c → P) : P := (fun ⟨_, u, m, e, i, j, n⟩ => f u m (by cases e; exact i) j n) C
inductive IsNm (h : Heap) (v : Value) (ps : List (Addr × Str)) : Prop | mk (a : Addr) (l : List Value) : v = .ref a → IsTup h a (List.toArray l) → Rows h l ps → IsNm h v ps
theorem IsNm.keep {h h' : Heap} (k : Tk h h') {v : Value} {ps} (N : IsNm h v ps) : IsNm h' v ps := by
  cases N with | mk a l e i j => exact ⟨a, l, e, k.tup i, j.keep k⟩
theorem IsNm.el {h : Heap} {v : Value} {ps} {P : Prop} (N : IsNm h v ps) (f : ∀ a l, v = .ref a → IsTup h a (List.toArray l) → Rows h l ps → P) : P := by
  cases N with | mk a l e i j => exact f a l e i j
structure Ty where
  ch : List Itm
  at' : Int
  nm : List (Addr × Str)
inductive IsTy (h : Heap) (v : Value) (y : Ty) : Prop | mk (a : Addr) (c : Value) (t : Tok) (n : Value) : v = .ref a → IsTup h a [c, .int y.at' t, n].toArray → IsCh h c y.ch → IsNm h n y.nm → IsTy h v y
theorem IsTy.keep {h h' : Heap} (k : Tk h h') {v : Value} {y} (T : IsTy h v y) : IsTy h' v y := by
  cases T with | mk a c t n e i j l => exact ⟨a, c, t, n, e, k.tup i, j.keep k, l.keep k⟩
theorem IsTy.el {h : Heap} {v : Value} {y : Ty} {P : Prop} (T : IsTy h v y) (f : ∀ a c t n, v = .ref a → IsTup h a [c, .int y.at' t, n].toArray → IsCh h c y.ch → IsNm h n y.nm → P) : P := by
  cases T with | mk a c t n e i j l => exact f a c t n e i j l
noncomputable def chF (v : Value) (c : List Itm) : Fact := ⟨fun h => IsCh h v c, fun _ _ k H => H.keep k⟩
noncomputable def tnF (v : Value) (ps : List (Addr × Str)) : Fact := ⟨fun h => IsNm h v ps, fun _ _ k H => H.keep k⟩
inductive Pil (h : Heap) : List Value → List (Option Ty) → Prop
  | nil : Pil h [] []
  | some {l ys v y} : Pil h l ys → IsTy h v y → Pil h (l ++ [v]) (some y :: ys)
  | none {l ys v} : Pil h l ys → Pil h (l ++ [v]) (none :: ys)
theorem Pil.keep {h h' : Heap} (k : Tk h h') {l ys} (H : Pil h l ys) : Pil h' l ys := by
  induction H with
  | nil => exact .nil
  | some _ a ih => exact .some ih (a.keep k)
  | none _ ih => exact .none ih
theorem Pil.len {h : Heap} {l ys} (H : Pil h l ys) : l.length = ys.length := by
  induction H with
  | nil => rfl
  | some _ _ ih => simp [ih]
  | none _ ih => simp [ih]
noncomputable def piF (l : List Value) (ys : List (Option Ty)) : Fact := ⟨fun h => Pil h l ys, fun _ _ k H => H.keep k⟩
noncomputable def adv (x : Str) (i : Itm) (c : List Itm) (p : Int) (nm : List (Addr × Str)) : Option Ty × Option (Option Ty) :=
  i.casesOn (fun T =>
    let l : Option Ty × Option (Option Ty) := ((endOf x p T).map fun e => ⟨c, e, nm⟩, none)
    T.casesOn l (none, none) (fun _ => l) (fun _ => l) (fun _ => l) (fun _ => l) (fun _ => (some ⟨c, p, nm⟩, some none)) (fun a r => (some ⟨.node a :: .endl r p :: c, p, nm⟩, none))
      (fun a b => (some ⟨.node a :: c, p, nm⟩, some (some ⟨.node b :: c, p, nm⟩))) (fun a b => (some ⟨.node a :: .node b :: c, p, nm⟩, none)))
    fun r b => (some ⟨c, p, nm ++ [(r, Txt.slice x (some b) (some p))]⟩, none)
noncomputable def OTy (h : Heap) (v : Value) : Option Ty → Prop
  | none => v = .none
  | some y => IsTy h v y
noncomputable def okIt (i : Itm) : Prop := i.casesOn (fun T => T.casesOn (okLf T) True (fun _ => okLf T) (fun _ => okLf T) (fun _ => okLf T) (fun _ => okLf T) (fun _ => True) (fun _ _ => True) (fun _ _ => True) (fun _ _ => True)) fun _ _ => True
noncomputable def isMade (i : Itm) : Bool := i.casesOn (fun T => T.fold (fun _ => false) (fun _ => true) (fun _ _ => true) (fun _ _ => true)) fun _ _ => false
variable {x : Str} {D : Addr} {here rest named chain hv : Value} {p : Int} {tp tx : Tok} {l : List Value} {n : Nat} {T : Tr} {i : Itm} {c : List Itm} {nm : List (Addr × Str)}
noncomputable def Left (h h' : Heap) (D : Addr) (l : List Value) (n : Nat) (v : Value) (r : Option Ty × Option (Option Ty)) : Prop :=
  Chg [D] h h' ∧ OTy h' v r.1 ∧ match r.2 with
    | none => h'.get? D = some (listOf l.toArray n)
    | some none => ∃ u, h'.get? D = some (listOf (l ++ [u]).toArray (n + 1))
    | some (some y) => ∃ u, IsTy h' u y ∧ h'.get? D = some (listOf (l ++ [u]).toArray (n + 1))
theorem c_led_in (G : Gl w mg mb g) (hk : g.StaysIn h) (R : Rm A 1) (I : IsTr h here T) (hm : isMade (.node T) = true) (C : IsCh h rest c) (N : IsNm h named nm) (hD : h.get? D = some (listOf l.toArray n) ∧ g.get? D = none) (hz : l.length ≤ 2 ^ 20)
   (ret : ∀ v h' tk', Left h h' D l n v (adv x (.node T) c p nm) → Q v (St s h' tk')) : wpAny (model pg w) A (call (.ref 729) [here, rest, .int p tp, named, .ref D]) Q E (St s h tk) := by
  obtain ⟨q, rfl⟩ := I.ref
  refine enterR [(D, listOf l.toArray n)] [some (.ref q), some rest, some (.int p tp), some named, some (.ref D)] G hk (by k_is) (by k_is) (by decide +kernel) R (BindsTo.of_eq (bind_plain rfl rfl rfl (by decide +kernel))) (by dsimp only; repeat (first | exact Bnd.nil | refine Bnd.cons ?_)) (mem_one hD) (nd_one) (by decide +kernel) ?_ (by rfl) (by rfl); intro B h L tk env A V G S hB hB' hL R; dsimp only at V S
  have kB : Tk _ B := tk_led hB (mem_one hD) (mem_one not_tup_list)
  have I := I.keep kB
  have C := C.keep kB
  have N := N.keep kB
  have hz2 : l.length ≤ sizeLine := by unfold sizeLine; exact lin1 [_] [] (.nle (.V 0) (.W 2 20)) (.nle (.V 0) (.W 2 24)) [[1, 1]] hz okT
  cases T with
  | cat a b =>
    refine I.cat fun t u v i ia ib => ?_
    repeat' (walk_at "ms@32_1")
    have k := tk_of S
    exact ret _ _ _ ⟨stayC S hB, ⟨_, _, _, _, rfl, S.inF .z, ⟨_, _, _, rfl, S.inF (.s .z), IsTr.keep k ia, ⟨_, _, _, rfl, S.inF (.s (.s .z)), IsTr.keep k ib, C.keep k⟩⟩, N.keep k⟩, (S.N _ (.head _)).1⟩
  | alt a b =>
    refine I.alt fun t u v i ia ib => ?_
    repeat' (walk_at "ms@32_1")
    refine o_append S .z rfl hz2 ?_
    clear S; intro h tk S
    repeat' (walk_at "ms@32_1")
    have k := tk_of S
    exact ret _ _ _ ⟨stayC S hB, ⟨_, _, _, _, rfl, S.inF .z, ⟨_, _, _, rfl, S.inF (.s .z), IsTr.keep k ia, C.keep k⟩, N.keep k⟩, ⟨_, ⟨_, _, _, _, rfl, S.inF (.s (.s .z)), ⟨_, _, _, rfl, S.inF (.s (.s (.s .z))), IsTr.keep k ib, C.keep k⟩, N.keep k⟩, (S.N _ (.head _)).1⟩⟩
  | arb a =>
    refine I.arb fun t u i ia => ?_
    repeat' (walk_at "ms@32_1")
    refine o_append S .z rfl hz2 ?_
    clear S; intro h tk S
    repeat' (walk_at "ms@32_1")
    have k := tk_of S
    exact ret _ _ _ ⟨stayC S hB, ⟨_, _, _, _, rfl, S.inF .z, C.keep k, N.keep k⟩, ⟨_, (S.N _ (.head _)).1⟩⟩
  | lat a b =>
    refine I.lat fun t u i ia => ?_
    repeat' (walk_at "ms@32_1")
    refine b_cat (by decide +kernel) ?_
    intro t2 tk
    rw [show Str.ofString "end " ++ Str.ofString "later" = Str.ofString "end later" by decide +kernel]
    repeat' (walk_at "ms@32_1")
    have k := tk_of S
    exact ret _ _ _ ⟨stayC S hB, ⟨_, _, _, _, rfl, S.inF .z, ⟨_, _, _, rfl, S.inF (.s .z), IsTr.keep k ia, ⟨_, _, _, rfl, S.inF (.s (.s .z)), ⟨_, _, _, rfl, S.inF (.s (.s (.s .z)))⟩, C.keep k⟩⟩, N.keep k⟩, (S.N _ (.head _)).1⟩
  | _ => cases hm
theorem c_led_out {r : Addr} {b : Int} (G : Gl w mg mb g) (hk : g.StaysIn h) (R : Rm A 1) (I : IsItm h here (.endl r b)) (C : IsCh h rest c) (N : IsNm h named nm) (hz : nm.length ≤ 2 ^ 20) (hx : x.length < 2 ^ 20)
   (ret : ∀ v h' tk', h.StaysIn h' → OTy h' v (adv x (.endl r b) c p nm).1 → Q v (St s h' tk')) : wpAny (model pg w) A (call (.ref 736) [here, rest, .int p tp, named, .str x tx, .ref D, hv]) Q E (St s h tk) := by
  refine IsNm.el N fun na nl e ni0 nr0 => ?_; subst e; clear ni0 nr0
  obtain ⟨a, t1, t2, rfl, i⟩ := I
  refine enterR [] [some (.ref a), some rest, some (.int p tp), some (.ref na), some (.str x tx), some (.ref D), some hv] G hk (by k_is) (by k_is) (by decide +kernel) R (BindsTo.of_eq (bind_plain rfl rfl rfl (by decide +kernel))) (by dsimp only; repeat (first | exact Bnd.nil | refine Bnd.cons ?_)) (fun p hp => nomatch hp) List.nodup_nil (by decide +kernel) ?_ (by rfl) (by rfl); intro B h L tk env A V G S hB hB' hL R; dsimp only at V S
  have kB := tk_base0 hB
  have C := C.keep kB
  have i := kB.tup i
  refine IsNm.el (N.keep kB) fun _ nl e ni nr => ?_; cases e
  have hnl := nr.len
  repeat' (walk_at "ms@32_2")
  refine o_addt S (S.inB ni) (S.inF .z) (by simp) (by simp only [List.length_cons, List.length_nil]; unfold sizeLine; exact lin2 [_, _] [] (.nle (.V 0) (.W 2 20)) (.neq (.V 1) (.V 0)) (.nle (.P (.V 1) (.P (.K 0) (.K 1))) (.W 2 24)) [[1, 1, 1]] hz hnl okT) ?_
  clear S; intro a2 h tk S
  repeat' (walk_at "ms@32_2")
  have k := tk_of S
  exact ret _ _ _ (stay S hB) ⟨_, _, _, _, rfl, S.inF .z, C.keep k, ⟨_, _, rfl, S.inF (.s .z), (nr.keep k).snoc (S.inF (.s (.s (.s .z))))⟩⟩
theorem c_steered (G : Gl w mg mb g) (hk : g.StaysIn h) (R : Rm A 1) (C : IsCh h chain (.node .fail :: c)) 
   (ret : ∀ h' tk', h.StaysIn h' → Q .none (St s h' tk')) : wpAny (model pg w) A (call (.ref 743) [chain, .int p tp, named, .ref D]) Q E (St s h tk) := by
  obtain ⟨a, rfl⟩ := C.ref
  refine enterR [] [some (.ref a), some (.int p tp), some named, some (.ref D)] G hk (by k_is) (by k_is) (by decide +kernel) R (BindsTo.of_eq (bind_plain rfl rfl rfl (by decide +kernel))) (by dsimp only; repeat (first | exact Bnd.nil | refine Bnd.cons ?_)) (fun p hp => nomatch hp) List.nodup_nil (by decide +kernel) ?_ (by rfl) (by rfl); intro B h L tk env A V G S hB hB' hL R; dsimp only at V S
  have kB := tk_base0 hB
  refine (C.keep kB).el fun u m i I C => ?_
  obtain ⟨a2, t2, rfl, i2⟩ := I
  repeat' (walk_at "ms@32_3")
  exact ret _ _ (stay S hB)
theorem okLf.adv {T : Tr} (ok : okLf T) : adv x (.node T) c p nm = ((endOf x p T).map fun e => ⟨c, e, nm⟩, none) := by cases T <;> first | rfl | exact ok.elim
theorem okLf.narb {T : Tr} (ok : okLf T) : (T.kind == Str.ofString "arb") = false := by cases T <;> first | exact ok.elim | exact of_decide_eq_true rfl
theorem okLf.nbal {T : Tr} (ok : okLf T) : (T.kind == Str.ofString "bal") = false := by cases T <;> first | exact ok.elim | exact of_decide_eq_true rfl
theorem c_taken (G : Gl w mg mb g) (hk : g.StaysIn h) (R : Rm A 5) (I : IsTr h here T) (ok : okLf T) (C : IsCh h rest c) (N : IsNm h named nm) (hx : x.length < 2 ^ 20) (h0 : 0 ≤ p)
   (ret : ∀ v h' tk', h.StaysIn h' → OTy h' v (adv x (.node T) c p nm).1 → Q v (St s h' tk')) : wpAny (model pg w) A (call (.ref 750) [here, rest, .int p tp, named, .str x tx, .ref D, hv]) Q E (St s h tk) := by
  obtain ⟨a, rfl⟩ := I.ref
  refine enterR [] [some (.ref a), some rest, some (.int p tp), some named, some (.str x tx), some (.ref D), some hv] G hk (by k_is) (by k_is) (by decide +kernel) R (BindsTo.of_eq (bind_plain rfl rfl rfl (by decide +kernel))) (by dsimp only; repeat (first | exact Bnd.nil | refine Bnd.cons ?_)) (fun p hp => nomatch hp) List.nodup_nil (by decide +kernel) ?_ (by rfl) (by rfl); intro B h L tk env A V G S hB hB' hL R; dsimp only at V S
  have kB := tk_base0 hB
  have C := C.keep kB
  have N := N.keep kB
  have I := I.keep kB
  rw [okLf.adv ok] at ret
  have e1 := okLf.narb ok
  have e2 := okLf.nbal ok
  refine I.at fun t l i => ?_
  repeat' (walk_at "ms@32_4")
  refine c_settled G S.stays (R.le (by exact lin0 [] [] (.nle (.K 2) (.K 4)) [[1]]  okT)) (I.keep (tk_of S)) ok fun h tk k => ?_
  have S := S.call k
  repeat' (walk_at "ms@32_4")
  refine c_plain_end G S.stays (R.le (by exact lin0 [] [] (.nle (.K 3) (.K 4)) [[1]]  okT)) (I.keep (tk_of S)).pl ok hx h0 fun r h tk k hr => ?_
  have S := S.call k
  cases hq : endOf x p T with
  | none =>
    rw [hq] at hr
    obtain rfl : r = .none := hr
    repeat' (walk_at "ms@32_4")
    rw [hq] at ret
    exact ret _ _ _ (stay S hB) rfl
  | some e =>
    rw [hq] at hr
    obtain ⟨te, rfl⟩ : ∃ t, r = .int e t := hr
    repeat' (walk_at "ms@32_4")
    rw [hq] at ret
    have k := tk_of S
    exact ret _ _ _ (stay S hB) ⟨_, _, _, _, rfl, S.inF .z, C.keep k, N.keep k⟩
end
section
set_option maxHeartbeats 2000000
variable {w : World} {mg mb : Str → Option Value} {g : Heap} {A : Around} {s : Shared} {Q E : Value → Shared → Prop} {h : Heap} {tk n : Nat}

variable {x : Str} {D : Addr} {here rest named chain hv : Value} {p : Int} {tp tx : Tok} {l : List Value} {n : Nat} {T : Tr} {i : Itm} {c : List Itm} {nm : List (Addr × Str)}
noncomputable def Itm.kind (i : Itm) : Str := i.casesOn Tr.kind fun _ _ => Str.ofString "end later"
theorem left_of {h h' : Heap} {v : Value} {r : Option Ty × Option (Option Ty)} (hD : h.get? D = some (listOf l.toArray n)) (k : h.StaysIn h') (o : OTy h' v r.1) (e : r.2 = none) : Left h h' D l n v r := by
  obtain ⟨r1, r2⟩ := r
  obtain rfl : r2 = none := e
  exact ⟨fun a o z _ => k a o z, o, k _ _ hD⟩
section
noncomputable abbrev mades : List Str := [Str.ofString "cat", Str.ofString "alt", Str.ofString "arbno", Str.ofString "later", Str.ofString "now"]
noncomputable abbrev steers : List Str := [Str.ofString "fence", Str.ofString "abort", Str.ofString "fail", Str.ofString "succeed"]
structure Knd (k : Str) (a b c : Bool) : Prop where
  made : (mades.any fun x => x == k) = a
  endl : (Txt.slice k none (some 4) == Str.ofString "end ") = b
  steer : (steers.any fun x => x == k) = c
  cur : (k == Str.ofString "cursor") = false
  del : (k == Str.ofString "delay") = false
  sz : k.length ≤ sizeLine
theorem Knd.of {k : Str} {a b c : Bool} (H : ((mades.any fun x => x == k) = a ∧ (Txt.slice k none (some 4) == Str.ofString "end ") = b ∧ (steers.any fun x => x == k) = c ∧ (k == Str.ofString "cursor") = false ∧ (k == Str.ofString "delay") = false ∧ k.length ≤ sizeLine)) : Knd k a b c := ⟨H.1, H.2.1, H.2.2.1, H.2.2.2.1, H.2.2.2.2.1, H.2.2.2.2.2⟩
inductive Four : Itm → Prop
  | made {T : Tr} : isMade (.node T) = true → Knd (Itm.node T).kind true false false → Four (.node T)
  | endl (r b) : Knd (Itm.endl r b).kind false true false → Four (.endl r b)
  | fail : Knd (Itm.node .fail).kind false false true → Four (.node .fail)
  | leaf {T : Tr} : okLf T → Knd (Itm.node T).kind false false false → Four (.node T)
theorem okIt.four {i : Itm} (ok : okIt i) : Four i := by
  cases i with
  | node T => cases T <;> first | exact ok.elim | exact .fail (.of (k := Str.ofString _) (by decide +kernel)) | exact .made rfl (.of (k := Str.ofString _) (by decide +kernel)) | exact .leaf ok (.of (k := Str.ofString _) (by decide +kernel))
  | endl => exact .endl _ _ (.of (k := Str.ofString _) (by decide +kernel))
end
theorem IsItm.head {h : Heap} {v : Value} {P : Prop} (I : IsItm h v i) (f : ∀ a t l, v = .ref a → IsTup h a (List.toArray (.str i.kind t :: l)) → P) : P := by
  cases i with
  | node T => exact IsTr.head I f
  | endl r b => exact (fun ⟨a, t, _, e, i⟩ => f a t _ e i) I
theorem c_advanced (G : Gl w mg mb g) (hk : g.StaysIn h) (R : Rm A 6) (C : IsCh h chain (i :: c)) (ok : okIt i) (N : IsNm h named nm) (hD : h.get? D = some (listOf l.toArray n) ∧ g.get? D = none) (hz : l.length ≤ 2 ^ 20) (hz2 : nm.length ≤ 2 ^ 20) (hx : x.length < 2 ^ 20) (h0 : 0 ≤ p)
   (ret : ∀ v h' tk', Left h h' D l n v (adv x i c p nm) → Q v (St s h' tk')) : wpAny (model pg w) A (call (.ref 722) [chain, .int p tp, named, .str x tx, .ref D, hv]) Q E (St s h tk) := by
  obtain ⟨ac, rfl⟩ := C.ref
  refine enterR [(D, listOf l.toArray n)] [some (.ref ac), some (.int p tp), some named, some (.str x tx), some (.ref D), some hv] G hk (by k_is) (by k_is) (by decide +kernel) R (BindsTo.of_eq (bind_plain rfl rfl rfl (by decide +kernel))) (by dsimp only; repeat (first | exact Bnd.nil | refine Bnd.cons ?_)) (mem_one hD) (nd_one) (by decide +kernel) ?_ (by rfl) (by rfl); intro B h L tk env A V G S hB hB' hL R; dsimp only at V S
  have kB : Tk _ B := tk_led hB (mem_one hD) (mem_one not_tup_list)
  have N := N.keep kB
  refine (C.keep kB).el fun here rest iac IB CB => ?_
  refine IB.head fun b t r e ib => ?_; subst e
  cases ok.four with
  | @made T hm K =>
    have e1 := K.made
    repeat' (walk_at "ms@33_1")
    have P := S.N _ (.head _)
    refine c_led_in (x := x) G S.stays (R.le (by decide)) (IsTr.keep (tk_of S) IB) hm (CB.keep (tk_of S)) (N.keep (tk_of S)) ⟨P.1, P.2.2⟩ hz fun v h' tk' hl => ?_
    have kS : Chg [D] _ _ := stayC S hB
    repeat' (walk_at "ms@33_1")
    exact ret v _ _ ⟨Chg.trans kS hl.1, hl.2⟩
  | endl r b K =>
    have e1 := K.made
    repeat' (walk_at "ms@33_1")
    refine o_sltos S K.sz (by with_unfolding_all exact rfl) (by intro _; with_unfolding_all exact rfl) ?_
    clear S; intro t2 h tk S
    have e2 := K.endl
    repeat' (walk_at "ms@33_1")
    have P := S.N _ (.head _)
    refine c_led_out G S.stays (R.le (by decide)) (IB.keep (tk_of S)) (CB.keep (tk_of S)) (N.keep (tk_of S)) hz2 hx fun v h' tk' k o => ?_
    have kS : Chg [D] _ _ := stayC S hB
    have lf := left_of (n := n) P.1 k o rfl
    repeat' (walk_at "ms@33_1")
    exact ret v _ _ ⟨Chg.trans kS lf.1, lf.2⟩
  | fail K =>
    have e1 := K.made
    repeat' (walk_at "ms@33_1")
    refine o_sltos S K.sz (by with_unfolding_all exact rfl) (by intro _; with_unfolding_all exact rfl) ?_
    clear S; intro t2 h tk S
    have e2 := K.endl
    have e3 := K.cur
    have e4 := K.del
    have e5 := K.steer
    repeat' (walk_at "ms@33_1")
    have P := S.N _ (.head _)
    refine c_steered G S.stays (R.le (by decide)) (c := c) ⟨ac, _, rest, rfl, S.inB iac, IsTr.keep (tk_of S) IB, CB.keep (tk_of S)⟩ fun h' tk' k => ?_
    have kS : Chg [D] _ _ := stayC S hB
    have lf := left_of (n := n) (l := l) (v := .none) (r := adv x (.node .fail) c p nm) P.1 k rfl rfl
    repeat' (walk_at "ms@33_1")
    exact ret _ _ _ ⟨Chg.trans kS lf.1, lf.2⟩
  | @leaf T okT K =>
    have e1 := K.made
    repeat' (walk_at "ms@33_1")
    refine o_sltos S K.sz (by with_unfolding_all exact rfl) (by intro _; with_unfolding_all exact rfl) ?_
    clear S; intro t2 h tk S
    have e2 := K.endl
    have e3 := K.cur
    have e4 := K.del
    have e5 := K.steer
    repeat' (walk_at "ms@33_1")
    have P := S.N _ (.head _)
    refine c_taken G S.stays (R.le (by decide)) (IsTr.keep (tk_of S) IB) okT (CB.keep (tk_of S)) (N.keep (tk_of S)) hx h0 fun v h' tk' k o => ?_
    have kS : Chg [D] _ _ := stayC S hB
    have lf := left_of (n := n) P.1 k o (by rw [okLf.adv okT])
    repeat' (walk_at "ms@33_1")
    exact ret v _ _ ⟨Chg.trans kS lf.1, lf.2⟩
end
section
set_option maxHeartbeats 2000000
variable {w : World} {mg mb : Str → Option Value} {g : Heap} {A : Around} {s : Shared} {Q E : Value → Shared → Prop} {h : Heap} {tk n : Nat}

theorem o_eqts {a : Addr} {l : Array Value} {y : Str} {u : Tok} {m : Nat} {Q : Value → Shared → Prop} (R : Rm A m) (ht : IsTup h a l) (k : Q (.bool false) (St s h tk)) : wpAny (model pg w) A (compareOp .Eq (.ref a) (.str y u)) Q E (St s h tk) :=
  SeqAt.RcAt.tuple_str y u (s := St s h tk) ht R.cl pg w E Q k
noncomputable def pusht (o : Option (Option Ty)) (ps : List (Option Ty)) : List (Option Ty) := match o with
  | none => ps
  | some y => y :: ps
inductive Tries (x : Str) : Nat → Ty → List (Option Ty) → Option (Int × List (Addr × Str)) → Prop
  | done {k p nm ps} : nm.length ≤ 2 ^ 18 → Tries x k ⟨[], p, nm⟩ ps (some (p, nm))
  | go {k i c p nm ps y' o r} : okIt i → 0 ≤ p → nm.length ≤ 2 ^ 18 → ps.length ≤ 2 ^ 18 → adv x i c p nm = (some y', o) → Tries x k y' (pusht o ps) r → Tries x (k + 1) ⟨i :: c, p, nm⟩ ps r
  | back0 {k i c p nm} : okIt i → 0 ≤ p → nm.length ≤ 2 ^ 18 → adv x i c p nm = (none, none) → Tries x (k + 1) ⟨i :: c, p, nm⟩ [] none
  | back {k i c p nm y' ps r} : okIt i → 0 ≤ p → nm.length ≤ 2 ^ 18 → ps.length ≤ 2 ^ 18 → adv x i c p nm = (none, none) → Tries x k y' ps r → Tries x (k + 1) ⟨i :: c, p, nm⟩ (some y' :: ps) r
inductive Aft (x : Str) (k : Nat) (ps : List (Option Ty)) (r : Option (Int × List (Addr × Str))) : Option Ty × Option (Option Ty) → Prop
  | go {y' o} : Tries x k y' (pusht o ps) r → Aft x k ps r (some y', o)
  | back0 : ps = [] → r = none → Aft x k ps r (none, none)
  | back (y' ps') : ps = some y' :: ps' → Tries x k y' ps' r → Aft x k ps r (none, none)
inductive Tri (x : Str) (K : Nat) (y : Ty) (ps : List (Option Ty)) (r : Option (Int × List (Addr × Str))) : Prop
  | done : y.ch = [] → r = some (y.at', y.nm) → y.nm.length ≤ 2 ^ 18 → Tri x K y ps r
  | step (k i c) : K = k + 1 → y.ch = i :: c → okIt i → 0 ≤ y.at' → y.nm.length ≤ 2 ^ 18 → ps.length ≤ 2 ^ 18 + 1 → Aft x k ps r (adv x i c y.at' y.nm) → Tri x K y ps r
theorem Tries.tri {x : Str} {K : Nat} {y : Ty} {ps : List (Option Ty)} {r} (H : Tries x K y ps r) : Tri x K y ps r := by
  cases H with
  | done h => exact .done rfl rfl h
  | go a b c d e f => exact .step _ _ _ rfl rfl a b c (Nat.le_succ_of_le d) (e ▸ .go f)
  | back0 a b c e => exact .step _ _ _ rfl rfl a b c (Nat.zero_le _) (e ▸ .back0 rfl rfl)
  | back a b c d e f => exact .step _ _ _ rfl rfl a b c (Nat.succ_le_succ d) (e ▸ .back _ _ rfl f)
theorem pil_inv {h : Heap} {l ys y} {P : Prop} (H : Pil h l (some y :: ys)) (f : ∀ l0 v, l = l0 ++ [v] → Pil h l0 ys → IsTy h v y → P) : P := by
  cases H with
  | some a b => exact f _ _ rfl a b
theorem Left.pil {h h' : Heap} {D : Addr} {l : List Value} {n : Nat} {v : Value} {y o} {ps} (H : Left h h' D l n v (y, o)) (P : Pil h' l ps) : ∃ l' n', h'.get? D = some (listOf l'.toArray n') ∧ Pil h' l' (pusht o ps) := by
  have m := H.2.2
  cases o with
  | none => exact ⟨_, _, m, P⟩
  | some o =>
    cases o with
    | none => obtain ⟨u, e⟩ := m; exact ⟨_, _, e, P.none⟩
    | some y => obtain ⟨u, i, e⟩ := m; exact ⟨_, _, e, P.some i⟩
inductive TrJ (w : World) (x : Str) (r : Option (Int × List (Addr × Str))) (lim b : Int) (v : Value) (hx dhx a0 : Addr) (tx tb h1 h2 h3 h4 h5 tl : Tok) (hv1 hv3 hv5 : Value) : Nat → List (Option Value) → List (Addr × Obj) → List Fact → Prop
  | on {K : Nat} {l : List Value} {y : Ty} {ps : List (Option Ty)} {cnt : Nat} {n' : Int} {tn' : Tok} {o1 o2 o3 o4 : Option Value} : Tries x K y ps r → n' + K ≤ lim → ps.length ≤ 2 ^ 18 → TrJ w x r lim b v hx dhx a0 tx tb h1 h2 h3 h4 h5 tl hv1 hv3 hv5 (K + 1) [some v, some (.str x tx), some (.int b tb), some (.ref hx), some (.ref a0), o1, o2, o3, o4] [(a0, listOf l.toArray cnt), (dhx, hob w h1 h2 h3 h4 h5 hv1 (.int lim tl) hv3 (.int n' tn') hv5)] [piF l (some y :: ps)]
  | off {l : List Value} {cnt : Nat} {n' : Int} {tn' : Tok} {o1 o2 o3 o4 : Option Value} : r = none → TrJ w x r lim b v hx dhx a0 tx tb h1 h2 h3 h4 h5 tl hv1 hv3 hv5 0 [some v, some (.str x tx), some (.int b tb), some (.ref hx), some (.ref a0), o1, o2, o3, o4] [(a0, listOf l.toArray cnt), (dhx, hob w h1 h2 h3 h4 h5 hv1 (.int lim tl) hv3 (.int n' tn') hv5)] [piF l []]
inductive TrI (w : World) (x : Str) (r : Option (Int × List (Addr × Str))) (lim b : Int) (v : Value) (hx dhx a0 : Addr) (tx tb h1 h2 h3 h4 h5 tl : Tok) (hv1 hv3 hv5 : Value) (K : Nat) : Nat → List (Option Value) → List (Addr × Obj) → List Fact → Prop
  | mk {M : Nat} {y : Ty} {ps : List (Option Ty)} {l : List Value} {cnt : Nat} {n' : Int} {tn' : Tok} {vw vc : Value} {tp : Tok} {vn : Value} : Tries x M y ps r → n' + M ≤ lim → M ≤ K → TrI w x r lim b v hx dhx a0 tx tb h1 h2 h3 h4 h5 tl hv1 hv3 hv5 K M [some v, some (.str x tx), some (.int b tb), some (.ref hx), some (.ref a0), some vw, some vc, some (.int y.at' tp), some vn] [(a0, listOf l.toArray cnt), (dhx, hob w h1 h2 h3 h4 h5 hv1 (.int lim tl) hv3 (.int n' tn') hv5)] [tnF vn y.nm, chF vc y.ch, piF l ps]
variable {x : Str} {v : Value} {hx dhx : Addr} {tx h1 h2 h3 h4 h5 tl tn tb : Tok} {hv1 hv3 hv5 : Value} {n lim b : Int} {T : Tr}
theorem c_tried {k : Nat} {r : Option (Int × List (Addr × Str))} (G : Gl w mg mb g) (hk : g.StaysIn h) (R : Rm A 8) (I : IsTr h v T) (hx20 : x.length < 2 ^ 20)
   (hhx : h.get? hx = some (instObj 295 dhx)) (hhd : h.get? dhx = some (hob w h1 h2 h3 h4 h5 hv1 (.int lim tl) hv3 (.int n tn) hv5) ∧ g.get? dhx = none) (hlim : n + k ≤ lim) (hk20 : k ≤ 2 ^ 19) (RN : Tries x k ⟨[.node T], b, []⟩ [] r)
   (met : ∀ e nm t u ra rl c h' tk', r = some (e, nm) → Chg [dhx] h h' → h.get? ra = none → IsTup h' t [.int e u, .ref ra].toArray → h'.get? ra = some (listOf rl.toArray c) → Rows h' rl nm → Q (.ref t) (St s h' tk'))
   (lost : r = none → ∀ h' tk', Chg [dhx] h h' → Q .none (St s h' tk')) : wpAny (model pg w) A (call (.ref 715) [v, .str x tx, .int b tb, .ref hx]) Q E (St s h tk) := by
  have n4 : hx ≠ dhx := ne_obj hhx hhd.1 ne_id
  obtain ⟨q0, rfl⟩ := I.ref
  refine enterR [(dhx, hob w h1 h2 h3 h4 h5 hv1 (.int lim tl) hv3 (.int n tn) hv5)] [some (.ref q0), some (.str x tx), some (.int b tb), some (.ref hx)] G hk (by k_is) (by k_is) (by decide +kernel) R (BindsTo.of_eq (bind_plain rfl rfl rfl (by decide +kernel))) (by dsimp only; repeat (first | exact Bnd.nil | refine Bnd.cons ?_)) (mem_one hhd) (nd_one) (by decide +kernel) ?_ (by rfl) (by rfl); intro B h L tk env A V G S hB hB' hL R; dsimp only at V S
  have kB : Tk _ B := tk_led hB (mem_one hhd) (mem_one not_tup_dict)
  have hhB := hB _ _ hhx (not_one n4)
  have IB := I.keep kB
  repeat' (walk_at "ms@34_1")
  (rename Sx _ _ _ _ _ _ _ => a); rename_i a0 _; (rename Sx _ _ _ _ _ _ _ => S)
  have t1 := S.inF .z
  have t2 := S.inF (.s .z)
  have t3 := S.inF (.s (.s .z))
  have S : Sx B L h _ [some (.ref q0), some (.str x tx), some (.int b tb), some (.ref hx), some (.ref a0), none, none, none, none] _ _ := S.pad 4
  have S := S.facts0.fact (piF [_] [some ⟨[.node T], b, []⟩]) (Pil.some Pil.nil ⟨_, _, _, _, rfl, t1, ⟨_, _, _, rfl, t3, IsTr.keep (tk_of S) IB, rfl⟩, ⟨_, _, rfl, t2, .nil⟩⟩)
  refine x_while (TrJ w x r lim b (.ref q0) hx dhx a0 tx tb h1 h2 h3 h4 h5 tl hv1 hv3 hv5) (k + 1) S (.on RN hlim (by simp)) po_no ?_
  intro N _ _ _ h tk J S
  cases J with
  | @on K l y ps cnt n' tn' o1 o2 o3 o4 H hlim' hyl =>
  · have hP : Pil h l (some y :: ps) := S.ft (piF l _) (.head _)
    refine pil_inv hP fun l0 vw zq2 hP0 hw => ?_; subst zq2
    have hll := hP.len
    simp only [List.length_append, List.length_cons, List.length_nil] at hll
    refine hw.el fun wa wc wt wn zq4 iw ic inm => ?_; clear hw; subst zq4
    have S := (((S.fact (piF l0 ps) hP0).fact (chF wc y.ch) ic).fact (tnF wn y.nm) inm).fact (tupF wa _) iw
    have hz2 : ((l0 ++ [Value.ref wa]).length : Int) < 2 ^ 63 := by simp only [List.length_append, List.length_cons, List.length_nil]; exact lin2 [_, _] [] (.nle (.V 0) (.W 2 18)) (.neq (.P (.V 1) (.P (.K 0) (.K 1))) (.P (.V 0) (.K 1))) (.ilt (.C (.P (.V 1) (.P (.K 0) (.K 1)))) (.W 2 63)) [[1, 1, 1]] hyl hll okT
    repeat' (walk_at "ms@34_1")
    refine it_dt (by simp) ?_
    repeat' (walk_at "ms@34_1")
    refine o_pop S .z (kl_last_snoc _ _) (by unfold sizeLine; simp only [List.length_append, List.length_cons, List.length_nil]; exact lin2 [_, _] [] (.nle (.V 0) (.W 2 18)) (.neq (.P (.V 1) (.P (.K 0) (.K 1))) (.P (.V 0) (.K 1))) (.nle (.P (.V 1) (.P (.K 0) (.K 1))) (.W 2 24)) [[1, 1, 1]] hyl hll okT) ?_
    clear S; intro h tk S
    repeat' (walk_at "ms@34_1")
    have S := S.facts (fs' := [tnF wn y.nm, chF wc y.ch, piF l0 ps]) (fun f hf => List.mem_cons_of_mem _ (List.mem_append_left [_] hf))
    refine x_while (TrI w x r lim b (.ref q0) hx dhx a0 tx tb h1 h2 h3 h4 h5 tl hv1 hv3 hv5 K) K S (.mk H hlim' (Nat.le_refl _)) po_no ?_
    intro M _ _ _ h tk J S
    cases J with | @mk y2 ps2 l2 cnt2 n2 tn2 vw vc tp vn H2 hlim2 hMK => ?_
    have hN : IsNm h vn y2.nm := S.ft (tnF vn y2.nm) (.head _)
    have hC : IsCh h vc y2.ch := S.ft (chF vc y2.ch) (.tail _ (.head _))
    have hP2 : Pil h l2 ps2 := S.ft (piF l2 ps2) (.tail _ (.tail _ (.head _)))
    have hl2 := hP2.len
    cases H2.tri with
    | done hch hr hnm =>
      obtain rfl : vc = .none := (show IsCh h vc [] from hch ▸ hC)
      refine hN.el fun na nl zq2 ni nr => ?_; clear hN; subst zq2
      have hnl := nr.len
      have S := (S.fact (rwF nl y2.nm) nr).fact (tupF na _) ni
      repeat' (walk_at "ms@34_1")
      refine o_listT S (S.inF (by walk_at "zm")) (by unfold sizeLine; exact lin2 [_, _] [] (.nle (.V 0) (.W 2 18)) (.neq (.V 1) (.V 0)) (.nle (.V 1) (.W 2 24)) [[1, 1, 1]] hnm hnl okT) ?_
      clear S; intro ra cr h tk S hra
      repeat' (walk_at "ms@34_1")
      refine lp_ret ?_
      repeat' (walk_at "ms@34_1")
      have fr := (freshC (led := [(dhx, hob w h1 h2 h3 h4 h5 hv1 (.int lim tl) hv3 (.int n tn) hv5)]) S hB .z (by
        have nd' := S.nd
        simp only [List.map_cons, List.nodup_cons, List.mem_cons, not_or, List.map_nil, List.not_mem_nil] at nd' ⊢
        exact ⟨nd'.1.2.1, not_false⟩)).1
      exact met y2.at' y2.nm _ _ ra nl cr _ _ hr (stayC S hB) fr (S.inF .z) (S.N _ (.head _)).1 (S.ft (rwF nl y2.nm) (by walk_at "zf"))
    | step k3 i3 c3 eM hch ok h0 hnm hps haf =>
      subst eM
      have hC : IsCh h vc (i3 :: c3) := hch ▸ hC
      obtain ⟨ca, rfl⟩ := hC.ref
      refine hC.el fun cu cm ic ii cc => ?_
      have S := (S.fact (chF (.ref ca) (i3 :: c3)) hC).fact (tupF ca _) ic
      repeat' (walk_at "ms@34_1")
      have P := S.N _ (.tail _ (.head _))
      refine c_step G S.stays (R.le (by decide)) (S.F.keep _ _ hhB) n4 ⟨P.1, P.2.2⟩ (by exact lin1 [k3] [n2, lim] (.ile (.P (.V 0) (.C (.P (.V 0) (.K 1)))) (.V 1)) (.ile (.P (.V 0) (.K 1)) (.V 1)) [[1, 1]] hlim2 okT) fun tn3 h' tk' ch e => ?_
      have S := S.chg (.s .z) not_tup_dict ch e
      repeat' (walk_at "ms@34_1")
      have Pa := S.N _ (.head _)
      refine c_advanced G S.stays (R.le (by decide)) (S.ft (chF (.ref ca) (i3 :: c3)) (by walk_at "zf")) ok (S.ft (tnF vn y2.nm) (by walk_at "zf")) ⟨Pa.1, Pa.2.2⟩ (by exact lin2 [_, _] [] (.neq (.V 0) (.V 1)) (.nle (.V 1) (.P (.W 2 18) (.K 1))) (.nle (.V 0) (.W 2 20)) [[1, 1, 1]] hl2 hps okT) (by exact lin1 [_] [] (.nle (.V 0) (.W 2 18)) (.nle (.V 0) (.W 2 20)) [[1, 1]] hnm okT) hx20 h0 fun vv h' tk' hl => ?_
      generalize adv x i3 c3 y2.at' y2.nm = z at hl haf
      cases haf with
      | @go y4 o4 H =>
        have hty : IsTy h' vv y4 := hl.2.1
        refine x2_2 (hl.pil (Pil.keep (chg_tk S (.head _) not_tup_list hl.1) (show Pil _ l2 ps2 from S.ft (piF l2 ps2) (by walk_at "zf")))) fun l5 n5 e5 P5 => ?_
        have S := S.chg .z not_tup_list hl.1 e5
        refine hty.el fun wa5 wc5 wt5 wn5 zq4 iw5 ic5 inm5 => ?_; clear hty; subst zq4
        have S := (((S.fact (piF l5 _) P5).fact (chF wc5 y4.ch) ic5).fact (tnF wn5 y4.nm) inm5).fact (tupF wa5 _) iw5
        repeat' (walk_at "ms@34_1")
        refine o_eqts R (S.inF (by walk_at "zm")) ?_
        repeat' (walk_at "ms@34_1")
        exact lp_next (m := k3) (by exact lin0 [k3] [] (.nlt (.V 0) (.P (.V 0) (.K 1))) [[1]]  okT) (S.facts3 (by walk_at "zm") (by walk_at "zm") (by walk_at "zm")) (.mk H (by exact lin1 [k3] [n2, lim] (.ile (.P (.V 0) (.C (.P (.V 0) (.K 1)))) (.V 1)) (.ile (.P (.P (.V 0) (.K 1)) (.C (.V 0))) (.V 1)) [[1, 1]] hlim2 okT) (by exact lin1 [k3, K] [] (.nle (.P (.V 0) (.K 1)) (.V 1)) (.nle (.V 0) (.V 1)) [[1, 1]] hMK okT))
      | back0 e0 er =>
        obtain rfl : vv = .none := hl.2.1
        have e5 : h'.get? a0 = some (listOf l2.toArray cnt2) := hl.2.2
        have S := S.chg .z not_tup_list hl.1 e5
        repeat' (walk_at "ms@34_1")
        refine lp_brk ?_
        repeat' (walk_at "ms@34_1")
        subst e0
        exact lp_next (m := 0) (by exact lin0 [K] [] (.nlt (.K 0) (.P (.V 0) (.K 1))) [[1]]  okT) (S.facts1 (by walk_at "zm")) (.off er)
      | back y4 ps4 e0 H =>
        obtain rfl : vv = .none := hl.2.1
        have e5 : h'.get? a0 = some (listOf l2.toArray cnt2) := hl.2.2
        have S := S.chg .z not_tup_list hl.1 e5
        repeat' (walk_at "ms@34_1")
        refine lp_brk ?_
        repeat' (walk_at "ms@34_1")
        subst e0
        exact lp_next (m := k3 + 1) (by exact lin1 [k3, K] [] (.nle (.P (.V 0) (.K 1)) (.V 1)) (.nlt (.P (.V 0) (.K 1)) (.P (.V 1) (.K 1))) [[1, 1]] hMK okT) (S.facts1 (by walk_at "zm")) (.on H (by exact lin1 [k3] [n2, lim] (.ile (.P (.V 0) (.C (.P (.V 0) (.K 1)))) (.V 1)) (.ile (.P (.P (.V 0) (.K 1)) (.C (.V 0))) (.V 1)) [[1, 1]] hlim2 okT) (Nat.le_of_succ_le_succ hps))
  | @off l cnt n' tn' o1 o2 o3 o4 hr =>
    obtain rfl : l = [] := List.length_eq_zero_iff.mp (S.ft (piF l []) (.head _) : Pil h l []).len
    have hz0 : (([] : List Value).length : Int) < 2 ^ 63 := by decide
    repeat' (walk_at "ms@34_1")
    exact lost hr _ _ (stayC S hB)
end
section
set_option maxHeartbeats 2000000
variable {w : World} {mg mb : Str → Option Value} {g : Heap} {A : Around} {s : Shared} {Q E : Value → Shared → Prop} {h : Heap} {tk n : Nat}

variable {x : Str} {v : Value} {hx dhx : Addr} {tx h1 h2 h3 h4 h5 tl tn tb : Tok} {hv1 hv3 hv5 : Value} {n lim b : Int} {T : Tr}
theorem c_match_at {k : Nat} {r : Option (Int × List (Addr × Str))} (G : Gl w mg mb g) (hk : g.StaysIn h) (R : Rm A 9) (I : IsTr h v T) (hx20 : x.length < 2 ^ 20)
   (hhx : h.get? hx = some (instObj 295 dhx)) (hhd : h.get? dhx = some (hob w h1 h2 h3 h4 h5 hv1 (.int lim tl) hv3 (.int n tn) hv5) ∧ g.get? dhx = none) (hlim : n + k ≤ lim) (hk20 : k ≤ 2 ^ 19) (RN : Tries x k ⟨[.node T], b, []⟩ [] r)
   (met : ∀ e nm t u1 u ra rl c h' tk', r = some (e, nm) → Chg [dhx] h h' → h.get? ra = none → IsTup h' t [.int b u1, .int e u, .ref ra].toArray → h'.get? ra = some (listOf rl.toArray c) → Rows h' rl nm → Q (.ref t) (St s h' tk'))
   (lost : r = none → ∀ h' tk', Chg [dhx] h h' → Q .none (St s h' tk')) : wpAny (model pg w) A (call (.ref 708) [v, .str x tx, .int b tb, .ref hx]) Q E (St s h tk) := by
  have n4 : hx ≠ dhx := ne_obj hhx hhd.1 ne_id
  refine enterR [(dhx, hob w h1 h2 h3 h4 h5 hv1 (.int lim tl) hv3 (.int n tn) hv5)] [some v, some (.str x tx), some (.int b tb), some (.ref hx)] G hk (by k_is) (by k_is) (by decide +kernel) R (BindsTo.of_eq (bind_plain rfl rfl rfl (by decide +kernel))) (by dsimp only; repeat (first | exact Bnd.nil | refine Bnd.cons ?_)) (mem_one hhd) (nd_one) (by decide +kernel) ?_ (by rfl) (by rfl); intro B h L tk env A V G S hB hB' hL R; dsimp only at V S
  have kB : Tk _ B := tk_led hB (mem_one hhd) (mem_one not_tup_dict)
  have hhB := hB _ _ hhx (not_one n4)
  have IB := I.keep kB
  repeat' (walk_at "ms@35_1")
  have P := S.N _ (.head _)
  have kS : Chg [dhx] _ _ := stayC S hB
  refine c_tried G S.stays (R.le (by decide)) (IB.keep (tk_of S)) hx20 (S.F.keep _ _ hhB) ⟨P.1, P.2.2⟩ hlim hk20 RN ?_ ?_
  · intro e nm t u ra rl c h' tk' hr ch er it hrl hrows
    refine x0_3 (S.new er) fun f1 f2 f3 => ?_
    have S := ((((S.lose (own := []) (chd := [_]) ch (mem_one not_tup_dict)).add hrl f1 f2 (by simp)).fact (tupF t _) it).fact (rwF rl nm) hrows)
    have er2 := none_chg (led := [(dhx, _)]) (fun p hp => by rw [List.mem_singleton.mp hp]; exact P.1) kS er
    repeat' (walk_at "ms@35_1")
    refine o_eqts R (S.inF (by walk_at "zm")) ?_
    repeat' (walk_at "ms@35_1")
    exact met e nm _ _ _ ra rl c _ _ hr (stayC S hB) er2 (S.inF .z) (S.N _ (.head _)).1 (S.ft (rwF rl nm) (by walk_at "zf"))
  · intro hr h' tk' ch
    have S := S.lose (own := []) (chd := [_]) ch (mem_one not_tup_dict)
    repeat' (walk_at "ms@35_1")
    exact lost hr _ _ (stayC S hB)
theorem c_match_plain {k : Nat} {r : Option (Int × List (Addr × Str))} (G : Gl w mg mb g) (hk : g.StaysIn h) (R : Rm A 10) (I : IsTr h v T) (hx20 : x.length < 2 ^ 20)
   (hhx : h.get? hx = some (instObj 295 dhx)) (hhd : h.get? dhx = some (hob w h1 h2 h3 h4 h5 hv1 (.int lim tl) hv3 (.int n tn) hv5) ∧ g.get? dhx = none) (hlim : n + k ≤ lim) (hk20 : k ≤ 2 ^ 19) (RN : Tries x k ⟨[.node T], 0, []⟩ [] r)
   (met : ∀ e nm t u1 u ra rl c h' tk', r = some (e, nm) → Chg [dhx] h h' → h.get? ra = none → IsTup h' t [.int 0 u1, .int e u, .ref ra].toArray → h'.get? ra = some (listOf rl.toArray c) → Rows h' rl nm → Q (.ref t) (St s h' tk'))
   (lost : r = none → ∀ h' tk', Chg [dhx] h h' → Q .none (St s h' tk')) : wpAny (model pg w) A (call (.ref 701) [v, .str x tx, .bool true, .ref hx]) Q E (St s h tk) := by
  have n4 : hx ≠ dhx := ne_obj hhx hhd.1 ne_id
  refine enterR [(dhx, hob w h1 h2 h3 h4 h5 hv1 (.int lim tl) hv3 (.int n tn) hv5)] [some v, some (.str x tx), some (.bool true), some (.ref hx)] G hk (by k_is) (by k_is) (by decide +kernel) R (BindsTo.of_eq (bind_plain rfl rfl rfl (by decide +kernel))) (by dsimp only; repeat (first | exact Bnd.nil | refine Bnd.cons ?_)) (mem_one hhd) (nd_one) (by decide +kernel) ?_ (by rfl) (by rfl); intro B h L tk env A V G S hB hB' hL R; dsimp only at V S
  have kB : Tk _ B := tk_led hB (mem_one hhd) (mem_one not_tup_dict)
  have hhB := hB _ _ hhx (not_one n4)
  have IB := I.keep kB
  refine m_cons ?_
  refine x_for (fun _ => rfl) ?_
  repeat' (walk_at "ms@35_2")
  refine o_range S ?_
  clear S; intro rg q1 q2 h tk S
  have S : Sx B L h _ [some v, some (.str x tx), some (.bool true), some (.ref hx), none, none] _ _ := S.pad 2
  refine x_for_range (n := 1) (fun i vs news fs => (i = 0 ∧ ∃ q, vs = [some v, some (.str x tx), some (.bool true), some (.ref hx), none, none] ∧ news = [(dhx, hob w h1 h2 h3 h4 h5 hv1 (.int lim tl) hv3 (.int n tn) hv5), q] ∧ fs = []) ∨ (i = 1 ∧ news = [] ∧ r = none)) V R.h (S.perm (List.Perm.swap _ _ _)) (by exact .s .z) (by decide) (.inl ⟨rfl, _, rfl, rfl, rfl⟩) po_no ?_ ?_
  · rintro i _ _ _ t hi (⟨rfl, q, rfl, rfl, rfl⟩ | ⟨rfl, _⟩)
    rotate_left
    · omega
    refine ⟨_, by walk_at "zs", fun h tk p S => ?_⟩
    repeat' (walk_at "ms@35_2")
    have P := S.N _ (.tail _ (.head _))
    have kS : Chg [dhx] _ _ := stayC S hB
    have S2 := S.perm (show List.Perm _ ([p, q] ++ [_]) from .cons _ (.swap _ _ _))
    refine c_match_at G S.stays (R.le (by decide)) (IB.keep (tk_of S)) hx20 (S.F.keep _ _ hhB) ⟨P.1, P.2.2⟩ hlim hk20 RN ?_ ?_
    · intro e nm t u1 u ra rl c h' tk' hr ch er it hrl hrows
      refine x0_3 (S2.new er) fun f1 f2 f3 => ?_
      have S := ((((S2.lose ch (mem_one not_tup_dict)).add hrl f1 f2 (by simp only [List.map_append, List.mem_append, not_or] at f3; exact f3.1)).fact (tupF t _) it).fact (rwF rl nm) hrows)
      have er2 := none_chg (led := [(dhx, _)]) (fun p hp => by rw [List.mem_singleton.mp hp]; exact P.1) kS er
      repeat' (walk_at "ms@35_2")
      refine o_eqts R (S.inF (by walk_at "zm")) ?_
      repeat' (walk_at "ms@35_2")
      refine lf_ret ?_
      repeat' (walk_at "ms@35_2")
      exact met e nm _ _ _ ra rl c _ _ hr (stayC S hB) er2 (S.inF (by first | exact .z | exact .s .z | exact .s (.s .z) | exact .s (.s (.s .z)) | exact .s (.s (.s (.s .z))) | exact .s (.s (.s (.s (.s .z)))) | exact .s (.s (.s (.s (.s (.s .z))))))) (S.N _ (.head _)).1 (S.ft (rwF rl nm) (by walk_at "zf"))
    · intro hr h' tk' ch
      have S := S2.lose ch (mem_one not_tup_dict)
      repeat' (walk_at "ms@35_2")
      exact lf_next (S.drop (news' := [p]) (.cons_cons _ (List.nil_sublist _))) (.inr ⟨rfl, rfl, hr⟩)
  · rintro _ _ _ h tk (⟨q, _⟩ | ⟨_, rfl, hr⟩) S
    · cases q
    repeat' (walk_at "ms@35_2")
    exact lost hr _ _ (stayC S hB)
end
section
set_option maxHeartbeats 2000000
variable {w : World} {mg mb : Str → Option Value} {g : Heap} {A : Around} {s : Shared} {Q E : Value → Shared → Prop} {h : Heap} {tk n : Nat}

noncomputable def Leaf (T : Tr) : Prop := T = .len 1 ∨ T = .chars (Str.ofString "a") ∨ T = .any (Str.ofString "ab")
inductive Wt : Tr → Prop
  | leaf {T} : Leaf T → Wt T
  | arb {a} : Wt a → Wt (.arb a)
  | lat {a r} : Wt a → Wt (.lat a r)
  | alt {a} : Wt a → Wt (.alt .fail a)
  | cat {a} : Wt a → Wt (.cat (.len 0) a)
noncomputable def sem (x : Str) (T : Tr) : Int → List (Addr × Str) → Option (Int × List (Addr × Str)) :=
  T.rec (fun p nm => (endOf x p .rem).map fun e => (e, nm)) (fun p nm => (endOf x p .fail).map fun e => (e, nm)) (fun i p nm => (endOf x p (.len i)).map fun e => (e, nm)) (fun y p nm => (endOf x p (.chars y)).map fun e => (e, nm)) (fun y p nm => (endOf x p (.any y)).map fun e => (e, nm)) (fun y p nm => (endOf x p (.brk y)).map fun e => (e, nm))
    (fun _ _ p nm => some (p, nm)) (fun _ r f p nm => (f p nm).map fun e => (e.1, e.2 ++ [(r, Txt.slice x (some p) (some e.1))])) (fun _ _ _ f => f) (fun _ _ _ f => f)
theorem smq : (∀ x a p nm, sem x (.arb a) p nm = some (p, nm)) ∧ (∀ x a r p nm, sem x (.lat a r) p nm = (sem x a p nm).map fun e => (e.1, e.2 ++ [(r, Txt.slice x (some p) (some e.1))])) ∧ (∀ x a b p nm, sem x (.alt a b) p nm = sem x b p nm) ∧ ∀ x a b p nm, sem x (.cat a b) p nm = sem x b p nm := ⟨fun _ _ _ _ => rfl, fun _ _ _ _ _ => rfl, fun _ _ _ _ _ => rfl, fun _ _ _ _ _ => rfl⟩
theorem Leaf.ok {T : Tr} (h : Leaf T) : okLf T := by
  rcases h with rfl | rfl | rfl
  · trivial
  · show (Str.ofString "a").length < 2 ^ 20; decide +kernel
  · show (Str.ofString "ab").length < 2 ^ 20; decide +kernel
theorem nn_a : Nn (.chars (Str.ofString "a")) := fun x e => by cases e; decide +kernel
theorem noJoin_of {pre post : List Tr} {X : Tr} (h1 : ∀ T ∈ pre, T.isChars = false) (h2 : ∀ T ∈ post, T.isChars = false) (h3 : X.isChars = true → Nn X) : NoJoin (pre ++ X :: post) := by
  intro i T e c
  by_cases hi : i < pre.length
  · rw [List.getElem?_append_left hi] at e
    have := h1 T (List.mem_of_getElem? e)
    rw [this] at c; cases c
  · rw [List.getElem?_append_right (by exact lin1 [i, _] [] (.no (.nlt (.V 0) (.V 1))) (.nle (.V 1) (.V 0)) [[1, 1]] hi okT)] at e
    cases hk : i - pre.length with
    | zero =>
      rw [hk] at e
      simp only [List.getElem?_cons_zero, Option.some.injEq] at e
      subst e
      refine ⟨h3 c, fun j U hj hu => ?_⟩
      rw [List.getElem?_append_left (by omega)] at hu
      exact h1 U (List.mem_of_getElem? hu)
    | succ m =>
      rw [hk] at e
      simp only [List.getElem?_cons_succ] at e
      have := h2 T (List.mem_of_getElem? e)
      rw [this] at c; cases c
theorem Wt.row {T : Tr} (h : Wt T) : ∃ pre X, rowC T = pre ++ [X] ∧ (∀ U ∈ pre, U.isChars = false) ∧ (X.isChars = true → Nn X) := by
  induction h with
  | leaf l =>
    rcases l with rfl | rfl | rfl
    · exact ⟨[], _, rfl, (fun _ h => nomatch h), (fun h => by cases h)⟩
    · refine ⟨[], _, rfl, (fun _ h => nomatch h), fun h => ?_⟩
      exact nn_a
    · exact ⟨[], _, rfl, (fun _ h => nomatch h), (fun h => by cases h)⟩
  | arb => exact ⟨[], _, rfl, (fun _ h => nomatch h), (fun h => by cases h)⟩
  | lat => exact ⟨[], _, rfl, (fun _ h => nomatch h), (fun h => by cases h)⟩
  | alt => exact ⟨[], _, rfl, (fun _ h => nomatch h), (fun h => by cases h)⟩
  | cat _ ih =>
    refine x2_3 ih ?_; (try clear ih); intro pre X e h1 h2
    refine ⟨.len 0 :: pre, X, by simp only [rcq]; rw [e]; rfl, fun U hU => ?_, h2⟩
    rcases List.mem_cons.mp hU with rfl | hU
    · rfl
    · exact h1 U hU
theorem Wt.sh {T : Tr} (h : Wt T) : Sh T := by
  induction h with
  | leaf l =>
    rcases l with rfl | rfl | rfl
    · trivial
    · exact ⟨nn_a, by decide +kernel⟩
    · show (Str.ofString "ab").length < 2 ^ 20; decide +kernel
  | arb _ ih => exact ih
  | lat _ ih => exact ih
  | alt _ ih => exact ⟨trivial, ih, rfl⟩
  | @cat a w ih =>
    refine x2_3 (w.row) fun pre X e h1 h2 => ?_
    refine ⟨trivial, ih, ?_⟩
    show NoJoin (rowC (.len 0) ++ rowC a)
    rw [e]
    exact noJoin_of (pre := .len 0 :: pre) (post := []) (fun U hU => by
      rcases List.mem_cons.mp hU with rfl | hU
      · rfl
      · exact h1 U hU) (fun _ h => nomatch h) h2
theorem Wt.shTop {T : Tr} (h : Wt T) : Sh (.cat T .rem) := by
  refine x2_3 (h.row) fun pre X e h1 h2 => ?_
  refine ⟨h.sh, trivial, ?_⟩
  show NoJoin (rowC T ++ rowC .rem)
  rw [e, List.append_assoc]
  exact noJoin_of (post := [.rem]) h1 (fun U hU => by rw [List.mem_singleton.mp hU]; rfl) h2
noncomputable def At (os : List Ord) (o : Nat) (l : List Ord) : Prop := ∀ i, i < l.length → os[o + i]? = l[i]?
theorem At.app {os : List Ord} {o : Nat} {l l2 : List Ord} (h : At os o (l ++ l2)) : At os o l ∧ At os (o + l.length) l2 := by
  refine ⟨fun i hi => ?_, fun i hi => ?_⟩
  · rw [h i (by simp; exact lin1 [i, _, _] [] (.nlt (.V 0) (.V 1)) (.nlt (.V 0) (.P (.V 1) (.V 2))) [[1, 1]] hi okT), List.getElem?_append_left hi]
  · rw [Nat.add_assoc, h (l.length + i) (by simp; exact lin1 [i, _] [] (.nlt (.V 0) (.V 1)) (.nlt (.V 0) (.V 1)) [[1, 1]] hi okT), List.getElem?_append_right (by exact lin0 [_, i] [] (.nle (.V 0) (.P (.V 0) (.V 1))) [[1]]  okT)]
    congr 1; omega
theorem At.hd {os : List Ord} {o : Nat} {z : Ord} {l : List Ord} (h : At os o (z :: l)) : os[o]? = some z ∧ At os (o + 1) l := by
  refine ⟨by have := h 0 (by simp); simpa using this, fun i hi => ?_⟩
  have := h (i + 1) (by simp; exact lin1 [i, _] [] (.nlt (.V 0) (.V 1)) (.nlt (.V 0) (.V 1)) [[1, 1]] hi okT)
  rw [show o + 1 + i = o + (i + 1) by exact lin0 [o, i] [] (.neq (.P (.P (.V 0) (.K 1)) (.V 1)) (.P (.V 0) (.P (.V 1) (.K 1)))) [[1], [1]]  okT, this]; rfl
noncomputable def Nj (os : List Ord) (n : Nat) : Prop := ∃ o, os[n]? = some o ∧ o.isJump = false
noncomputable def Gl1 (os : List Ord) (l : List Ord) : Prop := ∀ o ∈ l, ∀ n, o.goal = some n → Nj os n
theorem Gl1.app {os l l2 : List Ord} (h : Gl1 os l) (h2 : Gl1 os l2) : Gl1 os (l ++ l2) := fun o m => (List.mem_append.mp m).elim (h o) (h2 o)
theorem Gl1.one {os : List Ord} {o : Ord} (h : ∀ n, o.goal = some n → Nj os n) : Gl1 os [o] := fun o' m => by rw [List.mem_singleton.mp m]; exact h
theorem at_eq {os : List Ord} {i j : Nat} {v : Option Ord} (h : os[i]? = v) (e : j = i) : os[j]? = v := e ▸ h
theorem code_pos {T : Tr} (h : Wt T) : ∀ o, ∃ z l, code T o = z :: l ∧ z.isJump = false := by
  induction h with
  | leaf l => intro o; rcases l with rfl | rfl | rfl <;> exact ⟨_, _, rfl, rfl⟩
  | arb => intro o; exact ⟨_, _, rfl, rfl⟩
  | lat => intro o; exact ⟨_, _, rfl, rfl⟩
  | alt => intro o; exact ⟨_, _, rfl, rfl⟩
  | cat => intro o; exact ⟨_, _, rfl, rfl⟩
theorem Wt.nj {T : Tr} (h : Wt T) {os : List Ord} {o : Nat} (a : At os o (code T o)) : Nj os o := by
  refine x2_2 (code_pos h o) fun z l e hz => ?_
  rw [e] at a
  exact ⟨z, a.hd.1, hz⟩
theorem Wt.gl {T : Tr} (h : Wt T) {os : List Ord} : ∀ {o : Nat}, At os o (code T o) → Nj os (o + (code T o).length) → Gl1 os (code T o) := by
  induction h with
  | leaf l => intro o a e; rcases l with rfl | rfl | rfl <;> exact Gl1.one (fun _ h => nomatch h)
  | @arb b w ih =>
    intro o a e
    have e' : o + 3 + (code b (o + 3)).length + 2 = o + (code (.arb b) o).length := by simp [cdq]; exact lin0 [o, _] [] (.neq (.P (.P (.P (.V 0) (.K 3)) (.V 1)) (.K 2)) (.P (.V 0) (.P (.P (.P (.P (.V 1) (.K 2)) (.K 1)) (.K 1)) (.K 1)))) [[1], [1]]  okT
    rw [← e'] at e
    have q : code (.arb b) o = [.split (o + 2), .jump (o + 3 + (code b (o + 3)).length + 2), .mark] ++ code b (o + 3) ++ [.gain, .jump o] := rfl
    rw [q] at a ⊢
    refine x0_2 (a.app) fun a12 a3 => ?_
    refine x0_2 (a12.app) fun a1 a2 => ?_
    have s0 : Nj os o := ⟨_, a1.hd.1, rfl⟩
    have s2 : Nj os (o + 2) := ⟨.mark, a1.hd.2.hd.2.hd.1, rfl⟩
    have sg : Nj os (o + 3 + (code b (o + 3)).length) := ⟨.gain, at_eq a3.hd.1 (by simp; exact lin0 [o, _] [] (.neq (.P (.P (.V 0) (.K 3)) (.V 1)) (.P (.V 0) (.P (.P (.P (.V 1) (.K 1)) (.K 1)) (.K 1)))) [[1], [1]]  okT), rfl⟩
    refine Gl1.app (Gl1.app ?_ (ih a2 sg)) ?_
    · intro z hz n hn
      simp only [List.mem_cons, List.not_mem_nil, or_false] at hz
      rcases hz with rfl | rfl | rfl
      · cases hn; exact s2
      · cases hn; exact e
      · cases hn
    · intro z hz n hn
      simp only [List.mem_cons, List.not_mem_nil, or_false] at hz
      rcases hz with rfl | rfl
      · cases hn
      · cases hn; exact s0
  | @lat b r w ih =>
    intro o a e
    have q : code (.lat b r) o = [.mark] ++ code b (o + 1) ++ [.name r] := rfl
    rw [q] at a ⊢
    refine x0_2 (a.app) fun a12 a3 => ?_
    refine x0_2 (a12.app) fun a1 a2 => ?_
    have sg : Nj os (o + 1 + (code b (o + 1)).length) := ⟨.name r, at_eq a3.hd.1 (by simp; exact lin0 [o, _] [] (.neq (.P (.P (.V 0) (.K 1)) (.V 1)) (.P (.V 0) (.P (.V 1) (.K 1)))) [[1], [1]]  okT), rfl⟩
    exact Gl1.app (Gl1.app (Gl1.one (fun _ h => nomatch h)) (ih a2 sg)) (Gl1.one (fun _ h => nomatch h))
  | @alt b w ih =>
    intro o a e
    have q : code (.alt .fail b) o = [.split (o + 3), .fail, .jump (o + 3 + (code b (o + 3)).length)] ++ code b (o + 3) := rfl
    have e' : o + 3 + (code b (o + 3)).length = o + (code (.alt .fail b) o).length := by rw [q]; simp; exact lin0 [o, _] [] (.neq (.P (.P (.V 0) (.K 3)) (.V 1)) (.P (.V 0) (.P (.P (.P (.V 1) (.K 1)) (.K 1)) (.K 1)))) [[1], [1]]  okT
    rw [← e'] at e
    rw [q] at a ⊢
    refine x0_2 (a.app) fun a1 a2 => ?_
    refine Gl1.app ?_ (ih a2 e)
    intro z hz n hn
    simp only [List.mem_cons, List.not_mem_nil, or_false] at hz
    rcases hz with rfl | rfl | rfl
    · cases hn; exact w.nj a2
    · cases hn
    · cases hn; exact e
  | @cat b w ih =>
    intro o a e
    have q : code (.cat (.len 0) b) o = [.one (.len 0)] ++ code b (o + 1) := rfl
    have e' : o + 1 + (code b (o + 1)).length = o + (code (.cat (.len 0) b) o).length := by rw [q]; simp; exact lin0 [o, _] [] (.neq (.P (.P (.V 0) (.K 1)) (.V 1)) (.P (.V 0) (.P (.V 1) (.K 1)))) [[1], [1]]  okT
    rw [← e'] at e
    rw [q] at a ⊢
    refine x0_2 (a.app) fun a1 a2 => ?_
    exact Gl1.app (Gl1.one (fun _ h => nomatch h)) (ih a2 e)
noncomputable def ordsOf (T : Tr) : List Ord := code (.cat T .rem) 0 ++ [.done]
theorem at_self (l : List Ord) : At l 0 l := fun i _ => by rw [Nat.zero_add]
theorem ords_at (T : Tr) : At (ordsOf T) 0 (code T 0) ∧ (ordsOf T)[(code T 0).length]? = some (.one .rem) ∧ (ordsOf T)[(code T 0).length + 1]? = some .done := by
  have q : ordsOf T = code T 0 ++ [.one .rem, .done] := by
    show code T 0 ++ [.one .rem] ++ [.done] = _
    simp
  have a := at_self (ordsOf T)
  have h := a
  conv at h => arg 3; rw [q]
  refine x0_2 (h.app) fun a1 a2 => ?_
  refine ⟨a1, ?_, ?_⟩
  · have := a2.hd.1; simpa using this
  · have := a2.hd.2.hd.1; simpa using this
theorem Wt.strt {T : Tr} (h : Wt T) : Strt (ordsOf T) := by
  refine x0_3 (ords_at T) fun a1 a2 a3 => ?_
  have : Gl1 (ordsOf T) (ordsOf T) := by
    have g1 := h.gl a1 ⟨_, by rw [Nat.zero_add]; exact a2, rfl⟩
    have q : ordsOf T = code T 0 ++ [.one .rem, .done] := by
      show code T 0 ++ [.one .rem] ++ [.done] = _
      simp
    intro z hz
    have hz : z ∈ code T 0 ++ [.one .rem, .done] := q ▸ hz
    rcases List.mem_append.mp hz with hz | hz
    · exact g1 z hz
    · simp only [List.mem_cons, List.not_mem_nil, or_false] at hz
      rcases hz with rfl | rfl <;> exact fun _ h => nomatch h
  exact this

theorem Runs.up {os : List Ord} {x : Str} {k y hs r} (H : Runs os x k y hs r) : ∀ {k'}, k ≤ k' → Runs os x k' y hs r := by
  induction H with
  | done h => exact fun hk => Nat.sub_add_cancel (Nat.le_trans (Nat.succ_pos _) hk) ▸ .done h
  | go a b _ ih => exact fun hk => Nat.sub_add_cancel (Nat.le_trans (Nat.succ_pos _) hk) ▸ .go a b (ih (Nat.le_sub_of_add_le hk))
  | split a _ ih => exact fun hk => Nat.sub_add_cancel (Nat.le_trans (Nat.succ_pos _) hk) ▸ .split a (ih (Nat.le_sub_of_add_le hk))
  | back0 a b => exact fun hk => Nat.sub_add_cancel (Nat.le_trans (Nat.succ_pos _) hk) ▸ .back0 a b
  | back a b _ ih => exact fun hk => Nat.sub_add_cancel (Nat.le_trans (Nat.succ_pos _) hk) ▸ .back a b (ih (Nat.le_sub_of_add_le hk))
theorem ite_some {α : Type} {c : Prop} [Decidable c] {a e : α} {P : Prop} (h : (if c then some a else none) = some e) (k : c → a = e → P) : P := by
  by_cases q : c
  · rw [if_pos q] at h; exact k q (Option.some.inj h)
  · rw [if_neg q] at h; cases h
theorem endOf_pos {x : Str} {p e : Int} {T : Tr} (l : Leaf T) (h0 : 0 ≤ p) (h : endOf x p T = some e) : 0 ≤ e := by
  rcases l with rfl | rfl | rfl
  · exact ite_some h fun c q => by exact lin2 [] [p, e] (.ile (.K 0) (.V 0)) (.ieq (.P (.V 0) (.K 1)) (.V 1)) (.ile (.K 0) (.V 1)) [[1, 1, 1]] h0 q okT
  · exact ite_some h fun c q => by exact lin2 [_] [p, e] (.ile (.K 0) (.V 0)) (.ieq (.P (.V 0) (.C (.V 0))) (.V 1)) (.ile (.K 0) (.V 1)) [[1, 1, 1]] h0 q okT
  · exact ite_some h fun c q => by exact lin2 [] [p, e] (.ile (.K 0) (.V 0)) (.ieq (.P (.V 0) (.K 1)) (.V 1)) (.ile (.K 0) (.V 1)) [[1, 1, 1]] h0 q okT
theorem Leaf.code {T : Tr} (l : Leaf T) (o : Nat) : Mine.code T o = [.one T] := by rcases l with rfl | rfl | rfl <;> rfl
theorem Leaf.sem {T : Tr} (l : Leaf T) (x : Str) (p : Int) (nm) : Mine.sem x T p nm = (endOf x p T).map fun e => (e, nm) := by rcases l with rfl | rfl | rfl <;> rfl
theorem sem_bounds {x : Str} {T : Tr} (h : Wt T) : ∀ {p nm e nm'}, 0 ≤ p → sem x T p nm = some (e, nm') → 0 ≤ e ∧ nm'.length ≤ nm.length + T.size := by
  induction h with
  | leaf l =>
    intro p nm e nm' h0 h
    rw [l.sem] at h
    cases q : endOf x p _ with
    | none => rw [q] at h; cases h
    | some e2 => rw [q] at h; cases h; exact ⟨endOf_pos l h0 q, by exact lin0 [_, _] [] (.nle (.V 0) (.P (.V 0) (.V 1))) [[1]]  okT⟩
  | arb => intro p nm e nm' h0 h; cases h; exact ⟨h0, by exact lin0 [_, _] [] (.nle (.V 0) (.P (.V 0) (.V 1))) [[1]]  okT⟩
  | @lat a r _ ih =>
    intro p nm e nm' h0 h
    simp only [smq] at h
    cases q : sem x a p nm with
    | none => rw [q] at h; cases h
    | some e2 => rw [q] at h; cases h; have := ih h0 q; simp only [List.length_append, List.length_cons, List.length_nil, szq]; exact lin1 [_, _, _] [_] (.A (.ile (.K 0) (.V 0)) (.nle (.V 0) (.P (.V 1) (.V 2)))) (.A (.ile (.K 0) (.V 0)) (.nle (.P (.V 0) (.P (.K 0) (.K 1))) (.P (.V 1) (.P (.V 2) (.K 1))))) [[1, 1, 0], [1, 0, 1]] this okT
  | alt _ ih => intro p nm e nm' h0 h; have := ih h0 h; simp only [szq]; exact lin1 [_, _, _] [e] (.A (.ile (.K 0) (.V 0)) (.nle (.V 0) (.P (.V 1) (.V 2)))) (.A (.ile (.K 0) (.V 0)) (.nle (.V 0) (.P (.V 1) (.P (.P (.K 1) (.V 2)) (.K 1))))) [[1, 1, 0], [1, 0, 1]] this okT
  | cat _ ih => intro p nm e nm' h0 h; have := ih h0 h; simp only [szq]; exact lin1 [_, _, _] [e] (.A (.ile (.K 0) (.V 0)) (.nle (.V 0) (.P (.V 1) (.V 2)))) (.A (.ile (.K 0) (.V 0)) (.nle (.V 0) (.P (.V 1) (.P (.P (.K 1) (.V 2)) (.K 1))))) [[1, 1, 0], [1, 0, 1]] this okT
theorem Wt.runs {x : Str} {T : Tr} (h : Wt T) {os : List Ord} : ∀ {o : Nat} {p : Int} {nm ms}, At os o (code T o) → 0 ≤ p → p ≤ x.length →
    (sem x T p nm = none → Runs os x (3 * T.size) ⟨o, p, nm.reverse, ms⟩ [] none) ∧
    (∀ e nm' k r, sem x T p nm = some (e, nm') → (∀ hs, Runs os x k ⟨o + (code T o).length, e, nm'.reverse, ms⟩ hs r) → Runs os x (k + 3 * T.size) ⟨o, p, nm.reverse, ms⟩ [] r) := by
  induction h with
  | @leaf T l =>
    intro o p nm ms a h0 hp
    rw [l.code] at a ⊢
    rw [l.sem]
    have hs : T.size = 1 := by rcases l with rfl | rfl | rfl <;> rfl
    rw [hs]
    refine ⟨fun h => ?_, fun e nm' k r h hk => ?_⟩
    · cases q : endOf x p T with
      | none => exact .back0 a.hd.1 (.one l.ok q)
      | some e => rw [q] at h; cases h
    · cases q : endOf x p T with
      | none => rw [q] at h; cases h
      | some e => rw [q] at h; cases h; exact (Runs.go a.hd.1 (.hit l.ok q (endOf_pos l h0 q)) (hk [])).up (by exact lin0 [k] [] (.nle (.P (.V 0) (.K 1)) (.P (.V 0) (.M 3 (.K 1)))) [[1]]  okT)
  | @arb b w ih =>
    intro o p nm ms a h0 hp
    refine ⟨(fun h => by cases h), fun e nm' k r h hk => ?_⟩
    cases h
    have q : code (.arb b) o = [.split (o + 2), .jump (o + 3 + (code b (o + 3)).length + 2), .mark] ++ code b (o + 3) ++ [.gain, .jump o] := rfl
    rw [q] at a
    have a1 := a.app.1.app.1
    refine (Runs.split (k := k + 1) a1.hd.1 (.go a1.hd.2.hd.1 (.jump _) ?_)).up (by simp only [szq]; exact lin0 [k, _] [] (.nle (.P (.P (.V 0) (.K 1)) (.K 1)) (.P (.V 0) (.M 3 (.P (.V 1) (.K 1))))) [[1]]  okT)
    have := hk [⟨o + 2, p, nm.reverse, ms⟩]
    rw [show o + (code (.arb b) o).length = o + 3 + (code b (o + 3)).length + 2 by simp [cdq]; exact lin0 [o, _] [] (.neq (.P (.V 0) (.P (.P (.P (.P (.V 1) (.K 2)) (.K 1)) (.K 1)) (.K 1))) (.P (.P (.P (.V 0) (.K 3)) (.V 1)) (.K 2))) [[1], [1]]  okT] at this
    exact this
  | @lat b t w ih =>
    intro o p nm ms a h0 hp
    have q : code (.lat b t) o = [.mark] ++ code b (o + 1) ++ [.name t] := rfl
    rw [q] at a
    refine x0_2 (a.app) fun a12 a3 => ?_
    refine x0_2 (a12.app) fun a1 a2 => ?_
    have a3' : os[o + 1 + (code b (o + 1)).length]? = some (.name t) := at_eq a3.hd.1 (by simp; exact lin0 [o, _] [] (.neq (.P (.P (.V 0) (.K 1)) (.V 1)) (.P (.V 0) (.P (.V 1) (.K 1)))) [[1], [1]]  okT)
    refine x0_2 (ih (nm := nm) (ms := p :: ms) a2 h0 hp) fun i1 i2 => ?_
    simp only [smq, szq]
    refine ⟨fun h => ?_, fun e nm' k r h hk => ?_⟩
    · cases z : sem x b p nm with
      | none => exact (Runs.go a1.hd.1 .mark (i1 z)).up (by exact lin0 [_] [] (.nle (.P (.M 3 (.V 0)) (.K 1)) (.M 3 (.P (.V 0) (.K 1)))) [[1]]  okT)
      | some e => rw [z] at h; cases h
    · cases z : sem x b p nm with
      | none => rw [z] at h; cases h
      | some e2 =>
        obtain ⟨e2, n2⟩ := e2
        rw [z] at h
        cases h
        refine (Runs.go a1.hd.1 .mark (i2 e2 n2 (k + 1) r z fun hs => ?_)).up (by exact lin0 [k, _] [] (.nle (.P (.P (.P (.V 0) (.K 1)) (.M 3 (.V 1))) (.K 1)) (.P (.V 0) (.M 3 (.P (.V 1) (.K 1))))) [[1]]  okT)
        refine .go a3' (.name _ rfl) ?_
        have := hk hs
        rw [List.reverse_append] at this
        rw [show o + (code (.lat b t) o).length = o + 1 + (code b (o + 1)).length + 1 by simp [cdq]; exact lin0 [o, _] [] (.neq (.P (.V 0) (.P (.P (.V 1) (.K 1)) (.K 1))) (.P (.P (.P (.V 0) (.K 1)) (.V 1)) (.K 1))) [[1], [1]]  okT] at this
        exact this
  | @alt b w ih =>
    intro o p nm ms a h0 hp
    have q : code (.alt .fail b) o = [.split (o + 3), .fail, .jump (o + 3 + (code b (o + 3)).length)] ++ code b (o + 3) := rfl
    rw [q] at a
    refine x0_2 (a.app) fun a1 a2 => ?_
    refine x0_2 (ih (nm := nm) (ms := ms) a2 h0 hp) fun i1 i2 => ?_
    simp only [smq, szq]
    refine ⟨fun h => ?_, fun e nm' k r h hk => ?_⟩
    · exact (Runs.split a1.hd.1 (.back a1.hd.2.hd.1 .fail (i1 h))).up (by exact lin0 [_] [] (.nle (.P (.P (.M 3 (.V 0)) (.K 1)) (.K 1)) (.M 3 (.P (.P (.K 1) (.V 0)) (.K 1)))) [[1]]  okT)
    · refine (Runs.split a1.hd.1 (.back a1.hd.2.hd.1 .fail (i2 e nm' k r h fun hs => ?_))).up (by exact lin0 [k, _] [] (.nle (.P (.P (.P (.V 0) (.M 3 (.V 1))) (.K 1)) (.K 1)) (.P (.V 0) (.M 3 (.P (.P (.K 1) (.V 1)) (.K 1))))) [[1]]  okT)
      have := hk hs
      rw [show o + (code (.alt .fail b) o).length = o + 3 + (code b (o + 3)).length by rw [q]; simp; exact lin0 [o, _] [] (.neq (.P (.V 0) (.P (.P (.P (.V 1) (.K 1)) (.K 1)) (.K 1))) (.P (.P (.V 0) (.K 3)) (.V 1))) [[1], [1]]  okT] at this
      exact this
  | @cat b w ih =>
    intro o p nm ms a h0 hp
    have q : code (.cat (.len 0) b) o = [.one (.len 0)] ++ code b (o + 1) := rfl
    rw [q] at a
    refine x0_2 (a.app) fun a1 a2 => ?_
    refine x0_2 (ih (nm := nm) (ms := ms) a2 h0 hp) fun i1 i2 => ?_
    have z : endOf x p (.len 0) = some p := (if_pos (by exact lin1 [_] [p] (.ile (.V 0) (.C (.V 0))) (.ile (.P (.V 0) (.K 0)) (.C (.V 0))) [[1, 1]] hp okT)).trans (congrArg some (Int.add_zero p))
    simp only [smq, szq]
    refine ⟨fun h => ?_, fun e nm' k r h hk => ?_⟩
    · exact (Runs.go a1.hd.1 (.hit (show okLf (.len 0) from trivial) z h0) (i1 h)).up (by exact lin0 [_] [] (.nle (.P (.M 3 (.V 0)) (.K 1)) (.M 3 (.P (.P (.K 1) (.V 0)) (.K 1)))) [[1]]  okT)
    · refine (Runs.go a1.hd.1 (.hit (show okLf (.len 0) from trivial) z h0) (i2 e nm' k r h fun hs => ?_)).up (by exact lin0 [k, _] [] (.nle (.P (.P (.V 0) (.M 3 (.V 1))) (.K 1)) (.P (.V 0) (.M 3 (.P (.P (.K 1) (.V 1)) (.K 1))))) [[1]]  okT)
      have := hk hs
      rw [show o + (code (.cat (.len 0) b) o).length = o + 1 + (code b (o + 1)).length by rw [q]; simp; exact lin0 [o, _] [] (.neq (.P (.V 0) (.P (.V 1) (.K 1))) (.P (.P (.V 0) (.K 1)) (.V 1))) [[1], [1]]  okT] at this
      exact this
noncomputable def semTop (x : Str) (T : Tr) : Option (Int × List (Addr × Str)) := (sem x T 0 []).map fun e => ((x.length : Int), e.2)
theorem Wt.runsTop {x : Str} {T : Tr} (h : Wt T) : ∃ r : Option Wy, Runs (ordsOf T) x (3 * T.size + 2) ⟨0, 0, [], []⟩ [] r ∧ semTop x T = r.map (fun y => (y.at', y.named.reverse)) ∧ ∀ y, r = some y → y.named.length ≤ T.size := by
  refine x0_3 (ords_at T) fun a1 a2 a3 => ?_
  refine x0_2 (h.runs (x := x) (p := 0) (nm := []) (ms := []) a1 (Int.le_refl _) (by exact lin0 [_] [] (.ile (.K 0) (.C (.V 0))) [[1]]  okT)) fun i1 i2 => ?_
  cases z : sem x T 0 [] with
  | none => exact ⟨none, (i1 z).up (by exact lin0 [_] [] (.nle (.M 3 (.V 0)) (.P (.M 3 (.V 0)) (.K 2))) [[1]]  okT), by simp only [semTop, z]; rfl, fun y h => nomatch h⟩
  | some e =>
    obtain ⟨e, nm⟩ := e
    refine ⟨some ⟨0 + (code T 0).length + 1, x.length, nm.reverse, []⟩, (i2 e nm 2 _ z fun hs => ?_).up (by exact lin0 [_] [] (.nle (.P (.K 2) (.M 3 (.V 0))) (.P (.M 3 (.V 0)) (.K 2))) [[1]]  okT), by simp only [semTop, z]; simp, fun y hy => ?_⟩
    · refine Runs.go (at_eq a2 (by simp)) (.hit (e := x.length) (T := .rem) (show okLf .rem from trivial) rfl (by exact lin0 [_] [] (.ile (.K 0) (.C (.V 0))) [[1]]  okT)) (.done (at_eq a3 (by simp)))
    · cases hy; have := (sem_bounds h (Int.le_refl _) z).2; simpa using this
end
section
set_option maxHeartbeats 2000000
variable {w : World} {mg mb : Str → Option Value} {g : Heap} {A : Around} {s : Shared} {Q E : Value → Shared → Prop} {h : Heap} {tk n : Nat}

theorem Tries.up {x : Str} {k y ps r} (H : Tries x k y ps r) : ∀ {k'}, k ≤ k' → Tries x k' y ps r := by
  induction H with
  | done h => intro k' hk; exact .done h
  | go a b c d e _ ih => intro k' hk; obtain ⟨m, rfl⟩ : ∃ m, k' = m + 1 := ⟨k' - 1, pred_succ hk⟩; exact .go a b c d e (ih (by omega))
  | back0 a b c d => intro k' hk; obtain ⟨m, rfl⟩ : ∃ m, k' = m + 1 := ⟨k' - 1, pred_succ hk⟩; exact .back0 a b c d
  | back a b c d e _ ih => intro k' hk; obtain ⟨m, rfl⟩ : ∃ m, k' = m + 1 := ⟨k' - 1, pred_succ hk⟩; exact .back a b c d e (ih (by omega))
theorem Leaf.okIt {T : Tr} (l : Leaf T) : okIt (.node T) := by have q := l.ok; rcases l with rfl | rfl | rfl <;> exact q
theorem Leaf.adv {T : Tr} (l : Leaf T) (x c p nm) : Mine.adv x (.node T) c p nm = ((endOf x p T).map fun e => ⟨c, e, nm⟩, none) := by rcases l with rfl | rfl | rfl <;> rfl
theorem Wt.tries {x : Str} {T : Tr} (h : Wt T) : ∀ {p : Int} {nm c}, 0 ≤ p → p ≤ x.length → nm.length + T.size ≤ 2 ^ 18 →
    (sem x T p nm = none → Tries x (3 * T.size) ⟨.node T :: c, p, nm⟩ [] none) ∧
    (∀ e nm' k r, sem x T p nm = some (e, nm') → (∀ ps, ps.length ≤ 1 → Tries x k ⟨c, e, nm'⟩ ps r) → Tries x (k + 3 * T.size) ⟨.node T :: c, p, nm⟩ [] r) := by
  induction h with
  | @leaf T l =>
    intro p nm c h0 hp hn
    rw [l.sem]
    have hs : T.size = 1 := by rcases l with rfl | rfl | rfl <;> rfl
    rw [hs] at hn ⊢
    refine ⟨fun h => ?_, fun e nm' k r h hk => ?_⟩
    · cases q : endOf x p T with
      | none => exact .back0 l.okIt h0 (by exact lin1 [_] [] (.nle (.P (.V 0) (.K 1)) (.W 2 18)) (.nle (.V 0) (.W 2 18)) [[1, 1]] hn okT) (by rw [l.adv, q]; rfl)
      | some e => rw [q] at h; cases h
    · cases q : endOf x p T with
      | none => rw [q] at h; cases h
      | some e => rw [q] at h; cases h; exact (Tries.go (k := k) l.okIt h0 (by exact lin1 [_] [] (.nle (.P (.V 0) (.K 1)) (.W 2 18)) (.nle (.V 0) (.W 2 18)) [[1, 1]] hn okT) (by simp) (by rw [l.adv, q]; rfl) (hk [] (by simp))).up (by exact lin0 [k] [] (.nle (.P (.V 0) (.K 1)) (.P (.V 0) (.M 3 (.K 1)))) [[1]]  okT)
  | @arb b w ih =>
    intro p nm c h0 hp hn
    refine ⟨(fun h => by cases h), fun e nm' k r h hk => ?_⟩
    cases h
    simp only [szq] at hn
    exact (Tries.go (k := k) (by exact trivial) h0 (by exact lin1 [_, _] [] (.nle (.P (.V 0) (.P (.V 1) (.K 1))) (.W 2 18)) (.nle (.V 0) (.W 2 18)) [[1, 1]] hn okT) (by simp) rfl (hk [none] (by simp))).up (by simp only [szq]; exact lin0 [k, _] [] (.nle (.P (.V 0) (.K 1)) (.P (.V 0) (.M 3 (.P (.V 1) (.K 1))))) [[1]]  okT)
  | @lat b t w ih =>
    intro p nm c h0 hp hn
    simp only [szq] at hn
    refine x0_2 (ih (nm := nm) (c := .endl t p :: c) h0 hp (by exact lin1 [_, _] [] (.nle (.P (.V 0) (.P (.V 1) (.K 1))) (.W 2 18)) (.nle (.P (.V 0) (.V 1)) (.W 2 18)) [[1, 1]] hn okT)) fun i1 i2 => ?_
    simp only [smq, szq]
    refine ⟨fun h => ?_, fun e nm' k r h hk => ?_⟩
    · cases z : sem x b p nm with
      | none => exact (Tries.go (by exact trivial) h0 (by exact lin1 [_, _] [] (.nle (.P (.V 0) (.P (.V 1) (.K 1))) (.W 2 18)) (.nle (.V 0) (.W 2 18)) [[1, 1]] hn okT) (by simp) rfl (i1 z)).up (by exact lin0 [_] [] (.nle (.P (.M 3 (.V 0)) (.K 1)) (.M 3 (.P (.V 0) (.K 1)))) [[1]]  okT)
      | some e => rw [z] at h; cases h
    · cases z : sem x b p nm with
      | none => rw [z] at h; cases h
      | some e2 =>
        obtain ⟨e2, n2⟩ := e2
        rw [z] at h
        cases h
        refine x0_2 (sem_bounds w h0 z) fun he hl => ?_
        refine (Tries.go (by exact trivial) h0 (by exact lin1 [_, _] [] (.nle (.P (.V 0) (.P (.V 1) (.K 1))) (.W 2 18)) (.nle (.V 0) (.W 2 18)) [[1, 1]] hn okT) (by simp) rfl (i2 e2 n2 (k + 1) r z fun ps hps => ?_)).up (by exact lin0 [k, _] [] (.nle (.P (.P (.P (.V 0) (.K 1)) (.M 3 (.V 1))) (.K 1)) (.P (.V 0) (.M 3 (.P (.V 1) (.K 1))))) [[1]]  okT)
        exact .go (by exact trivial) he (by exact lin2 [_, _, _] [] (.nle (.P (.V 0) (.P (.V 1) (.K 1))) (.W 2 18)) (.nle (.V 2) (.P (.V 0) (.V 1))) (.nle (.V 2) (.W 2 18)) [[1, 1, 1]] hn hl okT) (by exact lin1 [_] [] (.nle (.V 0) (.K 1)) (.nle (.V 0) (.W 2 18)) [[1, 1]] hps okT) rfl (hk ps hps)
  | @alt b w ih =>
    intro p nm c h0 hp hn
    simp only [szq] at hn
    refine x0_2 (ih (nm := nm) (c := c) h0 hp (by exact lin1 [_, _] [] (.nle (.P (.V 0) (.P (.P (.K 1) (.V 1)) (.K 1))) (.W 2 18)) (.nle (.P (.V 0) (.V 1)) (.W 2 18)) [[1, 1]] hn okT)) fun i1 i2 => ?_
    simp only [smq, szq]
    refine ⟨fun h => ?_, fun e nm' k r h hk => ?_⟩
    · exact (Tries.go (by exact trivial) h0 (by exact lin1 [_, _] [] (.nle (.P (.V 0) (.P (.P (.K 1) (.V 1)) (.K 1))) (.W 2 18)) (.nle (.V 0) (.W 2 18)) [[1, 1]] hn okT) (by simp) rfl (.back (by exact trivial) h0 (by exact lin1 [_, _] [] (.nle (.P (.V 0) (.P (.P (.K 1) (.V 1)) (.K 1))) (.W 2 18)) (.nle (.V 0) (.W 2 18)) [[1, 1]] hn okT) (by simp) rfl (i1 h))).up (by exact lin0 [_] [] (.nle (.P (.P (.M 3 (.V 0)) (.K 1)) (.K 1)) (.M 3 (.P (.P (.K 1) (.V 0)) (.K 1)))) [[1]]  okT)
    · exact (Tries.go (by exact trivial) h0 (by exact lin1 [_, _] [] (.nle (.P (.V 0) (.P (.P (.K 1) (.V 1)) (.K 1))) (.W 2 18)) (.nle (.V 0) (.W 2 18)) [[1, 1]] hn okT) (by simp) rfl (.back (by exact trivial) h0 (by exact lin1 [_, _] [] (.nle (.P (.V 0) (.P (.P (.K 1) (.V 1)) (.K 1))) (.W 2 18)) (.nle (.V 0) (.W 2 18)) [[1, 1]] hn okT) (by simp) rfl (i2 e nm' k r h hk))).up (by exact lin0 [k, _] [] (.nle (.P (.P (.P (.V 0) (.M 3 (.V 1))) (.K 1)) (.K 1)) (.P (.V 0) (.M 3 (.P (.P (.K 1) (.V 1)) (.K 1))))) [[1]]  okT)
  | @cat b w ih =>
    intro p nm c h0 hp hn
    simp only [szq] at hn
    refine x0_2 (ih (nm := nm) (c := c) h0 hp (by exact lin1 [_, _] [] (.nle (.P (.V 0) (.P (.P (.K 1) (.V 1)) (.K 1))) (.W 2 18)) (.nle (.P (.V 0) (.V 1)) (.W 2 18)) [[1, 1]] hn okT)) fun i1 i2 => ?_
    have z : endOf x p (.len 0) = some p := (if_pos (by exact lin1 [_] [p] (.ile (.V 0) (.C (.V 0))) (.ile (.P (.V 0) (.K 0)) (.C (.V 0))) [[1, 1]] hp okT)).trans (congrArg some (Int.add_zero p))
    have z2 : adv x (.node (.len 0)) (.node b :: c) p nm = (some ⟨.node b :: c, p, nm⟩, none) := by show (((endOf x p (.len 0)).map fun e => (⟨.node b :: c, e, nm⟩ : Ty)), none) = _; rw [z]; rfl
    simp only [smq, szq]
    refine ⟨fun h => ?_, fun e nm' k r h hk => ?_⟩
    · exact (Tries.go (by exact trivial) h0 (by exact lin1 [_, _] [] (.nle (.P (.V 0) (.P (.P (.K 1) (.V 1)) (.K 1))) (.W 2 18)) (.nle (.V 0) (.W 2 18)) [[1, 1]] hn okT) (by simp) rfl (.go (by exact trivial) h0 (by exact lin1 [_, _] [] (.nle (.P (.V 0) (.P (.P (.K 1) (.V 1)) (.K 1))) (.W 2 18)) (.nle (.V 0) (.W 2 18)) [[1, 1]] hn okT) (by simp [pusht]) z2 (i1 h))).up (by exact lin0 [_] [] (.nle (.P (.P (.M 3 (.V 0)) (.K 1)) (.K 1)) (.M 3 (.P (.P (.K 1) (.V 0)) (.K 1)))) [[1]]  okT)
    · exact (Tries.go (by exact trivial) h0 (by exact lin1 [_, _] [] (.nle (.P (.V 0) (.P (.P (.K 1) (.V 1)) (.K 1))) (.W 2 18)) (.nle (.V 0) (.W 2 18)) [[1, 1]] hn okT) (by simp) rfl (.go (by exact trivial) h0 (by exact lin1 [_, _] [] (.nle (.P (.V 0) (.P (.P (.K 1) (.V 1)) (.K 1))) (.W 2 18)) (.nle (.V 0) (.W 2 18)) [[1, 1]] hn okT) (by simp [pusht]) z2 (i2 e nm' k r h hk))).up (by exact lin0 [k, _] [] (.nle (.P (.P (.P (.V 0) (.M 3 (.V 1))) (.K 1)) (.K 1)) (.P (.V 0) (.M 3 (.P (.P (.K 1) (.V 1)) (.K 1))))) [[1]]  okT)
theorem Wt.triesTop {x : Str} {T : Tr} (h : Wt T) (hs : T.size ≤ 2 ^ 17) : Tries x (3 * T.size + 2) ⟨[.node (.cat T .rem)], 0, []⟩ [] (semTop x T) := by
  obtain ⟨i1, i2⟩ := h.tries (x := x) (p := 0) (nm := []) (c := [.node .rem]) (Int.le_refl _) (by exact lin0 [_] [] (.ile (.K 0) (.C (.V 0))) [[1]]  okT) (by simp; exact lin1 [_] [] (.nle (.V 0) (.W 2 17)) (.nle (.V 0) (.K 262144)) [[1, 1]] hs okT)
  refine (Tries.go (k := 1 + 3 * T.size) (by exact trivial) (Int.le_refl _) (by simp) (by simp) rfl ?_).up (by exact lin0 [_] [] (.nle (.P (.P (.K 1) (.M 3 (.V 0))) (.K 1)) (.P (.M 3 (.V 0)) (.K 2))) [[1]]  okT)
  cases z : sem x T 0 [] with
  | none => rw [show semTop x T = none by simp only [semTop, z]; rfl]; exact (i1 z).up (by exact lin0 [_] [] (.nle (.M 3 (.V 0)) (.P (.K 1) (.M 3 (.V 0)))) [[1]]  okT)
  | some e =>
    obtain ⟨e, nm⟩ := e
    refine x0_2 (sem_bounds h (Int.le_refl _) z) fun he hl => ?_
    rw [show semTop x T = some ((x.length : Int), nm) by simp only [semTop, z]; rfl]
    refine i2 e nm 1 _ z fun ps hps => ?_
    simp only [List.length_nil] at hl
    exact .go (k := 0) (by exact trivial) he (by exact lin2 [_, _] [] (.nle (.V 0) (.W 2 17)) (.nle (.V 1) (.P (.K 0) (.V 0))) (.nle (.V 1) (.W 2 18)) [[1, 1, 1]] hs hl okT) (by exact lin1 [_] [] (.nle (.V 0) (.K 1)) (.nle (.V 0) (.W 2 18)) [[1, 1]] hps okT) rfl (.done (by exact lin2 [_, _] [] (.nle (.V 0) (.W 2 17)) (.nle (.V 1) (.P (.K 0) (.V 0))) (.nle (.V 1) (.W 2 18)) [[1, 1, 1]] hs hl okT))
end
section
set_option maxHeartbeats 2000000
variable {w : World} {mg mb : Str → Option Value} {g : Heap} {A : Around} {s : Shared} {Q E : Value → Shared → Prop} {h : Heap} {tk n : Nat}

section
variable {B : Heap} {env : Env} {L : Addr} {ns nsC : List (Str × NameKind)} {vs : List (Option Value)}
noncomputable def tgOk (t : Expr) : Prop := (∀ i v, letOwnedTupleGo t i v = pure ()) ∨ ∃ a b c, t = .Tuple a b c
theorem go_ok {t : Expr} (ht : tgOk t) {I l : Addr} {i : Nat} {s : Shared} {v : Value} {Q : Unit → Shared → Prop} {E : Value → Shared → Prop} (hi : s.heap.IsListIter I l i) (hQ : Q () s) : wpAny (model pg w) A (letOwnedTupleGo t (.ref I) v) Q E s := by
  rcases ht with e | ⟨a, b, c, rfl⟩
  · rw [e]; exact wpAny_pure hQ
  · cases v with
    | ref T => exact wpAny_letOwnedTupleGo_listiter hi hQ
    | _ => exact wpAny_pure hQ
theorem x_compL {elt target iter : Expr} {scope : Scope} {cl : List (Str × Addr)} {pos : Pos} {Q : Value → Shared → Prop} {l : Addr} {items : List Value} (J : Nat → List Value → List (Addr × Obj) → List Fact → Prop) (Kv : List (Option Value) → Prop) (kv : Nat)
    (V : Ev env ns L) (hh : A.handled = none) (ht : tgOk target) (hclos : closureFor scope env = pure cl) (hcell : ∀ y ∈ scope.names, y.2 ≠ .cell) (hnames : ∀ y ∈ scope.names, y.2 = .local → scope.names.lookup y.1 = some .local)
    (hrel : (relabel scope env).names = nsC) (hwf : wfS { scope with names := nsC } = true) (hkd : scope.kind = .function) (hsz : items.length ≤ sizeLine) (hKv : Kv (List.replicate kv none))
    (hl : ∀ i ys news fs, J i ys news fs → LsIn B news l items)
    (h : wpAny (model pg w) A (eval iter env) (CmL s B L ns vs (J 0 []) l) E s)
    (turn : ∀ i ys news fs v h tk p1 p2 p3 C vsC cenv, items[i]? = some v → J i ys news fs → Kv vsC → Ev cenv nsC C → cenv.cells = cl → Sx B C h nsC vsC (p1 :: p2 :: p3 :: news) fs →
      wpAny (model pg w) A (assign target cenv v) (fun _ s₂ => wpAny (model pg w) A (eval elt cenv) (fun y => CmE s B C nsC p1 p2 p3 Kv (J (i + 1) (ys ++ [y]))) (fun _ _ => False) s₂) (fun _ _ => False) (St s h tk))
    (done : ∀ ys news fs D c h tk, J items.length ys news fs → Sx B L h ns vs ((D, listOf ys.toArray c) :: news) fs → Q (.ref D) (St s h tk))
    (hs : ∀ x, foldedSetIterable iter env x = pure x) :
    wpAny (model pg w) A (eval (.ListComp elt [⟨target, iter, [], 0⟩] scope pos) env) Q E s := by
  refine x_comp (n := items.length) (P := fun i v => items[i]? = some v) (It := fun I i o => o.cls = .type "list_iterator" ∧ o.data = .fields #[.ref l, .int i 0]) (Ok := fun I h' => h'.IsList l items.toArray ∧ l ≠ I) J Kv kv V hclos hcell hnames hrel hwf hkd hsz hKv ?_ ?_ ?_ ?_ ?_ ?_ ?_ ?_ done hs
  · rintro I i o ⟨_, hd⟩
    exact ntup_int hd rfl
  · rintro I i o s v Q E ho ⟨hc, hd⟩ hQ
    exact go_ok ht ⟨o, ho, hc, hd⟩ hQ
  · rintro I o s Q E ho ⟨hc, hd⟩ hQ
    exact wpAny_pyIter_listiter ⟨o, ho, hc, hd⟩ hQ
  · rintro I i o s Q E hi ho ⟨hc, hd⟩ ⟨hL, hne⟩ hQ
    have hx : items.toArray[i]? = some items[i] := by simp [hi]
    refine wpAny_pyNext_list_item ⟨o, ho, hc, hd⟩ hL hx fun h' hit' hs' => ?_
    refine x1_3 hit' ?_; (try clear hit'); intro o' ho' hc' hd'
    exact hQ _ h' o' s.toks (by simp [hi]) ho' ⟨hc', hd'⟩ fun b x hb e => hs'.extBut b x hb e
  · rintro I o s Q E ho ⟨hc, hd⟩ ⟨hL, hne⟩ hQ
    exact wpAny_pyNext_list_end hh ⟨o, ho, hc, hd⟩ hL (by simp) fun h' he' => hQ h' s.toks fun b x hb e => he' b x hb e
  · intro I i ys news fs L' ns' vs' h' hJ S' hI hBI
    have hx := hl _ _ _ _ hJ
    refine ⟨hx.at0 S', fun q => ?_⟩
    rcases hx with ⟨n, m⟩ | ⟨o, e, r⟩
    · exact hI (List.mem_map.mpr ⟨_, m, q⟩)
    · rw [q, hBI] at e; cases e
  · refine wpAny_mono h (fun x s₁ h₁ => ?_) fun _ _ z => z
    cases h₁ with | @mk h tk news fs S h0 => ?_
    refine wpAny_pyIter_list (s := St s h tk) ((hl _ _ _ _ h0).at0 S) ?_
    exact .mk (S.push (a := h.objs.size) (o := { cls := .type "list_iterator", data := .fields #[.ref l, .int 0 0] }) (S.F.push _) (News.push S.F (S.all []) _ rfl) S.none_size) ⟨rfl, rfl⟩ h0
  · intro i ys news fs v h tk p1 p2 p3 C vsC cenv _ hv
    exact turn i ys news fs v h tk p1 p2 p3 C vsC cenv hv
end
theorem b_pow {t u : Tok} {Q : Value → Shared → Prop} (k : ∀ t' tk', Q (.int 1000000000 t') (St s h tk')) : wpAny (model pg w) A (binaryOp .Pow (.int 10 t) (.int 9 u)) Q E (St s h tk) :=
  AutoIntOps.pow_4 (s := St s h tk) (by decide) (by decide) (by decide) (by decide) (by decide +kernel) (k _ _)
inductive Krs (h : Heap) (kx : Str) : List Value → List Str → Prop
  | nil : Krs h kx [] []
  | cons {c t u y l ps} : IsTup h c [.str kx t, .str y u].toArray → Krs h kx l ps → Krs h kx (.ref c :: l) (y :: ps)
theorem Krs.keep {h h' : Heap} {kx : Str} (k : Tk h h') {l ps} (H : Krs h kx l ps) : Krs h' kx l ps := by
  induction H with
  | nil => exact .nil
  | cons i _ ih => exact .cons (k.tup i) ih
theorem Krs.snoc {h : Heap} {kx : Str} {l ps c t u y} (H : Krs h kx l ps) (i : IsTup h c [.str kx t, .str y u].toArray) : Krs h kx (l ++ [.ref c]) (ps ++ [y]) := by
  induction H with
  | nil => exact .cons i .nil
  | cons j _ ih => exact .cons j ih
theorem Krs.len {h : Heap} {kx : Str} {l ps} (H : Krs h kx l ps) : l.length = ps.length := by
  induction H with
  | nil => rfl
  | cons _ _ ih => simp [ih]
noncomputable def krF (kx : Str) (l : List Value) (ps : List Str) : Fact := ⟨fun h => Krs h kx l ps, fun _ _ k H => H.keep k⟩
theorem eqT {t1 t2 : Addr} {l1 l2 : List Value} {b : Bool} (i : IsTup h t1 l1.toArray) (j : IsTup h t2 l2.toArray) (hu : A.units < cLine) (hl : l1.length = l2.length) (he : ∀ k (h1 : k < l1.length) (h2 : k < l2.length), SeqAt.EqAt A.in1 (St s h tk) l1[k] l2[k] true) : SeqAt.EqAt A (St s h tk) (.ref t1) (.ref t2) true := by
  by_cases q : t1 = t2
  · rw [q]; exact .same _
  · have := SeqAt.RcAt.tuples (A := A) (s := St s h tk) (e := fun _ => true) i j hu (fun k h1 h2 => by simpa using he k (by simpa using h1) (by simpa using h2))
    simp only [List.size_toArray, hl, beq_self_eq_true, Bool.and_true] at this
    rw [show ((List.range (min l2.length l2.length)).all fun _ => true) = true by simp] at this
    exact .of_refs q this
theorem eqL {t1 t2 : Addr} {l1 l2 : List Value} (i : h.IsList t1 l1.toArray) (j : h.IsList t2 l2.toArray) (hu : A.units < cLine) (hl : l1.length = l2.length) (he : ∀ k (h1 : k < l1.length) (h2 : k < l2.length), SeqAt.EqAt A.in1 (St s h tk) l1[k] l2[k] true) : SeqAt.EqAt A (St s h tk) (.ref t1) (.ref t2) true := by
  by_cases q : t1 = t2
  · rw [q]; exact .same _
  · have := SeqAt.RcAt.lists (A := A) (s := St s h tk) (e := fun _ => true) i j (by simpa using hl) hu (fun k h1 h2 => by simpa using he k (by simpa using h1) (by simpa using h2))
    rw [show ((List.range l1.toArray.size).all fun _ => true) = true by simp] at this
    exact .of_refs q this
theorem krs_eq {kx : Str} {l1 : List Value} {ps} (H1 : Krs h kx l1 ps) (hu : A.units < cLine) : ∀ {l2}, Krs h kx l2 ps → ∀ k (h1 : k < l1.length) (h2 : k < l2.length), SeqAt.EqAt A (St s h tk) l1[k] l2[k] true := by
  induction H1 with
  | nil => intro l2 H2 k h1; cases h1
  | @cons c t u y l ps i H1 ih =>
    intro l2 H2 k h1 h2
    cases H2 with
    | cons j H2 =>
      cases k with
      | zero =>
        refine eqT (b := true) i j hu rfl fun k h1 h2 => ?_
        cases k with
        | zero => exact (beq_self_eq_true kx) ▸ SeqAt.EqAt.str_str (A := A.in1) (s := St s h tk) kx t kx _
        | succ k => cases k with
          | zero => exact (beq_self_eq_true y) ▸ SeqAt.EqAt.str_str (A := A.in1) (s := St s h tk) y u y _
          | succ k => exact absurd h1 (Nat.not_lt.mpr (Nat.le_add_left 2 k))
      | succ k => exact ih H2 k (by simpa using h1) (by simpa using h2)
noncomputable def Told2 (h : Heap) (kx : Str) (v : Value) : Option (Int × List Str) → Prop
  | none => v = .none
  | some (e, ps) => ∃ t u1 u2 D l, v = .ref t ∧ IsTup h t [.int 0 u1, .int e u2, .ref D].toArray ∧ h.IsList D l.toArray ∧ Krs h kx l ps
theorem told_eq {kx : Str} {v1 v2 : Value} {r m} {Q : Value → Shared → Prop} (R : Rm A m) (h1 : Told2 h kx v1 r) (h2 : Told2 h kx v2 r) (k : Q (.bool true) (St s h tk)) : wpAny (model pg w) A (compareOp .Eq v1 v2) Q E (St s h tk) := by
  have hu := R.u
  cases r with
  | none =>
    obtain rfl : v1 = .none := h1
    obtain rfl : v2 = .none := h2
    exact SeqAt.RcAt.none_none (A := A) (s := St s h tk) pg w E Q k
  | some r =>
    obtain ⟨e, ps⟩ := r
    refine x5_4 h1 ?_; (try clear h1); intro t u1 u2 D l zq5 i il kr; subst zq5
    refine x5_4 h2 ?_; (try clear h2); intro t' u1' u2' D' l' zq5 i' il' kr'; subst zq5
    refine o_eqs i i' R.cl (r := true) (.cons (b := true) ?_ (.cons (b := true) ?_ (.cons (b := true) ?_ .nil))) k
    · simpa using SeqAt.EqAt.int_int (A := A.in1) (s := St s h tk) 0 u1 0 u1'
    · simpa using SeqAt.EqAt.int_int (A := A.in1) (s := St s h tk) e u2 e u2'
    · refine eqL il il' R.cl1 (by rw [kr.len, kr'.len]) (krs_eq kr (show A.units + 1 + 1 < cLine by exact lin1 [_, m, PySem.cLine] [] (.nlt (.P (.P (.V 0) (.M 3 (.V 1))) (.K 100)) (.V 2)) (.nlt (.P (.P (.V 0) (.K 1)) (.K 1)) (.V 2)) [[1, 1]] hu okT) kr')
noncomputable def Tr.refs (r : Addr) : Tr → Prop
  | .lat a t => t = r ∧ a.refs r
  | .arb a => a.refs r
  | .alt _ b => b.refs r
  | .cat _ b => b.refs r
  | _ => True
theorem sem_refs {x : Str} {r : Addr} {T : Tr} (h : Wt T) (hr : T.refs r) : ∀ {p nm e nm'}, sem x T p nm = some (e, nm') → (∀ q ∈ nm, q.1 = r) → ∀ q ∈ nm', q.1 = r := by
  induction h with
  | leaf l =>
    intro p nm e nm' h hn
    rw [l.sem] at h
    cases q : endOf x p _ with
    | none => rw [q] at h; cases h
    | some e2 => rw [q] at h; cases h; exact hn
  | arb => intro p nm e nm' h hn; cases h; exact hn
  | @lat a t _ ih =>
    intro p nm e nm' h hn
    simp only [smq] at h
    cases q : sem x a p nm with
    | none => rw [q] at h; cases h
    | some e2 =>
      rw [q] at h; cases h
      intro z hz
      rcases List.mem_append.mp hz with hz | hz
      · exact ih hr.2 q hn z hz
      · rw [List.mem_singleton.mp hz]; exact hr.1
  | alt _ ih => intro p nm e nm' h; exact ih hr h
  | cat _ ih => intro p nm e nm' h; exact ih hr h
end
section
set_option maxHeartbeats 2000000
variable {w : World} {mg mb : Str → Option Value} {g : Heap} {A : Around} {s : Shared} {Q E : Value → Shared → Prop} {h : Heap} {tk n : Nat}

theorem Rows.at {h : Heap} {l : List Value} {ps : List (Addr × Str)} (H : Rows h l ps) : ∀ {i : Nat} {v : Value}, l[i]? = some v → ∃ c r y u, v = .ref c ∧ IsTup h c [.ref r, .str y u].toArray ∧ ps[i]? = some (r, y) := by
  induction H with
  | nil => intro i v e; simp at e
  | @cons c r y u l ps j _ ih =>
    intro i v e
    cases i with
    | zero => simp at e; exact ⟨c, r, y, u, e.symm, j, rfl⟩
    | succ i => simp at e; simpa using ih e
inductive Tells (kx : Str) (r : Option (Int × List Str)) : List Value → List (Addr × Obj) → List Fact → Prop
  | nil : Tells kx r [] [] []
  | no {l o f} : r = none → Tells kx r l o f → Tells kx r (l ++ [.none]) o f
  | yes {l o f e ps t u1 u2 D l' c} : r = some (e, ps) → Tells kx r l o f → Tells kx r (l ++ [.ref t]) ((D, listOf (List.toArray l') c) :: o) (tupF t #[.int 0 u1, .int e u2, .ref D] :: krF kx l' ps :: f)
theorem Tells.told {kx : Str} {r} {tl o f} (H : Tells kx r tl o f) {B : Heap} {L : Addr} {ns vs news fs} (S : Sx B L h ns vs news fs) (ho : ∀ p ∈ o, p ∈ news) (hf : ∀ q ∈ f, q ∈ fs) : ∀ v ∈ tl, Told2 h kx v r := by
  induction H with
  | nil => intro v hv; cases hv
  | no e H ih =>
    intro v hv
    rcases List.mem_append.mp hv with hv | hv
    · exact ih ho hf v hv
    · rw [List.mem_singleton.mp hv, e]; rfl
  | @yes l o f e ps t u1 u2 D l' c er H ih =>
    intro v hv
    rcases List.mem_append.mp hv with hv | hv
    · exact ih (fun p hp => ho p (.tail _ hp)) (fun q hq => hf q (.tail _ (.tail _ hq))) v hv
    · rw [List.mem_singleton.mp hv, er]
      exact ⟨t, u1, u2, D, l', rfl, S.ft _ (hf _ (.head _)), ⟨_, (S.N _ (ho _ (.head _))).1, rfl, c, rfl⟩, S.ft _ (hf _ (.tail _ (.head _)))⟩
theorem two_ways {b : Bool} {X Y : Sem Value} {Qp : Value → Shared → Prop} {s0 : Shared} {dhx : Addr} (r : Option (Int × List (Addr × Str)))
    (H1 : ∀ Qp : Value → Shared → Prop, (∀ e nm t u1 u2 ra rl c h' tk', r = some (e, nm) → Chg [dhx] h h' → h.get? ra = none → IsTup h' t [.int 0 u1, .int e u2, .ref ra].toArray → h'.get? ra = some (listOf (List.toArray rl) c) → Rows h' rl nm → Qp (.ref t) (St s h' tk')) → (r = none → ∀ h' tk', Chg [dhx] h h' → Qp .none (St s h' tk')) → wpAny (model pg w) A X Qp E s0)
    (H2 : ∀ Qp : Value → Shared → Prop, (∀ e nm t u1 u2 ra rl c h' tk', r = some (e, nm) → Chg [dhx] h h' → h.get? ra = none → IsTup h' t [.int 0 u1, .int e u2, .ref ra].toArray → h'.get? ra = some (listOf (List.toArray rl) c) → Rows h' rl nm → Qp (.ref t) (St s h' tk')) → (r = none → ∀ h' tk', Chg [dhx] h h' → Qp .none (St s h' tk')) → wpAny (model pg w) A Y Qp E s0)
    (KM : ∀ e nm t u1 u2 ra rl c h' tk', r = some (e, nm) → Chg [dhx] h h' → h.get? ra = none → IsTup h' t [.int 0 u1, .int e u2, .ref ra].toArray → h'.get? ra = some (listOf (List.toArray rl) c) → Rows h' rl nm → Qp (.ref t) (St s h' tk')) (KL : r = none → ∀ h' tk', Chg [dhx] h h' → Qp .none (St s h' tk')) :
    if b = true then wpAny (model pg w) A X Qp E s0 else wpAny (model pg w) A Y Qp E s0 := by
  cases b with
  | true => exact it_t (H1 Qp KM KL)
  | false => exact it_f (H2 Qp KM KL)
variable {x kx : Str} {v k1 k2 : Value} {r dr : Addr} {tx t1 t2 t3 tk3 : Tok} {T : Tr} {N : Nat}
theorem list_five {α : Type} {l : List α} (h : l.length = 5) : ∃ a b c d e, l = [a, b, c, d, e] := by
  obtain ⟨a, l0, e0, h0⟩ := list_cons h
  obtain ⟨b, l1, e1, h1⟩ := list_cons h0
  obtain ⟨c, d, e, e2⟩ := list_three h1
  exact ⟨a, b, c, d, e, by rw [e0, e1, e2]⟩
theorem list_two {α : Type} {l : List α} (h : l.length = 2) : ∃ a b, l = [a, b] := by
  obtain ⟨a, l0, e0, h0⟩ := list_cons h
  obtain ⟨b, l1, e1, h1⟩ := list_cons h0
  exact ⟨a, b, by rw [e0, e1, List.eq_nil_of_length_eq_zero h1]⟩
inductive CpJ (N : List (Addr × Obj)) (F : Nat → List Value → List Fact) (i : Nat) (ys : List Value) : List (Addr × Obj) → List Fact → Prop | mk : CpJ N F i ys N (F i ys)
inductive SmJ (kx : Str) (sr : Option (Int × List Str)) (v : Value) (x : Str) (tx : Tok) (to ta : Addr) (i : Nat) : List (Option Value) → List (Addr × Obj) → List Fact → Prop
  | mk {tl : List Value} {own : List (Addr × Obj)} {f : List Fact} {c : Nat} {o1 o2 o3 : Option Value} : tl.length = i → Tells kx sr tl own f → SmJ kx sr v x tx to ta i [some v, some (.str x tx), some (.ref to), o1, o2, o3] ((to, listOf tl.toArray c) :: own) (tupF ta [.bool true, .bool false].toArray :: f)
theorem c_law_same (G : Gl w mg mb g) (hk : g.StaysIn h) (R : Rm A (2 * N + 18)) (hN : T.size + 2 ≤ N) (hN2 : N ≤ 2 ^ 12) (I : IsTr h v (.cat T .rem)) (W : Wt T) (hx20 : x.length < 2 ^ 20) (hr : T.refs r) (Rf : RefAt w h r dr [t1, t2, t3] k1 k2 (.str kx tk3))
   (ret : ∀ h' tk', h.StaysIn h' → Q (.bool true) (St s h' tk')) : wpAny (model pg w) A (call (.ref 795) [v, .str x tx]) Q E (St s h tk) := by
  refine enterR [] [some v, some (.str x tx)] G hk (by k_is) (by k_is) (by decide +kernel) R (BindsTo.of_eq (bind_plain rfl rfl rfl (by decide +kernel))) (by dsimp only; repeat (first | exact Bnd.nil | refine Bnd.cons ?_)) (fun p hp => nomatch hp) List.nodup_nil (by decide +kernel) ?_ (by rfl) (by rfl); intro B h L tk env A V G S hB hB' hL R; dsimp only at V S
  have IB := I.keep (tk_base0 hB)
  have RfB : RefAt w B r dr [t1, t2, t3] k1 k2 (.str kx tk3) := ⟨hB _ _ Rf.inst (fun q => nomatch q), hB _ _ Rf.dict (fun q => nomatch q)⟩
  refine m_cons ?_
  repeat' (walk_at "ms@39_1")
  (rename Sx _ _ _ _ _ _ _ => a); rename_i to _; (rename Sx _ _ _ _ _ _ _ => S)
  refine x_for (fun _ => rfl) ?_
  repeat' (walk_at "ms@39_1")
  (rename Sx _ _ _ _ _ _ _ => a); rename_i ta; (rename Sx _ _ _ _ _ _ _ => S)
  have S : Sx B L h _ [some v, some (.str x tx), some (.ref to), none, none, none] _ _ := S.pad 3
  obtain ⟨sr, hsr⟩ : ∃ z : Option (Int × List Str), z = (semTop x T).map (fun q => (q.1, q.2.map (·.2))) := ⟨_, rfl⟩
  refine x_for_tup (items := [.bool true, .bool false]) (SmJ kx sr v x tx to ta) (fun _ _ => rfl) R.h S (.mk rfl .nil) po_no ?_ ?_ ?_
  · intro i _ _ _ h J S
    cases J
    exact S.inF .z
  · intro i _ _ _ z h tk p hz J S
    cases J with | @mk tl own f c o1 o2 o3 hi ht => ?_
    obtain ⟨b, rfl⟩ : ∃ b, z = .bool b := mem_two (P := fun z => ∃ b, z = Value.bool b) ⟨_, rfl⟩ ⟨_, rfl⟩ z (List.mem_of_getElem? hz)
    have hi2 : i < 2 := (List.getElem?_eq_some_iff.mp hz).1
    repeat' (walk_at "ms@39_1")
    refine b_pow fun t4 tk => ?_
    repeat' (walk_at "ms@39_1")
    refine c_PlainHost G S.stays (R.le (by exact lin0 [N] [] (.nle (.K 2) (.P (.M 2 (.V 0)) (.K 17))) [[1]]  okT)) fun hx dhx ts lg th h tk k ne n1 n2 hts PH => ?_
    obtain ⟨g1, g2, g3, g4, g5, rfl⟩ := list_five hts
    have S := S.gotI k ne n1 n2 PH
    repeat' (walk_at "ms@39_1")
    have Px := S.N _ (.head _)
    have Pd := S.N _ (.tail _ (.head _))
    have Pt := S.N (to, listOf tl.toArray c) (Inn.mem (by walk_at "zm"))
    have Ik := IB.keep (tk_of S)
    have h17 : T.size ≤ 2 ^ 17 := by exact lin2 [_, N] [] (.nle (.P (.V 0) (.K 2)) (.V 1)) (.nle (.V 1) (.W 2 12)) (.nle (.V 0) (.W 2 17)) [[1, 1, 1]] hN hN2 okT
    have S2 : Sx B L h _ _ ((p :: (to, listOf tl.toArray c) :: own) ++ [(dhx, hob w g1 g2 g3 g4 g5 (.ref _) (.int 1000000000 t4) (.ref _) (.int 0 th) (.ref lg))]) _ := (S.drop (news' := (dhx, _) :: p :: (to, listOf tl.toArray c) :: own) (.cons _ (.cons_cons _ (.cons _ (.cons _ (List.Sublist.refl _)))))).perm (List.perm_append_comm (l₁ := [_]))
    refine two_ways (h := h) (s := s) (dhx := dhx) (semTop x T) ?_ ?_ ?_ ?_
    · intro Qp KM KL
      repeat' (walk_at "ms@39_1")
      refine x1_3 (W.runsTop (x := x)) fun r2 RN e2 hnm => ?_
      refine c_match_compiled (T := .cat T .rem) (N := N) G S.stays (R.le (by exact lin0 [N] [] (.nle (.P (.M 2 (.V 0)) (.K 16)) (.P (.M 2 (.V 0)) (.K 17))) [[1]]  okT)) (by simp only [szq]; exact lin1 [_, N] [] (.nle (.P (.V 0) (.K 2)) (.V 1)) (.nle (.P (.P (.V 0) (.K 1)) (.K 1)) (.V 1)) [[1, 1]] hN okT) Ik W.shTop W.strt (by simp only [szq]; exact lin2 [_, N] [] (.nle (.P (.V 0) (.K 2)) (.V 1)) (.nle (.V 1) (.W 2 12)) (.nle (.M 5 (.P (.P (.V 0) (.K 1)) (.K 1))) (.W 2 17)) [[1, 5, 5]] hN hN2 okT) hx20 Px.1 ⟨Pd.1, Pd.2.2⟩ (by exact lin1 [_] [] (.nle (.V 0) (.W 2 17)) (.ile (.P (.K 0) (.C (.P (.M 3 (.V 0)) (.K 2)))) (.K 1000000000)) [[1, 3]] h17 okT) (by exact lin1 [_] [] (.nle (.V 0) (.W 2 17)) (.nle (.P (.M 3 (.V 0)) (.K 2)) (.W 2 20)) [[1, 3]] h17 okT) RN (fun y hy => by have := hnm y hy; exact lin2 [_, _] [] (.nle (.V 0) (.W 2 17)) (.nle (.V 1) (.V 0)) (.nle (.V 1) (.W 2 20)) [[1, 1, 1]] h17 this okT) ?_ ?_
      · intro y t u1 u2 ra rl c h' tk' hr2 ch er it hrl hrows
        exact KM _ _ _ _ _ _ _ _ _ _ (by rw [e2, hr2]; rfl) ch er it hrl hrows
      · intro hr2 h' tk' ch
        exact KL (by rw [e2, hr2]; rfl) _ _ ch
    · intro Qp KM KL
      repeat' (walk_at "ms@39_1")
      refine c_match_plain (T := .cat T .rem) G S.stays (R.le (by exact lin0 [N] [] (.nle (.K 10) (.P (.M 2 (.V 0)) (.K 17))) [[1]]  okT)) Ik hx20 Px.1 ⟨Pd.1, Pd.2.2⟩ (by exact lin1 [_] [] (.nle (.V 0) (.W 2 17)) (.ile (.P (.K 0) (.C (.P (.M 3 (.V 0)) (.K 2)))) (.K 1000000000)) [[1, 3]] h17 okT) (by exact lin1 [_] [] (.nle (.V 0) (.W 2 17)) (.nle (.P (.M 3 (.V 0)) (.K 2)) (.W 2 19)) [[1, 3]] h17 okT) (W.triesTop (x := x) h17) ?_ ?_
      · intro e nm t u1 u2 ra rl c h' tk' hr2 ch er it hrl hrows
        exact KM _ _ _ _ _ _ _ _ _ _ hr2 ch er it hrl hrows
      · intro hr2 h' tk' ch
        exact KL hr2 _ _ ch
    · intro e nm t u1 u2 ra rl c5 h' tk' he ch er it hrl hrows
      refine x0_3 (S2.new er) fun f1 f2 f3 => ?_
      have S := ((((S2.lose ch (mem_one not_tup_dict)).add hrl f1 f2 (by simp only [List.map_append, List.mem_append, not_or] at f3; exact f3.1)).fact (tupF t _) it).fact (rwF rl nm) hrows)
      clear S2
      repeat' (walk_at "ms@39_1")
      have hnr : rl.length = nm.length := hrows.len
      have hnl : nm.length ≤ 2 ^ 18 := by
        refine x1_3 (W.runsTop (x := x)) fun r2 RN e2 hnm => ?_
        rw [e2] at he
        cases r2 with
        | none => cases he
        | some y => cases he; have := hnm y rfl; rw [List.length_reverse]; exact lin2 [_, _] [] (.nle (.V 0) (.W 2 17)) (.nle (.V 1) (.V 0)) (.nle (.V 1) (.W 2 18)) [[1, 1, 1]] h17 this okT
      have hrf : ∀ q ∈ nm, q.1 = r := by
        cases z : sem x T 0 [] with
        | none => simp only [semTop, z] at he; cases he
        | some e3 =>
          obtain ⟨e3, n3⟩ := e3
          simp only [semTop, z] at he
          cases he
          exact sem_refs W hr z (fun q hq => nomatch hq)
      refine x_compL (cl := []) (B := B) (vs := [some v, some (.str x tx), some (.ref to), some (.bool b), some (.ref hx), some (.ref t)]) (l := ra) (items := rl) (nsC := [(Str.ofString ".0", .local), (Str.ofString "one", .local), (Str.ofString "text", .local)]) (CpJ ((ra, listOf rl.toArray c5) :: p :: (to, listOf tl.toArray c) :: own) (fun i ys => krF kx ys ((nm.take i).map (·.2)) :: rwF rl nm :: tupF t #[.int 0 u1, .int e u2, .ref ra] :: tupF ta #[.bool true, .bool false] :: f)) (fun vsC => ∃ a b c, vsC = [a, b, c]) 3 V R.h (.inr ⟨_, _, _, rfl⟩) ?c1 (by decide) (by decide) ?c2 (by decide +kernel) rfl (by unfold sizeLine; omega) ⟨_, _, _, rfl⟩ ?c3 ?c4 ?c5 ?c6 (by intro _; rfl)
      case c1 => rfl
      case c2 => rfl
      case c3 =>
        intro i ys _ _ J
        cases J
        exact .inl ⟨_, .head _⟩
      case c4 =>
        repeat' (walk_at "ms@39_1")
        exact .mk (S.fact (krF kx [] []) .nil) .mk
      case c5 =>
        intro i ys _ _ z h tk p1 p2 p3 C vsC cenv hz J K V _ S
        obtain ⟨a1, a2, a3, rfl⟩ := K
        cases J
        refine x4_3 ((show Rows h rl nm from S.ft (rwF rl nm) (.tail _ (.head _))).at hz) fun c2 r2 y2 u5 zq4 it2 hn2 => ?_; subst zq4
        obtain rfl : r2 = r := hrf _ (List.mem_of_getElem? hn2)
        have S := S.fact (tupF c2 _) it2
        repeat' (walk_at "ms@39_1")
        have hk2 := (show Krs _ kx ys _ from S.ft (krF kx ys ((nm.take i).map (·.2))) (by walk_at "zf")).snoc (S.inF .z)
        have S := (S.facts (fs' := rwF rl nm :: tupF t #[.int 0 u1, .int e u2, .ref ra] :: tupF ta #[.bool true, .bool false] :: f) (fun q hq => .tail _ (.tail _ (.tail _ hq)))).fact (krF kx _ _) hk2
        have e9 : (nm.take (i + 1)).map (·.2) = (nm.take i).map (·.2) ++ [y2] := by rw [List.take_add_one, hn2, List.map_append]; rfl
        rw [← e9] at S
        exact .mk S ⟨_, _, _, rfl⟩ .mk
      case c6 =>
        intro ys _ _ D cD h tk J S
        cases J
        rw [hnr, List.take_length] at S
        have er : sr = some (e, nm.map (·.2)) := by rw [hsr, he]; rfl
        repeat' (walk_at "ms@39_1")
        refine o_append S (.s (.s (.s .z))) rfl (by unfold sizeLine; exact lin2 [_, i] [] (.neq (.V 0) (.V 1)) (.nlt (.V 1) (.K 2)) (.nle (.V 0) (.W 2 24)) [[1, 1, 1]] hi hi2 okT) ?_
        clear S; intro h tk S
        repeat' (walk_at "ms@39_1")
        have S := (S.drop (news' := (D, listOf ys.toArray cD) :: p :: (to, listOf (tl ++ [Value.ref a]).toArray (c + 1)) :: own) (.cons_cons _ (.cons _ (List.Sublist.refl _)))).perm ((List.Perm.swap _ _ _).trans (.cons _ (List.Perm.swap _ _ _)))
        have S := S.facts (fs' := tupF ta #[.bool true, .bool false] :: tupF a #[.int 0 u1, .int e u2, .ref D] :: krF kx ys (nm.map (·.2)) :: f) (fun q hq => by
          simp only [List.mem_cons] at hq ⊢
          rcases hq with hq | hq | hq | hq
          · exact .inr (.inr (.inr (.inr (.inl hq))))
          · exact .inl hq
          · exact .inr (.inl hq)
          · exact .inr (.inr (.inr (.inr (.inr hq)))))
        exact lf_next S (.mk (by rw [List.length_append, hi]; rfl) (.yes er ht))
    · intro he h' tk' ch
      have S := S2.lose ch (mem_one not_tup_dict)
      have er : sr = none := by rw [hsr, he]; rfl
      repeat' (walk_at "ms@39_1")
      refine o_append S (.s .z) rfl (by unfold sizeLine; exact lin2 [_, i] [] (.neq (.V 0) (.V 1)) (.nlt (.V 1) (.K 2)) (.nle (.V 0) (.W 2 24)) [[1, 1, 1]] hi hi2 okT) ?_
      clear S; intro h tk S
      repeat' (walk_at "ms@39_1")
      exact lf_next S (.mk (by rw [List.length_append, hi]; rfl) (.no er ht))
  · intro _ _ _ h tk J S
    cases J with | @mk tl own f c o1 o2 o3 hi ht => ?_
    obtain ⟨v1, v2, rfl⟩ := list_two hi
    have td := ht.told S (fun p hp => .tail _ hp) (fun q hq => .tail _ hq)
    repeat' (walk_at "ms@39_1")
    refine told_eq R (td _ (.head _)) (td _ (.tail _ (.head _))) ?_
    repeat' (walk_at "ms@39_1")
    exact ret _ _ (stay S hB)
end
section
set_option maxHeartbeats 2000000
variable {w : World} {mg mb : Str → Option Value} {g : Heap} {A : Around} {s : Shared} {Q E : Value → Shared → Prop} {h : Heap} {tk n : Nat}

theorem Sx.put {B h h' : Heap} {L D : Addr} {ns : List (Str × NameKind)} {vs : List (Option Value)} {own FX FX2 : List (Addr × Obj)} {fs : List Fact} {oL o o' : Obj} {l : List Env} (S : Sx B L h ns vs (((D, o) :: own) ++ FX) fs) (hL : h.get? L = some oL) (Fs : Frs l FX) (nt : ¬ Tup o)
    (k : Chg (D :: ((L, oL) :: FX).map (·.1)) h h') (e : h'.get? D = some o') (s2 : Slf ((L, oL) :: FX) FX2) (e2 : ∀ p ∈ FX2, h'.get? p.1 = some p.2) : ∃ FX', Slf FX FX' ∧ Sx B L h' ns vs (((D, o') :: own) ++ FX') fs := by
  have fr := s2.fr e2
  have keep : ∀ b x, h.get? b = some x → b ≠ D → b ∉ ((L, oL) :: FX).map (·.1) → h'.get? b = some x := fun b x z n1 n2 => k b x z (by
    intro m
    rcases List.mem_cons.mp m with q | q
    · exact n1 q
    · exact n2 q)
  refine x1_2 (Slf.of (FX := FX) fun p hp => fr p (.tail _ hp)) fun FX' s e3 => ?_
  have hn := S.nd
  rw [List.map_append] at hn
  refine x0_3 (List.nodup_append.mp hn) fun n1 n2 n3 => ?_
  have nD := (List.nodup_cons.mp n1).1
  have PD := S.N (D, o) (.head _)
  have kB : B.StaysIn h' := fun b x z => keep b x (S.F.keep _ _ z) (fun q => by rw [q, PD.2.2] at z; cases z) fun m => by
    rcases List.mem_cons.mp m with q | q
    · rw [q] at z
      exact absurd (Heap.lt_size z) (Nat.not_lt.mpr S.F.above)
    · refine x1_2 (List.mem_map.mp q) fun p hp q => ?_
      have := (S.N p (List.mem_append_right _ hp)).2.2
      rw [q, z] at this; cases this
  refine ⟨FX', s, ⟨?_, kB, S.F.above⟩, fun p hp => ?_, ?_, fun f hf => f.keeps _ _ (fun b x z t => ?_) (S.ft f hf)⟩
  · refine x3_2 (S.F.ns) fun o' es ep z r => ?_
    rw [hL] at z; cases z
    refine x1_1 (fr _ (.head _)) fun sl z => ?_
    exact ⟨_, es, ep, z, r⟩
  · rcases List.mem_append.mp hp with hp | hp
    · rcases List.mem_cons.mp hp with rfl | hp
      · exact ⟨e, PD.2⟩
      have P := S.N p (List.mem_append_left _ (.tail _ hp))
      refine ⟨keep _ _ P.1 (fun q => nD (List.mem_map.mpr ⟨p, hp, q⟩)) fun m => ?_, P.2⟩
      rcases List.mem_cons.mp m with q | q
      · exact P.2.1 q
      · exact n3 _ (List.mem_map_of_mem (.tail _ hp)) _ q rfl
    · have : p.1 ∈ FX.map (·.1) := by rw [← s.keys]; exact List.mem_map_of_mem hp
      refine x1_2 (List.mem_map.mp this) fun p' hp' q => ?_
      have P := S.N p' (List.mem_append_right _ hp')
      rw [q] at P
      exact ⟨e3 p hp, P.2⟩
  · have := S.nd
    rw [List.map_append, s.keys]
    rw [List.map_append] at this
    exact this
  · refine keep b x z (fun q => ?_) fun m => ?_
    · rw [q, PD.1] at z; cases z; exact nt t
    rcases List.mem_cons.mp m with q | q
    · exact S.frame_ne z t q
    · refine x1_2 (List.mem_map.mp q) fun p' hp' q => ?_
      have P := (S.N p' (List.mem_append_right _ hp')).1
      rw [q, z] at P
      cases P
      exact Fs.nt p' hp' t
theorem lawOf_small {n : Nat} {T : Tr} (h : n < 3) : lawOf n T = if n = 1 then T else .arb T := by rw [lawOf, dif_pos h]
theorem lawOf_big {n : Nat} {T : Tr} (h : ¬ n < 3) : lawOf n T = .alt (lawOf ((n - 1) / 2) T) (lawOf (n - 1 - (n - 1) / 2) T) := by rw [lawOf, dif_neg h]
structure LeafP (T : Tr) : Prop where
  size : T.size = 1
  dep : T.dep = 1
  okc : T.okc = true
  sm : T.sm = true
  nn : Nn T
structure LwP (n : Nat) (T : Tr) : Prop where
  size : T.size = n
  dep : ∀ k, n < 2 ^ (k + 1) → T.dep ≤ k + 2
  okc : T.okc = true
  sm : T.sm = true
theorem LwP.alt {a b : Nat} {x y : Tr} (l : 1 ≤ a ∧ a ≤ b ∧ b ≤ a + 1) (A : LwP a x) (B : LwP b y) : LwP (a + b + 1) (.alt x y) := by
  refine ⟨congrArg Nat.succ (A.size ▸ B.size ▸ rfl : x.size + y.size = a + b), fun k h => ?_, Bool.and_eq_true_iff.mpr ⟨A.okc, B.okc⟩, Bool.and_eq_true_iff.mpr ⟨A.sm, B.sm⟩⟩
  cases k with
  | zero => exact absurd h (Nat.not_lt.mpr (Nat.succ_le_succ (Nat.le_trans l.1 (Nat.le_add_right a b))))
  | succ k =>
    have hb : b < 2 ^ (k + 1) := by
      rw [Nat.pow_succ, Nat.mul_two] at h
      exact Nat.lt_of_not_le fun c => Nat.lt_irrefl _ (Nat.lt_of_lt_of_le h (Nat.le_trans (Nat.add_le_add c c) (Nat.le_trans (Nat.add_le_add_right l.2.2 b) (Nat.le_of_eq (Nat.add_right_comm a 1 b)))))
    exact Nat.succ_le_succ (Nat.max_le.mpr ⟨A.dep k (Nat.lt_of_le_of_lt l.2.1 hb), B.dep k hb⟩)
theorem half {m : Nat} : 1 ≤ (m + 2) / 2 ∧ (m + 2) / 2 ≤ m + 2 - (m + 2) / 2 ∧ m + 2 - (m + 2) / 2 ≤ (m + 2) / 2 + 1 := by
  have p : 0 < (m + 2) / 2 := Nat.div_pos (Nat.le_add_left 2 m) (by decide)
  have e := Nat.div_add_mod (m + 2) 2
  have l := Nat.mod_lt (m + 2) (by decide : 0 < 2)
  have e2 : m + 2 - (m + 2) / 2 = (m + 2) / 2 + (m + 2) % 2 := Nat.sub_eq_of_eq_add (e.symm.trans (by rw [Nat.two_mul, Nat.add_right_comm]))
  rw [e2]; exact ⟨p, Nat.le_add_right _ _, Nat.add_le_add_left (Nat.le_of_lt_succ l) _⟩
theorem lawOf_ok {T : Tr} (P : LeafP T) : ∀ n, 1 ≤ n → LwP n (lawOf n T) := by
  intro n
  induction n using Nat.strongRecOn with
  | ind n ih =>
    intro hn
    match n, hn with
    | 1, _ => rw [lawOf_small (by decide)]; exact ⟨P.size, fun k _ => Nat.le_trans (Nat.le_of_eq P.dep) (Nat.le_add_left 1 (k + 1)), P.okc, P.sm⟩
    | 2, _ => rw [lawOf_small (by decide)]; exact ⟨congrArg Nat.succ P.size, fun k _ => Nat.le_trans (Nat.le_of_eq (congrArg Nat.succ P.dep)) (Nat.le_add_left 2 k), P.okc, P.sm⟩
    | m + 3, _ =>
      rw [lawOf_big (Nat.not_lt.mpr (Nat.le_add_left 3 m))]
      have l := half (m := m)
      have e : (m + 2) / 2 + (m + 2 - (m + 2) / 2) = m + 2 := Nat.add_sub_cancel' (Nat.div_le_self _ _)
      exact (congrArg (fun z => LwP (z + 1) _) e).mp (LwP.alt l (ih _ (Nat.lt_succ_of_le (Nat.div_le_self _ _)) l.1) (ih _ (Nat.lt_succ_of_le (Nat.sub_le _ _)) (Nat.le_trans l.1 l.2.1)))
theorem law_at {T : Tr} (P : LeafP T) {n : Nat} (h : 3 ≤ n) (h2 : n < 1024) : (lawOf n T).size = n ∧ (lawOf n T).dep ≤ 99 ∧ (lawOf n T).okc = true ∧ (lawOf n T).sm = true ∧ (lawOf n T).isChars = false :=
  have L := lawOf_ok P n (Nat.le_trans (by decide) h)
  ⟨L.size, Nat.le_trans (L.dep 9 h2) (by decide), L.okc, L.sm, by rw [lawOf_big (Nat.not_lt.mpr h)]; rfl⟩
noncomputable def dbl (f : Tr → Tr → Tr) (T : Tr) : Nat → Tr
  | 0 => T
  | n + 1 => f (dbl f T n) (dbl f T n)
theorem dbl_size {f : Tr → Tr → Tr} (hf : ∀ a, (f a a).size = a.size + a.size + 1) {T : Tr} (h1 : T.size = 1) : ∀ n, (dbl f T n).size + 1 = 2 ^ (n + 1) := by
  intro n
  induction n with
  | zero => show T.size + 1 = _; rw [h1]
  | succ n ih => show (f _ _).size + 1 = _; rw [hf, Nat.pow_succ]; omega
theorem dbl_dep {f : Tr → Tr → Tr} (hf : ∀ a, (f a a).dep = a.dep + 1) {T : Tr} (h1 : T.dep = 1) : ∀ n, (dbl f T n).dep = n + 1 := by
  intro n
  induction n with
  | zero => exact h1
  | succ n ih => show (f _ _).dep = _; rw [hf, ih]
theorem dbl_all {P : Tr → Bool} {f : Tr → Tr → Tr} (hB : ∀ a, P a = true → P (f a a) = true) {T : Tr} (h : P T = true) : ∀ n, P (dbl f T n) = true := by
  intro n
  induction n with
  | zero => exact h
  | succ n ih => exact hB _ ih
theorem good_one {T : Tr} : Good 0 [(T, 1)] ↔ T.size ≤ 600 ∧ T.dep ≤ 100 ∧ T.okc = true := by
  constructor
  · intro h
    have q := h.2 _ (.head _)
    exact ⟨Nat.le_trans (Nat.le_of_eq (Nat.zero_add _).symm) h.1, Nat.le_of_succ_le_succ (Nat.le_trans (Nat.le_of_eq (Nat.add_comm _ 1)) q.1), q.2⟩
  · intro h
    exact ⟨Nat.le_trans (Nat.le_of_eq (Nat.zero_add _)) h.1, fun p m => by rw [List.mem_singleton.mp m]; exact ⟨Nat.le_trans (Nat.le_of_eq (Nat.add_comm 1 _)) (Nat.succ_le_succ h.2.1), h.2.2⟩⟩
theorem Nn.of_not {T : Tr} (h : T.isChars = false) : Nn T := fun x e => by subst e; cases h
end
section
set_option maxHeartbeats 2000000
variable {w : World} {mg mb : Str → Option Value} {g : Heap} {A : Around} {s : Shared} {Q E : Value → Shared → Prop} {h : Heap} {tk n : Nat}

noncomputable abbrev handO (li : Addr) (nn zz : Int) (tn tz : Tok) (c : Nat) : Obj := listOf [Value.ref li, .int nn tn, .int zz tz].toArray c
variable {outer : List Env} {FX : List (Addr × Obj)} {ha li : Addr} {nn zz : Int} {tn tz : Tok} {c : Nat} {ls : List Value} {ps : Array Value}
theorem leaf_len {i : Int} : LeafP (.len i) := ⟨rfl, rfl, rfl, rfl, Nn.of_not rfl⟩
theorem leaf_rem : LeafP .rem := ⟨rfl, rfl, rfl, rfl, Nn.of_not rfl⟩
theorem leaf_any {x : Str} : LeafP (.any x) := ⟨rfl, rfl, rfl, rfl, Nn.of_not rfl⟩
theorem leaf_brk {x : Str} : LeafP (.brk x) := ⟨rfl, rfl, rfl, rfl, Nn.of_not rfl⟩
theorem leaf_chars : LeafP (.chars (Str.ofString "a")) := ⟨rfl, rfl, by decide +kernel, by decide +kernel, nn_a⟩
theorem pick3 {P : Value → Prop} {x y z : Value} {r : Int} (hr : 0 ≤ r ∧ r < 3) (a : P x) (b : P y) (d : P z) : ∃ v, [x, y, z][r.toNat]? = some v ∧ P v := by
  have : r = 0 ∨ r = 1 ∨ r = 2 := int_lt (P := fun r => r = 0 ∨ r = 1 ∨ r = 2) (n := 3) hr (by decide)
  rcases this with rfl | rfl | rfl
  · exact ⟨x, rfl, a⟩
  · exact ⟨y, rfl, b⟩
  · exact ⟨z, rfl, d⟩
noncomputable def lfP (h : Heap) (v : Value) : Prop := ∃ T, IsTr h v T ∧ LeafP T
theorem due_iff {j due : Bool} {T U : Tr} (h1 : T.dep ≤ 99) (h2 : U.dep ≤ 99) (h3 : T.okc = true) (h4 : U.okc = true) (h : due = decide (T.size + U.size + 1 ≤ 600)) : due = true ↔ Good 0 [(if j = true then .cat T U else .alt T U, 1)] := by
  rw [good_one, h, decide_eq_true_iff]
  have d : max T.dep U.dep + 1 ≤ 100 := Nat.succ_le_succ (Nat.max_le.mpr ⟨h1, h2⟩)
  have o : (T.okc && U.okc) = true := Bool.and_eq_true_iff.mpr ⟨h3, h4⟩
  cases j
  · exact ⟨fun h => ⟨h, d, o⟩, fun h => h.1⟩
  · exact ⟨fun h => ⟨h, d, o⟩, fun h => h.1⟩
theorem nd_put {B h : Heap} {L D : Addr} {ns vs fs} {own FX : List (Addr × Obj)} {o oL : Obj} (S : Sx B L h ns vs (((D, o) :: own) ++ FX) fs) (hn : (((L, oL) :: FX).map (·.1)).Nodup) : (((D, o) :: (L, oL) :: FX).map (·.1)).Nodup := by
  refine List.nodup_cons.mpr ⟨fun m => ?_, hn⟩
  rcases List.mem_cons.mp m with q | q
  · exact (S.N (D, o) (.head _)).2.1 q
  · refine x1_2 (List.mem_map.mp q) fun p hp e => ?_
    exact (List.nodup_cons.mp S.nd).1 (List.mem_map.mpr ⟨p, List.mem_append_right _ hp, e⟩)
theorem s_put_right {env : Env} {B : Heap} {L : Addr} {ns : List (Str × NameKind)} {vs : List (Option Value)} {fs : List Fact} {y : Addr × Obj} {own : List (Addr × Obj)} {T U : Tr} {one other : Value} {j due : Bool} (G : Gl w mg mb B) (S : Sx B L h ns vs ((773, tabObj ps) :: y :: (own ++ FX)) fs) (R : Rm A 12) (hA : A.frames = some (env :: outer)) (Fs : Frs outer FX) (hnd : (FX.map (·.1)).Nodup) (hke : env.scope.kind ≠ .module) (hfe : env.frame = some L)
   (ht : TriplesOk ps.toList) (ok : tabOk putQ ps h) (I : IsTr h one T) (J : IsTr h other U) (hs1 : T.sm = true) (hs2 : U.sm = true) (hn1 : Nn T) (hn2 : Nn U) (hnc : (T.isChars && U.isChars) = false) (hdue : due = true ↔ Good 0 [(if j = true then .cat T U else .alt T U, 1)])
   (k : ∀ ps' FX' h' tk', Frs outer FX' → (FX'.map (·.1)).Nodup → TriplesOk ps'.toList → Sx B L h' ns vs ((773, tabObj ps') :: y :: (own ++ FX')) (tabF putQ ps' :: fs) → Q (.bool true) (St s h' tk')) : wpAny (model pg w) A (call (.ref 778) [.bool j, one, other, .bool due]) Q E (St s h tk) := by
  have S : Sx B L h ns vs (((773, tabObj ps) :: y :: own) ++ FX) fs := S
  obtain ⟨oL1, Fx1, hF1, hd1⟩ := S.out (FX := FX) (fun p hp => List.mem_append_right _ hp) hnd Fs hke hfe
  have P1 := S.N _ (.head _)
  refine c_put_right G S.stays R I J hs1 hs2 hn1 hn2 hnc hdue ⟨P1.1, P1.2.2⟩ ht ok hA Fx1 hF1 (nd_put S hd1) fun ps1 FXr1 h tk chh e1 ht1 ok1 sl1 er1 => ?_
  obtain ⟨FX1, sm1, S⟩ := S.put (hF1 _ (.head _)).1 Fs (ntup_tab ht) chh e1 sl1 er1
  exact k _ _ _ _ (sm1.frs Fs) (by rw [sm1.keys]; exact hnd) ht1 (S.fact _ ok1)
theorem Inn.left {α : Type} {x : α} {l m : List α} (h : Inn x l) : Inn x (l ++ m) := by
  induction h with
  | z => exact .z
  | s _ ih => exact .s ih
theorem Sx.hide {B : Heap} {L : Addr} {ns : List (Str × NameKind)} {vs : List (Option Value)} {fs : List Fact} {X : Prop} {x y : Addr × Obj} {R b : List (Addr × Obj)} (S : Sx B L h ns vs (x :: y :: (R ++ b)) fs) (k : ∀ R', (∀ p, Inn p R → Inn p R') → Sx B L h ns vs (x :: y :: (R' ++ b)) fs → X) : X := k R (fun _ m => m) S
theorem Sx.hideE {B : Heap} {L : Addr} {ns : List (Str × NameKind)} {vs : List (Option Value)} {fs : List Fact} {X : Prop} {x y : Addr × Obj} {R : List (Addr × Obj)} (S : Sx B L h ns vs (x :: y :: R) fs) (k : ∀ R', R' = R → Sx B L h ns vs (x :: y :: R') fs → X) : X := k R rfl S
theorem pow_at {m : Nat} (h : 6 ≤ m ∧ m ≤ 8) : ∃ pw : Nat, 2 ^ (m + 1) = pw ∧ pw ≤ 512 :=
  ⟨_, rfl, (show 2 ^ (m + 1) ≤ 2 ^ 9 from Nat.pow_le_pow_right (by decide) (Nat.succ_le_succ h.2))⟩
theorem n_sub (k : Nat) {p : Nat} (h : p ≤ k + 1) : (k : Int) - ((p : Int) - 1) = ((k + 1 - p : Nat) : Int) := by rw [Int.ofNat_sub h]; exact lin0 [k, p] [] (.ieq (.S (.C (.V 0)) (.S (.C (.V 1)) (.K 1))) (.S (.C (.P (.V 0) (.K 1))) (.C (.V 1)))) [[1], [1]]  okT
theorem n_at (k : Nat) {p : Nat} (h : p ≤ 512) (h1 : 515 ≤ k) (h2 : k < 1024) : 3 ≤ k - p ∧ k - p < 1024 := ⟨Nat.le_trans (Nat.sub_le_sub_right h1 512) (Nat.sub_le_sub_left h k), Nat.lt_of_le_of_lt (Nat.sub_le _ _) h2⟩
theorem n_sum (k : Nat) {p s : Nat} (h : p ≤ 512) (h1 : 515 ≤ k) (e : s + 1 = p) : s + (k - p) + 1 = k := by
  rw [Nat.add_right_comm, e]; exact Nat.add_sub_cancel' (Nat.le_trans h (Nat.le_trans (by decide) h1))
theorem dbl_nc {T : Tr} {m : Nat} (h : 1 ≤ m) : (dbl .alt T m).isChars = false := by
  cases m with
  | zero => cases h
  | succ m => rfl
theorem e_notb {x : Expr} {pos : Pos} {env : Env} {Q : Value → Shared → Prop} (h : wpAny (model pg w) A (eval x env) (fun v s₁ => ∃ b, v = .bool b ∧ Q (.bool (!b)) s₁) E s) : wpAny (model pg w) A (eval (.UnaryOp .Not x pos) env) Q E s := by
  refine UnaryOp_ (wpAny_mono h (fun v s₁ h₁ => ?_) fun _ _ z => z)
  refine x1_2 h₁ ?_; (try clear h₁); intro b zq1 hq; subst zq1
  exact not_of (wpAny_truthy_bool hq)
theorem c_parts (G : Gl w mg mb g) (hk : g.StaysIn h) (R : Rm A 650) (hl : h.IsList li ls.toArray) (hls : ls.length < 2 ^ 40) (hi : ∀ v ∈ ls, ∃ i t, v = .int i t) (hne : li ≠ ha ∧ li ∉ ((773, tabObj ps) :: FX).map (·.1)) (hha : h.get? ha = some (handO li nn zz tn tz c) ∧ g.get? ha = none) (hn : 0 ≤ nn ∧ nn ≤ 100) (hz : 0 ≤ zz ∧ zz < 2 ^ 40)
   (hps : h.get? 773 = some (tabObj ps) ∧ g.get? 773 = none) (ht : TriplesOk ps.toList) (ok : tabOk putQ ps h)
   (hA : A.frames = some outer) (Fs : Frs outer FX) (hFX : ∀ p ∈ FX, h.get? p.1 = some p.2 ∧ g.get? p.1 = none) (hnd : (((ha, handO li nn zz tn tz c) :: (773, tabObj ps) :: FX).map (·.1)).Nodup)
   (ret : ∀ h' tk', Chg (ha :: 773 :: FX.map (·.1)) h h' → (∃ p, h'.get? 773 = some (tabObj p)) → Q (.bool true) (St s h' tk')) :
   wpAny (model pg w) A (call (.ref 809) [.ref ha]) Q E (St s h tk) := by
  have hled : ∀ p ∈ (ha, handO li nn zz tn tz c) :: (773, tabObj ps) :: FX, h.get? p.1 = some p.2 ∧ g.get? p.1 = none := mem_cons' hha (mem_cons' hps hFX)
  refine enterC ((ha, handO li nn zz tn tz c) :: (773, tabObj ps) :: FX) [some (.ref ha)] G hk (by k_is) (by k_is) (by decide +kernel) R (BindsTo.of_eq (bind_plain rfl rfl rfl (by decide +kernel))) (by dsimp only; repeat (first | exact BndC.nil | refine BndC.loc ?_ | refine BndC.cel ?_)) hA hled hnd (by decide +kernel) ?_ (by rfl) (by rfl); intro B h L tk env A cells V EC EQ ED G CA S hB hB' hL R hA hke hfe; dsimp only at V S EC CA
  have kB : Tk _ B := tk_led hB hled (mem_cons' not_tup_list (mem_cons' (ntup_tab ht) Fs.nt))
  have okB : tabOk putQ ps B := (tabF putQ ps).keeps _ _ kB ok
  have hlB := list_base hB hl (not_two hne)
  have hndF : (FX.map (·.1)).Nodup := (List.nodup_cons.mp (List.nodup_cons.mp hnd).2).2
  have CA0 : cells = [] := by cases CA; rfl
  subst CA0
  have S : Sx B L _ _ _ ((ha, handO li nn zz tn tz c) :: (773, tabObj ps) :: FX) _ := S
  repeat' (walk_at "ms@41_1")
  have P := S.N (ha, handO li _ _ _ _ _) (Inn.mem (by walk_at "zm"))
  refine c_given G S.stays (R.le (by decide)) (by decide) ⟨by exact lin1 [] [nn] (.A (.ile (.K 0) (.V 0)) (.ile (.V 0) (.K 100))) (.ile (.K 0) (.V 0)) [[1, 1, 0]] hn okT, by exact lin1 [] [nn] (.A (.ile (.K 0) (.V 0)) (.ile (.V 0) (.K 100))) (.ilt (.V 0) (.W 2 40)) [[1, 0, 1]] hn okT⟩ ⟨by exact lin1 [] [zz] (.A (.ile (.K 0) (.V 0)) (.ilt (.V 0) (.W 2 40))) (.ile (.K 0) (.V 0)) [[1, 1, 0]] hz okT, by exact lin1 [] [zz] (.A (.ile (.K 0) (.V 0)) (.ilt (.V 0) (.W 2 40))) (.ilt (.V 0) (.W 2 40)) [[1, 0, 1]] hz okT⟩ (hlB.at fun o e => S.F.keep _ _ e) hls hi hne.1 ⟨P.1, P.2.2⟩ ?_
  clear P
  intro r1 u1 n1 z1 tn1 tz1 c1 h tk ch e hn1 hz1 hr1
  have S := S.chg (by walk_at "zu") not_tup_list ch e
  repeat' (walk_at "ms@41_1")
  obtain ⟨lv, hlv, T, IT, LP⟩ := pick3 (P := lfP h) hr1 ⟨.len 1, ⟨_, _, _, rfl, S.inF (.s (.s .z))⟩, leaf_len⟩ ⟨.chars (Str.ofString "a"), ⟨_, _, _, rfl, S.inF (.s .z)⟩, leaf_chars⟩ ⟨.brk (Str.ofString "b"), ⟨_, _, _, rfl, S.inF .z⟩, leaf_brk⟩
  have S := S.fact (trF lv T) IT
  refine o_itemT ⟨_, (S.N _ (.head _)).1, rfl, _, rfl⟩ hr1.1 (by exact lin1 [] [r1] (.A (.ile (.K 0) (.V 0)) (.ilt (.V 0) (.K 3))) (.ilt (.V 0) (.W 2 63)) [[1, 0, 1]] hr1 okT) hlv ?_ (by with_unfolding_all rfl)
  repeat' (walk_at "ms@41_1")
  have P := S.N (ha, handO li _ _ _ _ _) (Inn.mem (by walk_at "zm"))
  refine c_given G S.stays (R.le (by decide)) (by decide) ⟨by exact lin1 [] [n1, nn] (.A (.ile (.K 0) (.V 0)) (.ile (.V 0) (.P (.V 1) (.K 1)))) (.ile (.K 0) (.V 0)) [[1, 1, 0]] hn1 okT, by exact lin2 [] [nn, n1] (.A (.ile (.K 0) (.V 0)) (.ile (.V 0) (.K 100))) (.A (.ile (.K 0) (.V 1)) (.ile (.V 1) (.P (.V 0) (.K 1)))) (.ilt (.V 1) (.W 2 40)) [[1, 0, 1, 0, 1]] hn hn1 okT⟩ ⟨by exact lin1 [] [z1] (.A (.ile (.K 0) (.V 0)) (.ilt (.V 0) (.W 2 40))) (.ile (.K 0) (.V 0)) [[1, 1, 0]] hz1 okT, by exact lin1 [] [z1] (.A (.ile (.K 0) (.V 0)) (.ilt (.V 0) (.W 2 40))) (.ilt (.V 0) (.W 2 40)) [[1, 0, 1]] hz1 okT⟩ (hlB.at fun o e => S.F.keep _ _ e) hls hi hne.1 ⟨P.1, P.2.2⟩ ?_
  clear P
  intro r2 u2 n2 z2 tn2 tz2 c2 h tk ch e hn2 hz2 hr2
  have S := S.chg (by walk_at "zu") not_tup_list ch e
  repeat' (walk_at "ms@41_1")
  refine x_for (fun _ => rfl) ?_
  repeat' (walk_at "ms@41_1")
  have P := S.N (ha, handO li _ _ _ _ _) (Inn.mem (by walk_at "zm"))
  refine c_given G S.stays (R.le (by decide)) (by decide) ⟨by exact lin1 [] [n2, n1] (.A (.ile (.K 0) (.V 0)) (.ile (.V 0) (.P (.V 1) (.K 1)))) (.ile (.K 0) (.V 0)) [[1, 1, 0]] hn2 okT, by exact lin3 [] [nn, n1, n2] (.A (.ile (.K 0) (.V 0)) (.ile (.V 0) (.K 100))) (.A (.ile (.K 0) (.V 1)) (.ile (.V 1) (.P (.V 0) (.K 1)))) (.A (.ile (.K 0) (.V 2)) (.ile (.V 2) (.P (.V 1) (.K 1)))) (.ilt (.V 2) (.W 2 40)) [[1, 0, 1, 0, 1, 0, 1]] hn hn1 hn2 okT⟩ ⟨by exact lin1 [] [z2] (.A (.ile (.K 0) (.V 0)) (.ilt (.V 0) (.W 2 40))) (.ile (.K 0) (.V 0)) [[1, 1, 0]] hz2 okT, by exact lin1 [] [z2] (.A (.ile (.K 0) (.V 0)) (.ilt (.V 0) (.W 2 40))) (.ilt (.V 0) (.W 2 40)) [[1, 0, 1]] hz2 okT⟩ (hlB.at fun o e => S.F.keep _ _ e) hls hi hne.1 ⟨P.1, P.2.2⟩ ?_
  clear P
  intro r3 u3 n3 z3 tn3 tz3 c3 h tk ch e hn3 hz3 hr3
  have S := S.chg (by walk_at "zu") not_tup_list ch e
  repeat' (walk_at "ms@41_1")
  obtain ⟨m, hm, hm3⟩ : ∃ m : Nat, (m : Int) = 6 + r3 ∧ 6 ≤ m ∧ m ≤ 8 := ⟨_, toN (lo := 6) (hi := 8) (by omega) (by omega)⟩
  have hm := hm.symm
  rw [hm]
  clear hm hr3
  refine o_range S ?_
  clear S; intro rg q1 q2 h tk S
  have S := S.pad 1
  have S := S.drop (news' := (rg, rangeO m q1 _ q2) :: (ha, handO li n3 z3 tn3 tz3 c3) :: (773, tabObj ps) :: FX) (.cons_cons _ (.cons _ (List.Sublist.refl _)))
  have S : Sx B L h _ [some (.ref ha), some lv, some (.bool (r2 == 1)), some (.int 1 _), some lv, none] _ [trF lv (dbl .alt T 0), trF lv T] := S.facts (fun q hq => by
    rcases List.mem_cons.mp hq with rfl | hq
    · exact .head _
    · rw [List.mem_singleton.mp hq]; exact .head _)
  refine x_for_range (n := m) (fun i vs news fs => ∃ ov t o q3, vs = [some (.ref ha), some lv, some (.bool (r2 == 1)), some (.int (2 ^ (i + 1) - 1) t), some ov, o] ∧ news = (rg, rangeO m q1 q3 q2) :: (ha, handO li n3 z3 tn3 tz3 c3) :: (773, tabObj ps) :: FX ∧ fs = [trF ov (dbl .alt T i), trF lv T]) V R.h S (by exact .z) (by exact lin1 [m] [] (.A (.nle (.K 6) (.V 0)) (.nle (.V 0) (.K 8))) (.nlt (.V 0) (.W 2 62)) [[1, 0, 1]] hm3 okT) ⟨lv, _, none, _, rfl, rfl, rfl⟩ po_no ?_ ?_
  · rintro i _ _ _ t hi ⟨ov, t6, o, q3, rfl, rfl, rfl⟩
    refine ⟨_, by walk_at "zs", fun h tk p S => ?_⟩
    repeat' (walk_at "ms@41_1")
    refine b_mul (IntMulOk.of_left (by decide)) ?_
    intro t7 tk
    repeat' (walk_at "ms@41_1")
    have e7 : (2 : Int) * (2 ^ (i + 1) - 1) + 1 = 2 ^ (i + 1 + 1) - 1 := by rw [Int.pow_succ 2 (i + 1)]; exact dbl_pow _
    rw [e7] at S
    have io : IsTr _ ov (dbl .alt T i) := S.ft (trF ov (dbl .alt T i)) (by walk_at "zf")
    have il : IsTr _ lv T := S.ft (trF lv T) (by walk_at "zf")
    have ia : IsTr _ (.ref a) (dbl .alt T (i + 1)) := ⟨a, _, ov, ov, rfl, S.inF .z, io, io⟩
    exact lf_next ((S.facts0.fact (trF lv T) il).fact (trF (.ref a) (dbl .alt T (i + 1))) ia) ⟨_, _, _, _, rfl, rfl, rfl⟩
  · rintro _ _ _ h tk ⟨ov, t6, o, q3, rfl, rfl, rfl⟩ S
    obtain ⟨pw, hpe, p2⟩ := pow_at hm3
    have hm9 : 1 ≤ m ∧ m ≤ 8 := ⟨Nat.le_trans (by decide) hm3.1, hm3.2⟩
    have hsz := dbl_size (f := .alt) (fun a => rfl) LP.size m
    have hdp := dbl_dep (f := .alt) (fun a => congrArg Nat.succ (Nat.max_self _)) LP.dep m
    have hok := dbl_all (P := Tr.okc) (f := .alt) (fun a h => Bool.and_eq_true_iff.mpr ⟨h, h⟩) LP.okc m
    have hsm := dbl_all (P := Tr.sm) (f := .alt) (fun a h => Bool.and_eq_true_iff.mpr ⟨h, h⟩) LP.sm m
    have hnc := dbl_nc (T := T) hm9.1
    have hpi : (2 : Int) ^ (m + 1) = (pw : Int) := by rw [← hpe]; exact (Int.natCast_pow 2 (m + 1)).symm
    rw [hpe] at hsz
    have hdp9 : (dbl .alt T m).dep ≤ 99 := by rw [hdp]; exact Nat.le_trans (Nat.succ_le_succ hm9.2) (by decide)
    repeat' (walk_at "ms@41_1")
    rw [hpi, show (599 : Int) - ((pw : Int) - 1) = ((600 - pw : Nat) : Int) from n_sub 599 (Nat.le_trans p2 (by decide))]
    refine c_law_of (600 - pw) G S.stays (R.le (Nat.succ_le_succ (Nat.le_trans (Nat.sub_le _ _) (by decide)))) (S.ft (trF lv T) (by walk_at "zf")) fun lw h tk k I2 => ?_
    have S := (S.call k).fact (trF lw _) I2
    refine x0_5 (law_at LP (n_at 600 p2 (by decide) (by decide)).1 (n_at 600 p2 (by decide) (by decide)).2) fun hs2 hd2 ho2 hm3 hc2 => ?_
    repeat' (walk_at "ms@41_1")
    have S0 : Sx B L h _ _ ((773, tabObj ps) :: (rg, rangeO (m : Int) q1 q3 q2) :: ([(ha, handO li n3 z3 tn3 tz3 c3)] ++ FX)) _ := S.perm ((List.Perm.cons _ (List.Perm.swap _ _ _)).trans (List.Perm.swap _ _ _))
    refine s_put_right (own := [(ha, handO li n3 z3 tn3 tz3 c3)]) G S0 (R.le (by decide)) hA Fs hndF hke hfe ht ((tabF putQ ps).keeps _ _ (tk_of S) okB) (S.ft (trF ov _) (by walk_at "zf")) (S.ft (trF lw _) (by walk_at "zf")) hsm hm3 (Nn.of_not hnc) (Nn.of_not hc2) (by rw [hnc]; rfl) (due_iff hdp9 hd2 hok ho2 (by rw [hs2]; exact (decide_eq_true (Nat.le_of_eq (n_sum 600 p2 (by decide) hsz))).symm)) fun ps2 FX2 h tk Fs2 hnd2 ht2 S => ?_
    have S : Sx B L _ _ _ ((773, tabObj ps2) :: (rg, rangeO (m : Int) q1 q3 q2) :: (ha, handO li n3 z3 tn3 tz3 c3) :: FX2) _ := S
    repeat' (walk_at "ms@41_1")
    refine e_notb ?_
    repeat' (walk_at "ms@41_1")
    refine ⟨_, rfl, ?_⟩
    repeat' (walk_at "ms@41_1")
    rw [hpi, show (600 : Int) - ((pw : Int) - 1) = ((601 - pw : Nat) : Int) from n_sub 600 (Nat.le_trans p2 (by decide))]
    refine c_law_of (601 - pw) G S.stays (R.le (Nat.succ_le_succ (Nat.le_trans (Nat.sub_le _ _) (by decide)))) (S.ft (trF lv T) (by walk_at "zf")) fun lw5 h tk k I2 => ?_
    have S := (S.call k).fact (trF lw5 _) I2
    refine x0_5 (law_at LP (n_at 601 p2 (by decide) (by decide)).1 (n_at 601 p2 (by decide) (by decide)).2) fun hs2 hd2 ho2 hm3 hc3 => ?_
    repeat' (walk_at "ms@41_1")
    refine s_put_right (own := [(ha, handO li n3 z3 tn3 tz3 c3)]) G S (R.le (by decide)) hA Fs2 hnd2 hke hfe ht2 (S.ft (tabF putQ ps2) (by walk_at "zf")) (S.ft (trF lw5 _) (by walk_at "zf")) (S.ft (trF ov _) (by walk_at "zf")) hm3 hsm (Nn.of_not hc3) (Nn.of_not hnc) (by rw [hnc, Bool.and_false]) (due_iff hd2 hdp9 ho2 hok (by rw [hs2, Nat.add_comm (601 - pw), n_sum 601 p2 (by decide) hsz]; rfl)) fun ps6 FX6 h tk Fs6 hnd6 ht6 S => ?_
    repeat' (walk_at "ms@41_1")
    exact ret _ _ (stayC S hB) ⟨_, (S.N _ (.head _)).1⟩
end
section
set_option maxHeartbeats 2000000
variable {w : World} {mg mb : Str → Option Value} {g : Heap} {A : Around} {s : Shared} {Q E : Value → Shared → Prop} {h : Heap} {tk n : Nat}

variable {outer : List Env} {FX : List (Addr × Obj)}
theorem none_at {h B : Heap} {h₂ : Heap} {X : List Addr} {a : Addr} (hB : Chg (X) h B) (hk : B.StaysIn h₂) (hX : ∀ a ∈ X, ∃ o, h₂.get? a = some o) (e : h₂.get? a = none) : h.get? a = none := by
  cases z : h.get? a with
  | none => rfl
  | some o =>
    by_cases m : a ∈ X
    · obtain ⟨o2, z2⟩ := hX a m; rw [z2] at e; cases e
    · rw [hk _ _ (hB a o z m)] at e; cases e
inductive CallX (s : Shared) (B h : Heap) (own : List (Addr × Obj)) (L : List Env) (P : Prop) (Lv : Value → Shared → Prop) : Prop
  | mk (FX : List (Addr × Obj)) : Frs L FX → (∀ p ∈ FX, h.get? p.1 = some p.2 ∧ B.get? p.1 = none) → (FX.map (·.1)).Nodup → (∀ p ∈ own, p.1 ∉ FX.map (·.1)) → (¬ P → ∀ e h' tk', Thrown h FX 23 e h' → Lv (.ref e) (St s h' tk')) → CallX s B h own L P Lv
structure TaskC (w : World) (mg mb : Str → Option Value) (s : Shared) (h : Heap) (own : List (Addr × Obj)) (P : Prop) (Ok : Heap → Value → Prop) (n : Nat) (names : List (Str × NameKind)) (clos : List (Str × Addr)) (A : Around) (B : Heap) (L : Addr) (env : Env) (FXT : List (Addr × Obj)) (o2 : List Env) (Q Lv : Value → Shared → Prop) : Prop where
  V : Ev env names L
  EC : env.cells = clos
  G : Gl w mg mb B
  R : Rm A n
  hA : A.frames = some (env :: o2)
  own : ∀ p ∈ own, B.get? p.1 = some p.2
  tk : Tk h B
  new : ∀ {h1 vs news fs a}, Sx B L h1 names vs news fs → (∀ p ∈ FXT, p ∈ news) → h1.get? a = none → h.get? a = none
  call : ∀ {h1 vs own1 fs}, Sx B L h1 names vs (own1 ++ FXT) fs → CallX s B h1 own1 (env :: o2) P Lv
  ret : ∀ {r h1 tk1 vs news fs}, Sx B L h1 names vs news fs → (∀ p ∈ FXT, p ∈ news) → P → Ok h1 r → Q r (St s h1 tk1)
theorem TaskC.at {w mg mb s h own P Ok n names clos A B L env FXT o2 Q Lv} (T : TaskC w mg mb s h own P Ok n names clos A B L env FXT o2 Q Lv) {p : Addr × Obj} (m : Inn p own) : B.get? p.1 = some p.2 := T.own p m.mem
theorem s_task {env : Env} {B : Heap} {L f c' : Addr} {ns : List (Str × NameKind)} {vs : List (Option Value)} {fs : List Fact} {own : List (Addr × Obj)} {n : Nat} {q : Str} {params : Arguments} {body : Expr} {scope : Scope} {clos : List (Str × Addr)} {pm ctv : Value} (P : Prop) (Ok : Heap → Value → Prop)
   (G : Gl w mg mb B) (S : Sx B L h ns vs (own ++ FX) fs) (R : Rm A (n + 2)) (hA : A.frames = some (env :: outer)) (Fs : Frs outer FX) (hnd : (FX.map (·.1)).Nodup) (hke : env.scope.kind ≠ .module) (hfe : env.frame = some L)
   (m : Inn (f, kla_obj "<lambda>" q params body scope clos pm c' ctv) own) (hcr : h.CodeRec (.ref c') q) (W : wfS scope = true) (hcell : noCell scope = true)
   (hbind : bindArgs (kla_fn "<lambda>" q params body scope clos pm (.ref c') ctv) ⟨[], []⟩ = pure [])
   (task : ∀ {A B' L' env' FXT o2 Q Lv h1 tk1}, TaskC w mg mb s h own P Ok n scope.names clos A B' L' env' FXT o2 Q Lv → Sx B' L' h1 scope.names [] FXT [] → wpAny (model pg w) A (eval body env') Q Lv (St s h1 tk1))
   (ret : ∀ r h' tk', Sx B L h' ns vs (own ++ FX) fs → h.StaysIn h' → P → Ok h' r → Q r (St s h' tk'))
   (ret23 : ¬ P → ∀ u h' FX' tk', Frs outer FX' → (FX'.map (·.1)).Nodup → Sx B L h' ns vs (own ++ FX') fs → Q (.int 23 u) (St s h' tk'))
   (hco : scope.isCoroutine = false) (hgen : scope.isGenerator = false) : wpAny (model pg w) A (call (.ref 764) [.ref f]) Q E (St s h tk) := by
  obtain ⟨oL, Fs2, hFX2, hnd2⟩ := S.out (FX := FX) (fun p hp => List.mem_append_right _ hp) hnd Fs hke hfe
  have hLo := (hFX2 _ (.head _)).1
  refine c_outcomeX G S.stays (m := n + 1) R (P := P) (Ok := Ok) ⟨_, _, _, _, (S.N _ (List.mem_append_left _ m.mem)).1⟩ (S.off m.mem) ?_ hA Fs2 hFX2 hnd2 (fun r h' tk' k p ok => ret r h' tk' (S.call k) k p ok) (fun np u h' FX' tk' k sl e => ?_)
  · intro A B2 h2 tk2 o2 FXT Q E G2 hk2 hB2 hX2 R2 hA2 FsT hFXT hndT hE2 ret2
    obtain ⟨sn, sb, st⟩ := S.seen hLo Fs hB2
    refine enterL G2 hk2 (hk2 _ _ (sn _ m.mem)) ((coderec_keep st hcr).keeps hk2) W R2 hbind hA2 FsT hFXT hndT hcell (P := ¬ P) hE2 ?_ hco hgen
    intro B h1 L tk1 env A V EC G S1 hB hB' hL R hA hke hfe Lv hLv
    have bb := base_in hk2 hFXT hB
    refine task ⟨V, EC, G, R, hA, fun p hp => bb _ _ (sn p hp), fun a o e t => bb _ _ (st a o e t), fun {h3 _ _ _ a} S3 sub e => ?_, fun {h3 _ own3 _} S3 => ?_, fun {_ h3 _ _ _ _} S3 sub p ok => ret2 _ _ _ (stayX S3 sub (fun p hp => (hFXT p hp).1) hB) p ok⟩ S1
    · exact none_at hB2 hk2 hX2 (none_of (stayX S3 sub (fun p hp => (hFXT p hp).1) hB) e)
    · obtain ⟨oL3, Fs3, hFX3, hnd3⟩ := S3.out (FX := FXT) (fun p hp => List.mem_append_right _ hp) hndT FsT hke hfe
      have nd3 : ∀ vs, oL3.data ≠ .fields vs := Fs3.nd
      exact ⟨_, Fs3, hFX3, hnd3, fun p hp => S3.off hp, fun np e h5 tk5 Th => hLv np _ _ (eb_call S3 (fun p hp => List.mem_append_right _ hp) hB (hFX3 _ (.head _)).1 nd3 Th)⟩
  · obtain ⟨FX9, sl9, S9⟩ := S.refused hLo Fs k sl e
    exact ret23 np u h' FX9 tk' (sl9.frs Fs) (by rw [sl9.keys]; exact hnd) S9
end
section
set_option maxHeartbeats 2000000
variable {w : World} {mg mb : Str → Option Value} {g : Heap} {A : Around} {s : Shared} {Q E : Value → Shared → Prop} {h : Heap} {tk n : Nat}

variable {outer : List Env} {FX : List (Addr × Obj)} {ha li : Addr} {nn zz : Int} {tn tz : Tok} {c : Nat} {ls : List Value} {ps : Array Value}
noncomputable abbrev dblQ : Str := Str.ofString "_law_doubled_right" ++ ".<locals>." ++ "<lambda>"
theorem ite_str {j : Bool} {x y : Str} {k1 k2 : Nat} {p1 p2 : Pos} {env : Env} {Qp : Value → Shared → Prop} (k : ∀ t tk', Qp (.str (if j = true then x else y) t) (St s h tk')) : if j = true then wpAny (model pg w) A (eval (.Constant (.str x) k1 p1) env) Qp E (St s h tk) else wpAny (model pg w) A (eval (.Constant (.str y) k2 p2) env) Qp E (St s h tk) := by
  cases j with
  | true => exact it_t (e_str k)
  | false => exact it_f (e_str k)
theorem tw_tr {h : Heap} {j : Bool} {p : Addr} {t : Tok} {u v : Value} {a b : Tr} (i : IsTup h p [.str (if j = true then Str.ofString "cat" else Str.ofString "alt") t, u, v].toArray) (x : IsTr h u a) (y : IsTr h v b) : IsTr h (.ref p) (tw j a b) := by
  cases j with
  | true => exact ⟨p, t, u, v, rfl, i, x, y⟩
  | false => exact ⟨p, t, u, v, rfl, i, x, y⟩
theorem joinT_cat {T U : Tr} (h : T.isChars = false) : joinT T U = .cat T U := joinT_ne (by rw [h]; rfl)
theorem tw_size (j : Bool) (a b : Tr) : (tw j a b).size = a.size + b.size + 1 := by cases j <;> rfl
theorem tw_dep (j : Bool) (a b : Tr) : (tw j a b).dep = max a.dep b.dep + 1 := by cases j <;> rfl
theorem tw_okc (j : Bool) (a b : Tr) (h : a.okc = true) (h' : b.okc = true) : (tw j a b).okc = true := by cases j <;> exact Bool.and_eq_true_iff.mpr ⟨h, h'⟩
theorem tw_sm (j : Bool) (a b : Tr) (h : a.sm = true) (h' : b.sm = true) : (tw j a b).sm = true := by cases j <;> exact Bool.and_eq_true_iff.mpr ⟨h, h'⟩
theorem tw_nc (j : Bool) (a b : Tr) : (tw j a b).isChars = false := by cases j <;> rfl
inductive DbOk (w : World) (h H : Heap) (sg : Str) (vn : Value) : Value → Prop
  | mk (x dx : Addr) (t : Tok) (a : Addr) (u : Tok) : x ≠ dx → h.get? x = none → h.get? dx = none → Pat w H x dx t (.ref a) → IsTup H a [.str sg u, vn, vn].toArray → DbOk w h H sg vn (.ref x)
inductive DbA (w : World) (ha : Addr) (lv : Value) (j : Bool) (T : Tr) (rg : Addr) (q1 q2 : Tok) (R : List (Addr × Obj)) (i : Nat) : List (Option Value) → List (Addr × Obj) → List Fact → Prop
  | mk {x dx : Addr} {t0 t q3 : Tok} {vn : Value} {a b : Option Value} : DbA w ha lv j T rg q1 q2 R i [some (.ref ha), some lv, some (.int (2 ^ (i + 1) - 1) t), some (.ref x), a, b] ((rg, rangeO 6 q1 q3 q2) :: (x, instObj 68 dx) :: (dx, dob w.params [Str.ofString "node"] [t0] [vn]) :: R) [trF vn (dbl (tw j) T i)]
inductive DbB (w : World) (ha : Addr) (lv : Value) (j : Bool) (T : Tr) (rg cn : Addr) (q1 q2 : Tok) (R : List (Addr × Obj)) (i : Nat) : List (Option Value) → List (Addr × Obj) → List Fact → Prop
  | mk {x dx : Addr} {t0 t q3 : Tok} {vn : Value} {a b cv : Option Value} {on : Obj} {ps : Array Value} : i ≤ 2 → TriplesOk ps.toList → on.data = .cell cv → DbB w ha lv j T rg cn q1 q2 R i [some (.ref ha), some lv, some (.int (2 ^ (i + 7) - 1) t), some (.ref x), a, b] ((rg, rangeO 4 q1 q3 q2) :: (x, instObj 68 dx) :: (dx, dob w.params [Str.ofString "node"] [t0] [vn]) :: (cn, on) :: (811, tabObj ps) :: R) [tabF dblQ ps, trF vn (dbl (tw j) T (i + 6))]
theorem dbl_good {j : Bool} {N : Tr} {i : Nat} (hi : i ≤ 2) (hs : N.size + 1 = 2 ^ (i + 6 + 1)) (hd : N.dep = i + 6 + 1) (ho : N.okc = true) : i < 2 ↔ Good 0 [(tw j N N, 1)] := by
  rw [good_one, tw_size, tw_dep, Nat.max_self]
  have h3 : i = 0 ∨ i = 1 ∨ i = 2 := (by decide : ∀ i : Nat, i < 3 → i = 0 ∨ i = 1 ∨ i = 2) i (Nat.lt_succ_of_le hi)
  clear hi
  rcases h3 with rfl | rfl | rfl
  · exact ⟨fun _ => ⟨by simp at hs; exact lin1 [_] [] (.neq (.V 0) (.K 127)) (.nle (.P (.P (.V 0) (.V 0)) (.K 1)) (.K 600)) [[1, 2]] hs okT, by exact lin1 [_] [] (.neq (.V 0) (.P (.P (.K 0) (.K 6)) (.K 1))) (.nle (.P (.V 0) (.K 1)) (.K 100)) [[1, 1]] hd okT, tw_okc j N N ho ho⟩, fun _ => by decide⟩
  · exact ⟨fun _ => ⟨by simp at hs; exact lin1 [_] [] (.neq (.V 0) (.K 255)) (.nle (.P (.P (.V 0) (.V 0)) (.K 1)) (.K 600)) [[1, 2]] hs okT, by exact lin1 [_] [] (.neq (.V 0) (.P (.P (.K 1) (.K 6)) (.K 1))) (.nle (.P (.V 0) (.K 1)) (.K 100)) [[1, 1]] hd okT, tw_okc j N N ho ho⟩, fun _ => by decide⟩
  · exact ⟨fun h => by omega, fun h => by simp at hs; exact (lin2 [_] [] (.nle (.P (.P (.V 0) (.V 0)) (.K 1)) (.K 600)) (.neq (.V 0) (.K 511)) .F [[1, 1, -2]] h.1 hs (by decide +kernel)).elim⟩
theorem dbl_few {i : Nat} (h : i < 2) : ¬ (2 * (2 ^ (i + 7) - 1) + 1 : Int) > 600 := by
  have : i = 0 ∨ i = 1 := (by decide : ∀ i : Nat, i < 2 → i = 0 ∨ i = 1) i h
  rcases this with rfl | rfl <;> decide
theorem Sx.hide1 {B : Heap} {L : Addr} {ns : List (Str × NameKind)} {vs : List (Option Value)} {fs : List Fact} {X : Prop} {x : Addr × Obj} {R : List (Addr × Obj)} (S : Sx B L h ns vs (x :: R) fs) (k : ∀ R', R' = R → Sx B L h ns vs (x :: R') fs → X) : X := k R rfl S
theorem Sx.hide3 {B : Heap} {L : Addr} {ns : List (Str × NameKind)} {vs : List (Option Value)} {fs : List Fact} {X : Prop} {x y z : Addr × Obj} {R : List (Addr × Obj)} (S : Sx B L h ns vs (x :: y :: z :: R) fs) (k : ∀ R', R' = R → Sx B L h ns vs (x :: y :: z :: R') fs → X) : X := k R rfl S
theorem Sx.hide5 {B : Heap} {L : Addr} {ns : List (Str × NameKind)} {vs : List (Option Value)} {fs : List Fact} {X : Prop} {a b c d e : Addr × Obj} {R FX : List (Addr × Obj)} (S : Sx B L h ns vs (a :: b :: c :: d :: e :: (R ++ FX)) fs) (k : ∀ R', (∀ p, Inn p R → Inn p R') → Sx B L h ns vs (a :: b :: c :: d :: e :: (R' ++ FX)) fs → X) : X := k R (fun _ m => m) S
theorem c_doubled (G : Gl w mg mb g) (hk : g.StaysIn h) (R : Rm A 650) (hl : h.IsList li ls.toArray) (hls : ls.length < 2 ^ 40) (hi : ∀ v ∈ ls, ∃ i t, v = .int i t) (hne : li ≠ ha ∧ li ∉ ((811, tabObj ps) :: FX).map (·.1)) (hha : h.get? ha = some (handO li nn zz tn tz c) ∧ g.get? ha = none) (hn : 0 ≤ nn ∧ nn ≤ 100) (hz : 0 ≤ zz ∧ zz < 2 ^ 40)
   (hps : h.get? 811 = some (tabObj ps) ∧ g.get? 811 = none) (ht : TriplesOk ps.toList) (ok : tabOk dblQ ps h)
   (hA : A.frames = some outer) (Fs : Frs outer FX) (hFX : ∀ p ∈ FX, h.get? p.1 = some p.2 ∧ g.get? p.1 = none) (hnd : (((ha, handO li nn zz tn tz c) :: (811, tabObj ps) :: FX).map (·.1)).Nodup)
   (ret : ∀ h' tk', Chg (ha :: 811 :: FX.map (·.1)) h h' → (∃ p, h'.get? 811 = some (tabObj p)) → Q (.bool true) (St s h' tk')) :
   wpAny (model pg w) A (call (.ref 816) [.ref ha]) Q E (St s h tk) := by
  have hled : ∀ p ∈ (ha, handO li nn zz tn tz c) :: (811, tabObj ps) :: FX, h.get? p.1 = some p.2 ∧ g.get? p.1 = none := mem_cons' hha (mem_cons' hps hFX)
  refine enterC ((ha, handO li nn zz tn tz c) :: (811, tabObj ps) :: FX) [some (.ref ha)] G hk (by k_is) (by k_is) (by decide +kernel) R (BindsTo.of_eq (bind_plain rfl rfl rfl (by decide +kernel))) (by dsimp only; repeat (first | exact BndC.nil | refine BndC.loc ?_ | refine BndC.cel ?_)) hA hled hnd (by decide +kernel) ?_ (by rfl) (by rfl); intro B h L tk env A cells V EC EQ ED G CA S hB hB' hL R hA hke hfe; dsimp only at V S EC CA
  have kB : Tk _ B := tk_led hB hled (mem_cons' not_tup_list (mem_cons' (ntup_tab ht) Fs.nt))
  have okB : tabOk dblQ ps B := (tabF dblQ ps).keeps _ _ kB ok
  have hlB := list_base hB hl (not_two hne)
  have hndF : (FX.map (·.1)).Nodup := (List.nodup_cons.mp (List.nodup_cons.mp hnd).2).2
  have EC : env.cells = [(Str.ofString "world", L + 1 + 1 + 1), (Str.ofString "now", L + 1 + 1), (Str.ofString "is_join", L + 1)] := EC
  have CA : CellsAre _ [(Str.ofString "world", L + 1 + 1 + 1), (Str.ofString "now", L + 1 + 1), (Str.ofString "is_join", L + 1)] cells := CA
  obtain ⟨o1, o2, o3, rfl, d1, d2, d3⟩ := CA.three
  have d1 : o1.data = .cell none := d1
  have d2 : o2.data = .cell none := d2
  have d3 : o3.data = .cell none := d3
  generalize L + 1 + 1 + 1 = cw at *
  generalize L + 1 + 1 = cn at *
  generalize L + 1 = ci at *
  simp only [List.cons_append, List.nil_append] at S
  repeat' (walk_at "ms@43_1")
  have P := S.N (ha, handO li _ _ _ _ _) (Inn.mem (by walk_at "zm@43_1"))
  refine c_given G S.stays (R.le (by exact lin0 [] [] (.nle (.K 1) (.K 649)) [[1]] okT)) (by decide) ⟨by exact lin1 [] [nn] (.A (.ile (.K 0) (.V 0)) (.ile (.V 0) (.K 100))) (.ile (.K 0) (.V 0)) [[1, 1, 0]] hn okT, by exact lin1 [] [nn] (.A (.ile (.K 0) (.V 0)) (.ile (.V 0) (.K 100))) (.ilt (.V 0) (.W 2 40)) [[1, 0, 1]] hn okT⟩ ⟨by exact lin1 [] [zz] (.A (.ile (.K 0) (.V 0)) (.ilt (.V 0) (.W 2 40))) (.ile (.K 0) (.V 0)) [[1, 1, 0]] hz okT, by exact lin1 [] [zz] (.A (.ile (.K 0) (.V 0)) (.ilt (.V 0) (.W 2 40))) (.ilt (.V 0) (.W 2 40)) [[1, 0, 1]] hz okT⟩ (hlB.at fun o e => S.F.keep _ _ e) hls hi hne.1 ⟨P.1, P.2.2⟩ ?_
  clear P
  intro r1 u1 n1 z1 tn1 tz1 c1 h tk ch e hn1 hz1 hr1
  have S := S.chg (by walk_at "zu") not_tup_list ch e
  repeat' (walk_at "ms@43_1")
  obtain ⟨lv, hlv, T, IT, LP⟩ := pick3 (P := lfP h) hr1 ⟨.len 1, ⟨_, _, _, rfl, S.inF (.s (.s .z))⟩, leaf_len⟩ ⟨.rem, ⟨_, _, rfl, S.inF (.s .z)⟩, leaf_rem⟩ ⟨.any (Str.ofString "a"), ⟨_, _, _, rfl, S.inF .z⟩, leaf_any⟩
  have S := S.fact (trF lv T) IT
  refine o_itemT ⟨_, (S.N _ (.head _)).1, rfl, _, rfl⟩ hr1.1 (by exact lin1 [] [r1] (.A (.ile (.K 0) (.V 0)) (.ilt (.V 0) (.K 3))) (.ilt (.V 0) (.W 2 63)) [[1, 0, 1]] hr1 okT) hlv ?_ (by with_unfolding_all rfl)
  repeat' (walk_at "ms@43_1")
  have P := S.N (ha, handO li _ _ _ _ _) (Inn.mem (by walk_at "zm@43_1"))
  refine c_given G S.stays (R.le (by exact lin0 [] [] (.nle (.K 1) (.K 649)) [[1]] okT)) (by decide) ⟨by exact lin1 [] [n1, nn] (.A (.ile (.K 0) (.V 0)) (.ile (.V 0) (.P (.V 1) (.K 1)))) (.ile (.K 0) (.V 0)) [[1, 1, 0]] hn1 okT, by exact lin2 [] [nn, n1] (.A (.ile (.K 0) (.V 0)) (.ile (.V 0) (.K 100))) (.A (.ile (.K 0) (.V 1)) (.ile (.V 1) (.P (.V 0) (.K 1)))) (.ilt (.V 1) (.W 2 40)) [[1, 0, 1, 0, 1]] hn hn1 okT⟩ ⟨by exact lin1 [] [z1] (.A (.ile (.K 0) (.V 0)) (.ilt (.V 0) (.W 2 40))) (.ile (.K 0) (.V 0)) [[1, 1, 0]] hz1 okT, by exact lin1 [] [z1] (.A (.ile (.K 0) (.V 0)) (.ilt (.V 0) (.W 2 40))) (.ilt (.V 0) (.W 2 40)) [[1, 0, 1]] hz1 okT⟩ (hlB.at fun o e => S.F.keep _ _ e) hls hi hne.1 ⟨P.1, P.2.2⟩ ?_
  clear P
  intro r2 u2 n2 z2 tn2 tz2 c2 h tk ch e hn2 hz2 hr2
  have S := S.chg (by walk_at "zu") not_tup_list ch e
  repeat' (walk_at "ms@43_1")
  generalize hj : (r2 == 1) = j at *
  rename Obj => oi
  clear d3
  have d3 : oi.data = .cell (some (.bool j)) := hoc
  refine c_Pattern G S.stays (R.le (by exact lin0 [] [] (.nle (.K 2) (.K 649)) [[1]] okT)) fun x1 dx1 tx1 h tk k ne m1 m2 P1 => ?_
  have S := S.gotI k ne m1 m2 P1
  repeat' (walk_at "ms@43_1")
  refine c_World G S.stays (R.le (by exact lin0 [] [] (.nle (.K 2) (.K 649)) [[1]] okT)) fun xw h tk k nw => ?_
  have S := S.call k
  repeat' (walk_at "ms@43_1")
  rename Obj => ow
  clear d1
  have d1 : ow.data = .cell (some (.ref xw)) := hoc
  refine x_for (fun _ => rfl) ?_
  repeat' (walk_at "ms@43_1")
  refine o_range S ?_
  clear S; intro rg q1 q2 h tk S
  have S := S.pad 2
  have S := S.facts1 (f1 := trF lv (dbl (tw j) T 0)) (by with_reducible_and_instances exact .s (.s .z))
  have S := S.drop (news' := (rg, rangeO 6 q1 _ q2) :: (x1, instObj 68 dx1) :: (dx1, dob w.params [Str.ofString "node"] [tx1] [lv]) :: (cw, ow) :: (cn, o2) :: (ci, oi) :: (811, tabObj ps) :: FX) (.cons_cons _ (.cons_cons _ (.cons_cons _ (.cons _ (.cons_cons _ (.cons_cons _ (.cons_cons _ (.cons _ (List.Sublist.refl _)))))))))
  refine S.hide3 fun R0 hR S => ?_
  have mi : Inn (ci, oi) R0 := hR ▸ .s (.s .z)
  refine x_for_range (n := 6) (DbA w ha lv j T rg q1 q2 R0) V R.h S (by exact .z) (by exact lin0 [] [] (.nlt (.K 6) (.W 2 62)) [[1]] okT) .mk po_no ?_ ?_
  · intro i _ _ _ t hi J
    cases J with | @mk xv dxv t0 t6 q3 vn a6 b6 => ?_
    refine ⟨_, by walk_at "zs", fun h tk p S => ?_⟩
    repeat' (walk_at "ms@43_1")
    refine b_mul (IntMulOk.of_left (by decide)) ?_
    intro t7 tk
    repeat' (walk_at "ms@43_1")
    have hv := handed_tr (show IsTr _ vn (dbl (tw j) T i) from S.ft (trF vn (dbl (tw j) T i)) (by walk_at "zf@43_1"))
    refine ite_str fun t8 tk => ?_
    repeat' (walk_at "ms@43_1")
    have e7 : (2 : Int) * (2 ^ (i + 1) - 1) + 1 = 2 ^ (i + 1 + 1) - 1 := by rw [Int.pow_succ 2 (i + 1)]; exact dbl_pow _
    refine c_Pattern G S.stays (R.le (by exact lin0 [] [] (.nle (.K 2) (.K 649)) [[1]] okT)) fun x2 dx2 tx2 h tk k ne m1 m2 P1 => ?_
    have S := S.gotI k ne m1 m2 P1
    repeat' (walk_at "ms@43_1")
    rw [e7] at S
    have io : IsTr _ vn (dbl (tw j) T i) := S.ft (trF vn (dbl (tw j) T i)) (by walk_at "zf@43_1")
    have ia : IsTr _ (.ref a) (dbl (tw j) T (i + 1)) := tw_tr (S.inF (by walk_at "zm@43_1")) io io
    have S := (S.facts0.fact (trF (.ref a) (dbl (tw j) T (i + 1))) ia)
    have S := (S.drop (news' := (x2, instObj 68 dx2) :: (dx2, dob w.params [Str.ofString "node"] [tx2] [.ref a]) :: p :: (rg, rangeO 6 q1 q3 q2) :: R0) (.cons_cons _ (.cons_cons _ (.cons_cons _ (.cons_cons _ (.cons _ (.cons _ (List.Sublist.refl _)))))))).perm ((List.perm_append_comm (l₁ := [_, _]) (l₂ := [_, _])).append_right _)
    exact lf_next S .mk
  · intro _ _ _ h tk J S
    cases J with | @mk xv dxv t0 t6 q3 vn a6 b6 => ?_
    subst hR
    repeat' (walk_at "ms@43_1")
    refine x_for (fun _ => rfl) ?_
    repeat' (walk_at "ms@43_1")
    refine o_range S ?_
    clear S; intro rg2 p1 p2 h tk S
    have S : Sx B L h _ _ ((rg2, rangeO 4 p1 _ p2) :: (xv, instObj 68 dxv) :: (dxv, dob w.params [Str.ofString "node"] [t0] [vn]) :: (cn, o2) :: (811, tabObj ps) :: ([(cw, ow), (ci, oi)] ++ FX)) _ := (S.drop (news' := (rg2, rangeO 4 p1 _ p2) :: (xv, instObj 68 dxv) :: (dxv, dob w.params [Str.ofString "node"] [t0] [vn]) :: (cw, ow) :: (cn, o2) :: (ci, oi) :: (811, tabObj ps) :: FX) (.cons_cons _ (.cons _ (List.Sublist.refl _)))).perm (.cons _ (.cons _ (.cons _ ((List.Perm.swap _ _ _).trans (.cons _ (List.perm_middle (l₁ := [_, _])))))))
    have S := S.fact (tabF dblQ ps) ((tabF dblQ ps).keeps _ _ (tk_of S) okB)
    refine S.hide5 fun R1 mR S => ?_
    have mw : Inn (cw, ow) R1 := mR _ .z
    have mi : Inn (ci, oi) R1 := mR _ (.s .z)
    clear mR
    refine x_for_range (n := 4) (DbB w ha lv j T rg2 cn p1 p2 (R1 ++ FX)) V R.h S (by exact .z) (by exact lin0 [] [] (.nlt (.K 4) (.W 2 62)) [[1]] okT) (.mk (Nat.zero_le _) ht d2) po_no ?_ ?_
    · intro i _ _ _ t hi J
      cases J with | @mk xv dxv t0 t6 q3 vn a6 b6 cv on ps3 hi2 ht3 don => ?_
      refine ⟨_, by walk_at "zs", fun h tk p S => ?_⟩
      repeat' (walk_at "ms@43_1")
      rename Obj => on2
      have d2 : on2.data = .cell (some (.ref xv)) := hoc
      have hNs := dbl_size (f := tw j) (fun a => tw_size j a a) LP.size (i + 6)
      have hNd := dbl_dep (f := tw j) (fun a => by rw [tw_dep, Nat.max_self]) LP.dep (i + 6)
      have hNo := dbl_all (P := Tr.okc) (f := tw j) (fun a h => tw_okc j a a h h) LP.okc (i + 6)
      have hNm := dbl_all (P := Tr.sm) (f := tw j) (fun a h => tw_sm j a a h h) LP.sm (i + 6)
      have hNc : (dbl (tw j) T (i + 6)).isChars = false := tw_nc j _ _
      have hio : IsTr _ vn (dbl (tw j) T (i + 6)) := S.ft (trF vn (dbl (tw j) T (i + 6))) (by walk_at "zf@43_1")
      have hvn := handed_tr hio
      generalize hN : dbl (tw j) T (i + 6) = N at *
      have hgood := dbl_good (j := j) hi2 hNs hNd hNo
      refine e_lam V G S rfl (q := dblQ) (by rw [EQ]) ED (c := 815) (P := 811) G.cd.2.2.2.1 ((closureFor_cells EC).trans rfl) (by walk_at "zm@43_1") ht3 (S.ft (tabF dblQ ps3) (by walk_at "zf@43_1")) fun ps' => ⟨_, by walk_at "zu", fun f c' ctv h tk ht' ok' hcr S => ?_⟩
      have S := S.fact (tabF dblQ ps') ok'
      repeat' (walk_at "ms@43_1")
      have hio : IsTr h vn N := S.ft (trF vn N) (by walk_at "zf@43_1")
      refine s_task (own := _ :: _ :: _ :: _ :: _ :: _ :: _ :: R1) (n := 8) (i < 2) (fun H r => DbOk w h H (if j = true then Str.ofString "cat" else Str.ofString "alt") vn r) G S (R.le (by decide)) hA Fs hndF hke hfe .z hcr (by decide +kernel) (by decide +kernel) rfl ?task ?ret ?ret23 (by rfl) (by rfl)
      case task =>
        intro A B L env FXT o2 Q Lv h tk C S
        have V := C.V
        have EC := C.EC
        have G := C.G
        have R := C.R
        have hA := C.hA
        have b1 := C.at (p := (cw, ow)) (by walk_at "zm@43_1")
        have b2 := C.at (p := (cn, on2)) (by walk_at "zm@43_1")
        have b4 := C.at (p := (ci, oi)) (by walk_at "zm@43_1")
        have I1 : Pat w B xv dxv t0 vn := ⟨C.at (p := (xv, _)) (by walk_at "zm@43_1"), C.at (p := (dxv, _)) (by walk_at "zm@43_1")⟩
        have I := IsTr.keep C.tk hio
        repeat' (walk_at "ms@43_1")
        obtain ⟨FX3, Fs3, hF3, hn3, hoff, hE3⟩ := C.call (own1 := []) S
        have nn : ∀ p ∈ FX3, B.get? p.1 = none := fun p hp => (hF3 p hp).2
        have nx : xv ∉ FX3.map (·.1) ∧ dxv ∉ FX3.map (·.1) ∧ xv ∉ FX3.map (·.1) ∧ dxv ∉ FX3.map (·.1) := ⟨base_not I1.inst nn, base_not I1.dict nn, base_not I1.inst nn, base_not I1.dict nn⟩
        have I2 := pat_stays S.stays I1
        refine ite_b (fun hjj => ?_) (fun hjj => ?_)
        · repeat' (walk_at "ms@43_1")
          have ej : joinT N N = tw j N N := by rw [joinT_cat hNc]; unfold tw; rw [if_pos hjj]
          refine c_join_values G S.stays (R.le (by decide)) I2 I2 (I.keep (tk_of S)) (I.keep (tk_of S)) (ej.symm ▸ tw_sm j N N hNm hNm) (Nn.of_not hNc) (Nn.of_not hNc) (nc_both (by rw [hNc]; rfl)) nx hA Fs3 hF3 hn3 (fun bad => hE3 fun hd => bad (ej.symm ▸ hgood.mp hd)) (fun x' dx' t' r h5 tk5 k5 ne n1 n2 P jn gd => ?_)
          obtain ⟨a', u', e, ia⟩ := jn.ne (by rw [hNc]; rfl)
          subst e
          exact C.ret (S.call k5) (fun p hp => hp) (hgood.mpr (ej ▸ gd)) ⟨x', dx', t', a', u', ne, C.new S (fun p hp => hp) n1, C.new S (fun p hp => hp) n2, P, by rw [if_pos hjj]; exact ia⟩
        · repeat' (walk_at "ms@43_1")
          have ej : tw j N N = .alt N N := by unfold tw; rw [if_neg (hjj ▸ Bool.false_ne_true)]
          refine c_either_value G S.stays (R.le (by decide)) I2 I2 (I.keep (tk_of S)) (I.keep (tk_of S)) hNm hNm nx hA Fs3 hF3 hn3 (fun bad => hE3 fun hd => bad (ej ▸ hgood.mp hd)) (fun x' dx' t' a' u' h5 tk5 k5 ne n1 n2 P ia gd => ?_)
          exact C.ret (S.call k5) (fun p hp => hp) (hgood.mpr (ej.symm ▸ gd)) ⟨x', dx', t', a', u', ne, C.new S (fun p hp => hp) n1, C.new S (fun p hp => hp) n2, P, by rw [if_neg (hjj ▸ Bool.false_ne_true)]; exact ia⟩
      case ret =>
        intro r h tk _ k hd ok
        obtain ⟨x, dx, t, aN, u, ne, m1, m2, P, ia⟩ := ok
        have S := (S.gotI k ne m1 m2 P).fact (tupF aN _) ia
        have hio2 : IsTr h vn N := S.ft (trF vn N) (by walk_at "zf@43_1")
        have hsm := dbl_few hd
        have e7 : (2 : Int) * (2 ^ (i + 7) - 1) + 1 = 2 ^ (i + 1 + 7) - 1 := by rw [show i + 1 + 7 = (i + 7) + 1 by exact lin0 [i] [] (.neq (.P (.P (.V 0) (.K 1)) (.K 7)) (.P (.P (.V 0) (.K 7)) (.K 1))) [[1], [1]] okT, Int.pow_succ 2 (i + 7)]; omega
        repeat' (walk_at "ms@43_1")
        refine b_mul (IntMulOk.of_left (by decide)) ?_
        intro t7 tk
        repeat' (walk_at "ms@43_1")
        refine it_df hsm ?_
        repeat' (walk_at "ms@43_1")
        refine c_node_of_pat G S.stays (R.le (by exact lin0 [] [] (.nle (.K 1) (.K 649)) [[1]] okT)) (S.ins .z (.s .z)) rfl fun h tk k => ?_
        have S := S.call k
        repeat' (walk_at "ms@43_1")
        refine ite_str fun t8 tk => ?_
        repeat' (walk_at "ms@43_1")
        refine it_is (y := false) (by rw [beq_self_eq_true]; rfl) (it_f ?_)
        repeat' (walk_at "ms@43_1")
        rw [e7] at S
        have io : IsTr _ vn N := S.ft (trF vn N) (by walk_at "zf@43_1")
        have ia2 : IsTr h (.ref aN) (dbl (tw j) T (i + 1 + 6)) := by
          rw [show i + 1 + 6 = (i + 6) + 1 by exact lin0 [i] [] (.neq (.P (.P (.V 0) (.K 1)) (.K 6)) (.P (.P (.V 0) (.K 6)) (.K 1))) [[1], [1]] okT]
          show IsTr h (.ref aN) (tw j (dbl (tw j) T (i + 6)) (dbl (tw j) T (i + 6)))
          rw [hN]
          exact tw_tr (S.inF (by walk_at "zm@43_1")) io io
        have S := (S.fact (trF (.ref aN) (dbl (tw j) T (i + 1 + 6))) ia2).facts2 (f1 := tabF dblQ ps') (f2 := trF (.ref aN) (dbl (tw j) T (i + 1 + 6))) (by walk_at "zm@43_1") .z
        have S := (S.drop (news' := (x, instObj 68 dx) :: (dx, dob w.params [Str.ofString "node"] [t] [.ref aN]) :: p :: (rg2, rangeO 4 p1 q3 p2) :: (cn, on2) :: (811, tabObj ps') :: (R1 ++ FX)) (.cons_cons _ (.cons_cons _ (.cons _ (.cons_cons _ (.cons_cons _ (.cons _ (.cons _ (List.Sublist.refl _))))))))).perm ((List.perm_append_comm (l₁ := [_, _]) (l₂ := [_, _])).append_right _)
        exact lf_next S (.mk (Nat.succ_le_of_lt hd) ht' d2)
      case ret23 =>
        intro hd u h FX' tk Fs' nd' S
        have S : Sx B L h _ _ (p :: (rg2, rangeO 4 p1 q3 p2) :: (xv, instObj 68 dxv) :: (dxv, dob w.params [Str.ofString "node"] [t0] [vn]) :: (cn, on2) :: (811, tabObj ps') :: (R1 ++ FX')) _ := S.drop (List.sublist_cons_self _ _)
        obtain rfl : i = 2 := Nat.le_antisymm hi2 (Nat.le_of_not_lt hd)
        repeat' (walk_at "ms@43_1")
        refine lf_ret ?_
        repeat' (walk_at "ms@43_1")
        exact ret _ _ (stayC S hB) ⟨_, (S.N (811, tabObj _) (Inn.mem (by walk_at "zm@43_1"))).1⟩
    · intro _ _ _ h tk J
      cases J with | mk q => exact absurd q (by decide)
end
section
set_option maxHeartbeats 2000000
variable {w : World} {mg mb : Str → Option Value} {g : Heap} {A : Around} {s : Shared} {Q E : Value → Shared → Prop} {h : Heap} {tk n : Nat}

theorem b_smul {x : Str} {n : Nat} {t u : Tok} {Q : Value → Shared → Prop} (hx : x.length = 1) (h1 : n ≤ 30000) (k : ∀ t' tk', Q (.str (Txt.mul x n) t') (St s h tk')) : wpAny (model pg w) A (binaryOp .Mult (.str x t) (.int n u)) Q E (St s h tk) :=
  SB.mul (s := St s h tk) (mulOk_of 1 30000 (Nat.le_of_eq hx) (Int.ofNat_le.mpr h1) (Int.le_trans (by decide) (Int.natCast_nonneg n)) (by decide) (by decide)) (fun t' k' => k t' k')
theorem smul_len {x : Str} {n : Nat} (hx : x.length = 1) : (Txt.mul x n).length = n := by
  have := len_mul_k1 (n := n) hx
  rw [if_neg (Int.not_lt.mpr (Int.natCast_nonneg n))] at this
  exact Int.ofNat.inj (this.trans (Int.one_mul _))
variable {outer : List Env} {FX : List (Addr × Obj)} {ha li : Addr} {nn zz : Int} {tn tz : Tok} {c : Nat} {ls : List Value} {ps : Array Value}
noncomputable abbrev txtQ : Str := Str.ofString "_law_texts_right" ++ ".<locals>." ++ "<lambda>"
theorem le_size {n : Nat} (h : n < 2 ^ 20) : n ≤ sizeLine := by unfold sizeLine; exact lin1 [n] [] (.nlt (.V 0) (.W 2 20)) (.nle (.V 0) (.W 2 24)) [[1, 1]] h okT
theorem good_chars {y : Str} : Good 0 [(.chars y, 1)] ↔ y.length ≤ 20000 := by
  rw [good_one]
  exact ⟨fun h => of_decide_eq_true h.2.2, fun h => ⟨Nat.le_of_ble_eq_true rfl, Nat.le_of_ble_eq_true rfl, decide_eq_true h⟩⟩
theorem str_app (x y : Str) : (x ++ y).length = x.length + y.length := Str.length_append x y
theorem nn_len {x : Str} (h : 1 ≤ x.length) : Nn (.chars x) := fun y e => by
  cases e
  cases q : (x == Str.ofString "") with
  | false => rfl
  | true =>
    have := eq_of_beq q
    rw [this] at h
    exact absurd h (by decide +kernel)
inductive TxOk (w : World) (h H : Heap) (y : Str) : Value → Prop
  | mk (x dx : Addr) (t : Tok) (a : Addr) (u u2 : Tok) : x ≠ dx → h.get? x = none → h.get? dx = none → Pat w H x dx t (.ref a) → IsTup H a [.str (Str.ofString "chars") u, .str y u2].toArray → TxOk w h H y (.ref x)
inductive TxJ (ha ta : Addr) (M : Nat) (u5 u6 : Tok) (cr co cp : Addr) (om : Addr × Obj) (FX : List (Addr × Obj)) (i : Nat) : List (Option Value) → List (Addr × Obj) → List Fact → Prop
  | mk {a cR cO cP : Option Value} {oR oO oP : Obj} {ps : Array Value} : i ≤ 1 → TriplesOk ps.toList → oR.data = .cell cR → oO.data = .cell cO → oP.data = .cell cP → TxJ ha ta M u5 u6 cr co cp om FX i [some (.ref ha), a] ((cr, oR) :: (co, oO) :: (cp, oP) :: om :: (780, tabObj ps) :: FX) [tupF ta [.int (20000 - (M : Int)) u5, .int (20001 - (M : Int)) u6].toArray, tabF txtQ ps]
theorem two_at {M : Nat} {u5 u6 : Tok} {z : Value} {i : Nat} (hM : M ≤ 20000) (h : i ≤ 1) (e : [Value.int (20000 - (M : Int)) u5, .int (20001 - (M : Int)) u6][i]? = some z) : ∃ (V : Nat) (rt : Tok), z = .int V rt ∧ M + V = 20000 + i := by
  rcases Nat.le_one_iff_eq_zero_or_eq_one.mp h with rfl | rfl
  · cases e; exact ⟨20000 - M, _, congrArg (fun x => Value.int x u5) (Int.ofNat_sub hM).symm, Nat.add_sub_cancel' hM⟩
  · cases e; exact ⟨20001 - M, _, congrArg (fun x => Value.int x u6) (Int.ofNat_sub (Nat.le_succ_of_le hM)).symm, Nat.add_sub_cancel' (Nat.le_succ_of_le hM)⟩
theorem c_texts (G : Gl w mg mb g) (hk : g.StaysIn h) (R : Rm A 650) (hl : h.IsList li ls.toArray) (hls : ls.length < 2 ^ 40) (hi : ∀ v ∈ ls, ∃ i t, v = .int i t) (hne : li ≠ ha ∧ li ∉ ((780, tabObj ps) :: FX).map (·.1)) (hha : h.get? ha = some (handO li nn zz tn tz c) ∧ g.get? ha = none) (hn : 0 ≤ nn ∧ nn ≤ 100) (hz : 0 ≤ zz ∧ zz < 2 ^ 40)
   (hps : h.get? 780 = some (tabObj ps) ∧ g.get? 780 = none) (ht : TriplesOk ps.toList) (ok : tabOk txtQ ps h)
   (hA : A.frames = some outer) (Fs : Frs outer FX) (hFX : ∀ p ∈ FX, h.get? p.1 = some p.2 ∧ g.get? p.1 = none) (hnd : (((ha, handO li nn zz tn tz c) :: (780, tabObj ps) :: FX).map (·.1)).Nodup)
   (ret : ∀ h' tk', Chg (ha :: 780 :: FX.map (·.1)) h h' → (∃ p, h'.get? 780 = some (tabObj p)) → Q (.bool true) (St s h' tk')) :
   wpAny (model pg w) A (call (.ref 785) [.ref ha]) Q E (St s h tk) := by
  have hled : ∀ p ∈ (ha, handO li nn zz tn tz c) :: (780, tabObj ps) :: FX, h.get? p.1 = some p.2 ∧ g.get? p.1 = none := mem_cons' hha (mem_cons' hps hFX)
  refine enterC ((ha, handO li nn zz tn tz c) :: (780, tabObj ps) :: FX) [some (.ref ha)] G hk (by k_is) (by k_is) (by decide +kernel) R (BindsTo.of_eq (bind_plain rfl rfl rfl (by decide +kernel))) (by dsimp only; repeat (first | exact BndC.nil | refine BndC.loc ?_ | refine BndC.cel ?_)) hA hled hnd (by decide +kernel) ?_ (by rfl) (by rfl); intro B h L tk env A cells V EC EQ ED G CA S hB hB' hL R hA hke hfe; dsimp only at V S EC CA
  have kB : Tk _ B := tk_led hB hled (mem_cons' not_tup_list (mem_cons' (ntup_tab ht) Fs.nt))
  have okB : tabOk txtQ ps B := (tabF txtQ ps).keeps _ _ kB ok
  have hlB := list_base hB hl (not_two hne)
  have hndF : (FX.map (·.1)).Nodup := (List.nodup_cons.mp (List.nodup_cons.mp hnd).2).2
  have EC : env.cells = [(Str.ofString "rest", L + 1 + 1 + 1 + 1), (Str.ofString "other", L + 1 + 1 + 1), (Str.ofString "one", L + 1 + 1), (Str.ofString "many", L + 1)] := EC
  have CA : CellsAre _ [(Str.ofString "rest", L + 1 + 1 + 1 + 1), (Str.ofString "other", L + 1 + 1 + 1), (Str.ofString "one", L + 1 + 1), (Str.ofString "many", L + 1)] cells := CA
  obtain ⟨o1, o2, o3, o4, rfl, d1, d2, d3, d4⟩ := CA.four
  have d1 : o1.data = .cell none := d1
  have d2 : o2.data = .cell none := d2
  have d3 : o3.data = .cell none := d3
  have d4 : o4.data = .cell none := d4
  generalize L + 1 + 1 + 1 + 1 = cr at *
  generalize L + 1 + 1 + 1 = co at *
  generalize L + 1 + 1 = cp at *
  generalize L + 1 = cm at *
  simp only [List.cons_append, List.nil_append] at S
  repeat' (walk_at "ms@44_1")
  have P := S.N (ha, handO li _ _ _ _ _) (Inn.mem (by walk_at "zm"))
  refine c_given G S.stays (R.le (by exact lin0 [] [] (.nle (.K 1) (.K 649)) [[1]]  okT)) (by decide) ⟨by exact lin1 [] [nn] (.A (.ile (.K 0) (.V 0)) (.ile (.V 0) (.K 100))) (.ile (.K 0) (.V 0)) [[1, 1, 0]] hn okT, by exact lin1 [] [nn] (.A (.ile (.K 0) (.V 0)) (.ile (.V 0) (.K 100))) (.ilt (.V 0) (.W 2 40)) [[1, 0, 1]] hn okT⟩ ⟨by exact lin1 [] [zz] (.A (.ile (.K 0) (.V 0)) (.ilt (.V 0) (.W 2 40))) (.ile (.K 0) (.V 0)) [[1, 1, 0]] hz okT, by exact lin1 [] [zz] (.A (.ile (.K 0) (.V 0)) (.ilt (.V 0) (.W 2 40))) (.ilt (.V 0) (.W 2 40)) [[1, 0, 1]] hz okT⟩ (hlB.at fun o e => S.F.keep _ _ e) hls hi hne.1 ⟨P.1, P.2.2⟩ ?_
  clear P
  intro r1 u1 n1 z1 tn1 tz1 c1 h tk ch e hn1 hz1 hr1
  have S := S.chg (by walk_at "zu") not_tup_list ch e
  repeat' (walk_at "ms@44_1")
  rename Obj => om
  clear d4
  obtain ⟨M, hm, hM⟩ : ∃ M : Nat, (M : Int) = 1 + r1 ∧ 1 ≤ M ∧ M ≤ 19999 := ⟨_, toN (lo := 1) (hi := 19999) (by omega) (by omega)⟩
  rw [← hm] at hoc
  have d4 := hoc
  refine x_for (fun _ => rfl) ?_
  repeat' (walk_at "ms@44_1")
  (rename Sx _ _ _ _ _ _ _ => a); rename_i ta; (rename Sx _ _ _ _ _ _ _ => S)
  have S := S.pad 1
  have S := S.fact (tabF txtQ ps) ((tabF txtQ ps).keeps _ _ (tk_of S) okB)
  obtain ⟨u5, u6, iti⟩ : ∃ u5 u6 : Tok, IsTup h ta [.int (20000 - (M : Int)) u5, .int (20001 - (M : Int)) u6].toArray := ⟨_, _, S.inF (.s .z)⟩
  clear hm hr1
  have S := (S.facts1 (f1 := tabF txtQ ps) .z).fact (tupF ta _) iti
  have S := S.drop (news' := (cr, o1) :: (co, o2) :: (cp, o3) :: (cm, om) :: (780, tabObj ps) :: FX) (.cons_cons _ (.cons_cons _ (.cons_cons _ (.cons_cons _ (.cons _ (List.Sublist.refl _))))))
  refine x_for_tup (items := [.int (20000 - (M : Int)) u5, .int (20001 - (M : Int)) u6]) (TxJ ha ta M u5 u6 cr co cp (cm, om) FX) (fun _ _ => rfl) R.h S (.mk (Nat.zero_le _) ht d1 d2 d3) po_no ?_ ?_ ?_
  · intro i _ _ _ h J S
    cases J
    exact S.inF .z
  · intro i _ _ _ z h tk p hz J S
    cases J with | @mk a6 cR cO cP oR oO oP ps3 hi1 ht3 dR dO dP => ?_
    refine x2_2 (two_at (Nat.le_succ_of_le hM.2) hi1 hz) fun Vn rt ez hrv => ?_; subst ez
    have hV : 1 ≤ Vn ∧ Vn ≤ 20001 := by clear hz; exact lin3 [M, i, Vn] [] (.A (.nle (.K 1) (.V 0)) (.nle (.V 0) (.K 19999))) (.nle (.V 1) (.K 1)) (.neq (.P (.V 0) (.V 2)) (.P (.K 20000) (.V 1))) (.A (.nle (.K 1) (.V 2)) (.nle (.V 2) (.K 20001))) [[1, 0, 1, 0, -1], [1, 1, 0, 1, 1]] hM hi1 hrv (by decide +kernel)
    clear d1 d2 d3
    repeat' (walk_at "ms@44_1")
    rename Obj => or2
    have d1 : or2.data = .cell (some (.int Vn rt)) := hoc
    refine b_smul (by decide +kernel) (Nat.le_trans hM.2 (by decide)) fun t8 tk => ?_
    obtain ⟨xa, hxa⟩ : ∃ z, z = Txt.mul (Str.ofString "a") M := ⟨_, rfl⟩
    have hla : xa.length = M := hxa ▸ smul_len (by decide +kernel)
    rw [← hxa]
    repeat' (walk_at "ms@44_1")
    (rename Sx _ _ _ _ _ _ _ => a); rename_i aA; (rename Sx _ _ _ _ _ _ _ => S)
    refine c_Pattern G S.stays (R.le (by exact lin0 [] [] (.nle (.K 2) (.K 649)) [[1]]  okT)) fun x1 dx1 tx1 h tk k ne m1 m2 P1 => ?_
    have S := S.gotI k ne m1 m2 P1
    repeat' (walk_at "ms@44_1")
    refine b_smul (by decide +kernel) (Nat.le_trans hV.2 (by decide)) fun t9 tk => ?_
    obtain ⟨yb, hyb⟩ : ∃ z, z = Txt.mul (Str.ofString "b") Vn := ⟨_, rfl⟩
    have hlb : yb.length = Vn := hyb ▸ smul_len (by decide +kernel)
    rw [← hyb]
    repeat' (walk_at "ms@44_1")
    (rename Sx _ _ _ _ _ _ _ => a); rename_i aB; (rename Sx _ _ _ _ _ _ _ => S)
    refine c_Pattern G S.stays (R.le (by exact lin0 [] [] (.nle (.K 2) (.K 649)) [[1]]  okT)) fun x2 dx2 tx2 h tk k ne2 m3 m4 P2 => ?_
    have S := S.gotI k ne2 m3 m4 P2
    repeat' (walk_at "ms@44_1")
    have hlab : (xa ++ yb).length = 20000 + i := by rw [str_app, hla, hlb]; exact hrv
    have hgood : i < 1 ↔ Good 0 [(.chars (xa ++ yb), 1)] := by rw [good_chars, hlab]; exact ⟨fun h => Nat.add_le_add_left (Nat.le_of_lt_succ h) 20000, fun h => Nat.lt_succ_of_le (Nat.le_of_add_le_add_left (a := 20000) h)⟩
    have hl20 : (xa ++ yb).length < 2 ^ 20 := hlab ▸ Nat.lt_of_le_of_lt (Nat.add_le_add_left hi1 20000) (by decide)
    have IA : IsTr h (.ref aA) (.chars xa) := ⟨aA, _, _, rfl, S.inF (.s (.s .z))⟩
    have IB : IsTr h (.ref aB) (.chars yb) := ⟨aB, _, _, rfl, S.inF (.s .z)⟩
    have S := (S.fact (trF (.ref aA) (.chars xa)) IA).fact (trF (.ref aB) (.chars yb)) IB
    refine e_lam V G S rfl (q := txtQ) (by rw [EQ]) ED (c := 784) (P := 780) G.cd.2.1 ((closureFor_cells EC).trans rfl) (by walk_at "zm") ht3 (S.ft (tabF txtQ ps3) (by walk_at "zf")) fun ps' => ⟨_, by walk_at "zu", fun f c' ctv h tk ht' ok' hcr S => ?_⟩
    have S := S.fact (tabF txtQ ps') ok'
    repeat' (walk_at "ms@44_1")
    have I0A : IsTr h (.ref aA) (.chars xa) := S.ft (trF (.ref aA) (.chars xa)) (by walk_at "zf")
    have I0B : IsTr h (.ref aB) (.chars yb) := S.ft (trF (.ref aB) (.chars yb)) (by walk_at "zf")
    refine s_task (own := [_, _, _, _, _, _, _, _, _, _, _]) (n := 8) (i < 1) (fun H r => TxOk w h H (xa ++ yb) r) G S (R.le (by decide)) hA Fs hndF hke hfe .z hcr (by decide +kernel) (by decide +kernel) rfl ?task ?ret ?ret23 (by rfl) (by rfl)
    case task =>
      intro A B L env FXT o2 Q Lv h tk C S
      have V := C.V
      have EC := C.EC
      have G := C.G
      have R := C.R
      have hA := C.hA
      have b2 := C.at (p := (co, _)) (by walk_at "zm")
      have b3 := C.at (p := (cp, _)) (by walk_at "zm")
      have I1 : Pat w B x1 dx1 tx1 (.ref aA) := ⟨C.at (p := (x1, _)) (by walk_at "zm"), C.at (p := (dx1, _)) (by walk_at "zm")⟩
      have I2 : Pat w B x2 dx2 tx2 (.ref aB) := ⟨C.at (p := (x2, _)) (by walk_at "zm"), C.at (p := (dx2, _)) (by walk_at "zm")⟩
      have IA := IsTr.keep C.tk I0A
      have IB := IsTr.keep C.tk I0B
      repeat' (walk_at "ms@44_1")
      refine c_World G S.stays (R.le (by decide)) fun xw h tk k nw => ?_
      have S := S.call k
      repeat' (walk_at "ms@44_1")
      obtain ⟨FX3, Fs3, hF3, hn3, hoff, hE3⟩ := C.call (own1 := []) S
      have nn : ∀ p ∈ FX3, B.get? p.1 = none := fun p hp => (hF3 p hp).2
      refine c_join_values G S.stays (R.le (by decide)) (pat_stays S.stays I1) (pat_stays S.stays I2) (IA.keep (tk_of S)) (IB.keep (tk_of S)) (decide_eq_true hl20 : (Tr.chars (xa ++ yb)).sm = true) (nn_len (hla.symm ▸ hM.1)) (nn_len (hlb.symm ▸ hV.1)) (fun x y e1 e2 => by cases e1; cases e2; rw [← str_app]; exact le_size hl20) ⟨base_not I1.inst nn, base_not I1.dict nn, base_not I2.inst nn, base_not I2.dict nn⟩ hA Fs3 hF3 hn3 (fun bad => hE3 fun hd => bad (hgood.mp hd)) (fun x' dx' t' r h5 tk5 k5 ne n1 n2 P jn gd => ?_)
      obtain ⟨a', u', u'', e, ia⟩ := jn
      subst e
      exact C.ret (S.call k5) (fun p hp => hp) (hgood.mpr gd) ⟨x', dx', t', a', u', u'', ne, C.new S (fun p hp => hp) n1, C.new S (fun p hp => hp) n2, P, ia⟩
    case ret =>
      intro r h tk _ k hd ok
      obtain ⟨x, dx, t, aN, u, u2, ne, m1, m2, P, ia⟩ := ok
      have S := (S.gotI k ne m1 m2 P).fact (tupF aN _) ia
      repeat' (walk_at "ms@44_1")
      refine it_df (by exact lin2 [M, Vn, i] [] (.neq (.P (.V 0) (.V 1)) (.P (.K 20000) (.V 2))) (.nlt (.V 2) (.K 1)) (.no (.ilt (.K 20000) (.P (.C (.V 1)) (.C (.V 0))))) [[1, 1, 1]] hrv hd okT) ?_
      repeat' (walk_at "ms@44_1")
      refine c_node_of_pat G S.stays (R.le (by decide)) (S.ins .z (.s .z)) rfl fun h tk k => ?_
      have S := S.call k
      repeat' (walk_at "ms@44_1")
      refine b_smul (by decide +kernel) (Nat.le_trans hM.2 (by decide)) fun t8 tk => ?_
      rw [← hxa]
      repeat' (walk_at "ms@44_1")
      refine b_smul (by decide +kernel) (Nat.le_trans hV.2 (by decide)) fun t9 tk => ?_
      rw [← hyb]
      repeat' (walk_at "ms@44_1")
      refine it_is (y := false) (by simp) (it_f ?_)
      repeat' (walk_at "ms@44_1")
      have S := S.facts2 (f1 := tupF ta [.int (20000 - (M : Int)) u5, .int (20001 - (M : Int)) u6].toArray) (f2 := tabF txtQ ps') (by walk_at "zm") (by walk_at "zm")
      have S := S.drop (news' := p :: (cr, or2) :: (co, _) :: (cp, _) :: (cm, om) :: (780, tabObj ps') :: FX) (.cons _ (.cons _ (.cons _ (.cons _ (.cons _ (.cons _ (.cons _ (List.Sublist.refl _))))))))
      exact lf_next S (.mk (by exact lin1 [i] [] (.nlt (.V 0) (.K 1)) (.nle (.P (.V 0) (.K 1)) (.K 1)) [[1, 1]] hd okT) ht' d1 (by assumption) (by assumption))
    case ret23 =>
      intro hd u h FX' tk Fs9 nd9 S
      have S : Sx B L h _ _ (_ :: _ :: _ :: _ :: _ :: _ :: _ :: _ :: _ :: _ :: FX') _ := S.drop (List.sublist_cons_self _ _)
      repeat' (walk_at "ms@44_1")
      refine it_dt (by exact lin2 [M, Vn, i] [] (.neq (.P (.V 0) (.V 1)) (.P (.K 20000) (.V 2))) (.no (.nlt (.V 2) (.K 1))) (.ilt (.K 20000) (.P (.C (.V 1)) (.C (.V 0)))) [[1, -1, 1]] hrv hd (by decide +kernel)) ?_
      repeat' (walk_at "ms@44_1")
      refine e_lam V G S rfl (q := txtQ) (by rw [EQ]) ED (c := 784) (P := 780) G.cd.2.1 ((closureFor_cells EC).trans rfl) (by walk_at "zm") ht' (S.ft (tabF txtQ ps') (by walk_at "zf")) fun ps9 => ⟨_, by walk_at "zu", fun f9 c9 ctv9 h tk ht9 ok9 hcr9 S => ?_⟩
      have S := S.fact (tabF txtQ ps9) ok9
      repeat' (walk_at "ms@44_1")
      refine s_task (own := [_, _, _, _, _, _, _, _, _, _, _]) (n := 8) False (fun _ _ => True) G S (R.le (by decide)) hA Fs9 nd9 hke hfe .z hcr9 (by decide +kernel) (by decide +kernel) rfl ?task2 (fun _ _ _ _ _ p => p.elim) ?ret232 (by rfl) (by rfl)
      case task2 =>
        intro A B L env FXT o2 Q Lv h tk C S
        have V := C.V
        have EC := C.EC
        have G := C.G
        have R := C.R
        have hA := C.hA
        have b2 := C.at (p := (cr, _)) (by walk_at "zm")
        have b3 := C.at (p := (cm, _)) (by walk_at "zm")
        repeat' (walk_at "ms@44_1")
        rw [← Int.natCast_add]
        refine b_smul (by decide +kernel) (by exact lin2 [i, M, Vn] [] (.nle (.V 0) (.K 1)) (.neq (.P (.V 1) (.V 2)) (.P (.K 20000) (.V 0))) (.nle (.P (.V 1) (.V 2)) (.K 30000)) [[1, 1, 1]] hi1 hrv okT) fun t8 tk => ?_
        obtain ⟨xc, hxc⟩ : ∃ z, z = Txt.mul (Str.ofString "c") (M + Vn : Nat) := ⟨_, rfl⟩
        have hlc : xc.length = 20000 + i := hxc ▸ (smul_len (by decide +kernel)).trans hrv
        rw [← hxc]
        repeat' (walk_at "ms@44_1")
        obtain ⟨FX3, Fs3, hF3, hn3, hoff, hE3⟩ := C.call (own1 := []) S
        have bad : ¬ Good 0 [(.chars xc, 1)] := by rw [good_chars, hlc]; exact lin1 [i] [] (.no (.nlt (.V 0) (.K 1))) (.no (.nle (.P (.K 20000) (.V 0)) (.K 20000))) [[1, 1]] hd okT
        exact c_checked (T := .chars xc) G S.stays (R.le (by decide)) ⟨_, _, _, rfl, S.inF .z⟩ (decide_eq_true (hlc ▸ hlab ▸ hl20)) hA Fs3 hF3 hn3 (fun _ => hE3 fun q => q) (fun h5 tk5 k5 gd => absurd gd bad)
      case ret232 =>
        intro _ u h FX5 tk Fs5 nd5 S
        have S : Sx B L h _ _ (_ :: _ :: _ :: _ :: _ :: _ :: _ :: _ :: _ :: _ :: FX5) _ := S.drop (List.sublist_cons_self _ _)
        repeat' (walk_at "ms@44_1")
        refine lf_ret ?_
        repeat' (walk_at "ms@44_1")
        exact ret _ _ (stayC S hB) ⟨_, (S.N (780, tabObj _) (Inn.mem (by walk_at "zm"))).1⟩
  · intro _ _ _ h tk J
    cases J with | mk q => exact absurd q (Nat.not_succ_le_self 1)
end
section
set_option maxHeartbeats 2000000
variable {w : World} {mg mb : Str → Option Value} {g : Heap} {A : Around} {s : Shared} {Q E : Value → Shared → Prop} {h : Heap} {tk n : Nat}

section
variable {B : Heap} {env : Env} {L : Addr} {ns nsC : List (Str × NameKind)} {vs : List (Option Value)}
theorem x_compR {elt iter : Expr} {x : Str} {px : Pos} {scope : Scope} {cl : List (Str × Addr)} {pos : Pos} {Q : Value → Shared → Prop} {n : Nat} (J : Nat → List Value → List (Addr × Obj) → List Fact → Prop) (Kv : List (Option Value) → Prop) (kv : Nat)
    (V : Ev env ns L) (hh : A.handled = none) (hclos : closureFor scope env = pure cl) (hcell : ∀ y ∈ scope.names, y.2 ≠ .cell) (hnames : ∀ y ∈ scope.names, y.2 = .local → scope.names.lookup y.1 = some .local)
    (hrel : (relabel scope env).names = nsC) (hwf : wfS { scope with names := nsC } = true) (hkd : scope.kind = .function) (hn : n < 2 ^ 20) (hKv : Kv (List.replicate kv none))
    (h : wpAny (model pg w) A (eval iter env) (CmR s B L ns vs (J 0 []) (n : Int)) E s)
    (turn : ∀ i ys news fs t h tk p1 p2 p3 C vsC cenv, i < n → J i ys news fs → Kv vsC → Ev cenv nsC C → cenv.cells = cl → Sx B C h nsC vsC (p1 :: p2 :: p3 :: news) fs →
      wpAny (model pg w) A (assign (.Name x px) cenv (.int (i : Int) t)) (fun _ s₂ => wpAny (model pg w) A (eval elt cenv) (fun y => CmE s B C nsC p1 p2 p3 Kv (J (i + 1) (ys ++ [y]))) (fun _ _ => False) s₂) (fun _ _ => False) (St s h tk))
    (done : ∀ ys news fs D c h tk, J n ys news fs → Sx B L h ns vs ((D, listOf ys.toArray c) :: news) fs → Q (.ref D) (St s h tk))
    (hs : ∀ x, foldedSetIterable iter env x = pure x) :
    wpAny (model pg w) A (eval (.ListComp elt [⟨.Name x px, iter, [], 0⟩] scope pos) env) Q E s := by
  refine x_comp (n := n) (P := fun i v => ∃ t, v = .int (0 + (i : Int)) t) (It := fun I i o => o = { cls := .type "range_iterator", data := .fields #[rawInt (0 + (i : Nat) * 1), rawInt ((n : Int) - (i : Nat)), rawInt 1] }) (Ok := fun _ _ => True) J Kv kv V hclos hcell hnames hrel hwf hkd (by unfold sizeLine; exact lin1 [n] [] (.nlt (.V 0) (.W 2 20)) (.nle (.V 0) (.W 2 24)) [[1, 1]] hn okT) hKv ?_ ?_ ?_ ?_ ?_ (fun _ _ _ _ _ _ _ _ _ _ _ _ _ => trivial) ?_ ?_ done hs
  · rintro I i o rfl
    exact ntup_int rfl rfl
  · rintro I i o s v Q E ho rfl hQ
    exact wpAny_pure hQ
  · rintro I o s Q E ho rfl hQ
    exact wpAny_pyIter_rangeiter ho hQ
  · rintro I i o s Q E hi ho rfl _ hQ
    refine (LCg.range_walks (prog := pg) (w := w) (A := A) (I := I) hh 0 n).item i s Q E hi ho fun v h' tk hP hI hk => ?_
    exact hQ v h' _ tk hP hI rfl fun b x hb e => hk b x (by simp [hb]) e
  · rintro I o s Q E ho rfl _ hQ
    exact (LCg.range_walks (prog := pg) (w := w) (A := A) (I := I) hh 0 n).done s Q E ho fun h' tk hk => hQ h' tk fun b x hb e => hk b x (by simp [hb]) e
  · refine wpAny_mono h (fun y s₁ h₁ => ?_) fun _ _ z => z
    cases h₁ with | @mk r t u v h tk news fs S m h0 => ?_
    have hr : IsRange (St s h tk).heap r 0 n 1 t u v := (S.N _ m).1
    refine wpAny_pyIter_range (s := St s h tk) hr (small_one (by decide) (by decide) (by omega) (by exact lin1 [n] [] (.nlt (.V 0) (.W 2 20)) (.ilt (.C (.V 0)) (.W 2 62)) [[1, 1]] hn okT)) ?_
    have S1 := S.push (a := h.objs.size) (o := { cls := .type "range_iterator", data := .fields #[rawInt 0, rawInt (Builtin.Range.rangeSize 0 n 1), rawInt 1] }) (S.F.push _) (News.push S.F (S.all []) _ rfl) S.none_size
    have hsz : Builtin.Range.rangeSize 0 (n : Int) 1 = (n : Int) := by rw [rangeSize_one]; split <;> omega
    rw [hsz] at S1 ⊢
    exact .mk S1 (by simp) h0
  · rintro i ys news fs v h tk p1 p2 p3 C vsC cenv hi ⟨t, rfl⟩
    rw [Int.zero_add]
    exact turn i ys news fs t h tk p1 p2 p3 C vsC cenv hi
end
end
section
set_option maxHeartbeats 2000000
variable {w : World} {mg mb : Str → Option Value} {g : Heap} {A : Around} {s : Shared} {Q E : Value → Shared → Prop} {h : Heap} {tk n : Nat}

variable {outer : List Env} {FX : List (Addr × Obj)} {ha li : Addr} {nn zz : Int} {tn tz : Tok} {c : Nat} {ls : List Value} {ps ps2 : Array Value}
noncomputable abbrev deepQ : Str := Str.ofString "_law_deep_right" ++ ".<locals>." ++ "<lambda>"
structure Wrd (r : Addr) (i : Nat) (T : Tr) : Prop where
  w : Wt T
  refs : T.refs r
  dep : T.dep = i + 1
  size : T.size ≤ 2 * i + 1
  okc : T.okc = true
  sm : T.sm = true
  nc : i ≠ 0 → T.isChars = false
theorem Wrd.arb {r i T} (W : Wrd r i T) : Wrd r (i + 1) (.arb T) := ⟨.arb W.w, W.refs, by simp only [dpq, W.dep], by have := W.size; simp only [szq]; exact lin1 [_, i] [] (.nle (.V 0) (.P (.M 2 (.V 1)) (.K 1))) (.nle (.P (.V 0) (.K 1)) (.P (.M 2 (.P (.V 1) (.K 1))) (.K 1))) [[1, 1]] this okT, W.okc, W.sm, fun _ => rfl⟩
theorem Wrd.lat {r i T} (W : Wrd r i T) : Wrd r (i + 1) (.lat T r) := ⟨.lat W.w, ⟨rfl, W.refs⟩, by simp only [dpq, W.dep], by have := W.size; simp only [szq]; exact lin1 [_, i] [] (.nle (.V 0) (.P (.M 2 (.V 1)) (.K 1))) (.nle (.P (.V 0) (.K 1)) (.P (.M 2 (.P (.V 1) (.K 1))) (.K 1))) [[1, 1]] this okT, W.okc, W.sm, fun _ => rfl⟩
theorem Wrd.alt {r i T} (W : Wrd r i T) : Wrd r (i + 1) (.alt .fail T) := ⟨.alt W.w, W.refs, by simp only [dpq, W.dep, Nat.max_eq_right (Nat.succ_le_succ (Nat.zero_le _))], by have := W.size; simp only [szq]; omega, W.okc, W.sm, fun _ => rfl⟩
theorem Wrd.cat {r i T} (W : Wrd r i T) : Wrd r (i + 1) (.cat (.len 0) T) := ⟨.cat W.w, W.refs, by simp only [dpq, W.dep, Nat.max_eq_right (Nat.succ_le_succ (Nat.zero_le _))], by have := W.size; simp only [szq]; omega, W.okc, W.sm, fun _ => rfl⟩
theorem Wrd.len {r} : Wrd r 0 (.len 1) := ⟨.leaf (.inl rfl), trivial, rfl, by decide, rfl, rfl, fun h => absurd rfl h⟩
theorem Wrd.chars {r} : Wrd r 0 (.chars (Str.ofString "a")) := ⟨.leaf (.inr (.inl rfl)), trivial, rfl, by decide, by decide +kernel, by decide +kernel, fun h => absurd rfl h⟩
theorem Wrd.any {r} : Wrd r 0 (.any (Str.ofString "ab")) := ⟨.leaf (.inr (.inr rfl)), trivial, rfl, by decide, rfl, rfl, fun h => absurd rfl h⟩
noncomputable def wrP (h : Heap) (r : Addr) (i : Nat) (v : Value) : Prop := ∃ T, IsTr h v T ∧ Wrd r i T
theorem wrP.keep {h h' : Heap} {r i v} (k : Tk h h') : wrP h r i v → wrP h' r i v := fun ⟨T, a, b⟩ => ⟨T, IsTr.keep k a, b⟩
noncomputable def wrF (r : Addr) (i : Nat) (v : Value) : Fact := ⟨fun h => wrP h r i v, fun _ _ k x => x.keep k⟩
noncomputable def kindP (v : Value) : Prop := ∃ k t, v = .int k t ∧ 0 ≤ k ∧ k < 4
noncomputable abbrev refO (w : World) (y1 y2 y3 k1 k3 : Tok) : Obj := dob w.params [Str.ofString "kind", Str.ofString "owner", Str.ofString "key"] [y1, y2, y3] [.str (Str.ofString "var") k1, .none, .str (Str.ofString "X") k3]
theorem due_deep {j : Bool} {T U : Tr} (h : 100 ≤ T.dep ∨ 100 ≤ U.dep) : false = true ↔ Good 0 [(if j = true then .cat T U else .alt T U, 1)] := by
  refine ⟨(fun h => nomatch h), fun g => ?_⟩
  rw [good_one] at g
  have := g.2.1
  cases j
  · simp only [Bool.false_eq_true, if_false, dpq] at this; omega
  · simp only [if_true, dpq] at this; omega
theorem wrP.el {h : Heap} {r : Addr} {i : Nat} {v : Value} {X : Prop} (p : wrP h r i v) (f : ∀ T, IsTr h v T → Wrd r i T → X) : X := (fun ⟨T, a, b⟩ => f T a b) p
inductive ArbOk (w : World) (H : Heap) (nv : Value) : Value → Prop
  | mk (x dx : Addr) (t : Tok) (a : Addr) (u : Tok) : Pat w H x dx t (.ref a) → IsTup H a [.str (Str.ofString "arbno") u, nv].toArray → ArbOk w H nv (.ref x)
inductive DpJ (li : Addr) (nn : Int) (ha : Addr) (R : List (Addr × Obj)) (i : Nat) (ys : List Value) : List (Addr × Obj) → List Fact → Prop
  | mk {rg : Addr} {q1 q2 q3 : Tok} {n z : Int} {tn tz : Tok} {c : Nat} : 0 ≤ n → n ≤ nn + i → 0 ≤ z → z < 2 ^ 40 → ys.length = i → (∀ v ∈ ys, kindP v) → DpJ li nn ha R i ys ((rg, rangeO 3 q1 q2 q3) :: (ha, handO li n z tn tz c) :: R) []
inductive DpL (rg cn rf D : Addr) (p1 p2 xt : Tok) (xs : Str) (j : Bool) (R : List (Addr × Obj)) (i : Nat) : List (Option Value) → List (Addr × Obj) → List Fact → Prop
  | mk {nv : Value} {on : Obj} {a b : Option Value} {q3 : Tok} : on.data = .cell (some nv) → DpL rg cn rf D p1 p2 xt xs j R i [none, a, some (.ref D), some (.str xs xt), some (.bool j), b] ((rg, rangeO 98 p1 q3 p2) :: (cn, on) :: R) [wrF rf i nv]
set_option maxHeartbeats 40000000 in
theorem c_deep (G : Gl w mg mb g) (hk : g.StaysIn h) (R : Rm A 650) (hl : h.IsList li ls.toArray) (hls : ls.length < 2 ^ 40) (hi : ∀ v ∈ ls, ∃ i t, v = .int i t) (hne : li ≠ ha ∧ li ∉ ((773, tabObj ps2) :: (787, tabObj ps) :: FX).map (·.1)) (hha : h.get? ha = some (handO li nn zz tn tz c) ∧ g.get? ha = none) (hn : 0 ≤ nn ∧ nn ≤ 100) (hz : 0 ≤ zz ∧ zz < 2 ^ 40)
   (hps2 : h.get? 773 = some (tabObj ps2) ∧ g.get? 773 = none) (ht2 : TriplesOk ps2.toList) (ok2 : tabOk putQ ps2 h)
   (hps : h.get? 787 = some (tabObj ps) ∧ g.get? 787 = none) (ht : TriplesOk ps.toList) (ok : tabOk deepQ ps h)
   (hA : A.frames = some outer) (Fs : Frs outer FX) (hFX : ∀ p ∈ FX, h.get? p.1 = some p.2 ∧ g.get? p.1 = none) (hnd : (((ha, handO li nn zz tn tz c) :: (773, tabObj ps2) :: (787, tabObj ps) :: FX).map (·.1)).Nodup)
   (ret : ∀ h' tk', Chg (ha :: 773 :: 787 :: FX.map (·.1)) h h' → (∃ p, h'.get? 773 = some (tabObj p)) → (∃ p, h'.get? 787 = some (tabObj p)) → Q (.bool true) (St s h' tk')) :
   wpAny (model pg w) A (call (.ref 790) [.ref ha]) Q E (St s h tk) := by
  have hled : ∀ p ∈ (ha, handO li nn zz tn tz c) :: (773, tabObj ps2) :: (787, tabObj ps) :: FX, h.get? p.1 = some p.2 ∧ g.get? p.1 = none := mem_cons' hha (mem_cons' hps2 (mem_cons' hps hFX))
  refine enterC ((ha, handO li nn zz tn tz c) :: (773, tabObj ps2) :: (787, tabObj ps) :: FX) [none] G hk (by k_is) (by k_is) (by decide +kernel) R (BindsTo.of_eq (bind_plain rfl rfl rfl (by decide +kernel))) (by dsimp only; repeat (first | exact BndC.nil | refine BndC.loc ?_ | refine BndC.cel ?_)) hA hled hnd (by decide +kernel) ?_ (by rfl) (by rfl); intro B h L tk env A cells V EC EQ ED G CA S hB hB' hL R hA hke hfe; dsimp only at V S EC CA
  have kB : Tk _ B := tk_led hB hled (mem_cons' not_tup_list (mem_cons' (ntup_tab ht2) (mem_cons' (ntup_tab ht) Fs.nt)))
  have okB : tabOk deepQ ps B := (tabF deepQ ps).keeps _ _ kB ok
  have okB2 : tabOk putQ ps2 B := (tabF putQ ps2).keeps _ _ kB ok2
  have hlB := list_base hB hl (not_two hne)
  have hndF : (FX.map (·.1)).Nodup := (List.nodup_cons.mp (List.nodup_cons.mp (List.nodup_cons.mp hnd).2).2).2
  have EC : env.cells = [(Str.ofString "ref", L + 1 + 1 + 1 + 1), (Str.ofString "node", L + 1 + 1 + 1), (Str.ofString "deep", L + 1 + 1), (Str.ofString "hand", L + 1)] := EC
  have CA : CellsAre _ [(Str.ofString "ref", L + 1 + 1 + 1 + 1), (Str.ofString "node", L + 1 + 1 + 1), (Str.ofString "deep", L + 1 + 1), (Str.ofString "hand", L + 1)] cells := CA
  obtain ⟨o1, o2, o3, o4, rfl, d1, d2, d3, d4⟩ := CA.four
  have d1 : o1.data = .cell none := d1
  have d2 : o2.data = .cell none := d2
  have d3 : o3.data = .cell none := d3
  have d4 : o4.data = .cell (some (.ref ha)) := d4
  generalize L + 1 + 1 + 1 + 1 = cr at *
  generalize L + 1 + 1 + 1 = cn at *
  generalize L + 1 + 1 = cd at *
  generalize L + 1 = cx at *
  simp only [List.cons_append, List.nil_append] at S
  repeat' (walk_at "ms@46_1")
  refine c_NameRef G S.stays (R.le (by exact lin0 [] [] (.nle (.K 2) (.K 649)) [[1]]  okT)) fun rf drf y1 y2 y3 h tk k ne m1 m2 RA => ?_
  obtain ⟨kt1, kt3, RA⟩ : ∃ kt1 kt3, RefAt w h rf drf [y1, y2, y3] (.str (Str.ofString "var") kt1) .none (.str (Str.ofString "X") kt3) := ⟨_, _, RA⟩
  have S := S.gotI k ne m1 m2 RA
  repeat' (walk_at "ms@46_1")
  have S : Sx B L h _ _ ((ha, handO li nn zz tn tz c) :: ([(rf, instObj 110 drf), (drf, refO w y1 y2 y3 kt1 kt3), (cr, o1), (cn, o2), (cd, o3), (cx, o4)] ++ (773, tabObj ps2) :: (787, tabObj ps) :: FX)) _ := S.perm (List.perm_middle (l₁ := [_, _, _, _, _, _]))
  refine S.hide1 fun R0 hR S => ?_
  have mx : Inn (cx, o4) R0 := hR ▸ .s (.s (.s (.s (.s .z))))
  refine x_compR (cl := [(Str.ofString "hand", cx)]) (B := B) (vs := [none]) (n := 3) (nsC := [(Str.ofString ".0", .local), (Str.ofString "turn", .local), (Str.ofString "_law_given", .globalImplicit), (Str.ofString "hand", .cell)]) (DpJ li nn ha R0) (fun vsC => ∃ a b, vsC = [a, b]) 2 V R.h ?c1 (by decide) (by decide) ?c2 (by decide +kernel) rfl (by omega) ⟨_, _, rfl⟩ ?c4 ?c5 ?c6 (by intro _; rfl)
  case c1 => exact (closureFor_cells EC).trans rfl
  case c2 =>
    have hkd : env.scope.kind = .function := V.wf.kd
    have hkc : env.kindOf (Str.ofString "hand") = some .cell := by
      show env.scope.names.lookup _ = _
      rw [V.nm]; rfl
    unfold relabel
    simp only [List.map_cons, List.map_nil, hkd, hkc]
    rfl
  case c4 =>
    repeat' (walk_at "ms@46_1")
    refine o_range S ?_
    clear S; intro rg q1 q2 h tk S
    exact .mk S (.head _) (.mk hn.1 (by exact lin0 [] [nn] (.ile (.V 0) (.P (.V 0) (.C (.K 0)))) [[1]]  okT) hz.1 hz.2 rfl (fun _ h => nomatch h))
  case c5 =>
    intro i ys _ _ t h tk p1 p2 p3 C vsC cenv hi3 J Kv V EC S
    obtain ⟨a1, a2, rfl⟩ := Kv
    cases J with | @mk rg q1 q2 q3 n z tn tz c h0 h1 h2 h3 hl hk => ?_
    repeat' (walk_at "ms@46_1")
    have P := S.N (ha, handO li _ _ _ _ _) (Inn.mem (by walk_at "zm@46_1"))
    refine c_given G S.stays (R.le (by exact lin0 [] [] (.nle (.K 1) (.K 649)) [[1]]  okT)) (by decide) ⟨by exact lin1 [] [n] (.ile (.K 0) (.V 0)) (.ile (.K 0) (.V 0)) [[1, 1]] h0 okT, by exact lin3 [i] [nn, n] (.A (.ile (.K 0) (.V 0)) (.ile (.V 0) (.K 100))) (.nlt (.V 0) (.K 3)) (.ile (.V 1) (.P (.V 0) (.C (.V 0)))) (.ilt (.V 1) (.W 2 40)) [[1, 0, 1, 1, 1]] hn hi3 h1 okT⟩ ⟨by exact lin1 [] [z] (.ile (.K 0) (.V 0)) (.ile (.K 0) (.V 0)) [[1, 1]] h2 okT, by exact lin1 [] [z] (.ilt (.V 0) (.W 2 40)) (.ilt (.V 0) (.W 2 40)) [[1, 1]] h3 okT⟩ (hlB.at fun o e => S.F.keep _ _ e) hls hi hne.1 ⟨P.1, P.2.2⟩ ?_
    clear P
    intro r1 u1 n1 z1 tn1 tz1 c1 h tk ch e hn1 hz1 hr1
    have S := S.chg (by walk_at "zu") not_tup_list ch e
    refine .mk S ⟨_, _, rfl⟩ (.mk hn1.1 (by exact lin2 [i] [n, nn, n1] (.ile (.V 0) (.P (.V 1) (.C (.V 0)))) (.A (.ile (.K 0) (.V 2)) (.ile (.V 2) (.P (.V 0) (.K 1)))) (.ile (.V 2) (.P (.V 1) (.C (.P (.V 0) (.K 1))))) [[1, 1, 0, 1]] h1 hn1 okT) hz1.1 hz1.2 (by rw [List.length_append, hl]; rfl) fun v hv => ?_)
    rcases List.mem_append.mp hv with hv | hv
    · exact hk v hv
    · rw [List.mem_singleton.mp hv]; exact ⟨r1, u1, rfl, hr1⟩
  case c6 =>
    intro ys _ _ D cD h tk J S
    cases J with | @mk rg q1 q2 q3 n z tn tz c h0 h1 h2 h3 hl hk => ?_
    subst hR
    have S := S.drop (news' := (D, listOf ys.toArray cD) :: (ha, handO li n z tn tz c) :: (rf, instObj 110 drf) :: (drf, refO w y1 y2 y3 kt1 kt3) :: (cr, o1) :: (cn, o2) :: (cd, o3) :: (cx, o4) :: (773, tabObj ps2) :: (787, tabObj ps) :: FX) (.cons_cons _ (.cons _ (List.Sublist.refl _)))
    repeat' (walk_at "ms@46_1")
    have hys : ys.length = 3 := hl
    rename Obj => or1
    clear d1
    have d1 : or1.data = .cell (some (.ref rf)) := hoc
    have e3 : ((3 : Nat) : Int) = 3 := rfl
    rw [e3] at h1
    have P := S.N (ha, handO li _ _ _ _ _) (Inn.mem (by walk_at "zm@46_1"))
    refine c_given G S.stays (R.le (by exact lin0 [] [] (.nle (.K 1) (.K 649)) [[1]]  okT)) (by decide) ⟨by exact lin1 [] [n] (.ile (.K 0) (.V 0)) (.ile (.K 0) (.V 0)) [[1, 1]] h0 okT, by exact lin2 [] [nn, n] (.A (.ile (.K 0) (.V 0)) (.ile (.V 0) (.K 100))) (.ile (.V 1) (.P (.V 0) (.K 3))) (.ilt (.V 1) (.W 2 40)) [[1, 0, 1, 1]] hn h1 okT⟩ ⟨by exact lin1 [] [z] (.ile (.K 0) (.V 0)) (.ile (.K 0) (.V 0)) [[1, 1]] h2 okT, by exact lin1 [] [z] (.ilt (.V 0) (.W 2 40)) (.ilt (.V 0) (.W 2 40)) [[1, 1]] h3 okT⟩ (hlB.at fun o e => S.F.keep _ _ e) hls hi hne.1 ⟨P.1, P.2.2⟩ ?_
    clear P
    intro r1 u1 n1 z1 tn1 tz1 c1 h tk ch e hn1 hz1 hr1
    have S := S.chg (by walk_at "zu") not_tup_list ch e
    repeat' (walk_at "ms@46_1")
    refine x1_2 (pick3 (P := wrP h rf 0) hr1 ⟨.len 1, ⟨_, _, _, rfl, S.inF (.s (.s .z))⟩, Wrd.len⟩ ⟨.chars (Str.ofString "a"), ⟨_, _, _, rfl, S.inF (.s .z)⟩, Wrd.chars⟩ ⟨.any (Str.ofString "ab"), ⟨_, _, _, rfl, S.inF .z⟩, Wrd.any⟩) fun lv hlv hw0 => ?_
    have S := S.fact (wrF rf 0 lv) hw0
    refine o_itemT ⟨_, (S.N _ (.head _)).1, rfl, _, rfl⟩ hr1.1 (by exact lin1 [] [r1] (.A (.ile (.K 0) (.V 0)) (.ilt (.V 0) (.K 3))) (.ilt (.V 0) (.W 2 63)) [[1, 0, 1]] hr1 okT) hlv ?_ (by with_unfolding_all rfl)
    repeat' (walk_at "ms@46_1")
    rename Obj => on1
    clear d2
    have d2 : on1.data = .cell (some lv) := hoc
    have P := S.N (ha, handO li _ _ _ _ _) (Inn.mem (by walk_at "zm@46_1"))
    refine c_given G S.stays (R.le (by exact lin0 [] [] (.nle (.K 1) (.K 649)) [[1]]  okT)) (by decide) ⟨by exact lin1 [] [n1, n] (.A (.ile (.K 0) (.V 0)) (.ile (.V 0) (.P (.V 1) (.K 1)))) (.ile (.K 0) (.V 0)) [[1, 1, 0]] hn1 okT, by exact lin3 [] [nn, n, n1] (.A (.ile (.K 0) (.V 0)) (.ile (.V 0) (.K 100))) (.ile (.V 1) (.P (.V 0) (.K 3))) (.A (.ile (.K 0) (.V 2)) (.ile (.V 2) (.P (.V 1) (.K 1)))) (.ilt (.V 2) (.W 2 40)) [[1, 0, 1, 1, 0, 1]] hn h1 hn1 okT⟩ ⟨by exact lin1 [] [z1] (.A (.ile (.K 0) (.V 0)) (.ilt (.V 0) (.W 2 40))) (.ile (.K 0) (.V 0)) [[1, 1, 0]] hz1 okT, by exact lin1 [] [z1] (.A (.ile (.K 0) (.V 0)) (.ilt (.V 0) (.W 2 40))) (.ilt (.V 0) (.W 2 40)) [[1, 0, 1]] hz1 okT⟩ (hlB.at fun o e => S.F.keep _ _ e) hls hi hne.1 ⟨P.1, P.2.2⟩ ?_
    clear P
    intro r2 u2 n2 z2 tn2 tz2 c2 h tk ch e hn2 hz2 hr2
    have S := S.chg (by walk_at "zu") not_tup_list ch e
    repeat' (walk_at "ms@46_1")
    obtain ⟨sv, hsv, xs, xt, rfl, hxs⟩ := pick3 (P := fun v => ∃ x t, v = .str x t ∧ x.length < 2 ^ 20) hr2 ⟨Str.ofString "ab", _, rfl, by decide +kernel⟩ ⟨Str.ofString "a", _, rfl, by decide +kernel⟩ ⟨Str.ofString "", _, rfl, by decide +kernel⟩
    refine o_itemT ⟨_, (S.N _ (.head _)).1, rfl, _, rfl⟩ hr2.1 (by exact lin1 [] [r2] (.A (.ile (.K 0) (.V 0)) (.ilt (.V 0) (.K 3))) (.ilt (.V 0) (.W 2 63)) [[1, 0, 1]] hr2 okT) hsv ?_ (by with_unfolding_all rfl)
    repeat' (walk_at "ms@46_1")
    have P := S.N (ha, handO li _ _ _ _ _) (Inn.mem (by walk_at "zm@46_1"))
    refine c_given G S.stays (R.le (by exact lin0 [] [] (.nle (.K 1) (.K 649)) [[1]]  okT)) (by decide) ⟨by exact lin1 [] [n2, n1] (.A (.ile (.K 0) (.V 0)) (.ile (.V 0) (.P (.V 1) (.K 1)))) (.ile (.K 0) (.V 0)) [[1, 1, 0]] hn2 okT, by exact lin4 [] [nn, n, n1, n2] (.A (.ile (.K 0) (.V 0)) (.ile (.V 0) (.K 100))) (.ile (.V 1) (.P (.V 0) (.K 3))) (.A (.ile (.K 0) (.V 2)) (.ile (.V 2) (.P (.V 1) (.K 1)))) (.A (.ile (.K 0) (.V 3)) (.ile (.V 3) (.P (.V 2) (.K 1)))) (.ilt (.V 3) (.W 2 40)) [[1, 0, 1, 1, 0, 1, 0, 1]] hn h1 hn1 hn2 okT⟩ ⟨by exact lin1 [] [z2] (.A (.ile (.K 0) (.V 0)) (.ilt (.V 0) (.W 2 40))) (.ile (.K 0) (.V 0)) [[1, 1, 0]] hz2 okT, by exact lin1 [] [z2] (.A (.ile (.K 0) (.V 0)) (.ilt (.V 0) (.W 2 40))) (.ilt (.V 0) (.W 2 40)) [[1, 0, 1]] hz2 okT⟩ (hlB.at fun o e => S.F.keep _ _ e) hls hi hne.1 ⟨P.1, P.2.2⟩ ?_
    clear P
    intro r3 u3 n3 z3 tn3 tz3 c3 h tk ch e hn3 hz3 hr3
    have S := S.chg (by walk_at "zu") not_tup_list ch e
    repeat' (walk_at "ms@46_1")
    generalize hj : (r3 == 1) = j at *
    refine x_for (fun _ => rfl) ?_
    repeat' (walk_at "ms@46_1")
    refine o_range S ?_
    clear S; intro rg2 p1 p2 h tk S
    have S := S.pad 1
    have S := S.facts1 (f1 := wrF rf 0 lv) .z
    have S := S.drop (news' := (rg2, rangeO 98 p1 _ p2) :: (D, listOf ys.toArray cD) :: (ha, handO li n3 z3 tn3 tz3 c3) :: (rf, instObj 110 drf) :: (drf, refO w y1 y2 y3 kt1 kt3) :: (cr, or1) :: (cn, on1) :: (cd, o3) :: (cx, o4) :: (773, tabObj ps2) :: (787, tabObj ps) :: FX) (.cons_cons _ (by repeat (first | exact List.Sublist.refl _ | refine .cons_cons _ ?_ | refine .cons _ ?_)))
    have S : Sx B L h _ _ ((rg2, rangeO 98 p1 _ p2) :: (cn, on1) :: ([(D, listOf ys.toArray cD), (rf, instObj 110 drf), (drf, refO w y1 y2 y3 kt1 kt3), (cr, or1)] ++ (cd, o3) :: (773, tabObj ps2) :: (787, tabObj ps) :: FX)) _ := (S.drop (news' := (rg2, rangeO 98 p1 _ p2) :: ([(D, listOf ys.toArray cD), (rf, instObj 110 drf), (drf, refO w y1 y2 y3 kt1 kt3), (cr, or1)] ++ (cn, on1) :: (cd, o3) :: (773, tabObj ps2) :: (787, tabObj ps) :: FX)) (.cons_cons _ (.cons_cons _ (.cons _ (.cons_cons _ (.cons_cons _ (.cons_cons _ (.cons_cons _ (.cons_cons _ (.cons _ (List.Sublist.refl _))))))))))).perm (.cons _ (List.perm_middle (l₁ := [_, _, _, _])))
    refine S.hideE fun R1 hR1 S => ?_
    have mD : Inn (D, listOf ys.toArray cD) R1 := hR1 ▸ .z
    have mr : Inn (cr, or1) R1 := hR1 ▸ .s (.s (.s .z))
    refine x_for_range (n := 98) (DpL rg2 cn rf D p1 p2 xt xs j R1) V R.h S (by exact .z) (by exact lin0 [] [] (.nlt (.K 98) (.W 2 62)) [[1]]  okT) (.mk d2) po_no ?_ ?_
    · intro i _ _ _ t hi98 J
      cases J with | @mk nv on a6 b6 q6 don => ?_
      refine ⟨_, by walk_at "zs", fun h tk p S => ?_⟩
      clear d2
      repeat' (walk_at "ms@46_1")
      have f0 : 0 ≤ Int.fmod (i : Int) 3 := Int.fmod_nonneg_of_pos _ (by decide)
      have f1 : Int.fmod (i : Int) 3 < 3 := Int.fmod_lt_of_pos _ (by decide)
      have hidx : (Int.fmod (i : Int) 3).toNat < ys.length := by omega
      refine x2_3 (hk ys[(Int.fmod (i : Int) 3).toNat] (List.getElem_mem hidx)) fun kv kt hkv hk0 hk4 => ?_
      refine o_itemT (D := D) (l := ys) (x := .int kv kt) ⟨_, (S.N (D, listOf ys.toArray cD) (Inn.mem (by walk_at "zm@46_1"))).1, rfl, _, rfl⟩ f0 (by exact lin1 [] [_] (.ilt (.V 0) (.K 3)) (.ilt (.V 0) (.W 2 63)) [[1, 1]] f1 okT) (by rw [List.getElem?_eq_getElem hidx, hkv]) ?_ (by with_unfolding_all rfl)
      repeat' (walk_at "ms@46_1")
      by_cases hk3 : kv = 3
      · refine it_is (y := true) (by rw [hk3]; rfl) (it_t ?_)
        repeat' (walk_at "ms@46_1")
        refine wrP.el (S.ft (wrF rf i nv) (by walk_at "zf@46_1")) fun T IT WT => ?_
        have wn : wrP h rf (i + 1) (.ref a) := ⟨.cat (.len 0) T, ⟨_, _, _, _, rfl, S.inF .z, ⟨_, _, _, rfl, S.inF (.s .z)⟩, IT⟩, WT.cat⟩
        have S := S.facts0.fact (wrF rf (i + 1) (.ref a)) wn
        exact lf_next S (.mk hoc)
      · refine it_is (y := false) (beq_eq_false_iff_ne.mpr hk3) (it_f ?_)
        repeat' (walk_at "ms@46_1")
        refine wrP.el (S.ft (wrF rf i nv) (by walk_at "zf@46_1")) fun T IT WT => ?_
        refine x1_2 (pick3 (P := wrP h rf (i + 1)) (r := kv) ⟨hk0, by omega⟩ ⟨.arb T, ⟨_, _, _, rfl, S.inF (.s (.s (.s .z))), IT⟩, WT.arb⟩ ⟨.lat T rf, ⟨_, _, _, rfl, S.inF (.s (.s .z)), IT⟩, WT.lat⟩ ⟨.alt .fail T, ⟨_, _, _, _, rfl, S.inF .z, ⟨_, _, rfl, S.inF (.s .z)⟩, IT⟩, WT.alt⟩) fun lw hlw hw1 => ?_
        have S := S.facts0.fact (wrF rf (i + 1) lw) hw1
        refine o_itemT ⟨_, (S.N _ (.head _)).1, rfl, _, rfl⟩ hk0 (by exact lin1 [] [kv] (.ilt (.V 0) (.K 4)) (.ilt (.V 0) (.W 2 63)) [[1, 1]] hk4 okT) hlw ?_ (by with_unfolding_all rfl)
        repeat' (walk_at "ms@46_1")
        exact lf_next (S.drop (List.sublist_cons_self _ _)) (.mk hoc)
    · intro _ _ _ h tk J S
      cases J with | @mk nv on a6 b6 q6 don => ?_
      subst hR1
      clear d2
      have S := S.drop (news' := (cn, on) :: (rf, instObj 110 drf) :: (drf, refO w y1 y2 y3 kt1 kt3) :: (cr, or1) :: (cd, o3) :: (773, tabObj ps2) :: (787, tabObj ps) :: FX) (.cons _ (.cons_cons _ (.cons _ (List.Sublist.refl _))))
      repeat' (walk_at "ms@46_1")
      have I0 : ∃ dp u, oc.data = .cell (some (.ref dp)) ∧ IsTup h dp [.str (Str.ofString "arbno") u, nv].toArray := ⟨_, _, hoc, S.inF (.s .z)⟩
      refine x2_2 I0 fun dp u7 hdp ID => ?_
      clear I0 hoc
      rename Obj => od
      refine wrP.el (S.ft (wrF rf 98 nv) (by walk_at "zf@46_1")) fun T IT WT => ?_
      have IL : IsTr h (.ref a) (.len 0) := ⟨a, _, _, rfl, S.inF .z⟩
      have hT1 := WT.dep
      have hT3 := WT.nc (by decide)
      have hTd : T.dep ≤ 99 := Nat.le_of_eq hT1
      have hTs : T.size ≤ 197 := WT.size
      have S := ((S.facts0.fact (tupF dp _) ID).fact (trF nv T) IT).fact (trF (.ref dp) (.arb T)) ⟨dp, u7, nv, rfl, ID, IT⟩
      have S : Sx B L h _ _ ((773, tabObj ps2) :: (787, tabObj ps) :: ([(cn, on), (rf, instObj 110 drf), (drf, refO w y1 y2 y3 kt1 kt3), (cr, or1), (cd, od)] ++ FX)) _ := S.perm ((List.perm_middle (l₁ := [_, _, _, _, _])).trans (.cons _ (List.perm_middle (l₁ := [_, _, _, _, _]))))
      refine S.hide fun R2 mR S => ?_
      have mn : Inn (cn, on) R2 := mR _ .z
      have mf : Inn (rf, instObj 110 drf) R2 := mR _ (.s .z)
      have mg : Inn (drf, refO w y1 y2 y3 kt1 kt3) R2 := mR _ (.s (.s .z))
      have mc : Inn (cr, or1) R2 := mR _ (.s (.s (.s .z)))
      have md : Inn (cd, od) R2 := mR _ (.s (.s (.s (.s .z))))
      clear mR
      have dA : (Tr.arb T).dep ≤ 100 := Nat.succ_le_succ hTd
      have gA : 100 ≤ (Tr.arb T).dep := Nat.le_of_eq (congrArg Nat.succ hT1).symm
      have hgA : Good 0 [(.arb T, 1)] := good_one.mpr ⟨Nat.le_trans (Nat.succ_le_succ hTs) (by decide), dA, WT.okc⟩
      have hgB : ¬ Good 0 [(.arb (.arb T), 1)] := fun g => Nat.not_succ_le_self _ (Nat.le_trans (Nat.succ_le_succ gA) (good_one.mp g).2.1)
      have hgC : ¬ Good 0 [(.lat (.arb T) rf, 1)] := fun g => Nat.not_succ_le_self _ (Nat.le_trans (Nat.succ_le_succ gA) (good_one.mp g).2.1)
      have du : ∀ n, n = 1 → true = decide (n + T.size + 1 ≤ 600) ∧ true = decide (T.size + n + 1 ≤ 600) := fun n e => by subst e; exact ⟨(decide_eq_true (by exact lin1 [_] [] (.nle (.V 0) (.K 197)) (.nle (.P (.P (.K 1) (.V 0)) (.K 1)) (.K 600)) [[1, 1]] hTs okT)).symm, (decide_eq_true (by exact lin1 [_] [] (.nle (.V 0) (.K 197)) (.nle (.P (.P (.V 0) (.K 1)) (.K 1)) (.K 600)) [[1, 1]] hTs okT)).symm⟩
      refine s_put_right (own := R2) G S (R.le (by decide)) hA Fs hndF hke hfe ht2 ((tabF putQ ps2).keeps _ _ (tk_of S) okB2) IL IT rfl WT.sm (Nn.of_not rfl) (Nn.of_not hT3) rfl (due_iff (by decide) hTd rfl WT.okc (du 1 rfl).1) fun ps3 FX1 h tk Fs1 nF1 ht3 S => ?_
      repeat' (walk_at "ms@46_1")
      refine e_notb ?_
      repeat' (walk_at "ms@46_1")
      refine ⟨_, rfl, ?_⟩
      repeat' (walk_at "ms@46_1")
      have IR2 : IsTr h (.ref a) .rem := ⟨a, _, rfl, S.inF .z⟩
      refine s_put_right (own := R2) G S (R.le (by decide)) hA Fs1 nF1 hke hfe ht3 (S.ft (tabF putQ ps3) (by walk_at "zf@46_1")) (S.ft (trF nv T) (by walk_at "zf@46_1")) IR2 WT.sm rfl (Nn.of_not hT3) (Nn.of_not rfl) (by rw [hT3]; rfl) (due_iff hTd (by decide) WT.okc rfl (du 1 rfl).2) fun ps4 FX2 h tk Fs2 nF2 ht4 S => ?_
      clear IT ID IL IR2
      have S := (S.facts3 (f1 := tabF putQ ps4) (f2 := trF (.ref dp) (.arb T)) (f3 := trF nv T) (by walk_at "zm@46_1") (by walk_at "zm@46_1") (by walk_at "zm@46_1")).fact (tupF dp [.str (Str.ofString "arbno") u7, nv].toArray) (S.ft (tupF dp _) (by walk_at "zf@46_1"))
      repeat' (walk_at "ms@46_1")
      have S := S.fact (tabF deepQ ps) ((tabF deepQ ps).keeps _ _ (tk_of S) okB)
      refine e_lam V G S rfl (q := deepQ) (by rw [EQ]) ED (c := 789) (P := 787) G.cd.2.2.1 ((closureFor_cells EC).trans rfl) (by walk_at "zm@46_1") ht (S.ft (tabF deepQ ps) (by walk_at "zf@46_1")) fun ds5 => ⟨_, by walk_at "zu", fun f5 c5' ctv5 h tk htd5 okd5 hcr5 S => ?_⟩
      have S := S.fact (tabF deepQ ds5) okd5
      repeat' (walk_at "ms@46_1")
      have I0 : IsTr h nv T := S.ft (trF nv T) (by walk_at "zf@46_1")
      refine s_task (own := _ :: _ :: _ :: R2) (n := 8) True (fun H r => ArbOk w H nv r) G S (R.le (by decide)) hA Fs2 nF2 hke hfe .z hcr5 (by decide +kernel) (by decide +kernel) rfl ?task5 ?ret5 ?rtt5 (by rfl) (by rfl)
      case task5 =>
        intro A B L env FXT o2 Q Lv h tk C S
        have V := C.V
        have EC := C.EC
        have G := C.G
        have R := C.R
        have hA := C.hA
        have b2 := C.at (p := (cn, on)) (.s (.s (.s mn)))
        have I := I0.keep C.tk
        repeat' (walk_at "ms@46_1")
        refine c_World G S.stays (R.le (by decide)) fun xw h tk k nw => ?_
        have S := S.call k
        repeat' (walk_at "ms@46_1")
        refine c_Pattern G S.stays (R.le (by decide)) fun x1 dx1 tx1 h tk k ne m1 m2 P1 => ?_
        have S := S.gotI k ne m1 m2 P1
        repeat' (walk_at "ms@46_1")
        obtain ⟨FX3, Fs3, hF3, hn3, hoff, hE3⟩ := C.call (own1 := [_, _, _]) S
        refine c_make_arbno G S.stays (R.le (by decide)) (S.ins (.s .z) (.s (.s .z))) (S.N _ (.head _)).1 (I.keep (tk_of S)) WT.sm ⟨hoff _ (.tail _ (.head _)), hoff _ (.tail _ (.tail _ (.head _))), hoff _ (.head _)⟩ hA Fs3 hF3 hn3 (fun bad => absurd hgA bad) ?_
        intro x' dx' t' a' u' h5 tk5 k5 ne n1 n2 P ia gd
        exact C.ret (S.call k5) (fun p hp => by walk_at "zfx") trivial ⟨x', dx', t', a', u', P, ia⟩
      case rtt5 => exact fun hd => absurd trivial hd
      case ret5 =>
        intro r h tk S k _ ok
        obtain ⟨x, dx, t, aN, u, P, ia⟩ := ok
        have S : Sx B L h _ _ ((773, tabObj ps4) :: (787, tabObj ds5) :: (R2 ++ FX2)) _ := (S.fact (tupF aN _) ia).drop (List.sublist_cons_self _ _)
        repeat' (walk_at "ms@46_1")
        refine c_node_of_pat G S.stays (R.le (by decide)) P rfl fun h tk k => ?_
        have S := S.call k
        repeat' (walk_at "ms@46_1")
        refine e_lam V G S rfl (q := deepQ) (by rw [EQ]) ED (c := 789) (P := 787) G.cd.2.2.1 ((closureFor_cells EC).trans rfl) (by walk_at "zm@46_1") htd5 (S.ft (tabF deepQ ds5) (by walk_at "zf@46_1")) fun ds6 => ⟨_, by walk_at "zu", fun f6 c6' ctv6 h tk htd6 okd6 hcr6 S => ?_⟩
        have S := S.fact (tabF deepQ ds6) okd6
        repeat' (walk_at "ms@46_1")
        have I0 : IsTr h (.ref dp) (.arb T) := S.ft (trF (.ref dp) (.arb T)) (by walk_at "zf@46_1")
        refine s_task (own := _ :: _ :: _ :: R2) (n := 8) False (fun _ _ => True) G S (R.le (by decide)) hA Fs2 nF2 hke hfe .z hcr6 (by decide +kernel) (by decide +kernel) rfl ?task6 (fun _ _ _ _ _ p => p.elim) ?rtt6 (by rfl) (by rfl)
        case task6 =>
          intro A B L env FXT o2 Q Lv h tk C S
          have V := C.V
          have EC := C.EC
          have G := C.G
          have R := C.R
          have hA := C.hA
          have b2 := C.at (p := (cd, od)) (.s (.s (.s md)))
          have I := I0.keep C.tk
          repeat' (walk_at "ms@46_1")
          refine c_World G S.stays (R.le (by decide)) fun xw h tk k nw => ?_
          have S := S.call k
          repeat' (walk_at "ms@46_1")
          refine c_Pattern G S.stays (R.le (by decide)) fun x1 dx1 tx1 h tk k ne m1 m2 P1 => ?_
          have S := S.gotI k ne m1 m2 P1
          repeat' (walk_at "ms@46_1")
          obtain ⟨FX3, Fs3, hF3, hn3, hoff, hE3⟩ := C.call (own1 := [_, _, _]) S
          refine c_make_arbno G S.stays (R.le (by decide)) (S.ins (.s .z) (.s (.s .z))) (S.N _ (.head _)).1 (I.keep (tk_of S)) WT.sm ⟨hoff _ (.tail _ (.head _)), hoff _ (.tail _ (.tail _ (.head _))), hoff _ (.head _)⟩ hA Fs3 hF3 hn3 (fun _ => hE3 fun q => q) ?_
          intro x' dx' t' a' u' h5 tk5 k5 ne n1 n2 P ia gd
          exact absurd gd hgB
        case rtt6 =>
          intro _ u h FX3 tk Fs3 nF3 S
          have S : Sx B L h _ _ ((773, tabObj ps4) :: (787, tabObj ds6) :: (R2 ++ FX3)) _ := S.drop (List.sublist_cons_self _ _)
          repeat' (walk_at "ms@46_1")
          have IR3 : IsTr h (.ref a) .rem := ⟨a, _, rfl, S.inF .z⟩
          refine s_put_right (own := R2) G S (R.le (by decide)) hA Fs3 nF3 hke hfe ht4 (S.ft (tabF putQ ps4) (by walk_at "zf@46_1")) (S.ft (trF (.ref dp) (.arb T)) (by walk_at "zf@46_1")) IR3 WT.sm rfl (Nn.of_not rfl) (Nn.of_not rfl) rfl (due_deep (.inl gA)) fun ps7 FX4 h tk Fs4 nF4 ht7 S => ?_
          repeat' (walk_at "ms@46_1")
          refine e_notb ?_
          repeat' (walk_at "ms@46_1")
          refine ⟨_, rfl, ?_⟩
          repeat' (walk_at "ms@46_1")
          have IL4 : IsTr h (.ref a) (.len 0) := ⟨a, _, _, rfl, S.inF .z⟩
          refine s_put_right (own := R2) G S (R.le (by decide)) hA Fs4 nF4 hke hfe ht7 (S.ft (tabF putQ ps7) (by walk_at "zf@46_1")) IL4 (S.ft (trF (.ref dp) (.arb T)) (by walk_at "zf@46_1")) rfl WT.sm (Nn.of_not rfl) (Nn.of_not rfl) rfl (due_deep (.inr gA)) fun ps8 FX5 h tk Fs5 nF5 ht8 S => ?_
          clear IR3 IL4
          have S := (S.facts3 (f1 := tabF deepQ ds6) (f2 := trF (.ref dp) (.arb T)) (f3 := trF nv T) (by walk_at "zm@46_1") (by walk_at "zm@46_1") (by walk_at "zm@46_1"))
          repeat' (walk_at "ms@46_1")
          refine e_lam V G S rfl (q := deepQ) (by rw [EQ]) ED (c := 789) (P := 787) G.cd.2.2.1 ((closureFor_cells EC).trans rfl) (by walk_at "zm@46_1") htd6 (S.ft (tabF deepQ ds6) (by walk_at "zf@46_1")) fun ds7 => ⟨_, by walk_at "zu", fun f7 c7' ctv7 h tk htd7 okd7 hcr7 S => ?_⟩
          have S := S.fact (tabF deepQ ds7) okd7
          repeat' (walk_at "ms@46_1")
          have I0 : IsTr h (.ref dp) (.arb T) := S.ft (trF (.ref dp) (.arb T)) (by walk_at "zf@46_1")
          refine s_task (own := _ :: _ :: _ :: R2) (n := 8) False (fun _ _ => True) G S (R.le (by decide)) hA Fs5 nF5 hke hfe .z hcr7 (by decide +kernel) (by decide +kernel) rfl ?task7 (fun _ _ _ _ _ p => p.elim) ?rtt7 (by rfl) (by rfl)
          case task7 =>
            intro A B L env FXT o2 Q Lv h tk C S
            have V := C.V
            have EC := C.EC
            have G := C.G
            have R := C.R
            have hA := C.hA
            have b2 := C.at (p := (cd, od)) (.s (.s (.s md)))
            have b3 := C.at (p := (cr, or1)) (.s (.s (.s mc)))
            have I := I0.keep C.tk
            repeat' (walk_at "ms@46_1")
            obtain ⟨FX3, Fs3, hF3, hn3, hoff, hE3⟩ := C.call (own1 := []) S
            exact c_checked (T := .lat (.arb T) rf) G S.stays (R.le (by decide)) ⟨_, _, _, rfl, S.inF .z, I.keep (tk_of S)⟩ WT.sm hA Fs3 hF3 hn3 (fun _ => hE3 fun q => q) (fun h5 tk5 k5 gd => absurd gd hgC)
          case rtt7 =>
            intro _ u h FX6 tk Fs6 nF6 S
            have S : Sx B L h _ _ ((773, tabObj ps8) :: (787, tabObj ds7) :: (R2 ++ FX6)) _ := S.drop (List.sublist_cons_self _ _)
            repeat' (walk_at "ms@46_1")
            have PA := S.N (rf, instObj 110 drf) (Inn.mem (by walk_at "zm@46_1"))
            have PB := S.N (drf, refO w y1 y2 y3 kt1 kt3) (Inn.mem (by walk_at "zm@46_1"))
            have IC : IsTr h (.ref a) (.cat T .rem) := ⟨_, _, _, _, rfl, S.inF .z, S.ft (trF nv T) (by walk_at "zf@46_1"), ⟨_, _, rfl, S.inF (.s .z)⟩⟩
            have RB : RefAt w h rf drf [y1, y2, y3] (.str (Str.ofString "var") kt1) .none (.str (Str.ofString "X") kt3) := ⟨PA.1, PB.1⟩
            have hN9 : T.size + 2 ≤ 200 := Nat.le_trans (Nat.add_le_add_right hTs 2) (by decide)
            refine c_law_same (N := 200) (T := T) G S.stays (R.le (by decide)) hN9 (by decide) IC WT.w hxs WT.refs RB fun h tk k => ?_
            have S := S.call k
            repeat' (walk_at "ms@46_1")
            exact ret _ _ (stayC S hB) ⟨_, (S.N (773, tabObj _) (.head _)).1⟩ ⟨_, (S.N (787, tabObj _) (.tail _ (.head _))).1⟩
end
section
set_option maxHeartbeats 2000000
variable {w : World} {mg mb : Str → Option Value} {g : Heap} {A : Around} {s : Shared} {Q E : Value → Shared → Prop} {h : Heap} {tk n : Nat}

section
variable {B : Heap} {L D : Addr} {ns : List (Str × NameKind)} {vs : List (Option Value)} {news : List (Addr × Obj)} {fs : List Fact}
theorem o_sltoE {value slice : Expr} {l : List Value} {y : Int} {uy : Tok} {Q : Value → Shared → Prop} (S : Sx B L h ns vs news fs) (hl : h.IsList D l.toArray) (h0 : 0 ≤ y) (hsz : l.length ≤ sizeLine)
    (hs : subscripted slice false (.ref D) (.ref h.objs.size) = operate [.ref h.objs.size, .ref D] (getItem (.ref D) (.ref h.objs.size)))
    (ht : ∀ r, letTemporaryGo value (.ref D) r = pure ())
    (k : ∀ h' tk', Sx B L h' ns vs ((h.objs.size + 1, listOf (l.take y.toNat).toArray 0) :: news) fs → Q (.ref (h.objs.size + 1)) (St s h' tk')) :
    wpAny (model pg w) A (subscriptTail value slice (.ref D) (.ref h.objs.size)) Q E (St s (h.push { cls := .type "slice", data := .fields #[.none, .int y uy, .none] }) tk) := by
  refine slice_listK (s := St s h tk) hl .none (.int _ _) ?_ hs ht (by simpa using hsz)
  rw [pick_to h0]
  have hn : (h.push { cls := .type "slice", data := .fields #[.none, .int y uy, .none] }).objs.size = h.objs.size + 1 := Heap.size_push _ _
  have S1 := S.call (h' := h.push { cls := .type "slice", data := .fields #[.none, .int y uy, .none] }) (fun b o e => Heap.get?_push_of_some _ e)
  exact k _ _ (S1.got (a := h.objs.size + 1) (o := listOf (l.take y.toNat).toArray 0) (fun b o e => Heap.get?_push_of_some _ e) (by rw [← hn]; exact new_none _) (by rw [← hn]; exact Heap.get?_push_size _ rfl))
theorem preSum_bound {v : Nat → Int} (h : ∀ j, 0 ≤ v j ∧ v j < 9973) : ∀ n, 0 ≤ preSum v n ∧ preSum v n ≤ 9973 * n := by
  intro n
  induction n with
  | zero => exact ⟨Int.le_refl _, Int.le_refl _⟩
  | succ n ih =>
    have := h n
    show 0 ≤ preSum v n + v n ∧ preSum v n + v n ≤ _
    exact lin2 [n] [_, _] (.A (.ile (.K 0) (.V 0)) (.ile (.V 0) (.M 9973 (.C (.V 0))))) (.A (.ile (.K 0) (.V 1)) (.ilt (.V 1) (.K 9973))) (.A (.ile (.K 0) (.P (.V 0) (.V 1))) (.ile (.P (.V 0) (.V 1)) (.M 9973 (.C (.P (.V 0) (.K 1)))))) [[1, 1, 0, 1, 0], [1, 0, 1, 0, 1]] ih this okT
theorem o_sum {l : List Value} {Q : Value → Shared → Prop} (hh : A.handled = none) (S : Sx B L h ns vs news fs) (hl : h.IsList D l.toArray) (hi : ∀ v ∈ l, ∃ i t, v = .int i t ∧ 0 ≤ i ∧ i < 9973) (hn : l.length ≤ 20)
    (k : ∀ r t h' tk', 0 ≤ r → r ≤ 200000 → Sx B L h' ns vs news fs → Q (.int r t) (St s h' tk')) : wpAny (model pg w) A (call (.builtin "sum") [.ref D]) Q E (St s h tk) := by
  obtain ⟨xs, hxs⟩ := AllInts.items (vs := l.toArray) (fun v hv => by
    refine x2_2 (hi v (by simpa using hv)) fun i t e _ => ?_
    exact ⟨i, t, e⟩)
  have hsz : xs.size = l.length := by
    have := congrArg Array.size hxs
    simpa [intItems] using this.symm
  have hb : ∀ j, 0 ≤ numAt xs j ∧ numAt xs j < 9973 := fun j => by
    by_cases hj : j < xs.size
    · have e : l.toArray[j]? = some (.int xs[j].1 xs[j].2) := by rw [hxs]; simp [intItems, hj]
      obtain ⟨i, t, q, b1, b2⟩ := hi (.int xs[j].1 xs[j].2) (by have := List.mem_of_getElem? (l := l) (i := j) (a := .int xs[j].1 xs[j].2) (by simpa using e); exact this)
      cases q
      have : numAt xs j = xs[j].1 := by simp [numAt, hj]
      rw [this]; exact ⟨b1, b2⟩
    · have : numAt xs j = 0 := by simp [numAt, Array.getElem?_eq_none (Nat.not_lt.mp hj)]
      rw [this]; decide
  refine sum_intListG (s := St s h tk) hh (hxs ▸ hl) fun h' tk' t' hk => ?_
  have b := preSum_bound hb xs.size
  exact k _ t' h' tk' b.1 (by exact lin3 [_, _] [_] (.nle (.V 0) (.K 20)) (.neq (.V 1) (.V 0)) (.A (.ile (.K 0) (.V 0)) (.ile (.V 0) (.M 9973 (.C (.V 1))))) (.ile (.V 0) (.K 200000)) [[1, 9973, 9973, 0, 1]] hn hsz b okT) (S.call hk)
end

theorem nd_with {B h : Heap} {L : Addr} {ns vs fs} {news X FX : List (Addr × Obj)} (oL : Obj) (S : Sx B L h ns vs news fs) (sub : List.Sublist (X ++ FX) news) : ((X ++ (L, oL) :: FX).map (·.1)).Nodup := by
  refine ((List.perm_middle (l₁ := X) (l₂ := FX) (a := (L, oL))).map (·.1)).nodup_iff.mpr ?_
  refine List.nodup_cons.mpr ⟨fun m => ?_, (sub.map _).nodup S.nd⟩
  refine x1_2 (List.mem_map.mp m) fun p hp q => ?_
  exact (S.N p (sub.subset hp)).2.1 q
variable {FX : List (Addr × Obj)} {outer : List Env} {la : Addr} {ls : List Value} {p1 p2 p3 p4 : Array Value}
noncomputable def Kept (FX : List (Addr × Obj)) (h h' : Heap) : Prop := Chg (773 :: 780 :: 787 :: 811 :: FX.map (·.1)) h h' ∧ GrownAt 773 h' ∧ GrownAt 780 h' ∧ GrownAt 787 h' ∧ GrownAt 811 h'
theorem law_kept {B h hc h' : Heap} {L ha D1 : Addr} {ns vs fs} {o1 o2 : Obj} {p1 p2 p3 p4 q1 q2 q3 q4 : Array Value} {FX : List (Addr × Obj)} {Y : List Addr}
    (S : Sx B L hc ns vs ((ha, o1) :: (D1, o2) :: (773, tabObj p1) :: (780, tabObj p2) :: (787, tabObj p3) :: (811, tabObj p4) :: FX) fs)
    (hB : Chg (((773, tabObj q1) :: (780, tabObj q2) :: (787, tabObj q3) :: (811, tabObj q4) :: FX).map (·.1)) h B)
    (ch : Chg (ha :: (Y ++ (L :: FX.map (·.1)))) hc h') (hY : ∀ t ∈ Y, t = 773 ∨ t = 780 ∨ t = 787 ∨ t = 811) (gr : ∀ t ∈ Y, GrownAt t h') : Kept FX h h' := by
  have n0 := List.nodup_cons.mp S.nd
  have n1 := List.nodup_cons.mp n0.2
  have n2 := List.nodup_cons.mp n1.2
  have n3 := List.nodup_cons.mp n2.2
  have n4 := List.nodup_cons.mp n3.2
  have n5 := List.nodup_cons.mp n4.2
  have m1 : (773, tabObj p1) ∈ (ha, o1) :: (D1, o2) :: (773, tabObj p1) :: (780, tabObj p2) :: (787, tabObj p3) :: (811, tabObj p4) :: FX := .tail _ (.tail _ (.head _))
  have m2 : (780, tabObj p2) ∈ (ha, o1) :: (D1, o2) :: (773, tabObj p1) :: (780, tabObj p2) :: (787, tabObj p3) :: (811, tabObj p4) :: FX := .tail _ (.tail _ (.tail _ (.head _)))
  have m3 : (787, tabObj p3) ∈ (ha, o1) :: (D1, o2) :: (773, tabObj p1) :: (780, tabObj p2) :: (787, tabObj p3) :: (811, tabObj p4) :: FX := .tail _ (.tail _ (.tail _ (.tail _ (.head _))))
  have m4 : (811, tabObj p4) ∈ (ha, o1) :: (D1, o2) :: (773, tabObj p1) :: (780, tabObj p2) :: (787, tabObj p3) :: (811, tabObj p4) :: FX := .tail _ (.tail _ (.tail _ (.tail _ (.tail _ (.head _)))))
  have T : ∀ t p, (t, tabObj p) ∈ (D1, o2) :: (773, tabObj p1) :: (780, tabObj p2) :: (787, tabObj p3) :: (811, tabObj p4) :: FX → t ∉ FX.map (·.1) → GrownAt t h' := fun t p m n => by
    by_cases q : t ∈ Y
    · exact gr t q
    · refine ⟨p, ch _ _ (S.N _ (.tail _ m)).1 fun mm => ?_⟩
      rcases List.mem_cons.mp mm with r | mm
      · exact n0.1 (r ▸ List.mem_map.mpr ⟨_, m, rfl⟩)
      rcases List.mem_append.mp mm with r | mm
      · exact q r
      rcases List.mem_cons.mp mm with r | mm
      · exact (S.N _ (.tail _ m)).2.1 r
      · exact n mm
  refine ⟨fun a o e n => ?_, T _ p1 (.tail _ (.head _)) (fun m => n2.1 (.tail _ (.tail _ (.tail _ m)))), T _ p2 (.tail _ (.tail _ (.head _))) (fun m => n3.1 (.tail _ (.tail _ m))), T _ p3 (.tail _ (.tail _ (.tail _ (.head _)))) (fun m => n4.1 (.tail _ m)), T _ p4 (.tail _ (.tail _ (.tail _ (.tail _ (.head _))))) (fun m => n5.1 m)⟩
  have b := hB a o e n
  have no : ∀ o', (a, o') ∈ (ha, o1) :: (D1, o2) :: (773, tabObj p1) :: (780, tabObj p2) :: (787, tabObj p3) :: (811, tabObj p4) :: FX → False := fun o' m => by
    have := (S.N _ m).2.2
    rw [b] at this; cases this
  refine ch a o (S.F.keep _ _ b) fun m => ?_
  rcases List.mem_cons.mp m with r | m
  · exact no o1 (r ▸ .head _)
  rcases List.mem_append.mp m with r | m
  · rcases hY a r with r | r | r | r
    · exact no (tabObj p1) (by rw [r]; exact m1)
    · exact no (tabObj p2) (by rw [r]; exact m2)
    · exact no (tabObj p3) (by rw [r]; exact m3)
    · exact no (tabObj p4) (by rw [r]; exact m4)
  rcases List.mem_cons.mp m with r | m
  · exact Nat.lt_irrefl _ (Nat.lt_of_lt_of_le (r ▸ Heap.lt_size b) S.F.above)
  · refine x1_2 (List.mem_map.mp m) fun p hp r => ?_
    exact no p.2 (r ▸ .tail _ (.tail _ (.tail _ (.tail _ (.tail _ (.tail _ hp))))))
section
variable {B hc : Heap} {L ha D1 : Addr} {ns : List (Str × NameKind)} {vs : List (Option Value)} {fs : List Fact} {ys : List Value} {cD c : Nat} {n z : Int} {tn tz : Tok} {env : Env} {q1 q2 q3 q4 : Array Value}
noncomputable abbrev lawS (ha D1 : Addr) (n z : Int) (tn tz : Tok) (c cD : Nat) (ys : List Value) (p1 p2 p3 p4 : Array Value) (FX : List (Addr × Obj)) : List (Addr × Obj) := (ha, handO D1 n z tn tz c) :: (D1, listOf ys.toArray cD) :: (773, tabObj p1) :: (780, tabObj p2) :: (787, tabObj p3) :: (811, tabObj p4) :: FX
structure LawC (w : World) (mg mb : Str → Option Value) (B h hc : Heap) (L ha D1 : Addr) (ns : List (Str × NameKind)) (vs : List (Option Value)) (fs : List Fact) (n z : Int) (tn tz : Tok) (c cD : Nat) (ys : List Value) (p1 p2 p3 p4 : Array Value) (FX : List (Addr × Obj)) (A : Around) (env : Env) (outer : List Env) : Prop where
  G : Gl w mg mb B
  S : Sx B L hc ns vs (lawS ha D1 n z tn tz c cD ys p1 p2 p3 p4 FX) fs
  R : Rm A 650
  hA : A.frames = some (env :: outer)
  Fs : Frs outer FX
  nd : (FX.map (·.1)).Nodup
  ke : env.scope.kind ≠ .module
  fe : env.frame = some L
  len : ys.length ≤ 20
  its : ∀ v ∈ ys, ∃ i t, v = .int i t
  n0 : 0 ≤ n ∧ n ≤ 100
  z0 : 0 ≤ z ∧ z < 2 ^ 40
  hB : ∀ a o, h.get? a = some o → a ∉ ((773, tabObj p1) :: (780, tabObj p2) :: (787, tabObj p3) :: (811, tabObj p4) :: FX).map (·.1) → B.get? a = some o
  ch : Tk B hc
theorem l_texts (C : LawC w mg mb B h hc L ha D1 ns vs fs n z tn tz c cD ys p1 p2 p3 p4 FX A env outer) (to : TriplesOk p2.toList) (k : tabOk txtQ p2 B) (ret : ∀ h' tk', Kept FX h h' → Q (.bool true) (St s h' tk')) : wpAny (model pg w) A (call (.ref 785) [.ref ha]) Q E (St s hc tk) := by
  obtain ⟨oL, Fs2, hFX2, hnd2⟩ := C.S.out (FX := FX) (fun p hp => by walk_at "zfx") C.nd C.Fs C.ke C.fe
  have ndx := List.nodup_cons.mp (nd_with (X := (D1, listOf ys.toArray cD) :: (ha, handO D1 n z tn tz c) :: [(780, tabObj p2)]) (FX := FX) oL (C.S.perm (.swap _ _ _)) (.cons_cons _ (.cons_cons _ (by repeat (first | exact List.Sublist.refl _ | refine .cons_cons _ ?_ | refine .cons _ ?_)))))
  have nx1 : D1 ≠ ha := fun q => ndx.1 (by rw [q]; exact .head _)
  have Ph := C.S.N _ (.head _)
  have Q780 := C.S.N (780, tabObj p2) (.tail _ (.tail _ (.tail _ (.head _))))
  exact c_texts C.G C.S.stays C.R ⟨_, (C.S.N _ (.tail _ (.head _))).1, rfl, _, rfl⟩ (Nat.lt_of_le_of_lt C.len (by decide)) C.its ⟨nx1, fun q => ndx.1 (.tail _ q)⟩ ⟨Ph.1, Ph.2.2⟩ C.n0 C.z0 ⟨Q780.1, Q780.2.2⟩ to ((tabF txtQ p2).keeps _ _ C.ch k) C.hA Fs2 hFX2 ndx.2 (fun h tk ch g1 => ret _ _ (law_kept (Y := [780]) C.S C.hB ch (mem_one (by decide)) (mem_one g1)))
theorem l_parts (C : LawC w mg mb B h hc L ha D1 ns vs fs n z tn tz c cD ys p1 p2 p3 p4 FX A env outer) (to : TriplesOk p1.toList) (k : tabOk putQ p1 B) (ret : ∀ h' tk', Kept FX h h' → Q (.bool true) (St s h' tk')) : wpAny (model pg w) A (call (.ref 809) [.ref ha]) Q E (St s hc tk) := by
  obtain ⟨oL, Fs2, hFX2, hnd2⟩ := C.S.out (FX := FX) (fun p hp => by walk_at "zfx") C.nd C.Fs C.ke C.fe
  have ndx := List.nodup_cons.mp (nd_with (X := (D1, listOf ys.toArray cD) :: (ha, handO D1 n z tn tz c) :: [(773, tabObj p1)]) (FX := FX) oL (C.S.perm (.swap _ _ _)) (.cons_cons _ (.cons_cons _ (by repeat (first | exact List.Sublist.refl _ | refine .cons_cons _ ?_ | refine .cons _ ?_)))))
  have nx1 : D1 ≠ ha := fun q => ndx.1 (by rw [q]; exact .head _)
  have Ph := C.S.N _ (.head _)
  have Q773 := C.S.N (773, tabObj p1) (.tail _ (.tail _ (.head _)))
  exact c_parts C.G C.S.stays C.R ⟨_, (C.S.N _ (.tail _ (.head _))).1, rfl, _, rfl⟩ (Nat.lt_of_le_of_lt C.len (by decide)) C.its ⟨nx1, fun q => ndx.1 (.tail _ q)⟩ ⟨Ph.1, Ph.2.2⟩ C.n0 C.z0 ⟨Q773.1, Q773.2.2⟩ to ((tabF putQ p1).keeps _ _ C.ch k) C.hA Fs2 hFX2 ndx.2 (fun h tk ch g1 => ret _ _ (law_kept (Y := [773]) C.S C.hB ch (mem_one (by decide)) (mem_one g1)))
theorem l_doubled (C : LawC w mg mb B h hc L ha D1 ns vs fs n z tn tz c cD ys p1 p2 p3 p4 FX A env outer) (to : TriplesOk p4.toList) (k : tabOk dblQ p4 B) (ret : ∀ h' tk', Kept FX h h' → Q (.bool true) (St s h' tk')) : wpAny (model pg w) A (call (.ref 816) [.ref ha]) Q E (St s hc tk) := by
  obtain ⟨oL, Fs2, hFX2, hnd2⟩ := C.S.out (FX := FX) (fun p hp => by walk_at "zfx") C.nd C.Fs C.ke C.fe
  have ndx := List.nodup_cons.mp (nd_with (X := (D1, listOf ys.toArray cD) :: (ha, handO D1 n z tn tz c) :: [(811, tabObj p4)]) (FX := FX) oL (C.S.perm (.swap _ _ _)) (.cons_cons _ (.cons_cons _ (by repeat (first | exact List.Sublist.refl _ | refine .cons_cons _ ?_ | refine .cons _ ?_)))))
  have nx1 : D1 ≠ ha := fun q => ndx.1 (by rw [q]; exact .head _)
  have Ph := C.S.N _ (.head _)
  have Q811 := C.S.N (811, tabObj p4) (.tail _ (.tail _ (.tail _ (.tail _ (.tail _ (.head _))))))
  exact c_doubled C.G C.S.stays C.R ⟨_, (C.S.N _ (.tail _ (.head _))).1, rfl, _, rfl⟩ (Nat.lt_of_le_of_lt C.len (by decide)) C.its ⟨nx1, fun q => ndx.1 (.tail _ q)⟩ ⟨Ph.1, Ph.2.2⟩ C.n0 C.z0 ⟨Q811.1, Q811.2.2⟩ to ((tabF dblQ p4).keeps _ _ C.ch k) C.hA Fs2 hFX2 ndx.2 (fun h tk ch g1 => ret _ _ (law_kept (Y := [811]) C.S C.hB ch (mem_one (by decide)) (mem_one g1)))
theorem l_deep (C : LawC w mg mb B h hc L ha D1 ns vs fs n z tn tz c cD ys p1 p2 p3 p4 FX A env outer) (to : TriplesOk p1.toList) (k : tabOk putQ p1 B) (to3 : TriplesOk p3.toList) (k3 : tabOk deepQ p3 B) (ret : ∀ h' tk', Kept FX h h' → Q (.bool true) (St s h' tk')) : wpAny (model pg w) A (call (.ref 790) [.ref ha]) Q E (St s hc tk) := by
  obtain ⟨oL, Fs2, hFX2, hnd2⟩ := C.S.out (FX := FX) (fun p hp => by walk_at "zfx") C.nd C.Fs C.ke C.fe
  have ndx := List.nodup_cons.mp (nd_with (X := (D1, listOf ys.toArray cD) :: (ha, handO D1 n z tn tz c) :: [(773, tabObj p1), (787, tabObj p3)]) (FX := FX) oL (C.S.perm (.swap _ _ _)) (.cons_cons _ (.cons_cons _ (by repeat (first | exact List.Sublist.refl _ | refine .cons_cons _ ?_ | refine .cons _ ?_)))))
  have nx1 : D1 ≠ ha := fun q => ndx.1 (by rw [q]; exact .head _)
  have Ph := C.S.N _ (.head _)
  have Q773 := C.S.N (773, tabObj p1) (.tail _ (.tail _ (.head _)))
  have Q787 := C.S.N (787, tabObj p3) (.tail _ (.tail _ (.tail _ (.tail _ (.head _)))))
  exact c_deep C.G C.S.stays C.R ⟨_, (C.S.N _ (.tail _ (.head _))).1, rfl, _, rfl⟩ (Nat.lt_of_le_of_lt C.len (by decide)) C.its ⟨nx1, fun q => ndx.1 (.tail _ q)⟩ ⟨Ph.1, Ph.2.2⟩ C.n0 C.z0 ⟨Q773.1, Q773.2.2⟩ to ((tabF putQ p1).keeps _ _ C.ch k) ⟨Q787.1, Q787.2.2⟩ to3 ((tabF deepQ p3).keeps _ _ C.ch k3) C.hA Fs2 hFX2 ndx.2 (fun h tk ch g1 g2 => ret _ _ (law_kept (Y := [773, 787]) C.S C.hB ch (mem_two (by decide) (by decide)) (mem_two g1 g2)))
end
inductive LwJ (lim : Int → Prop) (R : List (Addr × Obj)) (i : Nat) (ys : List Value) : List (Addr × Obj) → List Fact → Prop
  | mk : ys.length = i → (∀ v ∈ ys, ∃ i t, v = .int i t ∧ lim i) → LwJ lim R i ys R []
theorem c_law (G : Gl w mg mb g) (hk : g.StaysIn h) (R : Rm A 698) (hl : h.IsList la ls.toArray) (hls : ls.length ≤ 2 ^ 20) (hi : ∀ v ∈ ls, ∃ i t, v = .int i t) (hne : la ∉ ((773, tabObj p1) :: (780, tabObj p2) :: (787, tabObj p3) :: (811, tabObj p4) :: FX).map (·.1))
   (h1 : h.get? 773 = some (tabObj p1) ∧ g.get? 773 = none) (to1 : TriplesOk p1.toList) (k1 : tabOk putQ p1 h)
   (h2 : h.get? 780 = some (tabObj p2) ∧ g.get? 780 = none) (to2 : TriplesOk p2.toList) (k2 : tabOk txtQ p2 h)
   (h3 : h.get? 787 = some (tabObj p3) ∧ g.get? 787 = none) (to3 : TriplesOk p3.toList) (k3 : tabOk deepQ p3 h)
   (h4 : h.get? 811 = some (tabObj p4) ∧ g.get? 811 = none) (to4 : TriplesOk p4.toList) (k4 : tabOk dblQ p4 h)
   (hA : A.frames = some outer) (Fs : Frs outer FX) (hFX : ∀ p ∈ FX, h.get? p.1 = some p.2 ∧ g.get? p.1 = none) (hnd : (((773, tabObj p1) :: (780, tabObj p2) :: (787, tabObj p3) :: (811, tabObj p4) :: FX).map (·.1)).Nodup)
   (ret : ∀ h' tk', Kept FX h h' → Q (.bool true) (St s h' tk')) :
   wpAny (model pg w) A (call (.ref 821) [.ref la]) Q E (St s h tk) := by
  have hled : ∀ p ∈ (773, tabObj p1) :: (780, tabObj p2) :: (787, tabObj p3) :: (811, tabObj p4) :: FX, h.get? p.1 = some p.2 ∧ g.get? p.1 = none := mem_cons' h1 (mem_cons' h2 (mem_cons' h3 (mem_cons' h4 hFX)))
  refine enterC ((773, tabObj p1) :: (780, tabObj p2) :: (787, tabObj p3) :: (811, tabObj p4) :: FX) [some (.ref la)] G hk (by k_is) (by k_is) (by decide +kernel) R (BindsTo.of_eq (bind_plain rfl rfl rfl (by decide +kernel))) (by dsimp only; repeat (first | exact BndC.nil | refine BndC.loc ?_ | refine BndC.cel ?_)) hA hled hnd (by decide +kernel) ?_ (by rfl) (by rfl); intro B h L tk env A cells V EC EQ ED G CA S hB hB' hL R hA hke hfe; dsimp only at V S EC CA
  have kB : Tk _ B := tk_led hB hled (mem_cons' (ntup_tab to1) (mem_cons' (ntup_tab to2) (mem_cons' (ntup_tab to3) (mem_cons' (ntup_tab to4) Fs.nt))))
  have okB1 : tabOk putQ p1 B := (tabF putQ p1).keeps _ _ kB k1
  have okB2 : tabOk txtQ p2 B := (tabF txtQ p2).keeps _ _ kB k2
  have okB3 : tabOk deepQ p3 B := (tabF deepQ p3).keeps _ _ kB k3
  have okB4 : tabOk dblQ p4 B := (tabF dblQ p4).keeps _ _ kB k4
  have hlB := list_base hB hl hne
  have CA0 : cells = [] := by cases CA; rfl
  subst CA0
  have S : Sx B L _ _ _ ((773, tabObj p1) :: (780, tabObj p2) :: (787, tabObj p3) :: (811, tabObj p4) :: FX) _ := S
  repeat' (walk_at "ms@47_1")
  obtain ⟨l1, hl1⟩ : ∃ z, z = h.objs.size + 1 := ⟨_, rfl⟩
  refine x_compL (cl := []) (B := B) (vs := [some (.ref la)]) (l := l1) (items := ls.take 20) (nsC := [(Str.ofString ".0", .local), (Str.ofString "one", .local), (Str.ofString "abs", .globalImplicit), (Str.ofString "int", .globalImplicit)]) (LwJ (fun i => 0 ≤ i) ((l1, listOf (ls.take 20).toArray 0) :: (773, tabObj p1) :: (780, tabObj p2) :: (787, tabObj p3) :: (811, tabObj p4) :: FX)) (fun vsC => ∃ a b, vsC = [a, b]) 2 V R.h (.inl (fun _ _ => rfl)) (by rfl) (by decide) (by decide) (by rfl) (by decide +kernel) rfl (by unfold sizeLine; simp; omega) ⟨_, _, rfl⟩ ?a1 ?b1 ?c1 ?d1 (by intro _; rfl)
  case a1 =>
    intro i ys _ _ J
    cases J
    exact .inl ⟨_, .head _⟩
  case b1 =>
    repeat' (walk_at "ms@47_1")
    refine o_sltoE S (hlB.at fun o e => S.F.keep _ _ e) (by decide) (by unfold sizeLine; exact lin1 [_] [] (.nle (.V 0) (.W 2 20)) (.nle (.V 0) (.W 2 24)) [[1, 1]] hls okT) (by with_unfolding_all exact rfl) (by intro _; with_unfolding_all exact rfl) ?_
    rw [← hl1]
    intro h tk S
    exact .mk S (.mk rfl (fun _ h => nomatch h))
  case c1 =>
    intro i ys _ _ v h tk q1 q2 q3 C vsC cenv hv J K V EC S
    obtain ⟨a1, a2, rfl⟩ := K
    cases J with | mk hyl hys => ?_
    refine x2_1 (hi v (List.mem_of_mem_take (List.mem_of_getElem? hv))) fun n t zq2 => ?_; subst zq2
    repeat' (walk_at "ms@47_1")
    refine call_int_int (s := St s _ _) ?_
    repeat' (walk_at "ms@47_1")
    refine call_abs_int (s := St s _ _) fun u tk => ?_
    repeat' (walk_at "ms@47_1")
    refine .mk S ⟨_, _, rfl⟩ (.mk (by rw [List.length_append, hyl]; rfl) fun v hv => ?_)
    rcases List.mem_append.mp hv with hv | hv
    · exact hys v hv
    · rw [List.mem_singleton.mp hv]; exact ⟨_, _, rfl, by split <;> omega⟩
  case d1 =>
    intro ys _ _ D1 cD1 h tk J S
    cases J with | mk hyl hys => ?_
    obtain ⟨ys1, hq1⟩ : ∃ z, z = ys := ⟨ys, rfl⟩
    subst hq1
    have hys1 := hys
    have hl20 : ys1.length ≤ 20 := by rw [hyl, List.length_take]; exact Nat.min_le_left _ _
    have hyl1 := hyl
    repeat' (walk_at "ms@47_1")
    obtain ⟨l2, hl2⟩ : ∃ z, z = h.objs.size + 1 := ⟨_, rfl⟩
    refine x_compL (cl := []) (B := B) (vs := [some (.ref la)]) (l := l2) (items := ls.take 20) (nsC := [(Str.ofString ".0", .local), (Str.ofString "one", .local), (Str.ofString "abs", .globalImplicit), (Str.ofString "int", .globalImplicit)]) (LwJ (fun i => 0 ≤ i ∧ i < 9973) ((l2, listOf (ls.take 20).toArray 0) :: (D1, listOf ys1.toArray cD1) :: (l1, listOf (ls.take 20).toArray 0) :: (773, tabObj p1) :: (780, tabObj p2) :: (787, tabObj p3) :: (811, tabObj p4) :: FX)) (fun vsC => ∃ a b, vsC = [a, b]) 2 V R.h (.inl (fun _ _ => rfl)) (by rfl) (by decide) (by decide) (by rfl) (by decide +kernel) rfl (by unfold sizeLine; simp; omega) ⟨_, _, rfl⟩ ?a2 ?b2 ?c2 ?d2 (by intro _; rfl)
    case a2 =>
      intro i ys _ _ J
      cases J
      exact .inl ⟨_, .head _⟩
    case b2 =>
      repeat' (walk_at "ms@47_1")
      refine o_sltoE S (hlB.at fun o e => S.F.keep _ _ e) (by decide) (by unfold sizeLine; exact lin1 [_] [] (.nle (.V 0) (.W 2 20)) (.nle (.V 0) (.W 2 24)) [[1, 1]] hls okT) (by with_unfolding_all exact rfl) (by intro _; with_unfolding_all exact rfl) ?_
      rw [← hl2]
      intro h tk S
      exact .mk S (.mk rfl (fun _ h => nomatch h))
    case c2 =>
      intro i ys _ _ v h tk q1 q2 q3 C vsC cenv hv J K V EC S
      obtain ⟨a1, a2, rfl⟩ := K
      cases J with | mk hyl hys => ?_
      refine x2_1 (hi v (List.mem_of_mem_take (List.mem_of_getElem? hv))) fun n t zq2 => ?_; subst zq2
      repeat' (walk_at "ms@47_1")
      refine call_int_int (s := St s _ _) ?_
      repeat' (walk_at "ms@47_1")
      refine call_abs_int (s := St s _ _) fun u tk => ?_
      repeat' (walk_at "ms@47_1")
      refine .mk S ⟨_, _, rfl⟩ (.mk (by rw [List.length_append, hyl]; rfl) fun v hv => ?_)
      rcases List.mem_append.mp hv with hv | hv
      · exact hys v hv
      · rw [List.mem_singleton.mp hv]; exact ⟨_, _, rfl, Int.fmod_nonneg_of_pos _ (by decide), Int.fmod_lt_of_pos _ (by decide)⟩
    case d2 =>
      intro ys _ _ D2 cD2 h tk J S
      cases J with | mk hyl hys => ?_
      repeat' (walk_at "ms@47_1")
      refine o_sum R.h S ⟨_, (S.N _ (.head _)).1, rfl, _, rfl⟩ hys (by rw [hyl]; simp; omega) ?_
      clear S; intro sm ts h tk hs0 hs1 S
      repeat' (walk_at "ms@47_1")
      (rename Sx _ _ _ _ _ _ _ => a); rename_i ha _; (rename Sx _ _ _ _ _ _ _ => S)
      have S := S.drop (news' := (ha, handO D1 0 (5 + sm) _ _ 0) :: (D1, listOf ys1.toArray cD1) :: (773, tabObj p1) :: (780, tabObj p2) :: (787, tabObj p3) :: (811, tabObj p4) :: FX) (.cons_cons _ (.cons _ (.cons _ (.cons_cons _ (.cons _ (List.Sublist.refl _))))))
      have hndF : (FX.map (·.1)).Nodup := (List.nodup_cons.mp (List.nodup_cons.mp (List.nodup_cons.mp (List.nodup_cons.mp hnd).2).2).2).2
      have Pd0 := S.N (D1, listOf ys1.toArray cD1) (Inn.mem (by walk_at "zm"))
      have Ph0 := S.N (ha, handO D1 0 (5 + sm) _ _ 0) (.head _)
      have nx0 : D1 ≠ ha := fun q => (List.nodup_cons.mp S.nd).1 (by rw [← q]; exact .head _)
      refine c_given G S.stays (R.le (by exact lin0 [] [] (.nle (.K 1) (.K 697)) [[1]]  okT)) (by decide) ⟨by decide, by decide⟩ ⟨by exact lin1 [] [sm] (.ile (.K 0) (.V 0)) (.ile (.K 0) (.P (.K 5) (.V 0))) [[1, 1]] hs0 okT, by exact lin1 [] [sm] (.ile (.V 0) (.K 200000)) (.ilt (.P (.K 5) (.V 0)) (.W 2 40)) [[1, 1]] hs1 okT⟩ ⟨_, Pd0.1, rfl, _, rfl⟩ (by rw [hyl1]; simp; omega) (fun v hv => (hys1 v hv).imp fun i z => z.imp fun t z => z.1) nx0 ⟨Ph0.1, Ph0.2.2⟩ ?_
      intro r1 u1 n1 z1 tn1 tz1 c1 h tk ch e hn1 hz1 hr1
      have S := S.chg .z not_tup_list ch e
      have R6 : Rm A 650 := R.le (by decide)
      have hits : ∀ v ∈ ys1, ∃ i t, v = .int i t := fun v hv => (hys1 v hv).imp fun i z => z.imp fun t z => z.1
      have hn2 : 0 ≤ n1 ∧ n1 ≤ 100 := ⟨hn1.1, by exact lin1 [] [n1] (.A (.ile (.K 0) (.V 0)) (.ile (.V 0) (.P (.K 0) (.K 1)))) (.ile (.V 0) (.K 100)) [[1, 0, 1]] hn1 okT⟩
      have hr := int_lt (P := fun r1 => r1 = 0 ∨ r1 = 1 ∨ r1 = 2 ∨ r1 = 3 ∨ r1 = 4 ∨ r1 = 5) (n := 6) hr1 (by decide)
      rcases hr with rfl | rfl | rfl | rfl | rfl | rfl
      · skip
        repeat' (walk_at "ms@47_1")
        exact l_texts ⟨G, S, R6, hA, Fs, hndF, hke, hfe, hl20, hits, hn2, hz1, hB, tk_of S⟩ to2 okB2 ret
      · skip
        repeat' (walk_at "ms@47_1")
        exact l_deep ⟨G, S, R6, hA, Fs, hndF, hke, hfe, hl20, hits, hn2, hz1, hB, tk_of S⟩ to1 okB1 to3 okB3 ret
      · skip
        repeat' (walk_at "ms@47_1")
        exact l_texts ⟨G, S, R6, hA, Fs, hndF, hke, hfe, hl20, hits, hn2, hz1, hB, tk_of S⟩ to2 okB2 ret
      · skip
        repeat' (walk_at "ms@47_1")
        exact l_parts ⟨G, S, R6, hA, Fs, hndF, hke, hfe, hl20, hits, hn2, hz1, hB, tk_of S⟩ to1 okB1 ret
      · skip
        repeat' (walk_at "ms@47_1")
        exact l_doubled ⟨G, S, R6, hA, Fs, hndF, hke, hfe, hl20, hits, hn2, hz1, hB, tk_of S⟩ to4 okB4 ret
      · skip
        repeat' (walk_at "ms@47_1")
        exact l_deep ⟨G, S, R6, hA, Fs, hndF, hke, hfe, hl20, hits, hn2, hz1, hB, tk_of S⟩ to1 okB1 to3 okB3 ret
end
section
set_option maxRecDepth 100000
set_option maxHeartbeats 2000000
theorem nm_law (w : World) : nsIn (Mine.hd.heap_1 w.params) mainGlobals (Str.ofString "law") = some (some (.ref 821)) := by kernel_rfl
theorem ints_of {vs : List Value} {ns : List Int} (h : IntsAre vs ns) : vs.length = ns.length ∧ ∀ v ∈ vs, ∃ i t, v = .int i t := by
  induction h with
  | nil => exact ⟨rfl, fun v hv => nomatch hv⟩
  | cons n t _ ih =>
    refine ⟨by simp only [List.length_cons, ih.1], fun v hv => ?_⟩
    rcases List.mem_cons.mp hv with rfl | hv
    · exact ⟨n, t, rfl⟩
    · exact ih.2 v hv
theorem tab_nil (q : Str) (h : Heap) : tabOk q #[] h := fun _ _ e => nomatch e
noncomputable abbrev topTabs : List (Addr × Addr) := [(815, 811), (777, 773), (789, 787), (784, 780)]
theorem gl_top {w : World} {p : Program} {loose : List Str} {mean : ExcName → Option Value} {mg mb : Str → Option Value} {h : Heap} (hT : TabsAt topTabs h) (X : (Mine.hd.heap_1 w.params).In h) (T : Top p loose mean mg mb h) : Gl w mg mb (ghostOf h topTabs) := by
  have T' := ghost_top hT T
  obtain ⟨c1, c2, c3, c4, _⟩ := ghost_code hT
  exact ⟨ghost_K hT X (by kernel_rfl), T'.g, T'.b, T'.nolimit, T'.builtins, T'.bmain, c2, c4, c3, c1, trivial⟩
theorem law_good {c : ClaimW} {cl : Str → Option Addr} {mean : ExcName → Option Value} {args : List WData} {s : Shared} {h' : Heap} {tk' : Nat} (hT : TabsAt topTabs s.heap) (K : Kept [] s.heap h') (hg : s.gens = #[]) (hr : ∀ cls, c.raises args cls = false) (hp : c.post args (.bool true) args = true) :
    GoodWG c cl mean args s (.ok (.ret (.bool true))) (St s h' tk') := by
  obtain ⟨ch, g1, g2, g3, g4⟩ := K
  have gr : ∀ q ∈ topTabs, GrownAt q.2 h' := fun q hq => by
    rcases List.mem_cons.mp hq with rfl | hq
    · exact g4
    rcases List.mem_cons.mp hq with rfl | hq
    · exact g1
    rcases List.mem_cons.mp hq with rfl | hq
    · exact g3
    · rw [List.mem_singleton.mp hq]; exact g2
  have keep : ∀ b o, b ∉ topTabs.map (·.2) → s.heap.get? b = some o → h'.get? b = some o := fun b o hb e => ch b o e fun m => hb (by
    simp only [List.map_cons, List.map_nil, List.mem_cons, List.not_mem_nil, or_false] at m ⊢
    rcases m with m | m | m | m
    · exact .inr (.inl m)
    · exact .inr (.inr (.inr m))
    · exact .inr (.inr (.inl m))
    · exact .inl m)
  have grown : ∀ b o, b ∈ topTabs.map (·.2) → s.heap.get? b = some o → isCodeTable s.heap b ∧ o = tabObj #[] ∧ ∃ ps, h'.get? b = some (tabObj ps) := fun b o hb e => by
    obtain ⟨q, hq, rfl⟩ := List.mem_map.mp hb
    have e2 := (hT q hq).2
    rw [e] at e2
    exact ⟨((hT q hq).1.tab (hT q hq).2).isCodeTable, Option.some.inj e2, gr q hq⟩
  refine ⟨.inl ⟨_, _, [], rfl, hr, .bool true, hp, fun _ => ⟨List.nodup_nil, fun a ha => nomatch ha⟩⟩, ⟨fun b o e => ?_, fun b o e => ?_⟩, rfl, .of_eq hg⟩
  · by_cases hb : b ∈ topTabs.map (·.2)
    · obtain ⟨ht, rfl, ps, hP⟩ := grown b o hb e
      exact .inr (.inl ⟨ht, rfl, #[], ps, rfl, by rw [Array.empty_append]; exact hP⟩)
    · exact .inl (keep b o hb e)
  · by_cases hb : b ∈ topTabs.map (·.2)
    · obtain ⟨_, _, ps, hP⟩ := grown b o hb e
      exact ⟨_, hP⟩
    · exact ⟨o, keep b o hb e⟩
theorem rm_top : Rm callerA 698 := ⟨by decide, by decide, rfl⟩
theorem law_top {w : World} {p : Program} {loose : List Str} {mean0 : ExcName → Option Value} {mg mb : Str → Option Value} {s : Shared} {fa la : Addr} {ls : List Value} {ns : List Int} {c : ClaimW} {cl : Str → Option Addr} {mean : ExcName → Option Value} {args : List WData}
    (hT : TabsAt topTabs s.heap) (X : (Mine.hd.heap_1 w.params).In s.heap) (T : Top p loose mean0 mg mb s.heap) (hm : mg (Str.ofString "law") = some (.ref fa)) (hg : s.gens = #[]) (hl : s.heap.IsList la ls.toArray) (hI : IntsAre ls ns) (hn : ns.length ≤ 2 ^ 20)
    (hr : ∀ cls, c.raises args cls = false) (hp : c.post args (.bool true) args = true) {E : Value → Shared → Prop} :
    wpAny (model pg w) callerA (call (.ref fa) [.ref la]) (fun v s' => GoodWG c cl mean args s (.ok (.ret v)) s') E s := by
  have e := mg_of X T.g (nm_law w)
  rw [hm] at e; cases e
  have I := ints_of hI
  have G := gl_top hT X T
  have t : ∀ q ∈ topTabs, s.heap.get? q.2 = some (tabObj #[]) ∧ (ghostOf s.heap topTabs).get? q.2 = none := fun q hq => ⟨(hT q hq).2, hideAll_none _ (List.mem_map_of_mem hq)⟩
  have nt : ∀ q ∈ topTabs, la ≠ q.2 := fun q hq z => by
    obtain ⟨o, h1, h2, _⟩ := hl
    rw [z, (hT q hq).2] at h1; cases h1; cases h2
  exact c_law (s := s) (h := s.heap) (tk := s.toks) (FX := []) (p1 := #[]) (p2 := #[]) (p3 := #[]) (p4 := #[]) G (fun b o z => of_hideAll _ z) rm_top hl (by rw [I.1]; exact hn) I.2
    (fun m => by
      simp only [List.map_cons, List.map_nil, List.mem_cons, List.not_mem_nil, or_false] at m
      rcases m with m | m | m | m
      · exact nt (777, 773) (by simp) m
      · exact nt (784, 780) (by simp) m
      · exact nt (789, 787) (by simp) m
      · exact nt (815, 811) (by simp) m)
    (t (777, 773) (by simp)) trivial (tab_nil _ _) (t (784, 780) (by simp)) trivial (tab_nil _ _) (t (789, 787) (by simp)) trivial (tab_nil _ _) (t (815, 811) (by simp)) trivial (tab_nil _ _)
    rfl .nil (fun p hp => nomatch hp) (by decide) (fun h' tk' K => law_good hT K hg hr hp)
end
end Mine
set_option maxRecDepth 100000 in
set_option maxHeartbeats 8000000 in
theorem PySem.Challenge.cw_pb0535_01_holds : PySem.Challenge.rw_pb0535_01.Holds := by
  refine Mine.hd ?_
  k_fill
  intro w s₀ s₁ mg mb G Y fa o pm cd doc dV kV ho hd hcd hD hmg hg args vals as hpre hlay hrd hwl hlo
  have KX := km_in_of Y
  km_tabs Y
  refine Ground.open G ?_
  intro T B D TE TW
  try (refine guard_noD D (by decide +kernel) ?_; clear D)
  km_lay T hmg ho hd cd
  clear hd hcd hD B TE TW
  wrow_args hpre hlay hrd hwl hlo
  all_goals (
    rename IntsAre _ _ => hI
    rename Heap.IsList _ _ _ => hL
    refine wpAny_mono (Mine.law_top hT9 KX T hmg hg hL hI (by omega) (fun _ => rfl) ?_) (fun _ _ z => z) (fun _ _ z => z)
    first | wrow_post | exact postW_of (by wrow_shape) (by wtm_val) (by str_meet; first | done | w_fin))
