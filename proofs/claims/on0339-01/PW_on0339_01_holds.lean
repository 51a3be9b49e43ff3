import PyProof.Rows.All
import Wide.All
import OpenK.AllK
import Wide.FinOn
import PyProof.ExcInit
import PySem.Challenge.RW_on0339_01
set_option linter.unusedVariables false
set_option linter.unusedSimpArgs false
set_option Elab.async false
set_option maxRecDepth 100000
set_option maxHeartbeats 8000000
namespace Mine
open PySem PySem.W PyProof.Rows
local macro_rules | `(tactic| walk_at $s:str) => `(tactic| k_extra $s)
local macro_rules | `(tactic| k_mem) => `(tactic| k_extra "k_mem")
local macro_rules | `(tactic| k_all) => `(tactic| k_extra "k_all")
local macro_rules | `(tactic| k_handed) => `(tactic| k_extra "k_handed")
local macro_rules | `(tactic| k_ne) => `(tactic| k_extra "k_ne")
section
open PySem PySem.W PyProof.Rows
theorem kclrH0 : True := by
  w_top off
  k_with_none
  trivial
/-- the run of the text's top, over a tree of objects -/
noncomputable def runT (tb : String → Option Builtin) (p : Program) (w : World) (n₀ : Nat) (ann : Option Value) (n : Nat) : SharedT → Thread → Option SharedT :=
  Nat.rec (motive := fun _ => SharedT → Thread → Option SharedT) (fun _ _ => none) (fun _ ih s t => match through t with
    | true => some s
    | false => match stepOk n₀ ann t with
      | false => none
      | true => match stepT (denote tb) p w s t with
        | some r => ih r.1 r.2
        | none => none) n
theorem runT_succ {tb : String → Option Builtin} {p : Program} {w : World} {n₀ : Nat} {ann : Option Value} {n : Nat} {s : SharedT} {t : Thread} : runT tb p w n₀ ann (n + 1) s t = (match through t with
    | true => some s
    | false => match stepOk n₀ ann t with
      | false => none
      | true => match stepT (denote tb) p w s t with
        | some r => runT tb p w n₀ ann n r.1 r.2
        | none => none) := rfl
theorem runT_of {tb : String → Option Builtin} {p : Program} {w : World} {n₀ : Nat} {ann : Option Value} : ∀ {n : Nat} {s s' : SharedT} {t : Thread}, runT tb p w n₀ ann n s t = some s' → topRun tb p w n₀ ann n s.abs t = some s'.abs
  | 0, _, _, _, h => by cases h
  | n + 1, s, s', t, h => by
    rw [runT_succ] at h
    unfold topRun
    cases ht : through t with
    | true => rw [ht] at h; cases h; rfl
    | false =>
      rw [ht] at h
      cases hk : stepOk n₀ ann t with
      | false => rw [hk] at h; cases h
      | true =>
        rw [hk] at h
        cases hs : stepT (denote tb) p w s t with
        | none => rw [hs] at h; cases h
        | some r =>
          rw [hs] at h
          obtain ⟨s₂, t₂⟩ := r
          rw [stepT_spec hs]
          exact runT_of h
/-- the same, with the kit's quick forms of its parts -/
noncomputable def runF (tb : String → Option Builtin) (p : Program) (w : World) (n₀ : Nat) (ann : Option Value) (n : Nat) : SharedT → Thread → Option SharedT :=
  Nat.rec (motive := fun _ => SharedT → Thread → Option SharedT) (fun _ _ => none) (fun _ ih s t => match through t with
    | true => some s
    | false => match Fast.tw6613529449190102663 n₀ ann t with
      | false => none
      | true => match Fast.tw10156331382660048174 (Fast.tw11892475500146522536 tb) p w s t with
        | some r => ih r.1 r.2
        | none => none) n
theorem runF_succ {tb : String → Option Builtin} {p : Program} {w : World} {n₀ : Nat} {ann : Option Value} {n : Nat} {s : SharedT} {t : Thread} : runF tb p w n₀ ann (n + 1) s t = (match through t with
    | true => some s
    | false => match Fast.tw6613529449190102663 n₀ ann t with
      | false => none
      | true => match Fast.tw10156331382660048174 (Fast.tw11892475500146522536 tb) p w s t with
        | some r => runF tb p w n₀ ann n r.1 r.2
        | none => none) := rfl
theorem runT_eq (tb : String → Option Builtin) (p : Program) (w : World) (n₀ : Nat) (ann : Option Value) : ∀ (n : Nat) (s : SharedT) (t : Thread), runT tb p w n₀ ann n s t = runF tb p w n₀ ann n s t
  | 0, _, _ => rfl
  | n + 1, s, t => by
    rw [runT_succ, runF_succ]
    rw [← Fast.te6613529449190102663, ← Fast.te10156331382660048174, ← Fast.te11892475500146522536]
    cases through t with
    | true => rfl
    | false =>
      cases stepOk n₀ ann t with
      | false => rfl
      | true =>
        cases stepT (denote tb) p w s t with
        | none => rfl
        | some r => exact runT_eq tb p w n₀ ann n r.1 r.2
noncomputable def treeOf (l : List Obj) : Nat → BT → BT :=
  List.rec (motive := fun _ => Nat → BT → BT) (fun _ t => t) (fun o _ ih n t => ih (n + 1) (t.ins n o)) l
noncomputable def bootT (P : Params) (os : OsState) : SharedT := ⟨treeOf (boot_heap P).objs.toList 0 .nil, (boot_heap P).objs.size, (boot_heap P).life, #[], boot_drawn, boot_toks, os⟩
theorem bootT_abs (P : Params) (os : OsState) : (bootT P os).abs = ⟨boot_heap P, #[], boot_drawn, boot_toks, os⟩ := by kernel_rfl
/-- what is asked of the text's end -/
noncomputable def lookAt (p : Program) {β : Type} (H₀ : Heap) (f : Shared → β) (s : Shared) : Bool × β :=
  (staticsOk (importedModules p.main.body) H₀ s.heap && namesBound p s.heap && gensDone s && laidKept H₀ s.heap, f s)
theorem left_boot {p q : Program} {loose : List Str} {Xt : Shared → Bool} {α : Type} {Yf : Shared → α} {Ya : World → α} {N : Nat} (e : opening p = plainProg p.main.scope.names) (hN : Nat.ble 600 N = true) (f : ∀ s, fenceModules? p s = some s)
    (size : ∀ w : World, (boot_heap w.params).isNs mainGlobals = true)
    (h : ∀ w os, (runF Fast.tw14364793385576792824 p w (boot_heap w.params).objs.size ((boot_heap w.params).nsMap mainGlobals "__annotations__") N (bootT w.params os) (topStub p)).map (fun s => lookAt p (boot_heap w.params) (fun s => (Fast.tw4187177175401517315 q loose (importedModules p.main.body) Xt true s, Yf s)) s.abs) = some (true, openGood q loose, Ya w)) :
    LeftO p q loose Xt Yf Ya N := fun w => by
  obtain ⟨⟨h₀, gs, d, k, os⟩, e1, e2⟩ := Option.map_eq_some_iff.mp (boot_open e hN f w)
  obtain ⟨rfl, rfl, rfl, rfl⟩ : h₀ = boot_heap w.params ∧ gs = #[] ∧ d = boot_drawn ∧ k = boot_toks := by simpa using e2
  obtain ⟨s, hs, hv⟩ := Option.map_eq_some_iff.mp (h w os)
  rw [← runT_eq, ← Fast.te14364793385576792824] at hs
  have hr := runT_of hs
  rw [bootT_abs] at hr
  rw [← Fast.te4187177175401517315] at hv
  obtain ⟨l1, l2⟩ := Prod.mk.inj hv
  have t : topFrom treeTable p w N ⟨boot_heap w.params, #[], boot_drawn, boot_toks, os⟩ = some s.abs := by
    unfold topFrom
    dsimp only
    rw [size w, hr]
    show (match staticsOk (importedModules p.main.body) (boot_heap w.params) s.abs.heap && namesBound p s.abs.heap && gensDone s.abs && laidKept (boot_heap w.params) s.abs.heap with | true => _ | false => _) = _
    rw [l1]
  unfold openEnds
  rw [e1]
  show (topFrom treeTable p w N ⟨boot_heap w.params, #[], boot_drawn, boot_toks, os⟩).map _ = _
  rw [t]
  exact congrArg some l2
noncomputable def vw : Program := PySem.W.view PySem.Challenge.rw_on0339_01.row.prog [1, 2, 3, 4, 6, 7, 8, 10, 11, 13, 14, 16, 17, 19, 20, 21, 22, 23, 24, 25, 26, 27, 28, 29]
theorem said1 : Fast.tw9446332074065402090 PySem.Challenge.rw_on0339_01 = true := by kernel_rfl
theorem said : PySem.Challenge.rw_on0339_01.wellSaid = true := (congrFun Fast.te9446332074065402090 _).trans said1
local macro_rules | `(tactic| o_law) => `(tactic| (refine holds_law said fun _ => ?_))
local macro_rules | `(tactic| o_head $H) => `(tactic| (refine holds_open (q := vw) (loose := []) (Xt := fun s => xlAt vw [] s && recOk (RowW.records PySem.Challenge.rw_on0339_01.row.toRowW) s) (XP := XL vw []) (Yf := Hook.obs $H) (Ya := Hook.val $H) (YP := Hook.says $H) (N := 5532) ?hl (Hook.of $H) (Hook.keeps $H) (fun s e => xl_of s (Bool.and_eq_true_iff.mp e).1) XL.keeps (by rfl) (by rfl) (by rfl) (fun s e => recFacts_of (Bool.and_eq_true_iff.mp e).2) (by rfl) (by first | assumption | decide +kernel) (by decide +kernel) ⟨rfl, rfl, rfl, rfl, rfl, by decide +kernel⟩ ?hw ?hc; (case hl => exact left_boot (by kernel_rfl) (by decide) (fun s => by kernel_rfl) (fun w => by kernel_rfl) (fun w os => by kernel_rfl))))
open_top hd for PySem.Challenge.rw_on0339_01
end
section
open PySem PySem.W PySem.Calls PyProof.Rows
theorem kclrB0 : True := by
  w_top off
  k_with_none
  trivial
noncomputable abbrev LS : List Str := looseW vw [] ++ List.map (fun x => x.name) (recsOf vw) ++
        List.map (fun x => x.fst) (litsOf vw) ++
      List.map (fun x => x.name) (clssOf vw (looseW vw []))

noncomputable abbrev rowD (w : World) (t : Nat → Tok) (o a p : Int) (rv : Value) : Obj :=
  dictOf [⟨PyData.keyHash w.params (Str.ofString "owner"), .str (Str.ofString "owner") (t 0), .int o (t 1)⟩,
    ⟨PyData.keyHash w.params (Str.ofString "address"), .str (Str.ofString "address") (t 2), .int a (t 3)⟩,
    ⟨PyData.keyHash w.params (Str.ofString "port"), .str (Str.ofString "port") (t 4), .int p (t 5)⟩,
    ⟨PyData.keyHash w.params (Str.ofString "remote"), .str (Str.ofString "remote") (t 6), rv⟩] 4
abbrev tupO (vs : List Value) : Obj := { cls := .type "tuple", data := .seq vs.toArray }
def Stop (p : Prop) : Prop := p
theorem Stop.here {p : Prop} (h : Stop p) : p := h
theorem Stop.go {p : Prop} (h : p) : Stop p := h
theorem sub_nil {l : List (Addr × Obj)} : ∀ p ∈ ([] : List (Addr × Obj)), p ∈ l := fun _ h => nomatch h
theorem sub_cons {a : Addr × Obj} {r l : List (Addr × Obj)} (h : a ∈ l) (t : ∀ p ∈ r, p ∈ l) : ∀ p ∈ a :: r, p ∈ l := fun p hp => (List.mem_cons.mp hp).elim (fun e => e ▸ h) (t p)
theorem sub_app {a r l : List (Addr × Obj)} (h : ∀ p ∈ a, p ∈ l) (t : ∀ p ∈ r, p ∈ l) : ∀ p ∈ a ++ r, p ∈ l := fun p hp => (List.mem_append.mp hp).elim (h p) (t p)
theorem sub_skip {a : Addr × Obj} {r l : List (Addr × Obj)} (t : ∀ p ∈ r, p ∈ l) : ∀ p ∈ r, p ∈ a :: l := fun p hp => List.mem_cons_of_mem _ (t p hp)
theorem sub_keep {a : Addr × Obj} {r l : List (Addr × Obj)} (t : ∀ p ∈ r, p ∈ l) : ∀ p ∈ a :: r, p ∈ a :: l := fun p hp => (List.mem_cons.mp hp).elim (fun e => e ▸ List.mem_cons_self) (fun hp => List.mem_cons_of_mem _ (t p hp))
theorem sub_same {l : List (Addr × Obj)} : ∀ p ∈ l, p ∈ l := fun _ h => h
theorem sub_left {r a l : List (Addr × Obj)} (t : ∀ p ∈ r, p ∈ a) : ∀ p ∈ r, p ∈ a ++ l := fun p hp => List.mem_append_left _ (t p hp)
theorem sub_right {r a l : List (Addr × Obj)} (t : ∀ p ∈ r, p ∈ l) : ∀ p ∈ r, p ∈ a ++ l := fun p hp => List.mem_append_right _ (t p hp)
theorem mm0 {α : Type} {a : α} {l : List α} : a ∈ a :: l := List.mem_cons_self
theorem mm1 {α : Type} {a b0 : α} {l : List α} : a ∈ b0 :: a :: l := List.mem_cons_of_mem _ (List.mem_cons_self)
theorem mm2 {α : Type} {a b0 b1 : α} {l : List α} : a ∈ b0 :: b1 :: a :: l := List.mem_cons_of_mem _ (List.mem_cons_of_mem _ (List.mem_cons_self))
theorem mm3 {α : Type} {a b0 b1 b2 : α} {l : List α} : a ∈ b0 :: b1 :: b2 :: a :: l := List.mem_cons_of_mem _ (List.mem_cons_of_mem _ (List.mem_cons_of_mem _ (List.mem_cons_self)))
theorem mm4 {α : Type} {a b0 b1 b2 b3 : α} {l : List α} : a ∈ b0 :: b1 :: b2 :: b3 :: a :: l := List.mem_cons_of_mem _ (List.mem_cons_of_mem _ (List.mem_cons_of_mem _ (List.mem_cons_of_mem _ (List.mem_cons_self))))
theorem mm5 {α : Type} {a b0 b1 b2 b3 b4 : α} {l : List α} : a ∈ b0 :: b1 :: b2 :: b3 :: b4 :: a :: l := List.mem_cons_of_mem _ (List.mem_cons_of_mem _ (List.mem_cons_of_mem _ (List.mem_cons_of_mem _ (List.mem_cons_of_mem _ (List.mem_cons_self)))))
theorem mm6 {α : Type} {a b0 b1 b2 b3 b4 b5 : α} {l : List α} : a ∈ b0 :: b1 :: b2 :: b3 :: b4 :: b5 :: a :: l := List.mem_cons_of_mem _ (List.mem_cons_of_mem _ (List.mem_cons_of_mem _ (List.mem_cons_of_mem _ (List.mem_cons_of_mem _ (List.mem_cons_of_mem _ (List.mem_cons_self))))))
theorem mm7 {α : Type} {a b0 b1 b2 b3 b4 b5 b6 : α} {l : List α} : a ∈ b0 :: b1 :: b2 :: b3 :: b4 :: b5 :: b6 :: a :: l := List.mem_cons_of_mem _ (List.mem_cons_of_mem _ (List.mem_cons_of_mem _ (List.mem_cons_of_mem _ (List.mem_cons_of_mem _ (List.mem_cons_of_mem _ (List.mem_cons_of_mem _ (List.mem_cons_self)))))))
theorem mm8 {α : Type} {a b0 b1 b2 b3 b4 b5 b6 b7 : α} {l : List α} : a ∈ b0 :: b1 :: b2 :: b3 :: b4 :: b5 :: b6 :: b7 :: a :: l := List.mem_cons_of_mem _ (List.mem_cons_of_mem _ (List.mem_cons_of_mem _ (List.mem_cons_of_mem _ (List.mem_cons_of_mem _ (List.mem_cons_of_mem _ (List.mem_cons_of_mem _ (List.mem_cons_of_mem _ (List.mem_cons_self))))))))
theorem mm9 {α : Type} {a b0 b1 b2 b3 b4 b5 b6 b7 b8 : α} {l : List α} : a ∈ b0 :: b1 :: b2 :: b3 :: b4 :: b5 :: b6 :: b7 :: b8 :: a :: l := List.mem_cons_of_mem _ (List.mem_cons_of_mem _ (List.mem_cons_of_mem _ (List.mem_cons_of_mem _ (List.mem_cons_of_mem _ (List.mem_cons_of_mem _ (List.mem_cons_of_mem _ (List.mem_cons_of_mem _ (List.mem_cons_of_mem _ (List.mem_cons_self)))))))))
theorem mm10 {α : Type} {a b0 b1 b2 b3 b4 b5 b6 b7 b8 b9 : α} {l : List α} : a ∈ b0 :: b1 :: b2 :: b3 :: b4 :: b5 :: b6 :: b7 :: b8 :: b9 :: a :: l := List.mem_cons_of_mem _ (List.mem_cons_of_mem _ (List.mem_cons_of_mem _ (List.mem_cons_of_mem _ (List.mem_cons_of_mem _ (List.mem_cons_of_mem _ (List.mem_cons_of_mem _ (List.mem_cons_of_mem _ (List.mem_cons_of_mem _ (List.mem_cons_of_mem _ (List.mem_cons_self))))))))))
theorem mm11 {α : Type} {a b0 b1 b2 b3 b4 b5 b6 b7 b8 b9 b10 : α} {l : List α} : a ∈ b0 :: b1 :: b2 :: b3 :: b4 :: b5 :: b6 :: b7 :: b8 :: b9 :: b10 :: a :: l := List.mem_cons_of_mem _ (List.mem_cons_of_mem _ (List.mem_cons_of_mem _ (List.mem_cons_of_mem _ (List.mem_cons_of_mem _ (List.mem_cons_of_mem _ (List.mem_cons_of_mem _ (List.mem_cons_of_mem _ (List.mem_cons_of_mem _ (List.mem_cons_of_mem _ (List.mem_cons_of_mem _ (List.mem_cons_self)))))))))))
theorem mm12 {α : Type} {a b0 b1 b2 b3 b4 b5 b6 b7 b8 b9 b10 b11 : α} {l : List α} : a ∈ b0 :: b1 :: b2 :: b3 :: b4 :: b5 :: b6 :: b7 :: b8 :: b9 :: b10 :: b11 :: a :: l := List.mem_cons_of_mem _ (List.mem_cons_of_mem _ (List.mem_cons_of_mem _ (List.mem_cons_of_mem _ (List.mem_cons_of_mem _ (List.mem_cons_of_mem _ (List.mem_cons_of_mem _ (List.mem_cons_of_mem _ (List.mem_cons_of_mem _ (List.mem_cons_of_mem _ (List.mem_cons_of_mem _ (List.mem_cons_of_mem _ (List.mem_cons_self))))))))))))
theorem mm13 {α : Type} {a b0 b1 b2 b3 b4 b5 b6 b7 b8 b9 b10 b11 b12 : α} {l : List α} : a ∈ b0 :: b1 :: b2 :: b3 :: b4 :: b5 :: b6 :: b7 :: b8 :: b9 :: b10 :: b11 :: b12 :: a :: l := List.mem_cons_of_mem _ (List.mem_cons_of_mem _ (List.mem_cons_of_mem _ (List.mem_cons_of_mem _ (List.mem_cons_of_mem _ (List.mem_cons_of_mem _ (List.mem_cons_of_mem _ (List.mem_cons_of_mem _ (List.mem_cons_of_mem _ (List.mem_cons_of_mem _ (List.mem_cons_of_mem _ (List.mem_cons_of_mem _ (List.mem_cons_of_mem _ (List.mem_cons_self)))))))))))))
theorem mm14 {α : Type} {a b0 b1 b2 b3 b4 b5 b6 b7 b8 b9 b10 b11 b12 b13 : α} {l : List α} : a ∈ b0 :: b1 :: b2 :: b3 :: b4 :: b5 :: b6 :: b7 :: b8 :: b9 :: b10 :: b11 :: b12 :: b13 :: a :: l := List.mem_cons_of_mem _ (List.mem_cons_of_mem _ (List.mem_cons_of_mem _ (List.mem_cons_of_mem _ (List.mem_cons_of_mem _ (List.mem_cons_of_mem _ (List.mem_cons_of_mem _ (List.mem_cons_of_mem _ (List.mem_cons_of_mem _ (List.mem_cons_of_mem _ (List.mem_cons_of_mem _ (List.mem_cons_of_mem _ (List.mem_cons_of_mem _ (List.mem_cons_of_mem _ (List.mem_cons_self))))))))))))))
theorem mm15 {α : Type} {a b0 b1 b2 b3 b4 b5 b6 b7 b8 b9 b10 b11 b12 b13 b14 : α} {l : List α} : a ∈ b0 :: b1 :: b2 :: b3 :: b4 :: b5 :: b6 :: b7 :: b8 :: b9 :: b10 :: b11 :: b12 :: b13 :: b14 :: a :: l := List.mem_cons_of_mem _ (List.mem_cons_of_mem _ (List.mem_cons_of_mem _ (List.mem_cons_of_mem _ (List.mem_cons_of_mem _ (List.mem_cons_of_mem _ (List.mem_cons_of_mem _ (List.mem_cons_of_mem _ (List.mem_cons_of_mem _ (List.mem_cons_of_mem _ (List.mem_cons_of_mem _ (List.mem_cons_of_mem _ (List.mem_cons_of_mem _ (List.mem_cons_of_mem _ (List.mem_cons_of_mem _ (List.mem_cons_self)))))))))))))))
theorem mm16 {α : Type} {a b0 b1 b2 b3 b4 b5 b6 b7 b8 b9 b10 b11 b12 b13 b14 b15 : α} {l : List α} : a ∈ b0 :: b1 :: b2 :: b3 :: b4 :: b5 :: b6 :: b7 :: b8 :: b9 :: b10 :: b11 :: b12 :: b13 :: b14 :: b15 :: a :: l := List.mem_cons_of_mem _ (List.mem_cons_of_mem _ (List.mem_cons_of_mem _ (List.mem_cons_of_mem _ (List.mem_cons_of_mem _ (List.mem_cons_of_mem _ (List.mem_cons_of_mem _ (List.mem_cons_of_mem _ (List.mem_cons_of_mem _ (List.mem_cons_of_mem _ (List.mem_cons_of_mem _ (List.mem_cons_of_mem _ (List.mem_cons_of_mem _ (List.mem_cons_of_mem _ (List.mem_cons_of_mem _ (List.mem_cons_of_mem _ (List.mem_cons_self))))))))))))))))
theorem mm17 {α : Type} {a b0 b1 b2 b3 b4 b5 b6 b7 b8 b9 b10 b11 b12 b13 b14 b15 b16 : α} {l : List α} : a ∈ b0 :: b1 :: b2 :: b3 :: b4 :: b5 :: b6 :: b7 :: b8 :: b9 :: b10 :: b11 :: b12 :: b13 :: b14 :: b15 :: b16 :: a :: l := List.mem_cons_of_mem _ (List.mem_cons_of_mem _ (List.mem_cons_of_mem _ (List.mem_cons_of_mem _ (List.mem_cons_of_mem _ (List.mem_cons_of_mem _ (List.mem_cons_of_mem _ (List.mem_cons_of_mem _ (List.mem_cons_of_mem _ (List.mem_cons_of_mem _ (List.mem_cons_of_mem _ (List.mem_cons_of_mem _ (List.mem_cons_of_mem _ (List.mem_cons_of_mem _ (List.mem_cons_of_mem _ (List.mem_cons_of_mem _ (List.mem_cons_of_mem _ (List.mem_cons_self)))))))))))))))))
theorem mm18 {α : Type} {a b0 b1 b2 b3 b4 b5 b6 b7 b8 b9 b10 b11 b12 b13 b14 b15 b16 b17 : α} {l : List α} : a ∈ b0 :: b1 :: b2 :: b3 :: b4 :: b5 :: b6 :: b7 :: b8 :: b9 :: b10 :: b11 :: b12 :: b13 :: b14 :: b15 :: b16 :: b17 :: a :: l := List.mem_cons_of_mem _ (List.mem_cons_of_mem _ (List.mem_cons_of_mem _ (List.mem_cons_of_mem _ (List.mem_cons_of_mem _ (List.mem_cons_of_mem _ (List.mem_cons_of_mem _ (List.mem_cons_of_mem _ (List.mem_cons_of_mem _ (List.mem_cons_of_mem _ (List.mem_cons_of_mem _ (List.mem_cons_of_mem _ (List.mem_cons_of_mem _ (List.mem_cons_of_mem _ (List.mem_cons_of_mem _ (List.mem_cons_of_mem _ (List.mem_cons_of_mem _ (List.mem_cons_of_mem _ (List.mem_cons_self))))))))))))))))))
theorem up {α : Type} {a l : List α} {p : α} (h : p ∈ a) (t : ∀ p ∈ a, p ∈ l) : p ∈ l := t p h
theorem and_sub {α : Type} {a l : List α} {P : α → Prop} (h : ∀ p ∈ a, p ∈ l) (k : ∀ p ∈ a, P p) : ∀ p ∈ a, p ∈ l ∧ P p := fun p hp => ⟨h p hp, k p hp⟩
end
section
open PySem PySem.W PySem.Calls PyProof.Rows PyProof.V PySem.Spec
theorem kclrB1 : True := by
  w_top off
  k_with_none
  trivial
section
variable {prog : Program} {w : World} {A : Around} {E : Value → Shared → Prop} {s : Shared} {env : Env} {h₀ : Heap} {x : Str} {body : List Stmt} {Q : Flow → Shared → Prop}
def TurnEnd (h₀ : Heap) (L : Addr) (J : (Str → Option Value) → Prop) (need : List (Addr × Obj)) (s₁ s₂ : Shared) : Prop :=
  ∃ h' tk m', s₂ = { s₁ with heap := h', toks := tk } ∧ Fr h₀ L h' m' ∧ News h₀ L h' need ∧ J m'
def TurnPost (h₀ : Heap) (L : Addr) (J : (Str → Option Value) → Prop) (need : List (Addr × Obj)) (s₁ : Shared) (Q : Flow → Shared → Prop) (f : Flow) (s₂ : Shared) : Prop :=
  match f with
  | .ret v => Q (.ret v) s₂
  | .brk => Q .next s₂
  | _ => TurnEnd h₀ L J need s₁ s₂
theorem TurnEnd.intro {L : Addr} {J : (Str → Option Value) → Prop} {m' : Str → Option Value} {need news' : List (Addr × Obj)} {s₁ : Shared} {h' : Heap} {tk : Nat} (F : Fr h₀ L h' m') (N : News h₀ L h' news') (hn : ∀ p ∈ need, p ∈ news')
    (hj : J m') : TurnEnd h₀ L J need s₁ { s₁ with heap := h', toks := tk } := ⟨h', tk, m', rfl, F, fun p hp => N p (hn p hp), hj⟩

theorem iter_dictK {K : Type} [DecidableEq K] {knd : KeyKind prog w K} {d : Addr} {o : Obj} {kvs : List (K × Value)} {m₀ : Str → Option Value} {news : List (Addr × Obj)} (J : Nat → (Str → Option Value) → Prop)
    (hh : A.handled = none) (lo : (d == sysModules) = false) (hd : (d, o) ∈ news) (ho : o.IsDictOf knd kvs) (F : Fr h₀ env.locals s.heap m₀) (N : News h₀ env.locals s.heap news) (hj : J 0 m₀)
    (turn : ∀ i k v key m₁ h tk own, kvs[i]? = some (k, v) → knd.is k key = true → J i m₁ → Fr h₀ env.locals h (fun y => if y = x then some key else m₁ y) → News h₀ env.locals h (own ++ news) →
      wpAny (model prog w) A (execs body env) (TurnPost h₀ env.locals (J (i + 1)) (own ++ news) { s with heap := h, toks := tk } Q) E { s with heap := h, toks := tk })
    (done : ∀ m₁ h tk, J kvs.length m₁ → Fr h₀ env.locals h m₁ → News h₀ env.locals h news → Q .next { s with heap := h, toks := tk }) :
    wpAny (model prog w) A (pyIter (.ref d)) (fun it s₂ => LoopAtV prog w A h₀ env x body Q E it s₂) E s := by
  have hdo := N (d, o) hd
  have hD : s.heap.DictOf knd d kvs := Heap.dictOf_iff.mpr ⟨o, hdo.1, ho⟩
  obtain ⟨ep, hat⟩ := hD.dictAt
  have hlt : d < s.heap.objs.size := Heap.lt_size hdo.1
  have hne : d ≠ s.heap.objs.size := Nat.ne_of_lt hlt
  refine wpAny_pyIter_dict lo hat ?_
  have W := Walks.dictKeys (prog := prog) (w := w) (knd := knd) hh s.heap.objs.size d hne kvs ep
  let J' : Nat → (Str → Option Value) → List (Addr × Obj) → Prop := fun i m₁ news₁ => news₁ = news ∧ J i m₁
  refine ⟨_, _, _, kvs.length, _, _, m₀, news, J', rfl, W, ?_, ?_, ?_, ⟨⟨_, Heap.get?_push_size _ rfl, rfl, rfl⟩, hat.push _⟩, F.push _, (fun p hp => ⟨Heap.get?_push_of_some _ (N p hp).1, (N p hp).2⟩), ⟨rfl, hj⟩, ?_, ?_⟩
  · intro hm
    rcases List.mem_cons.mp hm with e | hm
    · exact absurd F.ns.lt (e ▸ Nat.lt_irrefl _)
    · exact hdo.2.1 (List.mem_singleton.mp hm).symm
  · intro b hb
    rw [List.mem_singleton.mp hb]
    exact next_is_new F
  · intro p hp hI
    exact absurd (Heap.lt_size (N p hp).1) ((List.mem_singleton.mp hI) ▸ Nat.lt_irrefl _)
  · rintro i v m₁ news₁ s₁ own ⟨hh', tk', rfl⟩ hin hP ⟨rfl, hJ⟩ hoff _ _ _ _ F₁ N₁
    obtain ⟨k, v', hx, hkey⟩ := hP
    refine wpAny_mono (turn i k v' v m₁ hh' tk' own hx hkey hJ F₁ N₁) (fun f s₂ p => ?_) fun _ _ e => e
    have fin : TurnEnd h₀ env.locals (J (i + 1)) (own ++ news₁) { s with heap := hh', toks := tk' } s₂ → LoopStepU h₀ env.locals [s.heap.objs.size] own (J' (i + 1)) { s with heap := hh', toks := tk' } .next s₂ := by
      rintro ⟨h', tk, m', e, F', N', hm⟩
      exact ⟨rfl, h', tk, m', news₁, e, F', N', hoff, rfl, hm⟩
    cases f with
    | ret v => exact .ret p
    | brk => exact .brk p
    | next => exact .next (fin p)
    | cont => exact .cont (fin p)
  · rintro h' tk m' news' F' N' _ ⟨rfl, hJ⟩
    exact done m' h' tk hJ F' N'
end
end
section
open PySem PySem.W PySem.Calls PyProof.Rows PyProof.V PySem.Spec
theorem kclrB2 : True := by
  w_top off
  k_with_none
  trivial
section
variable {prog : Program} {w : World} {A : Around} {E : Value → Shared → Prop} {s : Shared} {env : Env} {h₀ : Heap} {x : Str} {body : List Stmt} {Q : Flow → Shared → Prop} {target : Expr}
theorem iter_listK {l : Addr} {items : Array Value} {n : Nat} {m₀ : Str → Option Value} {news : List (Addr × Obj)} (J : Nat → (Str → Option Value) → Prop)
    (hh : A.handled = none) (hd : (l, W.listOf items n) ∈ news) (F : Fr h₀ env.locals s.heap m₀) (N : News h₀ env.locals s.heap news) (hj : J 0 m₀)
    (turn : ∀ (i : Nat) v m₁ h tk led, (∀ p ∈ news, p ∈ led) → items[i]? = some v → J i m₁ → Fr h₀ env.locals h (fun y => if y = x then some v else m₁ y) → News h₀ env.locals h led →
      wpAny (model prog w) A (execs body env) (TurnPost h₀ env.locals (J (i + 1)) led { s with heap := h, toks := tk } Q) E { s with heap := h, toks := tk })
    (done : ∀ m₁ h tk, J items.size m₁ → Fr h₀ env.locals h m₁ → News h₀ env.locals h news → Q .next { s with heap := h, toks := tk }) :
    wpAny (model prog w) A (pyIter (.ref l)) (fun it s₂ => LoopAtV prog w A h₀ env x body Q E it s₂) E s := by
  have hdo := N _ hd
  have hls : s.heap.IsList l items := ⟨_, hdo.1, rfl, _, rfl⟩
  have hlt : l < s.heap.objs.size := Heap.lt_size hdo.1
  have hne : l ≠ s.heap.objs.size := Nat.ne_of_lt hlt
  refine wpAny_pyIter_list hls ?_
  have W := Walks.list (prog := prog) (w := w) hh s.heap.objs.size l hne items
  let J' : Nat → (Str → Option Value) → List (Addr × Obj) → Prop := fun i m₁ news₁ => news₁ = news ∧ J i m₁
  refine ⟨_, _, _, items.size, _, _, m₀, news, J', rfl, W, ?_, ?_, ?_, ⟨⟨_, Heap.get?_push_size _ rfl, rfl, rfl⟩, hls.at fun o e => Heap.get?_push_of_some _ e⟩, F.push _, (fun p hp => ⟨Heap.get?_push_of_some _ (N p hp).1, (N p hp).2⟩), ⟨rfl, hj⟩, ?_, ?_⟩
  · intro hm
    rcases List.mem_cons.mp hm with e | hm
    · exact absurd F.ns.lt (e ▸ Nat.lt_irrefl _)
    · exact hdo.2.1 (List.mem_singleton.mp hm).symm
  · intro b hb
    rw [List.mem_singleton.mp hb]
    exact next_is_new F
  · intro p hp hI
    exact absurd (Heap.lt_size (N p hp).1) ((List.mem_singleton.mp hI) ▸ Nat.lt_irrefl _)
  · rintro i v m₁ news₁ s₁ own ⟨hh', tk', rfl⟩ hin hP ⟨rfl, hJ⟩ hoff _ _ _ _ F₁ N₁
    refine wpAny_mono (turn i v m₁ hh' tk' (own ++ news₁) (fun p hp => List.mem_append_right _ hp) hP hJ F₁ N₁) (fun f s₂ p => ?_) fun _ _ e => e
    have fin : TurnEnd h₀ env.locals (J (i + 1)) (own ++ news₁) { s with heap := hh', toks := tk' } s₂ → LoopStepU h₀ env.locals [s.heap.objs.size] own (J' (i + 1)) { s with heap := hh', toks := tk' } .next s₂ := by
      rintro ⟨h', tk, m', e, F', N', hm⟩
      exact ⟨rfl, h', tk, m', news₁, e, F', N', hoff, rfl, hm⟩
    cases f with
    | ret v => exact .ret p
    | brk => exact .brk p
    | next => exact .next (fin p)
    | cont => exact .cont (fin p)
  · rintro h' tk m' news' F' N' _ ⟨rfl, hJ⟩
    exact done m' h' tk hJ F' N'
theorem iter_listN {l : Addr} {items : Array Value} {n : Nat} {m₀ : Str → Option Value} {news : List (Addr × Obj)} (J : Nat → (Str → Option Value) → Prop)
    (hh : A.handled = none) (hd : (l, W.listOf items n) ∈ news) (F : Fr h₀ env.locals s.heap m₀) (N : News h₀ env.locals s.heap news) (hj : J 0 m₀)
    (turn : ∀ (i : Nat) v m₁ h tk led, (∀ p ∈ news, p ∈ led) → items[i]? = some v → J i m₁ → Fr h₀ env.locals h m₁ → News h₀ env.locals h led →
      wpAny (model prog w) A (assign target env v) (fun _ s₃ => wpAny (model prog w) A (execs body env) (TurnPost h₀ env.locals (J (i + 1)) led { s with heap := h, toks := tk } Q) E s₃) E { s with heap := h, toks := tk })
    (done : ∀ m₁ h tk, J items.size m₁ → Fr h₀ env.locals h m₁ → News h₀ env.locals h news → Q .next { s with heap := h, toks := tk }) :
    wpAny (model prog w) A (pyIter (.ref l)) (fun it s₂ => PySem.W.TurnsAt prog w A h₀ env target body Q E it s₂) E s := by
  have hdo := N _ hd
  have hls : s.heap.IsList l items := ⟨_, hdo.1, rfl, _, rfl⟩
  have hlt : l < s.heap.objs.size := Heap.lt_size hdo.1
  have hne : l ≠ s.heap.objs.size := Nat.ne_of_lt hlt
  refine wpAny_pyIter_list hls ?_
  have W := KTurns.ofWalks (target := target) (Walks.list (prog := prog) (w := w) hh s.heap.objs.size l hne items) (fun i v s Q E st q => letGo_listiter st.1 q)
  let J' : Nat → (Str → Option Value) → List (Addr × Obj) → Prop := fun i m₁ news₁ => news₁ = news ∧ J i m₁
  refine ⟨_, _, _, items.size, _, _, _, m₀, news, J', rfl, W, ?_, ?_, ?_, ⟨⟨_, Heap.get?_push_size _ rfl, rfl, rfl⟩, hls.at fun o e => Heap.get?_push_of_some _ e⟩, F.push _, (fun p hp => ⟨Heap.get?_push_of_some _ (N p hp).1, (N p hp).2⟩), ⟨rfl, hj⟩, ?_, ?_⟩
  · intro hm
    rcases List.mem_cons.mp hm with e | hm
    · exact absurd F.ns.lt (e ▸ Nat.lt_irrefl _)
    · exact hdo.2.1 (List.mem_singleton.mp hm).symm
  · intro b hb
    rw [List.mem_singleton.mp hb]
    exact next_is_new F
  · intro p hp hI
    exact absurd (Heap.lt_size (N p hp).1) ((List.mem_singleton.mp hI) ▸ Nat.lt_irrefl _)
  · rintro i v m₁ news₁ hh' tk' own hin hP ⟨rfl, hJ⟩ hoff _ _ _ _ F₁ N₁
    refine wpAny_mono (turn i v m₁ hh' tk' (own ++ news₁) (fun p hp => List.mem_append_right _ hp) hP hJ F₁ N₁) (fun _ s₃ h₃ => wpAny_mono h₃ (fun f s₂ p => ?_) fun _ _ e => e) fun _ _ e => e
    have fin : TurnEnd h₀ env.locals (J (i + 1)) (own ++ news₁) { s with heap := hh', toks := tk' } s₂ → LoopStepU h₀ env.locals [s.heap.objs.size] own (J' (i + 1)) { s with heap := hh', toks := tk' } .next s₂ := by
      rintro ⟨h', tk, m', e, F', N', hm⟩
      exact ⟨rfl, h', tk, m', news₁, e, F', N', hoff, rfl, hm⟩
    cases f with
    | ret v => exact .ret p
    | brk => exact .brk p
    | next => exact .next (fin p)
    | cont => exact .cont (fin p)
  · rintro h' tk m' news' F' N' _ ⟨rfl, hJ⟩
    exact done m' h' tk hJ F' N'
end
end
section
open PySem PySem.W PySem.Calls PyProof.Rows
theorem kclrC1 : True := by
  w_top off
  k_with_none
  trivial
theorem is_at_spec : ∀ {w : World} {mean : ExcName → Option Value} {mg mb : Str → Option Value} {dp un : Nat} {gd : Option (List Code)} {cn : Str} {cs : Scope} {a : Addr} {ccd : Value} {cl : List (Str × Addr)} {outer : List Env} {A₀ : Around} {base h₀ : Heap} {L : Addr} {m : Str → Option Value} {news : List (Addr × Obj)} {s : Shared}
    {Q E : Value → Shared → Prop} (B : Below A₀ base outer h₀) (F : Fr h₀ L s.heap m) (X : (hd.heap_1 w.params).In h₀) (N : News h₀ L s.heap news) (T : Top topProg LS mean mg mb h₀) (hk : cs.kind = .function) (hdp : dp < 900) (hu : un < 9000)
    {ra da : Addr} {t : Nat → Tok} {ro r_a rp : Int} {rv : Value} {xa xp : Int} {ta tp : Tok} (m1 : (ra, instObj 101 da) ∈ news) (m2 : (da, rowD w t ro r_a rp rv) ∈ news)
    (ret : ∀ (b : Bool) h' tk', (b = true ↔ (r_a = xa ∧ rp = xp)) → Fr h₀ L h' m → News h₀ L h' news → Q (.bool b) { s with heap := h', toks := tk' }),
    wpAny (model PySem.Challenge.rw_on0339_01.row.prog w) (ktrTop dp un gd cn cs L a ccd cl outer) (call (.ref 91) [.ref ra, .int xa ta, .int xp tp]) Q E s := by
  k_fill
  intro w mean mg mb dp un gd cn cs a ccd cl outer A₀ base h₀ L m news s Q E B F X N T hk hdp hu ra da t ro r_a rp rv xa xp ta tp m1 m2 ret
  refine wpAny_call ?_
  k_dflt (refine' code_def (binds := [(Str.ofString "self", .ref ra), (Str.ofString "address", .int xa ta), (Str.ofString "port", .int xp tp)]) ?k1 ?k2 ?k3 ?k4 ?k5 ?kA ?kF ?kK ?k6 ?k7 ?k8 ?k9 ?kB ?_ ?c2 ?c3 ?c4 ?c5; (case kA => exact rfl); (case kF => exact rfl); (case kK => assumption); (case k1 => k_asm); (case k2 => k_asm); (case k3 => k_asm); (case k4 => k_asm); (case k5 => k_asm); (case k6 => k_is); (case k7 => k_is); (case k8 => ktr_room); (case k9 => exact BindsTo.of_eq rfl); (case c5 => decide); (case kB => exact locs rfl); (case c2 => exact rfl); (case c3 => exact rfl); (case c4 => exact rfl))
  intro g1 L1 h1 FG1 F1 N1 B1 X1 T1
  change Fr g1 L1 h1 (fun y => List.lookup y [(Str.ofString "port", .int xp tp), (Str.ofString "address", .int xa ta), (Str.ofString "self", .ref ra)]) at F1
  dsimp only
  k_fold
  k_steps
  all_goals exact ret _ _ _ (by simp_all) (by k_asm) (by k_asm)
end
section
open PySem PySem.W PySem.Calls PyProof.Rows PyProof.V PySem.Spec
theorem kclrD0 : True := by
  w_top off
  k_with_none
  trivial
structure R where
  o : Int
  a : Int
  p : Int
  r : Option (Int × Int)
def RemAt (news : List (Addr × Obj)) (rv : Value) : Option (Int × Int) → Prop
  | none => rv = .none
  | some (x, y) => ∃ ta tx ty, rv = .ref ta ∧ (ta, tupO [.int x tx, .int y ty]) ∈ news
def RowAt (w : World) (news : List (Addr × Obj)) (r : R) (ra : Addr) : Prop := ∃ da t rv, (ra, instObj 101 da) ∈ news ∧ (da, rowD w t r.o r.a r.p rv) ∈ news ∧ RemAt news rv r.r
inductive RowsAt (w : World) (news : List (Addr × Obj)) : List R → List (Int × Value) → Prop
  | nil : RowsAt w news [] []
  | cons {r : R} {ra : Addr} {rs : List R} {kvs : List (Int × Value)} : RowAt w news r ra → RowsAt w news rs kvs → RowsAt w news (r :: rs) ((r.o, .ref ra) :: kvs)
theorem RowsAt.get {w : World} {news : List (Addr × Obj)} : ∀ {rs : List R} {kvs : List (Int × Value)}, RowsAt w news rs kvs → ∀ {i : Nat} {k : Int} {v : Value}, kvs[i]? = some (k, v) → ∃ r ra, rs[i]? = some r ∧ k = r.o ∧ v = .ref ra ∧ RowAt w news r ra
  | _, _, .nil, i, k, v, h => by simp at h
  | _, _, .cons h1 h2, 0, k, v, h => by
    simp only [List.getElem?_cons_zero, Option.some.injEq, Prod.mk.injEq] at h
    exact ⟨_, _, rfl, h.1.symm, h.2.symm, h1⟩
  | _, _, .cons h1 h2, i + 1, k, v, h => by
    simp only [List.getElem?_cons_succ] at h ⊢
    exact h2.get h

theorem RowsAt.len {w : World} {news : List (Addr × Obj)} : ∀ {rs : List R} {kvs : List (Int × Value)}, RowsAt w news rs kvs → rs.length = kvs.length
  | _, _, .nil => rfl
  | _, _, .cons _ h => by simp [h.len]
theorem take_succ_all {α : Type} {rs : List α} {P : α → Prop} {i : Nat} {r : α} (hr : rs[i]? = some r) (h : ∀ r ∈ rs.take i, P r) (hp : P r) : ∀ r ∈ rs.take (i + 1), P r := by
  intro r' hr'
  rw [List.take_add_one, hr] at hr'
  rcases List.mem_append.mp hr' with h' | h'
  · exact h _ h'
  · simp at h'; exact h' ▸ hp
theorem map2 {x x' : Str} {M f : Str → Option Value} (h : ∀ y, y ≠ x → y ≠ x' → M y = f y) : ∃ u : Str → Option Value, M = fun y => if y = x then u y else if y = x' then u y else f y :=
  ⟨M, by funext y; by_cases h1 : y = x; · rw [if_pos h1]
         · by_cases h2 : y = x'
           · rw [if_neg h1, if_pos h2]
           · rw [if_neg h1, if_neg h2, h y h1 h2]⟩
theorem map1 {x : Str} {M f : Str → Option Value} (h : ∀ y, y ≠ x → M y = f y) : ∃ u : Str → Option Value, M = fun y => if y = x then u y else f y :=
  ⟨M, by funext y; by_cases h1 : y = x; · rw [if_pos h1]
         · rw [if_neg h1, h y h1]⟩
def remD : Option (Int × Int) → PyData
  | none => .none
  | some (x, y) => .tuple [.int x, .int y]
theorem remD_shaped (r : Option (Int × Int)) : SeqAt.shaped (remD r) = true := by
  rcases r with _ | ⟨x, y⟩ <;> first | rfl | (simp [remD, SeqAt.shaped, PyData.canLay0, PyData.canLayAll0, PyData.depth, PyData.depthAll]; done)
theorem remD_eqv (r q : Option (Int × Int)) : PyData.eqv (remD r) (remD q) = decide (r = q) := by
  rcases r with _ | ⟨x, y⟩ <;> rcases q with _ | ⟨x', y'⟩ <;> simp [remD, PyData.eqv, PyData.eqvAll] <;> rw [Bool.eq_iff_iff] <;> simp
theorem RemAt.handed {news : List (Addr × Obj)} {rv : Value} {r : Option (Int × Int)} (h : RemAt news rv r) : handedIn rv = true := by
  rcases r with _ | ⟨x, y⟩
  · cases h; rfl
  · obtain ⟨_, _, _, rfl, _⟩ := h; rfl
theorem RemAt.reads {h₀ h : Heap} {L : Addr} {news : List (Addr × Obj)} {rv : Value} {r : Option (Int × Int)} (x : RemAt news rv r) (N : News h₀ L h news) : Reads h rv (remD r) [] := by
  rcases r with _ | ⟨x, y⟩
  · cases x; exact Reads.none
  · obtain ⟨ta, tx, ty, rfl, hm⟩ := x
    exact reads_tuple_at (N.get hm) rfl rfl (ReadsAll.cons (Reads.int _ _) (ReadsAll.cons (Reads.int _ _) ReadsAll.nil))
theorem RemAt.mono {news news' : List (Addr × Obj)} {rv : Value} {r : Option (Int × Int)} (x : RemAt news rv r) (h : ∀ p ∈ news, p ∈ news') : RemAt news' rv r := by
  rcases r with _ | ⟨x, y⟩
  · exact x
  · obtain ⟨ta, tx, ty, e, hm⟩ := x
    exact ⟨ta, tx, ty, e, h _ hm⟩
theorem rem_eq {prog : Program} {w : World} {A : Around} {E : Value → Shared → Prop} {s : Shared} {h₀ : Heap} {L : Addr} {news : List (Addr × Obj)} {Q : Value → Shared → Prop} {rv xv : Value} {r q : Option (Int × Int)}
    (N : News h₀ L s.heap news) (h1 : RemAt news rv r) (h2 : RemAt news xv q) (hu : A.units + 64 < cLine) (h : Q (.bool (decide (r = q))) s) : wpAny (model prog w) A (compareOp .Eq rv xv) Q E s :=
  eq_dataH (h1.reads N) (h2.reads N) (remD_shaped r) (remD_shaped q) hu (by rw [remD_eqv]; exact h)

section
variable {prog : Program} {w : World} {K : Type} [DecidableEq K] {knd : KeyKind prog w K} {A : Around} {E : Value → Shared → Prop} {s : Shared} {h₀ : Heap} {L d : Addr} {news : List (Addr × Obj)} {o : Obj} {kvs : List (K × Value)} {k : K} {key v : Value} {Q : Value → Shared → Prop}
theorem notin_some (N : News h₀ L s.heap news) (hp : (d, o) ∈ news) (hd : o.IsDictOf knd kvs) (lo : (d == sysModules) = false) (hkey : knd.is k key = true) (hv : valueAt kvs k = some v) (h : Q (.bool false) { s with toks := s.toks + 1 }) : wpAny (model prog w) A (compareOp .NotIn key (.ref d)) Q E s :=
  wpAny_notIn_of hkey lo (kda_dict N hp hd).mapOf (by rw [hv]; exact h)
theorem notin_none (N : News h₀ L s.heap news) (hp : (d, o) ∈ news) (hd : o.IsDictOf knd kvs) (lo : (d == sysModules) = false) (hkey : knd.is k key = true) (hv : valueAt kvs k = none) (h : Q (.bool true) { s with toks := s.toks + 1 }) : wpAny (model prog w) A (compareOp .NotIn key (.ref d)) Q E s :=
  wpAny_notIn_of hkey lo (kda_dict N hp hd).mapOf (by rw [hv]; exact h)
theorem in_some (N : News h₀ L s.heap news) (hp : (d, o) ∈ news) (hd : o.IsDictOf knd kvs) (lo : (d == sysModules) = false) (hkey : knd.is k key = true) (hv : valueAt kvs k = some v) (h : Q (.bool true) { s with toks := s.toks + 1 }) : wpAny (model prog w) A (compareOp .In key (.ref d)) Q E s :=
  wpAny_in_of hkey lo (kda_dict N hp hd).mapOf (by rw [hv]; exact h)
theorem in_none (N : News h₀ L s.heap news) (hp : (d, o) ∈ news) (hd : o.IsDictOf knd kvs) (lo : (d == sysModules) = false) (hkey : knd.is k key = true) (hv : valueAt kvs k = none) (h : Q (.bool false) { s with toks := s.toks + 1 }) : wpAny (model prog w) A (compareOp .In key (.ref d)) Q E s :=
  wpAny_in_of hkey lo (kda_dict N hp hd).mapOf (by rw [hv]; exact h)
end
theorem valueAt_idx {kvs : List (Int × Value)} {k : Int} {v : Value} (h : valueAt kvs k = some v) : ∃ i : Nat, kvs[i]? = some (k, v) := by
  unfold valueAt at h
  obtain ⟨p, hp, rfl⟩ := Option.map_eq_some_iff.mp h
  have hm := List.mem_of_find?_eq_some hp
  have hk : p.1 = k := by simpa using List.find?_some hp
  obtain ⟨i, hi⟩ := List.mem_iff_getElem?.mp hm
  exact ⟨i, by rw [hi, ← hk]⟩
theorem rem_ne {prog : Program} {w : World} {A : Around} {E : Value → Shared → Prop} {s : Shared} {h₀ : Heap} {L : Addr} {news : List (Addr × Obj)} {Q : Value → Shared → Prop} {rv xv : Value} {r q : Option (Int × Int)}
    (N : News h₀ L s.heap news) (h1 : RemAt news rv r) (h2 : RemAt news xv q) (hu : A.units + 64 < cLine) (h : Q (.bool (!decide (r = q))) s) : wpAny (model prog w) A (compareOp .NotEq rv xv) Q E s :=
  ne_dataH (h1.reads N) (h2.reads N) (remD_shaped r) (remD_shaped q) hu (by rw [remD_eqv]; exact h)
def fitsV (r : R) (tg tp : Int) (q : Int × Int) : Int := if r.p ≠ tp ∨ (r.a ≠ 0 ∧ r.a ≠ tg) then 0 else if r.r ≠ none ∧ r.r ≠ some q then 0 else (if r.a = 0 then 1 else 2) + (if r.r = none then 0 else 2)
theorem RowAt.mono {w : World} {news news' : List (Addr × Obj)} {r : R} {ra : Addr} (x : RowAt w news r ra) (h : ∀ p ∈ news, p ∈ news') : RowAt w news' r ra :=
  let ⟨da, t, rv, e1, e2, e3⟩ := x; ⟨da, t, rv, h _ e1, h _ e2, e3.mono h⟩
theorem RowsAt.mono {w : World} {news news' : List (Addr × Obj)} (h : ∀ p ∈ news, p ∈ news') : ∀ {rs : List R} {kvs : List (Int × Value)}, RowsAt w news rs kvs → RowsAt w news' rs kvs
  | _, _, .nil => .nil
  | _, _, .cons x y => .cons (x.mono h) (y.mono h)
def OptInt (v : Value) : Option Int → Prop
  | none => v = .none
  | some k => ∃ t, v = .int k t
def bestStep (f : R → Int) (b : Int × Option Int) (r : R) : Int × Option Int := if f r > b.1 then (f r, some r.o) else b
def bestOf (f : R → Int) (rs : List R) : Int × Option Int := rs.foldl (bestStep f) (0, none)
theorem bestOf_take (f : R → Int) {rs : List R} {i : Nat} {r : R} (h : rs[i]? = some r) : bestOf f (rs.take (i + 1)) = bestStep f (bestOf f (rs.take i)) r := by
  unfold bestOf
  rw [List.take_add_one, h, List.foldl_append]; rfl
def Off (l : List Str) (M f : Str → Option Value) : Prop := ∀ y, y ∉ l → M y = f y
theorem Off.rfl {l : List Str} {M : Str → Option Value} : Off l M M := fun _ _ => Eq.refl _
theorem Off.map4 {x x' y1 y2 : Str} {M f : Str → Option Value} {v1 v2 : Value} (h : Off [x, x', y1, y2] M f) (h1 : M y1 = some v1) (h2 : M y2 = some v2) :
    ∃ u : Str → Option Value, M = fun y => if y = x then u y else if y = x' then u y else if y = y1 then some v1 else if y = y2 then some v2 else f y := by
  refine ⟨M, funext fun y => ?_⟩
  by_cases h3 : y = x
  · rw [if_pos h3]
  rw [if_neg h3]
  by_cases h4 : y = x'
  · rw [if_pos h4]
  rw [if_neg h4]
  by_cases h5 : y = y1
  · rw [if_pos h5, h5, h1]
  rw [if_neg h5]
  by_cases h6 : y = y2
  · rw [if_pos h6, h6, h2]
  rw [if_neg h6]
  exact h y (by simp [h3, h4, h5, h6])
theorem Off.map2 {x x' : Str} {M f : Str → Option Value} (h : Off [x, x'] M f) : ∃ u : Str → Option Value, M = fun y => if y = x then u y else if y = x' then u y else f y := by
  refine ⟨M, funext fun y => ?_⟩
  by_cases h3 : y = x
  · rw [if_pos h3]
  rw [if_neg h3]
  by_cases h4 : y = x'
  · rw [if_pos h4]
  rw [if_neg h4]
  exact h y (by simp [h3, h4])
theorem Off.map1 {x : Str} {M f : Str → Option Value} (h : Off [x] M f) : ∃ u : Str → Option Value, M = fun y => if y = x then u y else f y := by
  refine ⟨M, funext fun y => ?_⟩
  by_cases h3 : y = x
  · rw [if_pos h3]
  rw [if_neg h3]
  exact h y (by simp [h3])
theorem best_yes {f : R → Int} {b : Int × Option Int} {r : R} (h : b.1 < f r) : bestStep f b r = (f r, some r.o) := if_pos h
theorem best_no {f : R → Int} {b : Int × Option Int} {r : R} (h : ¬ b.1 < f r) : bestStep f b r = b := if_neg h
end
section
open PySem PySem.W PySem.Calls PyProof.Rows PyProof.V PySem.Spec
theorem kclrX1 : True := by
  w_top off
  k_with_none
  trivial
structure ExcNew (h h' : Heap) (e : Addr) (cls : Value) : Prop where
  keeps : ∀ b o, h.get? b = some o → h'.get? b = some o
  new : h.get? e = none
  there : ∃ ob t, h'.get? e = some ob ∧ ob.cls = cls ∧ ob.data = .fields #[t, .none, .none, .none, .bool false, .none]

section
variable {M : Model} {A : Around} {E : Value → Shared → Prop} {s' : Shared} {base g g₂ h : Heap} {outer : List Env} {L a e t : Addr} {m : Str → Option Value} {name : Str} {scope : Scope} {cd : Value} {Q : Unit → Shared → Prop} {news : List (Addr × Obj)}
theorem leave_excK {cls : Value} (K : Below A base outer g) (hx : ExcNew h s'.heap e cls) (F : Fr g L h m) (N : News g L h news)
    (hQ : ∀ h', RaisedSN base g outer e cls news h' → g.UpToSlots h' → Q () { s' with heap := h' }) (hk : scope.kind = .function := by rfl) :
    wpAny M (A.deeper (envOf name scope L a cd)) (leaving (envOf name scope L a cd) (.ref e)) Q E s' := by
  have K' := K.push (name := name) (a := a) (cd := cd) F hk
  have hin : ∀ env ∈ (envOf name scope L a cd :: outer), ∀ b, env.frame = some b → b ∈ (envOf name scope L a cd :: outer).filterMap (·.frame) := fun env he b hb => List.mem_filterMap.mpr ⟨env, he, hb⟩
  have st : base.StaysIn (hideAll h ((envOf name scope L a cd :: outer).filterMap (·.frame))) := fun b o q => hideAll_get _ (K'.stays b o q) fun hm => by
    rw [(K'.frames.mem hm).1] at q; cases q
  have sg : ∀ b o, g.get? b = some o → b ∉ outer.filterMap (·.frame) → (hideAll h ((envOf name scope L a cd :: outer).filterMap (·.frame))).get? b = some o := fun b o q nm => hideAll_get _ (F.keep b o q) fun hm => by
    rcases kts_mem hm with z | z
    · rw [z, kts_self F] at q
      cases q
    · exact nm z
  have hl : ∀ q ∈ news, (hideAll h ((envOf name scope L a cd :: outer).filterMap (·.frame))).get? q.1 = some q.2 ∧ g.get? q.1 = none ∧ base.get? q.1 = none := fun q hq => by
    refine ⟨hideAll_get _ (N q hq).1 fun hm => ?_, (N q hq).2.2, fresh_of_stays K.stays (N q hq).2.2⟩
    obtain ⟨env, he, hf⟩ := List.mem_filterMap.mp hm
    rcases List.mem_cons.mp he with rfl | he
    · exact (N q hq).2.1 (Option.some.inj hf).symm
    · obtain ⟨o, ho, _⟩ := (K.frames.mem (List.mem_filterMap.mpr ⟨env, he, hf⟩)).2
      rw [(N q hq).2.2] at ho; cases ho
  obtain ⟨ob, tp, he, hcls, hd⟩ := hx.there
  have hen : (hideAll h ((envOf name scope L a cd :: outer).filterMap (·.frame))).get? e = none := by
    cases q : (hideAll h ((envOf name scope L a cd :: outer).filterMap (·.frame))).get? e with
    | none => rfl
    | some o => have := of_hideAll _ q; rw [hx.new] at this; cases this
  refine wpAny_leaving_firstW (a0 := tp) K'.stack ((funFrames_hide K'.frames hin).of_keeps fun b o hb _ => ⟨o, hx.keeps b o hb, rfl⟩) rfl he (fun b o hb => hx.keeps b o (of_hideAll _ hb)) hen hd rfl rfl fun h' hL => ?_
  obtain ⟨k1, ⟨_, _, k2⟩, k3, k4⟩ := hL
  exact hQ h' ⟨_, tp, st, sg, hl, k1, hen, k2, by rw [← hcls]; exact k3⟩ (((Heap.UpToSlots.of_keeps F.keep).trans (Heap.UpToSlots.of_keeps hx.keeps)).trans k4)
end

section
variable {M : Model} {A : Around} {E : Value → Shared → Prop} {s' : Shared} {base g g₂ h : Heap} {outer : List Env} {L a e : Addr} {m : Str → Option Value} {name : Str} {scope : Scope} {cd : Value} {Q : Unit → Shared → Prop} {news : List (Addr × Obj)}
theorem leave_onS1 {cls : Value} (K : Below A base outer g) (F : Fr g L g₂ m) (R : RaisedSN base g₂ (envOf name scope L a cd :: outer) e cls news s'.heap) (hsm : g₂.UpToSlots s'.heap)
    (hQ : ∀ h', RaisedSN base g outer e cls news h' → g.UpToSlots h' → Q () { s' with heap := h' }) :
    wpAny M (A.deeper (envOf name scope L a cd)) (leaving (envOf name scope L a cd) (.ref e)) Q E s' := leave_onSN K F R hsm fun h' r _ u => hQ h' r u
theorem leave_onS1X {cls : Value} {cl : List (Str × Addr)} (K : Below A base outer g) (F : Fr g L g₂ m) (R : RaisedSN base g₂ (envX name scope L a cd cl :: outer) e cls news s'.heap) (hsm : g₂.UpToSlots s'.heap)
    (hQ : ∀ h', RaisedSN base g outer e cls news h' → g.UpToSlots h' → Q () { s' with heap := h' }) :
    wpAny M (A.deeper (envX name scope L a cd cl)) (leaving (envX name scope L a cd cl) (.ref e)) Q E s' := by
  obtain ⟨B, a0, hB, hBG, hl, hfl⟩ := R
  refine wpAny_leaves_onW (Around.frames_deeper K.stack) rfl hfl fun h' x1 x2 => hQ h' ⟨B, a0, hB, fun b o q nm => hBG b o (F.keep b o q) (fun hm => ?_), fun q hq => ⟨(hl q hq).1, kts_none F.keep (hl q hq).2.1, (hl q hq).2.2⟩, x1⟩ ((Heap.UpToSlots.of_keeps F.keep).trans (hsm.trans x2))
  obtain ⟨env, he, hf⟩ := List.mem_filterMap.mp hm
  rcases List.mem_cons.mp he with rfl | he
  · have z : L = b := Option.some.inj hf
    rw [← z, kts_self F] at q; cases q
  · exact nm (List.mem_filterMap.mpr ⟨env, he, hf⟩)
end
section
variable {prog : Program} {w : World} {A₀ : Around} {E : Value → Shared → Prop} {s' : Shared} {base g G : Heap} {outer : List Env} {L a e : Addr} {m : Str → Option Value} {name : Str} {scope : Scope} {cd : Value}
  {b₀ : Stmt} {suite : List Stmt} {pos np : Pos} {rest : List ExceptHandler} {Q : Flow → Shared → Prop} {news : List (Addr × Obj)} {K' : Frag} {p : Program} {loose : List Str} {mean : ExcName → Option Value} {mg mb : Str → Option Value}
  {nm q : Str} {C N : Addr} {bs bm : List Value} {hdct : Bool} {sn : List Str} {sub : List Value} {ab : Bool} {col : Option Bool} {dd : Option Addr} {k0 k1 k2 k3 k5 : Option Value} {newId : String} {x : Str}
theorem caught_excS (R : RaisedSN base G (envOf name scope L a cd :: outer) e (.ref C) news s'.heap) (F : Fr g L G m) (K : Below A₀ base outer g) (hsm : G.UpToSlots s'.heap) (XB : K'.In base) (TB : Top p loose mean mg mb base)
    (hC : K'.lookup C = some (excClassObj nm q C N bs bm hdct sn sub ab col dd k0 k1 k2 k3 k5 newId)) (hbase : bm.contains (.type "BaseException") = true) (hv : m x = some (.ref C))
    (k : ∀ h' g', KtsTurn (outer.filterMap (·.frame)) g g' → Fr g' L h' m → News g' L h' news → Below A₀ base outer g' → K'.In g' → Top p loose mean mg mb g' →
      wpAny (model prog w) ((A₀.deeper (envOf name scope L a cd)).mark (some (.ref e))) (execs (b₀ :: suite) (envOf name scope L a cd)) Q E { s' with heap := h' })
    (hk : scope.kind = .function := by rfl) (hx : (envOf name scope L a cd).kindOf x = some .local := by rfl) (hd : (x == ("__debug__" : Str)) = false := by decide)
    (hE : PassesOwnAt (model prog w) ((A₀.deeper (envOf name scope L a cd)).mark (some (.ref e))) (A₀.deeper (envOf name scope L a cd)) (envOf name scope L a cd) E := by passes_own) :
    wpAny (model prog w) (A₀.deeper (envOf name scope L a cd)) (noteFrame (.ref e) (envOf name scope L a cd))
      (fun _ s₂ => wpAny (model prog w) (A₀.deeper (envOf name scope L a cd)) (setFlight (.ref e) none) (fun _ s₃ =>
        wpAny (model prog w) (A₀.deeper (envOf name scope L a cd)) (handleBy (.ref e) (envOf name scope L a cd) (.ExceptHandler (some (.Name x np)) none (b₀ :: suite) pos :: rest)) Q E s₃) E s₂) E s' := by
  obtain ⟨B, a0, hB, hBG, hl, hfl⟩ := R
  have hL : B.get? L = none := by
    obtain ⟨_, ⟨L', _, hf, hn', _⟩, _⟩ := hfl.2.2.1
    obtain rfl : L = L' := Option.some.inj hf
    exact hn'
  refine wpAny_looks_onW (Around.frames_deeper K.stack) rfl hfl fun h₄ hheld₄ hsm₄ => ?_
  refine wpAny_landsW hheld₄ fun h₅ hheld hsm₅' => ?_
  have hsm₅ := hsm₄.trans hsm₅'
  obtain ⟨g₅, T₅, F₅, K₅⟩ := kts_ground K F hBG hheld.1 (hsm.trans hsm₅)
  have X₅ : K'.In g₅ := XB.keeps K₅.stays
  obtain ⟨ob, hob, hobc⟩ := hheld.there
  refine wpAny_handleBy_cons (codeAny_handlers_test (ld F₅ hv ?_ hk hx hd)) (by intro q; cases q)
  refine wpAny_excMatches_sub_self ((X₅.keeps F₅.keep) _ _ hC) hob hobc hbase (codeAny_handlers_suite ?_)
  refine lands_againW hheld fun h₆ hfl₆ hsm₆ => ?_
  obtain ⟨g₆, T₆, F₆, K₆⟩ := kts_ground K F hBG hfl₆.1 ((hsm.trans hsm₅).trans hsm₆)
  have Nl : News g₆ L h₆ news := fun q hq => ⟨hfl₆.1 _ _ (hl q hq).1, (fun z => by have := (hl q hq).1; rw [z, hL] at this; cases this), T₆.none_ _ (kts_none F.keep (hl q hq).2.1)⟩
  exact wpAny_passesOwnAt hE (k h₆ g₆ T₆ F₆ Nl K₆ (XB.keeps K₆.stays) (TB.keeps K₆.stays))
end
end
section
open PySem PySem.W PySem.Calls PyProof.Rows PyProof.V PySem.Spec PySem.Builtin PySem.Builtin.ObjectAttr
theorem kclrX2 : True := by
  w_top off
  k_with_none
  trivial
abbrev excO (C t : Addr) (d : Option Addr) : Obj := { cls := .ref C, dict := d, data := .fields #[.ref t, .none, .none, .none, .bool false, .none] }

theorem refuse_exc (self : Value) (C1 C2 : Addr) : refuseLoop self "__setattr__" [.ref C1, .ref C2, .type "Exception", .type "BaseException", .type "object"] = pure () := by
  rw [refuseLoop_ref, refuseLoop_ref]
  kernel_rfl

section
variable {prog : Program} {w : World} {A : Around} {R : Result → Shared → Prop} {s : Shared} {K : Frag} {C C2 e t : Addr} {cd : ClassData}
theorem osa_exc {name : Str} {tk : Tok} {v : Value} (X : K.In s.heap) (hc : clsIn K C = some cd) (hmro : cd.mro = [.ref C, .ref C2, .type "Exception", .type "BaseException", .type "object"]) (hdc : cd.hasDict = true)
    (ha : findIn K (.ref C) name = some none) (he : s.heap.get? e = some (excO C t none))
    (h : ∀ h' d, (∀ b o, b ≠ e → s.heap.get? b = some o → h'.get? b = some o) → h'.get? e = some (excO C t (some d)) → R (.ok (.ret .none)) { s with heap := h', toks := s.toks + 1 }) :
    codeAny (model prog w) A (.call (.builtin "object.__setattr__") ⟨[.ref e, .str name tk, v], []⟩) R s := by
  have SF := PySem.F.store_object
  have hT : Looks (model prog w) s.heap (typeOf (.ref e)) (.ref C) := (Looks.ld he).andThen .now
  have hm : Looks (model prog w) s.heap (mroOf (.ref C)) cd.mro := (looks_clsIn X hc).andThen .now
  have sub : Looks (model prog w) s.heap (isInstance (.ref e) (.type "object")) true := hT.andThen (looks_mroIn X (by unfold mroIn; rw [hc, Option.bind_some, hmro]; rfl))
  refine codeAny_call_builtin SF.slot.plain SF.entry (@check_slot (model prog w) _ _ s "object.__setattr__" "object" "__setattr__" (.ref e) [.str name tk, v] [] _ SF.kind SF.split sub (SF.args (.ref e) (.str name tk) v) ?_)
  rw [osa_eq, refuse_eq]
  refine wpAny_bind (wpAny_bind (hT.here (wpAny_bind (hm.here ?_))))
  rw [hmro, refuse_exc]
  refine wpAny_pure (wpAny_bind (hT.here (wpAny_bind ((looks_findIn X ha).here ?_))))
  refine wpAny_bind (wpAny_pure ?_)
  show wpAny _ _ (storeInOwnDict (.ref e) (.ref C) (.str name tk) name v false) _ _ _
  refine wpAny_bind (wpAny_pure (wpAny_bind ?_))
  show wpAny _ _ (instanceDict e true) _ _ _
  unfold instanceDict
  refine wpAny_bind (wpAny_loadPart he (wpAny_bind ((looks_clsIn X hc).here ?_)))
  rw [hdc]
  show wpAny _ _ (PySem.alloc { cls := .type "dict", data := .dict #[] } >>= fun d => PySem.update e (fun o => { o with dict := some d }) >>= fun _ => pure (some d)) _ _ s
  have hlt := Heap.lt_size he
  refine wpAny_bind (wpAny_alloc ?_)
  have he1 : (s.heap.push { cls := .type "dict", data := .dict #[] }).get? e = some (excO C t none) := Heap.get?_push_of_some _ he
  have hd1 : (s.heap.push { cls := .type "dict", data := .dict #[] }).get? s.heap.objs.size = some { cls := .type "dict", data := .dict #[] } := Heap.get?_push_size _ rfl
  refine wpAny_bind (wpAny_update he1 ?_)
  have hs := Heap.SameBut.update (s.heap.push { cls := .type "dict", data := .dict #[] }) e (fun o => { o with dict := some s.heap.objs.size })
  have he2 : ((s.heap.push { cls := .type "dict", data := .dict #[] }).update e (fun o => { o with dict := some s.heap.objs.size })).get? e = some (excO C t (some s.heap.objs.size)) := Heap.get?_update_self _ he1 rfl
  have D : ((s.heap.push { cls := .type "dict", data := .dict #[] }).update e (fun o => { o with dict := some s.heap.objs.size })).get? s.heap.objs.size = some { cls := .type "dict", data := .dict #[] } := (hs.2 _ (Nat.ne_of_gt hlt)).trans hd1
  generalize hh2 : ((s.heap.push { cls := .type "dict", data := .dict #[] }).update e (fun o => { o with dict := some s.heap.objs.size })) = h2 at he2 D hs
  have hk2 : ∀ b o, b ≠ e → s.heap.get? b = some o → h2.get? b = some o := fun b o hb hq => (hs.2 b hb).trans (Heap.get?_push_of_some _ hq)
  refine wpAny_pure ?_
  show wpAny _ _ (storeInDict s.heap.objs.size (.str name tk) name v) _ _ _
  refine wpAny_bind (wpAny_pure (wpAny_bind ?_))
  unfold nsSet
  refine wpAny_bind (wpAny_bind (wpAny_askSetting (wpAny_pure (wpAny_bind (wpAny_mkText (wpAny_bind (wpAny_loadPart D ?_)))))))
  dsimp only
  rw [aRefKeyMayBeTheName_at]
  have c : ((!(#[] : Array DictEntry).any (·.key.isStr name) && (#[] : Array DictEntry).any (·.refKey))) = false := by simp
  rw [c]
  refine wpAny_updatePart D ?_
  generalize hf : (Obj.putName name _ _ v) = f
  have hfo : f { cls := .type "dict", data := .dict #[] } = dictOf [⟨PyData.keyHash w.params name, .str name s.toks, v⟩] 1 := by
    rw [← hf]; exact putName_dict name _ _ v [] 0
  have D' : (h2.update s.heap.objs.size f).get? s.heap.objs.size = some (dictOf [⟨PyData.keyHash w.params name, .str name s.toks, v⟩] 1) := by
    rw [← hfo]; exact Heap.get?_update_self f D (by rw [hfo]; rfl)
  refine wpAny_bind (wpAny_lookBehind D' (pastItsLine_dict (by rw [sizeLine_eq]; exact Nat.le_of_ble_eq_true rfl)) ?_)
  have hs3 := Heap.SameBut.update h2 s.heap.objs.size f
  refine wpAny_pure (h _ s.heap.objs.size (fun b o hb hq => ?_) ?_)
  · exact (hs3.2 b (Nat.ne_of_lt (Heap.lt_size hq))).trans (hk2 b o hb hq)
  · exact (hs3.2 e (Nat.ne_of_lt hlt)).trans he2
end

theorem set_exc {prog : Program} {w : World} {A : Around} {E : Value → Shared → Prop} {s : Shared} {K : Frag} {C C2 e t : Addr} {cd : ClassData} {name : Str} {v : Value} {Q : Unit → Shared → Prop} (X : K.In s.heap) (hc : clsIn K C = some cd) (hmro : cd.mro = [.ref C, .ref C2, .type "Exception", .type "BaseException", .type "object"]) (hdc : cd.hasDict = true)
    (hs : findIn K (.ref C) "__setattr__" = some (some (.builtin "object.__setattr__"))) (ha : findIn K (.ref C) name = some none) (he : s.heap.get? e = some (excO C t none))
    (h : ∀ h' d tk, (∀ b o, b ≠ e → s.heap.get? b = some o → h'.get? b = some o) → h'.get? e = some (excO C t (some d)) → Q () { s with heap := h', toks := tk }) :
    wpAny (model prog w) A (setAttr (.ref e) name v) Q E s :=
  set_plain (od := none) X ⟨he, rfl, rfl, trivial⟩ hs (osa_exc (s := { s with toks := s.toks + 1 }) X hc hmro hdc ha he fun h' d k1 k2 => h h' d _ k1 k2)

theorem code_fnH {prog : Program} {w : World} {A : Around} {R : Result → Shared → Prop} {s : Shared} {K : Frag} {name qual : Str} {params : Arguments} {body : List Stmt} {scope : Scope} {dV kV doc pm cdv ct oc : Value} {an od : Option Addr} {osl : Array (Option Value)} {f : Addr} {args : Args} {binds : List (Str × Value)}
    (X : K.In s.heap) (ho : K.lookup f = some ⟨oc, od, .func (fnOf name qual params body scope dV kV doc pm an cdv ct), osl⟩) (hcd : codeIn K cdv qual = true) (hlim : s.heap.NoLimit) (hroom : A.depth < recursionLimit)
    (hbind : BindsTo s (fnOf name qual params body scope dV kV doc pm an cdv ct) args binds) (hloc : ∀ y ∈ binds, scope.names.lookup y.1 = some .local)
    (h : ∀ h₁, Fr s.heap s.heap.objs.size h₁ (fun y => binds.reverse.lookup y) →
      wpAny (model prog w) (A.deeper (envOf qual scope s.heap.objs.size f cdv)) (execs body (envOf qual scope s.heap.objs.size f cdv)) (fun fl s' => R (.ok (.ret (match fl with | .ret v => v | _ => .none))) s')
        (fun e s' => wpAny (model prog w) (A.deeper (envOf qual scope s.heap.objs.size f cdv)) (leaving (envOf qual scope s.heap.objs.size f cdv) e) (fun _ s'' => R (.error e) s'') (fun e' s'' => R (.error e') s'') s')
        { s with heap := h₁, toks := s.toks + binds.length })
    (hco : scope.isCoroutine = false) (hgen : scope.isGenerator = false) (hk : scope.kind = .function) (hcell : ∀ x ∈ scope.names, x.2 ≠ .cell) : codeAny (model prog w) A (.call (.ref f) args) R s :=
  codeAny_call_def (fd := fnOf name qual params body scope dV kV doc pm an cdv ct) (body := body) (binds := binds) hroom (X _ _ ho) rfl hlim (codeRec_of X hcd) rfl hbind hcell hloc (fun h₁ hns hk₁ => h h₁ ⟨hns, hk₁, Nat.le_refl _⟩) hco hgen hk

theorem init_run : ∀ {w : World} {A : Around} {R : Result → Shared → Prop} {s : Shared} {C e t : Addr} {v : Value} {cd : ClassData} (X : (hd.heap_1 w.params).In s.heap) (hlim : s.heap.NoLimit) (hroom : A.depth < recursionLimit)
    (hc : clsIn (hd.heap_1 w.params) C = some cd) (hmro : cd.mro = [.ref C, .ref 31, .type "Exception", .type "BaseException", .type "object"]) (hdc : cd.hasDict = true)
    (hs : findIn (hd.heap_1 w.params) (.ref C) "__setattr__" = some (some (.builtin "object.__setattr__"))) (ha : findIn (hd.heap_1 w.params) (.ref C) (Str.ofString "message") = some none) (he : s.heap.get? e = some (excO C t none))
    (h : ∀ h' d tk, (∀ b o, b ≠ e → s.heap.get? b = some o → h'.get? b = some o) → h'.get? e = some (excO C t (some d)) → R (.ok (.ret .none)) { s with heap := h', toks := tk }),
    codeAny (model PySem.Challenge.rw_on0339_01.row.prog w) A (.call (.ref 28) ⟨[.ref e, v], []⟩) R s := by
  k_fill
  intro w A R s C e t v cd X hlim hroom hc hmro hdc hs ha he h
  k_dflt (refine' code_fnH (binds := [(Str.ofString "self", .ref e), (Str.ofString "message", v)]) X ?k6 ?k7 hlim hroom ?k9 ?kB ?_ ?c2 ?c3 ?c4 ?c5; (case k6 => k_is); (case k7 => k_is); (case k9 => exact BindsTo.of_eq rfl); (case c5 => decide); (case kB => exact locs rfl); (case c2 => exact rfl); (case c3 => exact rfl); (case c4 => exact rfl))
  intro h1 F1
  change Fr s.heap s.heap.objs.size h1 (fun y => List.lookup y [(Str.ofString "message", v), (Str.ofString "self", .ref e)]) at F1
  have N1 : News s.heap s.heap.objs.size h1 [] := News.nil
  show wpAny _ _ _ _ _ _
  k_fold
  k_steps
  refine set_exc (X.keeps F1.keep) hc hmro hdc hs ha (F1.keep _ _ he) fun h' d tk x1 x2 => ?_
  k_steps
  exact h _ _ _ (fun b o hb hq => x1 b o hb (F1.keep _ _ hq)) x2
end
section
open PySem PySem.W PySem.Calls PyProof.Rows PyProof.V PySem.Spec
theorem kclrX3 : True := by
  w_top off
  k_with_none
  trivial
section
variable {M : Model} {A : Around} {E : Value → Shared → Prop} {h : Heap} {g : Array GenState} {d : Drawn} {t : Nat} {os : OsState}
variable {nm q : Str} {C N : Addr} {bs bm bmB : List Value} {hdct : Bool} {sn : List Str} {sub : List Value} {ab : Bool} {col : Option Bool} {dd : Option Addr} {k0 k1 k2 k3 k5 : Option Value} {B newId initId : String}
theorem check_newB (F : ExcBaseFacts B newId initId bmB) (hb : bm.contains (.type B) = true) {rest : List Value} {Q : Unit → Shared → Prop} (hC : h.get? C = some (excClassObj nm q C N bs bm hdct sn sub ab col dd k0 k1 k2 k3 k5 newId))
    (hq : Q () ⟨h, g, d, t, os⟩) : wpAny M A (checkBuiltinCall newId ⟨.ref C :: rest, []⟩) Q E ⟨h, g, d, t, os⟩ := by
  have hcont : (Value.ref C :: bm).contains (.type B) = true := by rw [List.contains_cons, hb, Bool.or_true]
  have hstar := F.noStar
  simp only [checkBuiltinCall, F.newKind, F.newSplit, F.newRow]
  repeat (first | refine wpAny_loadPart_at hC ?_ | (refine wpAny_isSubtype_exc hC ?_; rw [hcont]) | refine wpAny_staticBase_exc hC ?_ | refine wpAny_madeBy_exc hC ?_ | simp only [bne_self_eq_false, Bool.false_eq_true, if_false] | wp_step)
  exact hq
end
section
variable {prog : Program} {w : World} {A : Around} {R : Result → Shared → Prop} {E : Value → Shared → Prop} {h : Heap} {g : Array GenState} {d : Drawn} {t : Nat} {os : OsState}
variable {nm q : Str} {C N : Addr} {bs bm bmB : List Value} {hdct : Bool} {sn : List Str} {sub : List Value} {ab : Bool} {col : Option Bool} {dd : Option Addr} {k0 k1 k2 k3 k5 : Option Value} {B newId initId : String}
theorem exc_newB (F : ExcBaseFacts B newId initId bmB) (hb : bm.contains (.type B) = true) (hna : bm.contains (.type "AttributeError") = false) (hnn : bm.contains (.type "NameError") = false) {rest : List Value} (hC : h.get? C = some (excClassObj nm q C N bs bm hdct sn sub ab col dd k0 k1 k2 k3 k5 newId))
    (hq : R (.ok (.ret (.ref (h.objs.size + 1)))) ⟨(h.push { cls := .type "tuple", data := .seq rest.toArray }).push
      { cls := .ref C, data := .fields #[.ref h.objs.size, .none, .none, .none, .bool false, .none] }, g, d, t, os⟩) (hrest : rest.length ≤ sizeLine) :
    codeAny (model prog w) A (.builtin newId ⟨.ref C :: rest, []⟩) R ⟨h, g, d, t, os⟩ := by
  have hends := F.ends
  have hcB : (Value.ref C :: bm).contains (.type B) = true := by rw [List.contains_cons, hb, Bool.or_true]
  have hcA : (Value.ref C :: bm).contains (.type "AttributeError") = false := by rw [List.contains_cons, hna]; rfl
  have hcN : (Value.ref C :: bm).contains (.type "NameError") = false := by rw [List.contains_cons, hnn]; rfl
  refine codeAny_builtinAt F.entry ?_
  unfold Builtin.«BaseException.__new__»
  refine PySem.wpAt_bind ?_
  show PySem.wpAt _ _ _ (stack >>= _) _ _ _
  refine PySem.wpAt_bind (PySem.wpAt_stack fun p below => PySem.wpAt_of_wpAny ?_)
  wp_walk
  refine PySem.wpAt_of_wpAny ?_
  rw [F.owner]
  repeat (first | with_reducible refine wpAny_madeHere_exc F.canon hC ?_ | with_reducible refine wpAny_loadPart_at hC ?_ | (with_reducible refine wpAny_isSubtype_exc hC ?_; first | rw [hcB] | rw [hcA] | rw [hcN]) | wp_step)
  show R _ _
  rw [Heap.size_push]
  exact hq

theorem type_callI (F : ExcBaseFacts B newId initId bmB) (hb : bm.contains (.type B) = true) (hna : bm.contains (.type "AttributeError") = false) (hnn : bm.contains (.type "NameError") = false) {rest : List Value} {fI : Addr} {oI : Obj} {Q : Fin → Shared → Prop}
    (hC : h.get? C = some (excClassObj nm q C N bs bm hdct sn sub ab col dd k0 k1 k2 k3 k5 newId)) (hL : Looks (model prog w) h (typeLookup (.ref C) "__init__") (some (.ref fI)))
    (hfI : h.get? fI = some oI) (hfc : oI.cls = .type "function")
    (hq : ∀ h', (∀ b o, h.get? b = some o → h'.get? b = some o) → h'.get? (h.objs.size + 1) = some (excO C h.objs.size none) →
      codeAny (model prog w) A (.call (.ref fI) ⟨.ref (h.objs.size + 1) :: rest, []⟩) (fun r s' => r = .ok (.ret .none) ∧ Q (.done (.ret (.ref (h.objs.size + 1)))) s') ⟨h', g, d, t, os⟩) (hrest : rest.length ≤ sizeLine) :
    wpAny (model prog w) A (Builtin.«type.__call__» ⟨.ref C :: rest, []⟩) Q E ⟨h, g, d, t, os⟩ := by
  repeat (first | with_reducible refine wpAny_loadPart_at hC ?_ | with_reducible refine wpAny_madeBy_exc hC ?_ | wp_step)
  refine codeAny_call_builtin_code (Code.quiet_builtin _ F.quiet) (check_newB F hb hC ?_)
  refine exc_newB F hb hna hnn hC ?_ hrest
  show wpAny _ _ _ _ _ _
  have hk2 : ∀ b o, h.get? b = some o → ((h.push { cls := .type "tuple", data := .seq rest.toArray }).push { cls := .ref C, data := .fields #[.ref h.objs.size, .none, .none, .none, .bool false, .none] }).get? b = some o :=
    fun b o hb => Heap.get?_push_of_some _ (Heap.get?_push_of_some _ hb)
  have hC₁ := hk2 _ _ hC
  have hfI₁ := hk2 _ _ hfI
  have hget : ((h.push { cls := .type "tuple", data := .seq rest.toArray }).push
      { cls := .ref C, data := .fields #[.ref h.objs.size, .none, .none, .none, .bool false, .none] }).get? (h.objs.size + 1) = some
      { cls := .ref C, data := .fields #[.ref h.objs.size, .none, .none, .none, .bool false, .none] } := by heap_get
  have hcC : (Value.ref C :: bm).contains (.ref C) = true := by simp
  unfold isInstance
  repeat (first | with_reducible refine wpAny_loadPart_at hget ?_ | (with_reducible refine wpAny_isSubtype_exc hC₁ ?_; rw [hcC]) | wp_step)
  show wpAny _ _ (typeLookup (.ref C) _) _ _ _
  refine hL _ _ _ _ hk2 ?_
  refine wpAny_holding (wpAny_bind ?_)
  unfold bindSpecial
  refine wpAny_bind (wpAny_typeOf (T := "function") ⟨_, hfI₁, hfc⟩ ?_)
  rw [if_pos (by decide)]
  refine wpAny_pure (wpAny_bind (wpAny_call (codeAny_mono (hq _ hk2 hget) fun r s' hr => ?_)))
  obtain ⟨rfl, hQ⟩ := hr
  show wpAny _ _ _ _ _ _
  wp_walk
  exact hQ

theorem call_excI (F : ExcBaseFacts B newId initId bmB) (hb : bm.contains (.type B) = true) (hna : bm.contains (.type "AttributeError") = false) (hnn : bm.contains (.type "NameError") = false) {rest : List Value} {fI : Addr} {oI : Obj} {Q : Value → Shared → Prop}
    (hC : h.get? C = some (excClassObj nm q C N bs bm hdct sn sub ab col dd k0 k1 k2 k3 k5 newId)) (hL : Looks (model prog w) h (typeLookup (.ref C) "__init__") (some (.ref fI)))
    (hfI : h.get? fI = some oI) (hfc : oI.cls = .type "function")
    (hq : ∀ h', (∀ b o, h.get? b = some o → h'.get? b = some o) → h'.get? (h.objs.size + 1) = some (excO C h.objs.size none) →
      codeAny (model prog w) (A.under (.builtin "type.__call__" ⟨.ref C :: rest, []⟩)) (.call (.ref fI) ⟨.ref (h.objs.size + 1) :: rest, []⟩) (fun r s' => r = .ok (.ret .none) ∧ Q (.ref (h.objs.size + 1)) s') ⟨h', g, d, t, os⟩) (hrest : rest.length ≤ sizeLine) :
    wpAny (model prog w) A (call (.ref C) rest) Q E ⟨h, g, d, t, os⟩ := by
  have f1 := tc_lookup
  have f2 := tc_bind (.ref C)
  have hT : (⟨h, g, d, t, os⟩ : Shared).TypeIs (.ref C) "type" := ⟨_, hC, rfl⟩
  refine wpAny_call (codeAny_of_tree ?_)
  show wpAny _ _ (callAny (.ref C) _) _ _ _
  repeat (any_goals (first | assumption | with_reducible refine wpAny_loadPart_at hC ?_ | wp_step))
  refine ⟨rfl, ?_⟩
  exact codeAny_call_builtin_at (Code.quiet_builtin _ (by decide +kernel)) entry_typeCall (wpAny_check_type_call_sub hC (type_callI F hb hna hnn hC hL hfI hfc (fun h' k1 k2 => hq h' k1 k2) hrest))
end
end
section
open PySem PySem.W PySem.Calls PyProof.Rows PyProof.V PySem.Spec
theorem kclrX4 : True := by
  w_top off
  k_with_none
  trivial
section
variable {M : Model} {A : Around} {E : Value → Shared → Prop}
variable {nm q : Str} {C N : Addr} {bs bm : List Value} {hdct : Bool} {sn : List Str} {sub : List Value} {ab : Bool} {col : Option Bool} {dd : Option Addr} {k0 k1 k2 k3 k5 : Option Value} {newId : String} {env : Env} {K : Frag}
def RaiseEnd (C : Addr) (K : Frag) (E : Value → Shared → Prop) (v : Value) (s₁ : Shared) : Prop := ∃ e t d, v = .ref e ∧ K.In s₁.heap ∧ s₁.heap.get? e = some (excO C t (some d)) ∧ E (.ref e) s₁
theorem RaiseEnd.intro {e t d : Addr} {s₁ : Shared} (X : K.In s₁.heap) (he : s₁.heap.get? e = some (excO C t (some d))) (h : E (.ref e) s₁) : RaiseEnd C K E (.ref e) s₁ := ⟨e, t, d, rfl, X, he, h⟩
theorem raiseStmt_I {s : Shared} {x : Sem Value} {Q : Flow → Shared → Prop} (hC : K.lookup C = some (excClassObj nm q C N bs bm hdct sn sub ab col dd k0 k1 k2 k3 k5 newId)) (hbase : bm.contains (.type "BaseException") = true) (hh : A.handled = none)
    (h : wpAny M A x (RaiseEnd C K E) E s) :
    wpAny M A (raiseStmt env (some x) none) Q E s := by
  have hcB : (Value.ref C :: bm).contains (.type "BaseException") = true := by rw [List.contains_cons, hbase, Bool.or_true]
  unfold raiseStmt
  refine wpAny_bind (wpAny_mono h (fun v s₁ h₁ => ?_) fun _ _ x => x)
  obtain ⟨e, t, dx, rfl, X, he, hE⟩ := h₁
  have hC' := X _ _ hC
  obtain ⟨hp, g, d, tk, os⟩ := s₁
  repeat (first | with_reducible refine wpAny_loadPart_at he ?_ | with_reducible refine wpAny_loadPart_at hC' ?_ | (with_reducible refine wpAny_isSubtype_exc hC' ?_; rw [hcB]) | wp_step)
  exact wpAny_raiseNew_none hh hE
theorem Raise_I {h₀ : Heap} (X : K.In h₀) {s : Shared} {f : Expr} {args : List Expr} {cpos pos : Pos} {Q : Flow → Shared → Prop} (hC : K.lookup C = some (excClassObj nm q C N bs bm hdct sn sub ab col dd k0 k1 k2 k3 k5 newId)) (hbase : bm.contains (.type "BaseException") = true) (hh : A.handled = none)
    (h : wpAny M A (eval (.Call f args [] cpos) env) (RaiseEnd C K E) E s) :
    wpAny M A (exec (.Raise (some (.Call f args [] cpos)) none pos) env) Q E s := by
  rw [arm_exec_Raise]
  first
    | exact wpAny_bind (wpAny_standAt (raiseStmt_I hC hbase hh (wpAny_bind (wpAny_mono h (fun v s₃ h₃ => wpAny_bind (wpAny_standAt (wpAny_pure h₃))) fun _ _ x => x))))
    | (simp only [evalOpt, Option.map]; exact wpAny_bind (wpAny_standAt (raiseStmt_I hC hbase hh (wpAny_bind (wpAny_mono h (fun v s₃ h₃ => wpAny_bind (wpAny_standAt (wpAny_pure h₃))) fun _ _ x => x)))))
    | exact wpAny_bind (wpAny_standAt (raiseStmt_I hC hbase hh h))
    | (simp only [evalOpt, Option.map]; exact wpAny_bind (wpAny_standAt (raiseStmt_I hC hbase hh h)))
end
theorem call_excK : ∀ {w : World} {A : Around} {E : Value → Shared → Prop} {s : Shared} {h₀ : Heap} {L : Addr} {m : Str → Option Value} {loose : List Str} {mean : ExcName → Option Value} {mg mb : Str → Option Value} {p : Program} {C : Addr} {v : Value} {Q : Value → Shared → Prop} {cd : ClassData}
    {nm q : Str} {N : Addr} {bs : List Value} {hdct : Bool} {sn : List Str} {sub : List Value} {ab : Bool} {col : Option Bool} {dd : Option Addr} {k0 k1 k2 k3 k5 : Option Value}
    (F : Fr h₀ L s.heap m) (X₀ : (hd.heap_1 w.params).In h₀) (T : Top p loose mean mg mb h₀) (hroom : A.depth + 1 < recursionLimit)
    (hC : (hd.heap_1 w.params).lookup C = some (excClassObj nm q C N bs [.ref 31, .type "Exception", .type "BaseException", .type "object"] hdct sn sub ab col dd k0 k1 k2 k3 k5 "Exception.__new__"))
    (hi : findIn (hd.heap_1 w.params) (.ref C) "__init__" = some (some (.ref 28)))
    (hc : clsIn (hd.heap_1 w.params) C = some cd) (hmro : cd.mro = [.ref C, .ref 31, .type "Exception", .type "BaseException", .type "object"]) (hdc : cd.hasDict = true)
    (hs : findIn (hd.heap_1 w.params) (.ref C) "__setattr__" = some (some (.builtin "object.__setattr__"))) (ha : findIn (hd.heap_1 w.params) (.ref C) (Str.ofString "message") = some none)
    (h : ∀ e t d h' tk, ExcNew s.heap h' e (.ref C) → h'.get? e = some (excO C t (some d)) → Q (.ref e) { s with heap := h', toks := tk }),
    wpAny (model PySem.Challenge.rw_on0339_01.row.prog w) A (call (.ref C) [v]) Q E s := by
  k_fill
  intro w A E s h₀ L m loose mean mg mb p C v Q cd nm q N bs hdct sn sub ab col dd k0 k1 k2 k3 k5 F X₀ T hroom hC hi hc hmro hdc hs ha h
  have X := X₀.keeps F.keep
  have hlim := T.nolimit.keeps F.keep
  have hf : ∃ oI, (hd.heap_1 w.params).lookup 28 = some oI ∧ oI.cls = .type "function" := ⟨_, by k_is, rfl⟩
  obtain ⟨oI, hfI, hfc⟩ := hf
  obtain ⟨hp, g, d, tk, os⟩ := s
  refine call_excI PySem.F.excBase_Exception (by decide) (by decide) (by decide) (X _ _ hC) (looks_findIn X hi) (X _ _ hfI) hfc (fun h' hk hg => ?_) (by rw [sizeLine_eq]; exact Nat.le_of_ble_eq_true rfl)
  refine init_run (s := ⟨h', g, d, tk, os⟩) (X.keeps hk) (hlim.keeps hk) ?_ hc hmro hdc hs ha hg fun h'' dx tk' k1 k2 => ⟨rfl, ?_⟩
  · rw [depth_under_make]; exact hroom
  · have hn : hp.get? (hp.objs.size + 1) = none := Heap.get?_none_of_le (Nat.le_succ _)
    exact h _ _ _ _ _ ⟨fun b o hb => k1 b o (fun q => by rw [q, hn] at hb; cases hb) (hk b o hb), hn, _, _, k2, rfl, rfl⟩ k2
end
section
open PySem PySem.W PySem.Calls PyProof.Rows PyProof.V PySem.Spec
theorem kclrC2 : True := by
  w_top off
  k_with_none
  trivial
theorem kset_C2_1 : True := by
  k_with "pyIter ref" => ((k_here; refine Stop.here ?_))
  k_with "subscriptTail" => ((k_here; (with_reducible show wpAny _ _ (subscriptTail _ _ (Value.ref _) (Value.int _ _)) _ _ _); k_dflt (refine' kda_item (knd := intKind _ _) ?N ?hp ?hd (intKind_is _ _ _ _) ?hl ?_; (case N => k_asm); (case hd => assumption); (case hp => k_mem); (case hl => assumption))))
  k_with "TurnPost" => (dsimp only [TurnPost])
  k_with "call ref" => (((k_here; k_dflt (refine' is_at_spec ?u_B ?u_F ?u_X ?u_N ?u_T ?u_hk ?u_hdp ?u_hu ?u_m1 ?u_m2 ?_; (case u_B => k_asm); (case u_F => k_asm); (case u_X => k_asm); (case u_N => k_asm); (case u_T => k_asm); (case u_hk => first | exact rfl | assumption); (case u_hdp => ktr_room); (case u_hu => ktr_units); (case u_m1 => k_mem); (case u_m2 => k_mem)); intro b9ₖ h9ₖ tk9ₖ hb9ₖ F9ₖ N9ₖ; (try k_sweep)); all_goals ((try revert N9ₖ); (try revert F9ₖ); (try revert hb9ₖ); (try revert tk9ₖ); (try revert h9ₖ); (try revert b9ₖ); intros)))
  k_with "k_handed" => (assumption)
  k_with "compareOp Eq" => ((k_here; k_dflt (refine' rem_eq ?u_N ?u_1 ?u_2 ?u_h ?_; (case u_N => k_asm); (case u_1 => first | assumption | exact RemAt.mono (by assumption) (fun _ h => List.mem_append_right _ h)); (case u_2 => first | assumption | exact RemAt.mono (by assumption) (fun _ h => List.mem_append_right _ h)); (case u_h => ktr_units))))
  trivial
theorem is_there_spec : ∀ {w : World} {mean : ExcName → Option Value} {mg mb : Str → Option Value} {dp un : Nat} {gd : Option (List Code)} {cn : Str} {cs : Scope} {a : Addr} {ccd : Value} {cl : List (Str × Addr)} {outer : List Env} {A₀ : Around} {base h₀ : Heap} {L : Addr} {m : Str → Option Value} {news : List (Addr × Obj)} {s : Shared}
    {Q E : Value → Shared → Prop} (B : Below A₀ base outer h₀) (F : Fr h₀ L s.heap m) (X : (hd.heap_1 w.params).In h₀) (N : News h₀ L s.heap news) (T : Top topProg LS mean mg mb h₀) (hk : cs.kind = .function) (hdp : dp < 890) (hu : un < 8000)
    {tb td rd : Addr} {tt : Tok} {ro : Obj} {rs : List R} {kvs : List (Int × Value)} {xa xp xo : Int} {xrv : Value} {xr : Option (Int × Int)} {ta tp to_ : Tok} (m1 : (tb, instObj 164 td) ∈ news) (m2 : (td, dictOf [⟨PyData.keyHash w.params (Str.ofString "rows"), .str (Str.ofString "rows") tt, .ref rd⟩] 1) ∈ news) (m3 : (rd, ro) ∈ news) (lo : (rd == sysModules) = false) (m4 : ro.IsDictOf (intKind PySem.Challenge.rw_on0339_01.row.prog w) kvs) (m5 : RowsAt w news rs kvs) (m6 : RemAt news xrv xr)
    (ret : ∀ (b : Bool) h' tk', (b = true ↔ ∃ r ∈ rs, r.o ≠ xo ∧ r.a = xa ∧ r.p = xp ∧ r.r = xr) → Fr h₀ L h' m → News h₀ L h' news → Q (.bool b) { s with heap := h', toks := tk' }),
    wpAny (model PySem.Challenge.rw_on0339_01.row.prog w) (ktrTop dp un gd cn cs L a ccd cl outer) (call (.ref 133) [.ref tb, .int xa ta, .int xp tp, xrv, .int xo to_]) Q E s := by
  k_fill
  intro w mean mg mb dp un gd cn cs a ccd cl outer A₀ base h₀ L m news s Q E B F X N T hk hdp hu tb td rd tt ro rs kvs xa xp xo xrv xr ta tp to_ m1 m2 m3 lo m4 m5 m6 ret
  refine wpAny_call ?_
  k_dflt (refine' code_def (binds := [(Str.ofString "self", .ref tb), (Str.ofString "address", .int xa ta), (Str.ofString "port", .int xp tp), (Str.ofString "remote", xrv), (Str.ofString "owner", .int xo to_)]) ?k1 ?k2 ?k3 ?k4 ?k5 ?kA ?kF ?kK ?k6 ?k7 ?k8 ?k9 ?kB ?_ ?c2 ?c3 ?c4 ?c5; (case kA => exact rfl); (case kF => exact rfl); (case kK => assumption); (case k1 => k_asm); (case k2 => k_asm); (case k3 => k_asm); (case k4 => k_asm); (case k5 => k_asm); (case k6 => k_is); (case k7 => k_is); (case k8 => ktr_room); (case k9 => exact BindsTo.of_eq rfl); (case c5 => decide); (case kB => exact locs rfl); (case c2 => exact rfl); (case c3 => exact rfl); (case c4 => exact rfl))
  intro g1 L1 h1 FG1 F1 N1 B1 X1 T1
  change Fr g1 L1 h1 (fun y => List.lookup y [(Str.ofString "owner", .int xo to_), (Str.ofString "remote", xrv), (Str.ofString "port", .int xp tp), (Str.ofString "address", .int xa ta), (Str.ofString "self", .ref tb)]) at F1
  dsimp only
  k_fold
  k_steps
  rename Fr _ _ _ _ => F2
  rename News _ _ _ _ => N2
  refine Stop.go ?_
  refine iter_dictK (knd := intKind _ _) (kvs := kvs) (o := ro) (fun i m' => (∃ u : Str → Option Value, m' = fun y => if y = Str.ofString "other" then u y else if y = Str.ofString "row" then u y else List.lookup y [(Str.ofString "owner", .int xo to_), (Str.ofString "remote", xrv), (Str.ofString "port", .int xp tp), (Str.ofString "address", .int xa ta), (Str.ofString "self", Value.ref tb)]) ∧ ∀ r ∈ rs.take i, ¬ (r.o ≠ xo ∧ r.a = xa ∧ r.p = xp ∧ r.r = xr)) rfl lo (by k_mem) m4 F2 N2 ⟨map2 (fun _ _ _ => rfl), by simp⟩ ?_ ?_
  · rintro i k v key m₁ h2 tk own hx hkey ⟨⟨u, rfl⟩, hno⟩ F3 N3
    obtain ⟨r, ra, hr, rfl, rfl, da, t, rv, e1, e2, e3⟩ := m5.get hx
    obtain ⟨t3, rfl⟩ := Value.isInt_shape hkey
    have hva : valueAt kvs r.o = some (.ref ra) := by
      obtain ⟨_, _, _, _, _, _, hnd⟩ := m4
      exact valueAt_of_get hnd hx
    have hrh := e3.handed
    clear F2 N2
    dsimp only
    k_steps
    all_goals first
      | (refine TurnEnd.intro (by k_asm) (by k_asm) (fun _ h => h) ⟨map2 (fun y h1 h2 => by simp [h1, h2]), take_succ_all hr hno ?_⟩; simp_all; done)
      | (refine ret true _ _ ?_ (by k_asm) (fun p hp => (by k_asm : News _ _ _ (own ++ news)) p (List.mem_append_right _ hp)); refine iff_of_true rfl ⟨r, List.mem_of_getElem? hr, ?_⟩; simp_all; done)
  · rintro m₁ h2 tk ⟨⟨u, rfl⟩, hno⟩ F3 N3
    dsimp only
    k_steps
    all_goals first
      | (refine ret false _ _ (iff_of_false (by simp) ?_) (by k_asm) (by k_asm); rintro ⟨r, hr, hq⟩; have hl : rs.length = kvs.length := m5.len; rw [← hl, List.take_length] at hno; exact hno r hr hq)
end
section
open PySem PySem.W PySem.Calls PyProof.Rows PyProof.V PySem.Spec
theorem kclrC3 : True := by
  w_top off
  k_with_none
  trivial
theorem kset_C3_1 : True := by
  k_with "subscriptTail" => ((k_here; (with_reducible show wpAny _ _ (subscriptTail _ _ (Value.ref _) (Value.int _ _)) _ _ _); k_dflt (refine' kda_item (knd := intKind _ _) ?N ?hp ?hd (intKind_is _ _ _ _) ?hl ?_; (case N => k_asm); (case hd => assumption); (case hp => k_mem); (case hl => assumption))))
  k_with "exec Raise some none" => ((k_here; (with_reducible show wpAny _ _ (exec (Stmt.Raise (some (Expr.Call (Expr.Name (Str.ofString "FormError") _) _ [] _)) none _) _) _ _ _); k_dflt (refine' Raise_I (C := 44) ?X ?h ?b ?hh ?_; (case X => k_asm); (case h => k_is); (case b => decide); (case hh => rfl))))
  k_with "call ref" => (((k_here; (with_reducible show wpAny _ _ (call (Value.ref 44) _) _ _ _); k_dflt (refine' call_excK ?F ?X ?T ?room ?hC ?hi ?hc ?hmro ?hdc ?hs ?ha ?_; (case F => k_asm); (case X => k_asm); (case T => k_asm); (case room => ktr_room); (case hC => k_is); (case hi => k_is); (case hc => k_is); (case hmro => rfl); (case hdc => rfl); (case hs => k_is); (case ha => k_is)); intro e'ₖ t'ₖ d'ₖ h'ₖ tk'ₖ hx'ₖ he'ₖ); all_goals ((try revert he'ₖ); (try revert hx'ₖ); (try revert tk'ₖ); (try revert h'ₖ); (try revert d'ₖ); (try revert t'ₖ); (try revert e'ₖ); intros)))
  k_with "exec Raise some none" => ((k_here; (with_reducible show wpAny _ _ (exec (Stmt.Raise (some (Expr.Call (Expr.Name (Str.ofString "PortError") _) _ [] _)) none _) _) _ _ _); k_dflt (refine' Raise_I (C := 56) ?X ?h ?b ?hh ?_; (case X => k_asm); (case h => k_is); (case b => decide); (case hh => rfl))))
  k_with "call ref" => (((k_here; (with_reducible show wpAny _ _ (call (Value.ref 56) _) _ _ _); k_dflt (refine' call_excK ?F ?X ?T ?room ?hC ?hi ?hc ?hmro ?hdc ?hs ?ha ?_; (case F => k_asm); (case X => k_asm); (case T => k_asm); (case room => ktr_room); (case hC => k_is); (case hi => k_is); (case hc => k_is); (case hmro => rfl); (case hdc => rfl); (case hs => k_is); (case ha => k_is)); intro e'ₖ t'ₖ d'ₖ h'ₖ tk'ₖ hx'ₖ he'ₖ); all_goals ((try revert he'ₖ); (try revert hx'ₖ); (try revert tk'ₖ); (try revert h'ₖ); (try revert d'ₖ); (try revert t'ₖ); (try revert e'ₖ); intros)))
  k_with "exec Raise some none" => ((k_here; (with_reducible show wpAny _ _ (exec (Stmt.Raise (some (Expr.Call (Expr.Name (Str.ofString "StateError") _) _ [] _)) none _) _) _ _ _); k_dflt (refine' Raise_I (C := 68) ?X ?h ?b ?hh ?_; (case X => k_asm); (case h => k_is); (case b => decide); (case hh => rfl))))
  k_with "call ref" => (((k_here; (with_reducible show wpAny _ _ (call (Value.ref 68) _) _ _ _); k_dflt (refine' call_excK ?F ?X ?T ?room ?hC ?hi ?hc ?hmro ?hdc ?hs ?ha ?_; (case F => k_asm); (case X => k_asm); (case T => k_asm); (case room => ktr_room); (case hC => k_is); (case hi => k_is); (case hc => k_is); (case hmro => rfl); (case hdc => rfl); (case hs => k_is); (case ha => k_is)); intro e'ₖ t'ₖ d'ₖ h'ₖ tk'ₖ hx'ₖ he'ₖ); all_goals ((try revert he'ₖ); (try revert hx'ₖ); (try revert tk'ₖ); (try revert h'ₖ); (try revert d'ₖ); (try revert t'ₖ); (try revert e'ₖ); intros)))
  k_with "RaiseEnd" => ((refine RaiseEnd.intro (Frag.In.keeps (by k_asm) (fun b o q => ExcNew.keeps (by assumption) b o (Fr.keep (by k_asm) b o q))) (by assumption) ?_))
  k_with "leaving ref" => (((k_here; (refine' leave_excK ?k1 ?k0 ?k2 ?k3 ?_; (case k0 => assumption); (case k1 => assumption); (case k2 => assumption); (case k3 => k_asm); k_whole; intro h'ₖ R'ₖ U'ₖ; (try dsimp only at R'ₖ U'ₖ ⊢))); all_goals ((try revert U'ₖ); (try revert R'ₖ); (try revert h'ₖ); intros)))
  k_with "compareOp NotIn int ref" => ((k_here; k_dflt (first
  | (refine' notin_some (knd := intKind _ _) ?N ?hp ?hd ?lo (intKind_is _ _ _ _) ?hv ?_; (case N => k_asm); (case hd => assumption); (case hp => k_mem); (case lo => assumption); (case hv => assumption))
  | (refine' notin_none (knd := intKind _ _) ?N ?hp ?hd ?lo (intKind_is _ _ _ _) ?hv ?_; (case N => k_asm); (case hd => assumption); (case hp => k_mem); (case lo => assumption); (case hv => assumption)))))
  k_with "compareOp In int ref" => ((k_here; k_dflt (first
  | (refine' in_some (knd := intKind _ _) ?N ?hp ?hd ?lo (intKind_is _ _ _ _) ?hv ?_; (case N => k_asm); (case hd => assumption); (case hp => k_mem); (case lo => assumption); (case hv => assumption))
  | (refine' in_none (knd := intKind _ _) ?N ?hp ?hd ?lo (intKind_is _ _ _ _) ?hv ?_; (case N => k_asm); (case hd => assumption); (case hp => k_mem); (case lo => assumption); (case hv => assumption)))))
  trivial
theorem row_spec : ∀ {w : World} {mean : ExcName → Option Value} {mg mb : Str → Option Value} {dp un : Nat} {gd : Option (List Code)} {cn : Str} {cs : Scope} {a : Addr} {ccd : Value} {cl : List (Str × Addr)} {outer : List Env} {A₀ : Around} {base h₀ : Heap} {L : Addr} {m : Str → Option Value} {news : List (Addr × Obj)} {s : Shared}
    {Q E : Value → Shared → Prop} (B : Below A₀ base outer h₀) (F : Fr h₀ L s.heap m) (X : (hd.heap_1 w.params).In h₀) (N : News h₀ L s.heap news) (T : Top topProg LS mean mg mb h₀) (hk : cs.kind = .function) (hdp : dp < 890) (hu : un < 8000)
    {tb td rd : Addr} {tt : Tok} {ro : Obj} {rs : List R} {kvs : List (Int × Value)} {xo : Int} {to_ : Tok} (m1 : (tb, instObj 164 td) ∈ news) (m2 : (td, dictOf [⟨PyData.keyHash w.params (Str.ofString "rows"), .str (Str.ofString "rows") tt, .ref rd⟩] 1) ∈ news) (m3 : (rd, ro) ∈ news) (lo : (rd == sysModules) = false) (m4 : ro.IsDictOf (intKind PySem.Challenge.rw_on0339_01.row.prog w) kvs) (m5 : RowsAt w news rs kvs)
    (rai : valueAt kvs xo = none → ∀ e h' g₂ tk', RaisedSN base g₂ (envX cn cs L a ccd cl :: outer) e (.ref 68) news h' → Fr h₀ L g₂ m → g₂.UpToSlots h' → E (.ref e) { s with heap := h', toks := tk' })
    (ret : ∀ v h' tk', valueAt kvs xo = some v → Fr h₀ L h' m → News h₀ L h' news → Q v { s with heap := h', toks := tk' }),
    wpAny (model PySem.Challenge.rw_on0339_01.row.prog w) (ktrTop dp un gd cn cs L a ccd cl outer) (call (.ref 126) [.ref tb, .int xo to_]) Q E s := by
  k_fill
  intro w mean mg mb dp un gd cn cs a ccd cl outer A₀ base h₀ L m news s Q E B F X N T hk hdp hu tb td rd tt ro rs kvs xo to_ m1 m2 m3 lo m4 m5 rai ret
  refine wpAny_call ?_
  k_dflt (refine' code_def (binds := [(Str.ofString "self", .ref tb), (Str.ofString "owner", .int xo to_)]) ?k1 ?k2 ?k3 ?k4 ?k5 ?kA ?kF ?kK ?k6 ?k7 ?k8 ?k9 ?kB ?_ ?c2 ?c3 ?c4 ?c5; (case kA => exact rfl); (case kF => exact rfl); (case kK => assumption); (case k1 => k_asm); (case k2 => k_asm); (case k3 => k_asm); (case k4 => k_asm); (case k5 => k_asm); (case k6 => k_is); (case k7 => k_is); (case k8 => ktr_room); (case k9 => exact BindsTo.of_eq rfl); (case c5 => decide); (case kB => exact locs rfl); (case c2 => exact rfl); (case c3 => exact rfl); (case c4 => exact rfl))
  intro g1 L1 h1 FG1 F1 N1 B1 X1 T1
  change Fr g1 L1 h1 (fun y => List.lookup y [(Str.ofString "owner", .int xo to_), (Str.ofString "self", .ref tb)]) at F1
  dsimp only
  k_fold
  cases hva : valueAt kvs xo with
  | none =>
    k_steps
    exact rai hva _ _ _ _ (by assumption) (by assumption) (by assumption)
  | some v =>
    have hvh : handedIn v = true := by
      obtain ⟨i, hi⟩ := valueAt_idx hva
      obtain ⟨r, ra, _, _, rfl, _⟩ := m5.get hi
      rfl
    k_steps
    exact ret _ _ _ hva (by k_asm) (by k_asm)
end
section
open PySem PySem.W PySem.Calls PyProof.Rows PyProof.V PySem.Spec
theorem kclrC4 : True := by
  w_top off
  k_with_none
  trivial
theorem mul_okM (a b : Int) : IntMulOk (Int.fmod a 2147483647) (Int.fmod b 2147483647) := by
  have h1 := Int.fmod_nonneg_of_pos a (b := 2147483647) (by decide)
  have h2 := Int.fmod_lt_of_pos a (b := 2147483647) (by decide)
  exact IntMulOk.of_left (intBits_le_64 (by omega) (by omega))
theorem kset_C4_1 : True := by
  k_with "k_all" => (assumption)
  k_with "binaryOp Mult int int" => (refine PyProof.Rows.mul_int (hm := mul_okM _ _) ?_)
  trivial
theorem take_spec : ∀ {w : World} {mean : ExcName → Option Value} {mg mb : Str → Option Value} {dp un : Nat} {gd : Option (List Code)} {cn : Str} {cs : Scope} {a : Addr} {ccd : Value} {cl : List (Str × Addr)} {outer : List Env} {A₀ : Around} {base h₀ : Heap} {L : Addr} {m : Str → Option Value} {src : Addr} {rest : List (Addr × Obj)} {x y : Int} {tx ty : Tok} {n : Nat} {s : Shared}
    {Q E : Value → Shared → Prop} (B : Below A₀ base outer h₀) (F : Fr h₀ L s.heap m) (X : (hd.heap_1 w.params).In h₀) (N : News h₀ L s.heap ((src, listOf #[.int x tx, .int y ty] n) :: rest)) (T : Top topProg LS mean mg mb h₀) (hk : cs.kind = .function) (hdp : dp < 890) (hu : un < 8000)
    {top : Int} {tt : Tok} (hr : ∀ p ∈ rest, p.1 ≠ src) (hx : 0 ≤ x) (hy : 0 ≤ y) (ht : 0 < top) (ht2 : top ≤ 300)
    (ret : ∀ (r : Int) tr (x' : Int) tx' (y' : Int) ty' n' h' tk', 0 ≤ r → r < top → 0 ≤ x' → 0 ≤ y' → Fr h₀ L h' m → News h₀ L h' ((src, listOf #[.int x' tx', .int y' ty'] n') :: rest) → Q (.int r tr) { s with heap := h', toks := tk' }),
    wpAny (model PySem.Challenge.rw_on0339_01.row.prog w) (ktrTop dp un gd cn cs L a ccd cl outer) (call (.ref 281) [.ref src, .int top tt]) Q E s := by
  k_fill
  intro w mean mg mb dp un gd cn cs a ccd cl outer A₀ base h₀ L m src rest x y tx ty n s Q E B F X N T hk hdp hu top tt hr hx hy ht ht2 ret
  refine wpAny_call ?_
  k_dflt (refine' code_def (binds := [(Str.ofString "source", .ref src), (Str.ofString "top", .int top tt)]) ?k1 ?k2 ?k3 ?k4 ?k5 ?kA ?kF ?kK ?k6 ?k7 ?k8 ?k9 ?kB ?_ ?c2 ?c3 ?c4 ?c5; (case kA => exact rfl); (case kF => exact rfl); (case kK => assumption); (case k1 => k_asm); (case k2 => k_asm); (case k3 => k_asm); (case k4 => k_asm); (case k5 => k_asm); (case k6 => k_is); (case k7 => k_is); (case k8 => ktr_room); (case k9 => exact BindsTo.of_eq rfl); (case c5 => decide); (case kB => exact locs rfl); (case c2 => exact rfl); (case c3 => exact rfl); (case c4 => exact rfl))
  intro g1 L1 h1 FG1 F1 N1 B1 X1 T1
  change Fr g1 L1 h1 (fun y => List.lookup y [(Str.ofString "top", .int top tt), (Str.ofString "source", .ref src)]) at F1
  dsimp only
  k_fold
  k_steps
  · refine ret _ _ _ _ _ _ _ _ _ ?_ ?_ ?_ ?_ (by k_asm) (by k_asm)
    · exact Int.fmod_nonneg_of_pos _ ht
    · exact Int.fmod_lt_of_pos _ ht
    · exact Int.fdiv_nonneg hx (Int.le_of_lt ht)
    · exact hy
  · refine ret _ _ _ _ _ _ _ _ _ ?_ ?_ ?_ ?_ (by k_asm) (by k_asm)
    · exact Int.fmod_nonneg_of_pos _ ht
    · exact Int.fmod_lt_of_pos _ ht
    · exact hx
    · exact Int.fmod_nonneg_of_pos _ (by decide)
end
section
open PySem PySem.W PySem.Calls PyProof.Rows PyProof.V PySem.Spec
theorem kclrC5 : True := by
  w_top off
  k_with_none
  trivial
theorem sub_list {prog : Program} {w : World} {A : Around} {E : Value → Shared → Prop} {s : Shared} {h₀ : Heap} {L : Addr} {news : List (Addr × Obj)} {value slice : PySem.Expr} {l : Addr} {vs : List Value} {n : Nat} {k : Int} {u : Tok} {Q : Value → Shared → Prop}
    (N : News h₀ L s.heap news) (hm : (l, listOf vs.toArray n) ∈ news) (h0 : 0 ≤ k) (hk : k < (vs.length : Int)) (hl : vs.length ≤ 300) (h : ∀ v ∈ vs, Q v s)
    (hs : subscripted slice false (.ref l) (.int k u) = operate [.ref l, .int k u] (getItem (.ref l) (.int k u)) := by with_unfolding_all rfl) :
    wpAny (model prog w) A (subscriptTail value slice (.ref l) (.int k u)) Q E s := by
  have hL : s.heap.IsList l vs.toArray := ⟨_, N.get hm, rfl, n, rfl⟩
  have hlt : k.toNat < vs.length := by omega
  exact tail_any hL.typeIs slot_list_getitem.lookup (wpAny_getItem_list (x := vs[k.toNat]) hL h0 (by omega) (by simp [hlt]) (h _ (List.getElem_mem hlt))) hs
theorem len_listN {prog : Program} {w : World} {A : Around} {E : Value → Shared → Prop} {s : Shared} {h₀ : Heap} {L : Addr} {news : List (Addr × Obj)} {l : Addr} {vs : List Value} {n : Nat} {Q : Value → Shared → Prop}
    (N : News h₀ L s.heap news) (hm : (l, listOf vs.toArray n) ∈ news) (hl : vs.length ≤ 300) (h : ∀ tk tk', Q (.int (vs.length : Int) tk) { s with toks := tk' }) : wpAny (model prog w) A (call (.builtin "len") [.ref l]) Q E s := by
  have hL : s.heap.IsList l vs.toArray := ⟨_, N.get hm, rfl, n, rfl⟩
  have e : vs.toArray.size = vs.length := by simp
  exact PyProof.Rows.len_list hL (by rw [e]; omega) (by rw [e]; exact h _ _)
theorem kset_C5_1 : True := by
  k_with "k_mem" => (first | assumption | exact List.mem_cons_self | (refine List.mem_cons_of_mem _ ?_; k_mem))
  k_with "k_all" => (assumption)
  k_with "call builtin:len" => (((k_here; k_dflt (refine' len_listN ?N ?hm ?hl ?_; (case N => k_asm); (case hm => k_mem); (case hl => assumption)); intro tk'ₖ tk''ₖ); all_goals ((try revert tk''ₖ); (try revert tk'ₖ); intros)))
  k_with "subscriptTail" => (((k_here; k_dflt (refine' sub_list ?N ?hm ?h0 ?hk ?hl ?_; (case N => k_asm); (case hm => k_mem); (case h0 => assumption); (case hk => assumption); (case hl => assumption)); intro v'ₖ hv'ₖ); all_goals ((try revert hv'ₖ); (try revert v'ₖ); intros)))
  k_with "call ref" => (((k_here; (with_reducible show wpAny _ _ (call (Value.ref 281) _) _ _ _); k_dflt (refine' take_spec ?u_B ?u_F ?u_X ?u_N ?u_T ?u_hk ?u_hdp ?u_hu ?u_hr ?u_hx ?u_hy ?u_ht ?u_ht2 ?_; (case u_B => k_asm); (case u_F => k_asm); (case u_X => k_asm); (case u_N => k_asm); (case u_T => k_asm); (case u_hk => first | exact rfl | assumption); (case u_hdp => ktr_room); (case u_hu => ktr_units); (case u_hr => first | assumption | k_all); (case u_hx => assumption); (case u_hy => assumption); (case u_ht => first | assumption | omega | decide); (case u_ht2 => first | assumption | omega | decide)); intro r'ₖ tr'ₖ x'ₖ tx'ₖ y'ₖ ty'ₖ n'ₖ h'ₖ tk'ₖ hr0'ₖ hr1'ₖ hx'ₖ hy'ₖ F'ₖ N'ₖ; (try k_sweep)); all_goals ((try revert N'ₖ); (try revert F'ₖ); (try revert hy'ₖ); (try revert hx'ₖ); (try revert hr1'ₖ); (try revert hr0'ₖ); (try revert tk'ₖ); (try revert h'ₖ); (try revert n'ₖ); (try revert ty'ₖ); (try revert y'ₖ); (try revert tx'ₖ); (try revert x'ₖ); (try revert tr'ₖ); (try revert r'ₖ); intros)))
  trivial
theorem one_spec : ∀ {w : World} {mean : ExcName → Option Value} {mg mb : Str → Option Value} {dp un : Nat} {gd : Option (List Code)} {cn : Str} {cs : Scope} {a : Addr} {ccd : Value} {cl : List (Str × Addr)} {outer : List Env} {A₀ : Around} {base h₀ : Heap} {L : Addr} {m : Str → Option Value} {src : Addr} {rest : List (Addr × Obj)} {x y : Int} {tx ty : Tok} {n : Nat} {s : Shared}
    {Q E : Value → Shared → Prop} (B : Below A₀ base outer h₀) (F : Fr h₀ L s.heap m) (X : (hd.heap_1 w.params).In h₀) (N : News h₀ L s.heap ((src, listOf #[.int x tx, .int y ty] n) :: rest)) (T : Top topProg LS mean mg mb h₀) (hk : cs.kind = .function) (hdp : dp < 880) (hu : un < 7900)
    {l : Addr} {vs : List Value} {nl : Nat} (hr : ∀ p ∈ rest, p.1 ≠ src) (hm : (l, listOf vs.toArray nl) ∈ rest) (hl0 : 0 < vs.length) (hl : vs.length ≤ 300) (hx : 0 ≤ x) (hy : 0 ≤ y)
    (ret : ∀ v (x' : Int) tx' (y' : Int) ty' n' h' tk', v ∈ vs → 0 ≤ x' → 0 ≤ y' → Fr h₀ L h' m → News h₀ L h' ((src, listOf #[.int x' tx', .int y' ty'] n') :: rest) → Q v { s with heap := h', toks := tk' }),
    wpAny (model PySem.Challenge.rw_on0339_01.row.prog w) (ktrTop dp un gd cn cs L a ccd cl outer) (call (.ref 288) [.ref src, .ref l]) Q E s := by
  k_fill
  intro w mean mg mb dp un gd cn cs a ccd cl outer A₀ base h₀ L m src rest x y tx ty n s Q E B F X N T hk hdp hu l vs nl hr hm hl0 hl hx hy ret
  refine wpAny_call ?_
  k_dflt (refine' code_def (binds := [(Str.ofString "source", .ref src), (Str.ofString "things", .ref l)]) ?k1 ?k2 ?k3 ?k4 ?k5 ?kA ?kF ?kK ?k6 ?k7 ?k8 ?k9 ?kB ?_ ?c2 ?c3 ?c4 ?c5; (case kA => exact rfl); (case kF => exact rfl); (case kK => assumption); (case k1 => k_asm); (case k2 => k_asm); (case k3 => k_asm); (case k4 => k_asm); (case k5 => k_asm); (case k6 => k_is); (case k7 => k_is); (case k8 => ktr_room); (case k9 => exact BindsTo.of_eq rfl); (case c5 => decide); (case kB => exact locs rfl); (case c2 => exact rfl); (case c3 => exact rfl); (case c4 => exact rfl))
  intro g1 L1 h1 FG1 F1 N1 B1 X1 T1
  change Fr g1 L1 h1 (fun y => List.lookup y [(Str.ofString "things", .ref l), (Str.ofString "source", .ref src)]) at F1
  dsimp only
  k_fold
  have ht : (0 : Int) < vs.length := by omega
  have ht2 : (vs.length : Int) ≤ 300 := by omega
  k_steps
  refine ret _ _ _ _ _ _ _ _ (by assumption) ?_ ?_ (by k_asm) (by k_asm) <;> assumption
end
section
open PySem PySem.W PySem.Calls PyProof.Rows PyProof.V PySem.Spec
theorem kclrC6 : True := by
  w_top off
  k_with_none
  trivial
theorem kset_C6_1 : True := by
  k_with "k_mem" => (first | assumption | exact List.mem_cons_self | (refine List.mem_cons_of_mem _ ?_; k_mem))
  k_with "compareOp Eq ref ref" => ((k_here; k_dflt (refine' rem_eq ?u_N ?u_1 ?u_2 ?u_h ?_; (case u_N => k_asm); (case u_1 => assumption); (case u_2 => assumption); (case u_h => ktr_units))))
  k_with "compareOp NotEq ref ref" => ((k_here; k_dflt (refine' rem_ne ?u_N ?u_1 ?u_2 ?u_h ?_; (case u_N => k_asm); (case u_1 => assumption); (case u_2 => assumption); (case u_h => ktr_units))))
  trivial
theorem fits_spec : ∀ {w : World} {mean : ExcName → Option Value} {mg mb : Str → Option Value} {dp un : Nat} {gd : Option (List Code)} {cn : Str} {cs : Scope} {a : Addr} {ccd : Value} {cl : List (Str × Addr)} {outer : List Env} {A₀ : Around} {base h₀ : Heap} {L : Addr} {m : Str → Option Value} {news : List (Addr × Obj)} {s : Shared}
    {Q E : Value → Shared → Prop} (B : Below A₀ base outer h₀) (F : Fr h₀ L s.heap m) (X : (hd.heap_1 w.params).In h₀) (N : News h₀ L s.heap news) (T : Top topProg LS mean mg mb h₀) (hk : cs.kind = .function) (hdp : dp < 890) (hu : un < 8000)
    {ra : Addr} {r : R} {tg tp : Int} {ttg ttp : Tok} {xrv : Value} {q1 q2 : Int} (hra : RowAt w news r ra) (hq : RemAt news xrv (some (q1, q2)))
    (ret : ∀ (v : Int) tv h' tk', v = fitsV r tg tp (q1, q2) → Fr h₀ L h' m → News h₀ L h' news → Q (.int v tv) { s with heap := h', toks := tk' }),
    wpAny (model PySem.Challenge.rw_on0339_01.row.prog w) (ktrTop dp un gd cn cs L a ccd cl outer) (call (.ref 98) [.ref ra, .int tg ttg, .int tp ttp, xrv]) Q E s := by
  k_fill
  intro w mean mg mb dp un gd cn cs a ccd cl outer A₀ base h₀ L m news s Q E B F X N T hk hdp hu ra r tg tp ttg ttp xrv q1 q2 hra hq ret
  obtain ⟨da, t, rv, e1, e2, e3⟩ := hra
  obtain ⟨ro, r_a, rp, rr⟩ := r
  dsimp only at e2 e3
  refine wpAny_call ?_
  k_dflt (refine' code_def (binds := [(Str.ofString "self", .ref ra), (Str.ofString "target", .int tg ttg), (Str.ofString "target_port", .int tp ttp), (Str.ofString "remote", xrv)]) ?k1 ?k2 ?k3 ?k4 ?k5 ?kA ?kF ?kK ?k6 ?k7 ?k8 ?k9 ?kB ?_ ?c2 ?c3 ?c4 ?c5; (case kA => exact rfl); (case kF => exact rfl); (case kK => assumption); (case k1 => k_asm); (case k2 => k_asm); (case k3 => k_asm); (case k4 => k_asm); (case k5 => k_asm); (case k6 => k_is); (case k7 => k_is); (case k8 => ktr_room); (case k9 => exact BindsTo.of_eq rfl); (case c5 => decide); (case kB => exact locs rfl); (case c2 => exact rfl); (case c3 => exact rfl); (case c4 => exact rfl))
  intro g1 L1 h1 FG1 F1 N1 B1 X1 T1
  change Fr g1 L1 h1 (fun y => List.lookup y [(Str.ofString "remote", xrv), (Str.ofString "target_port", .int tp ttp), (Str.ofString "target", .int tg ttg), (Str.ofString "self", .ref ra)]) at F1
  dsimp only
  k_fold
  have e3' := e3
  have hq' := hq
  obtain ⟨tq, tq1, tq2, rfl, hqm⟩ := hq'
  rcases rr with _ | ⟨r1, r2⟩
  · cases e3'
    k_steps
    all_goals first
      | (exact ret _ _ _ _ (by simp [fitsV] at *; simp_all) (by k_asm) (by k_asm))
  · obtain ⟨tr, tr1, tr2, rfl, hrm⟩ := e3'
    k_steps
    all_goals first
      | (exact ret _ _ _ _ (by simp [fitsV] at *; simp_all) (by k_asm) (by k_asm))
end
section
open PySem PySem.W PySem.Calls PyProof.Rows PyProof.V PySem.Spec
theorem kclrC7 : True := by
  w_top off
  k_with_none
  trivial
theorem kset_C7_1 : True := by
  k_with "pyIter ref" => ((k_here; refine Stop.here ?_))
  k_with "k_mem" => (first | assumption | exact List.mem_cons_self | (refine List.mem_cons_of_mem _ ?_; k_mem))
  k_with "subscriptTail" => ((k_here; (with_reducible show wpAny _ _ (subscriptTail _ _ (Value.ref _) (Value.int _ _)) _ _ _); k_dflt (refine' kda_item (knd := intKind _ _) ?N ?hp ?hd (intKind_is _ _ _ _) ?hl ?_; (case N => k_asm); (case hd => assumption); (case hp => k_mem); (case hl => assumption))))
  k_with "TurnPost" => (dsimp only [TurnPost])
  k_with "k_handed" => (assumption)
  k_with "call ref" => (((k_here; (with_reducible show wpAny _ _ (call (Value.ref 98) _) _ _ _); k_dflt (refine' fits_spec ?u_B ?u_F ?u_X ?u_N ?u_T ?u_hk ?u_hdp ?u_hu ?u_hra ?u_hq ?_; (case u_B => k_asm); (case u_F => k_asm); (case u_X => k_asm); (case u_N => k_asm); (case u_T => k_asm); (case u_hk => first | exact rfl | assumption); (case u_hdp => ktr_room); (case u_hu => ktr_units); (case u_hra => exact RowAt.mono (by assumption) (by intro pₖ hpₖ; simp [hpₖ])); (case u_hq => exact ⟨_, _, _, rfl, by k_mem⟩)); intro v9ₖ tv9ₖ h9ₖ tk9ₖ hv9ₖ F9ₖ N9ₖ; (try k_sweep)); all_goals ((try revert N9ₖ); (try revert F9ₖ); (try revert hv9ₖ); (try revert tk9ₖ); (try revert h9ₖ); (try revert tv9ₖ); (try revert v9ₖ); (try revert hpₖ); (try revert pₖ); intros)))
  trivial
theorem find_spec : ∀ {w : World} {mean : ExcName → Option Value} {mg mb : Str → Option Value} {dp un : Nat} {gd : Option (List Code)} {cn : Str} {cs : Scope} {a : Addr} {ccd : Value} {cl : List (Str × Addr)} {outer : List Env} {A₀ : Around} {base h₀ : Heap} {L : Addr} {m : Str → Option Value} {news : List (Addr × Obj)} {s : Shared}
    {Q E : Value → Shared → Prop} (B : Below A₀ base outer h₀) (F : Fr h₀ L s.heap m) (X : (hd.heap_1 w.params).In h₀) (N : News h₀ L s.heap news) (T : Top topProg LS mean mg mb h₀) (hk : cs.kind = .function) (hdp : dp < 880) (hu : un < 7900)
    {tb td rd : Addr} {tt : Tok} {ro : Obj} {rs : List R} {kvs : List (Int × Value)} {tg tp sa sp : Int} {ttg ttp tsa tsp : Tok} (m1 : (tb, instObj 164 td) ∈ news) (m2 : (td, dictOf [⟨PyData.keyHash w.params (Str.ofString "rows"), .str (Str.ofString "rows") tt, .ref rd⟩] 1) ∈ news) (m3 : (rd, ro) ∈ news) (lo : (rd == sysModules) = false) (m4 : ro.IsDictOf (intKind PySem.Challenge.rw_on0339_01.row.prog w) kvs) (m5 : RowsAt w news rs kvs)
    (ret : ∀ v h' tk', OptInt v (bestOf (fun r => fitsV r tg tp (sa, sp)) rs).2 → Fr h₀ L h' m → News h₀ L h' news → Q v { s with heap := h', toks := tk' }),
    wpAny (model PySem.Challenge.rw_on0339_01.row.prog w) (ktrTop dp un gd cn cs L a ccd cl outer) (call (.ref 161) [.ref tb, .int tg ttg, .int tp ttp, .int sa tsa, .int sp tsp]) Q E s := by
  k_fill
  intro w mean mg mb dp un gd cn cs a ccd cl outer A₀ base h₀ L m news s Q E B F X N T hk hdp hu tb td rd tt ro rs kvs tg tp sa sp ttg ttp tsa tsp m1 m2 m3 lo m4 m5 ret
  refine wpAny_call ?_
  k_dflt (refine' code_def (binds := [(Str.ofString "self", .ref tb), (Str.ofString "target", .int tg ttg), (Str.ofString "target_port", .int tp ttp), (Str.ofString "source", .int sa tsa), (Str.ofString "source_port", .int sp tsp)]) ?k1 ?k2 ?k3 ?k4 ?k5 ?kA ?kF ?kK ?k6 ?k7 ?k8 ?k9 ?kB ?_ ?c2 ?c3 ?c4 ?c5; (case kA => exact rfl); (case kF => exact rfl); (case kK => assumption); (case k1 => k_asm); (case k2 => k_asm); (case k3 => k_asm); (case k4 => k_asm); (case k5 => k_asm); (case k6 => k_is); (case k7 => k_is); (case k8 => ktr_room); (case k9 => exact BindsTo.of_eq rfl); (case c5 => decide); (case kB => exact locs rfl); (case c2 => exact rfl); (case c3 => exact rfl); (case c4 => exact rfl))
  intro g1 L1 h1 FG1 F1 N1 B1 X1 T1
  change Fr g1 L1 h1 (fun y => List.lookup y [(Str.ofString "source_port", .int sp tsp), (Str.ofString "source", .int sa tsa), (Str.ofString "target_port", .int tp ttp), (Str.ofString "target", .int tg ttg), (Str.ofString "self", .ref tb)]) at F1
  dsimp only
  k_fold
  k_steps
  rename Fr _ _ _ _ => F2
  rename News _ _ _ _ => N2
  refine Stop.go ?_
  refine iter_dictK (knd := intKind _ _) (kvs := kvs) (o := ro) (fun i m' => Off [Str.ofString "owner", Str.ofString "exact", Str.ofString "best", Str.ofString "found"] m' (fun y => List.lookup y [(Str.ofString "source_port", .int sp tsp), (Str.ofString "source", .int sa tsa), (Str.ofString "target_port", .int tp ttp), (Str.ofString "target", .int tg ttg), (Str.ofString "self", .ref tb)]) ∧ (∃ b tbb, m' (Str.ofString "best") = some (.int b tbb) ∧ b = (bestOf (fun r => fitsV r tg tp (sa, sp)) (rs.take i)).1) ∧ (∃ fv, m' (Str.ofString "found") = some fv ∧ OptInt fv (bestOf (fun r => fitsV r tg tp (sa, sp)) (rs.take i)).2)) rfl lo (by k_mem) m4 F2 N2 ⟨fun y hy => by simp at hy; simp [hy], ⟨_, _, rfl, rfl⟩, ⟨_, rfl, rfl⟩⟩ ?_ ?_
  · rintro i k v key m₁ h2 tk own hx hkey ⟨hoff, ⟨b, tbb, hm1, hb⟩, ⟨fv, hm2, hfv⟩⟩ F3 N3
    obtain ⟨u, rfl⟩ := hoff.map4 hm1 hm2
    obtain ⟨r, ra, hr, rfl, rfl, hra⟩ := m5.get hx
    obtain ⟨t3, rfl⟩ := Value.isInt_shape hkey
    have hra' := hra
    obtain ⟨da, t, rv, e1, e2, e3⟩ := hra'
    have hva : valueAt kvs r.o = some (.ref ra) := by
      obtain ⟨_, _, _, _, _, _, hnd⟩ := m4
      exact valueAt_of_get hnd hx
    have hst := bestOf_take (fun r => fitsV r tg tp (sa, sp)) hr
    clear F2 N2 hm1 hm2 hoff
    dsimp only
    k_steps
    · refine TurnEnd.intro (by k_asm) (by k_asm) (by intro p hp; simp [hp]) ⟨fun y hy => by simp at hy; simp [hy], ⟨_, _, rfl, ?_⟩, ⟨_, rfl, ?_⟩⟩
      · rw [hst]; subst_vars; rw [best_yes (by assumption)]
      · rw [hst]; subst_vars; rw [best_yes (by assumption)]; exact ⟨_, rfl⟩
    · refine TurnEnd.intro (by k_asm) (by k_asm) (by intro p hp; simp [hp]) ⟨fun y hy => by simp at hy; simp [hy], ⟨_, _, rfl, ?_⟩, ⟨_, rfl, ?_⟩⟩
      · rw [hst]; subst_vars; rw [best_no (by assumption)]
      · rw [hst]; subst_vars; rw [best_no (by assumption)]; exact hfv
  · rintro m₁ h2 tk ⟨hoff, ⟨b, tbb, hm1, hb⟩, ⟨fv, hm2, hfv⟩⟩ F3 N3
    obtain ⟨u, rfl⟩ := hoff.map4 hm1 hm2
    rw [← m5.len, List.take_length] at hfv
    dsimp only
    have hfh : handedIn fv = true := by
      cases hq : (bestOf (fun r => fitsV r tg tp (sa, sp)) rs).2 with
      | none => rw [hq] at hfv; cases hfv; rfl
      | some k => rw [hq] at hfv; obtain ⟨_, rfl⟩ := hfv; rfl
    k_steps
    exact ret _ _ _ hfv (by k_asm) (by k_asm)
end
section
open PySem PySem.W PySem.Calls PyProof.Rows PyProof.V PySem.Spec
theorem kclrD1 : True := by
  w_top off
  k_with_none
  trivial
theorem allLt_ne {d : Addr} {l : List (Addr × Obj)} (h : AllLt d l) : ∀ p ∈ l, p.1 ≠ d := by
  induction l with
  | nil => intro p hp; cases hp
  | cons q l ih =>
    obtain ⟨h1, h2⟩ := h
    intro p hp
    rcases List.mem_cons.mp hp with e | hp
    · rw [e]; exact Nat.ne_of_lt h1
    · exact ih h2 p hp
theorem allLt_ne1 {d : Addr} {l : List (Addr × Obj)} {A : Prop} (h : A ∧ AllLt d l) : ∀ p ∈ l, p.1 ≠ d := allLt_ne h.2
theorem allLt_ne2 {d : Addr} {l : List (Addr × Obj)} {A B : Prop} (h : A ∧ B ∧ AllLt d l) : ∀ p ∈ l, p.1 ≠ d := allLt_ne h.2.2
theorem allLt_ne3 {d : Addr} {l : List (Addr × Obj)} {A B C : Prop} (h : A ∧ B ∧ C ∧ AllLt d l) : ∀ p ∈ l, p.1 ≠ d := allLt_ne h.2.2.2
theorem allLt_ne4 {d : Addr} {l : List (Addr × Obj)} {A B C D : Prop} (h : A ∧ B ∧ C ∧ D ∧ AllLt d l) : ∀ p ∈ l, p.1 ≠ d := allLt_ne h.2.2.2.2
theorem allLt_ne5 {d : Addr} {l : List (Addr × Obj)} {A B C D E : Prop} (h : A ∧ B ∧ C ∧ D ∧ E ∧ AllLt d l) : ∀ p ∈ l, p.1 ≠ d := allLt_ne h.2.2.2.2.2
theorem allLt_ne6 {d : Addr} {l : List (Addr × Obj)} {A B C D E F : Prop} (h : A ∧ B ∧ C ∧ D ∧ E ∧ F ∧ AllLt d l) : ∀ p ∈ l, p.1 ≠ d := allLt_ne h.2.2.2.2.2.2
theorem stored_none {kvs : List (Int × Value)} {k : Int} {v : Value} (h : valueAt kvs k = none) : stored kvs k v = kvs ++ [(k, v)] := by
  have h2 : kvs.any (fun kv => kv.1 = k) = false := by
    unfold valueAt at h
    rw [Option.map_eq_none_iff, List.find?_eq_none] at h
    rw [List.any_eq_false]
    intro x hx
    simpa using h x hx
  unfold stored
  simp only [h2]
  rfl
theorem RowAt.of {w : World} {tl : List (Addr × Obj)} {ra da : Addr} {o a p : Int} {rv : Value} {rr : Option (Int × Int)} {t0 t1 t2 t3 t4 t5 t6 : Tok} (h1 : (ra, instObj 101 da) ∈ tl)
    (h2 : (da, dictOf [⟨PyData.keyHash w.params (Str.ofString "owner"), .str (Str.ofString "owner") t0, .int o t1⟩,
    ⟨PyData.keyHash w.params (Str.ofString "address"), .str (Str.ofString "address") t2, .int a t3⟩,
    ⟨PyData.keyHash w.params (Str.ofString "port"), .str (Str.ofString "port") t4, .int p t5⟩,
    ⟨PyData.keyHash w.params (Str.ofString "remote"), .str (Str.ofString "remote") t6, rv⟩] 4) ∈ tl) (h3 : RemAt tl rv rr) : RowAt w tl ⟨o, a, p, rr⟩ ra :=
  ⟨da, fun i => match i with | 0 => t0 | 1 => t1 | 2 => t2 | 3 => t3 | 4 => t4 | 5 => t5 | _ => t6, rv, h1, h2, h3⟩
theorem news_rot2 {h₀ h : Heap} {L : Addr} {x d r : Addr × Obj} {rest : List (Addr × Obj)} (N : News h₀ L h (x :: d :: r :: rest)) : News h₀ L h (r :: ([x, d] ++ rest)) :=
  fun p hp => N p (by simp only [List.cons_append, List.nil_append, List.mem_cons] at hp ⊢; rcases hp with h | h | h | h <;> simp [h])
theorem news_rot1 {h₀ h : Heap} {L : Addr} {x r : Addr × Obj} {rest : List (Addr × Obj)} (N : News h₀ L h (x :: r :: rest)) : News h₀ L h (r :: x :: rest) :=
  fun p hp => N p (by simp only [List.mem_cons] at hp ⊢; rcases hp with h | h | h <;> simp [h])
theorem news_rot3 {h₀ h : Heap} {L : Addr} {x y d r : Addr × Obj} {rest : List (Addr × Obj)} (N : News h₀ L h (x :: y :: d :: r :: rest)) : News h₀ L h (r :: ([x, y, d] ++ rest)) :=
  fun p hp => N p (by simp only [List.cons_append, List.nil_append, List.mem_cons] at hp ⊢; rcases hp with h | h | h | h | h <;> simp [h])
end
section
open PySem PySem.W PySem.Calls PyProof.Rows PyProof.V PySem.Spec
theorem kclrD2 : True := by
  w_top off
  k_with_none
  trivial
theorem valueAt_mem {kvs : List (Int × Value)} (hn : (kvs.map (·.1)).Nodup) {k : Int} {v : Value} (h : (k, v) ∈ kvs) : valueAt kvs k = some v := by
  obtain ⟨i, hi⟩ := List.mem_iff_getElem?.mp h
  exact valueAt_of_get hn hi
theorem rowD_inj {w : World} {t t' : Nat → Tok} {o o' a a' p p' : Int} {rv rv' : Value} (h : rowD w t o a p rv = rowD w t' o' a' p' rv') : o = o' ∧ a = a' ∧ p = p' ∧ rv = rv' := by
  have h1 := congrArg Obj.data h
  simp only [rowD, dictOf] at h1
  injection h1 with h2
  simp only [List.toArray, Array.mk.injEq, List.cons.injEq, DictEntry.mk.injEq, Value.int.injEq] at h2
  simp_all
theorem rowD_ne_inst {w : World} {t : Nat → Tok} {o a p : Int} {rv : Value} {C d : Addr} : instObj C d ≠ rowD w t o a p rv := by
  intro h; have h1 := congrArg Obj.cls h; simp [instObj, rowD, dictOf] at h1
theorem rowD_ne_tup {w : World} {t : Nat → Tok} {o a p : Int} {rv : Value} {vs : List Value} : tupO vs ≠ rowD w t o a p rv := by
  intro h; have h1 := congrArg Obj.cls h; simp [rowD, dictOf] at h1
theorem rem_tup {news : List (Addr × Obj)} {ta : Addr} {x y : Int} {tx ty : Tok} (h : (ta, ({ cls := .type "tuple", data := .seq #[.int x tx, .int y ty] } : Obj)) ∈ news) : RemAt news (.ref ta) (some (x, y)) := ⟨ta, tx, ty, rfl, h⟩
theorem RemAt.off {h₀ h : Heap} {L : Addr} {news news' : List (Addr × Obj)} {rv : Value} {q : Option (Int × Int)} (x : RemAt news rv q) (keep : ∀ p ∈ news, (∀ vs, p.2 = tupO vs → p ∈ news')) : RemAt news' rv q := by
  rcases q with _ | ⟨x1, y1⟩
  · exact x
  · obtain ⟨ta, tx, ty, e, hm⟩ := x
    exact ⟨ta, tx, ty, e, keep _ hm _ rfl⟩
theorem rows_set {w : World} {h₀ h : Heap} {L : Addr} {news news' : List (Addr × Obj)} {xo : Int} {ra da : Addr} {t : Nat → Tok} {a0 p0 : Int} {rv0 rv : Value} {q : Option (Int × Int)} (N : News h₀ L h news)
    (h1 : (ra, instObj 101 da) ∈ news) (h2 : (da, rowD w t xo a0 p0 rv0) ∈ news) (keep : ∀ p ∈ news, p.1 ≠ da → p ∈ news') (hnew : (da, rowD w t xo a0 p0 rv) ∈ news') (hrem : RemAt news' rv q) :
    ∀ {rs : List R} {kvs : List (Int × Value)}, RowsAt w news rs kvs → (∀ kv ∈ kvs, kv.1 = xo → kv.2 = .ref ra) → RowsAt w news' (rs.map fun r => if r.o = xo then { r with r := q } else r) kvs
  | _, _, .nil, _ => .nil
  | r :: rs, _, .cons (ra := ra') x y, hu => by
    have ih := rows_set N h1 h2 keep hnew hrem y (fun kv hk => hu kv (List.mem_cons_of_mem _ hk))
    have hda := (N _ h2).1
    have keepO : ∀ p ∈ news, p.2 ≠ rowD w t xo a0 p0 rv0 → p ∈ news' := fun p hp hne => keep p hp fun e => by
      have := (N _ hp).1
      rw [e, hda] at this
      exact hne (Option.some.inj this).symm
    obtain ⟨da', t', rv', f1, f2, f3⟩ := x
    by_cases hc : r.o = xo
    · have hra : ra' = ra := by
        have := hu (r.o, .ref ra') List.mem_cons_self hc
        injection this
      subst hra
      have hdd : da' = da := by
        have e1 := (N _ f1).1; have e2 := (N _ h1).1
        rw [e1] at e2
        have e3 := Option.some.inj e2
        have e4 := congrArg Obj.dict e3
        simpa [instObj] using e4
      subst hdd
      have e5 := (N _ f2).1
      rw [hda] at e5
      obtain ⟨_, ea, ep, _⟩ := rowD_inj (Option.some.inj e5)
      have hr : RowAt w news' { r with r := q } ra' := ⟨da', t, rv, keepO _ h1 rowD_ne_inst, by simpa [hc, ← ea, ← ep] using hnew, hrem⟩
      have : RowsAt w news' ({ r with r := q } :: rs.map fun r => if r.o = xo then { r with r := q } else r) ((({ r with r := q } : R).o, .ref ra') :: _) := .cons hr ih
      simpa [List.map_cons, hc] using this
    · have hr : RowAt w news' r ra' := by
        refine ⟨da', t', rv', keepO _ f1 rowD_ne_inst, keepO _ f2 (fun e => hc (rowD_inj e).1), ?_⟩
        exact RemAt.off (h₀ := h₀) (h := h) (L := L) f3 (fun p hp vs hv => keepO p hp (by rw [hv]; exact rowD_ne_tup))
      have : RowsAt w news' (r :: rs.map fun r => if r.o = xo then { r with r := q } else r) ((r.o, .ref ra') :: _) := .cons hr ih
      simpa [List.map_cons, hc] using this
theorem raisedN_sub {base G : Heap} {l : List Env} {e : Addr} {cls : Value} {news news' : List (Addr × Obj)} {h : Heap} (R : RaisedSN base G l e cls news h) (hs : ∀ p ∈ news', p ∈ news) : RaisedSN base G l e cls news' h :=
  let ⟨B, a0, h1, h0, h2, h3⟩ := R; ⟨B, a0, h1, h0, fun q hq => h2 q (hs q hq), h3⟩
theorem news_sub {h₀ h : Heap} {L : Addr} {l l' : List (Addr × Obj)} (N : News h₀ L h l) (hs : ∀ p ∈ l', p ∈ l) : News h₀ L h l' := fun p hp => N p (hs p hp)
theorem allLt_mem {d : Addr} {l : List (Addr × Obj)} (h : AllLt d l) {p : Addr × Obj} (hp : p ∈ l) : @LT.lt Nat _ p.1 d := by
  induction l with
  | nil => cases hp
  | cons q l ih =>
    obtain ⟨h1, h2⟩ := h
    rcases List.mem_cons.mp hp with e | hp
    · rw [e]; exact h1
    · exact ih h2 hp
abbrev offA (rest : List (Addr × Obj)) (da : Addr) : List (Addr × Obj) := rest.filter fun p => decide (p.1 ≠ da)
theorem mem_offA {rest : List (Addr × Obj)} {da : Addr} {p : Addr × Obj} : p ∈ offA rest da ↔ p ∈ rest ∧ p.1 ≠ da := by simp [offA, List.mem_filter]
theorem conn_led {h₀ h : Heap} {L : Addr} {D rd da : Addr} {tp ro od : Obj} {rest : List (Addr × Obj)} (N : News h₀ L h ((D, tp) :: (rd, ro) :: rest)) (e2 : (da, od) ∈ rest) : News h₀ L h ((da, od) :: (D, tp) :: (rd, ro) :: offA rest da) :=
  news_sub N (by
    intro p hp
    rcases List.mem_cons.mp hp with e | hp
    · rw [e]; exact List.mem_cons_of_mem _ (List.mem_cons_of_mem _ e2)
    rcases List.mem_cons.mp hp with e | hp
    · rw [e]; exact List.mem_cons_self
    rcases List.mem_cons.mp hp with e | hp
    · rw [e]; exact List.mem_cons_of_mem _ List.mem_cons_self
    · exact List.mem_cons_of_mem _ (List.mem_cons_of_mem _ (mem_offA.mp hp).1))
theorem conn_fresh {D rd da : Addr} {tp ro od : Obj} {rest : List (Addr × Obj)} (l : rd < D ∧ AllLt D rest) (hr : ∀ p ∈ rest, p.1 ≠ rd) (e2 : (da, od) ∈ rest) : ∀ p ∈ ((D, tp) :: (rd, ro) :: offA rest da), p.1 ≠ da := by
  intro p hp
  rcases List.mem_cons.mp hp with e | hp
  · rw [e]; exact (Nat.ne_of_lt (allLt_mem l.2 e2)).symm
  rcases List.mem_cons.mp hp with e | hp
  · rw [e]; exact fun q => hr _ e2 q.symm
  · exact (mem_offA.mp hp).2
theorem isDict_uniq {prog : Program} {w : World} {o : Obj} {kvs : List (Int × Value)} (m4 : o.IsDictOf (intKind prog w) kvs) {k : Int} {v : Value} (hva : valueAt kvs k = some v) : ∀ kv ∈ kvs, kv.1 = k → kv.2 = v := by
  obtain ⟨_, _, _, _, _, _, hnd⟩ := m4
  rintro ⟨k', v'⟩ hm rfl
  have := valueAt_mem hnd hm
  rw [hva] at this
  exact (Option.some.inj this).symm
theorem keep_offA {w : World} {h₀ h : Heap} {L da : Addr} {rest : List (Addr × Obj)} {t : Nat → Tok} {o a q : Int} {rv : Value} (N : News h₀ L h rest) (e2 : (da, rowD w t o a q rv) ∈ rest) : ∀ p ∈ rest, (∀ t o a q rv, p.2 ≠ rowD w t o a q rv) → p ∈ offA rest da := by
  intro p hp hne
  refine mem_offA.mpr ⟨hp, fun e => ?_⟩
  have h1 := (N _ hp).1
  rw [e, (N _ e2).1] at h1
  exact hne _ _ _ _ _ (Option.some.inj h1).symm
end
section
open PySem PySem.W PySem.Calls PyProof.Rows PyProof.V PySem.Spec
theorem kclrD3 : True := by
  w_top off
  k_with_none
  trivial
def TRowAt (news : List (Addr × Obj)) (r : R) (ta : Addr) : Prop := ∃ t1 t2 rv, (ta, tupO [.int r.a t1, .int r.p t2, rv]) ∈ news ∧ RemAt news rv r.r
inductive TRowsAt (news : List (Addr × Obj)) : List R → List (Int × Value) → Prop
  | nil : TRowsAt news [] []
  | cons {r : R} {ta : Addr} {rs : List R} {kvs : List (Int × Value)} : TRowAt news r ta → TRowsAt news rs kvs → TRowsAt news (r :: rs) ((r.o, .ref ta) :: kvs)
theorem TRowsAt.get {news : List (Addr × Obj)} : ∀ {rs : List R} {kvs : List (Int × Value)}, TRowsAt news rs kvs → ∀ {i : Nat} {k : Int} {v : Value}, kvs[i]? = some (k, v) → ∃ r ta, rs[i]? = some r ∧ k = r.o ∧ v = .ref ta ∧ TRowAt news r ta
  | _, _, .nil, i, k, v, h => by simp at h
  | _, _, .cons h1 h2, 0, k, v, h => by
    simp only [List.getElem?_cons_zero, Option.some.injEq, Prod.mk.injEq] at h
    exact ⟨_, _, rfl, h.1.symm, h.2.symm, h1⟩
  | _, _, .cons h1 h2, i + 1, k, v, h => by
    simp only [List.getElem?_cons_succ] at h ⊢
    exact h2.get h
theorem TRowsAt.len {news : List (Addr × Obj)} : ∀ {rs : List R} {kvs : List (Int × Value)}, TRowsAt news rs kvs → rs.length = kvs.length
  | _, _, .nil => rfl
  | _, _, .cons _ h => by simp [h.len]
theorem TRowAt.mono {news news' : List (Addr × Obj)} {r : R} {ra : Addr} (x : TRowAt news r ra) (h : ∀ p ∈ news, p ∈ news') : TRowAt news' r ra :=
  let ⟨t, t', rv, e2, e3⟩ := x; ⟨t, t', rv, h _ e2, e3.mono h⟩
theorem TRowsAt.mono {news news' : List (Addr × Obj)} (h : ∀ p ∈ news, p ∈ news') : ∀ {rs : List R} {kvs : List (Int × Value)}, TRowsAt news rs kvs → TRowsAt news' rs kvs
  | _, _, .nil => .nil
  | _, _, .cons x y => .cons (x.mono h) (y.mono h)
open PySem.SeqAt in
theorem rem_notin {prog : Program} {w : World} {A : Around} {E : Value → Shared → Prop} {s : Shared} {h₀ : Heap} {L l tq : Addr} {news : List (Addr × Obj)} {Q : Value → Shared → Prop} {rv : Value} {r : Option (Int × Int)} {q1 q2 : Int} {t1 t2 : Tok} {n : Nat}
    (N : News h₀ L s.heap news) (hl : (l, W.listOf #[.none, .ref tq] n) ∈ news) (hq : (tq, tupO [.int q1 t1, .int q2 t2]) ∈ news) (h1 : RemAt news rv r) (hu : A.units + 65 < cLine)
    (h : Q (.bool (decide (r ≠ none ∧ r ≠ some (q1, q2)))) s) : wpAny (model prog w) A (compareOp .NotIn rv (.ref l)) Q E s := by
  have hqr : RemAt news (.ref tq) (some (q1, q2)) := ⟨_, _, _, rfl, hq⟩
  have R1 : Reads s.heap (.ref l) (.list [remD none, remD (some (q1, q2))]) _ := reads_list_at (N.get hl) rfl rfl (ReadsAll.cons Reads.none (ReadsAll.cons (hqr.reads N) ReadsAll.nil))
  refine notIn_list_reads R1 (h1.reads N) ?_ (canLay_of_shaped (remD_shaped r)) (room_in_shaped (remD_shaped r) hu) ?_
  · exact canLay_of_shaped (d := .list [remD none, remD (some (q1, q2))]) (by simp [remD, SeqAt.shaped, PyData.canLay0, PyData.canLayAll0, PyData.depth, PyData.depthAll])
  · have : (!([remD none, remD (some (q1, q2))].any fun y => PyData.eqv y (remD r))) = decide (r ≠ none ∧ r ≠ some (q1, q2)) := by
      simp only [List.any_cons, List.any_nil, remD_eqv, Bool.or_false]
      by_cases e1 : r = none
      · subst e1; simp
      · by_cases e2 : r = some (q1, q2)
        · subst e2; simp
        · have e1' : ¬ none = r := fun h => e1 h.symm
          have e2' : ¬ some (q1, q2) = r := fun h => e2 h.symm
          simp [e1, e2, e1', e2']
    rw [this]; exact h
section
variable {r : R} {tg tp : Int} {q : Int × Int}
theorem lf0 (h : r.p ≠ tp) : 0 = fitsV r tg tp q := by unfold fitsV; rw [if_pos (Or.inl h)]
theorem lf1 (h : ([0, tg].any fun x => x == r.a) = false) : 0 = fitsV r tg tp q := by
  unfold fitsV; rw [if_pos]; refine Or.inr ⟨fun e => ?_, fun e => ?_⟩ <;> simp [e] at h
theorem lf2 (h : r.r ≠ none ∧ r.r ≠ some q) : 0 = fitsV r tg tp q := by
  unfold fitsV; rw [if_pos h]; split <;> rfl
theorem lfe (h1 : r.p = tp) (h2 : ([0, tg].any fun x => x == r.a) = true) (h3 : ¬ (r.r ≠ none ∧ r.r ≠ some q)) : fitsV r tg tp q = (if r.a = 0 then 1 else 2) + (if r.r = none then 0 else 2) := by
  have h4 : r.a = 0 ∨ r.a = tg := by
    simp only [List.any_cons, List.any_nil, Bool.or_false, Bool.or_eq_true, beq_iff_eq] at h2
    exact h2.imp Eq.symm Eq.symm
  have c1 : ¬ (r.p ≠ tp ∨ (r.a ≠ 0 ∧ r.a ≠ tg)) := by
    rintro (h | ⟨h, h'⟩)
    · exact h h1
    · rcases h4 with h4 | h4 <;> contradiction
  unfold fitsV
  rw [if_neg c1, if_neg h3]
theorem lf3 (h1 : r.p = tp) (h2 : ([0, tg].any fun x => x == r.a) = true) (h3 : r.r = none) : ((1 + if (r.a != 0) = true then (1 : Int) else 0) + 2 * if false = true then (1 : Int) else 0) = fitsV r tg tp q := by
  rw [lfe h1 h2 (fun h => h.1 h3), if_pos h3]
  by_cases h5 : r.a = 0 <;> simp [h5]
theorem lf4 (h1 : r.p = tp) (h2 : ([0, tg].any fun x => x == r.a) = true) (h0 : r.r ≠ none) (h3 : ¬ (r.r ≠ none ∧ r.r ≠ some q)) : ((1 + if (r.a != 0) = true then (1 : Int) else 0) + 2 * if true = true then (1 : Int) else 0) = fitsV r tg tp q := by
  rw [lfe h1 h2 h3, if_neg h0]
  by_cases h5 : r.a = 0 <;> simp [h5]
end
end
section
open PySem PySem.W PySem.Calls PyProof.Rows PyProof.V PySem.Spec
theorem kclrD4 : True := by
  w_top off
  k_with_none
  trivial
theorem three_tup {h₀ h : Heap} {L a b c : Addr} {led : List (Addr × Obj)} {i : Nat} {v : Value} {p1 p2 p3 f1 f2 f3 : Int} {t1 t2 t3 s1 s2 s3 : Tok} (_N : News h₀ L h led) (hi : (#[Value.ref a, .ref b, .ref c] : Array Value)[i]? = some v)
    (ha : (a, tupO [.int p1 t1, .int f1 s1]) ∈ led) (hb : (b, tupO [.int p2 t2, .int f2 s2]) ∈ led) (hc : (c, tupO [.int p3 t3, .int f3 s3]) ∈ led) : ∃ T pp pt ff ft, v = .ref T ∧ (T, tupO [.int pp pt, .int ff ft]) ∈ led := by
  rcases i with _ | _ | _ | i
  · simp at hi; exact ⟨_, _, _, _, _, hi.symm, ha⟩
  · simp at hi; exact ⟨_, _, _, _, _, hi.symm, hb⟩
  · simp at hi; exact ⟨_, _, _, _, _, hi.symm, hc⟩
  · simp at hi
theorem RowsAt.at {w : World} {news : List (Addr × Obj)} : ∀ {rs : List R} {kvs : List (Int × Value)}, RowsAt w news rs kvs → ∀ {i : Nat} {r : R}, rs[i]? = some r → ∃ ra, kvs[i]? = some (r.o, .ref ra) ∧ RowAt w news r ra
  | _, _, .nil, i, r, h => by simp at h
  | _, _, .cons h1 h2, 0, r, h => by
    simp only [List.getElem?_cons_zero, Option.some.injEq] at h
    subst h
    exact ⟨_, rfl, h1⟩
  | _, _, .cons h1 h2, i + 1, r, h => by
    simp only [List.getElem?_cons_succ] at h ⊢
    exact h2.at h
theorem TRowsAt.at {news : List (Addr × Obj)} : ∀ {rs : List R} {kvs : List (Int × Value)}, TRowsAt news rs kvs → ∀ {i : Nat} {r : R}, rs[i]? = some r → ∃ ra, kvs[i]? = some (r.o, .ref ra) ∧ TRowAt news r ra
  | _, _, .nil, i, r, h => by simp at h
  | _, _, .cons h1 h2, 0, r, h => by
    simp only [List.getElem?_cons_zero, Option.some.injEq] at h
    subst h
    exact ⟨_, rfl, h1⟩
  | _, _, .cons h1 h2, i + 1, r, h => by
    simp only [List.getElem?_cons_succ] at h ⊢
    exact h2.at h
theorem isDict_at {prog : Program} {w : World} {o : Obj} {kvs : List (Int × Value)} (m4 : o.IsDictOf (intKind prog w) kvs) {i : Nat} {k : Int} {v : Value} (h : kvs[i]? = some (k, v)) : valueAt kvs k = some v := by
  obtain ⟨_, _, _, _, _, _, hnd⟩ := m4
  exact valueAt_of_get hnd h
section
variable {prog : Program} {w : World} {A : Around} {E : Value → Shared → Prop} {s : Shared} {env : Env} {h₀ : Heap} {body : List Stmt} {Q : Flow → Shared → Prop}
def BestJ (x e b d : Str) (m : Str → Option Value) (q : Int × Option Int) (m' : Str → Option Value) : Prop :=
  Off [x, e, b, d] m' m ∧ (∃ tb, m' b = some (.int q.1 tb)) ∧ (∃ fv, m' d = some fv ∧ OptInt fv q.2)
theorem BestJ.intro {x e b d : Str} {m : Str → Option Value} {q : Int × Option Int} {m' : Str → Option Value} (h : Off [x, e, b, d] m' m) {b0 : Int} {tb : Tok} {fv : Value} (h1 : m' b = some (.int b0 tb)) (hb : b0 = q.1) (h2 : m' d = some fv) (h3 : OptInt fv q.2) : BestJ x e b d m q m' :=
  ⟨h, ⟨tb, hb ▸ h1⟩, fv, h2, h3⟩
theorem iter_best {dd : Addr} {o : Obj} {kvs : List (Int × Value)} {m₀ : Str → Option Value} {news : List (Addr × Obj)} {rs : List R} (x e b d : Str) (f : R → Int) {tb0 : Tok}
    (hh : A.handled = none) (lo : (dd == sysModules) = false) (hd : (dd, o) ∈ news) (ho : o.IsDictOf (intKind prog w) kvs) (hlen : rs.length = kvs.length) (F : Fr h₀ env.locals s.heap m₀) (N : News h₀ env.locals s.heap news)
    (hb0 : m₀ b = some (.int 0 tb0)) (hd0 : m₀ d = some .none)
    (turn : ∀ i k v t (u : Str → Option Value) tb fv h tk led, (∀ p ∈ news, p ∈ led) → kvs[i]? = some (k, v) → OptInt fv (bestOf f (rs.take i)).2 →
      Fr h₀ env.locals h (fun y => if y = x then some (.int k t) else if y = x then u y else if y = e then u y else if y = b then some (.int (bestOf f (rs.take i)).1 tb) else if y = d then some fv else m₀ y) → News h₀ env.locals h led →
      wpAny (model prog w) A (execs body env) (TurnPost h₀ env.locals (BestJ x e b d m₀ (bestOf f (rs.take (i + 1)))) led { s with heap := h, toks := tk } Q) E { s with heap := h, toks := tk })
    (done : ∀ (u : Str → Option Value) tb fv h tk, OptInt fv (bestOf f rs).2 →
      Fr h₀ env.locals h (fun y => if y = x then u y else if y = e then u y else if y = b then some (.int (bestOf f rs).1 tb) else if y = d then some fv else m₀ y) → News h₀ env.locals h news → Q .next { s with heap := h, toks := tk }) :
    wpAny (model prog w) A (pyIter (.ref dd)) (fun it s₂ => LoopAtV prog w A h₀ env x body Q E it s₂) E s := by
  refine iter_dictK (knd := intKind prog w) (kvs := kvs) (o := o) (fun i m' => BestJ x e b d m₀ (bestOf f (rs.take i)) m') hh lo hd ho F N ⟨Off.rfl, ⟨_, hb0⟩, _, hd0, rfl⟩ ?_ ?_
  · rintro i k v key m₁ h2 tk own hx hkey ⟨hoff, ⟨tb, hm1⟩, ⟨fv, hm2, hfv⟩⟩ F3 N3
    obtain ⟨u, rfl⟩ := hoff.map4 hm1 hm2
    obtain ⟨t3, rfl⟩ := Value.isInt_shape hkey
    exact turn i k v t3 u tb fv h2 tk (own ++ news) (fun p hp => List.mem_append_right _ hp) hx hfv F3 N3
  · rintro m₁ h2 tk ⟨hoff, ⟨tb, hm1⟩, ⟨fv, hm2, hfv⟩⟩ F3 N3
    obtain ⟨u, rfl⟩ := hoff.map4 hm1 hm2
    rw [← hlen, List.take_length] at hfv F3
    exact done u tb fv h2 tk hfv F3 N3
theorem iter_intsK {dd : Addr} {o : Obj} {kvs : List (Int × Value)} {m₀ : Str → Option Value} {news : List (Addr × Obj)} {x : Str} (J : Nat → (Str → Option Value) → Prop)
    (hh : A.handled = none) (lo : (dd == sysModules) = false) (hd : (dd, o) ∈ news) (ho : o.IsDictOf (intKind prog w) kvs) (F : Fr h₀ env.locals s.heap m₀) (N : News h₀ env.locals s.heap news) (hj : J 0 m₀)
    (turn : ∀ i k v t m₁ h tk led, (∀ p ∈ news, p ∈ led) → kvs[i]? = some (k, v) → J i m₁ → Fr h₀ env.locals h (fun y => if y = x then some (.int k t) else m₁ y) → News h₀ env.locals h led →
      wpAny (model prog w) A (execs body env) (TurnPost h₀ env.locals (J (i + 1)) led { s with heap := h, toks := tk } Q) E { s with heap := h, toks := tk })
    (done : ∀ m₁ h tk, J kvs.length m₁ → Fr h₀ env.locals h m₁ → News h₀ env.locals h news → Q .next { s with heap := h, toks := tk }) :
    wpAny (model prog w) A (pyIter (.ref dd)) (fun it s₂ => LoopAtV prog w A h₀ env x body Q E it s₂) E s := by
  refine iter_dictK (knd := intKind prog w) (kvs := kvs) (o := o) J hh lo hd ho F N hj ?_ done
  intro i k v key m₁ h2 tk own hx hkey hJ F3 N3
  obtain ⟨t3, rfl⟩ := Value.isInt_shape hkey
  exact turn i k v t3 m₁ h2 tk (own ++ news) (fun p hp => List.mem_append_right _ hp) hx hJ F3 N3
end
end
section
open PySem PySem.W PySem.Calls PyProof.Rows PyProof.V PySem.Spec
theorem kclrD5 : True := by
  w_top off
  k_with_none
  trivial
theorem updF_rest {d : Addr} {o : Obj} {news : List (Addr × Obj)} {g : Obj → List (Addr × Obj)} (U : UpdF d o news g) : ∃ rest, (∀ p ∈ rest, p.1 ≠ d) ∧ (∀ p, p ∈ news ↔ p ∈ (d, o) :: rest) ∧ (∀ o' p, p ∈ g o' ↔ p ∈ (d, o') :: rest) := by
  obtain ⟨pre, post, rfl, hg, a, b⟩ := U.split
  refine ⟨pre ++ post, ?_, ?_, ?_⟩
  · intro p hp
    rcases List.mem_append.mp hp with h | h
    · exact a p h
    · exact b p h
  · intro p; simp only [List.mem_append, List.mem_cons]; constructor
    · rintro (h | h | h)
      · exact .inr (.inl h)
      · exact .inl h
      · exact .inr (.inr h)
    · rintro (h | h | h)
      · exact .inr (.inl h)
      · exact .inl h
      · exact .inr (.inr h)
  · intro o' p; rw [hg]; simp only [List.mem_append, List.mem_cons]; constructor
    · rintro (h | h | h)
      · exact .inr (.inl h)
      · exact .inl h
      · exact .inr (.inr h)
    · rintro (h | h | h)
      · exact .inr (.inl h)
      · exact .inl h
      · exact .inr (.inr h)
theorem mem_rest {d : Addr} {o : Obj} {rest news : List (Addr × Obj)} (h : ∀ p, p ∈ news ↔ p ∈ (d, o) :: rest) {p : Addr × Obj} (hp : p ∈ news) (hne : p.1 ≠ d) : p ∈ rest := by
  rcases List.mem_cons.mp ((h p).mp hp) with e | hp
  · exact absurd (by rw [e]) hne
  · exact hp
end
section
open PySem PySem.W PySem.Calls PyProof.Rows PyProof.V PySem.Spec
theorem kclrD6 : True := by
  w_top off
  k_with_none
  trivial
theorem RowsAt.some_of {w : World} {news : List (Addr × Obj)} {rs : List R} {kvs : List (Int × Value)} (m : RowsAt w news rs kvs) {r : R} (h : r ∈ rs) : ∃ v, valueAt kvs r.o = some v := by
  induction m with
  | nil => cases h
  | @cons r' ra rs kvs x y ih =>
    by_cases e : r'.o = r.o
    · exact ⟨.ref ra, by simp [valueAt, e]⟩
    · rcases List.mem_cons.mp h with q | h
      · exact absurd (by rw [q]) e
      · obtain ⟨v, hv⟩ := ih h
        refine ⟨v, ?_⟩
        rw [← hv]
        simp [valueAt, e]
theorem RowsAt.keys {w : World} {news : List (Addr × Obj)} {rs : List R} {kvs : List (Int × Value)} (m : RowsAt w news rs kvs) : kvs.map (·.1) = rs.map (·.o) := by
  induction m with
  | nil => rfl
  | cons _ _ ih => simp [ih]
theorem nodup_uniq {rs : List R} (h : (rs.map (·.o)).Nodup) {r r' : R} (h1 : r ∈ rs) (h2 : r' ∈ rs) (e : r.o = r'.o) : r = r' := by
  induction rs with
  | nil => cases h1
  | cons x rs ih =>
    rw [List.map_cons, List.nodup_cons] at h
    rcases List.mem_cons.mp h1 with a | a <;> rcases List.mem_cons.mp h2 with b | b
    · rw [a, b]
    · exact absurd (List.mem_map.mpr ⟨r', b, by rw [← e, a]⟩) h.1
    · exact absurd (List.mem_map.mpr ⟨r, a, by rw [e, b]⟩) h.1
    · exact ih h.2 a b
theorem RowsAt.uniq {prog : Program} {w : World} {news : List (Addr × Obj)} {rs : List R} {kvs : List (Int × Value)} {o : Obj} (m : RowsAt w news rs kvs) (m4 : o.IsDictOf (intKind prog w) kvs) {r r' : R} (h1 : r ∈ rs) (h2 : r' ∈ rs) (e : r.o = r'.o) : r = r' := by
  obtain ⟨_, _, _, _, _, _, hnd⟩ := m4
  rw [m.keys] at hnd
  exact nodup_uniq hnd h1 h2 e
def CHid (h : Heap) (c P : Addr) : Prop := CodeHd h c P
theorem CHid.keep {h g : Heap} {c P : Addr} {A : Around} {outer : List Env} (x : CHid h c P) (B : Below A h outer g) : CodeHd g c P := CodeHd.keeps x B.stays
theorem wp_id {M : Model} {A : Around} {α : Type} {m : Sem α} {Q : α → Shared → Prop} {E : Value → Shared → Prop} {s : Shared} (h : wpAny M A m Q E s) : wpAny M A m Q E s := h
theorem codeAmong_snoc2 {pos pos' : Pos} {c : Value} (l : List Value) (h : TriplesOk l) :
    codeAmong pos' (l ++ [rawInt pos.line, rawInt pos.col, c]) = match codeAmong pos' l with | some v => some v | none => if ((pos.line : Int) == pos'.line && (pos.col : Int) == pos'.col) = true then some c else none := by
  fun_induction TriplesOk l with
  | case1 => simp [codeAmong, rawInt]
  | case2 a t b u x rest ih =>
    simp only [List.cons_append, codeAmong]
    split
    · rfl
    · exact ih h
  | case3 l h1 h2 => exact h.elim
def TabInv (qual : Str) (ps : Array Value) (led : List (Addr × Obj)) : Prop :=
  TriplesOk ps.toList ∧ ∀ pos : Pos, codeAmong pos ps.toList = none ∨ ∃ c' oc vs t, codeAmong pos ps.toList = some (.ref c') ∧ (c', oc) ∈ led ∧ oc.data = .fields vs ∧ vs[1]? = some (.str qual t)
theorem TabInv.nil {qual : Str} {led : List (Addr × Obj)} : TabInv qual #[] led := ⟨trivial, fun _ => .inl rfl⟩
theorem TabInv.mono {qual : Str} {ps : Array Value} {led led' : List (Addr × Obj)} (I : TabInv qual ps led) (h : ∀ p ∈ led, p ∈ led') : TabInv qual ps led' :=
  ⟨I.1, fun pos => (I.2 pos).imp id fun ⟨c', oc, vs, t, a, b, c, d⟩ => ⟨c', oc, vs, t, a, h _ b, c, d⟩⟩
section
variable {M : Model} {A : Around} {E : Value → Shared → Prop} {s : Shared} {h₀ : Heap} {L a c P : Addr} {m mg mb : Str → Option Value} {cn : Str} {cs : Scope} {ccd : Value} {cl : List (Str × Addr)} {news : List (Addr × Obj)} {g : Obj → List (Addr × Obj)}
  {p : Program} {loose : List Str} {mean : ExcName → Option Value} {name qual : Str} {params : Arguments} {body : Expr} {scope : Scope} {ps : Array Value} {pos : Pos} {firstLine : Nat} {clos : List (Str × Addr)}
theorem lam_any {Q : Value → Shared → Prop} {R0 : List (Addr × Obj)} (F : Fr h₀ L s.heap m) (N : News h₀ L s.heap news) (T : Top p loose mean mg mb h₀) (C : CodeHd h₀ c P) (hcd : ccd = .ref c) (U : UpdF P (tabObj ps) news g) (I : TabInv qual ps R0)
    (hcl : closureFor scope (envX cn cs L a ccd cl) = pure clos)
    (h : ∀ f c' oc vs t ctv h' tk tl ps', Fr h₀ L h' m → News h₀ L h' ((f, kla_obj name qual params body scope clos ((mg "__name__").getD .none) c' ctv) :: (tl ++ g (tabObj ps'))) →
      (c', oc) ∈ tl ++ R0 → oc.data = .fields vs → vs[1]? = some (.str qual t) → TabInv qual ps' (tl ++ R0) → (∀ q ∈ news, q.1 < f) → (∀ r ∈ tl, ∀ q ∈ news, q.1 < r.1) → Q (.ref f) { s with heap := h', toks := tk }) :
    wpAny M A (makeFunction name qual params (.expr body) scope (envX cn cs L a ccd cl) [] [] [] pos firstLine) Q E s := by
  rcases I.2 pos with hn | ⟨c', oc, vs, t, hc, hm, hd, hv⟩
  · refine kla_nest F N T C hcd U I.1 hn hcl fun f c' oc vs t ctv h' tk F' N' d1 d2 l1 l2 => ?_
    refine h f c' oc vs t ctv h' tk [(c', oc)] (ps ++ #[rawInt pos.line, rawInt pos.col, .ref c']) F' N' (List.mem_cons_self) d1 d2 ⟨?_, fun pos' => ?_⟩ (fun q hq => Nat.lt_trans (l1 q hq) l2) (fun r hr q hq => by rw [List.mem_singleton.mp hr]; exact l1 q hq)
    · have := TriplesOk_snoc pos.line pos.col (.ref c') ps.toList I.1
      simpa using this
    · have e := codeAmong_snoc2 (pos := pos) (pos' := pos') (c := .ref c') ps.toList I.1
      have e0 : (ps ++ #[rawInt pos.line, rawInt pos.col, .ref c']).toList = ps.toList ++ [rawInt pos.line, rawInt pos.col, .ref c'] := by simp
      have e' := e
      rw [← e0] at e'
      rcases I.2 pos' with hn' | ⟨c2, oc2, vs2, t2, hc2, hm2, hd2, hv2⟩
      · rw [hn'] at e'
        dsimp only at e'
        split at e'
        · exact .inr ⟨c', oc, vs, t, e', List.mem_cons_self, d1, d2⟩
        · exact .inl e'
      · rw [hc2] at e'
        exact .inr ⟨c2, oc2, vs2, t2, e', List.mem_append_right _ hm2, hd2, hv2⟩
  · obtain ⟨rest, u1, u2, u3⟩ := updF_rest U
    have hmem : (P, tabObj ps) ∈ news := (u2 _).mpr List.mem_cons_self
    refine kla_hit F N T C hcd hmem I.1 hc hcl fun f ctv h' tk F' N' l1 => ?_
    refine h f c' oc vs t ctv h' tk [] ps F' ?_ hm hd hv (I.mono fun p hp => hp) l1 (fun r hr => by cases hr)
    refine news_sub N' (fun p hp => ?_)
    rcases List.mem_cons.mp hp with e | hp
    · rw [e]; exact List.mem_cons_self
    · exact List.mem_cons_of_mem _ ((u2 p).mpr ((u3 _ p).mp hp))
end
end
section
open PySem PySem.W PySem.Calls PyProof.Rows PyProof.V PySem.Spec
theorem kclrD7 : True := by
  w_top off
  k_with_none
  trivial
theorem hI2 {a b : Int} {ta tb : Tok} : ∀ v ∈ [Value.int a ta, .int b tb], ∃ k t, v = .int k t := by
  intro v hv
  simp only [List.mem_cons, List.not_mem_nil, or_false] at hv
  rcases hv with rfl | rfl <;> exact ⟨_, _, rfl⟩
theorem hI3 {a b c : Int} {ta tb tc : Tok} : ∀ v ∈ [Value.int a ta, .int b tb, .int c tc], ∃ k t, v = .int k t := by
  intro v hv
  simp only [List.mem_cons, List.not_mem_nil, or_false] at hv
  rcases hv with rfl | rfl | rfl <;> exact ⟨_, _, rfl⟩
open PyProof.Rows.LCg PyProof.Rows.LCt
section
variable {prog : Program} {w : World} {A : Around} {E : Value → Shared → Prop} {s : Shared} {h₀ : Heap} {L : Addr} {m : Str → Option Value} {env : Env}
theorem CompEnd.imp {s₁ : Shared} {I C D : Addr} {oI oC oD : Obj} {S : List (Addr × Obj) → Prop} {r r' : Value → List (Addr × Obj) → Prop} {y : Value} {s₂ : Shared} (x : CompEnd h₀ L m s₁ I oI C oC D oD S r y s₂) (h : ∀ nw, r y nw → r' y nw) :
    CompEnd h₀ L m s₁ I oI C oC D oD S r' y s₂ :=
  let ⟨h', tk, nw, a, b, c, d, e, f⟩ := x; ⟨h', tk, nw, a, b, c, d, e, h nw f⟩
theorem compT_ind {ct elt : PySem.Expr} {x : Str} {scope : Scope} {cl : List (Str × Addr)} {S : List (Addr × Obj) → Prop} {P : Nat → Value → Prop} {Fin : List Value → List (Addr × Obj) → Prop} {news : List (Addr × Obj)} {n : Nat} (J : Nat → List Value → Prop)
    (turn : ∀ i ys v I oI C oC D m₂ h tk (E' : Value → Shared → Prop), i < n → J i ys → P i v → NsObj oC m₂ → m₂ x = some v → Fr h₀ L h m → News h₀ L h ((I, oI) :: (C, oC) :: (D, lst ys) :: news) → Off3 I C D news → ((@Ne Nat I C) ∧ (@Ne Nat I D) ∧ (@Ne Nat C D)) →
      wpAny (model prog w) A (isTrue ct (compEnvC scope cl C env) (eval ct (compEnvC scope cl C env))) (fun ok s' => if ok = true then
        wpAny (model prog w) A (eval elt (compEnvC scope cl C env)) (CompEnd h₀ L m { s with heap := h, toks := tk } I oI C oC D (lst ys) S (fun y nw => nw = news ∧ J (i + 1) (ys ++ [y]))) E' s'
        else CompEnd h₀ L m { s with heap := h, toks := tk } I oI C oC D (lst ys) S (fun _ nw => nw = news ∧ J (i + 1) ys) Value.none s') E' { s with heap := h, toks := tk })
    (fin : ∀ ys, J n ys → Fin ys news) : ∀ k i ys, i + k = n → J i ys → CompRestT prog w A h₀ L m env ct elt x scope cl s S P Fin k i ys news := by
  intro k
  induction k with
  | zero => intro i ys hn hJ; exact fin ys (by rw [← hn]; exact hJ)
  | succ k ih =>
    intro i ys hn hJ v I oI C oC D m₂ h tk E' hP hC hx F N off ne
    refine wpAny_mono (turn i ys v I oI C oC D m₂ h tk E' (by omega) hJ hP hC hx F N off ne) (fun ok s' hs => ?_) fun _ _ e => e
    cases ok with
    | true =>
      simp only [if_true] at hs ⊢
      exact wpAny_mono hs (fun y s'' hc => CompEnd.imp hc fun nw ⟨e, hj⟩ => e ▸ ih (i + 1) _ (by omega) hj) fun _ _ e => e
    | false =>
      simp only [Bool.false_eq_true, if_false] at hs ⊢
      exact CompEnd.imp hs fun nw ⟨e, hj⟩ => e ▸ ih (i + 1) _ (by omega) hj
theorem compU_ind {elt : PySem.Expr} {x : Str} {scope : Scope} {cl : List (Str × Addr)} {S : List (Addr × Obj) → Prop} {P : Nat → Value → Prop} {Fin : List Value → List (Addr × Obj) → Prop} {n : Nat} (J : Nat → List Value → List (Addr × Obj) → Prop)
    (turn : ∀ i ys news v I oI C oC D m₂ h tk (E' : Value → Shared → Prop), i < n → J i ys news → P i v → NsObj oC m₂ → m₂ x = some v → Fr h₀ L h m → News h₀ L h ((I, oI) :: (C, oC) :: (D, lst ys) :: news) → Off3 I C D news → ((@Ne Nat I C) ∧ (@Ne Nat I D) ∧ (@Ne Nat C D)) →
      wpAny (model prog w) A (eval elt (compEnvC scope cl C env)) (CompEnd h₀ L m { s with heap := h, toks := tk } I oI C oC D (lst ys) S (fun y nw => J (i + 1) (ys ++ [y]) nw)) E' { s with heap := h, toks := tk })
    (fin : ∀ ys news, J n ys news → Fin ys news) : ∀ k i ys news, i + k = n → J i ys news → CompRest prog w A h₀ L m env elt x scope cl s S P Fin k i ys news := by
  intro k
  induction k with
  | zero => intro i ys news hn hJ; exact fin ys news (by rw [← hn]; exact hJ)
  | succ k ih =>
    intro i ys news hn hJ v I oI C oC D m₂ h tk E' hP hC hx F N off ne
    exact wpAny_mono (turn i ys news v I oI C oC D m₂ h tk E' (by omega) hJ hP hC hx F N off ne) (fun y s'' hc => CompEnd.imp hc fun nw hj => ih (i + 1) _ _ (by omega) hj) fun _ _ e => e

def SrcD {prog : Program} {w : World} {K : Type} [DecidableEq K] (knd : KeyKind prog w K) (A : Around) (h₀ : Heap) (L : Addr) (m : Str → Option Value) (env : Env) (ct elt : PySem.Expr) (x : Str) (scope : Scope) (cl : List (Str × Addr)) (Fin : Shared → List Value → List (Addr × Obj) → Prop) (xv : Value) (s₁ : Shared) : Prop :=
  ∃ d o kvs news, xv = .ref d ∧ A.handled = none ∧ Fr h₀ L s₁.heap m ∧ News h₀ L s₁.heap news ∧ (d, o) ∈ news ∧ o.IsDictOf knd kvs ∧ (d == sysModules) = false ∧ kvs.length ≤ sizeLine ∧
    ∀ g, CompRestT prog w A h₀ L m env ct elt x scope cl { s₁ with heap := g } (fun nw => (d, o) ∈ nw) (fun i v => ∃ k x, kvs[i]? = some (k, x) ∧ knd.is k v = true) (Fin { s₁ with heap := g }) kvs.length 0 [] news
theorem ListComp_D {K : Type} [DecidableEq K] (knd : KeyKind prog w K) {ct elt iter : PySem.Expr} {x : Str} {px : Pos} {scope : Scope} {cl : List (Str × Addr)} {pos : Pos} {Q : Value → Shared → Prop} (_F₀ : Fr h₀ L s.heap m)
    (hclos : closureFor scope env = pure cl) (hcell : ∀ y ∈ scope.names, y.2 ≠ .cell) (hkind : scope.kind = .function)
    (hnames : ∀ y ∈ scope.names, y.2 = .local → scope.names.lookup y.1 = some .local) (hx : scope.names.lookup x = some .local)
    (h : wpAny (model prog w) A (eval iter env) (SrcD knd A h₀ L m env ct elt x scope cl (fun s₂ => FinE h₀ L m s₂ Q)) E s)
    (hs : ∀ x, foldedSetIterable iter env x = pure x := by intro _; rfl) :
    wpAny (model prog w) A (eval (.ListComp elt [⟨.Name x px, iter, [ct], 0⟩] scope pos) env) Q E s := by
  rw [eval_ListComp]
  refine wpAny_comprehension_free (use := none) rfl hs hclos hkind hnames (wpAny_mono h (fun xv s₁ h₁ => ?_) fun _ _ e => e)
  obtain ⟨d, o, kvs, news, rfl, hh, F, N, hd, ho, lo, hsz, R⟩ := h₁
  have hdo := N (d, o) hd
  have hD : s₁.heap.DictOf knd d kvs := Heap.dictOf_iff.mpr ⟨o, hdo.1, ho⟩
  obtain ⟨ep, hat⟩ := hD.dictAt
  have hlt : d < s₁.heap.objs.size := Heap.lt_size hdo.1
  have hne : d ≠ s₁.heap.objs.size := Nat.ne_of_lt hlt
  refine wpAny_pyIter_dict lo hat ?_
  have up : ∀ b o, s₁.heap.get? b = some o → (s₁.heap.push { cls := .type "dict_keyiterator", data := .fields #[.ref d, .int 0 0, .int kvs.length 0, .int ep 0] }).get? b = some o := fun b o e => Heap.get?_push_of_some _ e
  refine block_T (Walks.dictKeys (prog := prog) (w := w) (knd := knd) hh s₁.heap.objs.size d hne kvs ep) hsz (fun i h st => by obtain ⟨o, e, _⟩ := st.1; exact ⟨o, e⟩) ?_ hcell hkind hx ⟨⟨_, Heap.get?_push_size _ rfl, rfl, rfl⟩, hat.push _⟩ (fun b hb => ?_)
      (F.push _) (N.grown fun _ _ e => Heap.get?_push_of_some _ e) (Nat.ne_of_lt F.ns.lt) (next_is_new F) (fun p hp => Nat.ne_of_lt (Heap.lt_size (N p hp).1)) hd (R _) ?_
  · intro i h h' oI nw st e e' k N' hm
    refine ⟨by obtain ⟨o', q, r⟩ := st.1; rw [e] at q; cases q; exact ⟨oI, e', r⟩, ?_⟩
    obtain ⟨o', es, e1, r⟩ := st.2
    obtain ⟨o2, es2, e2, r2⟩ := hat
    rw [hdo.1] at e2; cases e2
    exact ⟨o, es2, (N' _ hm).1, r2⟩
  · show b < (s₁.heap.push _).objs.size
    rw [Heap.size_push]
    rcases List.mem_cons.mp hb with rfl | hb
    · exact Nat.lt_succ_self _
    · rw [List.mem_singleton.mp hb]; exact Nat.lt_succ_of_lt hlt
  · intro D C h tk m' ys news' F' N' o1 hn hC₀ hD₀ hCL hDL hCD offC fin
    refine ⟨m', hn, fun h'' hs'' => fin D h'' tk (F'.change hs'' hCL hC₀) (fun p hp => ?_) o1⟩
    refine ⟨hs''.extBut _ _ ?_ (N' p hp).1, (N' p hp).2⟩
    rcases List.mem_cons.mp hp with rfl | hp
    · exact Ne.symm hCD
    · exact offC p hp
theorem SrcD.intro {K : Type} [DecidableEq K] {knd : KeyKind prog w K} {ct elt : PySem.Expr} {x : Str} {scope : Scope} {cl : List (Str × Addr)} {Fin : Shared → List Value → List (Addr × Obj) → Prop} {d : Addr} {o : Obj} {kvs : List (K × Value)} {news : List (Addr × Obj)} {s₁ : Shared} (J : Nat → List Value → Prop)
    (hh : A.handled = none) (F : Fr h₀ L s₁.heap m) (N : News h₀ L s₁.heap news) (hd : (d, o) ∈ news) (ho : o.IsDictOf knd kvs) (lo : (d == sysModules) = false) (hsz : kvs.length ≤ sizeLine) (hj : J 0 [])
    (turn : ∀ g i ys k v key I oI C oC D m₂ h tk (E' : Value → Shared → Prop), J i ys → kvs[i]? = some (k, v) → knd.is k key = true → NsObj oC m₂ → m₂ x = some key → Fr h₀ L h m → News h₀ L h ((I, oI) :: (C, oC) :: (D, lst ys) :: news) → Off3 I C D news → ((@Ne Nat I C) ∧ (@Ne Nat I D) ∧ (@Ne Nat C D)) →
      wpAny (model prog w) A (isTrue ct (compEnvC scope cl C env) (eval ct (compEnvC scope cl C env))) (fun ok s' => if ok = true then
        wpAny (model prog w) A (eval elt (compEnvC scope cl C env)) (CompEnd h₀ L m { { s₁ with heap := g } with heap := h, toks := tk } I oI C oC D (lst ys) (fun nw => (d, o) ∈ nw) (fun y nw => nw = news ∧ J (i + 1) (ys ++ [y]))) E' s'
        else CompEnd h₀ L m { { s₁ with heap := g } with heap := h, toks := tk } I oI C oC D (lst ys) (fun nw => (d, o) ∈ nw) (fun _ nw => nw = news ∧ J (i + 1) ys) Value.none s') E' { { s₁ with heap := g } with heap := h, toks := tk })
    (fin : ∀ g ys, J kvs.length ys → Fin { s₁ with heap := g } ys news) : SrcD knd A h₀ L m env ct elt x scope cl Fin (.ref d) s₁ :=
  ⟨d, o, kvs, news, rfl, hh, F, N, hd, ho, lo, hsz, fun g => compT_ind J (fun i ys v I oI C oC D m₂ h tk E' _ hJ ⟨k, x, e1, e2⟩ => turn g i ys k x v I oI C oC D m₂ h tk E' hJ e1 e2) (fin g) _ 0 [] (by simp) hj⟩
theorem cend {s₁ : Shared} {I C D : Addr} {oI oC oD : Obj} {S : List (Addr × Obj) → Prop} {r : Prop} {y : Value} {h' : Heap} {tk : Nat} {all news : List (Addr × Obj)}
    (F : Fr h₀ L h' m) (N : News h₀ L h' all) (sub : ∀ p ∈ (I, oI) :: (C, oC) :: (D, oD) :: news, p ∈ all) (off : Off3 I C D news) (hS : S news) (hr : r) :
    CompEnd h₀ L m s₁ I oI C oC D oD S (fun _ nw => nw = news ∧ r) y { s₁ with heap := h', toks := tk } := ⟨h', tk, news, rfl, F, fun p hp => N p (sub p hp), off, hS, rfl, hr⟩
end
def rowData (r : R) : PyData := .tuple [.int r.a, .int r.p, remD r.r]
theorem rowData_shaped (r : R) : SeqAt.shaped (rowData r) = true := by
  rcases r with ⟨o, a, p, _ | ⟨x, y⟩⟩ <;> simp [rowData, remD, SeqAt.shaped, PyData.canLay0, PyData.canLayAll0, PyData.depth, PyData.depthAll]
theorem rowData_eqv (r q : R) : PyData.eqv (rowData r) (rowData q) = decide (r.a = q.a ∧ r.p = q.p ∧ r.r = q.r) := by
  simp only [rowData, PyData.eqv, PyData.eqvAll, remD_eqv]
  rw [Bool.eq_iff_iff]; simp
theorem TRowAt.reads {h₀ h : Heap} {L : Addr} {news : List (Addr × Obj)} {ta : Addr} {r : R} (x : TRowAt news r ta) (N : News h₀ L h news) : Reads h (.ref ta) (rowData r) [] := by
  obtain ⟨t1, t2, rv, hm, hr⟩ := x
  exact reads_tuple_at (N.get hm) rfl rfl (ReadsAll.cons (Reads.int _ _) (ReadsAll.cons (Reads.int _ _) (ReadsAll.cons (hr.reads N) ReadsAll.nil)))
theorem trow_eq {prog : Program} {w : World} {A : Around} {E : Value → Shared → Prop} {s : Shared} {h₀ : Heap} {L ta tb : Addr} {news : List (Addr × Obj)} {Q : Value → Shared → Prop} {r q : R}
    (N : News h₀ L s.heap news) (h1 : TRowAt news r ta) (h2 : TRowAt news q tb) (hu : A.units + 64 < cLine) (h : Q (.bool (decide (r.a = q.a ∧ r.p = q.p ∧ r.r = q.r))) s) : wpAny (model prog w) A (compareOp .Eq (.ref ta) (.ref tb)) Q E s :=
  eq_dataH (h1.reads N) (h2.reads N) (rowData_shaped r) (rowData_shaped q) hu (by rw [rowData_eqv]; exact h)
theorem readsAll_ints {h : Heap} : ∀ (ys : List (Int × Tok)), ReadsAll h (ys.map fun p => Value.int p.1 p.2) (ys.map fun p => PyData.int p.1) []
  | [] => .nil
  | p :: r => .cons (Reads.int _ _) (readsAll_ints r)
theorem shaped_ints : ∀ (ys : List Int), SeqAt.shaped (.list (ys.map PyData.int)) = true := by
  intro ys
  have h1 : PyData.canLayAll0 (ys.map PyData.int) = true := by
    induction ys with
    | nil => rfl
    | cons y ys ih => simp [PyData.canLayAll0, PyData.canLay0, ih]
  have h2 : PyData.depthAll (ys.map PyData.int) ≤ 1 := by
    clear h1
    induction ys with
    | nil => simp [PyData.depthAll]
    | cons y ys ih => simp only [List.map_cons, PyData.depthAll, PyData.depth]; omega
  have h3 : PyData.depth (.list (ys.map PyData.int)) ≤ 64 := by simp only [PyData.depth]; omega
  simp only [SeqAt.shaped, PyData.canLay0, h1, Bool.true_and, decide_eq_true_eq]
  exact h3
theorem ints_of {ys : List Value} (h : ∀ v ∈ ys, ∃ k t, v = Value.int k t) : ∃ zs : List (Int × Tok), ys = zs.map fun p => Value.int p.1 p.2 := by
  induction ys with
  | nil => exact ⟨[], rfl⟩
  | cons y ys ih =>
    obtain ⟨k, t, rfl⟩ := h y List.mem_cons_self
    obtain ⟨zs, rfl⟩ := ih fun v hv => h v (List.mem_cons_of_mem _ hv)
    exact ⟨(k, t) :: zs, rfl⟩
theorem lst_ne_nil {prog : Program} {w : World} {A : Around} {E : Value → Shared → Prop} {s : Shared} {h₀ : Heap} {L D e : Addr} {n : Nat} {news : List (Addr × Obj)} {Q : Value → Shared → Prop} {ys : List Value}
    (N : News h₀ L s.heap news) (h1 : (D, LCg.lst ys) ∈ news) (h2 : (e, W.listOf #[] n) ∈ news) (hi : ∀ v ∈ ys, ∃ k t, v = Value.int k t) (hu : A.units + 64 < cLine) (h : Q (.bool (decide (ys ≠ []))) s) : wpAny (model prog w) A (compareOp .NotEq (.ref D) (.ref e)) Q E s := by
  obtain ⟨zs, rfl⟩ := ints_of hi
  have R1 : Reads s.heap (.ref D) (.list (zs.map fun p => PyData.int p.1)) _ := reads_list_at (N.get h1) rfl rfl (by simpa using readsAll_ints zs)
  have R2 : Reads s.heap (.ref e) (.list []) _ := reads_list_at (N.get h2) rfl rfl ReadsAll.nil
  have e1 : (zs.map fun p => PyData.int p.1) = (zs.map (·.1)).map PyData.int := by simp
  refine ne_dataH R1 R2 (by rw [e1]; exact shaped_ints _) (by decide) hu ?_
  have e2 : (!PyData.eqv (.list (zs.map fun p => PyData.int p.1)) (.list [])) = decide ((zs.map fun p => Value.int p.1 p.2) ≠ []) := by
    cases zs with
    | nil => simp [PyData.eqv, PyData.eqvAll]
    | cons z zs => simp [PyData.eqv, PyData.eqvAll]
  rw [e2]; exact h
end
section
open PySem PySem.W PySem.Calls PyProof.Rows PyProof.V PySem.Spec
theorem kclrD8 : True := by
  w_top off
  k_with_none
  trivial
section
variable {prog : Program} {w : World} {A₀ A : Around} {s : Shared} {base h₀ g₀ : Heap} {outer : List Env} {env : Env} {L : Addr} {m : Str → Option Value} {news : List (Addr × Obj)} {K : Frag} {p : Program} {loose : List Str} {mean : ExcName → Option Value} {mg mb : Str → Option Value}
    {R : Result → Shared → Prop} {name qual : Str} {params : Arguments} {body : List Stmt} {scope : Scope} {dV kV doc pm cdv ct oc : Value} {an od : Option Addr} {osl : Array (Option Value)} {f : Addr} {args : Args} {binds : List (Str × Value)}
theorem kts_memX {b : Addr} (hf : env.frame = some L) (hm : b ∈ (env :: outer).filterMap (·.frame)) : b = L ∨ b ∈ outer.filterMap (·.frame) := by
  obtain ⟨e, he, hb⟩ := List.mem_filterMap.mp hm
  rcases List.mem_cons.mp he with rfl | he
  · exact .inl (Option.some.inj (hb.symm.trans hf))
  · exact .inr (List.mem_filterMap.mpr ⟨e, he, hb⟩)
theorem below_pushX {h : Heap} (K : Below A base outer h₀) (F : Fr h₀ L h m) (hf : env.frame = some L) (hk : env.scope.kind = .function) : Below (A.deeper env) base (env :: outer) h := by
  have hnew : base.get? L = none := by
    cases hq : base.get? L with
    | none => rfl
    | some o => exact absurd (Nat.lt_of_lt_of_le (Heap.lt_size (K.stays L o hq)) F.above) (Nat.lt_irrefl _)
  refine ⟨Around.frames_deeper K.stack, fun b o e => F.keep b o (K.stays b o e), ?_⟩
  exact .cons (by rw [hk]; decide) hf F.ns hnew (K.frames.of_keeps fun b o e _ => ⟨o, F.keep b o e, rfl⟩)
theorem kts_enterX (B : Below A₀ base outer h₀) (F : Fr h₀ L s.heap m) (N : News h₀ L s.heap news) (hA : A.frames = some (env :: outer)) (hf : env.frame = some L) (hck : env.scope.kind = .function) :
    ∃ oL es ep, (hideAll s.heap (news.map (·.1))).get? L = some oL ∧ oL.data = .dict es ep ∧ (∀ h', h'.get? L = some oL → Heap.Ns h' L m) ∧ (∀ (sl : Array (Option Value)) h', h'.get? L = some { oL with slots := sl } → Heap.Ns h' L m) ∧
      h₀.StaysIn (hideAll s.heap (news.map (·.1))) ∧ Below A base (env :: outer) (hideAll s.heap (news.map (·.1))) := by
  have nm : ∀ b o, h₀.get? b = some o → b ∉ news.map (·.1) := fun b o e q => by
    obtain ⟨p, hp, rfl⟩ := List.mem_map.mp q
    rw [(N p hp).2.2] at e; cases e
  have st : h₀.StaysIn (hideAll s.heap (news.map (·.1))) := fun b o e => hideAll_get _ (F.keep b o e) (nm b o e)
  have B₁ := below_pushX (env := env) B F hf hck
  obtain ⟨oL, es, ep, hL, hLd, hLk, hLf⟩ := F.ns
  have nL : L ∉ news.map (·.1) := fun q => by
    obtain ⟨p, hp, e⟩ := List.mem_map.mp q
    exact (N p hp).2.1 e
  have hLg := hideAll_get (news.map (·.1)) hL nL
  exact ⟨oL, es, ep, hLg, hLd, fun h' e => ⟨oL, es, ep, e, hLd, hLk, hLf⟩, fun sl h' e => ⟨_, es, ep, e, hLd, hLk, hLf⟩, st, ⟨hA, fun b o e => st b o (B.stays b o e), funFrames_hideAll B₁.frames fun e he b hb hq => by
    cases he with
    | head => exact nL ((Option.some.inj (hf.symm.trans hq) : L = b) ▸ hb)
    | tail _ he =>
      obtain ⟨L₁, o₁, hf₁, ho₁⟩ := funFrames_in B.frames e he
      rw [hf₁] at hq
      exact nm L₁ o₁ ho₁ ((Option.some.inj hq : L₁ = b) ▸ hb)⟩⟩

theorem leaveSX {R : Result → Shared → Prop} {v : Value} {s' : Shared} {oL : Obj} {news : List (Addr × Obj)} {sh : Heap} (B : Below A₀ base outer h₀) (F : Fr h₀ L sh m) (XB : K.In base) (TB : Top p loose mean mg mb base) (D : KtsDicts (outer.filterMap (·.frame)) h₀) (T0 : KtsTurn (outer.filterMap (·.frame)) g₀ h₀) (hf : env.frame = some L)
    (hLg : (hideAll sh (news.map (·.1))).get? L = some oL) (hN : ∀ h', h'.get? L = some oL → Heap.Ns h' L m) (hNs : ∀ (sl : Array (Option Value)) h', h'.get? L = some { oL with slots := sl } → Heap.Ns h' L m) (st : h₀.StaysIn (hideAll sh (news.map (·.1))))
    (hl : LeaveS ((env :: outer).filterMap (·.frame)) A₀ base outer K p loose mean mg mb g₀ h₀ L m (hideAll sh (news.map (·.1))) R v s') : R (.ok (.ret v)) s' := by
  have nL₀ : h₀.get? L = none := kts_self F
  rcases hl with ⟨L', m', news', F', N', k⟩ | ⟨g', L', m', news', T', F', N', k⟩
  · refine k ⟨hN _ (F'.keep _ _ hLg), fun b o e => F'.keep b o (st b o e), F.above⟩ fun p hp => ⟨(N' p hp).1, fun q => ?_, ?_⟩
    · have := (N' p hp).2.2; rw [q, hLg] at this; cases this
    · cases q : h₀.get? p.1 with
      | none => rfl
      | some o => have := (N' p hp).2.2; rw [st _ _ q] at this; cases this
  obtain ⟨sl, hs⟩ := T'.up hLg
  obtain ⟨T₁, S₁⟩ := kts_turn_at (h := s'.heap) (fs := outer.filterMap (·.frame)) (g := h₀)
    (fun b hb => by
      obtain ⟨_, o, ho', _⟩ := B.frames.mem hb
      exact ⟨o, ho'⟩)
    (fun b o e nmem => F'.keep b o (T'.other b o (st b o e) (fun q => by
      rcases kts_memX hf q with z | z
      · rw [z, nL₀] at e
        cases e
      · exact nmem z)))
    (fun b o e hm => by
      obtain ⟨sl', hs'⟩ := T'.up (st b o e)
      exact ⟨sl', F'.keep _ _ hs'⟩)
  have B₃ : Below A₀ base outer (ktsHeap s'.heap (outer.filterMap (·.frame)) h₀) := ⟨B.stack, fun b o e => T₁.other b o (B.stays b o e) (fun hm => by
    rw [(B.frames.mem hm).1] at e
    cases e), B.frames.of_keeps fun b o e _ => by
    obtain ⟨sl', hs'⟩ := T₁.up e
    exact ⟨_, hs', rfl⟩⟩
  refine k _ (T0.trans T₁) ⟨hNs sl _ (F'.keep _ _ hs), S₁, by rw [T₁.size]; exact F.above⟩ (fun p hp => ⟨(N' p hp).1, fun q => ?_, ?_⟩) B₃ (XB.keeps B₃.stays) (TB.keeps B₃.stays) (D.turn T₁)
  · have := (N' p hp).2.2; rw [q, hs] at this; cases this
  · refine T₁.none_ _ ?_
    cases q : h₀.get? p.1 with
    | none => rfl
    | some o =>
      obtain ⟨sl', hs'⟩ := T'.up (st _ _ q)
      have := (N' p hp).2.2
      rw [hs'] at this
      cases this
theorem ktsDictsX {oL : Obj} {es : Array DictEntry} {ep : Nat} {g : Heap} (D : KtsDicts (outer.filterMap (·.frame)) h₀) (hf : env.frame = some L) (hLg : g.get? L = some oL) (hLd : oL.data = .dict es ep) (st : h₀.StaysIn g) : KtsDicts ((env :: outer).filterMap (·.frame)) g := fun b hb => by
  rcases kts_memX hf hb with rfl | hb
  · exact ⟨oL, es, ep, hLg, hLd⟩
  · obtain ⟨o, es', n', ho', hd'⟩ := D b hb
    exact ⟨o, es', n', st b o ho', hd'⟩
theorem code_defSX (B : Below A₀ base outer h₀) (F : Fr h₀ L s.heap m) (X₀ : K.In h₀) (N : News h₀ L s.heap news) (T : Top p loose mean mg mb h₀) (XB : K.In base) (TB : Top p loose mean mg mb base) (D : KtsDicts (outer.filterMap (·.frame)) h₀)
    (T0 : KtsTurn (outer.filterMap (·.frame)) g₀ h₀) (hA : A.frames = some (env :: outer)) (hf : env.frame = some L) (hck : env.scope.kind = .function)
    (ho : K.lookup f = some ⟨oc, od, .func (fnOf name qual params body scope dV kV doc pm an cdv ct), osl⟩) (hcd : codeIn K cdv qual = true) (hroom : A.depth < recursionLimit)
    (hbind : BindsTo s (fnOf name qual params body scope dV kV doc pm an cdv ct) args binds) (hloc : ∀ y ∈ binds, scope.names.lookup y.1 = some .local)
    (h : ∀ g L' h₁, Fr h₀ L g m → Fr g L' h₁ (fun y => binds.reverse.lookup y) → News g L' h₁ news → Below A base (env :: outer) g → K.In g → Top p loose mean mg mb g → KtsDicts ((env :: outer).filterMap (·.frame)) g →
      wpAny (model prog w) (A.deeper (envOf qual scope L' f cdv)) (execs body (envOf qual scope L' f cdv))
        (fun fl s' => LeaveS ((env :: outer).filterMap (·.frame)) A₀ base outer K p loose mean mg mb g₀ h₀ L m g R (match fl with | .ret v => v | _ => .none) s')
        (fun e s' => wpAny (model prog w) (A.deeper (envOf qual scope L' f cdv)) (leaving (envOf qual scope L' f cdv) e) (fun _ s'' => R (.error e) s'') (fun e' s'' => R (.error e') s'') s')
        { s with heap := h₁, toks := s.toks + binds.length })
    (hco : scope.isCoroutine = false) (hgen : scope.isGenerator = false) (hk : scope.kind = .function)
    (hcell : ∀ x ∈ scope.names, x.2 ≠ .cell) : codeAny (model prog w) A (.call (.ref f) args) R s := by
  have X := X₀.keeps F.keep
  refine codeAny_call_def (fd := fnOf name qual params body scope dV kV doc pm an cdv ct) (body := body) (binds := binds) hroom (X _ _ ho) rfl (T.nolimit.keeps F.keep) (codeRec_of X hcd) rfl hbind hcell hloc (fun h₁ hns hk₁ => ?_) hco hgen hk
  obtain ⟨oL, es, ep, hLg, hLd, hN, hNs, st, B₂⟩ := kts_enterX B F N hA hf hck
  refine wpAny_mono (h _ s.heap.objs.size h₁ ⟨hN _ hLg, st, F.above⟩ ⟨hns, fun b o e => hk₁ b o (of_hideAll _ e), Nat.le_of_eq (hideAll_size _ _)⟩
    (fun p hp => ⟨hk₁ _ _ (N p hp).1, Nat.ne_of_lt (Heap.lt_size (N p hp).1), hideAll_none _ (List.mem_map_of_mem hp)⟩) B₂ (X₀.keeps st) (T.keeps st) (ktsDictsX D hf hLg hLd st)) (fun fl s' hl => leaveSX B F XB TB D T0 hf hLg hN hNs st hl) fun _ _ y => y
theorem code_defCS (B : Below A₀ base outer h₀) (F : Fr h₀ L s.heap m) (X₀ : K.In h₀) (N : News h₀ L s.heap news) (T : Top p loose mean mg mb h₀) (XB : K.In base) (TB : Top p loose mean mg mb base) (D : KtsDicts (outer.filterMap (·.frame)) h₀)
    (T0 : KtsTurn (outer.filterMap (·.frame)) g₀ h₀) (hA : A.frames = some (env :: outer)) (hf : env.frame = some L) (hck : env.scope.kind = .function)
    (ho : K.lookup f = some ⟨oc, od, .func (fnOf name qual params body scope dV kV doc pm an cdv ct), osl⟩) (hcd : codeIn K cdv qual = true) (hroom : A.depth < recursionLimit)
    (hbind : BindsTo s (fnOf name qual params body scope dV kV doc pm an cdv ct) args binds) (hkind : (binds.all fun y => scope.names.lookup y.1 == some .local || scope.names.lookup y.1 == some .cell) = true)
    (hnd : ((cellsFrom 0 scope.names []).map (·.1)).Nodup)
    (h : ∀ g L' h₁ tk cells, Fr h₀ L g m → Fr g L' h₁ (bindL (envOfC qual scope L' f cdv).kindOf binds fun _ => none) → News g L' h₁ (cells ++ news) →
      CellsAre (bindC (envOfC qual scope L' f cdv).kindOf binds fun _ => none) (cellsFrom (L' + 1) scope.names []) cells → Below A base (env :: outer) g → K.In g → Top p loose mean mg mb g → (∀ p ∈ news, p.1 < L') → KtsDicts ((env :: outer).filterMap (·.frame)) g →
      wpAny (model prog w) (A.deeper (envOfC qual scope L' f cdv)) (execs body (envOfC qual scope L' f cdv))
        (fun fl s' => LeaveS ((env :: outer).filterMap (·.frame)) A₀ base outer K p loose mean mg mb g₀ h₀ L m g R (match fl with | .ret v => v | _ => .none) s')
        (fun e s' => wpAny (model prog w) (A.deeper (envOfC qual scope L' f cdv)) (leaving (envOfC qual scope L' f cdv) e) (fun _ s'' => R (.error e) s'') (fun e' s'' => R (.error e') s'') s')
        { s with heap := h₁, toks := tk })
    (hco : scope.isCoroutine = false) (hgen : scope.isGenerator = false) (hk : scope.kind = .function) : codeAny (model prog w) A (.call (.ref f) args) R s := by
  have X := X₀.keeps F.keep
  obtain ⟨oL, es, ep, hLg, hLd, hN, hNs, st, B₂⟩ := kts_enterX B F N hA hf hck
  refine codeAny_call_function hroom (X _ _ ho) (show (⟨oc, od, .func (fnX name qual params body scope [] dV kV doc pm an cdv ct), osl⟩ : Obj).data = .func (fnX name qual params body scope [] dV kV doc pm an cdv ct) from rfl) hco hgen rfl (codeRec_of X hcd) (hbind _ _ _ _ ?_)
  refine wpAny_newFunctionEnv_cells hk (kindsX hkind _) fun env' he s' x => ?_
  subst he
  refine ⟨(T.nolimit.keeps F.keep).keeps x.toInCall.keep, codeAny_func ?_⟩
  obtain ⟨h₁, tk, rfl, _⟩ := x.done
  have hk₁ := x.toInCall.keep
  obtain ⟨cells, NC, Y⟩ := Cl.news (h₀ := s.heap) (Nat.le_refl _) fun n c hm => ⟨x.cell n c (lookup_of_mem_nodup (cellsFrom_names scope.names 0 (s.heap.objs.size + 1) [] [] rfl ▸ hnd) hm), x.above n c hm⟩
  refine wpAny_mono (h _ s.heap.objs.size h₁ tk cells ⟨hN _ hLg, st, F.above⟩ ⟨x.toInCall.ns, fun b o e => hk₁ b o (of_hideAll _ e), Nat.le_of_eq (hideAll_size _ _)⟩ (fun p hp => ?_) Y B₂ (X₀.keeps st) (T.keeps st) (fun p hp => Heap.lt_size (N p hp).1) (ktsDictsX D hf hLg hLd st)) (fun fl s' hl => leaveSX B F XB TB D T0 hf hLg hN hNs st hl) fun _ _ y => y
  rcases List.mem_append.mp hp with hp | hp
  · refine ⟨(NC p hp).1, (NC p hp).2.1, ?_⟩
    cases q : (hideAll s.heap (news.map (·.1))).get? p.1 with
    | none => rfl
    | some o => have := of_hideAll _ q; rw [(NC p hp).2.2] at this; cases this
  · exact ⟨hk₁ _ _ (N p hp).1, Nat.ne_of_lt (Heap.lt_size (N p hp).1), hideAll_none _ (List.mem_map_of_mem hp)⟩
end
end
section
open PySem PySem.W PySem.Calls PyProof.Rows PyProof.V PySem.Spec
theorem kclrD9 : True := by
  w_top off
  k_with_none
  trivial
theorem two_fresh {x d rd : Addr} {ox od ro : Obj} {rest : List (Addr × Obj)} (lz : @LT.lt Nat _ rd d ∧ AllLt d rest) (l2 : @LT.lt Nat _ d x) : ∀ p ∈ [(x, ox), (d, od)], ∀ q ∈ (rd, ro) :: rest, @LT.lt Nat _ q.1 p.1 := by
  intro p hp q hq
  have hqd : @LT.lt Nat _ q.1 d := by
    rcases List.mem_cons.mp hq with e | hq
    · rw [e]; exact lz.1
    · exact allLt_mem lz.2 hq
  simp only [List.mem_cons, List.not_mem_nil, or_false] at hp
  rcases hp with rfl | rfl
  · exact Nat.lt_trans hqd l2
  · exact hqd
theorem RowsAt.snoc {w : World} {news : List (Addr × Obj)} {r : R} {ra : Addr} (h : RowAt w news r ra) : ∀ {rs : List R} {kvs : List (Int × Value)}, RowsAt w news rs kvs → RowsAt w news (rs ++ [r]) (kvs ++ [(r.o, .ref ra)])
  | _, _, .nil => .cons h .nil
  | _, _, .cons x y => .cons x (RowsAt.snoc h y)
theorem TRowsAt.snoc {news : List (Addr × Obj)} {r : R} {ra : Addr} (h : TRowAt news r ra) : ∀ {rs : List R} {kvs : List (Int × Value)}, TRowsAt news rs kvs → TRowsAt news (rs ++ [r]) (kvs ++ [(r.o, .ref ra)])
  | _, _, .nil => .cons h .nil
  | _, _, .cons x y => .cons x (TRowsAt.snoc h y)
theorem RowsAt.none_iff {w : World} {news : List (Addr × Obj)} {o : Int} : ∀ {rs : List R} {kvs : List (Int × Value)}, RowsAt w news rs kvs → (valueAt kvs o = none ↔ ∀ r ∈ rs, r.o ≠ o)
  | _, _, .nil => by simp [valueAt]
  | r :: rs, _, .cons (ra := ra) (kvs := kvs) x y => by
    have ih := RowsAt.none_iff (o := o) y
    by_cases e : r.o = o
    · simp [valueAt, e]
    · have e2 : valueAt ((r.o, Value.ref ra) :: kvs) o = valueAt kvs o := by simp [valueAt, e]
      rw [e2, ih]; simp [e]
theorem TRowsAt.none_iff {news : List (Addr × Obj)} {o : Int} : ∀ {rs : List R} {kvs : List (Int × Value)}, TRowsAt news rs kvs → (valueAt kvs o = none ↔ ∀ r ∈ rs, r.o ≠ o)
  | _, _, .nil => by simp [valueAt]
  | r :: rs, _, .cons (ta := ra) (kvs := kvs) x y => by
    have ih := TRowsAt.none_iff (o := o) y
    by_cases e : r.o = o
    · simp [valueAt, e]
    · have e2 : valueAt ((r.o, Value.ref ra) :: kvs) o = valueAt kvs o := by simp [valueAt, e]
      rw [e2, ih]; simp [e]
theorem TRowsAt.keys {news : List (Addr × Obj)} {rs : List R} {kvs : List (Int × Value)} (m : TRowsAt news rs kvs) : kvs.map (·.1) = rs.map (·.o) := by
  induction m with
  | nil => rfl
  | cons _ _ ih => simp [ih]
theorem RowsAt.without {w : World} {news : List (Addr × Obj)} {o : Int} : ∀ {rs : List R} {kvs : List (Int × Value)}, RowsAt w news rs kvs → RowsAt w news (rs.filter fun r => decide (r.o ≠ o)) (without kvs o)
  | _, _, .nil => .nil
  | r :: rs, _, .cons (ra := ra) (kvs := kvs) x y => by
    have ih := RowsAt.without (o := o) y
    by_cases e : r.o = o
    · simpa [PySem.without, e] using ih
    · simpa [PySem.without, e] using RowsAt.cons x ih
theorem TRowsAt.without {news : List (Addr × Obj)} {o : Int} : ∀ {rs : List R} {kvs : List (Int × Value)}, TRowsAt news rs kvs → TRowsAt news (rs.filter fun r => decide (r.o ≠ o)) (without kvs o)
  | _, _, .nil => .nil
  | r :: rs, _, .cons (ta := ra) (kvs := kvs) x y => by
    have ih := TRowsAt.without (o := o) y
    by_cases e : r.o = o
    · simpa [PySem.without, e] using ih
    · simpa [PySem.without, e] using TRowsAt.cons x ih
theorem stored_some {kvs : List (Int × Value)} {k : Int} {v v0 : Value} (h : valueAt kvs k = some v0) : stored kvs k v = kvs.map (fun kv => if kv.1 = k then (kv.1, v) else kv) := by
  obtain ⟨i, hi⟩ := valueAt_idx h
  have h2 : kvs.any (fun kv => kv.1 = k) = true := List.any_eq_true.mpr ⟨_, List.mem_of_getElem? hi, by simp⟩
  unfold stored
  rw [if_pos h2]
theorem TRowsAt.set {news : List (Addr × Obj)} {o : Int} {T : Addr} {q : Option (Int × Int)} : ∀ {rs : List R} {kvs : List (Int × Value)}, TRowsAt news rs kvs → (∀ r ∈ rs, r.o = o → TRowAt news { r with r := q } T) →
    TRowsAt news (rs.map fun r => if r.o = o then { r with r := q } else r) (kvs.map fun kv => if kv.1 = o then (kv.1, .ref T) else kv)
  | _, _, .nil, _ => .nil
  | r :: rs, _, .cons (ta := ra) (kvs := kvs) x y, h => by
    have ih := TRowsAt.set y (fun r hr => h r (List.mem_cons_of_mem _ hr))
    by_cases e : r.o = o
    · have h1 := h r List.mem_cons_self e
      have := TRowsAt.cons h1 ih
      simpa [e] using this
    · simpa [e] using TRowsAt.cons x ih
theorem ne_app {d : Addr} {a b : List (Addr × Obj)} (h1 : ∀ p ∈ a, p.1 ≠ d) (h2 : ∀ p ∈ b, p.1 ≠ d) : ∀ p ∈ a ++ b, p.1 ≠ d := fun p hp => (List.mem_append.mp hp).elim (h1 p) (h2 p)
theorem ne_cons {d : Addr} {a : Addr × Obj} {b : List (Addr × Obj)} (h1 : a.1 ≠ d) (h2 : ∀ p ∈ b, p.1 ≠ d) : ∀ p ∈ a :: b, p.1 ≠ d := fun p hp => (List.mem_cons.mp hp).elim (fun e => e ▸ h1) (h2 p)
end
section
open PySem PySem.W PySem.Calls PyProof.Rows PyProof.V PySem.Spec
theorem kclrD10 : True := by
  w_top off
  k_with_none
  trivial
def Chk : Prop := True
theorem port_ne {k : Int} {t ta tb : Tok} (h : Value.int k t ∈ [Value.int 7 ta, .int 8 tb]) : k ≠ 1 := by
  simp only [List.mem_cons, List.not_mem_nil, or_false, Value.int.injEq] at h
  omega
theorem drop_news8 {g h : Heap} {L : Addr} {a T b1 b2 b3 b4 b5 b6 : Addr × Obj} {c : List (Addr × Obj)} (N : News g L h (a :: T :: b1 :: b2 :: b3 :: b4 :: b5 :: b6 :: c)) : News g L h (T :: c) :=
  news_sub N (fun p hp => by
    rcases List.mem_cons.mp hp with rfl | hp
    · simp
    · simp [hp])
theorem lst_ne_nilB {prog : Program} {w : World} {A : Around} {E : Value → Shared → Prop} {s : Shared} {h₀ : Heap} {L D e : Addr} {n : Nat} {news : List (Addr × Obj)} {Q : Value → Shared → Prop} {ys : List Value} {b : Bool}
    (N : News h₀ L s.heap news) (h1 : (D, LCg.lst ys) ∈ news) (h2 : (e, W.listOf #[] n) ∈ news) (hi : ∀ v ∈ ys, ∃ k t, v = Value.int k t) (hb : (b = true) ↔ ys ≠ []) (hu : A.units + 64 < cLine) (h : Q (.bool b) s) : wpAny (model prog w) A (compareOp .NotEq (.ref D) (.ref e)) Q E s :=
  lst_ne_nil N h1 h2 hi hu (by
    have : decide (ys ≠ []) = b := by rw [Bool.eq_iff_iff]; simpa using hb.symm
    rw [this]; exact h)
theorem take_any_succ {rs : List R} {P : R → Prop} {i : Nat} {r : R} (hr : rs[i]? = some r) : (∃ r ∈ rs.take (i + 1), P r) ↔ (∃ r ∈ rs.take i, P r) ∨ P r := by
  rw [List.take_add_one, hr]
  constructor
  · rintro ⟨x, hx, hp⟩
    rcases List.mem_append.mp hx with h | h
    · exact .inl ⟨x, h, hp⟩
    · simp at h; exact .inr (h ▸ hp)
  · rintro (⟨x, hx, hp⟩ | hp)
    · exact ⟨x, List.mem_append_left _ hx, hp⟩
    · exact ⟨r, List.mem_append_right _ (by simp), hp⟩
def CJ (rs : List R) (P : R → Prop) (i : Nat) (ys : List Value) : Prop := (∀ v ∈ ys, ∃ k t, v = Value.int k t) ∧ (ys ≠ [] ↔ ∃ r ∈ rs.take i, P r)
theorem CJ.nil {rs : List R} {P : R → Prop} : CJ rs P 0 [] := ⟨by simp, by simp⟩
theorem CJ.yes {rs : List R} {P : R → Prop} {i : Nat} {ys : List Value} {r : R} {k : Int} {t : Tok} (h : CJ rs P i ys) (hr : rs[i]? = some r) (hp : P r) : CJ rs P (i + 1) (ys ++ [Value.int k t]) := by
  refine ⟨fun v hv => ?_, ?_⟩
  · rcases List.mem_append.mp hv with hv | hv
    · exact h.1 v hv
    · simp at hv; exact ⟨_, _, hv⟩
  · rw [take_any_succ hr]; simp [hp]
theorem CJ.no {rs : List R} {P : R → Prop} {i : Nat} {ys : List Value} {r : R} (h : CJ rs P i ys) (hr : rs[i]? = some r) (hp : ¬ P r) : CJ rs P (i + 1) ys := by
  refine ⟨h.1, ?_⟩
  rw [take_any_succ hr, h.2]; simp [hp]
theorem CJ.all {rs : List R} {P : R → Prop} {n : Nat} {ys : List Value} (h : CJ rs P n ys) (hn : rs.length = n) : ys ≠ [] ↔ ∃ r ∈ rs, P r := by
  have := h.2; rw [← hn, List.take_length] at this; exact this
theorem trow_eqB {prog : Program} {w : World} {A : Around} {E : Value → Shared → Prop} {s : Shared} {h₀ : Heap} {L ta tb : Addr} {news : List (Addr × Obj)} {Q : Value → Shared → Prop} {r q : R} {b : Bool}
    (N : News h₀ L s.heap news) (h1 : TRowAt news r ta) (h2 : TRowAt news q tb) (hu : A.units + 64 < cLine) (hb : (b = true) ↔ (r.a = q.a ∧ r.p = q.p ∧ r.r = q.r)) (h : Q (.bool b) s) : wpAny (model prog w) A (compareOp .Eq (.ref ta) (.ref tb)) Q E s :=
  trow_eq N h1 h2 hu (by
    have : decide (r.a = q.a ∧ r.p = q.p ∧ r.r = q.r) = b := by rw [Bool.eq_iff_iff]; simpa using hb.symm
    rw [this]; exact h)
theorem trow_tup {news : List (Addr × Obj)} {T : Addr} {o a p : Int} {ta tp : Tok} {rv : Value} {q : Option (Int × Int)} (hm : (T, tupO [.int a ta, .int p tp, rv]) ∈ news) (hr : RemAt news rv q) : TRowAt news ⟨o, a, p, q⟩ T := ⟨ta, tp, rv, hm, hr⟩
section
open PyProof.Rows.LCg
theorem cendY {h₀ : Heap} {L : Addr} {m : Str → Option Value} {s₁ : Shared} {I C D : Addr} {oI oC oD : Obj} {S : List (Addr × Obj) → Prop} {r : Value → Prop} {y : Value} {h' : Heap} {tk : Nat} {all news : List (Addr × Obj)}
    (F : Fr h₀ L h' m) (N : News h₀ L h' all) (sub : ∀ p ∈ (I, oI) :: (C, oC) :: (D, oD) :: news, p ∈ all) (off : Off3 I C D news) (hS : S news) (hr : r y) :
    CompEnd h₀ L m s₁ I oI C oC D oD S (fun y nw => nw = news ∧ r y) y { s₁ with heap := h', toks := tk } := ⟨h', tk, news, rfl, F, fun p hp => N p (sub p hp), off, hS, rfl, hr⟩
end
theorem mem_tl {x : Addr × Obj} {tl rest X : List (Addr × Obj)} (h : x ∈ tl ++ rest) (hs : ∀ p ∈ rest, p ∈ X) : x ∈ tl ++ X :=
  List.mem_append.mpr ((List.mem_append.mp h).imp id (hs x))
def ExR (rs : List R) (P : R → Prop) : Prop := ∃ r ∈ rs, P r
theorem tup_itemN {prog : Program} {w : World} {A : Around} {E : Value → Shared → Prop} {s : Shared} {h₀ : Heap} {L : Addr} {news : List (Addr × Obj)} {value slice : PySem.Expr} {t : Addr} {l : List Value} {k : Int} {u : Tok} {j : Nat} {x : Value} {Q : Value → Shared → Prop}
    (N : News h₀ L s.heap news) (hm : (t, tupO l) ∈ news) (hlo : -(2 ^ 63) ≤ k) (hhi : k < 2 ^ 63) (hj : seqIndex? k l.length = some j) (hx : l[j]? = some x) (h : Q x s)
    (hs : subscripted slice false (.ref t) (.int k u) = operate [.ref t, .int k u] (getItem (.ref t) (.int k u)) := by with_unfolding_all rfl) :
    wpAny (model prog w) A (subscriptTail value slice (.ref t) (.int k u)) Q E s := item_tupleT ⟨_, N.get hm, rfl, _, rfl⟩ hlo hhi hj hx h hs
end
section
open PySem PySem.W PySem.Calls PyProof.Rows PyProof.V PySem.Spec
theorem kclrD11 : True := by
  w_top off
  k_with_none
  trivial
section
variable {prog : Program} {w : World} {A : Around} {E : Value → Shared → Prop} {s : Shared} {h₀ : Heap} {L : Addr} {m : Str → Option Value} {news : List (Addr × Obj)}
theorem sliceApplied_two {sl : Addr} {u : Tok} {Q : Int × Int × Nat → Shared → Prop} (hs : s.heap.IsSliceOf sl .none (.int 2 u) .none) (h : Q (0, 1, 2) s) :
    wpAny (model prog w) A (Builtin.Slice.sliceApplied (.ref sl) (pure ((3 : Nat) : Int))) Q E s := by
  obtain ⟨os, hos, hcs, hds⟩ := id hs
  unfold Builtin.Slice.sliceApplied Builtin.Slice.sliceFields
  refine wpAny_bind (wpAny_bind (wpAny_field hos hds (x := .none) rfl (wpAny_bind (wpAny_field hos hds (x := .int 2 u) rfl (wpAny_bind (wpAny_field hos hds (x := .none) rfl (wpAny_pure ?_)))))))
  refine wpAny_bind (slicePart_none ?_)
  show wpAny _ _ (if ((1 : Int) == 0) = true then _ else _) _ _ s
  rw [if_neg (by decide)]
  refine wpAny_bind (slicePart_none (wpAny_bind (slicePart_int (wpAny_bind (wpAny_pure ?_)))))
  show wpAny _ _ (pure (((0 : Int), (1 : Int), 2) : Int × Int × Nat)) _ _ s
  exact wpAny_pure h
theorem getItem_tuple_two {t sl : Addr} {a b c : Value} {u : Tok} {Q : Value → Shared → Prop} (ht : IsTup s.heap t #[a, b, c]) (hs : s.heap.IsSliceOf sl .none (.int 2 u) .none)
    (h : Q (.ref s.heap.objs.size) { s with heap := s.heap.push { cls := .type "tuple", data := .seq #[a, b] } }) : wpAny (model prog w) A (getItem (.ref t) (.ref sl)) Q E s := by
  have hdrop : sizeOk (.seq #[a, b]) := by
    show (2 : Nat) ≤ sizeLine
    rw [sizeLine_eq]; omega
  obtain ⟨os, hos, hcs, hds⟩ := id hs
  have hTs : s.TypeIs (.ref sl) "slice" := ⟨os, hos, hcs⟩
  unfold getItem
  try with_reducible refine wpAny_holding ?_
  first | refine wpAny_bind (wpAny_pure ?_) | skip
  refine wpAny_bind (wpAny_sequenceKey ht.typeIs (by decide) ?_)
  refine wpAny_bind (wpAny_callSpecial?_slot (name := Str.ofString "__getitem__") ht.typeIs PyProof.Rows.slot_tuple_getitem
    (wpAny_call_entry PyProof.Rows.slot_tuple_getitem ht.typeIs PyProof.Rows.entry_tuple_getitem ?_ (PyProof.Rows.args_tuple_getitem _ _)))
  show wpAny _ _ (Builtin.Tuple.tupleItemsOf (.ref t) >>= _) _ _ s
  refine wpAny_bind (tupleItemsOf_ ht ?_)
  refine wpAny_bind (wpAny_typeOf hTs ?_)
  rw [if_pos (by decide)]
  refine wpAny_bind (sliceApplied_two hs ?_)
  show wpAny _ _ (if ((0 : Int) == 0 && (1 : Int) == 1 && (2 : Nat) == 3) = true then _ else _) _ _ s
  rw [if_neg (by decide)]
  have e : ((List.range 2).filterMap fun (k : Nat) => (#[a, b, c] : Array Value)[((0 : Int) + (k : Int) * 1).toNat]?).toArray = #[a, b] := rfl
  rw [e]
  first
    | exact wpAny_bind (m := Builtin.Tuple.tupleExact _) (wpAny_newObj_type (wpAny_pure ⟨_, rfl, wpAny_pure h⟩) hdrop)
    | exact wpAny_bind (m := Builtin.Tuple.tupleExact _) (wpAny_newObj_type (wpAny_bind (wpAny_pure (wpAny_pure ⟨_, rfl, wpAny_pure h⟩))) hdrop)
    | exact wpAny_bind (wpAny_bind (m := Builtin.Tuple.tupleExact _) (wpAny_newObj_type (wpAny_pure (wpAny_pure ⟨_, rfl, wpAny_pure h⟩)) hdrop))
    | exact wpAny_bind (wpAny_bind (m := Builtin.Tuple.tupleExact _) (wpAny_newObj_type (wpAny_pure ⟨_, rfl, wpAny_pure h⟩) hdrop))
theorem slice_two {value slice : PySem.Expr} {t : Addr} {a b c : Value} {u : Tok} {Q : Value → Shared → Prop}
    (F : Fr h₀ L s.heap m) (N : News h₀ L s.heap news) (hm : (t, tupO [a, b, c]) ∈ news)
    (h : ∀ D h', Fr h₀ L h' m → News h₀ L h' ((D, tupO [a, b]) :: news) → (∀ p ∈ news, p.1 < D) → Q (.ref D) { s with heap := h' })
    (hs : subscripted slice false (.ref t) (.ref s.heap.objs.size) = operate [.ref s.heap.objs.size, .ref t] (getItem (.ref t) (.ref s.heap.objs.size)))
    (hg : ∀ r, letTemporaryGo value (.ref t) r = pure ()) :
    wpAny (model prog w) A (subscriptTail value slice (.ref t) (.ref s.heap.objs.size)) Q E { s with heap := s.heap.push { cls := .type "slice", data := .fields #[.none, .int 2 u, .none] } } := by
  have ht : IsTup s.heap t #[a, b, c] := ⟨_, N.get hm, rfl, _, rfl⟩
  have ht' : IsTup (s.heap.push { cls := .type "slice", data := .fields #[.none, .int 2 u, .none] }) t #[a, b, c] := ht.keeps fun _ _ e => Heap.get?_push_of_some _ e
  refine subscriptTail_ops (s := { s with heap := s.heap.push { cls := .type "slice", data := .fields #[.none, .int 2 u, .none] } }) ht'.typeIs PyProof.Rows.slot_tuple_getitem.lookup
    (getItem_tuple_two ht' (Heap.IsSliceOf.new ..) ?_) hs hg
  have N1 := News.push (F.push { cls := .type "slice", data := .fields #[.none, .int 2 u, .none] }) (N.grown fun _ _ e => Heap.get?_push_of_some _ e) { cls := .type "tuple", data := .seq #[a, b] }
  rw [Heap.size_push] at N1
  show Q (.ref (s.heap.push _).objs.size) _
  rw [Heap.size_push]
  exact h _ _ ((F.push _).push _) N1 (fun p hp => Nat.lt_succ_of_lt (Heap.lt_size (N p hp).1))
end
theorem drop23 {g h : Heap} {L : Addr} {a b c : Addr × Obj} {d : List (Addr × Obj)} (N : News g L h (a :: b :: c :: d)) : News g L h (a :: d) :=
  news_sub N (fun p hp => by
    rcases List.mem_cons.mp hp with rfl | hp
    · simp
    · simp [hp])
theorem RemAt.keepT {news news' : List (Addr × Obj)} {rv : Value} {q : Option (Int × Int)} (x : RemAt news rv q) (keep : ∀ p ∈ news, (∃ vs, p.2 = tupO vs) → p ∈ news') : RemAt news' rv q :=
  x.off (h₀ := default) (h := default) (L := 0) (fun p hp vs e => keep p hp ⟨vs, e⟩)
theorem TRowAt.keepT {news news' : List (Addr × Obj)} {r : R} {ta : Addr} (x : TRowAt news r ta) (keep : ∀ p ∈ news, (∃ vs, p.2 = tupO vs) → p ∈ news') : TRowAt news' r ta :=
  let ⟨t1, t2, rv, hm, hr⟩ := x; ⟨t1, t2, rv, keep _ hm ⟨_, rfl⟩, hr.keepT keep⟩
theorem TRowsAt.keepT {news news' : List (Addr × Obj)} (keep : ∀ p ∈ news, (∃ vs, p.2 = tupO vs) → p ∈ news') : ∀ {rs : List R} {kvs : List (Int × Value)}, TRowsAt news rs kvs → TRowsAt news' rs kvs
  | _, _, .nil => .nil
  | _, _, .cons x y => .cons (x.keepT keep) (TRowsAt.keepT keep y)
theorem TabInv.keepF {qual : Str} {ps : Array Value} {led led' : List (Addr × Obj)} (I : TabInv qual ps led) (h : ∀ p ∈ led, (∃ vs, p.2.data = .fields vs) → p ∈ led') : TabInv qual ps led' :=
  ⟨I.1, fun pos => (I.2 pos).imp id fun ⟨c', oc, vs, t, a, b, c, d⟩ => ⟨c', oc, vs, t, a, h _ b ⟨_, c⟩, c, d⟩⟩
theorem rowD_ne_fields {w : World} {t : Nat → Tok} {o a p : Int} {rv : Value} {x : Obj} (h : ∃ vs, x.data = .fields vs) : x ≠ rowD w t o a p rv := by
  obtain ⟨vs, h⟩ := h
  rintro rfl
  simp [rowD, dictOf] at h
end
section
open PySem PySem.W PySem.Calls PyProof.Rows PyProof.V PySem.Spec
theorem kclrD12 : True := by
  w_top off
  k_with_none
  trivial
inductive ItemsAt (led : List (Addr × Obj)) : List R → List Value → Prop
  | nil : ItemsAt led [] []
  | cons {r : R} {T ta : Addr} {t : Tok} {rs : List R} {vs : List Value} : (T, tupO [.int r.o t, .ref ta]) ∈ led → TRowAt led r ta → ItemsAt led rs vs → ItemsAt led (r :: rs) (.ref T :: vs)
theorem ItemsAt.mono {led led' : List (Addr × Obj)} (h : ∀ p ∈ led, p ∈ led') : ∀ {rs : List R} {vs : List Value}, ItemsAt led rs vs → ItemsAt led' rs vs
  | _, _, .nil => .nil
  | _, _, .cons a b c => .cons (h _ a) (b.mono h) (ItemsAt.mono h c)
theorem ItemsAt.snoc {led : List (Addr × Obj)} {r : R} {T ta : Addr} {t : Tok} (h1 : (T, tupO [.int r.o t, .ref ta]) ∈ led) (h2 : TRowAt led r ta) : ∀ {rs : List R} {vs : List Value}, ItemsAt led rs vs → ItemsAt led (rs ++ [r]) (vs ++ [.ref T])
  | _, _, .nil => .cons h1 h2 .nil
  | _, _, .cons a b c => .cons a b (ItemsAt.snoc h1 h2 c)
def itemData (r : R) : PyData := .tuple [.int r.o, rowData r]
theorem ItemsAt.reads {h₀ h : Heap} {L : Addr} {led : List (Addr × Obj)} (N : News h₀ L h led) : ∀ {rs : List R} {vs : List Value}, ItemsAt led rs vs → ReadsAll h vs (rs.map itemData) []
  | _, _, .nil => .nil
  | _, _, .cons a b c => .cons (reads_tuple_at (N.get a) rfl rfl (ReadsAll.cons (Reads.int _ _) (ReadsAll.cons (b.reads N) ReadsAll.nil))) (ItemsAt.reads N c)
theorem itemData_lay (r : R) : PyData.canLay0 (itemData r) = true ∧ PyData.depth (itemData r) ≤ 5 := by
  rcases r with ⟨o, a, p, _ | ⟨x, y⟩⟩ <;> simp [itemData, rowData, remD, PyData.canLay0, PyData.canLayAll0, PyData.depth, PyData.depthAll]
theorem items_shaped (rs : List R) : SeqAt.shaped (.list (rs.map itemData)) = true := by
  have h1 : PyData.canLayAll0 (rs.map itemData) = true := by
    induction rs with
    | nil => rfl
    | cons y ys ih => simp [PyData.canLayAll0, (itemData_lay y).1, ih]
  have h2 : PyData.depthAll (rs.map itemData) ≤ 6 := by
    clear h1
    induction rs with
    | nil => simp [PyData.depthAll]
    | cons y ys ih =>
      have := (itemData_lay y).2
      simp only [List.map_cons, PyData.depthAll]; omega
  have h3 : PyData.depth (.list (rs.map itemData)) ≤ 64 := by simp only [PyData.depth]; omega
  simp only [SeqAt.shaped, PyData.canLay0, h1, Bool.true_and, decide_eq_true_eq]
  exact h3
theorem items_eqv (rs : List R) : PyData.eqv (.list (rs.map itemData)) (.list (rs.map itemData)) = true := by
  simp only [PyData.eqv]
  induction rs with
  | nil => rfl
  | cons y ys ih =>
    simp only [List.map_cons, PyData.eqvAll, ih, Bool.and_true]
    simp [itemData, PyData.eqv, PyData.eqvAll, rowData_eqv]
section
variable {prog : Program} {w : World} {A : Around} {E : Value → Shared → Prop} {s : Shared} {h₀ : Heap} {L : Addr} {m : Str → Option Value} {news : List (Addr × Obj)}
theorem items_ne {led led' : List (Addr × Obj)} {D B : Addr} {rs : List R} {ys vs : List Value} {c : Nat} {Q : Value → Shared → Prop}
    (N : News h₀ L s.heap news) (h1 : (D, LCg.lst ys) ∈ news) (i1 : ItemsAt led rs ys) (s1 : ∀ p ∈ led, p ∈ news) (h2 : (B, listOf vs.toArray c) ∈ news) (i2 : ItemsAt led' rs vs) (s2 : ∀ p ∈ led', p ∈ news) (hu : A.units + 64 < cLine)
    (h : Q (.bool false) s) : wpAny (model prog w) A (compareOp .NotEq (.ref D) (.ref B)) Q E s := by
  have R1 : Reads s.heap (.ref D) (.list (rs.map itemData)) _ := reads_list_at (N.get h1) rfl rfl (by simpa using (i1.mono s1).reads N)
  have R2 : Reads s.heap (.ref B) (.list (rs.map itemData)) _ := reads_list_at (N.get h2) rfl rfl (by simpa using (i2.mono s2).reads N)
  refine ne_dataH R1 R2 (items_shaped rs) (items_shaped rs) hu ?_
  rw [items_eqv]; exact h
theorem open_items {B : Addr} {led0 : List (Addr × Obj)} {C : List Value → List (Addr × Obj) → Prop} (sub : ∀ p ∈ led0, p ∈ news) :
    ∀ {rs : List R} {kvs : List (Int × Value)}, TRowsAt led0 rs kvs → ∀ (rs0 : List R) (vs : List Value) (tups : List (Addr × Obj)), ItemsAt (tups ++ news) rs0 vs → (∀ vs' tups', ItemsAt (tups' ++ news) (rs0 ++ rs) vs' → C vs' tups') →
    KdxOpen B news (kvs.map (fun p => (kyVal (PyData.int p.1), p.2))) vs tups C
  | _, _, .nil, rs0, vs, tups, hi, hc => by
    show C vs tups
    exact hc _ _ (by simpa using hi)
  | _, _, .cons (r := r) (ta := ta) (rs := rs) (kvs := kvs) x y, rs0, vs, tups, hi, hc => by
    intro a t _ _ _
    refine open_items sub y (rs0 ++ [r]) _ _ ?_ (fun vs' tups' h => hc vs' tups' (by simpa using h))
    refine ItemsAt.snoc (ta := ta) (t := t) (List.mem_cons_self) (x.mono fun p hp => List.mem_cons_of_mem _ (List.mem_append_right _ (sub p hp))) (hi.mono fun p hp => ?_)
    exact List.mem_cons_of_mem _ hp
theorem list_items {v d : Addr} {od : Obj} {led0 : List (Addr × Obj)} {rs : List R} {kvs : List (Int × Value)} {Q : Value → Shared → Prop} (hh : A.handled = none) (F : Fr h₀ L s.heap m) (N : News h₀ L s.heap news) (hvw : (v, { cls := .type "dict_items", data := .fields #[.ref d] }) ∈ news) (hmd : (d, od) ∈ news) (hod : od.IsDictOf (intKind prog w) kvs) (hn : kvs.length ≤ 16777216)
    (sub : ∀ p ∈ led0, p ∈ news) (n5 : TRowsAt led0 rs kvs)
    (h : ∀ B vs c tups h' tk, Fr h₀ L h' m → News h₀ L h' ((B, listOf vs.toArray c) :: (tups ++ news)) → ItemsAt (tups ++ news) rs vs → Q (.ref B) { s with heap := h', toks := tk }) :
    wpAny (model prog w) A (call (.type "list") [.ref v]) Q E s := by
  refine kdx_listN (knd := intKind prog w) (enc := PyData.int) hh F N hvw hmd hod hn (fun _ _ h => Value.isInt_shape h) rfl (fun B _ => open_items sub n5 [] [] [] .nil (fun vs' tups' hi c h' tk _ F' N' => ?_))
  exact h B vs' c tups' h' tk F' (news_sub N' (fun p hp => by
    simp only [List.mem_cons, List.mem_append] at hp ⊢
    rcases hp with h | h | h <;> simp [h])) (by simpa using hi)
open PyProof.Rows.LCg
theorem kcpRest_ind {env : Env} {elt : PySem.Expr} {a b : Str} {scope : Scope} {cl : List (Str × Addr)} {S : List (Addr × Obj) → Prop} {Fin : List Value → List (Addr × Obj) → Prop} {xs : List ((Tok → Value) × Value)} (J : Nat → List Value → List (Addr × Obj) → Prop)
    (turn : ∀ i p ys news (t : Tok) I oI C oC D m₂ h tk (E' : Value → Shared → Prop), xs[i]? = some p → J i ys news → NsObj oC m₂ → m₂ a = some (p.1 t) → m₂ b = some p.2 → Fr h₀ L h m → News h₀ L h ((I, oI) :: (C, oC) :: (D, lst ys) :: news) → Off3 I C D news → ((@Ne Nat I C) ∧ (@Ne Nat I D) ∧ (@Ne Nat C D)) →
      wpAny (model prog w) A (eval elt (compEnvC scope cl C env)) (CompEnd h₀ L m { s with heap := h, toks := tk } I oI C oC D (lst ys) S (fun y nw => J (i + 1) (ys ++ [y]) nw)) E' { s with heap := h, toks := tk })
    (fin : ∀ ys news, J xs.length ys news → Fin ys news) : ∀ (l : List ((Tok → Value) × Value)) (i : Nat) (ys : List Value) (news : List (Addr × Obj)), xs.drop i = l → i + l.length = xs.length → J i ys news → KcpRest prog w A h₀ L m env elt a b scope cl s S Fin l ys news := by
  intro l
  induction l with
  | nil => intro i ys news _ hl hJ; exact fin ys news (by simp at hl; rw [← hl]; exact hJ)
  | cons p l ih =>
    intro i ys news hd hl hJ t I oI C oC D m₂ h tk E' hC ha hb F N off ne
    have hp : xs[i]? = some p := by
      have := congrArg List.head? hd
      simpa [List.head?_drop] using this
    have hd' : xs.drop (i + 1) = l := by
      have := congrArg List.tail hd
      simpa [List.tail_drop] using this
    exact wpAny_mono (turn i p ys news t I oI C oC D m₂ h tk E' hp hJ hC ha hb F N off ne) (fun y s'' hc => CompEnd.imp hc fun nw hj => ih (i + 1) _ _ hd' (by simp at hl; omega) hj) fun _ _ e => e
end
end
section
open PySem PySem.W PySem.Calls PyProof.Rows PyProof.V PySem.Spec
theorem kclrD13 : True := by
  w_top off
  k_with_none
  trivial
section
variable {prog : Program} {w : World} {A : Around} {E : Value → Shared → Prop} {s : Shared} {env : Env} {h₀ : Heap} {x : Str} {body : List Stmt} {Q : Flow → Shared → Prop}
theorem iter_rangeK {r : Addr} {a₀ b₀ : Int} {t₀ u₀ v₀ : Tok} {n : Nat} {m₀ : Str → Option Value} {news : List (Addr × Obj)} (J : Nat → (Str → Option Value) → Prop)
    (hh : A.handled = none) (hr : IsRange s.heap r a₀ b₀ 1 t₀ u₀ v₀) (hsmall : Builtin.Range.small a₀ b₀ 1 = true) (hn : Builtin.Range.rangeSize a₀ b₀ 1 = (n : Int)) (F : Fr h₀ env.locals s.heap m₀) (N : News h₀ env.locals s.heap news) (hj : J 0 m₀)
    (turn : ∀ (i : Nat) t m₁ h tk own, i < n → (∀ p ∈ own, ∀ q ∈ news, p.1 ≠ q.1) → J i m₁ → Fr h₀ env.locals h (fun y => if y = x then some (.int (a₀ + (i : Int)) t) else m₁ y) → News h₀ env.locals h (news ++ own) →
      wpAny (model prog w) A (execs body env) (TurnPost h₀ env.locals (J (i + 1)) (news ++ own) { s with heap := h, toks := tk } Q) E { s with heap := h, toks := tk })
    (done : ∀ m₁ h tk, J n m₁ → Fr h₀ env.locals h m₁ → News h₀ env.locals h news → Q .next { s with heap := h, toks := tk }) :
    wpAny (model prog w) A (pyIter (.ref r)) (fun it s₂ => LoopAtV prog w A h₀ env x body Q E it s₂) E s := by
  refine wpAny_pyIter_range hr hsmall ?_
  have W : Walks prog w A s.heap.objs.size [s.heap.objs.size] [s.heap.objs.size] n (fun i v => i < n ∧ ∃ t, v = .int (a₀ + i * 1) t)
      (fun i h => IsRangeIter h s.heap.objs.size (a₀ + (i : Nat) * 1) ((n : Int) - (i : Nat)) 1) := (Walks.range hh _ a₀ 1 n).bound
  let J' : Nat → (Str → Option Value) → List (Addr × Obj) → Prop := fun i m₁ news₁ => news₁ = news ∧ J i m₁
  refine ⟨_, _, _, n, _, _, m₀, news, J', rfl, W, ?_, ?_, ?_, (by show IsRangeIter _ _ _ _ _; rw [hn]; simpa using Heap.get?_push_size _ rfl), F.push _, (fun p hp => ⟨Heap.get?_push_of_some _ (N p hp).1, (N p hp).2⟩), ⟨rfl, hj⟩, ?_, ?_⟩
  · intro hm
    exact absurd F.ns.lt ((List.mem_singleton.mp hm) ▸ Nat.lt_irrefl _)
  · intro b hb
    rw [List.mem_singleton.mp hb]
    exact next_is_new F
  · intro p hp hI
    exact absurd (Heap.lt_size (N p hp).1) ((List.mem_singleton.mp hI) ▸ Nat.lt_irrefl _)
  · rintro i v m₁ news₁ s₁ own ⟨hh', tk', rfl⟩ hin ⟨_, t, rfl⟩ ⟨rfl, hJ⟩ hoff hown _ _ _ F₁ N₁
    have e1 : a₀ + (i : Int) * 1 = a₀ + (i : Int) := by omega
    rw [e1] at F₁
    have hsep : ∀ p ∈ own, ∀ q ∈ news₁, p.1 ≠ q.1 := fun p hp q hq e => hoff q hq (e ▸ hown p hp)
    have N₂ : News h₀ env.locals hh' (news₁ ++ own) := fun p hp => N₁ p ((List.mem_append.mp hp).elim (fun h => List.mem_append.mpr (.inr h)) fun h => List.mem_append.mpr (.inl h))
    refine wpAny_mono (turn i t m₁ hh' tk' own hin hsep hJ F₁ N₂) (fun f s₂ p => ?_) fun _ _ e => e
    have fin : TurnEnd h₀ env.locals (J (i + 1)) (news₁ ++ own) { s with heap := hh', toks := tk' } s₂ → LoopStepU h₀ env.locals [s.heap.objs.size] own (J' (i + 1)) { s with heap := hh', toks := tk' } .next s₂ := by
      rintro ⟨h', tk, m', e, F', N', hm⟩
      exact ⟨rfl, h', tk, m', news₁, e, F', fun p hp => N' p ((List.mem_append.mp hp).elim (fun h => List.mem_append.mpr (.inr h)) fun h => List.mem_append.mpr (.inl h)), hoff, rfl, hm⟩
    cases f with
    | ret v => exact .ret p
    | brk => exact .brk p
    | next => exact .next (fin p)
    | cont => exact .cont (fin p)
  · rintro h' tk m' news' F' N' _ ⟨rfl, hJ⟩
    exact done m' h' tk hJ F' N'
end
def nthP (pf pl fo : Int) (i : Nat) : Int := if fo + i ≤ pl then fo + i else fo + i - (pl - pf + 1)
theorem nthP_zero {pf pl fo : Int} (h : fo ≤ pl) : nthP pf pl fo 0 = fo := by unfold nthP; rw [if_pos (by omega)]; omega
theorem nthP_succ {pf pl fo : Int} {i : Nat} (h1 : pf ≤ fo) (h2 : fo ≤ pl) (hi : (i : Int) < pl - pf + 1) : (if nthP pf pl fo i = pl then pf else nthP pf pl fo i + 1) = nthP pf pl fo (i + 1) := by
  unfold nthP
  push_cast
  split <;> split <;> (try split) <;> omega
theorem nthP_in {pf pl fo : Int} {i : Nat} (h1 : pf ≤ fo) (h2 : fo ≤ pl) (hi : (i : Int) < pl - pf + 1) : pf ≤ nthP pf pl fo i ∧ nthP pf pl fo i ≤ pl := by
  unfold nthP
  split <;> omega
end
section
open PySem PySem.W PySem.Calls PyProof.Rows PyProof.V PySem.Spec
theorem kclrD14 : True := by
  w_top off
  k_with_none
  trivial
theorem nat_and0 {a b : Nat} (hb : b < 256) : (a * 256) &&& b = 0 := by
  apply Nat.eq_of_testBit_eq
  intro i
  have e : a * 256 = 2 ^ 8 * a := by rw [Nat.mul_comm]
  rw [Nat.testBit_and, Nat.zero_testBit, e, Nat.testBit_two_pow_mul]
  by_cases h : i ≥ 8
  · have hb2 : b < 2 ^ i := Nat.lt_of_lt_of_le hb (Nat.pow_le_pow_right (n := 2) (by decide) h)
    rw [Nat.testBit_lt_two_pow hb2, Bool.and_false]
  · simp [h]
theorem or256 {x y : Int} (hx : 0 ≤ x) (hy : 0 ≤ y) (hy2 : y < 256) : Builtin.bitOr (x * 2 ^ (8 : Int).toNat) y = 256 * x + y := by
  have e : x * 2 ^ (8 : Int).toNat = x * 256 := by rfl
  rw [e, bitOr_and, bitAnd_pp (by omega) hy]
  have e2 : (x * 256).toNat = x.toNat * 256 := by omega
  rw [e2, nat_and0 (by omega)]
  omega
end
section
open PySem PySem.W PySem.Calls PyProof.Rows PyProof.V PySem.Spec
theorem kclrC8 : True := by
  w_top off
  k_with_none
  trivial
theorem kset_C8_1 : True := by
  k_with "call ref" => (((k_here; (with_reducible show wpAny _ _ (call (Value.ref 101) _) _ _ _); k_dflt (refine' call_cls ?k1 ?k2 ?k3 ?k4 ?k5 ?k6 ?_; (case k1 => k_asm); (case k2 => k_asm); (case k3 => k_asm); (case k4 => k_is); (case k5 => k_is); (case k6 => k_is); k_whole; intro x'ₖ d'ₖ h'ₖ F'ₖ N'ₖ l1ₖ l2ₖ; (try k_lt l1ₖ); (try k_lt2 l2ₖ); (try k_sweep); refine' code_def ?k1 ?k2 ?k3 ?k4 ?k5 ?kA ?kF ?kK ?k6 ?k7 ?k8 ?k9 ?kB ?_ ?c2 ?c3 ?c4 ?c5; (case kA => exact rfl); (case kF => exact rfl); (case kK => first | exact rfl | assumption); (case k1 => k_asm); (case k2 => k_asm); (case k3 => k_asm); (case k4 => k_asm); (case k5 => k_asm); (case k6 => k_is); (case k7 => k_is); (case k8 => ktr_room); (case k9 => first | exact BindsTo.of_eq rfl | exact binds_K (by k_in) rfl (by k_is) rfl rfl rfl); (case c5 => decide); (case kB => exact locs rfl); (case c2 => exact rfl); (case c3 => exact rfl); (case c4 => exact rfl); k_whole; intro g'ₖ L'ₖ h'ₖ FG'ₖ F'ₖ N'ₖ B'ₖ X'ₖ T'ₖ; (try dsimp only); (try k_fold))); all_goals ((try revert T'ₖ); (try revert X'ₖ); (try revert B'ₖ); (try revert FG'ₖ); (try revert L'ₖ); (try revert g'ₖ); (try revert l2ₖ); (try revert l1ₖ); (try revert N'ₖ); (try revert F'ₖ); (try revert h'ₖ); (try revert d'ₖ); (try revert x'ₖ); intros)))
  k_with "k_mem" => (first | assumption | exact List.mem_cons_self | (refine List.mem_cons_of_mem _ ?_; k_mem))
  k_with "k_all" => (first | assumption | exact allLt_ne (by assumption) | exact allLt_ne1 (by assumption) | exact allLt_ne2 (by assumption) | exact allLt_ne3 (by assumption) | exact allLt_ne4 (by assumption) | exact allLt_ne5 (by assumption) | exact allLt_ne6 (by assumption))
  k_with "exec Raise some none" => ((k_here; (with_reducible show wpAny _ _ (exec (Stmt.Raise (some (Expr.Call (Expr.Name (Str.ofString "FormError") _) _ [] _)) none _) _) _ _ _); k_dflt (refine' Raise_I (C := 44) ?X ?h ?b ?hh ?_; (case X => k_asm); (case h => k_is); (case b => decide); (case hh => rfl))))
  k_with "call ref" => (((k_here; (with_reducible show wpAny _ _ (call (Value.ref 44) _) _ _ _); k_dflt (refine' call_excK ?F ?X ?T ?room ?hC ?hi ?hc ?hmro ?hdc ?hs ?ha ?_; (case F => k_asm); (case X => k_asm); (case T => k_asm); (case room => ktr_room); (case hC => k_is); (case hi => k_is); (case hc => k_is); (case hmro => rfl); (case hdc => rfl); (case hs => k_is); (case ha => k_is)); intro e'ₖ t'ₖ d'ₖ h'ₖ tk'ₖ hx'ₖ he'ₖ); all_goals ((try revert he'ₖ); (try revert hx'ₖ); (try revert tk'ₖ); (try revert h'ₖ); (try revert d'ₖ); (try revert t'ₖ); (try revert e'ₖ); intros)))
  k_with "exec Raise some none" => ((k_here; (with_reducible show wpAny _ _ (exec (Stmt.Raise (some (Expr.Call (Expr.Name (Str.ofString "PortError") _) _ [] _)) none _) _) _ _ _); k_dflt (refine' Raise_I (C := 56) ?X ?h ?b ?hh ?_; (case X => k_asm); (case h => k_is); (case b => decide); (case hh => rfl))))
  k_with "call ref" => (((k_here; (with_reducible show wpAny _ _ (call (Value.ref 56) _) _ _ _); k_dflt (refine' call_excK ?F ?X ?T ?room ?hC ?hi ?hc ?hmro ?hdc ?hs ?ha ?_; (case F => k_asm); (case X => k_asm); (case T => k_asm); (case room => ktr_room); (case hC => k_is); (case hi => k_is); (case hc => k_is); (case hmro => rfl); (case hdc => rfl); (case hs => k_is); (case ha => k_is)); intro e'ₖ t'ₖ d'ₖ h'ₖ tk'ₖ hx'ₖ he'ₖ); all_goals ((try revert he'ₖ); (try revert hx'ₖ); (try revert tk'ₖ); (try revert h'ₖ); (try revert d'ₖ); (try revert t'ₖ); (try revert e'ₖ); intros)))
  k_with "exec Raise some none" => ((k_here; (with_reducible show wpAny _ _ (exec (Stmt.Raise (some (Expr.Call (Expr.Name (Str.ofString "StateError") _) _ [] _)) none _) _) _ _ _); k_dflt (refine' Raise_I (C := 68) ?X ?h ?b ?hh ?_; (case X => k_asm); (case h => k_is); (case b => decide); (case hh => rfl))))
  k_with "call ref" => (((k_here; (with_reducible show wpAny _ _ (call (Value.ref 68) _) _ _ _); k_dflt (refine' call_excK ?F ?X ?T ?room ?hC ?hi ?hc ?hmro ?hdc ?hs ?ha ?_; (case F => k_asm); (case X => k_asm); (case T => k_asm); (case room => ktr_room); (case hC => k_is); (case hi => k_is); (case hc => k_is); (case hmro => rfl); (case hdc => rfl); (case hs => k_is); (case ha => k_is)); intro e'ₖ t'ₖ d'ₖ h'ₖ tk'ₖ hx'ₖ he'ₖ); all_goals ((try revert he'ₖ); (try revert hx'ₖ); (try revert tk'ₖ); (try revert h'ₖ); (try revert d'ₖ); (try revert t'ₖ); (try revert e'ₖ); intros)))
  k_with "RaiseEnd" => ((refine RaiseEnd.intro (Frag.In.keeps (by k_asm) (fun b o q => ExcNew.keeps (by assumption) b o (Fr.keep (by k_asm) b o q))) (by assumption) ?_))
  k_with "leaving ref" => (((k_here; (refine' leave_excK ?k1 ?k0 ?k2 ?k3 ?_; (case k0 => assumption); (case k1 => assumption); (case k2 => assumption); (case k3 => k_asm); k_whole; intro h'ₖ R'ₖ U'ₖ; (try dsimp only at R'ₖ U'ₖ ⊢))); all_goals ((try revert U'ₖ); (try revert R'ₖ); (try revert h'ₖ); intros)))
  k_with "compareOp NotIn int ref" => ((k_here; k_dflt (first
  | (refine' notin_some (knd := intKind _ _) ?N ?hp ?hd ?lo (intKind_is _ _ _ _) ?hv ?_; (case N => k_asm); (case hd => assumption); (case hp => k_mem); (case lo => assumption); (case hv => assumption))
  | (refine' notin_none (knd := intKind _ _) ?N ?hp ?hd ?lo (intKind_is _ _ _ _) ?hv ?_; (case N => k_asm); (case hd => assumption); (case hp => k_mem); (case lo => assumption); (case hv => assumption)))))
  k_with "compareOp In int ref" => ((k_here; k_dflt (first
  | (refine' in_some (knd := intKind _ _) ?N ?hp ?hd ?lo (intKind_is _ _ _ _) ?hv ?_; (case N => k_asm); (case hd => assumption); (case hp => k_mem); (case lo => assumption); (case hv => assumption))
  | (refine' in_none (knd := intKind _ _) ?N ?hp ?hd ?lo (intKind_is _ _ _ _) ?hv ?_; (case N => k_asm); (case hd => assumption); (case hp => k_mem); (case lo => assumption); (case hv => assumption)))))
  k_with "setItem ref int" => (((k_here; k_dflt (refine' kda_set (knd := intKind _ _) ?F ?N ?U ?d (intKind_is _ _ _ _) ?z ?_; (case F => k_asm); (case N => k_asm); (case U => k_updF); (case d => assumption); (case z => assumption)); intro h'ₖ o'ₖ F'ₖ N'ₖ hd'ₖ; (try dsimp only at N'ₖ); (try k_sweep)); all_goals ((try revert hd'ₖ); (try revert N'ₖ); (try revert F'ₖ); (try revert o'ₖ); (try revert h'ₖ); intros)))
  k_with "call ref" => (((k_here; (with_reducible show wpAny _ _ (call (Value.ref 133) _) _ _ _); k_dflt (refine' is_there_spec ?u_B ?u_F ?u_X ?u_N ?u_T ?u_hk ?u_hdp ?u_hu ?u_m1 ?u_m2 ?u_m3 ?u_lo ?u_m4 ?u_m5 ?u_m6 ?_; (case u_B => k_asm); (case u_F => k_asm); (case u_X => k_asm); (case u_N => k_asm); (case u_T => k_asm); (case u_hk => first | exact rfl | assumption); (case u_hdp => ktr_room); (case u_hu => ktr_units); (case u_m1 => k_mem); (case u_m2 => k_mem); (case u_m3 => k_mem); (case u_lo => assumption); (case u_m4 => assumption); (case u_m5 => first | assumption | (refine RowsAt.mono ?_ (by assumption); intro pₖ hpₖ; simp [hpₖ])); (case u_m6 => exact (show RemAt _ Value.none none from rfl))); intro b9ₖ h9ₖ tk9ₖ hb9ₖ F9ₖ N9ₖ; (try k_sweep)); all_goals ((try revert N9ₖ); (try revert F9ₖ); (try revert hb9ₖ); (try revert tk9ₖ); (try revert h9ₖ); (try revert b9ₖ); (try revert hpₖ); (try revert pₖ); intros)))
  trivial
theorem bind_spec : ∀ {w : World} {mean : ExcName → Option Value} {mg mb : Str → Option Value} {dp un : Nat} {gd : Option (List Code)} {cn : Str} {cs : Scope} {a : Addr} {ccd : Value} {cl : List (Str × Addr)} {outer : List Env} {A₀ : Around} {base h₀ : Heap} {L : Addr} {m : Str → Option Value} {rd : Addr} {ro : Obj} {rest : List (Addr × Obj)} {s : Shared}
    {Q E : Value → Shared → Prop} (B : Below A₀ base outer h₀) (F : Fr h₀ L s.heap m) (X : (hd.heap_1 w.params).In h₀) (N : News h₀ L s.heap ((rd, ro) :: rest)) (T : Top topProg LS mean mg mb h₀) (hk : cs.kind = .function) (hdp : dp < 870) (hu : un < 7800)
    {tb td : Addr} {tt : Tok} {rs : List R} {kvs : List (Int × Value)} {xo xa xp : Int} {to_ ta tp : Tok} (m1 : (tb, instObj 164 td) ∈ rest) (m2 : (td, dictOf [⟨PyData.keyHash w.params (Str.ofString "rows"), .str (Str.ofString "rows") tt, .ref rd⟩] 1) ∈ rest) (lo : (rd == sysModules) = false) (m4 : ro.IsDictOf (intKind PySem.Challenge.rw_on0339_01.row.prog w) kvs) (m5 : RowsAt w rest rs kvs) (hr : ∀ p ∈ rest, p.1 ≠ rd) (hsz : kvs.length ≤ sizeLine)
    (raiS : (∃ v, valueAt kvs xo = some v) → ∀ e h' g₂ tk', RaisedSN base g₂ (envX cn cs L a ccd cl :: outer) e (.ref 68) ((rd, ro) :: rest) h' → Fr h₀ L g₂ m → g₂.UpToSlots h' → E (.ref e) { s with heap := h', toks := tk' })
    (raiP : valueAt kvs xo = none → (∃ r ∈ rs, r.o ≠ xo ∧ r.a = xa ∧ r.p = xp ∧ r.r = none) → ∀ e h' g₂ tk', RaisedSN base g₂ (envX cn cs L a ccd cl :: outer) e (.ref 56) ((rd, ro) :: rest) h' → Fr h₀ L g₂ m → g₂.UpToSlots h' → E (.ref e) { s with heap := h', toks := tk' })
    (ret : valueAt kvs xo = none → (¬ ∃ r ∈ rs, r.o ≠ xo ∧ r.a = xa ∧ r.p = xp ∧ r.r = none) → ∀ ra ro' tl h' tk', Fr h₀ L h' m → News h₀ L h' ((rd, ro') :: (tl ++ rest)) → ro'.IsDictOf (intKind PySem.Challenge.rw_on0339_01.row.prog w) (kvs ++ [(xo, .ref ra)]) → RowAt w tl ⟨xo, xa, xp, none⟩ ra → (∀ p ∈ tl, ∀ q ∈ (rd, ro) :: rest, @LT.lt Nat _ q.1 p.1) → Q .none { s with heap := h', toks := tk' }),
    wpAny (model PySem.Challenge.rw_on0339_01.row.prog w) (ktrTop dp un gd cn cs L a ccd cl outer) (call (.ref 140) [.ref tb, .int xo to_, .int xa ta, .int xp tp]) Q E s := by
  k_fill
  intro w mean mg mb dp un gd cn cs a ccd cl outer A₀ base h₀ L m rd ro rest s Q E B F X N T hk hdp hu tb td tt rs kvs xo xa xp to_ ta tp m1 m2 lo m4 m5 hr hsz raiS raiP ret
  refine wpAny_call ?_
  k_dflt (refine' code_def (binds := [(Str.ofString "self", .ref tb), (Str.ofString "owner", .int xo to_), (Str.ofString "address", .int xa ta), (Str.ofString "port", .int xp tp)]) ?k1 ?k2 ?k3 ?k4 ?k5 ?kA ?kF ?kK ?k6 ?k7 ?k8 ?k9 ?kB ?_ ?c2 ?c3 ?c4 ?c5; (case kA => exact rfl); (case kF => exact rfl); (case kK => assumption); (case k1 => k_asm); (case k2 => k_asm); (case k3 => k_asm); (case k4 => k_asm); (case k5 => k_asm); (case k6 => k_is); (case k7 => k_is); (case k8 => ktr_room); (case k9 => exact BindsTo.of_eq rfl); (case c5 => decide); (case kB => exact locs rfl); (case c2 => exact rfl); (case c3 => exact rfl); (case c4 => exact rfl))
  intro g1 L1 h1 FG1 F1 N1 B1 X1 T1
  change Fr g1 L1 h1 (fun y => List.lookup y [(Str.ofString "port", .int xp tp), (Str.ofString "address", .int xa ta), (Str.ofString "owner", .int xo to_), (Str.ofString "self", .ref tb)]) at F1
  dsimp only
  k_fold
  cases hva : valueAt kvs xo with
  | some v =>
    k_steps
    exact raiS ⟨_, hva⟩ _ _ _ _ (by assumption) (by assumption) (by assumption)
  | none =>
    k_steps
    · exact raiP hva ((by assumption : _ ↔ _).mp (by assumption)) _ _ _ _ (by assumption) (by assumption) (by assumption)
    · rename_i hd9 Fz9 Nz9 _ _
      rw [stored_none hva] at hd9
      refine ret hva ?_ _ _ _ _ _ (by k_asm) (news_rot2 Nz9) hd9 (RowAt.of (by k_mem) (by k_mem) rfl) ?_
      · exact fun hx => absurd ((by assumption : _ ↔ _).mpr hx) (by simp [*])
      · exact two_fresh (by assumption) (by assumption)
end
section
open PySem PySem.W PySem.Calls PyProof.Rows PyProof.V PySem.Spec
theorem kclrC9 : True := by
  w_top off
  k_with_none
  trivial
theorem kset_C9_1 : True := by
  k_with "k_mem" => (first | assumption | exact List.mem_cons_self | (refine List.mem_cons_of_mem _ ?_; k_mem))
  k_with "k_all" => (first | assumption | exact allLt_ne (by assumption) | exact allLt_ne1 (by assumption) | exact allLt_ne2 (by assumption) | exact allLt_ne3 (by assumption) | exact allLt_ne4 (by assumption) | exact allLt_ne5 (by assumption) | exact allLt_ne6 (by assumption))
  k_with "exec Raise some none" => ((k_here; (with_reducible show wpAny _ _ (exec (Stmt.Raise (some (Expr.Call (Expr.Name (Str.ofString "FormError") _) _ [] _)) none _) _) _ _ _); k_dflt (refine' Raise_I (C := 44) ?X ?h ?b ?hh ?_; (case X => k_asm); (case h => k_is); (case b => decide); (case hh => rfl))))
  k_with "call ref" => (((k_here; (with_reducible show wpAny _ _ (call (Value.ref 44) _) _ _ _); k_dflt (refine' call_excK ?F ?X ?T ?room ?hC ?hi ?hc ?hmro ?hdc ?hs ?ha ?_; (case F => k_asm); (case X => k_asm); (case T => k_asm); (case room => ktr_room); (case hC => k_is); (case hi => k_is); (case hc => k_is); (case hmro => rfl); (case hdc => rfl); (case hs => k_is); (case ha => k_is)); intro e'ₖ t'ₖ d'ₖ h'ₖ tk'ₖ hx'ₖ he'ₖ); all_goals ((try revert he'ₖ); (try revert hx'ₖ); (try revert tk'ₖ); (try revert h'ₖ); (try revert d'ₖ); (try revert t'ₖ); (try revert e'ₖ); intros)))
  k_with "exec Raise some none" => ((k_here; (with_reducible show wpAny _ _ (exec (Stmt.Raise (some (Expr.Call (Expr.Name (Str.ofString "PortError") _) _ [] _)) none _) _) _ _ _); k_dflt (refine' Raise_I (C := 56) ?X ?h ?b ?hh ?_; (case X => k_asm); (case h => k_is); (case b => decide); (case hh => rfl))))
  k_with "call ref" => (((k_here; (with_reducible show wpAny _ _ (call (Value.ref 56) _) _ _ _); k_dflt (refine' call_excK ?F ?X ?T ?room ?hC ?hi ?hc ?hmro ?hdc ?hs ?ha ?_; (case F => k_asm); (case X => k_asm); (case T => k_asm); (case room => ktr_room); (case hC => k_is); (case hi => k_is); (case hc => k_is); (case hmro => rfl); (case hdc => rfl); (case hs => k_is); (case ha => k_is)); intro e'ₖ t'ₖ d'ₖ h'ₖ tk'ₖ hx'ₖ he'ₖ); all_goals ((try revert he'ₖ); (try revert hx'ₖ); (try revert tk'ₖ); (try revert h'ₖ); (try revert d'ₖ); (try revert t'ₖ); (try revert e'ₖ); intros)))
  k_with "exec Raise some none" => ((k_here; (with_reducible show wpAny _ _ (exec (Stmt.Raise (some (Expr.Call (Expr.Name (Str.ofString "StateError") _) _ [] _)) none _) _) _ _ _); k_dflt (refine' Raise_I (C := 68) ?X ?h ?b ?hh ?_; (case X => k_asm); (case h => k_is); (case b => decide); (case hh => rfl))))
  k_with "call ref" => (((k_here; (with_reducible show wpAny _ _ (call (Value.ref 68) _) _ _ _); k_dflt (refine' call_excK ?F ?X ?T ?room ?hC ?hi ?hc ?hmro ?hdc ?hs ?ha ?_; (case F => k_asm); (case X => k_asm); (case T => k_asm); (case room => ktr_room); (case hC => k_is); (case hi => k_is); (case hc => k_is); (case hmro => rfl); (case hdc => rfl); (case hs => k_is); (case ha => k_is)); intro e'ₖ t'ₖ d'ₖ h'ₖ tk'ₖ hx'ₖ he'ₖ); all_goals ((try revert he'ₖ); (try revert hx'ₖ); (try revert tk'ₖ); (try revert h'ₖ); (try revert d'ₖ); (try revert t'ₖ); (try revert e'ₖ); intros)))
  k_with "RaiseEnd" => ((refine RaiseEnd.intro (Frag.In.keeps (by k_asm) (fun b o q => ExcNew.keeps (by assumption) b o (Fr.keep (by k_asm) b o q))) (by assumption) ?_))
  k_with "leaving ref" => (((k_here; (refine' leave_excK ?k1 ?k0 ?k2 ?k3 ?_; (case k0 => assumption); (case k1 => assumption); (case k2 => assumption); (case k3 => k_asm); k_whole; intro h'ₖ R'ₖ U'ₖ; (try dsimp only at R'ₖ U'ₖ ⊢))); all_goals ((try revert U'ₖ); (try revert R'ₖ); (try revert h'ₖ); intros)))
  k_with "compareOp NotIn int ref" => ((k_here; k_dflt (first
  | (refine' notin_some (knd := intKind _ _) ?N ?hp ?hd ?lo (intKind_is _ _ _ _) ?hv ?_; (case N => k_asm); (case hd => assumption); (case hp => k_mem); (case lo => assumption); (case hv => assumption))
  | (refine' notin_none (knd := intKind _ _) ?N ?hp ?hd ?lo (intKind_is _ _ _ _) ?hv ?_; (case N => k_asm); (case hd => assumption); (case hp => k_mem); (case lo => assumption); (case hv => assumption)))))
  k_with "compareOp In int ref" => ((k_here; k_dflt (first
  | (refine' in_some (knd := intKind _ _) ?N ?hp ?hd ?lo (intKind_is _ _ _ _) ?hv ?_; (case N => k_asm); (case hd => assumption); (case hp => k_mem); (case lo => assumption); (case hv => assumption))
  | (refine' in_none (knd := intKind _ _) ?N ?hp ?hd ?lo (intKind_is _ _ _ _) ?hv ?_; (case N => k_asm); (case hd => assumption); (case hp => k_mem); (case lo => assumption); (case hv => assumption)))))
  k_with "setItem ref int" => (((k_here; k_dflt (refine' kda_set (knd := intKind _ _) ?F ?N ?U ?d (intKind_is _ _ _ _) ?z ?_; (case F => k_asm); (case N => k_asm); (case U => k_updF); (case d => assumption); (case z => assumption)); intro h'ₖ o'ₖ F'ₖ N'ₖ hd'ₖ; (try dsimp only at N'ₖ); (try k_sweep)); all_goals ((try revert hd'ₖ); (try revert N'ₖ); (try revert F'ₖ); (try revert o'ₖ); (try revert h'ₖ); intros)))
  k_with "leaving ref" => (((k_here; k_dflt (refine' leave_onS1 ?k0 ?k1 ?k2 ?k3 ?_; (case k2 => assumption); (case k0 => assumption); (case k1 => assumption); (case k3 => assumption)); intro h'ₖ R'ₖ U'ₖ; (try dsimp only at R'ₖ U'ₖ ⊢)); all_goals ((try revert U'ₖ); (try revert R'ₖ); (try revert h'ₖ); intros)))
  k_with "call ref" => (((k_here; (with_reducible show wpAny _ _ (call (Value.ref 133) _) _ _ _); k_dflt (refine' is_there_spec ?u_B ?u_F ?u_X ?u_N ?u_T ?u_hk ?u_hdp ?u_hu ?u_m1 ?u_m2 ?u_m3 ?u_lo ?u_m4 ?u_m5 ?u_m6 ?_; (case u_B => k_asm); (case u_F => k_asm); (case u_X => k_asm); (case u_N => k_asm); (case u_T => k_asm); (case u_hk => first | exact rfl | assumption); (case u_hdp => ktr_room); (case u_hu => ktr_units); (case u_m1 => k_mem); (case u_m2 => k_mem); (case u_m3 => k_mem); (case u_lo => assumption); (case u_m4 => assumption); (case u_m5 => first | assumption | (refine RowsAt.mono ?_ (by assumption); intro pₖ hpₖ; simp [hpₖ])); (case u_m6 => first | assumption | (refine' rem_tup ?zz; (case zz => k_mem)))); intro b9ₖ h9ₖ tk9ₖ hb9ₖ F9ₖ N9ₖ; (try k_sweep)); all_goals ((try revert N9ₖ); (try revert F9ₖ); (try revert hb9ₖ); (try revert tk9ₖ); (try revert h9ₖ); (try revert b9ₖ); (try revert hpₖ); (try revert pₖ); intros)))
  trivial
theorem row_some : ∀ {w : World} {mean : ExcName → Option Value} {mg mb : Str → Option Value} {dp un : Nat} {gd : Option (List Code)} {cn : Str} {cs : Scope} {a : Addr} {ccd : Value} {cl : List (Str × Addr)} {outer : List Env} {A₀ : Around} {base h₀ : Heap} {L : Addr} {m : Str → Option Value} {news : List (Addr × Obj)} {s : Shared}
    {Q E : Value → Shared → Prop} (B : Below A₀ base outer h₀) (F : Fr h₀ L s.heap m) (X : (hd.heap_1 w.params).In h₀) (N : News h₀ L s.heap news) (T : Top topProg LS mean mg mb h₀) (hk : cs.kind = .function) (hdp : dp < 890) (hu : un < 8000)
    {tb td rd : Addr} {tt : Tok} {ro : Obj} {rs : List R} {kvs : List (Int × Value)} {xo : Int} {to_ : Tok} {v : Value} (m1 : (tb, instObj 164 td) ∈ news) (m2 : (td, dictOf [⟨PyData.keyHash w.params (Str.ofString "rows"), .str (Str.ofString "rows") tt, .ref rd⟩] 1) ∈ news) (m3 : (rd, ro) ∈ news) (lo : (rd == sysModules) = false) (m4 : ro.IsDictOf (intKind PySem.Challenge.rw_on0339_01.row.prog w) kvs) (m5 : RowsAt w news rs kvs) (hva : valueAt kvs xo = some v)
    (ret : ∀ h' tk', Fr h₀ L h' m → News h₀ L h' news → Q v { s with heap := h', toks := tk' }),
    wpAny (model PySem.Challenge.rw_on0339_01.row.prog w) (ktrTop dp un gd cn cs L a ccd cl outer) (call (.ref 126) [.ref tb, .int xo to_]) Q E s := by
  intro w mean mg mb dp un gd cn cs a ccd cl outer A₀ base h₀ L m news s Q E B F X N T hk hdp hu tb td rd tt ro rs kvs xo to_ v m1 m2 m3 lo m4 m5 hva ret
  exact row_spec B F X N T hk hdp hu m1 m2 m3 lo m4 m5 (fun h => by rw [hva] at h; cases h) (fun v h' tk' hv => by rw [hva] at hv; cases hv; exact ret h' tk')
theorem row_none : ∀ {w : World} {mean : ExcName → Option Value} {mg mb : Str → Option Value} {dp un : Nat} {gd : Option (List Code)} {cn : Str} {cs : Scope} {a : Addr} {ccd : Value} {cl : List (Str × Addr)} {outer : List Env} {A₀ : Around} {base h₀ : Heap} {L : Addr} {m : Str → Option Value} {news : List (Addr × Obj)} {s : Shared}
    {Q E : Value → Shared → Prop} (B : Below A₀ base outer h₀) (F : Fr h₀ L s.heap m) (X : (hd.heap_1 w.params).In h₀) (N : News h₀ L s.heap news) (T : Top topProg LS mean mg mb h₀) (hk : cs.kind = .function) (hdp : dp < 890) (hu : un < 8000)
    {tb td rd : Addr} {tt : Tok} {ro : Obj} {rs : List R} {kvs : List (Int × Value)} {xo : Int} {to_ : Tok} (m1 : (tb, instObj 164 td) ∈ news) (m2 : (td, dictOf [⟨PyData.keyHash w.params (Str.ofString "rows"), .str (Str.ofString "rows") tt, .ref rd⟩] 1) ∈ news) (m3 : (rd, ro) ∈ news) (lo : (rd == sysModules) = false) (m4 : ro.IsDictOf (intKind PySem.Challenge.rw_on0339_01.row.prog w) kvs) (m5 : RowsAt w news rs kvs) (hva : valueAt kvs xo = none)
    (rai : ∀ e h' g₂ tk', RaisedSN base g₂ (envX cn cs L a ccd cl :: outer) e (.ref 68) news h' → Fr h₀ L g₂ m → g₂.UpToSlots h' → E (.ref e) { s with heap := h', toks := tk' }),
    wpAny (model PySem.Challenge.rw_on0339_01.row.prog w) (ktrTop dp un gd cn cs L a ccd cl outer) (call (.ref 126) [.ref tb, .int xo to_]) Q E s := by
  intro w mean mg mb dp un gd cn cs a ccd cl outer A₀ base h₀ L m news s Q E B F X N T hk hdp hu tb td rd tt ro rs kvs xo to_ m1 m2 m3 lo m4 m5 hva rai
  exact row_spec B F X N T hk hdp hu m1 m2 m3 lo m4 m5 (fun _ => rai) (fun v h' tk' hv => by rw [hva] at hv; cases hv)
theorem kset_C9_2 : True := by
  k_with "call ref" => (((k_here; (with_reducible show wpAny _ _ (call (Value.ref 126) _) _ _ _); k_dflt (refine' row_some ?u_B ?u_F ?u_X ?u_N ?u_T ?u_hk ?u_hdp ?u_hu ?u_m1 ?u_m2 ?u_m3 ?u_lo ?u_m4 ?u_m5 ?u_hva  ?_; (case u_B => k_asm); (case u_F => k_asm); (case u_X => k_asm); (case u_N => k_asm); (case u_T => k_asm); (case u_hk => first | exact rfl | assumption); (case u_hdp => ktr_room); (case u_hu => ktr_units); (case u_m1 => k_mem); (case u_m2 => k_mem); (case u_m3 => k_mem); (case u_lo => assumption); (case u_m4 => assumption); (case u_m5 => first | assumption | (refine RowsAt.mono ?_ (by assumption); intro pₖ hpₖ; simp [hpₖ])); (case u_hva => assumption)); (all_goals intros); (all_goals (try k_sweep))); all_goals ((try revert hpₖ); (try revert pₖ); intros)))
  k_with "call ref" => (((k_here; (with_reducible show wpAny _ _ (call (Value.ref 126) _) _ _ _); k_dflt (refine' row_none ?u_B ?u_F ?u_X ?u_N ?u_T ?u_hk ?u_hdp ?u_hu ?u_m1 ?u_m2 ?u_m3 ?u_lo ?u_m4 ?u_m5 ?u_hva  ?_; (case u_B => k_asm); (case u_F => k_asm); (case u_X => k_asm); (case u_N => k_asm); (case u_T => k_asm); (case u_hk => first | exact rfl | assumption); (case u_hdp => ktr_room); (case u_hu => ktr_units); (case u_m1 => k_mem); (case u_m2 => k_mem); (case u_m3 => k_mem); (case u_lo => assumption); (case u_m4 => assumption); (case u_m5 => first | assumption | (refine RowsAt.mono ?_ (by assumption); intro pₖ hpₖ; simp [hpₖ])); (case u_hva => assumption)); (all_goals intros); (all_goals (try k_sweep))); all_goals ((try revert hpₖ); (try revert pₖ); intros)))
  trivial
theorem connect_spec : ∀ {w : World} {mean : ExcName → Option Value} {mg mb : Str → Option Value} {dp un : Nat} {gd : Option (List Code)} {cn : Str} {cs : Scope} {a : Addr} {ccd : Value} {cl : List (Str × Addr)} {outer : List Env} {A₀ : Around} {base h₀ : Heap} {L : Addr} {m : Str → Option Value} {rd : Addr} {ro : Obj} {rest : List (Addr × Obj)} {s : Shared}
    {Q E : Value → Shared → Prop} (B : Below A₀ base outer h₀) (F : Fr h₀ L s.heap m) (X : (hd.heap_1 w.params).In h₀) (N : News h₀ L s.heap ((rd, ro) :: rest)) (T : Top topProg LS mean mg mb h₀) (hk : cs.kind = .function) (hdp : dp < 870) (hu : un < 7800)
    {tb td : Addr} {tt : Tok} {rs : List R} {kvs : List (Int × Value)} {xo xa xp : Int} {to_ ta tp : Tok} (m1 : (tb, instObj 164 td) ∈ rest) (m2 : (td, dictOf [⟨PyData.keyHash w.params (Str.ofString "rows"), .str (Str.ofString "rows") tt, .ref rd⟩] 1) ∈ rest) (lo : (rd == sysModules) = false) (m4 : ro.IsDictOf (intKind PySem.Challenge.rw_on0339_01.row.prog w) kvs) {R0 : List (Addr × Obj)} (m5 : RowsAt w R0 rs kvs) (hR : ∀ p ∈ R0, p ∈ rest) (hr : ∀ p ∈ rest, p.1 ≠ rd) (hsz : kvs.length ≤ sizeLine)
    (raiS : valueAt kvs xo = none → ∀ e h' g₂ tk', RaisedSN base g₂ (envX cn cs L a ccd cl :: outer) e (.ref 68) ((rd, ro) :: rest) h' → Fr h₀ L g₂ m → g₂.UpToSlots h' → E (.ref e) { s with heap := h', toks := tk' })
    (raiP : ∀ r ∈ rs, r.o = xo → (∃ r' ∈ rs, r'.o ≠ xo ∧ r'.a = r.a ∧ r'.p = r.p ∧ r'.r = some (xa, xp)) → ∀ e h' g₂ tk', RaisedSN base g₂ (envX cn cs L a ccd cl :: outer) e (.ref 56) ((rd, ro) :: rest) h' → Fr h₀ L g₂ m → g₂.UpToSlots h' → E (.ref e) { s with heap := h', toks := tk' })
    (ret : ∀ r ∈ rs, r.o = xo → (¬ ∃ r' ∈ rs, r'.o ≠ xo ∧ r'.a = r.a ∧ r'.p = r.p ∧ r'.r = some (xa, xp)) → ∀ da t rv od' D tp h' tk', (da, rowD w t r.o r.a r.p rv) ∈ R0 → (∀ q ∈ (rd, ro) :: rest, @LT.lt Nat _ q.1 D) → Fr h₀ L h' m → News h₀ L h' ((rd, ro) :: (da, od') :: (D, tp) :: offA rest da) → RowsAt w ((da, od') :: (D, tp) :: offA R0 da) (rs.map fun r => if r.o = xo then { r with r := some (xa, xp) } else r) kvs → Q .none { s with heap := h', toks := tk' }),
    wpAny (model PySem.Challenge.rw_on0339_01.row.prog w) (ktrTop dp un gd cn cs L a ccd cl outer) (call (.ref 147) [.ref tb, .int xo to_, .int xa ta, .int xp tp]) Q E s := by
  k_fill
  intro w mean mg mb dp un gd cn cs a ccd cl outer A₀ base h₀ L m rd ro rest s Q E B F X N T hk hdp hu tb td tt rs kvs xo xa xp to_ ta tp m1 m2 lo m4 R0 m5 hR hr hsz raiS raiP ret
  have m5' := m5.mono hR
  refine wpAny_call ?_
  k_dflt (refine' code_def (binds := [(Str.ofString "self", .ref tb), (Str.ofString "owner", .int xo to_), (Str.ofString "address", .int xa ta), (Str.ofString "port", .int xp tp)]) ?k1 ?k2 ?k3 ?k4 ?k5 ?kA ?kF ?kK ?k6 ?k7 ?k8 ?k9 ?kB ?_ ?c2 ?c3 ?c4 ?c5; (case kA => exact rfl); (case kF => exact rfl); (case kK => assumption); (case k1 => k_asm); (case k2 => k_asm); (case k3 => k_asm); (case k4 => k_asm); (case k5 => k_asm); (case k6 => k_is); (case k7 => k_is); (case k8 => ktr_room); (case k9 => exact BindsTo.of_eq rfl); (case c5 => decide); (case kB => exact locs rfl); (case c2 => exact rfl); (case c3 => exact rfl); (case c4 => exact rfl))
  intro g1 L1 h1 FG1 F1 N1 B1 X1 T1
  change Fr g1 L1 h1 (fun y => List.lookup y [(Str.ofString "port", .int xp tp), (Str.ofString "address", .int xa ta), (Str.ofString "owner", .int xo to_), (Str.ofString "self", .ref tb)]) at F1
  dsimp only
  k_fold
  cases hva : valueAt kvs xo with
  | none =>
    k_steps
    exact raiS hva _ _ _ _ (by assumption) (by assumption) (by assumption)
  | some v =>
    obtain ⟨i, hi⟩ := valueAt_idx hva
    obtain ⟨r, ra, hr9, rfl, rfl, hra⟩ := m5.get hi
    obtain ⟨da, t, rv, e10, e20, e30⟩ := hra
    have e1 := hR _ e10
    have e2 := hR _ e20
    have e3 := e30.mono hR
    have hra : RowAt w rest r ra := ⟨da, t, rv, e1, e2, e3⟩
    have hrm := List.mem_of_getElem? hr9
    k_steps
    · exact raiP r hrm rfl ((by assumption : _ ↔ _).mp (by assumption)) _ _ _ _ (raisedN_sub (by assumption) (fun p hp => List.mem_cons_of_mem _ hp)) (by assumption) (by assumption)
    · rename_i l9 h0 b9 h9 tk9 hb9 F9 N9 hf9
      have hfr := conn_fresh (tp := tupO [.int xa ta, .int xp tp]) (ro := ro) l9 hr e2
      have N8 := conn_led N9 e2
      have hno : ¬ ∃ r' ∈ rs, r'.o ≠ r.o ∧ r'.a = r.a ∧ r'.p = r.p ∧ r'.r = some (xa, xp) := fun hx => absurd (hb9.mpr hx) (by simp [hf9])
      have NR := news_sub N9 (fun p hp => List.mem_cons_of_mem _ (List.mem_cons_of_mem _ (hR p hp))) (l' := R0)
      have hset := fun news' rv' keep hnew hrem => rows_set (news' := news') (rv := rv') (q := some (xa, xp)) NR e10 e20 keep hnew hrem m5 (isDict_uniq m4 hva)
      have hkeep := keep_offA (news_sub N9 (fun p hp => List.mem_cons_of_mem _ (List.mem_cons_of_mem _ hp)) (l' := rest)) e2
      have e1' := hkeep _ e1 (fun _ _ _ _ _ => rowD_ne_inst)
      have hD9 : ∀ q ∈ (rd, ro) :: rest, @LT.lt Nat _ q.1 _ := fun q hq => (List.mem_cons.mp hq).elim (fun e => e ▸ l9.1) (fun hq => allLt_mem l9.2 hq)
      clear N9 NR
      k_steps
      rename News _ _ _ _ => NZ
      exact ret r hrm rfl hno da _ _ _ _ _ _ _ e20 hD9 (by k_asm) (news_rot2 NZ) (hset _ _ (fun p hp hne => List.mem_cons_of_mem _ (List.mem_cons_of_mem _ (mem_offA.mpr ⟨hp, hne⟩))) List.mem_cons_self (rem_tup (List.mem_cons_of_mem _ List.mem_cons_self)))
end
section
open PySem PySem.W PySem.Calls PyProof.Rows PyProof.V PySem.Spec
theorem kclrC10 : True := by
  w_top off
  k_with_none
  trivial
theorem kset_C10_1 : True := by
  k_with "k_mem" => (first | assumption | exact List.mem_cons_self | (refine List.mem_cons_of_mem _ ?_; k_mem))
  k_with "k_all" => (first | assumption | exact allLt_ne (by assumption) | exact allLt_ne1 (by assumption) | exact allLt_ne2 (by assumption) | exact allLt_ne3 (by assumption) | exact allLt_ne4 (by assumption) | exact allLt_ne5 (by assumption) | exact allLt_ne6 (by assumption))
  k_with "exec Raise some none" => ((k_here; (with_reducible show wpAny _ _ (exec (Stmt.Raise (some (Expr.Call (Expr.Name (Str.ofString "FormError") _) _ [] _)) none _) _) _ _ _); k_dflt (refine' Raise_I (C := 44) ?X ?h ?b ?hh ?_; (case X => k_asm); (case h => k_is); (case b => decide); (case hh => rfl))))
  k_with "call ref" => (((k_here; (with_reducible show wpAny _ _ (call (Value.ref 44) _) _ _ _); k_dflt (refine' call_excK ?F ?X ?T ?room ?hC ?hi ?hc ?hmro ?hdc ?hs ?ha ?_; (case F => k_asm); (case X => k_asm); (case T => k_asm); (case room => ktr_room); (case hC => k_is); (case hi => k_is); (case hc => k_is); (case hmro => rfl); (case hdc => rfl); (case hs => k_is); (case ha => k_is)); intro e'ₖ t'ₖ d'ₖ h'ₖ tk'ₖ hx'ₖ he'ₖ); all_goals ((try revert he'ₖ); (try revert hx'ₖ); (try revert tk'ₖ); (try revert h'ₖ); (try revert d'ₖ); (try revert t'ₖ); (try revert e'ₖ); intros)))
  k_with "exec Raise some none" => ((k_here; (with_reducible show wpAny _ _ (exec (Stmt.Raise (some (Expr.Call (Expr.Name (Str.ofString "PortError") _) _ [] _)) none _) _) _ _ _); k_dflt (refine' Raise_I (C := 56) ?X ?h ?b ?hh ?_; (case X => k_asm); (case h => k_is); (case b => decide); (case hh => rfl))))
  k_with "call ref" => (((k_here; (with_reducible show wpAny _ _ (call (Value.ref 56) _) _ _ _); k_dflt (refine' call_excK ?F ?X ?T ?room ?hC ?hi ?hc ?hmro ?hdc ?hs ?ha ?_; (case F => k_asm); (case X => k_asm); (case T => k_asm); (case room => ktr_room); (case hC => k_is); (case hi => k_is); (case hc => k_is); (case hmro => rfl); (case hdc => rfl); (case hs => k_is); (case ha => k_is)); intro e'ₖ t'ₖ d'ₖ h'ₖ tk'ₖ hx'ₖ he'ₖ); all_goals ((try revert he'ₖ); (try revert hx'ₖ); (try revert tk'ₖ); (try revert h'ₖ); (try revert d'ₖ); (try revert t'ₖ); (try revert e'ₖ); intros)))
  k_with "exec Raise some none" => ((k_here; (with_reducible show wpAny _ _ (exec (Stmt.Raise (some (Expr.Call (Expr.Name (Str.ofString "StateError") _) _ [] _)) none _) _) _ _ _); k_dflt (refine' Raise_I (C := 68) ?X ?h ?b ?hh ?_; (case X => k_asm); (case h => k_is); (case b => decide); (case hh => rfl))))
  k_with "call ref" => (((k_here; (with_reducible show wpAny _ _ (call (Value.ref 68) _) _ _ _); k_dflt (refine' call_excK ?F ?X ?T ?room ?hC ?hi ?hc ?hmro ?hdc ?hs ?ha ?_; (case F => k_asm); (case X => k_asm); (case T => k_asm); (case room => ktr_room); (case hC => k_is); (case hi => k_is); (case hc => k_is); (case hmro => rfl); (case hdc => rfl); (case hs => k_is); (case ha => k_is)); intro e'ₖ t'ₖ d'ₖ h'ₖ tk'ₖ hx'ₖ he'ₖ); all_goals ((try revert he'ₖ); (try revert hx'ₖ); (try revert tk'ₖ); (try revert h'ₖ); (try revert d'ₖ); (try revert t'ₖ); (try revert e'ₖ); intros)))
  k_with "RaiseEnd" => ((refine RaiseEnd.intro (Frag.In.keeps (by k_asm) (fun b o q => ExcNew.keeps (by assumption) b o (Fr.keep (by k_asm) b o q))) (by assumption) ?_))
  k_with "leaving ref" => (((k_here; (refine' leave_excK ?k1 ?k0 ?k2 ?k3 ?_; (case k0 => assumption); (case k1 => assumption); (case k2 => assumption); (case k3 => k_asm); k_whole; intro h'ₖ R'ₖ U'ₖ; (try dsimp only at R'ₖ U'ₖ ⊢))); all_goals ((try revert U'ₖ); (try revert R'ₖ); (try revert h'ₖ); intros)))
  k_with "compareOp NotIn int ref" => ((k_here; k_dflt (first
  | (refine' notin_some (knd := intKind _ _) ?N ?hp ?hd ?lo (intKind_is _ _ _ _) ?hv ?_; (case N => k_asm); (case hd => assumption); (case hp => k_mem); (case lo => assumption); (case hv => assumption))
  | (refine' notin_none (knd := intKind _ _) ?N ?hp ?hd ?lo (intKind_is _ _ _ _) ?hv ?_; (case N => k_asm); (case hd => assumption); (case hp => k_mem); (case lo => assumption); (case hv => assumption)))))
  k_with "compareOp In int ref" => ((k_here; k_dflt (first
  | (refine' in_some (knd := intKind _ _) ?N ?hp ?hd ?lo (intKind_is _ _ _ _) ?hv ?_; (case N => k_asm); (case hd => assumption); (case hp => k_mem); (case lo => assumption); (case hv => assumption))
  | (refine' in_none (knd := intKind _ _) ?N ?hp ?hd ?lo (intKind_is _ _ _ _) ?hv ?_; (case N => k_asm); (case hd => assumption); (case hp => k_mem); (case lo => assumption); (case hv => assumption)))))
  k_with "setItem ref int" => (((k_here; k_dflt (refine' kda_set (knd := intKind _ _) ?F ?N ?U ?d (intKind_is _ _ _ _) ?z ?_; (case F => k_asm); (case N => k_asm); (case U => k_updF); (case d => assumption); (case z => assumption)); intro h'ₖ o'ₖ F'ₖ N'ₖ hd'ₖ; (try dsimp only at N'ₖ); (try k_sweep)); all_goals ((try revert hd'ₖ); (try revert N'ₖ); (try revert F'ₖ); (try revert o'ₖ); (try revert h'ₖ); intros)))
  k_with "leaving ref" => (((k_here; k_dflt (refine' leave_onS1 ?k0 ?k1 ?k2 ?k3 ?_; (case k2 => assumption); (case k0 => assumption); (case k1 => assumption); (case k3 => assumption)); intro h'ₖ R'ₖ U'ₖ; (try dsimp only at R'ₖ U'ₖ ⊢)); all_goals ((try revert U'ₖ); (try revert R'ₖ); (try revert h'ₖ); intros)))
  k_with "getMethod ref" => ((k_here; (with_reducible show wpAny _ _ (getMethod (Value.ref _) (Str.ofString "pop") _) _ _ _); k_dflt (refine' kob_method (knd := PySem.intKind _ _) PySem.F.slot_dict_pop PySem.F.type_dict_pop ?N ?hp ?hd ?_; (case N => k_asm); (case hd => assumption); (case hp => k_mem))))
  k_with "call builtin:dict.pop" => (((k_here; k_dflt (refine' kob_pop (knd := PySem.intKind _ _) (more := []) ?F ?N ?U ?d (intKind_is _ _ _ _) (.inl rfl) (by rfl) (PySem.F.args_dict_pop_2 _ _) ?l ?z ?_; (case F => k_asm); (case N => k_asm); (case U => k_updF); (case d => assumption); (case l => assumption); (case z => assumption)); intro h'ₖ o'ₖ F'ₖ N'ₖ hd'ₖ; (try dsimp only at N'ₖ); (try k_sweep)); all_goals ((try revert hd'ₖ); (try revert N'ₖ); (try revert F'ₖ); (try revert o'ₖ); (try revert h'ₖ); intros)))
  k_with "call ref" => (((k_here; (with_reducible show wpAny _ _ (call (Value.ref 126) _) _ _ _); k_dflt (refine' row_some ?u_B ?u_F ?u_X ?u_N ?u_T ?u_hk ?u_hdp ?u_hu ?u_m1 ?u_m2 ?u_m3 ?u_lo ?u_m4 ?u_m5 ?u_hva  ?_; (case u_B => k_asm); (case u_F => k_asm); (case u_X => k_asm); (case u_N => k_asm); (case u_T => k_asm); (case u_hk => first | exact rfl | assumption); (case u_hdp => ktr_room); (case u_hu => ktr_units); (case u_m1 => k_mem); (case u_m2 => k_mem); (case u_m3 => k_mem); (case u_lo => assumption); (case u_m4 => assumption); (case u_m5 => first | assumption | (refine RowsAt.mono ?_ (by assumption); intro pₖ hpₖ; simp [hpₖ])); (case u_hva => assumption)); (all_goals intros); (all_goals (try k_sweep))); all_goals ((try revert hpₖ); (try revert pₖ); intros)))
  k_with "call ref" => (((k_here; (with_reducible show wpAny _ _ (call (Value.ref 126) _) _ _ _); k_dflt (refine' row_none ?u_B ?u_F ?u_X ?u_N ?u_T ?u_hk ?u_hdp ?u_hu ?u_m1 ?u_m2 ?u_m3 ?u_lo ?u_m4 ?u_m5 ?u_hva  ?_; (case u_B => k_asm); (case u_F => k_asm); (case u_X => k_asm); (case u_N => k_asm); (case u_T => k_asm); (case u_hk => first | exact rfl | assumption); (case u_hdp => ktr_room); (case u_hu => ktr_units); (case u_m1 => k_mem); (case u_m2 => k_mem); (case u_m3 => k_mem); (case u_lo => assumption); (case u_m4 => assumption); (case u_m5 => first | assumption | (refine RowsAt.mono ?_ (by assumption); intro pₖ hpₖ; simp [hpₖ])); (case u_hva => assumption)); (all_goals intros); (all_goals (try k_sweep))); all_goals ((try revert hpₖ); (try revert pₖ); intros)))
  trivial
theorem remove_spec : ∀ {w : World} {mean : ExcName → Option Value} {mg mb : Str → Option Value} {dp un : Nat} {gd : Option (List Code)} {cn : Str} {cs : Scope} {a : Addr} {ccd : Value} {cl : List (Str × Addr)} {outer : List Env} {A₀ : Around} {base h₀ : Heap} {L : Addr} {m : Str → Option Value} {rd : Addr} {ro : Obj} {rest : List (Addr × Obj)} {s : Shared}
    {Q E : Value → Shared → Prop} (B : Below A₀ base outer h₀) (F : Fr h₀ L s.heap m) (X : (hd.heap_1 w.params).In h₀) (N : News h₀ L s.heap ((rd, ro) :: rest)) (T : Top topProg LS mean mg mb h₀) (hk : cs.kind = .function) (hdp : dp < 870) (hu : un < 7800)
    {tb td : Addr} {tt : Tok} {rs : List R} {kvs : List (Int × Value)} {xo : Int} {to_ : Tok} (m1 : (tb, instObj 164 td) ∈ rest) (m2 : (td, dictOf [⟨PyData.keyHash w.params (Str.ofString "rows"), .str (Str.ofString "rows") tt, .ref rd⟩] 1) ∈ rest) (lo : (rd == sysModules) = false) (m4 : ro.IsDictOf (intKind PySem.Challenge.rw_on0339_01.row.prog w) kvs) (m5 : RowsAt w rest rs kvs) (hr : ∀ p ∈ rest, p.1 ≠ rd) (hsz : kvs.length ≤ sizeLine)
    (raiS : valueAt kvs xo = none → ∀ e h' g₂ tk', RaisedSN base g₂ (envX cn cs L a ccd cl :: outer) e (.ref 68) ((rd, ro) :: rest) h' → Fr h₀ L g₂ m → g₂.UpToSlots h' → E (.ref e) { s with heap := h', toks := tk' })
    (ret : (∃ v, valueAt kvs xo = some v) → ∀ ro' h' tk', Fr h₀ L h' m → News h₀ L h' ((rd, ro') :: rest) → ro'.IsDictOf (intKind PySem.Challenge.rw_on0339_01.row.prog w) (without kvs xo) → Q .none { s with heap := h', toks := tk' }),
    wpAny (model PySem.Challenge.rw_on0339_01.row.prog w) (ktrTop dp un gd cn cs L a ccd cl outer) (call (.ref 154) [.ref tb, .int xo to_]) Q E s := by
  k_fill
  intro w mean mg mb dp un gd cn cs a ccd cl outer A₀ base h₀ L m rd ro rest s Q E B F X N T hk hdp hu tb td tt rs kvs xo to_ m1 m2 lo m4 m5 hr hsz raiS ret
  refine wpAny_call ?_
  k_dflt (refine' code_def (binds := [(Str.ofString "self", .ref tb), (Str.ofString "owner", .int xo to_)]) ?k1 ?k2 ?k3 ?k4 ?k5 ?kA ?kF ?kK ?k6 ?k7 ?k8 ?k9 ?kB ?_ ?c2 ?c3 ?c4 ?c5; (case kA => exact rfl); (case kF => exact rfl); (case kK => assumption); (case k1 => k_asm); (case k2 => k_asm); (case k3 => k_asm); (case k4 => k_asm); (case k5 => k_asm); (case k6 => k_is); (case k7 => k_is); (case k8 => ktr_room); (case k9 => exact BindsTo.of_eq rfl); (case c5 => decide); (case kB => exact locs rfl); (case c2 => exact rfl); (case c3 => exact rfl); (case c4 => exact rfl))
  intro g1 L1 h1 FG1 F1 N1 B1 X1 T1
  change Fr g1 L1 h1 (fun y => List.lookup y [(Str.ofString "owner", .int xo to_), (Str.ofString "self", .ref tb)]) at F1
  dsimp only
  k_fold
  cases hva : valueAt kvs xo with
  | none =>
    k_steps
    exact raiS hva _ _ _ _ (by assumption) (by assumption) (by assumption)
  | some v =>
    k_steps
    exact ret ⟨_, hva⟩ _ _ _ (by k_asm) (by k_asm) (by assumption)
end
section
open PySem PySem.W PySem.Calls PyProof.Rows PyProof.V PySem.Spec
theorem kclrC11 : True := by
  w_top off
  k_with_none
  trivial
theorem kset_C11_1 : True := by
  k_with "k_mem" => (first | assumption | exact List.mem_cons_self | (refine List.mem_cons_of_mem _ ?_; k_mem))
  k_with "k_all" => (first | assumption | exact allLt_ne (by assumption) | exact allLt_ne1 (by assumption) | exact allLt_ne2 (by assumption) | exact allLt_ne3 (by assumption) | exact allLt_ne4 (by assumption) | exact allLt_ne5 (by assumption) | exact allLt_ne6 (by assumption))
  k_with "compareOp NotIn" => (((k_here; k_dflt (refine' rem_notin ?u_N ?u_l ?u_q ?u_1 ?u_h ?_; (case u_N => k_asm); (case u_1 => first | assumption | exact RemAt.mono (by assumption) (by intro pₖ hpₖ; simp [hpₖ])); (case u_l => k_mem); (case u_q => k_mem); (case u_h => ktr_units))); all_goals ((try revert hpₖ); (try revert pₖ); intros)))
  k_with "k_handed" => (assumption)
  trivial
theorem lawfits_spec : ∀ {w : World} {mean : ExcName → Option Value} {mg mb : Str → Option Value} {dp un : Nat} {gd : Option (List Code)} {cn : Str} {cs : Scope} {a : Addr} {ccd : Value} {cl : List (Str × Addr)} {outer : List Env} {A₀ : Around} {base h₀ : Heap} {L : Addr} {m : Str → Option Value} {news : List (Addr × Obj)} {s : Shared}
    {Q E : Value → Shared → Prop} (B : Below A₀ base outer h₀) (F : Fr h₀ L s.heap m) (X : (hd.heap_1 w.params).In h₀) (N : News h₀ L s.heap news) (T : Top topProg LS mean mg mb h₀) (hk : cs.kind = .function) (hdp : dp < 880) (hu : un < 7900)
    {ta tq : Addr} {tg tp q1 q2 : Int} {ttg ttp t1 t2 : Tok} {r : R} (hra : TRowAt news r ta) (hq : (tq, tupO [.int q1 t1, .int q2 t2]) ∈ news)
    (ret : ∀ (v : Int) tv h' tk', v = fitsV r tg tp (q1, q2) → Fr h₀ L h' m → News h₀ L h' news → Q (.int v tv) { s with heap := h', toks := tk' }),
    wpAny (model PySem.Challenge.rw_on0339_01.row.prog w) (ktrTop dp un gd cn cs L a ccd cl outer) (call (.ref 302) [.ref ta, .int tg ttg, .int tp ttp, .ref tq]) Q E s := by
  k_fill
  intro w mean mg mb dp un gd cn cs a ccd cl outer A₀ base h₀ L m news s Q E B F X N T hk hdp hu ta tq tg tp q1 q2 ttg ttp t1 t2 r hra hq ret
  refine wpAny_call ?_
  k_dflt (refine' code_def (binds := [(Str.ofString "row", .ref ta), (Str.ofString "target", .int tg ttg), (Str.ofString "port", .int tp ttp), (Str.ofString "remote", .ref tq)]) ?k1 ?k2 ?k3 ?k4 ?k5 ?kA ?kF ?kK ?k6 ?k7 ?k8 ?k9 ?kB ?_ ?c2 ?c3 ?c4 ?c5; (case kA => exact rfl); (case kF => exact rfl); (case kK => assumption); (case k1 => k_asm); (case k2 => k_asm); (case k3 => k_asm); (case k4 => k_asm); (case k5 => k_asm); (case k6 => k_is); (case k7 => k_is); (case k8 => ktr_room); (case k9 => exact BindsTo.of_eq rfl); (case c5 => decide); (case kB => exact locs rfl); (case c2 => exact rfl); (case c3 => exact rfl); (case c4 => exact rfl))
  intro g1 L1 h1 FG1 F1 N1 B1 X1 T1
  change Fr g1 L1 h1 (fun y => List.lookup y [(Str.ofString "remote", .ref tq), (Str.ofString "port", .int tp ttp), (Str.ofString "target", .int tg ttg), (Str.ofString "row", .ref ta)]) at F1
  dsimp only
  k_fold
  obtain ⟨u1, u2, rv, e2, e3⟩ := hra
  obtain ⟨ro, r_a, rp, rr⟩ := r
  dsimp only at e2 e3
  have hrh := e3.handed
  have e3' := e3
  rcases rr with _ | ⟨r1, r2⟩
  · cases e3'
    k_steps
    all_goals (refine ret _ _ _ _ ?_ (by k_asm) (news_sub (by assumption) (by intro p hp; simp [hp])))
    all_goals first
      | exact lf0 (r := ⟨_, _, _, _⟩) (by assumption)
      | exact lf1 (r := ⟨_, _, _, _⟩) (by assumption)
      | exact lf2 (r := ⟨_, _, _, _⟩) (by assumption)
      | exact lf3 (r := ⟨_, _, _, _⟩) (by assumption) (by assumption) rfl
      | exact lf4 (r := ⟨_, _, _, _⟩) (by assumption) (by assumption) (by simp) (by assumption)
  · obtain ⟨tr, tr1, tr2, rfl, hrm⟩ := e3'
    k_steps
    all_goals (refine ret _ _ _ _ ?_ (by k_asm) (news_sub (by assumption) (by intro p hp; simp [hp])))
    all_goals first
      | exact lf0 (r := ⟨_, _, _, _⟩) (by assumption)
      | exact lf1 (r := ⟨_, _, _, _⟩) (by assumption)
      | exact lf2 (r := ⟨_, _, _, _⟩) (by assumption)
      | exact lf3 (r := ⟨_, _, _, _⟩) (by assumption) (by assumption) rfl
      | exact lf4 (r := ⟨_, _, _, _⟩) (by assumption) (by assumption) (by simp) (by assumption)
end
section
open PySem PySem.W PySem.Calls PyProof.Rows PyProof.V PySem.Spec
theorem kclrC12 : True := by
  w_top off
  k_with_none
  trivial
theorem kset_C12_1 : True := by
  k_with "pyIter ref" => ((k_here; refine Stop.here ?_))
  k_with "k_mem" => (first | assumption | exact List.mem_cons_self | (refine List.mem_cons_of_mem _ ?_; k_mem) | (refine List.mem_append_right _ ?_; k_mem))
  k_with "subscriptTail" => ((k_here; (with_reducible show wpAny _ _ (subscriptTail _ _ (Value.ref _) (Value.int _ _)) _ _ _); k_dflt (refine' kda_item (knd := intKind _ _) ?N ?hp ?hd (intKind_is _ _ _ _) ?hl ?_; (case N => k_asm); (case hp => k_mem); (case hd => assumption); (case hl => assumption))))
  k_with "TurnPost" => (dsimp only [TurnPost])
  k_with "exec For Name Name cons nil" => ((k_here; (rename Fr _ _ _ _ => lF'); (with_unfolding_all refine' For_invVF lF' ?k1 ?k2 ?_; (case k1 => exact rfl); (case k2 => exact rfl); k_whole)))
  k_with "eval Name" => ((k_here; k_dflt (refine' PyProof.Rows.ld ?k1 ?k2 ?_; (case k1 => k_asm); (case k2 => assumption); k_whole)))
  k_with "k_handed" => (assumption)
  k_with "call ref" => (((k_here; (with_reducible show wpAny _ _ (call (Value.ref 126) _) _ _ _); k_dflt (refine' row_some ?u_B ?u_F ?u_X ?u_N ?u_T ?u_hk ?u_hdp ?u_hu ?u_m1 ?u_m2 ?u_m3 ?u_lo ?u_m4 ?u_m5 ?u_hva  ?_; (case u_B => k_asm); (case u_F => k_asm); (case u_X => k_asm); (case u_N => k_asm); (case u_T => k_asm); (case u_hk => first | exact rfl | assumption); (case u_hdp => ktr_room); (case u_hu => ktr_units); (case u_m1 => k_mem); (case u_m2 => k_mem); (case u_m3 => k_mem); (case u_lo => assumption); (case u_m4 => assumption); (case u_m5 => first | assumption | (refine RowsAt.mono ?_ (by assumption); intro pₖ hpₖ; simp [hpₖ])); (case u_hva => assumption)); (all_goals intros); (all_goals (try k_sweep))); all_goals ((try revert hpₖ); (try revert pₖ); intros)))
  k_with "call ref" => (((k_here; (with_reducible show wpAny _ _ (call (Value.ref 126) _) _ _ _); k_dflt (refine' row_none ?u_B ?u_F ?u_X ?u_N ?u_T ?u_hk ?u_hdp ?u_hu ?u_m1 ?u_m2 ?u_m3 ?u_lo ?u_m4 ?u_m5 ?u_hva  ?_; (case u_B => k_asm); (case u_F => k_asm); (case u_X => k_asm); (case u_N => k_asm); (case u_T => k_asm); (case u_hk => first | exact rfl | assumption); (case u_hdp => ktr_room); (case u_hu => ktr_units); (case u_m1 => k_mem); (case u_m2 => k_mem); (case u_m3 => k_mem); (case u_lo => assumption); (case u_m4 => assumption); (case u_m5 => first | assumption | (refine RowsAt.mono ?_ (by assumption); intro pₖ hpₖ; simp [hpₖ])); (case u_hva => assumption)); (all_goals intros); (all_goals (try k_sweep))); all_goals ((try revert hpₖ); (try revert pₖ); intros)))
  k_with "call ref" => (((k_here; (with_reducible show wpAny _ _ (call (Value.ref 98) _) _ _ _); k_dflt (refine' fits_spec ?u_B ?u_F ?u_X ?u_N ?u_T ?u_hk ?u_hdp ?u_hu ?u_hra ?u_hq ?_; (case u_B => k_asm); (case u_F => k_asm); (case u_X => k_asm); (case u_N => k_asm); (case u_T => k_asm); (case u_hk => first | exact rfl | assumption); (case u_hdp => ktr_room); (case u_hu => ktr_units); (case u_hra => first | assumption | exact RowAt.mono (by assumption) (by intro pₖ hpₖ; simp [hpₖ])); (case u_hq => refine' rem_tup ?zz; (case zz => k_mem))); intro v9ₖ tv9ₖ h9ₖ tk9ₖ hv9ₖ F9ₖ N9ₖ; (try k_sweep); (try subst hv9ₖ)); all_goals ((try revert N9ₖ); (try revert F9ₖ); (try revert hv9ₖ); (try revert tk9ₖ); (try revert h9ₖ); (try revert tv9ₖ); (try revert v9ₖ); (try revert hpₖ); (try revert pₖ); intros)))
  k_with "call ref" => (((k_here; (with_reducible show wpAny _ _ (call (Value.ref 302) _) _ _ _); k_dflt (refine' lawfits_spec ?u_B ?u_F ?u_X ?u_N ?u_T ?u_hk ?u_hdp ?u_hu ?u_hra ?u_hq ?_; (case u_B => k_asm); (case u_F => k_asm); (case u_X => k_asm); (case u_N => k_asm); (case u_T => k_asm); (case u_hk => first | exact rfl | assumption); (case u_hdp => ktr_room); (case u_hu => ktr_units); (case u_hra => first | assumption | exact TRowAt.mono (by assumption) (by intro pₖ hpₖ; simp [hpₖ])); (case u_hq => k_mem)); intro v9ₖ tv9ₖ h9ₖ tk9ₖ hv9ₖ F9ₖ N9ₖ; (try k_sweep); (try subst hv9ₖ)); all_goals ((try revert N9ₖ); (try revert F9ₖ); (try revert hv9ₖ); (try revert tk9ₖ); (try revert h9ₖ); (try revert tv9ₖ); (try revert v9ₖ); (try revert hpₖ); (try revert pₖ); intros)))
  k_with "call ref" => (((k_here; (with_reducible show wpAny _ _ (call (Value.ref 91) _) _ _ _); k_dflt (refine' is_at_spec ?u_B ?u_F ?u_X ?u_N ?u_T ?u_hk ?u_hdp ?u_hu ?u_m1 ?u_m2 ?_; (case u_B => k_asm); (case u_F => k_asm); (case u_X => k_asm); (case u_N => k_asm); (case u_T => k_asm); (case u_hk => first | exact rfl | assumption); (case u_hdp => ktr_room); (case u_hu => ktr_units); (case u_m1 => k_mem); (case u_m2 => k_mem)); intro b9ₖ h9ₖ tk9ₖ hb9ₖ F9ₖ N9ₖ; (try k_sweep)); all_goals ((try revert N9ₖ); (try revert F9ₖ); (try revert hb9ₖ); (try revert tk9ₖ); (try revert h9ₖ); (try revert b9ₖ); intros)))
  trivial
theorem find_none : ∀ {w : World} {mean : ExcName → Option Value} {mg mb : Str → Option Value} {dp un : Nat} {gd : Option (List Code)} {cn : Str} {cs : Scope} {a : Addr} {ccd : Value} {cl : List (Str × Addr)} {outer : List Env} {A₀ : Around} {base h₀ : Heap} {L : Addr} {m : Str → Option Value} {news : List (Addr × Obj)} {s : Shared}
    {Q E : Value → Shared → Prop} (B : Below A₀ base outer h₀) (F : Fr h₀ L s.heap m) (X : (hd.heap_1 w.params).In h₀) (N : News h₀ L s.heap news) (T : Top topProg LS mean mg mb h₀) (hk : cs.kind = .function) (hdp : dp < 880) (hu : un < 7900)
    {tb td rd : Addr} {tt : Tok} {ro : Obj} {rs : List R} {kvs : List (Int × Value)} {tg tp sa sp : Int} {ttg ttp tsa tsp : Tok} (m1 : (tb, instObj 164 td) ∈ news) (m2 : (td, dictOf [⟨PyData.keyHash w.params (Str.ofString "rows"), .str (Str.ofString "rows") tt, .ref rd⟩] 1) ∈ news) (m3 : (rd, ro) ∈ news) (lo : (rd == sysModules) = false) (m4 : ro.IsDictOf (intKind PySem.Challenge.rw_on0339_01.row.prog w) kvs) (m5 : RowsAt w news rs kvs) (hq : (bestOf (fun r => fitsV r tg tp (sa, sp)) rs).2 = none)
    (ret : ∀ h' tk', Fr h₀ L h' m → News h₀ L h' news → Q .none { s with heap := h', toks := tk' }),
    wpAny (model PySem.Challenge.rw_on0339_01.row.prog w) (ktrTop dp un gd cn cs L a ccd cl outer) (call (.ref 161) [.ref tb, .int tg ttg, .int tp ttp, .int sa tsa, .int sp tsp]) Q E s := by
  intro w mean mg mb dp un gd cn cs a ccd cl outer A₀ base h₀ L m news s Q E B F X N T hk hdp hu tb td rd tt ro rs kvs tg tp sa sp ttg ttp tsa tsp m1 m2 m3 lo m4 m5 hq ret
  exact find_spec B F X N T hk hdp hu m1 m2 m3 lo m4 m5 (fun v h' tk' hv => by rw [hq] at hv; cases hv; exact ret h' tk')
theorem find_some : ∀ {w : World} {mean : ExcName → Option Value} {mg mb : Str → Option Value} {dp un : Nat} {gd : Option (List Code)} {cn : Str} {cs : Scope} {a : Addr} {ccd : Value} {cl : List (Str × Addr)} {outer : List Env} {A₀ : Around} {base h₀ : Heap} {L : Addr} {m : Str → Option Value} {news : List (Addr × Obj)} {s : Shared}
    {Q E : Value → Shared → Prop} (B : Below A₀ base outer h₀) (F : Fr h₀ L s.heap m) (X : (hd.heap_1 w.params).In h₀) (N : News h₀ L s.heap news) (T : Top topProg LS mean mg mb h₀) (hk : cs.kind = .function) (hdp : dp < 880) (hu : un < 7900)
    {tb td rd : Addr} {tt : Tok} {ro : Obj} {rs : List R} {kvs : List (Int × Value)} {tg tp sa sp : Int} {ttg ttp tsa tsp : Tok} {k : Int} (m1 : (tb, instObj 164 td) ∈ news) (m2 : (td, dictOf [⟨PyData.keyHash w.params (Str.ofString "rows"), .str (Str.ofString "rows") tt, .ref rd⟩] 1) ∈ news) (m3 : (rd, ro) ∈ news) (lo : (rd == sysModules) = false) (m4 : ro.IsDictOf (intKind PySem.Challenge.rw_on0339_01.row.prog w) kvs) (m5 : RowsAt w news rs kvs) (hq : (bestOf (fun r => fitsV r tg tp (sa, sp)) rs).2 = some k)
    (ret : ∀ t h' tk', Fr h₀ L h' m → News h₀ L h' news → Q (.int k t) { s with heap := h', toks := tk' }),
    wpAny (model PySem.Challenge.rw_on0339_01.row.prog w) (ktrTop dp un gd cn cs L a ccd cl outer) (call (.ref 161) [.ref tb, .int tg ttg, .int tp ttp, .int sa tsa, .int sp tsp]) Q E s := by
  intro w mean mg mb dp un gd cn cs a ccd cl outer A₀ base h₀ L m news s Q E B F X N T hk hdp hu tb td rd tt ro rs kvs tg tp sa sp ttg ttp tsa tsp k m1 m2 m3 lo m4 m5 hq ret
  exact find_spec B F X N T hk hdp hu m1 m2 m3 lo m4 m5 (fun v h' tk' hv => by rw [hq] at hv; obtain ⟨t, rfl⟩ := hv; exact ret t h' tk')
theorem kset_C12_2 : True := by
  k_with "call ref" => (((k_here; (with_reducible show wpAny _ _ (call (Value.ref 161) _) _ _ _); k_dflt (refine' find_none ?u_B ?u_F ?u_X ?u_N ?u_T ?u_hk ?u_hdp ?u_hu ?u_m1 ?u_m2 ?u_m3 ?u_lo ?u_m4 ?u_m5 ?u_hq ?_; (case u_B => k_asm); (case u_F => k_asm); (case u_X => k_asm); (case u_N => k_asm); (case u_T => k_asm); (case u_hk => first | exact rfl | assumption); (case u_hdp => ktr_room); (case u_hu => ktr_units); (case u_m1 => k_mem); (case u_m2 => k_mem); (case u_m3 => k_mem); (case u_lo => assumption); (case u_m4 => assumption); (case u_m5 => first | assumption | (refine RowsAt.mono ?_ (by assumption); intro pₖ hpₖ; simp [hpₖ])); (case u_hq => assumption)); intro h9ₖ tk9ₖ F9ₖ N9ₖ; (try k_sweep)); all_goals ((try revert N9ₖ); (try revert F9ₖ); (try revert tk9ₖ); (try revert h9ₖ); (try revert hpₖ); (try revert pₖ); intros)))
  k_with "call ref" => (((k_here; (with_reducible show wpAny _ _ (call (Value.ref 161) _) _ _ _); k_dflt (refine' find_some ?u_B ?u_F ?u_X ?u_N ?u_T ?u_hk ?u_hdp ?u_hu ?u_m1 ?u_m2 ?u_m3 ?u_lo ?u_m4 ?u_m5 ?u_hq ?_; (case u_B => k_asm); (case u_F => k_asm); (case u_X => k_asm); (case u_N => k_asm); (case u_T => k_asm); (case u_hk => first | exact rfl | assumption); (case u_hdp => ktr_room); (case u_hu => ktr_units); (case u_m1 => k_mem); (case u_m2 => k_mem); (case u_m3 => k_mem); (case u_lo => assumption); (case u_m4 => assumption); (case u_m5 => first | assumption | (refine RowsAt.mono ?_ (by assumption); intro pₖ hpₖ; simp [hpₖ])); (case u_hq => assumption)); intro t9ₖ h9ₖ tk9ₖ F9ₖ N9ₖ; (try k_sweep)); all_goals ((try revert N9ₖ); (try revert F9ₖ); (try revert tk9ₖ); (try revert h9ₖ); (try revert t9ₖ); (try revert hpₖ); (try revert pₖ); intros)))
  trivial
theorem found_spec : ∀ {w : World} {mean : ExcName → Option Value} {mg mb : Str → Option Value} {dp un : Nat} {gd : Option (List Code)} {cn : Str} {cs : Scope} {a : Addr} {ccd : Value} {cl : List (Str × Addr)} {outer : List Env} {A₀ : Around} {base h₀ : Heap} {L : Addr} {m : Str → Option Value} {news : List (Addr × Obj)} {s : Shared}
    {Q E : Value → Shared → Prop} (B : Below A₀ base outer h₀) (F : Fr h₀ L s.heap m) (X : (hd.heap_1 w.params).In h₀) (N : News h₀ L s.heap news) (T : Top topProg LS mean mg mb h₀) (hk : cs.kind = .function) (hdp : dp < 870) (hu : un < 7800)
    {tb td rd ld : Addr} {tt : Tok} {ro lobj : Obj} {rs : List R} {kvs kvt : List (Int × Value)} (m1 : (tb, instObj 164 td) ∈ news) (m2 : (td, dictOf [⟨PyData.keyHash w.params (Str.ofString "rows"), .str (Str.ofString "rows") tt, .ref rd⟩] 1) ∈ news) (m3 : (rd, ro) ∈ news) (lo : (rd == sysModules) = false) (m4 : ro.IsDictOf (intKind PySem.Challenge.rw_on0339_01.row.prog w) kvs) (m5 : RowsAt w news rs kvs) (n3 : (ld, lobj) ∈ news) (lo2 : (ld == sysModules) = false) (n4 : lobj.IsDictOf (intKind PySem.Challenge.rw_on0339_01.row.prog w) kvt) (n5 : TRowsAt news rs kvt) (hp1 : ∀ r ∈ rs, r.p ≠ 1)
    (ret : ∀ h' tk', Fr h₀ L h' m → News h₀ L h' news → Q (.bool true) { s with heap := h', toks := tk' }),
    wpAny (model PySem.Challenge.rw_on0339_01.row.prog w) (ktrTop dp un gd cn cs L a ccd cl outer) (call (.ref 319) [.ref tb, .ref ld]) Q E s := by
  k_fill
  intro w mean mg mb dp un gd cn cs a ccd cl outer A₀ base h₀ L m news s Q E B F X N T hk hdp hu tb td rd ld tt ro lobj rs kvs kvt m1 m2 m3 lo m4 m5 n3 lo2 n4 n5 hp1 ret
  refine wpAny_call ?_
  k_dflt (refine' code_def (binds := [(Str.ofString "table", .ref tb), (Str.ofString "rows", .ref ld)]) ?k1 ?k2 ?k3 ?k4 ?k5 ?kA ?kF ?kK ?k6 ?k7 ?k8 ?k9 ?kB ?_ ?c2 ?c3 ?c4 ?c5; (case kA => exact rfl); (case kF => exact rfl); (case kK => assumption); (case k1 => k_asm); (case k2 => k_asm); (case k3 => k_asm); (case k4 => k_asm); (case k5 => k_asm); (case k6 => k_is); (case k7 => k_is); (case k8 => ktr_room); (case k9 => exact BindsTo.of_eq rfl); (case c5 => decide); (case kB => exact locs rfl); (case c2 => exact rfl); (case c3 => exact rfl); (case c4 => exact rfl))
  intro g1 L1 h1 FG1 F1 N1 B1 X1 T1
  change Fr g1 L1 h1 (fun y => List.lookup y [(Str.ofString "rows", .ref ld), (Str.ofString "table", .ref tb)]) at F1
  dsimp only
  k_fold
  k_steps
  rename Fr _ _ _ _ => F2
  rename News _ _ _ _ => N2
  refine Stop.go ?_
  refine iter_listK (fun i m' => Off [Str.ofString "target", Str.ofString "port", Str.ofString "far", Str.ofString "best", Str.ofString "due", Str.ofString "owner", Str.ofString "exact"] m' (fun y => List.lookup y [(Str.ofString "rows", .ref ld), (Str.ofString "table", .ref tb)])) rfl (by k_mem) F2 N2 Off.rfl ?_ ?_
  · intro i v m₁ h2 tk led1 hs1 hi hoff F3 N3
    have hv : ∃ tg tt, v = .int tg tt := by
      rcases i with _ | _ | i
      · simp at hi; exact ⟨_, _, hi.symm⟩
      · simp at hi; exact ⟨_, _, hi.symm⟩
      · simp at hi
    obtain ⟨tg, ttg, rfl⟩ := hv
    have hs1' : ∀ p ∈ news, p ∈ led1 := fun p hp => hs1 p (by simp [hp])
    have a1 : m₁ (Str.ofString "table") = some (.ref tb) := hoff _ (by decide)
    have a2 : m₁ (Str.ofString "rows") = some (.ref ld) := hoff _ (by decide)
    clear F2 N2 hi
    change Fr g1 L1 _ _ at F3
    change News g1 L1 _ _ at N3
    clear hs1
    k_steps
    rename Fr _ _ _ _ => F4
    rename News _ _ _ _ => N4
    refine Stop.go ?_
    refine iter_listN (fun i m' => Off [Str.ofString "port", Str.ofString "far", Str.ofString "best", Str.ofString "due", Str.ofString "owner", Str.ofString "exact"] m' _) rfl (by k_mem) F4 N4 Off.rfl ?_ ?_
    · intro i2 v2 m₂ h3 tk3 led2 hs2 hi2 hoff2 F5 N5
      obtain ⟨T, pp, pt, ff, ft, rfl, hT⟩ := three_tup N4 hi2 (by k_mem) (by k_mem) (by k_mem)
      replace hT := hs2 _ hT
      have hs2' : ∀ p ∈ led1, p ∈ led2 := fun p hp => hs2 p (by simp [hp])
      have b1 : m₂ (Str.ofString "table") = some (.ref tb) := (hoff2 _ (by decide)).trans a1
      have b2 : m₂ (Str.ofString "rows") = some (.ref ld) := (hoff2 _ (by decide)).trans a2
      have b3 : m₂ (Str.ofString "target") = some (.int tg ttg) := hoff2 _ (by decide)
      clear F4 N4 hi2 hs2
      change Fr g1 L1 _ _ at F5
      change News g1 L1 _ _ at N5
      k_steps
      rename Fr _ _ _ _ => F6
      rename News _ _ _ _ => N6
      refine Stop.go ?_
      refine iter_best (kvs := kvt) (o := lobj) (rs := rs) (Str.ofString "owner") (Str.ofString "exact") (Str.ofString "best") (Str.ofString "due") (fun r => fitsV r tg pp (9, ff)) rfl lo2 (List.mem_cons_of_mem _ (hs2' _ (hs1' _ n3))) n4 n5.len F6 N6 rfl rfl ?_ ?_
      · intro i3 k v t3 u3 tb3 fv h4 tk4 led3 hs3 hx hfv F7 N7
        obtain ⟨r, ta, hr, rfl, rfl, hta⟩ := n5.get hx
        obtain ⟨ra, hx2, hra⟩ := m5.at hr
        have hva := isDict_at n4 hx
        have hvb := isDict_at m4 hx2
        have hst := bestOf_take (fun r => fitsV r tg pp (9, ff)) hr
        have hs : ∀ p ∈ news, p ∈ led3 := fun p hp => hs3 p (List.mem_cons_of_mem _ (hs2' _ (hs1' _ hp)))
        have c1 := hs _ m1
        have c2 := hs _ m2
        have c3 := hs _ m3
        have c4 := hs _ n3
        have c5 := m5.mono hs
        have c6 := hra.mono hs
        have c7 := hta.mono hs
        have hra' := c6
        obtain ⟨da, t, rv, e1, e2, e3⟩ := hra'
        clear F6 N6
        clear hs1' hs2' m1 m2 m3 n3 m5 hra hta n5 hs hs3
        change Fr g1 L1 _ _ at F7
        change News g1 L1 _ _ at N7
        k_steps
        · exact absurd rfl (by assumption)
        · refine TurnEnd.intro (by k_asm) (by k_asm) (by intro p hp; simp [hp]) (BestJ.intro (fun y hy => by simp at hy; simp [hy]) rfl ?_ rfl ?_)
          · rw [hst, best_yes (by assumption)]
          · rw [hst, best_yes (by assumption)]; exact ⟨_, rfl⟩
        · refine TurnEnd.intro (by k_asm) (by k_asm) (by intro p hp; simp [hp]) (BestJ.intro (fun y hy => by simp at hy; simp [hy]) rfl ?_ rfl ?_)
          · rw [hst, best_no (by assumption)]
          · rw [hst, best_no (by assumption)]; exact hfv
      · intro u3 tb3 fv h4 tk4 hfv F7 N7
        have c1 := hs2' _ (hs1' _ m1)
        have c2 := hs2' _ (hs1' _ m2)
        have c3 := hs2' _ (hs1' _ m3)
        have c5 := m5.mono (fun p hp => hs2' _ (hs1' _ hp))
        clear F6 N6 m1 m2 m3 m5
        change Fr g1 L1 _ _ at F7
        change News g1 L1 _ _ at N7
        cases hq : (bestOf (fun r => fitsV r tg pp (9, ff)) rs).2 with
        | none =>
          rw [hq] at hfv
          cases hfv
          k_steps
          refine TurnEnd.intro (by k_asm) (by k_asm) (by intro p hp; simp [hp]) (fun y hy => Eq.trans ?_ (hoff2 y hy)); simp at hy; simp [hy]
        | some kq =>
          rw [hq] at hfv
          obtain ⟨tq, rfl⟩ := hfv
          k_steps
          · exact absurd rfl (by assumption)
          · refine TurnEnd.intro (by k_asm) (by k_asm) (by intro p hp; simp [hp]) (fun y hy => Eq.trans ?_ (hoff2 y hy)); simp at hy; simp [hy]
    · intro m₃ h5 tk5 hoff3 F5 N5
      clear F4 N4
      change Fr g1 L1 _ _ at F5
      change News g1 L1 _ _ at N5
      k_steps
      refine TurnEnd.intro (by k_asm) (by k_asm) (by intro p hp; simp [hp]) (fun y hy => Eq.trans ?_ (hoff y hy))
      refine (hoff3 y (by simp at hy; simp [hy])).trans ?_
      simp at hy; simp [hy]
  · intro m₁ h2 tk hoff F3 N3
    have a1 : m₁ (Str.ofString "table") = some (.ref tb) := hoff _ (by decide)
    have a2 : m₁ (Str.ofString "rows") = some (.ref ld) := hoff _ (by decide)
    clear F2 N2
    change Fr g1 L1 _ _ at F3
    change News g1 L1 _ _ at N3
    k_steps
    rename Fr _ _ _ _ => F4
    rename News _ _ _ _ => N4
    refine Stop.go ?_
    refine iter_intsK (kvs := kvt) (o := lobj) (fun i m' => Off [Str.ofString "owner", Str.ofString "row"] m' m₁) rfl lo2 (List.mem_cons_of_mem _ n3) n4 F4 N4 Off.rfl ?_ ?_
    · intro i k v t m₂ h3 tk3 led hs1 hx hoff2 F5 N5
      obtain ⟨r, ta, hr, rfl, rfl, hta⟩ := n5.get hx
      obtain ⟨ra, hx2, hra⟩ := m5.at hr
      have hva := isDict_at n4 hx
      have hvb := isDict_at m4 hx2
      have hrp := hp1 r (List.mem_of_getElem? hr)
      have hs : ∀ p ∈ news, p ∈ led := fun p hp => hs1 p (List.mem_cons_of_mem _ hp)
      have b1 : m₂ (Str.ofString "table") = some (.ref tb) := (hoff2 _ (by decide)).trans a1
      have b2 : m₂ (Str.ofString "rows") = some (.ref ld) := (hoff2 _ (by decide)).trans a2
      have c1 := hs _ m1
      have c2 := hs _ m2
      have c3 := hs _ m3
      have c4 := hs _ n3
      have c5 := m5.mono hs
      have c6 := hra.mono hs
      have c7 := hta.mono hs
      obtain ⟨da, t, rv, e1, e2, e3⟩ := c6
      obtain ⟨u1, u2, rv2, e4, e5⟩ := c7
      have e6 := e5.handed
      clear F4 N4
      clear m1 m2 m3 n3 m5 hra hta n5 hs hs1
      change Fr g1 L1 _ _ at F5
      change News g1 L1 _ _ at N5
      k_steps
      · exact absurd ((by assumption : _ ↔ r.a = r.a ∧ r.p = 1).mp (by assumption)).2 hrp
      · refine TurnEnd.intro (by k_asm) (by k_asm) (by intro p hp; simp [hp]) (fun y hy => Eq.trans ?_ (hoff2 y hy)); simp at hy; simp [hy]
      · rename _ ↔ (r.a = r.a ∧ r.p = r.p) => hz
        have hz2 := hz.mpr ⟨rfl, rfl⟩
        first | exact absurd hz2 (by assumption) | exact Bool.noConfusion (hz2.symm.trans (by assumption)) | simp_all
    · intro m₂ h3 tk3 hoff2 F5 N5
      clear F4 N4
      change Fr g1 L1 _ _ at F5
      change News g1 L1 _ _ at N5
      k_steps
      exact ret _ _ (by k_asm) (by exact news_sub (by assumption) (by intro p hp; simp [hp]))
end
section
open PySem PySem.W PySem.Calls PyProof.Rows PyProof.V PySem.Spec
theorem kclrC13 : True := by
  w_top off
  k_with_none
  trivial
def SrcO (o : Obj) : Prop := ∃ x tx y ty n, o = listOf #[.int x tx, .int y ty] n ∧ (0 : Int) ≤ x ∧ (0 : Int) ≤ y
theorem take_U : ∀ {w : World} {mean : ExcName → Option Value} {mg mb : Str → Option Value} {dp un : Nat} {gd : Option (List Code)} {cn : Str} {cs : Scope} {a : Addr} {ccd : Value} {cl : List (Str × Addr)} {outer : List Env} {A₀ : Around} {base h₀ : Heap} {L : Addr} {m : Str → Option Value} {news : List (Addr × Obj)} {g : Obj → List (Addr × Obj)} {src : Addr} {so : Obj} {s : Shared}
    {Q E : Value → Shared → Prop} (B : Below A₀ base outer h₀) (F : Fr h₀ L s.heap m) (X : (hd.heap_1 w.params).In h₀) (N : News h₀ L s.heap news) (T : Top topProg LS mean mg mb h₀) (hk : cs.kind = .function) (hdp : dp < 890) (hu : un < 8000)
    {top : Int} {tt : Tok} (U : UpdF src so news g) (hso : SrcO so) (ht : 0 < top) (ht2 : top ≤ 300)
    (ret : ∀ (r : Int) tr o' h' tk', 0 ≤ r → r < top → SrcO o' → Fr h₀ L h' m → News h₀ L h' (g o') → Q (.int r tr) { s with heap := h', toks := tk' }),
    wpAny (model PySem.Challenge.rw_on0339_01.row.prog w) (ktrTop dp un gd cn cs L a ccd cl outer) (call (.ref 281) [.ref src, .int top tt]) Q E s := by
  intro w mean mg mb dp un gd cn cs a ccd cl outer A₀ base h₀ L m news g src so s Q E B F X N T hk hdp hu top tt U hso ht ht2 ret
  obtain ⟨x, tx, y, ty, n, rfl, hx, hy⟩ := hso
  obtain ⟨rest, h1, h2, h3⟩ := updF_rest U
  exact take_spec B F X (news_sub N (fun p hp => (h2 p).mpr hp)) T hk hdp hu h1 hx hy ht ht2 (fun r tr x' tx' y' ty' n' h' tk' a b c d F' N' => ret r tr _ h' tk' a b ⟨_, _, _, _, _, rfl, c, d⟩ F' (news_sub N' (fun p hp => (h3 _ p).mp hp)))
theorem one_U : ∀ {w : World} {mean : ExcName → Option Value} {mg mb : Str → Option Value} {dp un : Nat} {gd : Option (List Code)} {cn : Str} {cs : Scope} {a : Addr} {ccd : Value} {cl : List (Str × Addr)} {outer : List Env} {A₀ : Around} {base h₀ : Heap} {L : Addr} {m : Str → Option Value} {news : List (Addr × Obj)} {g : Obj → List (Addr × Obj)} {src : Addr} {so : Obj} {s : Shared}
    {Q E : Value → Shared → Prop} (B : Below A₀ base outer h₀) (F : Fr h₀ L s.heap m) (X : (hd.heap_1 w.params).In h₀) (N : News h₀ L s.heap news) (T : Top topProg LS mean mg mb h₀) (hk : cs.kind = .function) (hdp : dp < 880) (hu : un < 7900)
    {l : Addr} {vs : List Value} {nl : Nat} (U : UpdF src so news g) (hso : SrcO so) (hm : (l, listOf vs.toArray nl) ∈ news) (hne : l ≠ src) (hl0 : 0 < vs.length) (hl : vs.length ≤ 300)
    (ret : ∀ v o' h' tk', v ∈ vs → SrcO o' → Fr h₀ L h' m → News h₀ L h' (g o') → Q v { s with heap := h', toks := tk' }),
    wpAny (model PySem.Challenge.rw_on0339_01.row.prog w) (ktrTop dp un gd cn cs L a ccd cl outer) (call (.ref 288) [.ref src, .ref l]) Q E s := by
  intro w mean mg mb dp un gd cn cs a ccd cl outer A₀ base h₀ L m news g src so s Q E B F X N T hk hdp hu l vs nl U hso hm hne hl0 hl ret
  obtain ⟨x, tx, y, ty, n, rfl, hx, hy⟩ := hso
  obtain ⟨rest, h1, h2, h3⟩ := updF_rest U
  exact one_spec B F X (news_sub N (fun p hp => (h2 p).mpr hp)) T hk hdp hu h1 (mem_rest h2 hm hne) hl0 hl hx hy (fun v x' tx' y' ty' n' h' tk' a c d F' N' => ret v _ h' tk' a ⟨_, _, _, _, _, rfl, c, d⟩ F' (news_sub N' (fun p hp => (h3 _ p).mp hp)))
theorem one_int : ∀ {w : World} {mean : ExcName → Option Value} {mg mb : Str → Option Value} {dp un : Nat} {gd : Option (List Code)} {cn : Str} {cs : Scope} {a : Addr} {ccd : Value} {cl : List (Str × Addr)} {outer : List Env} {A₀ : Around} {base h₀ : Heap} {L : Addr} {m : Str → Option Value} {news : List (Addr × Obj)} {g : Obj → List (Addr × Obj)} {src : Addr} {so : Obj} {s : Shared}
    {Q E : Value → Shared → Prop} (B : Below A₀ base outer h₀) (F : Fr h₀ L s.heap m) (X : (hd.heap_1 w.params).In h₀) (N : News h₀ L s.heap news) (T : Top topProg LS mean mg mb h₀) (hk : cs.kind = .function) (hdp : dp < 880) (hu : un < 7900)
    {l : Addr} {vs : List Value} {nl : Nat} (U : UpdF src so news g) (hso : SrcO so) (hm : (l, listOf vs.toArray nl) ∈ news) (hne : l ≠ src) (hl0 : 0 < vs.length) (hl : vs.length ≤ 300) (hI : ∀ v ∈ vs, ∃ k t, v = .int k t)
    (ret : ∀ k t o' h' tk', Value.int k t ∈ vs → SrcO o' → Fr h₀ L h' m → News h₀ L h' (g o') → Q (.int k t) { s with heap := h', toks := tk' }),
    wpAny (model PySem.Challenge.rw_on0339_01.row.prog w) (ktrTop dp un gd cn cs L a ccd cl outer) (call (.ref 288) [.ref src, .ref l]) Q E s := by
  intro w mean mg mb dp un gd cn cs a ccd cl outer A₀ base h₀ L m news g src so s Q E B F X N T hk hdp hu l vs nl U hso hm hne hl0 hl hI ret
  exact one_U B F X N T hk hdp hu U hso hm hne hl0 hl (fun v o' h' tk' hv a F' N' => by
    obtain ⟨k, t, rfl⟩ := hI v hv
    exact ret k t o' h' tk' hv a F' N')
theorem bind_U : ∀ {w : World} {mean : ExcName → Option Value} {mg mb : Str → Option Value} {dp un : Nat} {gd : Option (List Code)} {cn : Str} {cs : Scope} {a : Addr} {ccd : Value} {cl : List (Str × Addr)} {outer : List Env} {A₀ : Around} {base h₀ : Heap} {L : Addr} {m : Str → Option Value} {news : List (Addr × Obj)} {g : Obj → List (Addr × Obj)} {rd : Addr} {ro : Obj} {s : Shared}
    {Q E : Value → Shared → Prop} (B : Below A₀ base outer h₀) (F : Fr h₀ L s.heap m) (X : (hd.heap_1 w.params).In h₀) (N : News h₀ L s.heap news) (T : Top topProg LS mean mg mb h₀) (hk : cs.kind = .function) (hdp : dp < 870) (hu : un < 7800)
    {tb td : Addr} {tt : Tok} {rs : List R} {kvs : List (Int × Value)} {xo xa xp : Int} {to_ ta tp : Tok} (U : UpdF rd ro news g) (m1 : (tb, instObj 164 td) ∈ news) (m2 : (td, dictOf [⟨PyData.keyHash w.params (Str.ofString "rows"), .str (Str.ofString "rows") tt, .ref rd⟩] 1) ∈ news) (d1 : tb ≠ rd) (d2 : td ≠ rd) (lo : (rd == sysModules) = false) (m4 : ro.IsDictOf (intKind PySem.Challenge.rw_on0339_01.row.prog w) kvs) {R0 : List (Addr × Obj)} (m5 : RowsAt w R0 rs kvs) (hR : ∀ p ∈ R0, p ∈ news ∧ p.1 ≠ rd) (hsz : kvs.length ≤ sizeLine) 
    (raiS : (∃ v, valueAt kvs xo = some v) → ∀ e h' g₂ tk', RaisedSN base g₂ (envX cn cs L a ccd cl :: outer) e (.ref 68) news h' → Fr h₀ L g₂ m → g₂.UpToSlots h' → E (.ref e) { s with heap := h', toks := tk' })
    (raiP : valueAt kvs xo = none → (∃ r ∈ rs, r.o ≠ xo ∧ r.a = xa ∧ r.p = xp ∧ r.r = none) → ∀ e h' g₂ tk', RaisedSN base g₂ (envX cn cs L a ccd cl :: outer) e (.ref 56) news h' → Fr h₀ L g₂ m → g₂.UpToSlots h' → E (.ref e) { s with heap := h', toks := tk' })
    (ret : valueAt kvs xo = none → (¬ ∃ r ∈ rs, r.o ≠ xo ∧ r.a = xa ∧ r.p = xp ∧ r.r = none) → ∀ ra ro' tl h' tk', Fr h₀ L h' m → News h₀ L h' (g ro' ++ tl) → ro'.IsDictOf (intKind PySem.Challenge.rw_on0339_01.row.prog w) (kvs ++ [(xo, .ref ra)]) → RowAt w tl ⟨xo, xa, xp, none⟩ ra → (∀ p ∈ tl, ∀ q ∈ news, @LT.lt Nat _ q.1 p.1) → Q .none { s with heap := h', toks := tk' }),
    wpAny (model PySem.Challenge.rw_on0339_01.row.prog w) (ktrTop dp un gd cn cs L a ccd cl outer) (call (.ref 140) [.ref tb, .int xo to_, .int xa ta, .int xp tp]) Q E s := by
  intro w mean mg mb dp un gd cn cs a ccd cl outer A₀ base h₀ L m news g rd ro s Q E B F X N T hk hdp hu tb td tt rs kvs xo xa xp to_ ta tp U m1 m2 d1 d2 lo m4 R0 m5 hR hsz raiS raiP ret
  obtain ⟨rest, h1, h2, h3⟩ := updF_rest U
  have N' := news_sub N (fun p hp => (h2 p).mpr hp)
  have m5' := m5.mono (fun p hp => mem_rest h2 (hR p hp).1 (hR p hp).2)
  exact bind_spec B F X N' T hk hdp hu (mem_rest h2 m1 d1) (mem_rest h2 m2 d2) lo m4 m5' h1 hsz (fun a e h' g₂ tk' R1 => raiS a e h' g₂ tk' (raisedN_sub R1 (fun p hp => (h2 p).mp hp))) (fun a b e h' g₂ tk' R1 => raiP a b e h' g₂ tk' (raisedN_sub R1 (fun p hp => (h2 p).mp hp)))
    (fun a b ra ro' tl h' tk' F1 N1 hd hr hfr => ret a b ra ro' tl h' tk' F1 (news_sub N1 (fun p hp => by
      rcases List.mem_append.mp hp with hp | hp
      · rcases List.mem_cons.mp ((h3 _ p).mp hp) with e | hp
        · rw [e]; exact List.mem_cons_self
        · exact List.mem_cons_of_mem _ (List.mem_append_right _ hp)
      · exact List.mem_cons_of_mem _ (List.mem_append_left _ hp))) hd hr (fun p hp q hq => hfr p hp q ((h2 q).mp hq)))
theorem remove_U : ∀ {w : World} {mean : ExcName → Option Value} {mg mb : Str → Option Value} {dp un : Nat} {gd : Option (List Code)} {cn : Str} {cs : Scope} {a : Addr} {ccd : Value} {cl : List (Str × Addr)} {outer : List Env} {A₀ : Around} {base h₀ : Heap} {L : Addr} {m : Str → Option Value} {news : List (Addr × Obj)} {g : Obj → List (Addr × Obj)} {rd : Addr} {ro : Obj} {s : Shared}
    {Q E : Value → Shared → Prop} (B : Below A₀ base outer h₀) (F : Fr h₀ L s.heap m) (X : (hd.heap_1 w.params).In h₀) (N : News h₀ L s.heap news) (T : Top topProg LS mean mg mb h₀) (hk : cs.kind = .function) (hdp : dp < 870) (hu : un < 7800)
    {tb td : Addr} {tt : Tok} {rs : List R} {kvs : List (Int × Value)} {xo : Int} {to_ : Tok} (U : UpdF rd ro news g) (m1 : (tb, instObj 164 td) ∈ news) (m2 : (td, dictOf [⟨PyData.keyHash w.params (Str.ofString "rows"), .str (Str.ofString "rows") tt, .ref rd⟩] 1) ∈ news) (d1 : tb ≠ rd) (d2 : td ≠ rd) (lo : (rd == sysModules) = false) (m4 : ro.IsDictOf (intKind PySem.Challenge.rw_on0339_01.row.prog w) kvs) {R0 : List (Addr × Obj)} (m5 : RowsAt w R0 rs kvs) (hR : ∀ p ∈ R0, p ∈ news ∧ p.1 ≠ rd) (hsz : kvs.length ≤ sizeLine) 
    (raiS : valueAt kvs xo = none → ∀ e h' g₂ tk', RaisedSN base g₂ (envX cn cs L a ccd cl :: outer) e (.ref 68) news h' → Fr h₀ L g₂ m → g₂.UpToSlots h' → E (.ref e) { s with heap := h', toks := tk' })
    (ret : (∃ v, valueAt kvs xo = some v) → ∀ ro' h' tk', Fr h₀ L h' m → News h₀ L h' (g ro') → ro'.IsDictOf (intKind PySem.Challenge.rw_on0339_01.row.prog w) (without kvs xo) → Q .none { s with heap := h', toks := tk' }),
    wpAny (model PySem.Challenge.rw_on0339_01.row.prog w) (ktrTop dp un gd cn cs L a ccd cl outer) (call (.ref 154) [.ref tb, .int xo to_]) Q E s := by
  intro w mean mg mb dp un gd cn cs a ccd cl outer A₀ base h₀ L m news g rd ro s Q E B F X N T hk hdp hu tb td tt rs kvs xo to_ U m1 m2 d1 d2 lo m4 R0 m5 hR hsz raiS ret
  obtain ⟨rest, h1, h2, h3⟩ := updF_rest U
  have N' := news_sub N (fun p hp => (h2 p).mpr hp)
  have m5' := m5.mono (fun p hp => mem_rest h2 (hR p hp).1 (hR p hp).2)
  exact remove_spec B F X N' T hk hdp hu (mem_rest h2 m1 d1) (mem_rest h2 m2 d2) lo m4 m5' h1 hsz (fun a e h' g₂ tk' R1 => raiS a e h' g₂ tk' (raisedN_sub R1 (fun p hp => (h2 p).mp hp)))
    (fun a ro' h' tk' F1 N1 hd => ret a ro' h' tk' F1 (news_sub N1 (fun p hp => (h3 _ p).mp hp)) hd)
theorem bind_S : ∀ {w : World} {mean : ExcName → Option Value} {mg mb : Str → Option Value} {dp un : Nat} {gd : Option (List Code)} {cn : Str} {cs : Scope} {a : Addr} {ccd : Value} {cl : List (Str × Addr)} {outer : List Env} {A₀ : Around} {base h₀ : Heap} {L : Addr} {m : Str → Option Value} {news : List (Addr × Obj)} {rd : Addr} {ro : Obj} {s : Shared}
    {Q E : Value → Shared → Prop} (B : Below A₀ base outer h₀) (F : Fr h₀ L s.heap m) (X : (hd.heap_1 w.params).In h₀) (N : News h₀ L s.heap news) (T : Top topProg LS mean mg mb h₀) (hk : cs.kind = .function) (hdp : dp < 870) (hu : un < 7800)
    {tb td : Addr} {tt : Tok} {rs : List R} {kvs : List (Int × Value)} {xo xa xp : Int} {to_ ta tp : Tok} (m3 : (rd, ro) ∈ news) (m1 : (tb, instObj 164 td) ∈ news) (m2 : (td, dictOf [⟨PyData.keyHash w.params (Str.ofString "rows"), .str (Str.ofString "rows") tt, .ref rd⟩] 1) ∈ news) (d1 : tb ≠ rd) (d2 : td ≠ rd) (lo : (rd == sysModules) = false) (m4 : ro.IsDictOf (intKind PySem.Challenge.rw_on0339_01.row.prog w) kvs) {R0 : List (Addr × Obj)} (m5 : RowsAt w R0 rs kvs) (hR : ∀ p ∈ R0, p ∈ news ∧ p.1 ≠ rd) (hsz : kvs.length ≤ sizeLine) (hva : ∃ v, valueAt kvs xo = some v) 
    (raz : ∀ e h' g₂ tk', RaisedSN base g₂ (envX cn cs L a ccd cl :: outer) e (.ref 68) news h' → Fr h₀ L g₂ m → g₂.UpToSlots h' → E (.ref e) { s with heap := h', toks := tk' }),
    wpAny (model PySem.Challenge.rw_on0339_01.row.prog w) (ktrTop dp un gd cn cs L a ccd cl outer) (call (.ref 140) [.ref tb, .int xo to_, .int xa ta, .int xp tp]) Q E s := by
  intro w mean mg mb dp un gd cn cs a ccd cl outer A₀ base h₀ L m news rd ro s Q E B F X N T hk hdp hu tb td tt rs kvs xo xa xp to_ ta tp m3 m1 m2 d1 d2 lo m4 R0 m5 hR hsz hva raz
  have N' : News h₀ L s.heap ((rd, ro) :: offA news rd) := news_sub N (fun p hp => by
    rcases List.mem_cons.mp hp with e | hp
    · rw [e]; exact m3
    · exact (mem_offA.mp hp).1)
  have hback : ∀ p ∈ news, p ∈ (rd, ro) :: offA news rd := fun p hp => by
    by_cases e : p.1 = rd
    · have h1 := (N _ hp).1
      rw [e, (N _ m3).1] at h1
      have h2 := Option.some.inj h1
      have h3 : p = (rd, ro) := Prod.ext e h2.symm
      rw [h3]; exact List.mem_cons_self
    · exact List.mem_cons_of_mem _ (mem_offA.mpr ⟨hp, e⟩)
  have m5' := m5.mono (fun p hp => mem_offA.mpr (hR p hp))
  exact bind_spec B F X N' T hk hdp hu (mem_offA.mpr ⟨m1, d1⟩) (mem_offA.mpr ⟨m2, d2⟩) lo m4 m5' (fun p hp => (mem_offA.mp hp).2) hsz (fun a e h' g₂ tk' R1 => raz e h' g₂ tk' (raisedN_sub R1 hback)) (fun a => by rw [a] at hva; obtain ⟨_, h⟩ := hva; cases h) (fun a => by rw [a] at hva; obtain ⟨_, h⟩ := hva; cases h)
theorem bind_P : ∀ {w : World} {mean : ExcName → Option Value} {mg mb : Str → Option Value} {dp un : Nat} {gd : Option (List Code)} {cn : Str} {cs : Scope} {a : Addr} {ccd : Value} {cl : List (Str × Addr)} {outer : List Env} {A₀ : Around} {base h₀ : Heap} {L : Addr} {m : Str → Option Value} {news : List (Addr × Obj)} {rd : Addr} {ro : Obj} {s : Shared}
    {Q E : Value → Shared → Prop} (B : Below A₀ base outer h₀) (F : Fr h₀ L s.heap m) (X : (hd.heap_1 w.params).In h₀) (N : News h₀ L s.heap news) (T : Top topProg LS mean mg mb h₀) (hk : cs.kind = .function) (hdp : dp < 870) (hu : un < 7800)
    {tb td : Addr} {tt : Tok} {rs : List R} {kvs : List (Int × Value)} {xo xa xp : Int} {to_ ta tp : Tok} (m3 : (rd, ro) ∈ news) (m1 : (tb, instObj 164 td) ∈ news) (m2 : (td, dictOf [⟨PyData.keyHash w.params (Str.ofString "rows"), .str (Str.ofString "rows") tt, .ref rd⟩] 1) ∈ news) (d1 : tb ≠ rd) (d2 : td ≠ rd) (lo : (rd == sysModules) = false) (m4 : ro.IsDictOf (intKind PySem.Challenge.rw_on0339_01.row.prog w) kvs) {R0 : List (Addr × Obj)} (m5 : RowsAt w R0 rs kvs) (hR : ∀ p ∈ R0, p ∈ news ∧ p.1 ≠ rd) (hsz : kvs.length ≤ sizeLine) (hva : valueAt kvs xo = none) (hp : ∃ r ∈ rs, r.o ≠ xo ∧ r.a = xa ∧ r.p = xp ∧ r.r = none) 
    (raz : ∀ e h' g₂ tk', RaisedSN base g₂ (envX cn cs L a ccd cl :: outer) e (.ref 56) news h' → Fr h₀ L g₂ m → g₂.UpToSlots h' → E (.ref e) { s with heap := h', toks := tk' }),
    wpAny (model PySem.Challenge.rw_on0339_01.row.prog w) (ktrTop dp un gd cn cs L a ccd cl outer) (call (.ref 140) [.ref tb, .int xo to_, .int xa ta, .int xp tp]) Q E s := by
  intro w mean mg mb dp un gd cn cs a ccd cl outer A₀ base h₀ L m news rd ro s Q E B F X N T hk hdp hu tb td tt rs kvs xo xa xp to_ ta tp m3 m1 m2 d1 d2 lo m4 R0 m5 hR hsz hva hp raz
  have N' : News h₀ L s.heap ((rd, ro) :: offA news rd) := news_sub N (fun p hp => by
    rcases List.mem_cons.mp hp with e | hp
    · rw [e]; exact m3
    · exact (mem_offA.mp hp).1)
  have hback : ∀ p ∈ news, p ∈ (rd, ro) :: offA news rd := fun p hp => by
    by_cases e : p.1 = rd
    · have h1 := (N _ hp).1
      rw [e, (N _ m3).1] at h1
      have h2 := Option.some.inj h1
      have h3 : p = (rd, ro) := Prod.ext e h2.symm
      rw [h3]; exact List.mem_cons_self
    · exact List.mem_cons_of_mem _ (mem_offA.mpr ⟨hp, e⟩)
  have m5' := m5.mono (fun p hp => mem_offA.mpr (hR p hp))
  exact bind_spec B F X N' T hk hdp hu (mem_offA.mpr ⟨m1, d1⟩) (mem_offA.mpr ⟨m2, d2⟩) lo m4 m5' (fun p hp => (mem_offA.mp hp).2) hsz (fun a => by rw [hva] at a; obtain ⟨_, h⟩ := a; cases h) (fun a b e h' g₂ tk' R1 => raz e h' g₂ tk' (raisedN_sub R1 hback)) (fun a b => absurd hp b)
theorem remove_S : ∀ {w : World} {mean : ExcName → Option Value} {mg mb : Str → Option Value} {dp un : Nat} {gd : Option (List Code)} {cn : Str} {cs : Scope} {a : Addr} {ccd : Value} {cl : List (Str × Addr)} {outer : List Env} {A₀ : Around} {base h₀ : Heap} {L : Addr} {m : Str → Option Value} {news : List (Addr × Obj)} {rd : Addr} {ro : Obj} {s : Shared}
    {Q E : Value → Shared → Prop} (B : Below A₀ base outer h₀) (F : Fr h₀ L s.heap m) (X : (hd.heap_1 w.params).In h₀) (N : News h₀ L s.heap news) (T : Top topProg LS mean mg mb h₀) (hk : cs.kind = .function) (hdp : dp < 870) (hu : un < 7800)
    {tb td : Addr} {tt : Tok} {rs : List R} {kvs : List (Int × Value)} {xo : Int} {to_ : Tok} (m3 : (rd, ro) ∈ news) (m1 : (tb, instObj 164 td) ∈ news) (m2 : (td, dictOf [⟨PyData.keyHash w.params (Str.ofString "rows"), .str (Str.ofString "rows") tt, .ref rd⟩] 1) ∈ news) (d1 : tb ≠ rd) (d2 : td ≠ rd) (lo : (rd == sysModules) = false) (m4 : ro.IsDictOf (intKind PySem.Challenge.rw_on0339_01.row.prog w) kvs) {R0 : List (Addr × Obj)} (m5 : RowsAt w R0 rs kvs) (hR : ∀ p ∈ R0, p ∈ news ∧ p.1 ≠ rd) (hsz : kvs.length ≤ sizeLine) (hva : valueAt kvs xo = none) 
    (raz : ∀ e h' g₂ tk', RaisedSN base g₂ (envX cn cs L a ccd cl :: outer) e (.ref 68) news h' → Fr h₀ L g₂ m → g₂.UpToSlots h' → E (.ref e) { s with heap := h', toks := tk' }),
    wpAny (model PySem.Challenge.rw_on0339_01.row.prog w) (ktrTop dp un gd cn cs L a ccd cl outer) (call (.ref 154) [.ref tb, .int xo to_]) Q E s := by
  intro w mean mg mb dp un gd cn cs a ccd cl outer A₀ base h₀ L m news rd ro s Q E B F X N T hk hdp hu tb td tt rs kvs xo to_ m3 m1 m2 d1 d2 lo m4 R0 m5 hR hsz hva raz
  have N' : News h₀ L s.heap ((rd, ro) :: offA news rd) := news_sub N (fun p hp => by
    rcases List.mem_cons.mp hp with e | hp
    · rw [e]; exact m3
    · exact (mem_offA.mp hp).1)
  have hback : ∀ p ∈ news, p ∈ (rd, ro) :: offA news rd := fun p hp => by
    by_cases e : p.1 = rd
    · have h1 := (N _ hp).1
      rw [e, (N _ m3).1] at h1
      have h2 := Option.some.inj h1
      have h3 : p = (rd, ro) := Prod.ext e h2.symm
      rw [h3]; exact List.mem_cons_self
    · exact List.mem_cons_of_mem _ (mem_offA.mpr ⟨hp, e⟩)
  have m5' := m5.mono (fun p hp => mem_offA.mpr (hR p hp))
  exact remove_spec B F X N' T hk hdp hu (mem_offA.mpr ⟨m1, d1⟩) (mem_offA.mpr ⟨m2, d2⟩) lo m4 m5' (fun p hp => (mem_offA.mp hp).2) hsz (fun a e h' g₂ tk' R1 => raz e h' g₂ tk' (raisedN_sub R1 hback)) (fun a => by rw [hva] at a; obtain ⟨_, h⟩ := a; cases h)
theorem connect_S : ∀ {w : World} {mean : ExcName → Option Value} {mg mb : Str → Option Value} {dp un : Nat} {gd : Option (List Code)} {cn : Str} {cs : Scope} {a : Addr} {ccd : Value} {cl : List (Str × Addr)} {outer : List Env} {A₀ : Around} {base h₀ : Heap} {L : Addr} {m : Str → Option Value} {news : List (Addr × Obj)} {rd : Addr} {ro : Obj} {s : Shared}
    {Q E : Value → Shared → Prop} (B : Below A₀ base outer h₀) (F : Fr h₀ L s.heap m) (X : (hd.heap_1 w.params).In h₀) (N : News h₀ L s.heap news) (T : Top topProg LS mean mg mb h₀) (hk : cs.kind = .function) (hdp : dp < 870) (hu : un < 7800)
    {tb td : Addr} {tt : Tok} {rs : List R} {kvs : List (Int × Value)} {xo xa xp : Int} {to_ ta tp : Tok} (m3 : (rd, ro) ∈ news) (m1 : (tb, instObj 164 td) ∈ news) (m2 : (td, dictOf [⟨PyData.keyHash w.params (Str.ofString "rows"), .str (Str.ofString "rows") tt, .ref rd⟩] 1) ∈ news) (d1 : tb ≠ rd) (d2 : td ≠ rd) (lo : (rd == sysModules) = false) (m4 : ro.IsDictOf (intKind PySem.Challenge.rw_on0339_01.row.prog w) kvs) {R0 : List (Addr × Obj)} (m5 : RowsAt w R0 rs kvs) (hR : ∀ p ∈ R0, p ∈ news ∧ p.1 ≠ rd) (hsz : kvs.length ≤ sizeLine) (hva : valueAt kvs xo = none) 
    (raz : ∀ e h' g₂ tk', RaisedSN base g₂ (envX cn cs L a ccd cl :: outer) e (.ref 68) news h' → Fr h₀ L g₂ m → g₂.UpToSlots h' → E (.ref e) { s with heap := h', toks := tk' }),
    wpAny (model PySem.Challenge.rw_on0339_01.row.prog w) (ktrTop dp un gd cn cs L a ccd cl outer) (call (.ref 147) [.ref tb, .int xo to_, .int xa ta, .int xp tp]) Q E s := by
  intro w mean mg mb dp un gd cn cs a ccd cl outer A₀ base h₀ L m news rd ro s Q E B F X N T hk hdp hu tb td tt rs kvs xo xa xp to_ ta tp m3 m1 m2 d1 d2 lo m4 R0 m5 hR hsz hva raz
  have N' : News h₀ L s.heap ((rd, ro) :: offA news rd) := news_sub N (fun p hp => by
    rcases List.mem_cons.mp hp with e | hp
    · rw [e]; exact m3
    · exact (mem_offA.mp hp).1)
  have hback : ∀ p ∈ news, p ∈ (rd, ro) :: offA news rd := fun p hp => by
    by_cases e : p.1 = rd
    · have h1 := (N _ hp).1
      rw [e, (N _ m3).1] at h1
      have h2 := Option.some.inj h1
      have h3 : p = (rd, ro) := Prod.ext e h2.symm
      rw [h3]; exact List.mem_cons_self
    · exact List.mem_cons_of_mem _ (mem_offA.mpr ⟨hp, e⟩)
  have m5' := m5.mono (fun p hp => mem_offA.mpr (hR p hp))
  exact connect_spec B F X N' T hk hdp hu (mem_offA.mpr ⟨m1, d1⟩) (mem_offA.mpr ⟨m2, d2⟩) lo m4 m5 (fun p hp => mem_offA.mpr (hR p hp)) (fun p hp => (mem_offA.mp hp).2) hsz (fun a e h' g₂ tk' R1 => raz e h' g₂ tk' (raisedN_sub R1 hback))
    (fun r a b => absurd (m5.some_of a) (by rw [b, hva]; simp)) (fun r a b => absurd (m5.some_of a) (by rw [b, hva]; simp))
theorem connect_P : ∀ {w : World} {mean : ExcName → Option Value} {mg mb : Str → Option Value} {dp un : Nat} {gd : Option (List Code)} {cn : Str} {cs : Scope} {a : Addr} {ccd : Value} {cl : List (Str × Addr)} {outer : List Env} {A₀ : Around} {base h₀ : Heap} {L : Addr} {m : Str → Option Value} {news : List (Addr × Obj)} {rd : Addr} {ro : Obj} {s : Shared}
    {Q E : Value → Shared → Prop} (B : Below A₀ base outer h₀) (F : Fr h₀ L s.heap m) (X : (hd.heap_1 w.params).In h₀) (N : News h₀ L s.heap news) (T : Top topProg LS mean mg mb h₀) (hk : cs.kind = .function) (hdp : dp < 870) (hu : un < 7800)
    {tb td : Addr} {tt : Tok} {rs : List R} {kvs : List (Int × Value)} {xo xa xp : Int} {to_ ta tp : Tok} (m3 : (rd, ro) ∈ news) (m1 : (tb, instObj 164 td) ∈ news) (m2 : (td, dictOf [⟨PyData.keyHash w.params (Str.ofString "rows"), .str (Str.ofString "rows") tt, .ref rd⟩] 1) ∈ news) (d1 : tb ≠ rd) (d2 : td ≠ rd) (lo : (rd == sysModules) = false) (m4 : ro.IsDictOf (intKind PySem.Challenge.rw_on0339_01.row.prog w) kvs) {R0 : List (Addr × Obj)} (m5 : RowsAt w R0 rs kvs) (hR : ∀ p ∈ R0, p ∈ news ∧ p.1 ≠ rd) (hsz : kvs.length ≤ sizeLine) {r : R} (hr : r ∈ rs) (hro : r.o = xo) (hp : ∃ r' ∈ rs, r'.o ≠ xo ∧ r'.a = r.a ∧ r'.p = r.p ∧ r'.r = some (xa, xp)) 
    (raz : ∀ e h' g₂ tk', RaisedSN base g₂ (envX cn cs L a ccd cl :: outer) e (.ref 56) news h' → Fr h₀ L g₂ m → g₂.UpToSlots h' → E (.ref e) { s with heap := h', toks := tk' }),
    wpAny (model PySem.Challenge.rw_on0339_01.row.prog w) (ktrTop dp un gd cn cs L a ccd cl outer) (call (.ref 147) [.ref tb, .int xo to_, .int xa ta, .int xp tp]) Q E s := by
  intro w mean mg mb dp un gd cn cs a ccd cl outer A₀ base h₀ L m news rd ro s Q E B F X N T hk hdp hu tb td tt rs kvs xo xa xp to_ ta tp m3 m1 m2 d1 d2 lo m4 R0 m5 hR hsz r hr hro hp raz
  have N' : News h₀ L s.heap ((rd, ro) :: offA news rd) := news_sub N (fun p hp => by
    rcases List.mem_cons.mp hp with e | hp
    · rw [e]; exact m3
    · exact (mem_offA.mp hp).1)
  have hback : ∀ p ∈ news, p ∈ (rd, ro) :: offA news rd := fun p hp => by
    by_cases e : p.1 = rd
    · have h1 := (N _ hp).1
      rw [e, (N _ m3).1] at h1
      have h2 := Option.some.inj h1
      have h3 : p = (rd, ro) := Prod.ext e h2.symm
      rw [h3]; exact List.mem_cons_self
    · exact List.mem_cons_of_mem _ (mem_offA.mpr ⟨hp, e⟩)
  have m5' := m5.mono (fun p hp => mem_offA.mpr (hR p hp))
  exact connect_spec B F X N' T hk hdp hu (mem_offA.mpr ⟨m1, d1⟩) (mem_offA.mpr ⟨m2, d2⟩) lo m4 m5 (fun p hp => mem_offA.mpr (hR p hp)) (fun p hp => (mem_offA.mp hp).2) hsz (fun a => absurd (m5.some_of hr) (by rw [hro, a]; simp))
    (fun r2 a b c e h' g₂ tk' R1 => raz e h' g₂ tk' (raisedN_sub R1 hback)) (fun r2 a b c => absurd hp (by rw [← m5.uniq m4 a hr (b.trans hro.symm)]; exact c))
end
section
open PySem PySem.W PySem.Calls PyProof.Rows PyProof.V PySem.Spec
theorem kclrC14 : True := by
  w_top off
  k_with_none
  trivial
theorem pool_spec : ∀ {w : World} {mean : ExcName → Option Value} {mg mb : Str → Option Value} {dp un : Nat} {gd : Option (List Code)} {cn : Str} {cs : Scope} {a : Addr} {ccd : Value} {cl : List (Str × Addr)} {outer : List Env} {A₀ : Around} {base h₀ : Heap} {L : Addr} {m : Str → Option Value} {news : List (Addr × Obj)} {s : Shared}
    {Q E : Value → Shared → Prop} (B : Below A₀ base outer h₀) (F : Fr h₀ L s.heap m) (X : (hd.heap_1 w.params).In h₀) (N : News h₀ L s.heap news) (T : Top topProg LS mean mg mb h₀) (hk : cs.kind = .function) (hdp : dp < 860) (hu : un < 7700)
    {sc : Addr} {vs : List Value} {ns : List Int} {t0 : Tok} (hl : h₀.IsList sc vs.toArray) (hI : IntsAre vs ns) (hn : ns.length ≤ 63)
    (ret : ∀ l so h' tk', SrcO so → Fr h₀ L h' m → News h₀ L h' ((l, so) :: news) → (∀ p ∈ news, @LT.lt Nat _ p.1 l) → Q (.ref l) { s with heap := h', toks := tk' }),
    wpAny (model PySem.Challenge.rw_on0339_01.row.prog w) (ktrTop dp un gd cn cs L a ccd cl outer) (call (.ref 274) [.ref sc, .int 0 t0]) Q E s := by
  k_fill
  intro w mean mg mb dp un gd cn cs a ccd cl outer A₀ base h₀ L m news s Q E B F X N T hk hdp hu sc vs ns t0 hl hI hn ret
  refine wpAny_call ?_
  k_dflt (refine' code_def (binds := [(Str.ofString "script", .ref sc), (Str.ofString "k", .int 0 t0)]) ?k1 ?k2 ?k3 ?k4 ?k5 ?kA ?kF ?kK ?k6 ?k7 ?k8 ?k9 ?kB ?_ ?c2 ?c3 ?c4 ?c5; (case kA => exact rfl); (case kF => exact rfl); (case kK => assumption); (case k1 => k_asm); (case k2 => k_asm); (case k3 => k_asm); (case k4 => k_asm); (case k5 => k_asm); (case k6 => k_is); (case k7 => k_is); (case k8 => ktr_room); (case k9 => exact BindsTo.of_eq rfl); (case c5 => decide); (case kB => exact locs rfl); (case c2 => exact rfl); (case c3 => exact rfl); (case c4 => exact rfl))
  intro g1 L1 h1 FG1 F1 N1 B1 X1 T1
  change Fr g1 L1 h1 (fun y => List.lookup y [(Str.ofString "k", .int 0 t0), (Str.ofString "script", .ref sc)]) at F1
  dsimp only
  k_fold
  have lifted : g1.IsList sc vs.toArray := let ⟨o, ho, r⟩ := hl; ⟨o, FG1.keep _ _ ho, r⟩
  clear hl
  have hs1 : ∀ (c : Int) (b : Bool), (0 : Int) ≤ (if -1 - c > c then -1 - c else c) * (if b = true then 1 else 0) := fun c b => Int.mul_nonneg (by split <;> omega) (by split <;> decide)
  have hs2 : ∀ c : Int, (0 : Int) ≤ c.fmod 2147483647 := fun c => by
    rw [Int.fmod_eq_emod_of_nonneg _ (by decide)]
    exact Int.emod_nonneg _ (by decide)
  k_steps
  all_goals exact ret _ _ _ _ ⟨_, _, _, _, _, rfl, hs1 _ _, hs2 _⟩ (by k_asm) (by k_asm) (by assumption)
end
section
open PySem PySem.W PySem.Calls PyProof.Rows PyProof.V PySem.Spec
theorem kclrC20 : True := by
  w_top off
  k_with_none
  trivial
theorem kset_C20_1 : True := by
  k_with "k_mem" => (first | assumption | exact List.mem_cons_self | (refine List.mem_cons_of_mem _ ?_; k_mem) | (refine List.mem_append_right _ ?_; k_mem))
  trivial
def DeedRaises (w : World) (f C : Addr) (news : List (Addr × Obj)) : Prop :=
  ∀ {mean : ExcName → Option Value} {mg mb : Str → Option Value} {dp un : Nat} {gd : Option (List Code)} {cn : Str} {cs : Scope} {a : Addr} {ccd : Value} {cl : List (Str × Addr)} {outer : List Env} {A₀ : Around} {base h₀ : Heap} {L : Addr} {m : Str → Option Value} {s : Shared}
    {Q E : Value → Shared → Prop} (B : Below A₀ base outer h₀) (F : Fr h₀ L s.heap m) (X : (hd.heap_1 w.params).In h₀) (N : News h₀ L s.heap news) (T : Top topProg LS mean mg mb h₀) (hk : cs.kind = .function) (hdp : dp < 860) (hu : un < 7700)
    (raz : ∀ e h' g₂ tk', RaisedSN base g₂ (envX cn cs L a ccd cl :: outer) e (.ref C) news h' → Fr h₀ L g₂ m → g₂.UpToSlots h' → E (.ref e) { s with heap := h', toks := tk' }),
    wpAny (model PySem.Challenge.rw_on0339_01.row.prog w) (ktrTop dp un gd cn cs L a ccd cl outer) (call (.ref f) []) Q E s
theorem deed_call : ∀ {w : World} {f C : Addr} {news : List (Addr × Obj)} (hD : DeedRaises w f C news) {mean : ExcName → Option Value} {mg mb : Str → Option Value} {dp un : Nat} {gd : Option (List Code)} {cn : Str} {cs : Scope} {a : Addr} {ccd : Value} {cl : List (Str × Addr)} {outer : List Env} {A₀ : Around} {base h₀ : Heap} {L : Addr} {m : Str → Option Value} {s : Shared}
    {Q E : Value → Shared → Prop} (B : Below A₀ base outer h₀) (F : Fr h₀ L s.heap m) (X : (hd.heap_1 w.params).In h₀) (N : News h₀ L s.heap news) (T : Top topProg LS mean mg mb h₀) (hk : cs.kind = .function) (hdp : dp < 860) (hu : un < 7700)
    (raz : ∀ e h' g₂ tk', RaisedSN base g₂ (envX cn cs L a ccd cl :: outer) e (.ref C) news h' → Fr h₀ L g₂ m → g₂.UpToSlots h' → E (.ref e) { s with heap := h', toks := tk' }),
    wpAny (model PySem.Challenge.rw_on0339_01.row.prog w) (ktrTop dp un gd cn cs L a ccd cl outer) (call (.ref f) []) Q E s := by
  intro w f C news hD mean mg mb dp un gd cn cs a ccd cl outer A₀ base h₀ L m s Q E B F X N T hk hdp hu raz
  exact hD B F X N T hk hdp hu raz
theorem kset_C20_2 : True := by
  k_with "call ref nil nil" => (((k_here; k_dflt (refine' deed_call ?u_D ?u_B ?u_F ?u_X ?u_N ?u_T ?u_hk ?u_hdp ?u_hu ?_; (case u_D => assumption); (case u_B => k_asm); (case u_F => k_asm); (case u_X => k_asm); (case u_N => k_asm); (case u_T => k_asm); (case u_hk => first | exact rfl | assumption); (case u_hdp => ktr_room); (case u_hu => ktr_units)); intro e9ₖ h9ₖ g9ₖ tk9ₖ R9ₖ F9ₖ U9ₖ; (try dsimp only at R9ₖ U9ₖ ⊢)); all_goals ((try revert U9ₖ); (try revert F9ₖ); (try revert R9ₖ); (try revert tk9ₖ); (try revert g9ₖ); (try revert h9ₖ); (try revert e9ₖ); intros)))
  k_with "callWith ref nil nil" => ((k_here; k_dflt (refine' callWith_F0 ?k1 ?_; (case k1 => exact FnAt.of (by k_asm) (by assumption))); (try dsimp only [List.nil_append, List.cons_append])))
  k_with "noteFrame ref" => (((k_here; (rename RaisedSN _ _ _ _ _ _ _ => rsX); k_dflt (refine' caught_excS rsX ?F ?K ?U ?XB ?TB ?hC ?hb ?hv ?_; (case F => assumption); (case K => assumption); (case U => assumption); (case XB => assumption); (case TB => assumption); (case hC => assumption); (case hb => assumption); (case hv => exact rfl)); intro h9ₖ g9ₖ T9ₖ F9ₖ N9ₖ K9ₖ X9ₖ P9ₖ; (try k_sweep)); all_goals ((try revert P9ₖ); (try revert X9ₖ); (try revert K9ₖ); (try revert N9ₖ); (try revert F9ₖ); (try revert T9ₖ); (try revert g9ₖ); (try revert h9ₖ); intros)))
  trivial
theorem refused_spec : ∀ {w : World} {mean : ExcName → Option Value} {mg mb : Str → Option Value} {dp un : Nat} {gd : Option (List Code)} {cn : Str} {cs : Scope} {a : Addr} {ccd : Value} {cl : List (Str × Addr)} {outer : List Env} {A₀ : Around} {base h₀ : Heap} {L : Addr} {m : Str → Option Value} {news : List (Addr × Obj)} {s : Shared}
    {Q E : Value → Shared → Prop} (B : Below A₀ base outer h₀) (F : Fr h₀ L s.heap m) (X : (hd.heap_1 w.params).In h₀) (N : News h₀ L s.heap news) (T : Top topProg LS mean mg mb h₀) (hk : cs.kind = .function) (hdp : dp < 850) (hu : un < 7600)
    {C f : Addr} {nm q : Str} {N0 : Addr} {bs bm : List Value} {hdct : Bool} {sn : List Str} {sub : List Value} {ab : Bool} {col : Option Bool} {dd : Option Addr} {k0 k1 k2 k3 k5 : Option Value} {newId : String}
    (XB : (hd.heap_1 w.params).In base) (TB : Top topProg LS mean mg mb base) (D : KtsDicts (outer.filterMap (·.frame)) h₀) (hC : (hd.heap_1 w.params).lookup C = some (excClassObj nm q C N0 bs bm hdct sn sub ab col dd k0 k1 k2 k3 k5 newId)) (hbase : bm.contains (.type "BaseException") = true) {fd : FuncData} (hfn : (f, ({ cls := .type "function", data := .func fd } : Obj)) ∈ news) (hD : DeedRaises w f C news)
    (ret : ∀ h' tk' g', KtsTurn (outer.filterMap (·.frame)) h₀ g' → Fr g' L h' m → News g' L h' news → Below A₀ base outer g' → (hd.heap_1 w.params).In g' → Top topProg LS mean mg mb g' → KtsDicts (outer.filterMap (·.frame)) g' → Q (.bool true) { s with heap := h', toks := tk' }),
    wpAny (model PySem.Challenge.rw_on0339_01.row.prog w) (ktrTop dp un gd cn cs L a ccd cl outer) (call (.ref 295) [.ref C, .ref f]) Q E s := by
  k_fill
  intro w mean mg mb dp un gd cn cs a ccd cl outer A₀ base h₀ L m news s Q E B F X N T hk hdp hu C f nm q N0 bs bm hdct sn sub ab col dd k0 k1 k2 k3 k5 newId XB TB D hC hbase fd hfn hD ret
  refine wpAny_call ?_
  k_dflt (refine' code_defSX (binds := [(Str.ofString "kind", .ref C), (Str.ofString "deed", .ref f)]) ?k1 ?k2 ?k3 ?k4 ?k5 ?xb ?tb ?d0 ?t0 ?kA ?kF ?kK ?k6 ?k7 ?k8 ?k9 ?kB ?_ ?c2 ?c3 ?c4 ?c5; (case xb => assumption); (case tb => assumption); (case d0 => assumption); (case t0 => exact KtsTurn.refl); (case kA => exact rfl); (case kF => exact rfl); (case kK => assumption); (case k1 => k_asm); (case k2 => k_asm); (case k3 => assumption); (case k4 => k_asm); (case k5 => assumption); (case k6 => k_is); (case k7 => k_is); (case k8 => ktr_room); (case k9 => exact BindsTo.of_eq rfl); (case c5 => decide); (case kB => exact locs rfl); (case c2 => exact rfl); (case c3 => exact rfl); (case c4 => exact rfl))
  intro g1 L1 h1 FG1 F1 N1 B1 X1 T1 D1
  change Fr g1 L1 h1 (fun y => List.lookup y [(Str.ofString "deed", .ref f), (Str.ofString "kind", .ref C)]) at F1
  dsimp only
  k_fold
  clear X T
  k_steps
  exact ret _ _ _ (by assumption) (by assumption) (by assumption) (by assumption) (by assumption) (by assumption) (by assumption)
end
section
open PySem PySem.W PySem.Calls PyProof.Rows PyProof.V PySem.Spec
theorem kclrC21 : True := by
  w_top off
  k_with_none
  trivial
theorem one_tup : ∀ {w : World} {mean : ExcName → Option Value} {mg mb : Str → Option Value} {dp un : Nat} {gd : Option (List Code)} {cn : Str} {cs : Scope} {a : Addr} {ccd : Value} {cl : List (Str × Addr)} {outer : List Env} {A₀ : Around} {base h₀ : Heap} {L : Addr} {m : Str → Option Value} {news : List (Addr × Obj)} {g : Obj → List (Addr × Obj)} {src : Addr} {so : Obj} {s : Shared}
    {Q E : Value → Shared → Prop} (B : Below A₀ base outer h₀) (F : Fr h₀ L s.heap m) (X : (hd.heap_1 w.params).In h₀) (N : News h₀ L s.heap news) (T : Top topProg LS mean mg mb h₀) (hk : cs.kind = .function) (hdp : dp < 880) (hu : un < 7900)
    {l a1 a2 : Addr} {p1 f1 p2 f2 : Int} {tp1 tf1 tp2 tf2 : Tok} {nl : Nat} (U : UpdF src so news g) (hso : SrcO so) (hm : (l, listOf #[.ref a1, .ref a2] nl) ∈ news) (hne : l ≠ src) (h1 : (a1, tupO [.int p1 tp1, .int f1 tf1]) ∈ news) (h2 : (a2, tupO [.int p2 tp2, .int f2 tf2]) ∈ news) (n1 : a1 ≠ src) (n2 : a2 ≠ src)
    (ret : ∀ (T : Addr) (p f : Int) tp tf o' h' tk', (@Eq Nat T a1 ∨ @Eq Nat T a2) → SrcO o' → Fr h₀ L h' m → News h₀ L h' ((T, tupO [.int p tp, .int f tf]) :: g o') → Q (.ref T) { s with heap := h', toks := tk' }),
    wpAny (model PySem.Challenge.rw_on0339_01.row.prog w) (ktrTop dp un gd cn cs L a ccd cl outer) (call (.ref 288) [.ref src, .ref l]) Q E s := by
  intro w mean mg mb dp un gd cn cs a ccd cl outer A₀ base h₀ L m news g src so s Q E B F X N T hk hdp hu l a1 a2 p1 f1 p2 f2 tp1 tf1 tp2 tf2 nl U hso hm hne h1 h2 n1 n2 ret
  refine one_U B F X N T hk hdp hu (vs := [.ref a1, .ref a2]) U hso hm hne (by simp) (by simp) (fun v o' h' tk' hv a F' N' => ?_)
  obtain ⟨rest, u1, u2, u3⟩ := updF_rest U
  have keep : ∀ p ∈ news, p.1 ≠ src → p ∈ g o' := fun p hp hn => (u3 o' p).mpr (List.mem_cons_of_mem _ (mem_rest u2 hp hn))
  simp only [List.mem_cons, List.not_mem_nil, or_false] at hv
  rcases hv with rfl | rfl
  · exact ret _ _ _ _ _ _ _ _ (.inl rfl) a F' (fun p hp => (List.mem_cons.mp hp).elim (fun e => e ▸ N' _ (keep _ h1 n1)) (N' p))
  · exact ret _ _ _ _ _ _ _ _ (.inr rfl) a F' (fun p hp => (List.mem_cons.mp hp).elim (fun e => e ▸ N' _ (keep _ h2 n2)) (N' p))
theorem kset_C21_1 : True := by
  k_with "mem" => ((with_reducible first | exact mm0 | exact mm1 | exact mm2 | exact mm3 | exact mm4 | exact mm5 | exact mm6 | exact mm7 | exact mm8 | exact mm9 | exact mm10 | exact mm11 | exact mm12 | exact mm13 | exact mm14 | exact mm15 | exact mm16 | exact mm17 | exact mm18 | (refine List.mem_append_right _ ?_; walk_at "mem")))
  k_with "subs" => ((with_reducible (repeat (first | exact sub_same | exact sub_nil | exact sub_left sub_same | refine sub_keep ?_ | (refine sub_cons ?_ ?_; (focus (walk_at "mem"; done))) | refine sub_app ?_ ?_ | refine sub_skip ?_ | refine sub_right ?_))))
  k_with "k_ne" => (first | with_reducible assumption | (refine Ne.symm ?_; with_reducible assumption) | (refine neN ?_; (try dsimp only); omega))
  k_with "k_mem" => (first | assumption | exact List.mem_cons_self | (refine List.mem_cons_of_mem _ ?_; k_mem) | (refine List.mem_append_right _ ?_; k_mem))
  k_with "k_all" => (first | assumption | exact allLt_ne (by assumption) | exact allLt_ne1 (by assumption) | exact allLt_ne2 (by assumption) | exact allLt_ne3 (by assumption) | exact allLt_ne4 (by assumption) | exact allLt_ne5 (by assumption) | exact allLt_ne6 (by assumption))
  trivial
theorem is_there_t : ∀ {w : World} {mean : ExcName → Option Value} {mg mb : Str → Option Value} {dp un : Nat} {gd : Option (List Code)} {cn : Str} {cs : Scope} {a : Addr} {ccd : Value} {cl : List (Str × Addr)} {outer : List Env} {A₀ : Around} {base h₀ : Heap} {L : Addr} {m : Str → Option Value} {news : List (Addr × Obj)} {s : Shared}
    {Q E : Value → Shared → Prop} (B : Below A₀ base outer h₀) (F : Fr h₀ L s.heap m) (X : (hd.heap_1 w.params).In h₀) (N : News h₀ L s.heap news) (T : Top topProg LS mean mg mb h₀) (hk : cs.kind = .function) (hdp : dp < 890) (hu : un < 8000)
    {tb td rd : Addr} {tt : Tok} {ro : Obj} {rs : List R} {kvs : List (Int × Value)} {xa xp xo : Int} {xrv : Value} {xr : Option (Int × Int)} {ta tp to_ : Tok} (m1 : (tb, instObj 164 td) ∈ news) (m2 : (td, dictOf [⟨PyData.keyHash w.params (Str.ofString "rows"), .str (Str.ofString "rows") tt, .ref rd⟩] 1) ∈ news) (m3 : (rd, ro) ∈ news) (lo : (rd == sysModules) = false) (m4 : ro.IsDictOf (intKind PySem.Challenge.rw_on0339_01.row.prog w) kvs) (m5 : RowsAt w news rs kvs) (m6 : RemAt news xrv xr) (hx : ExR rs (fun r => r.o ≠ xo ∧ r.a = xa ∧ r.p = xp ∧ r.r = xr))
    (ret : ∀ h' tk', Fr h₀ L h' m → News h₀ L h' news → Q (.bool true) { s with heap := h', toks := tk' }),
    wpAny (model PySem.Challenge.rw_on0339_01.row.prog w) (ktrTop dp un gd cn cs L a ccd cl outer) (call (.ref 133) [.ref tb, .int xa ta, .int xp tp, xrv, .int xo to_]) Q E s := by
  intro w mean mg mb dp un gd cn cs a ccd cl outer A₀ base h₀ L m news s Q E B F X N T hk hdp hu tb td rd tt ro rs kvs xa xp xo xrv xr ta tp to_ m1 m2 m3 lo m4 m5 m6 hx ret
  refine is_there_spec B F X N T hk hdp hu m1 m2 m3 lo m4 m5 m6 (fun b h' tk' hb F' N' => ?_)
  have : b = true := hb.mpr hx
  subst this
  exact ret h' tk' F' N'
theorem is_there_f : ∀ {w : World} {mean : ExcName → Option Value} {mg mb : Str → Option Value} {dp un : Nat} {gd : Option (List Code)} {cn : Str} {cs : Scope} {a : Addr} {ccd : Value} {cl : List (Str × Addr)} {outer : List Env} {A₀ : Around} {base h₀ : Heap} {L : Addr} {m : Str → Option Value} {news : List (Addr × Obj)} {s : Shared}
    {Q E : Value → Shared → Prop} (B : Below A₀ base outer h₀) (F : Fr h₀ L s.heap m) (X : (hd.heap_1 w.params).In h₀) (N : News h₀ L s.heap news) (T : Top topProg LS mean mg mb h₀) (hk : cs.kind = .function) (hdp : dp < 890) (hu : un < 8000)
    {tb td rd : Addr} {tt : Tok} {ro : Obj} {rs : List R} {kvs : List (Int × Value)} {xa xp xo : Int} {xrv : Value} {xr : Option (Int × Int)} {ta tp to_ : Tok} (m1 : (tb, instObj 164 td) ∈ news) (m2 : (td, dictOf [⟨PyData.keyHash w.params (Str.ofString "rows"), .str (Str.ofString "rows") tt, .ref rd⟩] 1) ∈ news) (m3 : (rd, ro) ∈ news) (lo : (rd == sysModules) = false) (m4 : ro.IsDictOf (intKind PySem.Challenge.rw_on0339_01.row.prog w) kvs) (m5 : RowsAt w news rs kvs) (m6 : RemAt news xrv xr) (hx : ¬ ExR rs (fun r => r.o ≠ xo ∧ r.a = xa ∧ r.p = xp ∧ r.r = xr))
    (ret : ∀ h' tk', Fr h₀ L h' m → News h₀ L h' news → Q (.bool false) { s with heap := h', toks := tk' }),
    wpAny (model PySem.Challenge.rw_on0339_01.row.prog w) (ktrTop dp un gd cn cs L a ccd cl outer) (call (.ref 133) [.ref tb, .int xa ta, .int xp tp, xrv, .int xo to_]) Q E s := by
  intro w mean mg mb dp un gd cn cs a ccd cl outer A₀ base h₀ L m news s Q E B F X N T hk hdp hu tb td rd tt ro rs kvs xa xp xo xrv xr ta tp to_ m1 m2 m3 lo m4 m5 m6 hx ret
  refine is_there_spec B F X N T hk hdp hu m1 m2 m3 lo m4 m5 m6 (fun b h' tk' hb F' N' => ?_)
  have : b = false := by cases b; rfl; exact absurd (hb.mp rfl) hx
  subst this
  exact ret h' tk' F' N'
theorem kset_C21_2 : True := by
  k_with "call ref cons nil" => (((k_here; (with_reducible show wpAny _ _ (call (Value.ref 133) _) _ _ _); k_dflt (refine' is_there_t ?u_B ?u_F ?u_X ?u_N ?u_T ?u_hk ?u_hdp ?u_hu ?u_m1 ?u_m2 ?u_m3 ?u_lo ?u_m4 ?u_m5 ?u_m6 ?u_hx ?_; (case u_B => k_asm); (case u_F => k_asm); (case u_X => k_asm); (case u_N => k_asm); (case u_T => k_asm); (case u_hk => first | exact rfl | assumption); (case u_hdp => ktr_room); (case u_hu => ktr_units); (case u_m1 => k_mem); (case u_m2 => k_mem); (case u_m3 => k_mem); (case u_lo => assumption); (case u_m4 => assumption); (case u_m5 => first | assumption | (refine RowsAt.mono ?_ (by assumption); walk_at "subs")); (case u_m6 => exact (show RemAt _ Value.none none from rfl)); (case u_hx => assumption)); intro h9ₖ tk9ₖ F9ₖ N9ₖ; (try k_sweep)); all_goals ((try revert N9ₖ); (try revert F9ₖ); (try revert tk9ₖ); (try revert h9ₖ); intros)))
  k_with "call ref cons nil" => (((k_here; (with_reducible show wpAny _ _ (call (Value.ref 133) _) _ _ _); k_dflt (refine' is_there_f ?u_B ?u_F ?u_X ?u_N ?u_T ?u_hk ?u_hdp ?u_hu ?u_m1 ?u_m2 ?u_m3 ?u_lo ?u_m4 ?u_m5 ?u_m6 ?u_hx ?_; (case u_B => k_asm); (case u_F => k_asm); (case u_X => k_asm); (case u_N => k_asm); (case u_T => k_asm); (case u_hk => first | exact rfl | assumption); (case u_hdp => ktr_room); (case u_hu => ktr_units); (case u_m1 => k_mem); (case u_m2 => k_mem); (case u_m3 => k_mem); (case u_lo => assumption); (case u_m4 => assumption); (case u_m5 => first | assumption | (refine RowsAt.mono ?_ (by assumption); walk_at "subs")); (case u_m6 => exact (show RemAt _ Value.none none from rfl)); (case u_hx => assumption)); intro h9ₖ tk9ₖ F9ₖ N9ₖ; (try k_sweep)); all_goals ((try revert N9ₖ); (try revert F9ₖ); (try revert tk9ₖ); (try revert h9ₖ); intros)))
  k_with "call ref cons nil" => (((k_here; (with_reducible show wpAny _ _ (call (Value.ref 281) _) _ _ _); k_dflt (refine' take_U ?u_B ?u_F ?u_X ?u_N ?u_T ?u_hk ?u_hdp ?u_hu ?u_U ?u_hso ?u_ht ?u_ht2 ?_; (case u_B => k_asm); (case u_F => k_asm); (case u_X => k_asm); (case u_N => k_asm); (case u_T => k_asm); (case u_hk => first | exact rfl | assumption); (case u_hdp => ktr_room); (case u_hu => ktr_units); (case u_U => k_updF); (case u_hso => assumption); (case u_ht => decide); (case u_ht2 => decide)); intro r9ₖ tr9ₖ o9ₖ h9ₖ tk9ₖ ha9ₖ hb9ₖ hs9ₖ F9ₖ N9ₖ; (try k_sweep); (try dsimp only at N9ₖ)); all_goals ((try revert N9ₖ); (try revert F9ₖ); (try revert hs9ₖ); (try revert hb9ₖ); (try revert ha9ₖ); (try revert tk9ₖ); (try revert h9ₖ); (try revert o9ₖ); (try revert tr9ₖ); (try revert r9ₖ); intros)))
  k_with "call ref cons nil" => (((k_here; (with_reducible show wpAny _ _ (call (Value.ref 288) _) _ _ _); k_dflt (refine' one_tup ?u_B ?u_F ?u_X ?u_N ?u_T ?u_hk ?u_hdp ?u_hu ?u_U ?u_hso ?u_hm ?u_hne ?u_h1 ?u_h2 ?u_n1 ?u_n2 ?_; (case u_B => k_asm); (case u_F => k_asm); (case u_X => k_asm); (case u_N => k_asm); (case u_T => k_asm); (case u_hk => first | exact rfl | assumption); (case u_hdp => ktr_room); (case u_hu => ktr_units); (case u_U => k_updF); (case u_hso => assumption); (case u_hm => k_mem); (case u_hne => k_ne); (case u_h1 => k_mem); (case u_h2 => k_mem); (case u_n1 => k_ne); (case u_n2 => k_ne)); intro T9ₖ p9ₖ f9ₖ tp9ₖ tf9ₖ o9ₖ h9ₖ tk9ₖ hT9ₖ hs9ₖ F9ₖ N9ₖ; (try k_sweep); (try dsimp only at N9ₖ)); all_goals ((try revert N9ₖ); (try revert F9ₖ); (try revert hs9ₖ); (try revert hT9ₖ); (try revert tk9ₖ); (try revert h9ₖ); (try revert o9ₖ); (try revert tf9ₖ); (try revert tp9ₖ); (try revert f9ₖ); (try revert p9ₖ); (try revert T9ₖ); intros)))
  k_with "call ref cons nil" => (((k_here; (with_reducible show wpAny _ _ (call (Value.ref 288) _) _ _ _); k_dflt (refine' one_int ?u_B ?u_F ?u_X ?u_N ?u_T ?u_hk ?u_hdp ?u_hu ?u_U ?u_hso ?u_hm ?u_hne ?u_hl0 ?u_hl ?u_hI ?_; (case u_B => k_asm); (case u_F => k_asm); (case u_X => k_asm); (case u_N => k_asm); (case u_T => k_asm); (case u_hk => first | exact rfl | assumption); (case u_hdp => ktr_room); (case u_hu => ktr_units); (case u_U => k_updF); (case u_hso => assumption); (case u_hm => k_mem); (case u_hne => k_ne); (case u_hl0 => simp); (case u_hl => simp); (case u_hI => first | exact hI3 | exact hI2)); intro k9ₖ t9ₖ o9ₖ h9ₖ tk9ₖ hk9ₖ hs9ₖ F9ₖ N9ₖ; (try k_sweep); (try dsimp only at N9ₖ)); all_goals ((try revert N9ₖ); (try revert F9ₖ); (try revert hs9ₖ); (try revert hk9ₖ); (try revert tk9ₖ); (try revert h9ₖ); (try revert o9ₖ); (try revert t9ₖ); (try revert k9ₖ); intros)))
  k_with "call ref cons nil" => ((k_here; (with_reducible show wpAny _ _ (call (Value.ref 295) _) _ _ _); refine Stop.here ?_))
  k_with "call ref cons nil" => ((k_here; (with_reducible show wpAny _ _ (call (Value.ref 140) _) _ _ _); refine Stop.here ?_))
  k_with "call ref cons nil" => ((k_here; (with_reducible show wpAny _ _ (call (Value.ref 147) _) _ _ _); refine Stop.here ?_))
  k_with "call ref cons nil" => ((k_here; (with_reducible show wpAny _ _ (call (Value.ref 154) _) _ _ _); refine Stop.here ?_))
  k_with "exec If BoolOp cons nil" => ((k_here; (rename Chk => hchk); (clear hchk); refine Stop.here ?_))
  k_with "exec If BoolOp" => ((k_here; (rename Chk => hchk); (clear hchk); refine Stop.here ?_))
  k_with "compareOp In int ref" => ((k_here; k_dflt (first
  | (refine' in_some (knd := intKind _ _) ?N ?hp ?hd ?lo (intKind_is _ _ _ _) ?hv ?_; (case N => k_asm); (case hp => k_mem); (case hd => assumption); (case lo => assumption); (case hv => assumption))
  | (refine' in_none (knd := intKind _ _) ?N ?hp ?hd ?lo (intKind_is _ _ _ _) ?hv ?_; (case N => k_asm); (case hp => k_mem); (case hd => assumption); (case lo => assumption); (case hv => assumption)))))
  k_with "compareOp NotIn int ref" => ((k_here; k_dflt (first
  | (refine' notin_some (knd := intKind _ _) ?N ?hp ?hd ?lo (intKind_is _ _ _ _) ?hv ?_; (case N => k_asm); (case hp => k_mem); (case hd => assumption); (case lo => assumption); (case hv => assumption))
  | (refine' notin_none (knd := intKind _ _) ?N ?hp ?hd ?lo (intKind_is _ _ _ _) ?hv ?_; (case N => k_asm); (case hp => k_mem); (case hd => assumption); (case lo => assumption); (case hv => assumption)))))
  k_with "eval ListComp" => ((k_here; k_dflt (refine ListComp_D (intKind _ _) (by k_asm) (by with_unfolding_all rfl) (by decide) (by rfl) (by decide) (by rfl) ?_)))
  k_with "SrcD" => ((refine Stop.here ?_))
  k_with "subscriptTail Name Name ref int" => ((k_here; (with_reducible show wpAny _ _ (subscriptTail _ _ (Value.ref _) (Value.int _ _)) _ _ _); k_dflt (refine' kda_item (knd := intKind _ _) ?N ?hp ?hd (intKind_is _ _ _ _) ?hl ?_; (case N => k_asm); (case hp => k_mem); (case hd => assumption); (case hl => assumption))))
  k_with "subscriptTail" => ((k_here; (with_reducible show wpAny _ _ (subscriptTail _ _ (Value.ref _) (Value.int _ _)) _ _ _); k_dflt (refine' kda_item (knd := intKind _ _) ?N ?hp ?hd (intKind_is _ _ _ _) ?hl ?_; (case N => k_asm); (case hp => k_mem); (case hd => assumption); (case hl => assumption))))
  k_with "compareOp Eq ref ref" => ((k_here; k_dflt (refine' trow_eqB ?u_N ?u_1 ?u_2 ?u_h ?u_b ?_; (case u_N => k_asm); (case u_1 => exact TRowAt.mono (by assumption) (by walk_at "subs")); (case u_2 => exact trow_tup (o := 0) (by k_mem) (by first | exact (show RemAt _ Value.none none from rfl) | exact rem_tup (by k_mem))); (case u_b => assumption); (case u_h => ktr_units))))
  k_with "compareOp NotEq ref ref" => ((k_here; k_dflt (refine' lst_ne_nilB ?u_N ?u_1 ?u_2 ?u_i ?u_b ?u_h ?_; (case u_N => k_asm); (case u_1 => k_mem); (case u_2 => k_mem); (case u_i => assumption); (case u_b => assumption); (case u_h => ktr_units))))
  k_with "CompEnd" => ((refine Stop.here ?_))
  k_with "eval Lambda" => (((k_here; k_dflt (refine' kla_eval ?d0 ?_; (case d0 => exact rfl)); k_dflt (refine' lam_any ?F ?N ?T ?C ?cd ?U ?I ?cl ?_; (case F => k_asm); (case N => k_asm); (case T => k_asm); (case cd => exact rfl); (case C => exact CHid.keep (by assumption) (by assumption)); (case U => k_updF); (case I => assumption); (case cl => exact rfl)); intro f9ₖ c9ₖ oc9ₖ vs9ₖ t9ₖ ct9ₖ h9ₖ tk9ₖ tl9ₖ ps9ₖ F9ₖ N9ₖ m9ₖ d9ₖ e9ₖ I9ₖ l9ₖ r9ₖ; (try dsimp only at N9ₖ)); all_goals ((try revert r9ₖ); (try revert l9ₖ); (try revert I9ₖ); (try revert e9ₖ); (try revert d9ₖ); (try revert m9ₖ); (try revert N9ₖ); (try revert F9ₖ); (try revert ps9ₖ); (try revert tl9ₖ); (try revert tk9ₖ); (try revert h9ₖ); (try revert ct9ₖ); (try revert t9ₖ); (try revert vs9ₖ); (try revert oc9ₖ); (try revert c9ₖ); (try revert f9ₖ); intros)))
  k_with "eval Name" => ((k_here; (with_reducible show wpAny _ _ (eval (Expr.Name _ _) (envX _ _ _ _ _ _)) _ _ _); k_dflt (refine' nameX_F ?N ?c ?m ?d ?_ ?a ?b; (case a => rfl); (case b => rfl); (case N => k_asm); (case c => rfl); (case m => k_mem); (case d => k_asm))))
  k_with "leaving ref" => (((k_here; k_dflt (refine' leave_onS1X ?k0 ?k1 ?k2 ?k3 ?_; (case k2 => assumption); (case k0 => assumption); (case k1 => assumption); (case k3 => assumption)); intro h'ₖ R'ₖ U'ₖ; (try dsimp only at R'ₖ U'ₖ ⊢)); all_goals ((try revert U'ₖ); (try revert R'ₖ); (try revert h'ₖ); intros)))
  k_with "setItem ref int ref" => (((k_here; k_dflt (refine' kda_set (knd := intKind _ _) ?F ?N ?U ?d (intKind_is _ _ _ _) ?z ?_; (case F => k_asm); (case N => k_asm); (case U => k_updF); (case d => assumption); (case z => assumption)); intro h'ₖ o'ₖ F'ₖ N'ₖ hd'ₖ; (try dsimp only at N'ₖ); (try k_sweep)); all_goals ((try revert hd'ₖ); (try revert N'ₖ); (try revert F'ₖ); (try revert o'ₖ); (try revert h'ₖ); intros)))
  k_with "setItem ref int" => (((k_here; k_dflt (refine' kda_set (knd := intKind _ _) ?F ?N ?U ?d (intKind_is _ _ _ _) ?z ?_; (case F => k_asm); (case N => k_asm); (case U => k_updF); (case d => assumption); (case z => assumption)); intro h'ₖ o'ₖ F'ₖ N'ₖ hd'ₖ; (try dsimp only at N'ₖ); (try k_sweep)); all_goals ((try revert hd'ₖ); (try revert N'ₖ); (try revert F'ₖ); (try revert o'ₖ); (try revert h'ₖ); intros)))
  k_with "getMethod ref" => ((k_here; (with_reducible show wpAny _ _ (getMethod (Value.ref _) (Str.ofString "pop") _) _ _ _); k_dflt (refine' kob_method (knd := PySem.intKind _ _) PySem.F.slot_dict_pop PySem.F.type_dict_pop ?N ?hp ?hd ?_; (case N => k_asm); (case hp => k_mem); (case hd => assumption))))
  k_with "call builtin:dict.pop" => (((k_here; k_dflt (refine' kob_pop (knd := PySem.intKind _ _) (more := []) ?F ?N ?U ?d (intKind_is _ _ _ _) (.inl rfl) (by rfl) (PySem.F.args_dict_pop_2 _ _) ?l ?z ?_; (case F => k_asm); (case N => k_asm); (case U => k_updF); (case d => assumption); (case l => assumption); (case z => assumption)); intro h'ₖ o'ₖ F'ₖ N'ₖ hd'ₖ; (try dsimp only at N'ₖ); (try k_sweep)); all_goals ((try revert hd'ₖ); (try revert N'ₖ); (try revert F'ₖ); (try revert o'ₖ); (try revert h'ₖ); intros)))
  k_with "getMethod ref" => ((k_here; (with_reducible show wpAny _ _ (getMethod (Value.ref _) (Str.ofString "remove") _) _ _ _); k_dflt (refine' method_inst ?k1 ?k2 ?k3 ?k4 ?k5 ?k6 ?k7 ?_; (case k1 => k_asm); (case k2 => k_asm); (case k3 => k_inst); (case k4 => k_is); (case k5 => k_is); (case k6 => k_is); (case k7 => k_get); k_whole)))
  k_with "subscriptTail Name Constant ref int" => ((k_here; k_dflt (refine' tup_itemN ?N ?m ?a ?b ?j ?x ?_; (case N => k_asm); (case m => k_mem); (case a => decide); (case b => decide); (case j => rfl); (case x => rfl))))
  k_with "subscriptTail Name Slice ref ref" => (((k_here; k_dflt (refine' slice_two (s := ⟨_, _, _, _, _⟩) ?F ?N ?m ?_ ?s ?t; (case F => k_asm); (case N => k_asm); (case m => k_mem); (case s => with_unfolding_all rfl); (case t => exact fun _ => rfl)); intro D9ₖ h9ₖ F9ₖ N9ₖ l9ₖ; (try k_lt l9ₖ); (try k_sweep)); all_goals ((try revert l9ₖ); (try revert N9ₖ); (try revert F9ₖ); (try revert h9ₖ); (try revert D9ₖ); intros)))
  k_with "ite" => ((k_here; (with_reducible show ite ((_ == (4 : Int)) = true) _ _); rw [if_neg (by simp only [beq_iff_eq]; omega)]))
  k_with "ite" => ((k_here; (with_reducible show ite ((_ != _) = true) _ _); first | rw [if_neg (by simp only [bne_iff_ne, ne_eq]; omega)] | rw [if_pos (by simp only [bne_iff_ne, ne_eq]; omega)]))
  trivial
theorem deed_spec : ∀ {w : World} {mean : ExcName → Option Value} {mg mb : Str → Option Value} {dp un : Nat} {gd : Option (List Code)} {cn : Str} {cs : Scope} {a : Addr} {ccd : Value} {cl : List (Str × Addr)} {outer : List Env} {A₀ : Around} {base h₀ : Heap} {L : Addr} {m : Str → Option Value} {src ld tb td rd : Addr} {so ro lobj : Obj} {ps : Array Value} {rest : List (Addr × Obj)} {s : Shared}
    {Q E : Value → Shared → Prop} (B : Below A₀ base outer h₀) (F : Fr h₀ L s.heap m) (X : (hd.heap_1 w.params).In h₀) (N : News h₀ L s.heap ((src, so) :: ((309 : Addr), tabObj ps) :: (rd, ro) :: (ld, lobj) :: rest)) (T : Top topProg LS mean mg mb h₀) (hk : cs.kind = .function) (hdp : dp < 840) (hu : un < 7500)
    {tt : Tok} {rs : List R} {kvs kvt : List (Int × Value)} (XB : (hd.heap_1 w.params).In base) (TB : Top topProg LS mean mg mb base) (D : KtsDicts (outer.filterMap (·.frame)) h₀) (C : CHid base 311 309) (I : TabInv (Str.ofString "_law_deed_right.<locals>.<lambda>") ps rest) (hso : SrcO so) (m1 : (tb, instObj 164 td) ∈ rest) (m2 : (td, dictOf [⟨PyData.keyHash w.params (Str.ofString "rows"), .str (Str.ofString "rows") tt, .ref rd⟩] 1) ∈ rest) (lo : (rd == sysModules) = false) (m4 : ro.IsDictOf (intKind PySem.Challenge.rw_on0339_01.row.prog w) kvs) (m5 : RowsAt w rest rs kvs) (lo2 : (ld == sysModules) = false) (n4 : lobj.IsDictOf (intKind PySem.Challenge.rw_on0339_01.row.prog w) kvt) (n5 : TRowsAt rest rs kvt) (hsz : rs.length ≤ 50) (hp1 : ∀ r ∈ rs, r.p ≠ 1) (q1 : @Ne Nat src 309) (q2 : @Ne Nat src rd) (q3 : @Ne Nat src ld) (q4 : @Ne Nat 309 rd) (q5 : @Ne Nat 309 ld) (q6 : @Ne Nat rd ld) (r1 : ∀ p ∈ rest, p.1 ≠ src) (r2 : ∀ p ∈ rest, p.1 ≠ (309 : Addr)) (r3 : ∀ p ∈ rest, p.1 ≠ rd) (r4 : ∀ p ∈ rest, p.1 ≠ ld) 
    (ret : ∀ so' ps' ro' lobj' rest' rs' kvs' kvt' h' tk' g', KtsTurn (outer.filterMap (·.frame)) h₀ g' → Fr g' L h' m → News g' L h' ((src, so') :: ((309 : Addr), tabObj ps') :: (rd, ro') :: (ld, lobj') :: rest') → Below A₀ base outer g' → KtsDicts (outer.filterMap (·.frame)) g' → TabInv (Str.ofString "_law_deed_right.<locals>.<lambda>") ps' rest' → SrcO so' → (∀ p ∈ rest, (∀ t o a q rv, p.2 ≠ rowD w t o a q rv) → p ∈ rest') → ro'.IsDictOf (intKind PySem.Challenge.rw_on0339_01.row.prog w) kvs' → RowsAt w rest' rs' kvs' → lobj'.IsDictOf (intKind PySem.Challenge.rw_on0339_01.row.prog w) kvt' → TRowsAt rest' rs' kvt' → rs'.length ≤ rs.length + 1 → (∀ r ∈ rs', r.p ≠ 1) → (∀ p ∈ rest', p.1 ≠ src) → (∀ p ∈ rest', p.1 ≠ (309 : Addr)) → (∀ p ∈ rest', p.1 ≠ rd) → (∀ p ∈ rest', p.1 ≠ ld) → Q (.bool true) { s with heap := h', toks := tk' }),
    wpAny (model PySem.Challenge.rw_on0339_01.row.prog w) (ktrTop dp un gd cn cs L a ccd cl outer) (call (.ref 312) [.ref src, .ref tb, .ref ld]) Q E s := by
  k_fill
  intro w mean mg mb dp un gd cn cs a ccd cl outer A₀ base h₀ L m src ld tb td rd so ro lobj ps rest s Q E B F X N T hk hdp hu tt rs kvs kvt XB TB D C I hso m1 m2 lo m4 m5 lo2 n4 n5 hsz hp1 q1 q2 q3 q4 q5 q6 r1 r2 r3 r4 ret
  refine wpAny_call ?_
  k_dflt (refine' code_defCS (binds := [(Str.ofString "source", .ref src), (Str.ofString "table", .ref tb), (Str.ofString "rows", .ref ld)]) ?k1 ?k2 ?k3 ?k4 ?k5 ?xb ?tb ?d0 ?t0 ?kA ?kF ?kK ?k6 ?k7 ?k8 ?k9 ?kB ?kD ?_ ?c2 ?c3 ?c4; (case xb => assumption); (case tb => assumption); (case d0 => assumption); (case t0 => exact KtsTurn.refl); (case kA => exact rfl); (case kF => exact rfl); (case kK => assumption); (case k1 => k_asm); (case k2 => k_asm); (case k3 => assumption); (case k4 => k_asm); (case k5 => assumption); (case k6 => k_is); (case k7 => k_is); (case k8 => ktr_room); (case k9 => exact BindsTo.of_eq rfl); (case kB => exact rfl); (case kD => decide +kernel); (case c2 => exact rfl); (case c3 => exact rfl); (case c4 => exact rfl))
  intro g1 L1 h1 tk1 cells FG1 F1 N1 Y1 B1 X1 T1 l1 D1
  k_lt l1
  obtain ⟨o1, o2, o3, o4, o5, o6, o7, hE, d1, d2, d3, d4, d5, d6, d7⟩ := kc_seven Y1
  subst hE
  clear Y1
  change o1.data = .cell none at d1
  change o2.data = .cell none at d2
  change o3.data = .cell none at d3
  change o4.data = .cell none at d4
  change o5.data = .cell none at d5
  change o6.data = .cell (some (.ref ld)) at d6
  change o7.data = .cell (some (.ref tb)) at d7
  change Fr g1 L1 h1 (fun y => if y = Str.ofString "source" then some (.ref src) else none) at F1
  simp only [List.cons_append, List.nil_append] at N1
  have hA := l1.2.2.2.2
  have z1 : ∀ p ∈ rest, p.1 ≠ L1 + 1 := fun p hp => Nat.ne_of_lt (Nat.lt_of_lt_of_le (allLt_mem hA hp) (by omega))
  have z2 : ∀ p ∈ rest, p.1 ≠ L1 + 1 + 1 := fun p hp => Nat.ne_of_lt (Nat.lt_of_lt_of_le (allLt_mem hA hp) (by omega))
  have z3 : ∀ p ∈ rest, p.1 ≠ L1 + 1 + 1 + 1 := fun p hp => Nat.ne_of_lt (Nat.lt_of_lt_of_le (allLt_mem hA hp) (by omega))
  have z4 : ∀ p ∈ rest, p.1 ≠ L1 + 1 + 1 + 1 + 1 := fun p hp => Nat.ne_of_lt (Nat.lt_of_lt_of_le (allLt_mem hA hp) (by omega))
  have z5 : ∀ p ∈ rest, p.1 ≠ L1 + 1 + 1 + 1 + 1 + 1 := fun p hp => Nat.ne_of_lt (Nat.lt_of_lt_of_le (allLt_mem hA hp) (by omega))
  have z6 : ∀ p ∈ rest, p.1 ≠ L1 + 1 + 1 + 1 + 1 + 1 + 1 := fun p hp => Nat.ne_of_lt (Nat.lt_of_lt_of_le (allLt_mem hA hp) (by omega))
  have z7 : ∀ p ∈ rest, p.1 ≠ L1 + 1 + 1 + 1 + 1 + 1 + 1 + 1 := fun p hp => Nat.ne_of_lt (Nat.lt_of_lt_of_le (allLt_mem hA hp) (by omega))
  refine wp_id ?_
  k_fold
  clear X T
  have hchk : Chk := trivial
  k_steps
  refine Stop.go ?_
  rename_i way twy oz1 hz1 tz1 hw0 hw5 sz1 r0 tr0 oz2 hz2 tow hr0 hr4 sz2 Da ha1 la ha2 ha3 ha4 co dco tkz l1x hb1 lb kx tkx oz3 hz3 tz3 mkx sz3 l2x hb2 lc kp tkp oz4 hz4 tz4 mkp sz4 Db hb3 le1 Dc hb4 le2 l3x hb5 lf T p9 f9 tp9 tf9 so2 hz5 tz5 hT hs2 De hb6 lg hb7 hb8 ca dca hb9 cp dcp hb10 cr F2 N2 dcr
  have hpp := port_ne mkp
  have N3 := drop_news8 N2
  have hTl : @LT.lt Nat _ (L1 + 1 + 1 + 1 + 1 + 1 + 1 + 1) T := by omega
  obtain ⟨ow, how⟩ : ∃ ow, ow = 1 + r0 := ⟨_, rfl⟩
  rw [← how] at dco
  clear N2 la lb lc le1 le2 lf lg hT mkx sz1 sz2 sz3 sz4 mkp how hr0 hr4
  have hlen : kvs.length ≤ sizeLine := by rw [sizeLine_eq, ← m5.len]; omega
  have hlent : kvt.length ≤ sizeLine := by rw [sizeLine_eq, ← n5.len]; omega
  rcases Classical.em (∃ r ∈ rs, r.o = ow) with hin | hout
  · obtain ⟨r, hr, hro⟩ := hin
    obtain ⟨i0, hi0⟩ := List.mem_iff_getElem?.mp hr
    obtain ⟨ra, hxa, hra⟩ := m5.at hi0
    obtain ⟨ta, hxt, hta⟩ := n5.at hi0
    have hva := isDict_at m4 hxa
    have hvt := isDict_at n4 hxt
    subst hro
    clear hxa hxt hi0
    rcases Int.lt_or_le way 2 with hw | hw
    · k_steps
      refine Stop.go ?_
      rename_i f9 c9 oc9 vs9 t9 ct9 h9 tk9 tl9 ps9 F9 N9 m9 d9 e9 I9 l9 r9
      k_dflt (refine' refused_spec (C := 68) ?u_B ?u_F ?u_X ?u_N ?u_T ?u_hk ?u_hdp ?u_hu ?u_XB ?u_TB ?u_D ?u_hC ?u_hb ?u_fn ?u_hD ?u_ret; (case u_B => k_asm); (case u_F => k_asm); (case u_X => k_asm); (case u_N => k_asm); (case u_T => k_asm); (case u_hk => first | exact rfl | assumption); (case u_hdp => ktr_room); (case u_hu => ktr_units); (case u_XB => assumption); (case u_TB => assumption); (case u_D => assumption); (case u_hC => k_is); (case u_hb => decide); (case u_fn => exact List.mem_cons_self))
      case u_hD =>
        intro mean3 mg3 mb3 dp3 un3 gd3 cn3 cs3 a3 ccd3 cl3 outer3 A3 base3 hh3 L3 m3 s3 Q3 E3 B3 F3 X3 N3 T3 hk3 hdp3 hu3 raz
        refine wpAny_call ?_
        k_dflt (refine' kla_code ?k1 ?k2 ?k3 ?k4 ?k5 ?kA ?kF ?kK ?k6 ?k7 ?k8 ?k9 ?kB ?_ ?c2 ?c3 ?c4 ?c5; (case kA => exact rfl); (case kF => exact rfl); (case kK => assumption); (case k1 => exact B3); (case k2 => exact F3); (case k3 => exact X3); (case k4 => exact N3); (case k5 => exact T3); (case k6 => exact List.mem_cons_self); (case k7 => exact codeRec_news N3 (List.mem_cons_of_mem _ (mem_tl m9 (by walk_at "subs"))) d9 e9); (case k8 => ktr_room); (case k9 => exact rfl); (case c5 => decide); (case kB => exact locs rfl); (case c2 => exact rfl); (case c3 => exact rfl); (case c4 => exact rfl))
        intro g4 L4 h4 FG4 F4 N4 B4 X4 T4
        dsimp only
        clear N9 F9
        k_fold
        k_steps
        refine Stop.go ?_
        k_dflt (refine' bind_S (rd := rd) (ro := ro) (td := td) (tt := tt) (rs := rs) (kvs := kvs) ?u_B ?u_F ?u_X ?u_N ?u_T ?u_hk ?u_hdp ?u_hu ?m3 ?m1 ?m2 ?d1 ?d2 ?lo ?m4 ?m5 ?hR ?hsz ?hva ?_; (case u_B => k_asm); (case u_F => k_asm); (case u_X => k_asm); (case u_N => k_asm); (case u_T => k_asm); (case u_hk => first | exact rfl | assumption); (case u_hdp => ktr_room); (case u_hu => ktr_units); (case m3 => k_mem); (case m1 => k_mem); (case m2 => k_mem); (case d1 => exact r3 _ m1); (case d2 => exact r3 _ m2); (case lo => exact lo); (case m4 => exact m4); (case m5 => exact m5); (case hR => exact and_sub (by walk_at "subs") r3); (case hsz => exact hlen); (case hva => exact ⟨_, hva⟩))
        intro e5 h5 g5 tk5 R5 F5 U5
        k_steps
        exact raz _ _ _ _ (by assumption) (by assumption) (by assumption)
      case u_ret =>
        intro h10 tk10 g10 T10 F10 N10 B10 X10 P10 D10
        k_steps
        exact ret so2 ps9 ro lobj (tl9 ++ rest) rs kvs kvt _ _ _ (by assumption) (by assumption) (news_sub (by assumption) (by walk_at "subs")) (by assumption) (by assumption) I9 hs2 (fun p hp _ => List.mem_append_right _ hp) m4 (m5.mono (fun p hp => List.mem_append_right _ hp)) n4 (n5.mono (fun p hp => List.mem_append_right _ hp)) (by omega) hp1 (ne_app (fun p hp => Nat.ne_of_gt (r9 p hp (src, so2) (by walk_at "mem"))) r1) (ne_app (fun p hp => Nat.ne_of_gt (r9 p hp (309, tabObj ps) (by walk_at "mem"))) r2) (ne_app (fun p hp => Nat.ne_of_gt (r9 p hp (rd, ro) (by walk_at "mem"))) r3) (ne_app (fun p hp => Nat.ne_of_gt (r9 p hp (ld, lobj) (by walk_at "mem"))) r4)
    rcases Int.lt_or_le way 4 with hw2 | hw2
    · obtain ⟨u1, u2, rv2, e4, e5⟩ := hta
      k_steps
      all_goals
        refine Stop.go ?_
        rename_i D9 h9q l9q Dt h9r l9r De2 h9s l9s h9t ot F9 N9 dot
        have N8 := drop23 N9
        clear N9 l9q l9r
        refine SrcD.intro (o := lobj) (kvs := kvt) (CJ rs (fun q => q.o ≠ r.o ∧ (q.a = r.a ∧ q.p = r.p ∧ q.r = some (p9, f9)))) rfl (by assumption) (by assumption) (by k_mem) n4 lo2 hlent CJ.nil ?_ ?_
        · intro g i ys k v key I2 oI C2 oC D2 m2' h tk E' hJ hx hkey hC hm F N off ne
          clear N8 F9
          obtain ⟨q, tq, hq, rfl, rfl, htq⟩ := n5.get hx
          obtain ⟨t3, rfl⟩ := Value.isInt_shape hkey
          have hvq := isDict_at n4 hx
          rcases Classical.em (q.o = r.o) with ho | ho
          · k_steps
            refine Stop.go (cendY (by assumption) (by assumption) (fun p hp => hp) off (by k_mem) (CJ.no hJ hq (fun h => h.1 ho)))
          · rcases Classical.em (q.a = r.a ∧ q.p = r.p ∧ q.r = some (p9, f9)) with hp | hp
            · have hb : (true = true) ↔ (q.a = r.a ∧ q.p = r.p ∧ q.r = some (p9, f9)) := iff_of_true rfl hp
              k_steps
              refine Stop.go (cendY (by assumption) (by assumption) (fun p hp => hp) off (by k_mem) (CJ.yes hJ hq ⟨ho, hp⟩))
            · have hb : (false = true) ↔ (q.a = r.a ∧ q.p = r.p ∧ q.r = some (p9, f9)) := iff_of_false (by simp) hp
              k_steps
              refine Stop.go (cendY (by assumption) (by assumption) (fun p hp => hp) off (by k_mem) (CJ.no hJ hq (fun h => hp h.2)))
        · intro g ys hJ
          have hys := hJ.1
          have hya := hJ.all n5.len
          clear N8 F9
          rcases Classical.em (ExR rs (fun q => q.o ≠ r.o ∧ (q.a = r.a ∧ q.p = r.p ∧ q.r = some (p9, f9)))) with hx | hx
          · have hb : (true = true) ↔ ys ≠ [] := iff_of_true rfl (hya.mpr hx)
            clear hya
            k_steps
            refine Stop.go ?_
            rename_i f9 c9 oc9 vs9 t9 ct9 h9 tk9 tl9 ps9 F9 N9 m9 d9 e9 I9 l9 r9
            k_dflt (refine' refused_spec (C := 56) ?u_B ?u_F ?u_X ?u_N ?u_T ?u_hk ?u_hdp ?u_hu ?u_XB ?u_TB ?u_D ?u_hC ?u_hb ?u_fn ?u_hD ?u_ret; (case u_B => k_asm); (case u_F => k_asm); (case u_X => k_asm); (case u_N => k_asm); (case u_T => k_asm); (case u_hk => first | exact rfl | assumption); (case u_hdp => ktr_room); (case u_hu => ktr_units); (case u_XB => assumption); (case u_TB => assumption); (case u_D => assumption); (case u_hC => k_is); (case u_hb => decide); (case u_fn => exact List.mem_cons_self))
            case u_hD =>
              intro mean3 mg3 mb3 dp3 un3 gd3 cn3 cs3 a3 ccd3 cl3 outer3 A3 base3 hh3 L3 m3 s3 Q3 E3 B3 F3 X3 N3 T3 hk3 hdp3 hu3 raz
              refine wpAny_call ?_
              k_dflt (refine' kla_code ?k1 ?k2 ?k3 ?k4 ?k5 ?kA ?kF ?kK ?k6 ?k7 ?k8 ?k9 ?kB ?_ ?c2 ?c3 ?c4 ?c5; (case kA => exact rfl); (case kF => exact rfl); (case kK => assumption); (case k1 => exact B3); (case k2 => exact F3); (case k3 => exact X3); (case k4 => exact N3); (case k5 => exact T3); (case k6 => exact List.mem_cons_self); (case k7 => exact codeRec_news N3 (List.mem_cons_of_mem _ (mem_tl m9 (by walk_at "subs"))) d9 e9); (case k8 => ktr_room); (case k9 => exact rfl); (case c5 => decide); (case kB => exact locs rfl); (case c2 => exact rfl); (case c3 => exact rfl); (case c4 => exact rfl))
              intro g4 L4 h4 FG4 F4 N4 B4 X4 T4
              dsimp only
              clear N9 F9
              k_fold
              k_steps
              refine Stop.go ?_
              k_dflt (refine' connect_P (rd := rd) (ro := ro) (td := td) (tt := tt) (rs := rs) (kvs := kvs) ?u_B ?u_F ?u_X ?u_N ?u_T ?u_hk ?u_hdp ?u_hu ?m3 ?m1 ?m2 ?d1 ?d2 ?lo ?m4 ?m5 ?hR ?hsz ?hr ?hro ?hp ?_; (case u_B => k_asm); (case u_F => k_asm); (case u_X => k_asm); (case u_N => k_asm); (case u_T => k_asm); (case u_hk => first | exact rfl | assumption); (case u_hdp => ktr_room); (case u_hu => ktr_units); (case m3 => k_mem); (case m1 => k_mem); (case m2 => k_mem); (case d1 => exact r3 _ m1); (case d2 => exact r3 _ m2); (case lo => exact lo); (case m4 => exact m4); (case m5 => exact m5); (case hR => exact and_sub (by walk_at "subs") r3); (case hsz => exact hlen); (case hr => exact hr); (case hro => exact rfl); (case hp => exact hx))
              intro e5 h5 g5 tk5 R5 F5 U5
              k_steps
              exact raz _ _ _ _ (by assumption) (by assumption) (by assumption)
            case u_ret =>
              intro h10 tk10 g10 T10 F10 N10 B10 X10 P10 D10
              k_steps
              exact ret so2 ps9 ro lobj (tl9 ++ rest) rs kvs kvt _ _ _ (by assumption) (by assumption) (news_sub (by assumption) (by walk_at "subs")) (by assumption) (by assumption) I9 hs2 (fun p hp _ => List.mem_append_right _ hp) m4 (m5.mono (fun p hp => List.mem_append_right _ hp)) n4 (n5.mono (fun p hp => List.mem_append_right _ hp)) (by omega) hp1 (ne_app (fun p hp => Nat.ne_of_gt (r9 p hp (src, so2) (by walk_at "mem"))) r1) (ne_app (fun p hp => Nat.ne_of_gt (r9 p hp (309, tabObj ps) (by walk_at "mem"))) r2) (ne_app (fun p hp => Nat.ne_of_gt (r9 p hp (rd, ro) (by walk_at "mem"))) r3) (ne_app (fun p hp => Nat.ne_of_gt (r9 p hp (ld, lobj) (by walk_at "mem"))) r4)
          · have hb : (false = true) ↔ ys ≠ [] := iff_of_false (by simp) (fun h => hx (hya.mp h))
            clear hya
            k_steps
            refine Stop.go ?_
            rename News _ _ _ _ => N7
            --TM aNC
            have NC := news_sub N7 (l' := (rd, ro) :: (De2, tupO [.int r.a u1, .int r.p u2, .ref T]) :: (T, tupO [.int p9 tp9, .int f9 tf9]) :: (L1 + 1 + 1 + 1 + 1 + 1 + 1 + 1, cr) :: (L1 + 1 + 1 + 1 + 1 + 1 + 1, cp) :: (L1 + 1 + 1 + 1 + 1 + 1, co) :: (L1 + 1 + 1 + 1 + 1, ca) :: (L1 + 1 + 1 + 1, ot) :: (L1 + 1 + 1, o6) :: (L1 + 1, o7) :: (src, so2) :: ((309 : Addr), tabObj ps) :: (ld, lobj) :: rest) (by walk_at "subs")
            --TM bNR
            have NR := news_sub NC (l' := rest) (by walk_at "subs")
            --TM cClear
            clear N7
            k_dflt (refine' connect_spec (rd := rd) (ro := ro) (td := td) (tt := tt) (rs := rs) (kvs := kvs) (R0 := rest) ?u_B ?u_F ?u_X ?u_N ?u_T ?u_hk ?u_hdp ?u_hu ?m1 ?m2 ?lo ?m4 ?m5 ?hR ?hr ?hsz ?_ ?_ ?_; (case u_B => k_asm); (case u_F => k_asm); (case u_X => k_asm); (case u_N => exact NC); (case u_T => k_asm); (case u_hk => first | exact rfl | assumption); (case u_hdp => ktr_room); (case u_hu => ktr_units); (case m1 => k_mem); (case m2 => k_mem); (case lo => exact lo); (case m4 => exact m4); (case m5 => exact m5); (case hR => exact fun p hp => by simp [hp]); (case hr => exact ne_cons (by k_ne) (ne_cons (by k_ne) (ne_cons (by k_ne) (ne_cons (by k_ne) (ne_cons (by k_ne) (ne_cons (by k_ne) (ne_cons (by k_ne) (ne_cons (by k_ne) (ne_cons (by k_ne) (ne_cons (by k_ne) (ne_cons (by k_ne) (ne_cons (by k_ne) r3)))))))))))); (case hsz => exact hlen))
            · --TM dConn
              intro h; rw [hva] at h; cases h
            · intro q hq e h
              have e2 := m5.uniq m4 hq hr e
              rw [e2] at h
              exact absurd h hx
            · intro q hq e _ da t9 rv9 od9 D9b tpo h9 tk9 hda hD F7 N7 hrows
              have e2 := (m5.uniq m4 hq hr e).symm
              subst e2
              have hdaL := allLt_mem hA hda
              have hds : @Ne Nat da src := r1 _ hda
              have hdt : @Ne Nat da 309 := r2 _ hda
              have hdr : @Ne Nat da rd := r3 _ hda
              have hdl : @Ne Nat da ld := r4 _ hda
              have hbd : @LT.lt Nat _ De2 D9b := hD (De2, tupO [.int r.a u1, .int r.p u2, .ref T]) (by walk_at "mem")
              have zz4 : ∀ p ∈ offA rest da, p.1 ≠ ld := fun p hp => r4 p (mem_offA.mp hp).1
              --TM eN10
              have N10 := news_sub N7 (l' := (De2, tupO [.int r.a u1, .int r.p u2, .ref T]) :: (T, tupO [.int p9 tp9, .int f9 tf9]) :: (L1 + 1 + 1 + 1 + 1 + 1, co) :: (L1 + 1 + 1 + 1, ot) :: (L1 + 1 + 1, o6) :: (src, so2) :: ((309 : Addr), tabObj ps) :: (rd, ro) :: (ld, lobj) :: (da, od9) :: (D9b, tpo) :: offA rest da) (by
                exact sub_cons (List.mem_cons_of_mem _ (List.mem_cons_of_mem _ (List.mem_cons_of_mem _ (mem_offA.mpr ⟨by walk_at "mem", by k_ne⟩)))) (sub_cons (List.mem_cons_of_mem _ (List.mem_cons_of_mem _ (List.mem_cons_of_mem _ (mem_offA.mpr ⟨by walk_at "mem", by k_ne⟩)))) (sub_cons (List.mem_cons_of_mem _ (List.mem_cons_of_mem _ (List.mem_cons_of_mem _ (mem_offA.mpr ⟨by walk_at "mem", by k_ne⟩)))) (sub_cons (List.mem_cons_of_mem _ (List.mem_cons_of_mem _ (List.mem_cons_of_mem _ (mem_offA.mpr ⟨by walk_at "mem", by k_ne⟩)))) (sub_cons (List.mem_cons_of_mem _ (List.mem_cons_of_mem _ (List.mem_cons_of_mem _ (mem_offA.mpr ⟨by walk_at "mem", by k_ne⟩)))) (sub_cons (List.mem_cons_of_mem _ (List.mem_cons_of_mem _ (List.mem_cons_of_mem _ (mem_offA.mpr ⟨by walk_at "mem", by k_ne⟩)))) (sub_cons (List.mem_cons_of_mem _ (List.mem_cons_of_mem _ (List.mem_cons_of_mem _ (mem_offA.mpr ⟨by walk_at "mem", by k_ne⟩)))) (sub_cons (List.mem_cons_self) (sub_cons (List.mem_cons_of_mem _ (List.mem_cons_of_mem _ (List.mem_cons_of_mem _ (mem_offA.mpr ⟨by walk_at "mem", by k_ne⟩)))) (sub_cons (by walk_at "mem") (sub_cons (by walk_at "mem") (fun p h => List.mem_cons_of_mem _ (List.mem_cons_of_mem _ (List.mem_cons_of_mem _ (mem_offA.mpr ⟨up (mem_offA.mp h).1 (by walk_at "subs"), (mem_offA.mp h).2⟩)))))))))))))))
              --TM fkeep
              have keep9 := keep_offA NR hda
              clear N7 NC
              k_steps
              rename_i h5y o5x F5 N5 hd5 kg kT kF kN kB kX0 kP kD kX
              have hne : ∀ (d : Addr), @LT.lt Nat _ d De2 → @Ne Nat T d → @Ne Nat da d → (∀ p ∈ rest, p.1 ≠ d) → ∀ p ∈ (De2, tupO [.int r.a u1, .int r.p u2, .ref T]) :: (T, tupO [.int p9 tp9, .int f9 tf9]) :: (da, od9) :: (D9b, tpo) :: offA rest da, p.1 ≠ d := fun d a1 a2 a3 a4 => ne_cons (Nat.ne_of_gt a1) (ne_cons a2 (ne_cons a3 (ne_cons (Nat.ne_of_gt (Nat.lt_trans a1 hbd)) (fun p hp => a4 p (mem_offA.mp hp).1))))
              exact ret so2 ps ro o5x ((De2, tupO [.int r.a u1, .int r.p u2, .ref T]) :: (T, tupO [.int p9 tp9, .int f9 tf9]) :: (da, od9) :: (D9b, tpo) :: offA rest da) (rs.map fun x => if x.o = r.o then { x with r := some (p9, f9) } else x) kvs (kvt.map fun kv => if kv.1 = r.o then (kv.1, .ref De2) else kv) _ _ _ kT kF (news_sub kN (by walk_at "subs")) kB kD (I.keepF (fun p hp hf => up (keep9 p hp (fun _ _ _ _ _ => rowD_ne_fields hf)) (by walk_at "subs"))) hs2 (fun p hp hn => up (keep9 p hp hn) (by walk_at "subs")) m4 (hrows.mono (fun p hp => List.mem_cons_of_mem _ (List.mem_cons_of_mem _ hp))) (by rw [← stored_some hvt]; exact hd5)
                (TRowsAt.set (n5.keepT (fun p hp hv => up (keep9 p hp (fun _ _ _ _ _ => by obtain ⟨vs, hv⟩ := hv; rw [hv]; exact rowD_ne_tup)) (by walk_at "subs"))) (fun x hx2 e2 => by
                  have e3 := m5.uniq m4 hx2 hr e2
                  subst e3
                  exact ⟨u1, u2, .ref T, List.mem_cons_self, rem_tup (List.mem_cons_of_mem _ List.mem_cons_self)⟩)) (by simp) (fun x hx2 => by
                  obtain ⟨y, hy, rfl⟩ := List.mem_map.mp hx2
                  have := hp1 y hy
                  split <;> exact this)
                (hne src (by omega) (by omega) hds r1) (hne 309 (by omega) (by omega) hdt r2) (hne rd (by omega) (by omega) hdr r3) (hne ld (by omega) (by omega) hdl r4)
    · obtain rfl : way = 4 := by omega
      k_steps
      refine Stop.go ?_
      k_dflt (refine' remove_U (rd := rd) (ro := ro) (td := td) (tt := tt) (rs := rs) (kvs := kvs) ?u_B ?u_F ?u_X ?u_N ?u_T ?u_hk ?u_hdp ?u_hu ?U ?m1 ?m2 ?d1 ?d2 ?lo ?m4 ?m5 ?hR ?hsz ?_ ?_; (case u_B => k_asm); (case u_F => k_asm); (case u_X => k_asm); (case u_N => k_asm); (case u_T => k_asm); (case u_hk => first | exact rfl | assumption); (case u_hdp => ktr_room); (case u_hu => ktr_units); (case U => k_updF); (case m1 => k_mem); (case m2 => k_mem); (case d1 => exact r3 _ m1); (case d2 => exact r3 _ m2); (case lo => exact lo); (case m4 => exact m4); (case m5 => exact m5); (case hR => exact and_sub (by walk_at "subs") r3); (case hsz => exact hlen))
      · --TM dConn
        intro h; rw [hva] at h; cases h
      · intro _ ro2 h7 tk7 F7 N7 hd7
        (try dsimp only at N7)
        k_steps
        rename_i h5y o5x F5 N5 hd5 kg kT kF kN kB kX0 kP kD kX
        exact ret so2 ps ro2 o5x rest (rs.filter fun q => decide (q.o ≠ r.o)) (without kvs r.o) (without kvt r.o) _ _ _ kT kF (news_sub kN (by walk_at "subs")) kB kD I hs2 (fun p hp _ => hp) hd7 m5.without hd5 n5.without (Nat.le_succ_of_le (List.length_filter_le _ _)) (fun x hx => hp1 x (List.mem_filter.mp hx).1) r1 r2 r3 r4
  · have hno : ∀ r ∈ rs, r.o ≠ ow := fun r hr e => hout ⟨r, hr, e⟩
    have hva : valueAt kvs ow = none := m5.none_iff.mpr hno
    have hvt : valueAt kvt ow = none := n5.none_iff.mpr hno
    clear hout
    rcases Int.lt_or_le way 3 with hw | hw
    · k_steps
      refine Stop.go (SrcD.intro (o := lobj) (kvs := kvt) (CJ rs (fun r => r.a = kx ∧ r.p = kp ∧ r.r = none)) rfl (by assumption) (by assumption) (by k_mem) n4 lo2 hlent CJ.nil ?_ ?_)
      · intro g i ys k v key I2 oI C2 oC D2 m2' h tk E' hJ hx hkey hC hm F N off ne
        clear N3 F2
        obtain ⟨r, ta, hr, rfl, rfl, hta⟩ := n5.get hx
        obtain ⟨t3, rfl⟩ := Value.isInt_shape hkey
        have hvq := isDict_at n4 hx
        rcases Classical.em (r.a = kx ∧ r.p = kp ∧ r.r = none) with hp | hp
        · have hb : (true = true) ↔ (r.a = kx ∧ r.p = kp ∧ r.r = none) := iff_of_true rfl hp
          k_steps
          refine Stop.go (cendY (by assumption) (by assumption) (fun p hp => List.mem_cons_of_mem _ hp) off (by k_mem) (CJ.yes hJ hr hp))
        · have hb : (false = true) ↔ (r.a = kx ∧ r.p = kp ∧ r.r = none) := iff_of_false (by simp) hp
          k_steps
          refine Stop.go (cendY (by assumption) (by assumption) (fun p hp => List.mem_cons_of_mem _ hp) off (by k_mem) (CJ.no hJ hr hp))
      · intro g ys hJ
        have hys := hJ.1
        have hya := hJ.all n5.len
        clear N3 F2
        rcases Classical.em (ExR rs (fun r => r.a = kx ∧ r.p = kp ∧ r.r = none)) with hx | hx
        · have hb : (true = true) ↔ ys ≠ [] := iff_of_true rfl (hya.mpr hx)
          have hxo : ExR rs (fun r => r.o ≠ ow ∧ r.a = kx ∧ r.p = kp ∧ r.r = none) := let ⟨r, hr, h⟩ := hx; ⟨r, hr, hno r hr, h⟩
          clear hya
          k_steps
          refine Stop.go ?_
          rename_i f9 c9 oc9 vs9 t9 ct9 h9 tk9 tl9 ps9 F9 N9 m9 d9 e9 I9 l9 r9
          k_dflt (refine' refused_spec (C := 56) ?u_B ?u_F ?u_X ?u_N ?u_T ?u_hk ?u_hdp ?u_hu ?u_XB ?u_TB ?u_D ?u_hC ?u_hb ?u_fn ?u_hD ?u_ret; (case u_B => k_asm); (case u_F => k_asm); (case u_X => k_asm); (case u_N => k_asm); (case u_T => k_asm); (case u_hk => first | exact rfl | assumption); (case u_hdp => ktr_room); (case u_hu => ktr_units); (case u_XB => assumption); (case u_TB => assumption); (case u_D => assumption); (case u_hC => k_is); (case u_hb => decide); (case u_fn => exact List.mem_cons_self))
          case u_hD =>
            intro mean3 mg3 mb3 dp3 un3 gd3 cn3 cs3 a3 ccd3 cl3 outer3 A3 base3 hh3 L3 m3 s3 Q3 E3 B3 F3 X3 N3 T3 hk3 hdp3 hu3 raz
            refine wpAny_call ?_
            k_dflt (refine' kla_code ?k1 ?k2 ?k3 ?k4 ?k5 ?kA ?kF ?kK ?k6 ?k7 ?k8 ?k9 ?kB ?_ ?c2 ?c3 ?c4 ?c5; (case kA => exact rfl); (case kF => exact rfl); (case kK => assumption); (case k1 => exact B3); (case k2 => exact F3); (case k3 => exact X3); (case k4 => exact N3); (case k5 => exact T3); (case k6 => exact List.mem_cons_self); (case k7 => exact codeRec_news N3 (List.mem_cons_of_mem _ (mem_tl m9 (by walk_at "subs"))) d9 e9); (case k8 => ktr_room); (case k9 => exact rfl); (case c5 => decide); (case kB => exact locs rfl); (case c2 => exact rfl); (case c3 => exact rfl); (case c4 => exact rfl))
            intro g4 L4 h4 FG4 F4 N4 B4 X4 T4
            dsimp only
            clear N9 F9
            k_fold
            k_steps
            refine Stop.go ?_
            k_dflt (refine' bind_P (rd := rd) (ro := ro) (td := td) (tt := tt) (rs := rs) (kvs := kvs) ?u_B ?u_F ?u_X ?u_N ?u_T ?u_hk ?u_hdp ?u_hu ?m3 ?m1 ?m2 ?d1 ?d2 ?lo ?m4 ?m5 ?hR ?hsz ?hva ?hp ?_; (case u_B => k_asm); (case u_F => k_asm); (case u_X => k_asm); (case u_N => k_asm); (case u_T => k_asm); (case u_hk => first | exact rfl | assumption); (case u_hdp => ktr_room); (case u_hu => ktr_units); (case m3 => k_mem); (case m1 => k_mem); (case m2 => k_mem); (case d1 => exact r3 _ m1); (case d2 => exact r3 _ m2); (case lo => exact lo); (case m4 => exact m4); (case m5 => exact m5); (case hR => exact and_sub (by walk_at "subs") r3); (case hsz => exact hlen); (case hva => exact hva); (case hp => exact hxo))
            intro e5 h5 g5 tk5 R5 F5 U5
            k_steps
            exact raz _ _ _ _ (by assumption) (by assumption) (by assumption)
          case u_ret =>
            intro h10 tk10 g10 T10 F10 N10 B10 X10 P10 D10
            k_steps
            exact ret so2 ps9 ro lobj (tl9 ++ rest) rs kvs kvt _ _ _ (by assumption) (by assumption) (news_sub (by assumption) (by walk_at "subs")) (by assumption) (by assumption) I9 hs2 (fun p hp _ => List.mem_append_right _ hp) m4 (m5.mono (fun p hp => List.mem_append_right _ hp)) n4 (n5.mono (fun p hp => List.mem_append_right _ hp)) (by omega) hp1 (ne_app (fun p hp => Nat.ne_of_gt (r9 p hp (src, so2) (by walk_at "mem"))) r1) (ne_app (fun p hp => Nat.ne_of_gt (r9 p hp (309, tabObj ps) (by walk_at "mem"))) r2) (ne_app (fun p hp => Nat.ne_of_gt (r9 p hp (rd, ro) (by walk_at "mem"))) r3) (ne_app (fun p hp => Nat.ne_of_gt (r9 p hp (ld, lobj) (by walk_at "mem"))) r4)
        · have hb : (false = true) ↔ ys ≠ [] := iff_of_false (by simp) (fun h => hx (hya.mp h))
          have hxo : ¬ ExR rs (fun r => r.o ≠ ow ∧ r.a = kx ∧ r.p = kp ∧ r.r = none) := fun ⟨r, hr, _, h⟩ => hx ⟨r, hr, h⟩
          clear hya
          k_steps
          refine Stop.go ?_
          k_dflt (refine' bind_U (rd := rd) (ro := ro) (td := td) (tt := tt) (rs := rs) (kvs := kvs) ?u_B ?u_F ?u_X ?u_N ?u_T ?u_hk ?u_hdp ?u_hu ?U ?m1 ?m2 ?d1 ?d2 ?lo ?m4 ?m5 ?hR ?hsz ?_ ?_ ?_; (case u_B => k_asm); (case u_F => k_asm); (case u_X => k_asm); (case u_N => k_asm); (case u_T => k_asm); (case u_hk => first | exact rfl | assumption); (case u_hdp => ktr_room); (case u_hu => ktr_units); (case U => k_updF); (case m1 => k_mem); (case m2 => k_mem); (case d1 => exact r3 _ m1); (case d2 => exact r3 _ m2); (case lo => exact lo); (case m4 => exact m4); (case m5 => exact m5); (case hR => exact and_sub (by walk_at "subs") r3); (case hsz => exact hlen))
          · intro h; obtain ⟨v, e⟩ := h; rw [hva] at e; cases e
          · intro _ h; exact absurd h hxo
          · intro _ _ ra ro2 tl h7 tk7 F7 N7 hd7 hrow hfr
            (try dsimp only at N7)
            simp only [List.cons_append] at N7
            have rz4 : ∀ p ∈ rest ++ tl, p.1 ≠ ld := ne_app r4 (fun p hp => Nat.ne_of_gt (hfr p hp (ld, lobj) (by walk_at "mem")))
            k_steps
            rename_i D5 h5x l5x h5y o5x F5 N5 hd5 kg kT kF kN kB kX0 kP kD kX
            exact ret so2 ps ro2 o5x ((D5, tupO [.int kx tkx, .int kp tkp, .none]) :: (rest ++ tl)) (rs ++ [⟨ow, kx, kp, none⟩]) (kvs ++ [(ow, .ref ra)]) (kvt ++ [(ow, .ref D5)]) _ _ _ kT kF (news_sub kN (by walk_at "subs")) kB kD (I.mono (by walk_at "subs")) hs2 (fun p hp _ => up hp (by walk_at "subs")) hd7 (RowsAt.snoc (r := ⟨ow, kx, kp, none⟩) (hrow.mono (by walk_at "subs")) (m5.mono (by walk_at "subs"))) (by rw [← stored_none hvt]; exact hd5) (TRowsAt.snoc (r := ⟨ow, kx, kp, none⟩) (trow_tup List.mem_cons_self rfl) (n5.mono (by walk_at "subs"))) (by simp) (fun r hr => (List.mem_append.mp hr).elim (hp1 r) (fun h => by simp only [List.mem_cons, List.not_mem_nil, or_false] at h; subst h; exact hpp))
              (ne_cons (by k_ne) (ne_app r1 (fun p hp => Nat.ne_of_gt (hfr p hp (src, so2) (by walk_at "mem"))))) (ne_cons (by k_ne) (ne_app r2 (fun p hp => Nat.ne_of_gt (hfr p hp (309, tabObj ps) (by walk_at "mem"))))) (ne_cons (by k_ne) (ne_app r3 (fun p hp => Nat.ne_of_gt (hfr p hp (rd, ro) (by walk_at "mem"))))) (ne_cons (by k_ne) rz4)
    · k_steps
      · refine Stop.go ?_
        rename_i f9 c9 oc9 vs9 t9 ct9 h9 tk9 tl9 ps9 m9 d9 e9 I9 l9 r9 hh9 F9 N9
        k_dflt (refine' refused_spec (C := 68) ?u_B ?u_F ?u_X ?u_N ?u_T ?u_hk ?u_hdp ?u_hu ?u_XB ?u_TB ?u_D ?u_hC ?u_hb ?u_fn ?u_hD ?u_ret; (case u_B => k_asm); (case u_F => k_asm); (case u_X => k_asm); (case u_N => k_asm); (case u_T => k_asm); (case u_hk => first | exact rfl | assumption); (case u_hdp => ktr_room); (case u_hu => ktr_units); (case u_XB => assumption); (case u_TB => assumption); (case u_D => assumption); (case u_hC => k_is); (case u_hb => decide); (case u_fn => exact List.mem_cons_self))
        case u_hD =>
          intro mean3 mg3 mb3 dp3 un3 gd3 cn3 cs3 a3 ccd3 cl3 outer3 A3 base3 hh3 L3 m3 s3 Q3 E3 B3 F3 X3 N3 T3 hk3 hdp3 hu3 raz
          refine wpAny_call ?_
          k_dflt (refine' kla_code ?k1 ?k2 ?k3 ?k4 ?k5 ?kA ?kF ?kK ?k6 ?k7 ?k8 ?k9 ?kB ?_ ?c2 ?c3 ?c4 ?c5; (case kA => exact rfl); (case kF => exact rfl); (case kK => assumption); (case k1 => exact B3); (case k2 => exact F3); (case k3 => exact X3); (case k4 => exact N3); (case k5 => exact T3); (case k6 => exact List.mem_cons_self); (case k7 => exact codeRec_news N3 (List.mem_cons_of_mem _ (mem_tl m9 (by walk_at "subs"))) d9 e9); (case k8 => ktr_room); (case k9 => exact rfl); (case c5 => decide); (case kB => exact locs rfl); (case c2 => exact rfl); (case c3 => exact rfl); (case c4 => exact rfl))
          intro g4 L4 h4 FG4 F4 N4 B4 X4 T4
          dsimp only
          clear N9 F9
          k_fold
          k_steps
          refine Stop.go ?_
          k_dflt (refine' remove_S (rd := rd) (ro := ro) (td := td) (tt := tt) (rs := rs) (kvs := kvs) ?u_B ?u_F ?u_X ?u_N ?u_T ?u_hk ?u_hdp ?u_hu ?m3 ?m1 ?m2 ?d1 ?d2 ?lo ?m4 ?m5 ?hR ?hsz ?hva ?_; (case u_B => k_asm); (case u_F => k_asm); (case u_X => k_asm); (case u_N => k_asm); (case u_T => k_asm); (case u_hk => first | exact rfl | assumption); (case u_hdp => ktr_room); (case u_hu => ktr_units); (case m3 => k_mem); (case m1 => k_mem); (case m2 => k_mem); (case d1 => exact r3 _ m1); (case d2 => exact r3 _ m2); (case lo => exact lo); (case m4 => exact m4); (case m5 => exact m5); (case hR => exact and_sub (by walk_at "subs") r3); (case hsz => exact hlen); (case hva => exact hva))
          intro e5 h5 g5 tk5 R5 F5 U5
          k_steps
          exact raz _ _ _ _ (by assumption) (by assumption) (by assumption)
        case u_ret =>
          intro h10 tk10 g10 T10 F10 N10 B10 X10 P10 D10
          k_steps
          exact ret so2 ps9 ro lobj (tl9 ++ rest) rs kvs kvt _ _ _ (by assumption) (by assumption) (news_sub (by assumption) (by walk_at "subs")) (by assumption) (by assumption) I9 hs2 (fun p hp _ => List.mem_append_right _ hp) m4 (m5.mono (fun p hp => List.mem_append_right _ hp)) n4 (n5.mono (fun p hp => List.mem_append_right _ hp)) (by omega) hp1 (ne_app (fun p hp => Nat.ne_of_gt (r9 p hp (src, so2) (by walk_at "mem"))) r1) (ne_app (fun p hp => Nat.ne_of_gt (r9 p hp (309, tabObj ps) (by walk_at "mem"))) r2) (ne_app (fun p hp => Nat.ne_of_gt (r9 p hp (rd, ro) (by walk_at "mem"))) r3) (ne_app (fun p hp => Nat.ne_of_gt (r9 p hp (ld, lobj) (by walk_at "mem"))) r4)
      · refine Stop.go ?_
        rename_i f9 c9 oc9 vs9 t9 ct9 h9 tk9 tl9 ps9 m9 d9 e9 I9 l9 r9 hh9 F9 N9
        k_dflt (refine' refused_spec (C := 68) ?u_B ?u_F ?u_X ?u_N ?u_T ?u_hk ?u_hdp ?u_hu ?u_XB ?u_TB ?u_D ?u_hC ?u_hb ?u_fn ?u_hD ?u_ret; (case u_B => k_asm); (case u_F => k_asm); (case u_X => k_asm); (case u_N => k_asm); (case u_T => k_asm); (case u_hk => first | exact rfl | assumption); (case u_hdp => ktr_room); (case u_hu => ktr_units); (case u_XB => assumption); (case u_TB => assumption); (case u_D => assumption); (case u_hC => k_is); (case u_hb => decide); (case u_fn => exact List.mem_cons_self))
        case u_hD =>
          intro mean3 mg3 mb3 dp3 un3 gd3 cn3 cs3 a3 ccd3 cl3 outer3 A3 base3 hh3 L3 m3 s3 Q3 E3 B3 F3 X3 N3 T3 hk3 hdp3 hu3 raz
          refine wpAny_call ?_
          k_dflt (refine' kla_code ?k1 ?k2 ?k3 ?k4 ?k5 ?kA ?kF ?kK ?k6 ?k7 ?k8 ?k9 ?kB ?_ ?c2 ?c3 ?c4 ?c5; (case kA => exact rfl); (case kF => exact rfl); (case kK => assumption); (case k1 => exact B3); (case k2 => exact F3); (case k3 => exact X3); (case k4 => exact N3); (case k5 => exact T3); (case k6 => exact List.mem_cons_self); (case k7 => exact codeRec_news N3 (List.mem_cons_of_mem _ (mem_tl m9 (by walk_at "subs"))) d9 e9); (case k8 => ktr_room); (case k9 => exact rfl); (case c5 => decide); (case kB => exact locs rfl); (case c2 => exact rfl); (case c3 => exact rfl); (case c4 => exact rfl))
          intro g4 L4 h4 FG4 F4 N4 B4 X4 T4
          dsimp only
          clear N9 F9
          k_fold
          k_steps
          refine Stop.go ?_
          k_dflt (refine' connect_S (rd := rd) (ro := ro) (td := td) (tt := tt) (rs := rs) (kvs := kvs) ?u_B ?u_F ?u_X ?u_N ?u_T ?u_hk ?u_hdp ?u_hu ?m3 ?m1 ?m2 ?d1 ?d2 ?lo ?m4 ?m5 ?hR ?hsz ?hva ?_; (case u_B => k_asm); (case u_F => k_asm); (case u_X => k_asm); (case u_N => k_asm); (case u_T => k_asm); (case u_hk => first | exact rfl | assumption); (case u_hdp => ktr_room); (case u_hu => ktr_units); (case m3 => k_mem); (case m1 => k_mem); (case m2 => k_mem); (case d1 => exact r3 _ m1); (case d2 => exact r3 _ m2); (case lo => exact lo); (case m4 => exact m4); (case m5 => exact m5); (case hR => exact and_sub (by walk_at "subs") r3); (case hsz => exact hlen); (case hva => exact hva))
          intro e5 h5 g5 tk5 R5 F5 U5
          k_steps
          exact raz _ _ _ _ (by assumption) (by assumption) (by assumption)
        case u_ret =>
          intro h10 tk10 g10 T10 F10 N10 B10 X10 P10 D10
          k_steps
          exact ret so2 ps9 ro lobj (tl9 ++ rest) rs kvs kvt _ _ _ (by assumption) (by assumption) (news_sub (by assumption) (by walk_at "subs")) (by assumption) (by assumption) I9 hs2 (fun p hp _ => List.mem_append_right _ hp) m4 (m5.mono (fun p hp => List.mem_append_right _ hp)) n4 (n5.mono (fun p hp => List.mem_append_right _ hp)) (by omega) hp1 (ne_app (fun p hp => Nat.ne_of_gt (r9 p hp (src, so2) (by walk_at "mem"))) r1) (ne_app (fun p hp => Nat.ne_of_gt (r9 p hp (309, tabObj ps) (by walk_at "mem"))) r2) (ne_app (fun p hp => Nat.ne_of_gt (r9 p hp (rd, ro) (by walk_at "mem"))) r3) (ne_app (fun p hp => Nat.ne_of_gt (r9 p hp (ld, lobj) (by walk_at "mem"))) r4)
end
section
open PySem PySem.W PySem.Calls PyProof.Rows PyProof.V PySem.Spec PyProof.Rows.LCg
theorem kclrC22 : True := by
  w_top off
  k_with_none
  trivial
theorem kset_C22_1 : True := by
  k_with "k_mem" => (first | assumption | exact List.mem_cons_self | (refine List.mem_cons_of_mem _ ?_; k_mem) | (refine List.mem_append_right _ ?_; k_mem))
  k_with "eval ListComp" => ((k_here; k_dflt (refine kcp_ListComp (intKind _ _) (by k_asm) (by rfl) (by decide) (by rfl) (by decide) (by rfl) (by rfl) (by first | decide | decide +kernel) ?_)))
  k_with "KcpSrc" => ((refine Stop.here ?_))
  k_with "CompEnd" => ((refine Stop.here ?_))
  k_with "getMethod ref" => ((k_here; (with_reducible show wpAny _ _ (getMethod (Value.ref _) (Str.ofString "items") _) _ _ _); k_dflt (refine kdl_method (knd := PySem.intKind _ _) PySem.F.slot_dict_items PySem.F.type_dict_items (by k_asm) (by k_mem) (by assumption) ?_)))
  k_with "call builtin:dict.items" => (((k_here; k_dflt (refine kdx_view (knd := PySem.intKind _ _) (by k_asm) (by k_asm) (by k_mem) (by assumption) (by assumption) ?_); intro D'ₖ h'ₖ F'ₖ N'ₖ l1ₖ); all_goals ((try revert l1ₖ); (try revert N'ₖ); (try revert F'ₖ); (try revert h'ₖ); (try revert D'ₖ); intros)))
  k_with "k_handed" => (assumption)
  trivial
theorem rows_spec : ∀ {w : World} {mean : ExcName → Option Value} {mg mb : Str → Option Value} {dp un : Nat} {gd : Option (List Code)} {cn : Str} {cs : Scope} {a : Addr} {ccd : Value} {cl : List (Str × Addr)} {outer : List Env} {A₀ : Around} {base h₀ : Heap} {L : Addr} {m : Str → Option Value} {news : List (Addr × Obj)} {s : Shared}
    {Q E : Value → Shared → Prop} (B : Below A₀ base outer h₀) (F : Fr h₀ L s.heap m) (X : (hd.heap_1 w.params).In h₀) (N : News h₀ L s.heap news) (T : Top topProg LS mean mg mb h₀) (hk : cs.kind = .function) (hdp : dp < 870) (hu : un < 7800)
    {tb td rd : Addr} {tt : Tok} {ro : Obj} {rs : List R} {kvs : List (Int × Value)} (m1 : (tb, instObj 164 td) ∈ news) (m2 : (td, dictOf [⟨PyData.keyHash w.params (Str.ofString "rows"), .str (Str.ofString "rows") tt, .ref rd⟩] 1) ∈ news) (m3 : (rd, ro) ∈ news) (lo : (rd == sysModules) = false) (m4 : ro.IsDictOf (intKind PySem.Challenge.rw_on0339_01.row.prog w) kvs) (m5 : RowsAt w news rs kvs) (hsz : kvs.length ≤ sizeLine)
    (ret : ∀ D ys tl h' tk', Fr h₀ L h' m → News h₀ L h' ((D, LCg.lst ys) :: (tl ++ news)) → ItemsAt (tl ++ news) rs ys → Q (.ref D) { s with heap := h', toks := tk' }),
    wpAny (model PySem.Challenge.rw_on0339_01.row.prog w) (ktrTop dp un gd cn cs L a ccd cl outer) (call (.ref 307) [.ref tb]) Q E s := by
  k_fill
  intro w mean mg mb dp un gd cn cs a ccd cl outer A₀ base h₀ L m news s Q E B F X N T hk hdp hu tb td rd tt ro rs kvs m1 m2 m3 lo m4 m5 hsz ret
  refine wpAny_call ?_
  k_dflt (refine' code_def (binds := [(Str.ofString "table", .ref tb)]) ?k1 ?k2 ?k3 ?k4 ?k5 ?kA ?kF ?kK ?k6 ?k7 ?k8 ?k9 ?kB ?_ ?c2 ?c3 ?c4 ?c5; (case kA => exact rfl); (case kF => exact rfl); (case kK => assumption); (case k1 => k_asm); (case k2 => k_asm); (case k3 => k_asm); (case k4 => k_asm); (case k5 => k_asm); (case k6 => k_is); (case k7 => k_is); (case k8 => ktr_room); (case k9 => exact BindsTo.of_eq rfl); (case c5 => decide); (case kB => exact locs rfl); (case c2 => exact rfl); (case c3 => exact rfl); (case c4 => exact rfl))
  intro g1 L1 h1 FG1 F1 N1 B1 X1 T1
  change Fr g1 L1 h1 (fun y => List.lookup y [(Str.ofString "table", .ref tb)]) at F1
  dsimp only
  k_fold
  k_steps
  refine Stop.go (KcpSrc.intro (enc := PyData.int) (xs := kvs.map (fun p => (kyVal (PyData.int p.1), p.2))) rfl (by assumption) (by assumption) ⟨_, News.get (by assumption) List.mem_cons_self, rfl, rfl⟩ (List.mem_cons_of_mem _ m3) m4 hsz (fun _ _ h => Value.isInt_shape h) rfl ?_)
  intro g
  rename News _ _ _ _ => N2
  rename Fr _ _ _ _ => F2
  rename_i V hV lV
  refine kcpRest_ind (fun i ys nw => ∃ tl, nw = tl ++ _ ∧ ItemsAt nw (rs.take i) ys) ?_ ?_ _ 0 [] _ rfl (by simp) ⟨[], rfl, .nil⟩
  · rintro i p ys nw t I oI C2 oC D2 m₂ h tk E' hp ⟨tl, rfl, hi⟩ hC ha hb F N off ne
    rw [List.getElem?_map] at hp
    obtain ⟨⟨k, v⟩, hkv, rfl⟩ := Option.map_eq_some_iff.mp hp
    obtain ⟨r, ra, hr, rfl, rfl, hra⟩ := m5.get hkv
    change m₂ _ = some (.int r.o t) at ha
    change m₂ _ = some (.ref ra) at hb
    obtain ⟨da, t2, rv, f1, f2, f3⟩ := hra
    have hrh := f3.handed
    clear N2 F2
    k_steps
    rename_i D3 h3 l3 D4 h4 F4 N4 l4
    refine Stop.go ⟨_, _, (D4, tupO [.int r.o t, .ref D3]) :: (D3, tupO [.int r.a (t2 3), .int r.p (t2 5), rv]) :: (tl ++ (V, _) :: news), rfl, F4, news_sub N4 (by
      intro p hp
      simp only [List.mem_cons, List.mem_append] at hp ⊢
      rcases hp with h | h | h | h | h | h | h | h <;> simp [h]), ⟨⟨by k_ne, by k_ne, by k_ne⟩, ⟨by k_ne, by k_ne, by k_ne⟩, off⟩, .inr ⟨ro, by simp [m3], rfl, 0, rfl⟩, (D4, tupO [.int r.o t, .ref D3]) :: (D3, tupO [.int r.a (t2 3), .int r.p (t2 5), rv]) :: tl, rfl, ?_⟩
    rw [List.take_add_one, hr]
    exact ItemsAt.snoc (ta := D3) List.mem_cons_self ⟨t2 3, t2 5, rv, by simp, f3.mono (fun p hp => by simp [hp])⟩ (hi.mono (fun p hp => List.mem_cons_of_mem _ (List.mem_cons_of_mem _ hp)))
  · rintro ys nw ⟨tl, rfl, hi⟩
    rw [List.length_map, ← m5.len, List.take_length] at hi
    k_steps
    rename_i D5 h5 tk5 F5 N5 o5 kF kN kT kX
    exact ret D5 ys (tl ++ [(V, _)]) _ _ kF (news_sub kN (fun p hp => by simpa using hp)) (hi.mono (fun p hp => by simpa using hp))
end
section
open PySem PySem.W PySem.Calls PyProof.Rows PyProof.V PySem.Spec
theorem kclrC30 : True := by
  w_top off
  k_with_none
  trivial
noncomputable abbrev portD (w : World) (t : Nat → Tok) (f l fo : Int) (tk : Addr) : Obj :=
  dictOf [⟨PyData.keyHash w.params (Str.ofString "first"), .str (Str.ofString "first") (t 0), .int f (t 1)⟩,
    ⟨PyData.keyHash w.params (Str.ofString "last"), .str (Str.ofString "last") (t 2), .int l (t 3)⟩,
    ⟨PyData.keyHash w.params (Str.ofString "following"), .str (Str.ofString "following") (t 4), .int fo (t 5)⟩,
    ⟨PyData.keyHash w.params (Str.ofString "taken"), .str (Str.ofString "taken") (t 6), .ref tk⟩] 4
theorem kset_C30_1 : True := by
  k_with "k_mem" => (first | assumption | exact List.mem_cons_self | (refine List.mem_cons_of_mem _ ?_; k_mem) | (refine List.mem_append_right _ ?_; k_mem))
  k_with "k_all" => (first | assumption | exact allLt_ne (by assumption) | exact allLt_ne1 (by assumption) | exact allLt_ne2 (by assumption) | exact allLt_ne3 (by assumption) | exact allLt_ne4 (by assumption) | exact allLt_ne5 (by assumption) | exact allLt_ne6 (by assumption))
  k_with "exec Raise some none" => ((k_here; (with_reducible show wpAny _ _ (exec (Stmt.Raise (some (Expr.Call (Expr.Name (Str.ofString "FormError") _) _ [] _)) none _) _) _ _ _); k_dflt (refine' Raise_I (C := 44) ?X ?h ?b ?hh ?_; (case X => k_asm); (case h => k_is); (case b => decide); (case hh => rfl))))
  k_with "call ref" => (((k_here; (with_reducible show wpAny _ _ (call (Value.ref 44) _) _ _ _); k_dflt (refine' call_excK ?F ?X ?T ?room ?hC ?hi ?hc ?hmro ?hdc ?hs ?ha ?_; (case F => k_asm); (case X => k_asm); (case T => k_asm); (case room => ktr_room); (case hC => k_is); (case hi => k_is); (case hc => k_is); (case hmro => rfl); (case hdc => rfl); (case hs => k_is); (case ha => k_is)); intro e'ₖ t'ₖ d'ₖ h'ₖ tk'ₖ hx'ₖ he'ₖ); all_goals ((try revert he'ₖ); (try revert hx'ₖ); (try revert tk'ₖ); (try revert h'ₖ); (try revert d'ₖ); (try revert t'ₖ); (try revert e'ₖ); intros)))
  k_with "exec Raise some none" => ((k_here; (with_reducible show wpAny _ _ (exec (Stmt.Raise (some (Expr.Call (Expr.Name (Str.ofString "PortError") _) _ [] _)) none _) _) _ _ _); k_dflt (refine' Raise_I (C := 56) ?X ?h ?b ?hh ?_; (case X => k_asm); (case h => k_is); (case b => decide); (case hh => rfl))))
  k_with "call ref" => (((k_here; (with_reducible show wpAny _ _ (call (Value.ref 56) _) _ _ _); k_dflt (refine' call_excK ?F ?X ?T ?room ?hC ?hi ?hc ?hmro ?hdc ?hs ?ha ?_; (case F => k_asm); (case X => k_asm); (case T => k_asm); (case room => ktr_room); (case hC => k_is); (case hi => k_is); (case hc => k_is); (case hmro => rfl); (case hdc => rfl); (case hs => k_is); (case ha => k_is)); intro e'ₖ t'ₖ d'ₖ h'ₖ tk'ₖ hx'ₖ he'ₖ); all_goals ((try revert he'ₖ); (try revert hx'ₖ); (try revert tk'ₖ); (try revert h'ₖ); (try revert d'ₖ); (try revert t'ₖ); (try revert e'ₖ); intros)))
  k_with "exec Raise some none" => ((k_here; (with_reducible show wpAny _ _ (exec (Stmt.Raise (some (Expr.Call (Expr.Name (Str.ofString "StateError") _) _ [] _)) none _) _) _ _ _); k_dflt (refine' Raise_I (C := 68) ?X ?h ?b ?hh ?_; (case X => k_asm); (case h => k_is); (case b => decide); (case hh => rfl))))
  k_with "call ref" => (((k_here; (with_reducible show wpAny _ _ (call (Value.ref 68) _) _ _ _); k_dflt (refine' call_excK ?F ?X ?T ?room ?hC ?hi ?hc ?hmro ?hdc ?hs ?ha ?_; (case F => k_asm); (case X => k_asm); (case T => k_asm); (case room => ktr_room); (case hC => k_is); (case hi => k_is); (case hc => k_is); (case hmro => rfl); (case hdc => rfl); (case hs => k_is); (case ha => k_is)); intro e'ₖ t'ₖ d'ₖ h'ₖ tk'ₖ hx'ₖ he'ₖ); all_goals ((try revert he'ₖ); (try revert hx'ₖ); (try revert tk'ₖ); (try revert h'ₖ); (try revert d'ₖ); (try revert t'ₖ); (try revert e'ₖ); intros)))
  k_with "RaiseEnd" => ((refine RaiseEnd.intro (Frag.In.keeps (by k_asm) (fun b o q => ExcNew.keeps (by assumption) b o (Fr.keep (by k_asm) b o q))) (by assumption) ?_))
  k_with "leaving ref" => (((k_here; (refine' leave_excK ?k1 ?k0 ?k2 ?k3 ?_; (case k0 => assumption); (case k1 => assumption); (case k2 => assumption); (case k3 => k_asm); k_whole; intro h'ₖ R'ₖ U'ₖ; (try dsimp only at R'ₖ U'ₖ ⊢))); all_goals ((try revert U'ₖ); (try revert R'ₖ); (try revert h'ₖ); intros)))
  k_with "compareOp NotIn int ref" => ((k_here; k_dflt (first
  | (refine' notin_some (knd := intKind _ _) ?N ?hp ?hd ?lo (intKind_is _ _ _ _) ?hv ?_; (case N => k_asm); (case hp => k_mem); (case hd => assumption); (case lo => assumption); (case hv => assumption))
  | (refine' notin_none (knd := intKind _ _) ?N ?hp ?hd ?lo (intKind_is _ _ _ _) ?hv ?_; (case N => k_asm); (case hp => k_mem); (case hd => assumption); (case lo => assumption); (case hv => assumption)))))
  k_with "compareOp In int ref" => ((k_here; k_dflt (first
  | (refine' in_some (knd := intKind _ _) ?N ?hp ?hd ?lo (intKind_is _ _ _ _) ?hv ?_; (case N => k_asm); (case hp => k_mem); (case hd => assumption); (case lo => assumption); (case hv => assumption))
  | (refine' in_none (knd := intKind _ _) ?N ?hp ?hd ?lo (intKind_is _ _ _ _) ?hv ?_; (case N => k_asm); (case hp => k_mem); (case hd => assumption); (case lo => assumption); (case hv => assumption)))))
  k_with "setItem ref int" => (((k_here; k_dflt (refine' kda_set (knd := intKind _ _) ?F ?N ?U ?d (intKind_is _ _ _ _) ?z ?_; (case F => k_asm); (case N => k_asm); (case U => k_updF); (case d => assumption); (case z => assumption)); intro h'ₖ o'ₖ F'ₖ N'ₖ hd'ₖ; (try dsimp only at N'ₖ); (try k_sweep)); all_goals ((try revert hd'ₖ); (try revert N'ₖ); (try revert F'ₖ); (try revert o'ₖ); (try revert h'ₖ); intros)))
  k_with "getMethod ref" => ((k_here; (with_reducible show wpAny _ _ (getMethod (Value.ref _) (Str.ofString "pop") _) _ _ _); k_dflt (refine' kob_method (knd := PySem.intKind _ _) PySem.F.slot_dict_pop PySem.F.type_dict_pop ?N ?hp ?hd ?_; (case N => k_asm); (case hp => k_mem); (case hd => assumption))))
  k_with "call builtin:dict.pop" => (((k_here; k_dflt (refine' kob_pop (knd := PySem.intKind _ _) (more := []) ?F ?N ?U ?d (intKind_is _ _ _ _) (.inl rfl) (by rfl) (PySem.F.args_dict_pop_2 _ _) ?l ?z ?_; (case F => k_asm); (case N => k_asm); (case U => k_updF); (case d => assumption); (case l => assumption); (case z => assumption)); intro h'ₖ o'ₖ F'ₖ N'ₖ hd'ₖ; (try dsimp only at N'ₖ); (try k_sweep)); all_goals ((try revert hd'ₖ); (try revert N'ₖ); (try revert F'ₖ); (try revert o'ₖ); (try revert h'ₖ); intros)))
  k_with "leaving ref" => (((k_here; k_dflt (refine' leave_onS1 ?k0 ?k1 ?k2 ?k3 ?_; (case k2 => assumption); (case k0 => assumption); (case k1 => assumption); (case k3 => assumption)); intro h'ₖ R'ₖ U'ₖ; (try dsimp only at R'ₖ U'ₖ ⊢)); all_goals ((try revert U'ₖ); (try revert R'ₖ); (try revert h'ₖ); intros)))
  trivial
theorem taken_spec : ∀ {w : World} {mean : ExcName → Option Value} {mg mb : Str → Option Value} {dp un : Nat} {gd : Option (List Code)} {cn : Str} {cs : Scope} {a : Addr} {ccd : Value} {cl : List (Str × Addr)} {outer : List Env} {A₀ : Around} {base h₀ : Heap} {L : Addr} {m : Str → Option Value} {news : List (Addr × Obj)} {s : Shared}
    {Q E : Value → Shared → Prop} (B : Below A₀ base outer h₀) (F : Fr h₀ L s.heap m) (X : (hd.heap_1 w.params).In h₀) (N : News h₀ L s.heap news) (T : Top topProg LS mean mg mb h₀) (hk : cs.kind = .function) (hdp : dp < 890) (hu : un < 8000)
    {pa pd td : Addr} {pt : Nat → Tok} {pf pl fo : Int} {to : Obj} {kvs : List (Int × Value)} {k : Int} {tk0 : Tok} (p1 : (pa, instObj 221 pd) ∈ news) (p2 : (pd, portD w pt pf pl fo td) ∈ news) (p3 : (td, to) ∈ news) (lo : (td == sysModules) = false) (p4 : to.IsDictOf (intKind PySem.Challenge.rw_on0339_01.row.prog w) kvs) 
    (ret : ∀ b h' tk', (b = true ↔ valueAt kvs k ≠ none) → Fr h₀ L h' m → News h₀ L h' news → Q (.bool b) { s with heap := h', toks := tk' }),
    wpAny (model PySem.Challenge.rw_on0339_01.row.prog w) (ktrTop dp un gd cn cs L a ccd cl outer) (call (.ref 189) [.ref pa, .int k tk0]) Q E s := by
  k_fill
  intro w mean mg mb dp un gd cn cs a ccd cl outer A₀ base h₀ L m news s Q E B F X N T hk hdp hu pa pd td pt pf pl fo to kvs k tk0 p1 p2 p3 lo p4 ret
  refine wpAny_call ?_
  k_dflt (refine' code_def (binds := [(Str.ofString "self", .ref pa), (Str.ofString "number", .int k tk0)]) ?k1 ?k2 ?k3 ?k4 ?k5 ?kA ?kF ?kK ?k6 ?k7 ?k8 ?k9 ?kB ?_ ?c2 ?c3 ?c4 ?c5; (case kA => exact rfl); (case kF => exact rfl); (case kK => assumption); (case k1 => k_asm); (case k2 => k_asm); (case k3 => k_asm); (case k4 => k_asm); (case k5 => k_asm); (case k6 => k_is); (case k7 => k_is); (case k8 => ktr_room); (case k9 => exact BindsTo.of_eq rfl); (case c5 => decide); (case kB => exact locs rfl); (case c2 => exact rfl); (case c3 => exact rfl); (case c4 => exact rfl))
  intro g1 L1 h1 FG1 F1 N1 B1 X1 T1
  change Fr g1 L1 h1 (fun y => List.lookup y [(Str.ofString "number", .int k tk0), (Str.ofString "self", .ref pa)]) at F1
  dsimp only
  k_fold
  cases hva : valueAt kvs k with
  | none =>
    k_steps
    exact ret _ _ _ (by simp [hva]) (by k_asm) (by k_asm)
  | some v =>
    k_steps
    exact ret _ _ _ (by simp [hva]) (by k_asm) (by k_asm)
theorem behind_spec : ∀ {w : World} {mean : ExcName → Option Value} {mg mb : Str → Option Value} {dp un : Nat} {gd : Option (List Code)} {cn : Str} {cs : Scope} {a : Addr} {ccd : Value} {cl : List (Str × Addr)} {outer : List Env} {A₀ : Around} {base h₀ : Heap} {L : Addr} {m : Str → Option Value} {news : List (Addr × Obj)} {s : Shared}
    {Q E : Value → Shared → Prop} (B : Below A₀ base outer h₀) (F : Fr h₀ L s.heap m) (X : (hd.heap_1 w.params).In h₀) (N : News h₀ L s.heap news) (T : Top topProg LS mean mg mb h₀) (hk : cs.kind = .function) (hdp : dp < 890) (hu : un < 8000)
    {pa pd td : Addr} {pt : Nat → Tok} {pf pl fo : Int} {k : Int} {tk0 : Tok} (p1 : (pa, instObj 221 pd) ∈ news) (p2 : (pd, portD w pt pf pl fo td) ∈ news) 
    (ret : ∀ t9 h' tk', Fr h₀ L h' m → News h₀ L h' news → Q (.int (if k = pl then pf else k + 1) t9) { s with heap := h', toks := tk' }),
    wpAny (model PySem.Challenge.rw_on0339_01.row.prog w) (ktrTop dp un gd cn cs L a ccd cl outer) (call (.ref 211) [.ref pa, .int k tk0]) Q E s := by
  k_fill
  intro w mean mg mb dp un gd cn cs a ccd cl outer A₀ base h₀ L m news s Q E B F X N T hk hdp hu pa pd td pt pf pl fo k tk0 p1 p2 ret
  refine wpAny_call ?_
  k_dflt (refine' code_def (binds := [(Str.ofString "self", .ref pa), (Str.ofString "number", .int k tk0)]) ?k1 ?k2 ?k3 ?k4 ?k5 ?kA ?kF ?kK ?k6 ?k7 ?k8 ?k9 ?kB ?_ ?c2 ?c3 ?c4 ?c5; (case kA => exact rfl); (case kF => exact rfl); (case kK => assumption); (case k1 => k_asm); (case k2 => k_asm); (case k3 => k_asm); (case k4 => k_asm); (case k5 => k_asm); (case k6 => k_is); (case k7 => k_is); (case k8 => ktr_room); (case k9 => exact BindsTo.of_eq rfl); (case c5 => decide); (case kB => exact locs rfl); (case c2 => exact rfl); (case c3 => exact rfl); (case c4 => exact rfl))
  intro g1 L1 h1 FG1 F1 N1 B1 X1 T1
  change Fr g1 L1 h1 (fun y => List.lookup y [(Str.ofString "number", .int k tk0), (Str.ofString "self", .ref pa)]) at F1
  dsimp only
  k_fold
  by_cases hk0 : k = pl
  · have := ret
    simp only [if_pos hk0] at ret
    k_steps
    all_goals first | exact ret _ _ _ (by k_asm) (by k_asm) | (exfalso; omega)
  · have := ret
    simp only [if_neg hk0] at ret
    k_steps
    all_goals first | exact ret _ _ _ (by k_asm) (by k_asm) | (exfalso; omega)
end
section
open PySem PySem.W PySem.Calls PyProof.Rows PyProof.V PySem.Spec
theorem kclrC31 : True := by
  w_top off
  k_with_none
  trivial
theorem kset_C31_1 : True := by
  k_with "k_mem" => (first | assumption | exact List.mem_cons_self | (refine List.mem_cons_of_mem _ ?_; k_mem) | (refine List.mem_append_right _ ?_; k_mem))
  k_with "k_all" => (first | assumption | exact allLt_ne (by assumption) | exact allLt_ne1 (by assumption) | exact allLt_ne2 (by assumption) | exact allLt_ne3 (by assumption) | exact allLt_ne4 (by assumption) | exact allLt_ne5 (by assumption) | exact allLt_ne6 (by assumption))
  k_with "exec Raise some none" => ((k_here; (with_reducible show wpAny _ _ (exec (Stmt.Raise (some (Expr.Call (Expr.Name (Str.ofString "FormError") _) _ [] _)) none _) _) _ _ _); k_dflt (refine' Raise_I (C := 44) ?X ?h ?b ?hh ?_; (case X => k_asm); (case h => k_is); (case b => decide); (case hh => rfl))))
  k_with "call ref" => (((k_here; (with_reducible show wpAny _ _ (call (Value.ref 44) _) _ _ _); k_dflt (refine' call_excK ?F ?X ?T ?room ?hC ?hi ?hc ?hmro ?hdc ?hs ?ha ?_; (case F => k_asm); (case X => k_asm); (case T => k_asm); (case room => ktr_room); (case hC => k_is); (case hi => k_is); (case hc => k_is); (case hmro => rfl); (case hdc => rfl); (case hs => k_is); (case ha => k_is)); intro e'ₖ t'ₖ d'ₖ h'ₖ tk'ₖ hx'ₖ he'ₖ); all_goals ((try revert he'ₖ); (try revert hx'ₖ); (try revert tk'ₖ); (try revert h'ₖ); (try revert d'ₖ); (try revert t'ₖ); (try revert e'ₖ); intros)))
  k_with "exec Raise some none" => ((k_here; (with_reducible show wpAny _ _ (exec (Stmt.Raise (some (Expr.Call (Expr.Name (Str.ofString "PortError") _) _ [] _)) none _) _) _ _ _); k_dflt (refine' Raise_I (C := 56) ?X ?h ?b ?hh ?_; (case X => k_asm); (case h => k_is); (case b => decide); (case hh => rfl))))
  k_with "call ref" => (((k_here; (with_reducible show wpAny _ _ (call (Value.ref 56) _) _ _ _); k_dflt (refine' call_excK ?F ?X ?T ?room ?hC ?hi ?hc ?hmro ?hdc ?hs ?ha ?_; (case F => k_asm); (case X => k_asm); (case T => k_asm); (case room => ktr_room); (case hC => k_is); (case hi => k_is); (case hc => k_is); (case hmro => rfl); (case hdc => rfl); (case hs => k_is); (case ha => k_is)); intro e'ₖ t'ₖ d'ₖ h'ₖ tk'ₖ hx'ₖ he'ₖ); all_goals ((try revert he'ₖ); (try revert hx'ₖ); (try revert tk'ₖ); (try revert h'ₖ); (try revert d'ₖ); (try revert t'ₖ); (try revert e'ₖ); intros)))
  k_with "exec Raise some none" => ((k_here; (with_reducible show wpAny _ _ (exec (Stmt.Raise (some (Expr.Call (Expr.Name (Str.ofString "StateError") _) _ [] _)) none _) _) _ _ _); k_dflt (refine' Raise_I (C := 68) ?X ?h ?b ?hh ?_; (case X => k_asm); (case h => k_is); (case b => decide); (case hh => rfl))))
  k_with "call ref" => (((k_here; (with_reducible show wpAny _ _ (call (Value.ref 68) _) _ _ _); k_dflt (refine' call_excK ?F ?X ?T ?room ?hC ?hi ?hc ?hmro ?hdc ?hs ?ha ?_; (case F => k_asm); (case X => k_asm); (case T => k_asm); (case room => ktr_room); (case hC => k_is); (case hi => k_is); (case hc => k_is); (case hmro => rfl); (case hdc => rfl); (case hs => k_is); (case ha => k_is)); intro e'ₖ t'ₖ d'ₖ h'ₖ tk'ₖ hx'ₖ he'ₖ); all_goals ((try revert he'ₖ); (try revert hx'ₖ); (try revert tk'ₖ); (try revert h'ₖ); (try revert d'ₖ); (try revert t'ₖ); (try revert e'ₖ); intros)))
  k_with "RaiseEnd" => ((refine RaiseEnd.intro (Frag.In.keeps (by k_asm) (fun b o q => ExcNew.keeps (by assumption) b o (Fr.keep (by k_asm) b o q))) (by assumption) ?_))
  k_with "leaving ref" => (((k_here; (refine' leave_excK ?k1 ?k0 ?k2 ?k3 ?_; (case k0 => assumption); (case k1 => assumption); (case k2 => assumption); (case k3 => k_asm); k_whole; intro h'ₖ R'ₖ U'ₖ; (try dsimp only at R'ₖ U'ₖ ⊢))); all_goals ((try revert U'ₖ); (try revert R'ₖ); (try revert h'ₖ); intros)))
  k_with "compareOp NotIn int ref" => ((k_here; k_dflt (first
  | (refine' notin_some (knd := intKind _ _) ?N ?hp ?hd ?lo (intKind_is _ _ _ _) ?hv ?_; (case N => k_asm); (case hp => k_mem); (case hd => assumption); (case lo => assumption); (case hv => assumption))
  | (refine' notin_none (knd := intKind _ _) ?N ?hp ?hd ?lo (intKind_is _ _ _ _) ?hv ?_; (case N => k_asm); (case hp => k_mem); (case hd => assumption); (case lo => assumption); (case hv => assumption)))))
  k_with "compareOp In int ref" => ((k_here; k_dflt (first
  | (refine' in_some (knd := intKind _ _) ?N ?hp ?hd ?lo (intKind_is _ _ _ _) ?hv ?_; (case N => k_asm); (case hp => k_mem); (case hd => assumption); (case lo => assumption); (case hv => assumption))
  | (refine' in_none (knd := intKind _ _) ?N ?hp ?hd ?lo (intKind_is _ _ _ _) ?hv ?_; (case N => k_asm); (case hp => k_mem); (case hd => assumption); (case lo => assumption); (case hv => assumption)))))
  k_with "setItem ref int" => (((k_here; k_dflt (refine' kda_set (knd := intKind _ _) ?F ?N ?U ?d (intKind_is _ _ _ _) ?z ?_; (case F => k_asm); (case N => k_asm); (case U => k_updF); (case d => assumption); (case z => assumption)); intro h'ₖ o'ₖ F'ₖ N'ₖ hd'ₖ; (try dsimp only at N'ₖ); (try k_sweep)); all_goals ((try revert hd'ₖ); (try revert N'ₖ); (try revert F'ₖ); (try revert o'ₖ); (try revert h'ₖ); intros)))
  k_with "leaving ref" => (((k_here; k_dflt (refine' leave_onS1 ?k0 ?k1 ?k2 ?k3 ?_; (case k2 => assumption); (case k0 => assumption); (case k1 => assumption); (case k3 => assumption)); intro h'ₖ R'ₖ U'ₖ; (try dsimp only at R'ₖ U'ₖ ⊢)); all_goals ((try revert U'ₖ); (try revert R'ₖ); (try revert h'ₖ); intros)))
  k_with "TurnPost" => (dsimp only [TurnPost])
  trivial
theorem taken_n : ∀ {w : World} {mean : ExcName → Option Value} {mg mb : Str → Option Value} {dp un : Nat} {gd : Option (List Code)} {cn : Str} {cs : Scope} {a : Addr} {ccd : Value} {cl : List (Str × Addr)} {outer : List Env} {A₀ : Around} {base h₀ : Heap} {L : Addr} {m : Str → Option Value} {news : List (Addr × Obj)} {s : Shared}
    {Q E : Value → Shared → Prop} (B : Below A₀ base outer h₀) (F : Fr h₀ L s.heap m) (X : (hd.heap_1 w.params).In h₀) (N : News h₀ L s.heap news) (T : Top topProg LS mean mg mb h₀) (hk : cs.kind = .function) (hdp : dp < 890) (hu : un < 8000)
    {pa pd td : Addr} {pt : Nat → Tok} {pf pl fo : Int} {to : Obj} {kvs : List (Int × Value)} {k : Int} {tk0 : Tok} {v : Value} (p1 : (pa, instObj 221 pd) ∈ news) (p2 : (pd, portD w pt pf pl fo td) ∈ news) (p3 : (td, to) ∈ news) (lo : (td == sysModules) = false) (p4 : to.IsDictOf (intKind PySem.Challenge.rw_on0339_01.row.prog w) kvs) (hva : valueAt kvs k = none)
    (ret : ∀ h' tk', Fr h₀ L h' m → News h₀ L h' news → Q (.bool false) { s with heap := h', toks := tk' }),
    wpAny (model PySem.Challenge.rw_on0339_01.row.prog w) (ktrTop dp un gd cn cs L a ccd cl outer) (call (.ref 189) [.ref pa, .int k tk0]) Q E s := by
  intro w mean mg mb dp un gd cn cs a ccd cl outer A₀ base h₀ L m news s Q E B F X N T hk hdp hu pa pd td pt pf pl fo to kvs k tk0 v p1 p2 p3 lo p4 hva ret
  refine taken_spec B F X N T hk hdp hu p1 p2 p3 lo p4 (fun b h' tk' hb F' N' => ?_)
  rw [hva] at hb
  have : b = false := by cases b <;> simp_all
  subst this
  exact ret h' tk' F' N'
theorem taken_s : ∀ {w : World} {mean : ExcName → Option Value} {mg mb : Str → Option Value} {dp un : Nat} {gd : Option (List Code)} {cn : Str} {cs : Scope} {a : Addr} {ccd : Value} {cl : List (Str × Addr)} {outer : List Env} {A₀ : Around} {base h₀ : Heap} {L : Addr} {m : Str → Option Value} {news : List (Addr × Obj)} {s : Shared}
    {Q E : Value → Shared → Prop} (B : Below A₀ base outer h₀) (F : Fr h₀ L s.heap m) (X : (hd.heap_1 w.params).In h₀) (N : News h₀ L s.heap news) (T : Top topProg LS mean mg mb h₀) (hk : cs.kind = .function) (hdp : dp < 890) (hu : un < 8000)
    {pa pd td : Addr} {pt : Nat → Tok} {pf pl fo : Int} {to : Obj} {kvs : List (Int × Value)} {k : Int} {tk0 : Tok} {v : Value} (p1 : (pa, instObj 221 pd) ∈ news) (p2 : (pd, portD w pt pf pl fo td) ∈ news) (p3 : (td, to) ∈ news) (lo : (td == sysModules) = false) (p4 : to.IsDictOf (intKind PySem.Challenge.rw_on0339_01.row.prog w) kvs) (hva : valueAt kvs k = some v)
    (ret : ∀ h' tk', Fr h₀ L h' m → News h₀ L h' news → Q (.bool true) { s with heap := h', toks := tk' }),
    wpAny (model PySem.Challenge.rw_on0339_01.row.prog w) (ktrTop dp un gd cn cs L a ccd cl outer) (call (.ref 189) [.ref pa, .int k tk0]) Q E s := by
  intro w mean mg mb dp un gd cn cs a ccd cl outer A₀ base h₀ L m news s Q E B F X N T hk hdp hu pa pd td pt pf pl fo to kvs k tk0 v p1 p2 p3 lo p4 hva ret
  refine taken_spec B F X N T hk hdp hu p1 p2 p3 lo p4 (fun b h' tk' hb F' N' => ?_)
  rw [hva] at hb
  have : b = true := by cases b <;> simp_all
  subst this
  exact ret h' tk' F' N'
theorem kset_C31_2 : True := by
  k_with "call ref cons nil" => (((k_here; (with_reducible show wpAny _ _ (call (Value.ref 189) _) _ _ _); k_dflt (refine' taken_n (v := .none) ?u_B ?u_F ?u_X ?u_N ?u_T ?u_hk ?u_hdp ?u_hu ?u_p1 ?u_p2 ?u_p3 ?u_lo ?u_p4 ?u_hva ?_; (case u_B => k_asm); (case u_F => k_asm); (case u_X => k_asm); (case u_N => k_asm); (case u_T => k_asm); (case u_hk => first | exact rfl | assumption); (case u_hdp => ktr_room); (case u_hu => ktr_units); (case u_p1 => k_mem); (case u_p2 => k_mem); (case u_p3 => k_mem); (case u_lo => assumption); (case u_p4 => assumption); (case u_hva => assumption)); intro h9ₖ tk9ₖ F9ₖ N9ₖ; (try k_sweep)); all_goals ((try revert N9ₖ); (try revert F9ₖ); (try revert tk9ₖ); (try revert h9ₖ); intros)))
  k_with "call ref cons nil" => (((k_here; (with_reducible show wpAny _ _ (call (Value.ref 189) _) _ _ _); k_dflt (refine' taken_s ?u_B ?u_F ?u_X ?u_N ?u_T ?u_hk ?u_hdp ?u_hu ?u_p1 ?u_p2 ?u_p3 ?u_lo ?u_p4 ?u_hva ?_; (case u_B => k_asm); (case u_F => k_asm); (case u_X => k_asm); (case u_N => k_asm); (case u_T => k_asm); (case u_hk => first | exact rfl | assumption); (case u_hdp => ktr_room); (case u_hu => ktr_units); (case u_p1 => k_mem); (case u_p2 => k_mem); (case u_p3 => k_mem); (case u_lo => assumption); (case u_p4 => assumption); (case u_hva => assumption)); intro h9ₖ tk9ₖ F9ₖ N9ₖ; (try k_sweep)); all_goals ((try revert N9ₖ); (try revert F9ₖ); (try revert tk9ₖ); (try revert h9ₖ); intros)))
  k_with "call ref cons nil" => (((k_here; (with_reducible show wpAny _ _ (call (Value.ref 211) _) _ _ _); k_dflt (refine' behind_spec ?u_B ?u_F ?u_X ?u_N ?u_T ?u_hk ?u_hdp ?u_hu ?u_p1 ?u_p2 ?_; (case u_B => k_asm); (case u_F => k_asm); (case u_X => k_asm); (case u_N => k_asm); (case u_T => k_asm); (case u_hk => first | exact rfl | assumption); (case u_hdp => ktr_room); (case u_hu => ktr_units); (case u_p1 => k_mem); (case u_p2 => k_mem)); intro t9ₖ h9ₖ tk9ₖ F9ₖ N9ₖ; (try k_sweep)); all_goals ((try revert N9ₖ); (try revert F9ₖ); (try revert tk9ₖ); (try revert h9ₖ); (try revert t9ₖ); intros)))
  k_with "exec For Name Call cons nil" => ((k_here; (rename Fr _ _ _ _ => lF'); (with_unfolding_all refine' For_invVF lF' ?k1 ?k2 ?_; (case k1 => exact rfl); (case k2 => exact rfl); k_whole)))
  k_with "pyIter ref" => ((k_here; refine Stop.here ?_))
  trivial
def ptf (pt : Nat → Tok) (t : Tok) : Nat → Tok := fun j => if j = 5 then t else pt j
theorem next_spec : ∀ {w : World} {mean : ExcName → Option Value} {mg mb : Str → Option Value} {dp un : Nat} {gd : Option (List Code)} {cn : Str} {cs : Scope} {a : Addr} {ccd : Value} {cl : List (Str × Addr)} {outer : List Env} {A₀ : Around} {base h₀ : Heap} {L : Addr} {m : Str → Option Value} {pd : Addr} {pdo : Obj} {rest : List (Addr × Obj)} {s : Shared}
    {Q E : Value → Shared → Prop} (B : Below A₀ base outer h₀) (F : Fr h₀ L s.heap m) (X : (hd.heap_1 w.params).In h₀) (N : News h₀ L s.heap ((pd, pdo) :: rest)) (T : Top topProg LS mean mg mb h₀) (hk : cs.kind = .function) (hdp : dp < 880) (hu : un < 7900)
    {pa td : Addr} {pt : Nat → Tok} {pf pl fo : Int} {to : Obj} {kvs : List (Int × Value)} (hpd : pdo = portD w pt pf pl fo td) (p1 : (pa, instObj 221 pd) ∈ rest) (p3 : (td, to) ∈ rest) (lo : (td == sysModules) = false) (p4 : to.IsDictOf (intKind PySem.Challenge.rw_on0339_01.row.prog w) kvs) (hr : ∀ p ∈ rest, p.1 ≠ pd) (b1 : 1 ≤ pf) (b2 : pf ≤ fo) (b3 : fo ≤ pl) (b4 : pl ≤ 100) 
    (rai : (∀ i : Nat, (i : Int) < pl - pf + 1 → valueAt kvs (nthP pf pl fo i) ≠ none) → ∀ e h' g₂ tk', RaisedSN base g₂ (envX cn cs L a ccd cl :: outer) e (.ref 56) ((pd, portD w pt pf pl fo td) :: rest) h' → Fr h₀ L g₂ m → g₂.UpToSlots h' → E (.ref e) { s with heap := h', toks := tk' })
    (ret : ∀ i : Nat, (i : Int) < pl - pf + 1 → valueAt kvs (nthP pf pl fo i) = none → (∀ j : Nat, j < i → valueAt kvs (nthP pf pl fo j) ≠ none) → ∀ t9 pt' h' tk', Fr h₀ L h' m → News h₀ L h' ((pd, portD w pt' pf pl (nthP pf pl fo (i + 1)) td) :: rest) → Q (.int (nthP pf pl fo i) t9) { s with heap := h', toks := tk' }),
    wpAny (model PySem.Challenge.rw_on0339_01.row.prog w) (ktrTop dp un gd cn cs L a ccd cl outer) (call (.ref 204) [.ref pa]) Q E s := by
  k_fill
  intro w mean mg mb dp un gd cn cs a ccd cl outer A₀ base h₀ L m pd pdo rest s Q E B F X N T hk hdp hu pa td pt pf pl fo to kvs hpd p1 p3 lo p4 hr b1 b2 b3 b4 rai ret
  subst hpd
  refine wpAny_call ?_
  k_dflt (refine' code_def (binds := [(Str.ofString "self", .ref pa)]) ?k1 ?k2 ?k3 ?k4 ?k5 ?kA ?kF ?kK ?k6 ?k7 ?k8 ?k9 ?kB ?_ ?c2 ?c3 ?c4 ?c5; (case kA => exact rfl); (case kF => exact rfl); (case kK => assumption); (case k1 => k_asm); (case k2 => k_asm); (case k3 => k_asm); (case k4 => k_asm); (case k5 => k_asm); (case k6 => k_is); (case k7 => k_is); (case k8 => ktr_room); (case k9 => exact BindsTo.of_eq rfl); (case c5 => decide); (case kB => exact locs rfl); (case c2 => exact rfl); (case c3 => exact rfl); (case c4 => exact rfl))
  intro g1 L1 h1 FG1 F1 N1 B1 X1 T1
  change Fr g1 L1 h1 (fun y => List.lookup y [(Str.ofString "self", .ref pa)]) at F1
  dsimp only
  k_fold
  k_steps
  refine Stop.go ?_
  rename IsRange _ _ _ _ _ _ _ _ => R2
  rename Fr _ _ _ _ => F2
  rename News _ _ _ _ => N2
  refine iter_rangeK (a₀ := 0) (b₀ := pl - pf + 1) (n := (pl - pf + 1 - 0).toNat) (fun i m' => ∃ tq, ∃ u : Str → Option Value, (m' = fun y => if y = Str.ofString "turn" then u y else if y = Str.ofString "number" then some (.int (nthP pf pl fo i) tq) else List.lookup y [(Str.ofString "self", .ref pa)]) ∧ ∀ j : Nat, j < i → valueAt kvs (nthP pf pl fo j) ≠ none) rfl R2 (small_one (by omega) (by omega) (by omega) (by omega)) (rangeSize_nat _ _) F2 N2 ⟨pt 5, fun _ => none, ?_, fun j hj => absurd hj (Nat.not_lt_zero _)⟩ ?_ ?_
  · funext y
    rw [nthP_zero b3]
    by_cases h1 : y = Str.ofString "turn"
    · subst h1; rfl
    · simp [h1]
  · rintro i t m₁ h tk own hi hsep ⟨tq, u, rfl, hno⟩ F3 N3
    simp only [List.cons_append] at N3
    have hown : ∀ p ∈ rest ++ own, p.1 ≠ pd := ne_app hr (fun p hp => hsep p hp (pd, _) List.mem_cons_self)
    clear F2 N2
    have hi2 : (i : Int) < pl - pf + 1 := by omega
    have hnx := nthP_succ b2 b3 hi2
    cases hv : valueAt kvs (nthP pf pl fo i) with
    | none =>
      k_steps
      rename News _ _ _ _ => kN
      rw [hnx] at kN
      have kN2 : News _ _ _ ((pd, portD w (ptf pt _) pf pl (nthP pf pl fo (i + 1)) td) :: (rest ++ own)) := kN
      exact ret i hi2 hv hno _ _ _ _ (by assumption) (news_sub kN2 (fun p hp => by
        rcases List.mem_cons.mp hp with h | h
        · rw [h]; exact List.mem_cons_self
        · exact List.mem_cons_of_mem _ (List.mem_append_left _ h)))
    | some v =>
      k_steps
      rename_i t9 h9x tk9x hx Fx Nx
      refine TurnEnd.intro (by k_asm) (by k_asm) (fun p hp => by simpa using hp) ⟨t9, fun _ => some (.int (0 + (i : Int)) t), ?_, ?_⟩
      · funext y
        rw [← hnx]
        by_cases h1 : y = Str.ofString "turn"
        · subst h1; rfl
        · by_cases h2 : y = Str.ofString "number"
          · subst h2; rfl
          · simp [h1, h2]
      · intro j hj
        by_cases h1 : j < i
        · exact hno j h1
        · have : j = i := by omega
          rw [this, hv]; simp
  · rintro m₁ h tk ⟨tq, u, rfl, hno⟩ F3 N3
    clear F2 N2
    k_steps
    exact rai (fun i hi => hno i (by omega)) _ _ _ _ (by assumption) (by assumption) (by assumption)
end
section
open PySem PySem.W PySem.Calls PyProof.Rows PyProof.V PySem.Spec
theorem kclrC32 : True := by
  w_top off
  k_with_none
  trivial
theorem kset_C32_1 : True := by
  k_with "k_mem" => (first | assumption | exact List.mem_cons_self | (refine List.mem_cons_of_mem _ ?_; k_mem) | (refine List.mem_append_right _ ?_; k_mem))
  k_with "k_all" => (first | assumption | exact allLt_ne (by assumption) | exact allLt_ne1 (by assumption) | exact allLt_ne2 (by assumption) | exact allLt_ne3 (by assumption) | exact allLt_ne4 (by assumption) | exact allLt_ne5 (by assumption) | exact allLt_ne6 (by assumption))
  k_with "exec Raise some none" => ((k_here; (with_reducible show wpAny _ _ (exec (Stmt.Raise (some (Expr.Call (Expr.Name (Str.ofString "FormError") _) _ [] _)) none _) _) _ _ _); k_dflt (refine' Raise_I (C := 44) ?X ?h ?b ?hh ?_; (case X => k_asm); (case h => k_is); (case b => decide); (case hh => rfl))))
  k_with "call ref" => (((k_here; (with_reducible show wpAny _ _ (call (Value.ref 44) _) _ _ _); k_dflt (refine' call_excK ?F ?X ?T ?room ?hC ?hi ?hc ?hmro ?hdc ?hs ?ha ?_; (case F => k_asm); (case X => k_asm); (case T => k_asm); (case room => ktr_room); (case hC => k_is); (case hi => k_is); (case hc => k_is); (case hmro => rfl); (case hdc => rfl); (case hs => k_is); (case ha => k_is)); intro e'ₖ t'ₖ d'ₖ h'ₖ tk'ₖ hx'ₖ he'ₖ); all_goals ((try revert he'ₖ); (try revert hx'ₖ); (try revert tk'ₖ); (try revert h'ₖ); (try revert d'ₖ); (try revert t'ₖ); (try revert e'ₖ); intros)))
  k_with "exec Raise some none" => ((k_here; (with_reducible show wpAny _ _ (exec (Stmt.Raise (some (Expr.Call (Expr.Name (Str.ofString "PortError") _) _ [] _)) none _) _) _ _ _); k_dflt (refine' Raise_I (C := 56) ?X ?h ?b ?hh ?_; (case X => k_asm); (case h => k_is); (case b => decide); (case hh => rfl))))
  k_with "call ref" => (((k_here; (with_reducible show wpAny _ _ (call (Value.ref 56) _) _ _ _); k_dflt (refine' call_excK ?F ?X ?T ?room ?hC ?hi ?hc ?hmro ?hdc ?hs ?ha ?_; (case F => k_asm); (case X => k_asm); (case T => k_asm); (case room => ktr_room); (case hC => k_is); (case hi => k_is); (case hc => k_is); (case hmro => rfl); (case hdc => rfl); (case hs => k_is); (case ha => k_is)); intro e'ₖ t'ₖ d'ₖ h'ₖ tk'ₖ hx'ₖ he'ₖ); all_goals ((try revert he'ₖ); (try revert hx'ₖ); (try revert tk'ₖ); (try revert h'ₖ); (try revert d'ₖ); (try revert t'ₖ); (try revert e'ₖ); intros)))
  k_with "exec Raise some none" => ((k_here; (with_reducible show wpAny _ _ (exec (Stmt.Raise (some (Expr.Call (Expr.Name (Str.ofString "StateError") _) _ [] _)) none _) _) _ _ _); k_dflt (refine' Raise_I (C := 68) ?X ?h ?b ?hh ?_; (case X => k_asm); (case h => k_is); (case b => decide); (case hh => rfl))))
  k_with "call ref" => (((k_here; (with_reducible show wpAny _ _ (call (Value.ref 68) _) _ _ _); k_dflt (refine' call_excK ?F ?X ?T ?room ?hC ?hi ?hc ?hmro ?hdc ?hs ?ha ?_; (case F => k_asm); (case X => k_asm); (case T => k_asm); (case room => ktr_room); (case hC => k_is); (case hi => k_is); (case hc => k_is); (case hmro => rfl); (case hdc => rfl); (case hs => k_is); (case ha => k_is)); intro e'ₖ t'ₖ d'ₖ h'ₖ tk'ₖ hx'ₖ he'ₖ); all_goals ((try revert he'ₖ); (try revert hx'ₖ); (try revert tk'ₖ); (try revert h'ₖ); (try revert d'ₖ); (try revert t'ₖ); (try revert e'ₖ); intros)))
  k_with "RaiseEnd" => ((refine RaiseEnd.intro (Frag.In.keeps (by k_asm) (fun b o q => ExcNew.keeps (by assumption) b o (Fr.keep (by k_asm) b o q))) (by assumption) ?_))
  k_with "leaving ref" => (((k_here; (refine' leave_excK ?k1 ?k0 ?k2 ?k3 ?_; (case k0 => assumption); (case k1 => assumption); (case k2 => assumption); (case k3 => k_asm); k_whole; intro h'ₖ R'ₖ U'ₖ; (try dsimp only at R'ₖ U'ₖ ⊢))); all_goals ((try revert U'ₖ); (try revert R'ₖ); (try revert h'ₖ); intros)))
  k_with "compareOp NotIn int ref" => ((k_here; k_dflt (first
  | (refine' notin_some (knd := intKind _ _) ?N ?hp ?hd ?lo (intKind_is _ _ _ _) ?hv ?_; (case N => k_asm); (case hp => k_mem); (case hd => assumption); (case lo => assumption); (case hv => assumption))
  | (refine' notin_none (knd := intKind _ _) ?N ?hp ?hd ?lo (intKind_is _ _ _ _) ?hv ?_; (case N => k_asm); (case hp => k_mem); (case hd => assumption); (case lo => assumption); (case hv => assumption)))))
  k_with "compareOp In int ref" => ((k_here; k_dflt (first
  | (refine' in_some (knd := intKind _ _) ?N ?hp ?hd ?lo (intKind_is _ _ _ _) ?hv ?_; (case N => k_asm); (case hp => k_mem); (case hd => assumption); (case lo => assumption); (case hv => assumption))
  | (refine' in_none (knd := intKind _ _) ?N ?hp ?hd ?lo (intKind_is _ _ _ _) ?hv ?_; (case N => k_asm); (case hp => k_mem); (case hd => assumption); (case lo => assumption); (case hv => assumption)))))
  k_with "leaving ref" => (((k_here; k_dflt (refine' leave_onS1 ?k0 ?k1 ?k2 ?k3 ?_; (case k2 => assumption); (case k0 => assumption); (case k1 => assumption); (case k3 => assumption)); intro h'ₖ R'ₖ U'ₖ; (try dsimp only at R'ₖ U'ₖ ⊢)); all_goals ((try revert U'ₖ); (try revert R'ₖ); (try revert h'ₖ); intros)))
  k_with "getMethod ref" => ((k_here; (with_reducible show wpAny _ _ (getMethod (Value.ref _) (Str.ofString "pop") _) _ _ _); k_dflt (refine' kob_method (knd := PySem.intKind _ _) PySem.F.slot_dict_pop PySem.F.type_dict_pop ?N ?hp ?hd ?_; (case N => k_asm); (case hp => k_mem); (case hd => assumption))))
  k_with "call builtin:dict.pop" => (((k_here; k_dflt (refine' kob_pop (knd := PySem.intKind _ _) (more := []) ?F ?N ?U ?d (intKind_is _ _ _ _) (.inl rfl) (by rfl) (PySem.F.args_dict_pop_2 _ _) ?l ?z ?_; (case F => k_asm); (case N => k_asm); (case U => k_updF); (case d => assumption); (case l => assumption); (case z => assumption)); intro h'ₖ o'ₖ F'ₖ N'ₖ hd'ₖ; (try dsimp only at N'ₖ); (try k_sweep)); all_goals ((try revert hd'ₖ); (try revert N'ₖ); (try revert F'ₖ); (try revert o'ₖ); (try revert h'ₖ); intros)))
  k_with "setItem ref int bool" => (((k_here; k_dflt (refine' kda_set (knd := intKind _ _) ?F ?N ?U ?d (intKind_is _ _ _ _) ?z ?_; (case F => k_asm); (case N => k_asm); (case U => k_updF); (case d => assumption); (case z => assumption)); intro h'ₖ o'ₖ F'ₖ N'ₖ hd'ₖ; (try dsimp only at N'ₖ); (try k_sweep)); all_goals ((try revert hd'ₖ); (try revert N'ₖ); (try revert F'ₖ); (try revert o'ₖ); (try revert h'ₖ); intros)))
  k_with "setItem ref int" => (((k_here; k_dflt (refine' kda_set (knd := intKind _ _) ?F ?N ?U ?d (intKind_is _ _ _ _) ?z ?_; (case F => k_asm); (case N => k_asm); (case U => k_updF); (case d => assumption); (case z => assumption)); intro h'ₖ o'ₖ F'ₖ N'ₖ hd'ₖ; (try dsimp only at N'ₖ); (try k_sweep)); all_goals ((try revert hd'ₖ); (try revert N'ₖ); (try revert F'ₖ); (try revert o'ₖ); (try revert h'ₖ); intros)))
  k_with "call ref cons nil" => ((k_here; (with_reducible show wpAny _ _ (call (Value.ref 204) _) _ _ _); refine Stop.here ?_))
  k_with "call ref" => ((k_here; (with_reducible show wpAny _ _ (call (Value.ref 204) _) _ _ _); refine Stop.here ?_))
  trivial
theorem take0_spec : ∀ {w : World} {mean : ExcName → Option Value} {mg mb : Str → Option Value} {dp un : Nat} {gd : Option (List Code)} {cn : Str} {cs : Scope} {a : Addr} {ccd : Value} {cl : List (Str × Addr)} {outer : List Env} {A₀ : Around} {base h₀ : Heap} {L : Addr} {m : Str → Option Value} {pd td : Addr} {pdo to : Obj} {rest : List (Addr × Obj)} {s : Shared}
    {Q E : Value → Shared → Prop} (B : Below A₀ base outer h₀) (F : Fr h₀ L s.heap m) (X : (hd.heap_1 w.params).In h₀) (N : News h₀ L s.heap ((pd, pdo) :: (td, to) :: rest)) (T : Top topProg LS mean mg mb h₀) (hk : cs.kind = .function) (hdp : dp < 870) (hu : un < 7800)
    {pa : Addr} {pt : Nat → Tok} {pf pl fo : Int} {kvs : List (Int × Value)} {tk0 : Tok} (hpd : pdo = portD w pt pf pl fo td) (p1 : (pa, instObj 221 pd) ∈ rest) (lo : (td == sysModules) = false) (p4 : to.IsDictOf (intKind PySem.Challenge.rw_on0339_01.row.prog w) kvs) (hsz : kvs.length ≤ sizeLine) (hpt : pd ≠ td) (hr : ∀ p ∈ rest, p.1 ≠ pd) (ht : ∀ p ∈ rest, p.1 ≠ td) (b1 : 1 ≤ pf) (b2 : pf ≤ fo) (b3 : fo ≤ pl) (b4 : pl ≤ 100) 
    (rai : (∀ i : Nat, (i : Int) < pl - pf + 1 → valueAt kvs (nthP pf pl fo i) ≠ none) → ∀ e h' g₂ tk', RaisedSN base g₂ (envX cn cs L a ccd cl :: outer) e (.ref 56) ((pd, pdo) :: (td, to) :: rest) h' → Fr h₀ L g₂ m → g₂.UpToSlots h' → E (.ref e) { s with heap := h', toks := tk' })
    (ret : ∀ i : Nat, (i : Int) < pl - pf + 1 → valueAt kvs (nthP pf pl fo i) = none → (∀ j : Nat, j < i → valueAt kvs (nthP pf pl fo j) ≠ none) → ∀ t9 pt' to' h' tk', Fr h₀ L h' m → News h₀ L h' ((pd, portD w pt' pf pl (nthP pf pl fo (i + 1)) td) :: (td, to') :: rest) → to'.IsDictOf (intKind PySem.Challenge.rw_on0339_01.row.prog w) (kvs ++ [(nthP pf pl fo i, .bool true)]) → Q (.int (nthP pf pl fo i) t9) { s with heap := h', toks := tk' }),
    wpAny (model PySem.Challenge.rw_on0339_01.row.prog w) (ktrTop dp un gd cn cs L a ccd cl outer) (call (.ref 197) [.ref pa, .int 0 tk0]) Q E s := by
  k_fill
  intro w mean mg mb dp un gd cn cs a ccd cl outer A₀ base h₀ L m pd td pdo to rest s Q E B F X N T hk hdp hu pa pt pf pl fo kvs tk0 hpd p1 lo p4 hsz hpt hr ht b1 b2 b3 b4 rai ret
  subst hpd
  have hrt : ∀ p ∈ (td, to) :: rest, p.1 ≠ pd := ne_cons (fun e => hpt e.symm) hr
  refine wpAny_call ?_
  k_dflt (refine' code_def (binds := [(Str.ofString "self", .ref pa), (Str.ofString "number", .int 0 tk0)]) ?k1 ?k2 ?k3 ?k4 ?k5 ?kA ?kF ?kK ?k6 ?k7 ?k8 ?k9 ?kB ?_ ?c2 ?c3 ?c4 ?c5; (case kA => exact rfl); (case kF => exact rfl); (case kK => assumption); (case k1 => k_asm); (case k2 => k_asm); (case k3 => k_asm); (case k4 => k_asm); (case k5 => k_asm); (case k6 => k_is); (case k7 => k_is); (case k8 => ktr_room); (case k9 => first | exact BindsTo.of_eq rfl | exact binds_K (by k_in) rfl (by k_is) rfl rfl rfl); (case c5 => decide); (case kB => exact locs rfl); (case c2 => exact rfl); (case c3 => exact rfl); (case c4 => exact rfl))
  intro g1 L1 h1 FG1 F1 N1 B1 X1 T1
  change Fr g1 L1 h1 (fun y => List.lookup y [(Str.ofString "number", .int 0 tk0), (Str.ofString "self", .ref pa)]) at F1
  dsimp only
  k_fold
  k_steps
  refine Stop.go ?_
  k_dflt (refine' next_spec (to := to) (kvs := kvs) (pt := pt) (fo := fo) (td := td) ?u_B ?u_F ?u_X ?u_N ?u_T ?u_hk ?u_hdp ?u_hu rfl ?p1 ?p3 ?lo ?p4 ?hr b1 b2 b3 b4 ?_ ?_; (case u_B => k_asm); (case u_F => k_asm); (case u_X => k_asm); (case u_N => k_asm); (case u_T => k_asm); (case u_hk => first | exact rfl | assumption); (case u_hdp => ktr_room); (case u_hu => ktr_units); (case p1 => exact List.mem_cons_of_mem _ p1); (case p3 => exact List.mem_cons_self); (case lo => exact lo); (case p4 => exact p4); (case hr => exact hrt))
  · intro hall e5 h5 g5 tk5 R5 F5 U5
    k_steps
    exact rai hall _ _ _ _ (by assumption) (by assumption) (by assumption)
  · intro i hi hn hno t9 pt' h7 tk7 F7 N7
    have q1 : @Ne Nat pd td := hpt
    k_steps
    rename Obj.IsDictOf _ _ (stored _ _ _) => hd9
    rw [stored_none hn] at hd9
    exact ret i hi hn hno _ _ _ _ _ (by assumption) (by assumption) hd9
theorem free_spec : ∀ {w : World} {mean : ExcName → Option Value} {mg mb : Str → Option Value} {dp un : Nat} {gd : Option (List Code)} {cn : Str} {cs : Scope} {a : Addr} {ccd : Value} {cl : List (Str × Addr)} {outer : List Env} {A₀ : Around} {base h₀ : Heap} {L : Addr} {m : Str → Option Value} {pd td : Addr} {pdo to : Obj} {rest : List (Addr × Obj)} {s : Shared}
    {Q E : Value → Shared → Prop} (B : Below A₀ base outer h₀) (F : Fr h₀ L s.heap m) (X : (hd.heap_1 w.params).In h₀) (N : News h₀ L s.heap ((pd, pdo) :: (td, to) :: rest)) (T : Top topProg LS mean mg mb h₀) (hk : cs.kind = .function) (hdp : dp < 870) (hu : un < 7800)
    {pa : Addr} {pt : Nat → Tok} {pf pl fo : Int} {kvs : List (Int × Value)} {k : Int} {tk0 : Tok} (hpd : pdo = portD w pt pf pl fo td) (p1 : (pa, instObj 221 pd) ∈ rest) (lo : (td == sysModules) = false) (p4 : to.IsDictOf (intKind PySem.Challenge.rw_on0339_01.row.prog w) kvs) (hsz : kvs.length ≤ sizeLine) (hpt : pd ≠ td) (hr : ∀ p ∈ rest, p.1 ≠ pd) (ht : ∀ p ∈ rest, p.1 ≠ td) (hk1 : 0 ≤ k) (hk2 : k ≤ 100)
    (rai : valueAt kvs k = none → ∀ e h' g₂ tk', RaisedSN base g₂ (envX cn cs L a ccd cl :: outer) e (.ref 56) ((pd, pdo) :: (td, to) :: rest) h' → Fr h₀ L g₂ m → g₂.UpToSlots h' → E (.ref e) { s with heap := h', toks := tk' })
    (ret : valueAt kvs k ≠ none → ∀ to' h' tk', Fr h₀ L h' m → News h₀ L h' ((pd, pdo) :: (td, to') :: rest) → to'.IsDictOf (intKind PySem.Challenge.rw_on0339_01.row.prog w) (without kvs k) → Q .none { s with heap := h', toks := tk' }),
    wpAny (model PySem.Challenge.rw_on0339_01.row.prog w) (ktrTop dp un gd cn cs L a ccd cl outer) (call (.ref 218) [.ref pa, .int k tk0]) Q E s := by
  k_fill
  intro w mean mg mb dp un gd cn cs a ccd cl outer A₀ base h₀ L m pd td pdo to rest s Q E B F X N T hk hdp hu pa pt pf pl fo kvs k tk0 hpd p1 lo p4 hsz hpt hr ht hk1 hk2 rai ret
  subst hpd
  refine wpAny_call ?_
  k_dflt (refine' code_def (binds := [(Str.ofString "self", .ref pa), (Str.ofString "number", .int k tk0)]) ?k1 ?k2 ?k3 ?k4 ?k5 ?kA ?kF ?kK ?k6 ?k7 ?k8 ?k9 ?kB ?_ ?c2 ?c3 ?c4 ?c5; (case kA => exact rfl); (case kF => exact rfl); (case kK => assumption); (case k1 => k_asm); (case k2 => k_asm); (case k3 => k_asm); (case k4 => k_asm); (case k5 => k_asm); (case k6 => k_is); (case k7 => k_is); (case k8 => ktr_room); (case k9 => exact BindsTo.of_eq rfl); (case c5 => decide); (case kB => exact locs rfl); (case c2 => exact rfl); (case c3 => exact rfl); (case c4 => exact rfl))
  intro g1 L1 h1 FG1 F1 N1 B1 X1 T1
  change Fr g1 L1 h1 (fun y => List.lookup y [(Str.ofString "number", .int k tk0), (Str.ofString "self", .ref pa)]) at F1
  dsimp only
  k_fold
  have q1 : @Ne Nat pd td := hpt
  cases hva : valueAt kvs k with
  | none =>
    k_steps
    exact rai hva _ _ _ _ (by assumption) (by assumption) (by assumption)
  | some v =>
    k_steps
    exact ret (by simp [hva]) _ _ _ (by k_asm) (by k_asm) (by assumption)
end
section
open PySem PySem.W PySem.Calls PyProof.Rows PyProof.V PySem.Spec
theorem kclrC33 : True := by
  w_top off
  k_with_none
  trivial
theorem kset_C33_1 : True := by
  k_with "k_mem" => (first | assumption | exact List.mem_cons_self | (refine List.mem_cons_of_mem _ ?_; k_mem) | (refine List.mem_append_right _ ?_; k_mem))
  k_with "k_all" => (first | assumption | exact allLt_ne (by assumption) | exact allLt_ne1 (by assumption) | exact allLt_ne2 (by assumption) | exact allLt_ne3 (by assumption) | exact allLt_ne4 (by assumption) | exact allLt_ne5 (by assumption) | exact allLt_ne6 (by assumption))
  k_with "testChain int cons cons" => ((first | (with_reducible refine test_link ?_) | (refine test_link ?_) | (refine test_last ?_)))
  k_with "call ref" => (((k_here; (with_reducible show wpAny _ _ (call (Value.ref 221) _) _ _ _); k_dflt (refine' call_cls ?k1 ?k2 ?k3 ?k4 ?k5 ?k6 ?_; (case k1 => k_asm); (case k2 => k_asm); (case k3 => k_asm); (case k4 => k_is); (case k5 => k_is); (case k6 => k_is); k_whole; intro x'ₖ d'ₖ h'ₖ F'ₖ N'ₖ l1ₖ l2ₖ; (try k_lt l1ₖ); (try k_lt2 l2ₖ); (try k_sweep); refine' code_def ?k1 ?k2 ?k3 ?k4 ?k5 ?kA ?kF ?kK ?k6 ?k7 ?k8 ?k9 ?kB ?_ ?c2 ?c3 ?c4 ?c5; (case kA => exact rfl); (case kF => exact rfl); (case kK => first | exact rfl | assumption); (case k1 => k_asm); (case k2 => k_asm); (case k3 => k_asm); (case k4 => k_asm); (case k5 => k_asm); (case k6 => k_is); (case k7 => k_is); (case k8 => ktr_room); (case k9 => first | exact BindsTo.of_eq rfl | exact binds_K (by k_in) rfl (by k_is) rfl rfl rfl); (case c5 => decide); (case kB => exact locs rfl); (case c2 => exact rfl); (case c3 => exact rfl); (case c4 => exact rfl); k_whole; intro g'ₖ L'ₖ h'ₖ FG'ₖ F'ₖ N'ₖ B'ₖ X'ₖ T'ₖ; (try dsimp only); (try k_fold))); all_goals ((try revert T'ₖ); (try revert X'ₖ); (try revert B'ₖ); (try revert FG'ₖ); (try revert L'ₖ); (try revert g'ₖ); (try revert l2ₖ); (try revert l1ₖ); (try revert N'ₖ); (try revert F'ₖ); (try revert h'ₖ); (try revert d'ₖ); (try revert x'ₖ); intros)))
  k_with "call ref" => (((k_here; (with_reducible show wpAny _ _ (call (Value.ref 164) _) _ _ _); k_dflt (refine' call_cls ?k1 ?k2 ?k3 ?k4 ?k5 ?k6 ?_; (case k1 => k_asm); (case k2 => k_asm); (case k3 => k_asm); (case k4 => k_is); (case k5 => k_is); (case k6 => k_is); k_whole; intro x'ₖ d'ₖ h'ₖ F'ₖ N'ₖ l1ₖ l2ₖ; (try k_lt l1ₖ); (try k_lt2 l2ₖ); (try k_sweep); refine' code_def ?k1 ?k2 ?k3 ?k4 ?k5 ?kA ?kF ?kK ?k6 ?k7 ?k8 ?k9 ?kB ?_ ?c2 ?c3 ?c4 ?c5; (case kA => exact rfl); (case kF => exact rfl); (case kK => first | exact rfl | assumption); (case k1 => k_asm); (case k2 => k_asm); (case k3 => k_asm); (case k4 => k_asm); (case k5 => k_asm); (case k6 => k_is); (case k7 => k_is); (case k8 => ktr_room); (case k9 => first | exact BindsTo.of_eq rfl | exact binds_K (by k_in) rfl (by k_is) rfl rfl rfl); (case c5 => decide); (case kB => exact locs rfl); (case c2 => exact rfl); (case c3 => exact rfl); (case c4 => exact rfl); k_whole; intro g'ₖ L'ₖ h'ₖ FG'ₖ F'ₖ N'ₖ B'ₖ X'ₖ T'ₖ; (try dsimp only); (try k_fold))); all_goals ((try revert T'ₖ); (try revert X'ₖ); (try revert B'ₖ); (try revert FG'ₖ); (try revert L'ₖ); (try revert g'ₖ); (try revert l2ₖ); (try revert l1ₖ); (try revert N'ₖ); (try revert F'ₖ); (try revert h'ₖ); (try revert d'ₖ); (try revert x'ₖ); intros)))
  trivial
def pt8 (a b c d e f g : Tok) : Nat → Tok | 0 => a | 1 => b | 2 => c | 3 => d | 4 => e | 5 => f | _ => g
theorem ports_new : ∀ {w : World} {mean : ExcName → Option Value} {mg mb : Str → Option Value} {dp un : Nat} {gd : Option (List Code)} {cn : Str} {cs : Scope} {a : Addr} {ccd : Value} {cl : List (Str × Addr)} {outer : List Env} {A₀ : Around} {base h₀ : Heap} {L : Addr} {m : Str → Option Value} {news : List (Addr × Obj)} {s : Shared}
    {Q E : Value → Shared → Prop} (B : Below A₀ base outer h₀) (F : Fr h₀ L s.heap m) (X : (hd.heap_1 w.params).In h₀) (N : News h₀ L s.heap news) (T : Top topProg LS mean mg mb h₀) (hk : cs.kind = .function) (hdp : dp < 880) (hu : un < 7900)
    {pf pl : Int} {tf tl : Tok} (b1 : 1 ≤ pf) (b2 : pf ≤ pl) (b3 : pl ≤ 100)
    (ret : ∀ pa pd td pt to h' tk', Fr h₀ L h' m → News h₀ L h' ((td, to) :: (pa, instObj 221 pd) :: (pd, portD w pt pf pl pf td) :: news) → (∀ p ∈ news, @LT.lt Nat _ p.1 pd) → @LT.lt Nat _ pd pa → @LT.lt Nat _ pa td → (td == sysModules) = false → to.IsDictOf (intKind PySem.Challenge.rw_on0339_01.row.prog w) [] → Q (.ref pa) { s with heap := h', toks := tk' }),
    wpAny (model PySem.Challenge.rw_on0339_01.row.prog w) (ktrTop dp un gd cn cs L a ccd cl outer) (call (.ref 221) [.int pf tf, .int pl tl]) Q E s := by
  k_fill
  intro w mean mg mb dp un gd cn cs a ccd cl outer A₀ base h₀ L m news s Q E B F X N T hk hdp hu pf pl tf tl b1 b2 b3 ret
  k_steps
  rename_i kF kN kT kX
  exact ret _ _ _ (pt8 _ _ _ _ _ _ _) _ _ _ kF kN (by assumption) (by assumption) (And.left (by assumption)) (by assumption) (by assumption)
theorem table_new : ∀ {w : World} {mean : ExcName → Option Value} {mg mb : Str → Option Value} {dp un : Nat} {gd : Option (List Code)} {cn : Str} {cs : Scope} {a : Addr} {ccd : Value} {cl : List (Str × Addr)} {outer : List Env} {A₀ : Around} {base h₀ : Heap} {L : Addr} {m : Str → Option Value} {news : List (Addr × Obj)} {s : Shared}
    {Q E : Value → Shared → Prop} (B : Below A₀ base outer h₀) (F : Fr h₀ L s.heap m) (X : (hd.heap_1 w.params).In h₀) (N : News h₀ L s.heap news) (T : Top topProg LS mean mg mb h₀) (hk : cs.kind = .function) (hdp : dp < 880) (hu : un < 7900)
    
    (ret : ∀ tb td rd tt ro h' tk', Fr h₀ L h' m → News h₀ L h' ((rd, ro) :: (tb, instObj 164 td) :: (td, dictOf [⟨PyData.keyHash w.params (Str.ofString "rows"), .str (Str.ofString "rows") tt, .ref rd⟩] 1) :: news) → (∀ p ∈ news, @LT.lt Nat _ p.1 td) → @LT.lt Nat _ td tb → @LT.lt Nat _ tb rd → (rd == sysModules) = false → ro.IsDictOf (intKind PySem.Challenge.rw_on0339_01.row.prog w) [] → Q (.ref tb) { s with heap := h', toks := tk' }),
    wpAny (model PySem.Challenge.rw_on0339_01.row.prog w) (ktrTop dp un gd cn cs L a ccd cl outer) (call (.ref 164) []) Q E s := by
  k_fill
  intro w mean mg mb dp un gd cn cs a ccd cl outer A₀ base h₀ L m news s Q E B F X N T hk hdp hu ret
  k_steps
  rename_i kF kN kT kX
  exact ret _ _ _ _ _ _ _ kF kN (by assumption) (by assumption) (And.left (by assumption)) (by assumption) (by assumption)
end
section
open PySem PySem.W PySem.Calls PyProof.Rows PyProof.V PySem.Spec
theorem kclrD15 : True := by
  w_top off
  k_with_none
  trivial
theorem below_turn {A : Around} {base g g' : Heap} {outer : List Env} (B : Below A base outer g) (T : KtsTurn (outer.filterMap (·.frame)) g g') : Below A base outer g' :=
  ⟨B.stack, fun b o e => T.other b o (B.stays b o e) (fun hm => by rw [(B.frames.mem hm).1] at e; cases e), B.frames.of_keeps fun b o e _ => by
    obtain ⟨sl, hs⟩ := T.up e
    exact ⟨_, hs, rfl⟩⟩
/-- one turn's end, over a turned ground -/
def TurnT (fs : List Addr) (g₁ : Heap) (L : Addr) (J : (Str → Option Value) → List (Addr × Obj) → Prop) (own : List (Addr × Obj)) (s₁ s₂ : Shared) : Prop :=
  ∃ g' h' tk m' nx, s₂ = { s₁ with heap := h', toks := tk } ∧ KtsTurn fs g₁ g' ∧ Fr g' L h' m' ∧ News g' L h' (nx ++ own) ∧ TbOff own nx ∧ J m' nx
def PostT (fs : List Addr) (g₁ : Heap) (L : Addr) (J : (Str → Option Value) → List (Addr × Obj) → Prop) (own : List (Addr × Obj)) (s₁ : Shared) (Q : Flow → Shared → Prop) (f : Flow) (s₂ : Shared) : Prop :=
  match f with
  | .ret v => Q (.ret v) s₂
  | .brk => Q .next s₂
  | _ => TurnT fs g₁ L J own s₁ s₂
section
variable {prog : Program} {w : World} {A A₀ : Around} {E : Value → Shared → Prop} {s : Shared} {env : Env} {base g₁ : Heap} {x : Str} {body : List Stmt} {Q : Flow → Shared → Prop} {fs : List Addr}
/-- the ground with the frames taken out: the loop's ground -/
theorem hid_fr {L : Addr} {h : Heap} {m : Str → Option Value} {g : Heap} (T : KtsTurn fs g₁ g) (F : Fr g L h m) : Fr (hideAll g₁ fs) L h m := by
  refine ⟨F.ns, fun b o e => F.keep b o (T.other b o (of_hideAll _ e) ?_), ?_⟩
  · intro hb
    rw [hideAll_none _ hb] at e
    cases e
  · rw [hideAll_size, ← T.size]
    exact F.above
theorem hid_none {b : Addr} {g : Heap} (T : KtsTurn fs g₁ g) (h : g.get? b = none) : (hideAll g₁ fs).get? b = none := by
  cases q : (hideAll g₁ fs).get? b with
  | none => rfl
  | some o =>
    obtain ⟨sl, hs⟩ := T.up (of_hideAll _ q)
    rw [h] at hs; cases hs
/-- the hidden frames as a ledger -/
theorem frames_ledger {L : Addr} {h : Heap} {m : Str → Option Value} {g : Heap} (hfs : ∀ b ∈ fs, ∃ o, g₁.get? b = some o) (hL : g₁.get? L = none) (T : KtsTurn fs g₁ g) (F : Fr g L h m) :
    ∀ l : List Addr, (∀ b ∈ l, b ∈ fs) → ∃ fo : List (Addr × Obj), fo.map (·.1) = l ∧ (∀ p ∈ fo, ∃ o sl, g₁.get? p.1 = some o ∧ p.2 = { o with slots := sl }) ∧ News (hideAll g₁ fs) L h fo
  | [], _ => ⟨[], rfl, by simp, News.nil⟩
  | b :: l, hl => by
    obtain ⟨fo, e, k, N⟩ := frames_ledger hfs hL T F l (fun c hc => hl c (List.mem_cons_of_mem _ hc))
    obtain ⟨o, ho⟩ := hfs b (hl b List.mem_cons_self)
    obtain ⟨sl, hs⟩ := T.up ho
    refine ⟨(b, { o with slots := sl }) :: fo, by simp [e], fun p hp => ?_, fun p hp => ?_⟩
    · rcases List.mem_cons.mp hp with rfl | hp
      · exact ⟨o, sl, ho, rfl⟩
      · exact k p hp
    · rcases List.mem_cons.mp hp with rfl | hp
      · refine ⟨F.keep _ _ hs, fun e => ?_, hideAll_none _ (hl _ List.mem_cons_self)⟩
        rw [show b = L from e, hL] at ho; cases ho
      · exact N p hp
def HidJ (fs : List Addr) (g₁ : Heap) (J : (Str → Option Value) → List (Addr × Obj) → Prop) (m : Str → Option Value) (l : List (Addr × Obj)) : Prop :=
  ∃ fo nx, l = fo ++ nx ∧ fo.map (·.1) = fs ∧ (∀ p ∈ fo, ∃ o sl, g₁.get? p.1 = some o ∧ p.2 = { o with slots := sl }) ∧ (∀ p ∈ nx, p.1 ∉ fs) ∧ J m nx
theorem hid_back {L : Addr} {h : Heap} {m : Str → Option Value} {fo nx : List (Addr × Obj)} (hL : g₁.get? L = none) (e : fo.map (·.1) = fs) (k : ∀ p ∈ fo, ∃ o sl, g₁.get? p.1 = some o ∧ p.2 = { o with slots := sl }) (hn : ∀ p ∈ nx, p.1 ∉ fs)
    (F : Fr (hideAll g₁ fs) L h m) (N : News (hideAll g₁ fs) L h (fo ++ nx)) : ∃ g, KtsTurn fs g₁ g ∧ Fr g L h m ∧ News g L h nx := by
  have ho : ∀ b o, g₁.get? b = some o → b ∈ fs → ∃ sl, h.get? b = some { o with slots := sl } := by
    intro b o q hb
    rw [← e] at hb
    obtain ⟨p, hp, rfl⟩ := List.mem_map.mp hb
    obtain ⟨o', sl, h1, h2⟩ := k p hp
    rw [q] at h1
    cases h1
    exact ⟨sl, by rw [(N p (List.mem_append_left _ hp)).1, h2]⟩
  obtain ⟨T, S⟩ := kts_turn_at (h := h) (fs := fs) (g := g₁)
    (fun b hb => by
      rw [← e] at hb
      obtain ⟨p, hp, rfl⟩ := List.mem_map.mp hb
      obtain ⟨o', sl, h1, h2⟩ := k p hp
      exact ⟨o', h1⟩)
    (fun b o q nm => F.keep b o (hideAll_get _ q nm)) ho
  refine ⟨_, T, ⟨F.ns, S, by rw [T.size, ← hideAll_size fs g₁]; exact F.above⟩, fun p hp => ⟨(N p (List.mem_append_right _ hp)).1, (N p (List.mem_append_right _ hp)).2.1, T.none_ _ ?_⟩⟩
  cases q : g₁.get? p.1 with
  | none => rfl
  | some o =>
    have := (N p (List.mem_append_right _ hp)).2.2
    rw [hideAll_get _ q (hn p hp)] at this
    cases this
theorem iter_rangeT {r : Addr} {a₀ b₀ : Int} {t₀ u₀ v₀ : Tok} {n : Nat} {m₀ : Str → Option Value} {news : List (Addr × Obj)} (J : Nat → (Str → Option Value) → List (Addr × Obj) → Prop)
    (hh : A.handled = none) (hr : IsRange s.heap r a₀ b₀ 1 t₀ u₀ v₀) (hsmall : Builtin.Range.small a₀ b₀ 1 = true) (hn : Builtin.Range.rangeSize a₀ b₀ 1 = (n : Int)) (hfs : ∀ b ∈ fs, ∃ o, g₁.get? b = some o) (F : Fr g₁ env.locals s.heap m₀) (N : News g₁ env.locals s.heap news) (hj : J 0 m₀ news)
    (turn : ∀ (i : Nat) t m₁ nx g h tk own, i < n → KtsTurn fs g₁ g → TbOff own nx → J i m₁ nx → Fr g env.locals h (fun y => if y = x then some (.int (a₀ + (i : Int)) t) else m₁ y) → News g env.locals h (nx ++ own) →
      wpAny (model prog w) A (execs body env) (PostT fs g₁ env.locals (J (i + 1)) own { s with heap := h, toks := tk } Q) E { s with heap := h, toks := tk })
    (done : ∀ m₁ nx g h tk, KtsTurn fs g₁ g → J n m₁ nx → Fr g env.locals h m₁ → News g env.locals h nx → Q .next { s with heap := h, toks := tk }) :
    wpAny (model prog w) A (pyIter (.ref r)) (fun it s₂ => LoopAtV prog w A (hideAll g₁ fs) env x body Q E it s₂) E s := by
  have hL : g₁.get? env.locals = none := kts_self F
  have nof : ∀ {g : Heap} {h : Heap} {nx : List (Addr × Obj)}, KtsTurn fs g₁ g → News g env.locals h nx → ∀ p ∈ nx, p.1 ∉ fs := by
    intro g h nx T N p hp hb
    obtain ⟨o, ho⟩ := hfs _ hb
    obtain ⟨sl, hs⟩ := T.up ho
    rw [(N p hp).2.2] at hs
    cases hs
  obtain ⟨fo, e0, k0, N0⟩ := frames_ledger hfs hL KtsTurn.refl F fs (fun _ h => h)
  refine tbr_invG (fun i m l => HidJ fs g₁ (J i) m l) hh hr hsmall hn (hid_fr KtsTurn.refl F) (news := fo ++ news) (fun p hp => (List.mem_append.mp hp).elim (N0 p) (fun hp => ⟨(N p hp).1, (N p hp).2.1, hid_none KtsTurn.refl (N p hp).2.2⟩)) ⟨fo, news, rfl, e0, k0, nof KtsTurn.refl N, hj⟩ ?_ ?_
  · rintro i k t m₁ l h tk own hk hoff ⟨fo, nx, rfl, e, kf, hnf, hJ⟩ F₁ N₁
    have hin : i < n := by
      have := (List.getElem?_eq_some_iff.mp hk).1
      rwa [rangeKs_length] at this
    have hke : k = a₀ + (i : Int) := by
      have : (rangeKs a₀ n)[i]? = some (a₀ + (i : Int)) := by simp [rangeKs, hin]
      rw [this] at hk
      exact (Option.some.inj hk).symm
    subst hke
    rw [List.append_assoc] at N₁
    have hown : ∀ p ∈ own, p.1 ∉ fs := by
      intro p hp hb
      rw [← e] at hb
      obtain ⟨q, hq, hqe⟩ := List.mem_map.mp hb
      exact hoff p hp q (List.mem_append_left _ hq) hqe.symm
    obtain ⟨g, T, F₂, N₂⟩ := hid_back hL e kf (fun p hp => (List.mem_append.mp hp).elim (hnf p) (hown p)) F₁ N₁
    refine wpAny_mono (turn i t m₁ nx g h tk own hin T (fun p hp q hq => hoff p hp q (List.mem_append_right _ hq)) hJ F₂ N₂) (fun f s₂ p => ?_) fun _ _ e => e
    have fin : TurnT fs g₁ env.locals (J (i + 1)) own { s with heap := h, toks := tk } s₂ → TbEnd (hideAll g₁ fs) env.locals (HidJ fs g₁ (J (i + 1))) own { s with heap := h, toks := tk } s₂ := by
      rintro ⟨g', h', tk', m', nx', rfl, T', F', N', hoff', hJ'⟩
      obtain ⟨fo', e', k', N0'⟩ := frames_ledger hfs hL T' F' fs (fun _ h => h)
      refine ⟨h', tk', m', fo' ++ (nx' ++ own), fo' ++ nx', rfl, hid_fr T' F', ?_, ?_, ?_, ?_, fo', nx', rfl, e', k', nof T' (fun p hp => N' p (List.mem_append_left _ hp)), hJ'⟩
      · intro p hp
        rcases List.mem_append.mp hp with hp | hp
        · exact N0' p hp
        · exact ⟨(N' p hp).1, (N' p hp).2.1, hid_none T' (N' p hp).2.2⟩
      · intro p hp
        rcases List.mem_append.mp hp with hp | hp
        · exact List.mem_append_left _ hp
        · exact List.mem_append_right _ (List.mem_append_left _ hp)
      · intro p hp
        exact List.mem_append_right _ (List.mem_append_right _ hp)
      · intro p hp q hq he
        rcases List.mem_append.mp hq with hq | hq
        · refine hown p hp ?_
          rw [he, ← e']
          exact List.mem_map_of_mem hq
        · exact hoff' p hp q hq he
    cases f with
    | ret v => exact p
    | brk => exact p
    | next => exact fin p
    | cont => exact fin p
  · rintro m₁ l h tk ⟨fo, nx, rfl, e, kf, hnf, hJ⟩ F₁ N₁
    obtain ⟨g, T, F₂, N₂⟩ := hid_back hL e kf hnf F₁ N₁
    exact done m₁ nx g h tk T hJ F₂ N₂
/-- at the law's level no frame lies outside -/
theorem turn_fr {g g' h : Heap} {L : Addr} {m : Str → Option Value} (T : KtsTurn [] g g') (F : Fr g' L h m) : Fr g L h m := ⟨F.ns, fun b o e => F.keep b o (T.other b o e (fun q => nomatch q)), by rw [← T.size]; exact F.above⟩
theorem turn_news {g g' h : Heap} {L : Addr} {l : List (Addr × Obj)} (T : KtsTurn [] g g') (N : News g' L h l) : News g L h l := fun p hp => ⟨(N p hp).1, (N p hp).2.1, by
  cases q : g.get? p.1 with
  | none => rfl
  | some o =>
    have := (N p hp).2.2
    rw [T.other _ _ q (fun q => nomatch q)] at this
    cases this⟩
end
end
section
open PySem PySem.W PySem.Calls PyProof.Rows PyProof.V PySem.Spec
theorem kclrD16 : True := by
  w_top off
  k_with_none
  trivial
section
variable {prog : Program} {w : World} {A : Around} {E : Value → Shared → Prop} {s : Shared} {h₀ : Heap} {L D d : Addr} {m : Str → Option Value} {news : List (Addr × Obj)} {Q : Value → Shared → Prop}
theorem sort_ledger {vs : List Value} {ns : List Int} {n : Nat} (F : Fr h₀ L s.heap m) (N : News h₀ L s.heap ((D, listOf vs.toArray n) :: news)) (hD : ∀ p ∈ news, p.1 ≠ D) (hI : IntsAre vs ns) (h64 : vs.length < 64)
    (h : ∀ vs' ns' c h', Fr h₀ L h' m → News h₀ L h' ((D, listOf vs'.toArray c) :: news) → IntsAre vs' ns' → ns'.Perm ns → ns'.Pairwise (· ≤ ·) → Q .none { s with heap := h' }) :
    wpAny (model prog w) A (call (.builtin "list.sort") [.ref D]) Q E s := by
  have z := N (D, listOf vs.toArray n) List.mem_cons_self
  have ho : s.heap.get? D = some (seqObj "list" vs.toArray n) := z.1
  refine wpAny_call_entry PyProof.Rows.slot_list_sort ⟨_, z.1, rfl⟩ PyProof.Rows.entry_list_sort (list_sort_tree (n := n) (vs := vs) ho hI h64 fun out ns' hI' hp hP => ⟨.none, rfl, ?_⟩) (PyProof.Rows.args_list_sort _)
  have F1 : Fr h₀ L (s.heap.update D (Obj.mapSeq fun _ => (#[] : Array Value))) m := F.change (Heap.SameBut.update ..) z.2.1 z.2.2
  have N1 := ki_turn (fun _ => (#[] : Array Value)) (its' := #[]) (n' := if (#[] : Array Value).size == vs.toArray.size then n else n + 1) (pre := []) N (fun p hp => nomatch hp) hD rfl rfl
  have N2 := News.grown N1 fun _ _ e => Heap.get?_push_of_some (seqObj "tuple" vs.toArray 0) e
  have N3 := News.grown N2 fun _ _ e => Heap.get?_push_of_some (seqObj "list" #[] 0) e
  have N4 := ki_turn (fun _ => out) (its' := out) (n' := if out.size == (#[] : Array Value).size then _ else _ + 1) (pre := []) N3 (fun p hp => nomatch hp) hD rfl rfl
  have F4 : Fr h₀ L ((((s.heap.update D (Obj.mapSeq fun _ => (#[] : Array Value))).push (seqObj "tuple" vs.toArray 0)).push (seqObj "list" #[] 0)).update D (Obj.mapSeq fun _ => out)) m :=
    ((F1.push (seqObj "tuple" vs.toArray 0)).push (seqObj "list" #[] 0)).change (Heap.SameBut.update ..) z.2.1 z.2.2
  exact h out.toList ns' _ _ F4 N4 hI' hp hP
theorem ints_of_keys {kvs : List (Int × Value)} {vs : List Value} (hl : vs.length = kvs.length) (hv : ∀ (j : Nat) (v : Value), vs[j]? = some v → ∃ k x, kvs[j]? = some (k, x) ∧ (intKind prog w).is k v = true) : IntsAre vs (kvs.map (·.1)) := by
  induction kvs generalizing vs with
  | nil => cases vs with
    | nil => exact .nil
    | cons => simp at hl
  | cons kv kvs ih => cases vs with
    | nil => simp at hl
    | cons v vs =>
      obtain ⟨k, x, e, hk⟩ := hv 0 v rfl
      simp at e
      obtain ⟨t, rfl⟩ := Value.isInt_shape hk
      rw [e]
      exact .cons _ _ (ih (by simpa using hl) (fun j u hu => by simpa using hv (j + 1) u (by simpa using hu)))
theorem sorted_dictI {o : Obj} {kvs : List (Int × Value)} (F : Fr h₀ L s.heap m) (N : News h₀ L s.heap news) (hm : (d, o) ∈ news) (hd : o.IsDictOf (intKind prog w) kvs) (lo : (d == sysModules) = false) (hh : A.handled = none) (h64 : kvs.length < 64)
    (h : ∀ D vs' ns' c h' tk, Fr h₀ L h' m → News h₀ L h' ((D, listOf vs'.toArray c) :: news) → (∀ q ∈ news, q.1 < D) → IntsAre vs' ns' → ns'.Perm (kvs.map (·.1)) → ns'.Pairwise (· ≤ ·) → Q (.ref D) { s with heap := h', toks := tk }) :
    wpAny (model prog w) A (call (.builtin "sorted") [.ref d]) Q E s := by
  obtain ⟨ep, hat⟩ := Heap.DictOf.dictAt (h := s.heap) (knd := intKind prog w) (a := d) (kvs := kvs) (let ⟨es, ep, r⟩ := hd; ⟨o, es, ep, N.get hm, r⟩)
  refine kdu_sorted (kdl_dict (knd := intKind prog w) (kvs := kvs) (ep := ep) lo) hh F N hat (by rw [sizeLine_eq]; omega) fun D h' tk vs F' N' l1 hl hv => ?_
  refine sort_ledger F' N' (fun p hp => Nat.ne_of_lt (l1 p hp)) (ints_of_keys hl hv) (by omega) fun vs' ns' c h'' F'' N'' hI hp hP => ?_
  exact h D vs' ns' c h'' tk F'' N'' l1 hI hp hP
end
theorem pig : ∀ (l r : List Int), l.Nodup → (∀ x ∈ l, x ∈ r) → l.length ≤ r.length
  | [], _, _, _ => Nat.zero_le _
  | x :: l, r, hn, hs => by
    have hx := hs x List.mem_cons_self
    obtain ⟨h1, h2⟩ := List.nodup_cons.mp hn
    have ih := pig l (r.erase x) h2 (fun y hy => by
      have hne : y ≠ x := fun e => h1 (e ▸ hy)
      exact (List.mem_erase_of_ne hne).mpr (hs y (List.mem_cons_of_mem _ hy)))
    rw [List.length_erase_of_mem hx] at ih
    have := List.length_pos_of_mem hx
    simp
    omega
end
section
open PySem PySem.W PySem.Calls PyProof.Rows PyProof.V PySem.Spec
theorem kclrD17 : True := by
  w_top off
  k_with_none
  trivial
theorem kl_cut_at : ∀ (l : List Value) (k : Nat) (h : k < l.length), kl_cut l k = some (l.take k, l[k], l.drop (k + 1))
  | x :: r, 0, _ => rfl
  | x :: r, k + 1, h => by
    have ih := kl_cut_at r k (by simpa using h)
    unfold kl_cut
    rw [ih]
    simp
theorem UpdF.to {d : Addr} {o : Obj} (o' : Obj) : ∀ {l : List (Addr × Obj)} {g : Obj → List (Addr × Obj)}, UpdF d o l g → Upd d o o' l (g o')
  | _, _, .head h => .head h
  | _, _, .tail h r => .tail h (UpdF.to o' r)
theorem ints_get {vs : List Value} {ns : List Int} (h : IntsAre vs ns) : ∀ {i : Nat} {k : Int}, ns[i]? = some k → ∃ t, vs[i]? = some (.int k t) := by
  induction h with
  | nil => intro i k e; simp at e
  | cons a t _ ih =>
    intro i k e
    cases i with
    | zero => simp at e; subst e; exact ⟨t, by simp⟩
    | succ i => simpa using ih (by simpa using e)
theorem ints_cut {vs : List Value} {ns : List Int} (h : IntsAre vs ns) : ∀ i : Nat, IntsAre (vs.take i ++ vs.drop (i + 1)) (ns.eraseIdx i) := by
  induction h with
  | nil => intro i; simp; exact .nil
  | cons a t r ih =>
    intro i
    cases i with
    | zero => simpa using r
    | succ i => simpa using IntsAre.cons a t (ih i)
theorem ints_snoc {vs : List Value} {ns : List Int} {k : Int} {t : Tok} (h : IntsAre vs ns) : IntsAre (vs ++ [.int k t]) (ns ++ [k]) := by
  induction h with
  | nil => exact .cons k t .nil
  | cons a t' _ ih => exact .cons a t' ih
section
variable {prog : Program} {w : World} {A : Around} {E : Value → Shared → Prop} {s : Shared} {h₀ : Heap} {L D : Addr} {m : Str → Option Value} {news : List (Addr × Obj)} {g : Obj → List (Addr × Obj)} {Q : Value → Shared → Prop}
theorem pop_atI {vs : List Value} {hl : List Int} {n : Nat} {i : Int} {u : Tok} (F : Fr h₀ L s.heap m) (N : News h₀ L s.heap news) (U : UpdF D (listOf vs.toArray n) news g) (hi : IntsAre vs hl) (h0 : 0 ≤ i) (h1 : i < (hl.length : Int)) (hz : hl.length ≤ 100)
    (h : ∀ k t vs' c h', hl[i.toNat]? = some k → Fr h₀ L h' m → News h₀ L h' (g (listOf vs'.toArray c)) → IntsAre vs' (hl.eraseIdx i.toNat) → Q (.int k t) { s with heap := h' }) :
    wpAny (model prog w) A (call (.builtin "list.pop") [.ref D, .int i u]) Q E s := by
  have hlen := hi.length
  have hlt : i.toNat < hl.length := by omega
  obtain ⟨k, hk⟩ : ∃ k, hl[i.toNat]? = some k := ⟨_, List.getElem?_eq_getElem hlt⟩
  obtain ⟨t, ht⟩ := ints_get hi hk
  have hvl : i.toNat < vs.length := by omega
  have hv : vs[i.toNat] = .int k t := by
    rw [List.getElem?_eq_getElem hvl] at ht
    exact Option.some.inj ht
  refine kl_popAt (k := i.toNat) (p := vs.take i.toNat) (q := vs.drop (i.toNat + 1)) (y := .int k t) F N ?_ ?_ ?_ (UpdF.to _ U) ?_ (fun h' F' N' => h k t _ _ h' hk F' N' (ints_cut hi _))
  · unfold Builtin.List.listFitsIndex
    simp only [Bool.and_eq_true, decide_eq_true_eq]
    omega
  · simp only [seqIndex?, if_neg (show ¬ i < 0 by omega), List.size_toArray]
    exact if_pos (by simp only [Bool.and_eq_true, decide_eq_true_eq]; omega)
  · rw [← hv]
    have := kl_cut_at vs i.toNat hvl
    simpa using this
  · simp
    rw [sizeLine_eq]; omega
/-- two ordered lists of the same numbers -/
theorem ne_sorted {a b : Addr} {va vb : List Value} {na nb ka kb : List Int} {ca cb : Nat} (N : News h₀ L s.heap news) (ha : (a, listOf va.toArray ca) ∈ news) (hb : (b, listOf vb.toArray cb) ∈ news) (ia : IntsAre va na) (ib : IntsAre vb nb)
    (pa : na.Perm ka) (pb : nb.Perm kb) (e : ka = kb) (sa : na.Pairwise (· ≤ ·)) (sb : nb.Pairwise (· ≤ ·)) (hu : A.units + 64 < cLine) (h : Q (.bool false) s) :
    wpAny (model prog w) A (compareOp .NotEq (.ref a) (.ref b)) Q E s := by
  subst e
  have e := lks_uniq (pa.trans pb.symm) sa sb
  subst e
  refine ne_intsK ⟨_, N.get ha, rfl, _, rfl⟩ ia ⟨_, N.get hb, rfl, _, rfl⟩ ib hu ?_
  simpa using h
end
theorem keys_without {kvs : List (Int × Value)} {k : Int} : (without kvs k).map (·.1) = (kvs.map (·.1)).filter (fun x => decide (x ≠ k)) := by
  unfold PySem.without
  induction kvs with
  | nil => rfl
  | cons kv kvs ih =>
    by_cases e : kv.1 = k
    · simp [e] at ih ⊢; exact ih
    · simp [e] at ih ⊢; exact ih
theorem erase_filter {k : Int} : ∀ {l : List Int} {i : Nat}, l.Nodup → l[i]? = some k → l.eraseIdx i = l.filter (fun x => decide (x ≠ k))
  | [], _, _, h => by simp at h
  | x :: l, 0, hn, h => by
    simp at h
    subst h
    obtain ⟨h1, h2⟩ := List.nodup_cons.mp hn
    simp
    refine (List.filter_eq_self.mpr fun y hy => ?_).symm
    simp
    exact fun e => h1 (e ▸ hy)
  | x :: l, i + 1, hn, h => by
    obtain ⟨h1, h2⟩ := List.nodup_cons.mp hn
    have h' : l[i]? = some k := by simpa using h
    have hx : x ≠ k := fun e => h1 (e ▸ List.mem_of_getElem? h')
    have ih := erase_filter h2 h'
    simp [hx] at ih ⊢
    exact ih
theorem valueAt_none {kvs : List (Int × Value)} {k : Int} : valueAt kvs k = none ↔ k ∉ kvs.map (·.1) := by
  unfold valueAt
  induction kvs with
  | nil => simp
  | cons kv kvs ih =>
    by_cases e : kv.1 = k
    · simp [e]
    · simp [e, Ne.symm e] at ih ⊢; exact ih
theorem nthP_inj {f l fo : Int} {i j : Nat} (h1 : f ≤ fo) (h2 : fo ≤ l) (hi : (i : Int) < l - f + 1) (hj : (j : Int) < l - f + 1) (e : nthP f l fo i = nthP f l fo j) : i = j := by
  unfold nthP at e
  split at e <;> split at e <;> omega
theorem nthP_mod {f n fo : Int} {i : Nat} (h1 : f ≤ fo) (h2 : fo < f + n) (hi : (i : Int) < n) : f + (fo - f + (i : Int)) % n = nthP f (f + n - 1) fo i := by
  unfold nthP
  split
  · rw [Int.emod_eq_of_lt (by omega) (by omega)]; omega
  · have : fo - f + (i : Int) = (fo - f + (i : Int) - n) + n := by omega
    rw [this, Int.add_emod_right, Int.emod_eq_of_lt (by omega) (by omega)]; omega
theorem next_mod {f n fo : Int} {i : Nat} (h1 : f ≤ fo) (h2 : fo < f + n) (hi : (i : Int) < n) : f + (nthP f (f + n - 1) fo i - f + 1) % n = nthP f (f + n - 1) fo (i + 1) := by
  have hr := nthP_in (pf := f) (pl := f + n - 1) (fo := fo) (i := i) h1 (by omega) (by omega)
  have hs := nthP_succ (pf := f) (pl := f + n - 1) (fo := fo) (i := i) h1 (by omega) (by omega)
  rw [← hs]
  split
  · rename_i e
    rw [e, show f + n - 1 - f + 1 = n by omega, Int.emod_self]; omega
  · rename_i e
    rw [Int.emod_eq_of_lt (by omega) (by omega)]; omega
def rowP (f n fo : Int) (k : Nat) : List Int := (List.range k).map (nthP f (f + n - 1) fo)
theorem rowP_succ {f n fo : Int} {k : Nat} : rowP f n fo (k + 1) = rowP f n fo k ++ [nthP f (f + n - 1) fo k] := by
  unfold rowP; rw [List.range_succ]; simp
theorem rowP_get {f n fo : Int} {k i : Nat} {x : Int} (h : (rowP f n fo k)[i]? = some x) : i < k ∧ x = nthP f (f + n - 1) fo i := by
  unfold rowP at h
  rw [List.getElem?_map] at h
  obtain ⟨j, hj, e⟩ := Option.map_eq_some_iff.mp h
  have hlt : i < k := by
    by_cases q : i < k
    · exact q
    · rw [List.getElem?_eq_none (by simpa using q)] at hj; cases hj
  rw [List.getElem?_range hlt] at hj
  exact ⟨hlt, by rw [← e, ← Option.some.inj hj]⟩
theorem rowP_nodup {f n fo : Int} (h1 : f ≤ fo) (h2 : fo < f + n) : ∀ {k : Nat}, (k : Int) ≤ n → (rowP f n fo k).Nodup
  | 0, _ => by simp [rowP]
  | k + 1, hk => by
    rw [rowP_succ, List.nodup_append]
    refine ⟨rowP_nodup h1 h2 (by omega), by simp, ?_⟩
    intro x hx y hy
    simp at hy
    subst hy
    unfold rowP at hx
    obtain ⟨j, hj, rfl⟩ := List.mem_map.mp hx
    intro e
    have hj' : j < k := by simpa using hj
    have := nthP_inj (f := f) (l := f + n - 1) (fo := fo) h1 (by omega) (by omega) (by omega) e
    omega
/-- not all of the row is held, when fewer are -/
theorem row_free {f n fo : Int} {hl : List Int} (h1 : f ≤ fo) (h2 : fo < f + n) (hlt : (hl.length : Int) < n) (ha : ∀ j : Nat, (j : Int) < n → nthP f (f + n - 1) fo j ∈ hl) : False := by
  have := pig (rowP f n fo n.toNat) hl (rowP_nodup h1 h2 (by omega)) (fun x hx => by
    unfold rowP at hx
    obtain ⟨j, hj, rfl⟩ := List.mem_map.mp hx
    exact ha j (by have : j < n.toNat := by simpa using hj
                   omega))
  unfold rowP at this
  simp at this
  omega
/-- all of the row is held, when as many are -/
theorem row_full {f n fo : Int} {hl : List Int} (h1 : f ≤ fo) (h2 : fo < f + n) (hnd : hl.Nodup) (hin : ∀ x ∈ hl, f ≤ x ∧ x < f + n) (hlen : (hl.length : Int) = n) {i : Nat} (hi : (i : Int) < n) : nthP f (f + n - 1) fo i ∈ hl := by
  apply Classical.byContradiction
  intro hno
  have hr := nthP_in (pf := f) (pl := f + n - 1) (fo := fo) (i := i) h1 (by omega) (by omega)
  have := pig (nthP f (f + n - 1) fo i :: hl) ((List.range n.toNat).map fun (j : Nat) => f + (j : Int)) (List.nodup_cons.mpr ⟨hno, hnd⟩) (fun x hx => by
    have hx' : f ≤ x ∧ x < f + n := by
      rcases List.mem_cons.mp hx with e | hx
      · rw [e]; omega
      · exact hin x hx
    exact List.mem_map.mpr ⟨(x - f).toNat, by simp; omega, by omega⟩)
  simp at this
  omega
theorem held_le {f n : Int} {hl : List Int} (hn : 0 ≤ n) (hnd : hl.Nodup) (hin : ∀ x ∈ hl, f ≤ x ∧ x < f + n) : (hl.length : Int) ≤ n := by
  have := pig hl ((List.range n.toNat).map fun (j : Nat) => f + (j : Int)) hnd (fun x hx => by
    have hx' := hin x hx
    exact List.mem_map.mpr ⟨(x - f).toNat, by simp; omega, by omega⟩)
  simp at this
  omega
/-- the comprehension of what is free, as it grows -/
def DueJ (f n fo : Int) (hl : List Int) (i : Nat) (ys : List Value) : Prop :=
  (ys = [] ∧ ∀ j : Nat, j < i → nthP f (f + n - 1) fo j ∈ hl) ∨ ∃ i0 t r, i0 < i ∧ nthP f (f + n - 1) fo i0 ∉ hl ∧ (∀ j : Nat, j < i0 → nthP f (f + n - 1) fo j ∈ hl) ∧ ys = .int (nthP f (f + n - 1) fo i0) t :: r
theorem DueJ.nil {f n fo : Int} {hl : List Int} : DueJ f n fo hl 0 [] := .inl ⟨rfl, fun j hj => absurd hj (Nat.not_lt_zero _)⟩
theorem DueJ.no {f n fo : Int} {hl : List Int} {i : Nat} {ys : List Value} (h : DueJ f n fo hl i ys) (hx : nthP f (f + n - 1) fo i ∈ hl) : DueJ f n fo hl (i + 1) ys := by
  rcases h with ⟨e, h⟩ | ⟨i0, t, r, a, b, c, d⟩
  · refine .inl ⟨e, fun j hj => ?_⟩
    by_cases q : j < i
    · exact h j q
    · rw [show j = i by omega]; exact hx
  · exact .inr ⟨i0, t, r, by omega, b, c, d⟩
theorem DueJ.yes {f n fo : Int} {hl : List Int} {i : Nat} {ys : List Value} {t : Tok} (h : DueJ f n fo hl i ys) (hx : nthP f (f + n - 1) fo i ∉ hl) : DueJ f n fo hl (i + 1) (ys ++ [.int (nthP f (f + n - 1) fo i) t]) := by
  rcases h with ⟨rfl, h⟩ | ⟨i0, t', r, a, b, c, rfl⟩
  · exact .inr ⟨i, t, [], by omega, hx, h, rfl⟩
  · exact .inr ⟨i0, t', r ++ [.int (nthP f (f + n - 1) fo i) t], by omega, b, c, rfl⟩
theorem DueJ.all {f n fo : Int} {hl : List Int} {i : Nat} {ys : List Value} (h : DueJ f n fo hl i ys) (h1 : f ≤ fo) (h2 : fo < f + n) (hi : (i : Int) = n) (hlt : (hl.length : Int) < n) :
    ∃ i0 t r, i0 < i ∧ nthP f (f + n - 1) fo i0 ∉ hl ∧ (∀ j : Nat, j < i0 → nthP f (f + n - 1) fo j ∈ hl) ∧ ys = .int (nthP f (f + n - 1) fo i0) t :: r := by
  rcases h with ⟨_, h⟩ | h
  · exact (row_free h1 h2 hlt (fun j hj => h j (by omega))).elim
  · exact h
def OffAll (r : List (Addr × Obj)) (ds : List Addr) : Prop := ∀ p ∈ r, ∀ d ∈ ds, @Ne Nat p.1 d
theorem OffAll.app {a b : List (Addr × Obj)} {ds : List Addr} (x : OffAll a ds) (y : OffAll b ds) : OffAll (a ++ b) ds := fun p hp => (List.mem_append.mp hp).elim (x p) (y p)
theorem OffAll.own {own nx : List (Addr × Obj)} {ds : List Addr} (h : TbOff own nx) (hs : ∀ d ∈ ds, ∃ o, (d, o) ∈ nx) : OffAll own ds := fun p hp d hd => let ⟨o, ho⟩ := hs d hd; h p hp (d, o) ho
theorem OffAll.tl {tl nx : List (Addr × Obj)} {ds : List Addr} (h : ∀ r ∈ tl, ∀ q ∈ nx, @LT.lt Nat _ q.1 r.1) (hs : ∀ d ∈ ds, ∃ o, (d, o) ∈ nx) : OffAll tl ds := fun p hp d hd => let ⟨o, ho⟩ := hs d hd; Nat.ne_of_gt (h p hp (d, o) ho)
theorem OffAll.at {r : List (Addr × Obj)} {ds : List Addr} (h : OffAll r ds) {d : Addr} (hd : d ∈ ds) : ∀ p ∈ r, p.1 ≠ d := fun p hp => h p hp d hd
theorem OffAll.lt {r : List (Addr × Obj)} {ds : List Addr} {b : Addr} (h : ∀ p ∈ r, @LT.lt Nat _ p.1 b) (hs : ∀ d ∈ ds, @LE.le Nat _ b d) : OffAll r ds := fun p hp d hd => Nat.ne_of_lt (Nat.lt_of_lt_of_le (h p hp) (hs d hd))
end
section
open PySem PySem.W PySem.Calls PyProof.Rows PyProof.V PySem.Spec
theorem kclrC34 : True := by
  w_top off
  k_with_none
  trivial
theorem led2 {h₀ h : Heap} {L pd td : Addr} {pdo to : Obj} {news : List (Addr × Obj)} (N : News h₀ L h news) (m2 : (pd, pdo) ∈ news) (m3 : (td, to) ∈ news) : ∀ p ∈ news, p ∈ (pd, pdo) :: (td, to) :: offA (offA news pd) td := fun p hp => by
  by_cases e : p.1 = pd
  · have h1 := (N _ hp).1
    rw [e, (N _ m2).1] at h1
    have h2 := Option.some.inj h1
    have : p = (pd, pdo) := Prod.ext e h2.symm
    rw [this]; exact List.mem_cons_self
  · by_cases e3 : p.1 = td
    · have h1 := (N _ hp).1
      rw [e3, (N _ m3).1] at h1
      have h2 := Option.some.inj h1
      have : p = (td, to) := Prod.ext e3 h2.symm
      rw [this]; simp
    · exact List.mem_cons_of_mem _ (List.mem_cons_of_mem _ (mem_offA.mpr ⟨mem_offA.mpr ⟨hp, e⟩, e3⟩))
theorem led2' {h₀ h : Heap} {L pd td : Addr} {pdo to : Obj} {news : List (Addr × Obj)} (N : News h₀ L h news) (m2 : (pd, pdo) ∈ news) (m3 : (td, to) ∈ news) : News h₀ L h ((pd, pdo) :: (td, to) :: offA (offA news pd) td) := news_sub N (fun p hp => by
  rcases List.mem_cons.mp hp with e | hp
  · rw [e]; exact m2
  · rcases List.mem_cons.mp hp with e | hp
    · rw [e]; exact m3
    · exact (mem_offA.mp (mem_offA.mp hp).1).1)
theorem free_S : ∀ {w : World} {mean : ExcName → Option Value} {mg mb : Str → Option Value} {dp un : Nat} {gd : Option (List Code)} {cn : Str} {cs : Scope} {a : Addr} {ccd : Value} {cl : List (Str × Addr)} {outer : List Env} {A₀ : Around} {base h₀ : Heap} {L : Addr} {m : Str → Option Value} {news : List (Addr × Obj)} {s : Shared}
    {Q E : Value → Shared → Prop} (B : Below A₀ base outer h₀) (F : Fr h₀ L s.heap m) (X : (hd.heap_1 w.params).In h₀) (N : News h₀ L s.heap news) (T : Top topProg LS mean mg mb h₀) (hk : cs.kind = .function) (hdp : dp < 870) (hu : un < 7800)
    {pa pd td : Addr} {pdo to : Obj} {pt : Nat → Tok} {pf pl fo : Int} {kvs : List (Int × Value)} {k : Int} {tk0 : Tok} (m1 : (pa, instObj 221 pd) ∈ news) (m2 : (pd, portD w pt pf pl fo td) ∈ news) (m3 : (td, to) ∈ news) (n1 : @Ne Nat pa pd) (n2 : @Ne Nat pa td) (n3 : @Ne Nat pd td) (lo : (td == sysModules) = false) (m4 : to.IsDictOf (intKind PySem.Challenge.rw_on0339_01.row.prog w) kvs) (hsz : kvs.length ≤ sizeLine) (b1 : 0 ≤ k) (b2 : k ≤ 100) (hva : valueAt kvs k = none)
    (raz : ∀ e h' g₂ tk', RaisedSN base g₂ (envX cn cs L a ccd cl :: outer) e (.ref 56) news h' → Fr h₀ L g₂ m → g₂.UpToSlots h' → E (.ref e) { s with heap := h', toks := tk' }),
    wpAny (model PySem.Challenge.rw_on0339_01.row.prog w) (ktrTop dp un gd cn cs L a ccd cl outer) (call (.ref 218) [.ref pa, .int k tk0]) Q E s := by
  intro w mean mg mb dp un gd cn cs a ccd cl outer A₀ base h₀ L m news s Q E B F X N T hk hdp hu pa pd td pdo to pt pf pl fo kvs k tk0 m1 m2 m3 n1 n2 n3 lo m4 hsz b1 b2 hva raz
  have N' := led2' N m2 m3
  have hb := led2 N m2 m3
  have a1 : (pa, instObj 221 pd) ∈ offA (offA news pd) td := mem_offA.mpr ⟨mem_offA.mpr ⟨m1, n1⟩, n2⟩
  have a2 : ∀ p ∈ offA (offA news pd) td, p.1 ≠ pd := fun p hp => (mem_offA.mp (mem_offA.mp hp).1).2
  have a3 : ∀ p ∈ offA (offA news pd) td, p.1 ≠ td := fun p hp => (mem_offA.mp hp).2
  exact free_spec (kvs := kvs) (pt := pt) (fo := fo) (pf := pf) (pl := pl) B F X N' T hk (by omega) (by omega) rfl a1 lo m4 hsz n3 a2 a3 b1 b2 (fun _ e h' g₂ tk' R' F' U' => raz e h' g₂ tk' (raisedN_sub R' hb) F' U') (fun h => absurd hva h)
theorem free_U : ∀ {w : World} {mean : ExcName → Option Value} {mg mb : Str → Option Value} {dp un : Nat} {gd : Option (List Code)} {cn : Str} {cs : Scope} {a : Addr} {ccd : Value} {cl : List (Str × Addr)} {outer : List Env} {A₀ : Around} {base h₀ : Heap} {L : Addr} {m : Str → Option Value} {news : List (Addr × Obj)} {s : Shared}
    {Q E : Value → Shared → Prop} (B : Below A₀ base outer h₀) (F : Fr h₀ L s.heap m) (X : (hd.heap_1 w.params).In h₀) (N : News h₀ L s.heap news) (T : Top topProg LS mean mg mb h₀) (hk : cs.kind = .function) (hdp : dp < 870) (hu : un < 7800)
    {pa pd td : Addr} {pdo to : Obj} {pt : Nat → Tok} {pf pl fo : Int} {kvs : List (Int × Value)} {k : Int} {tk0 : Tok} (m1 : (pa, instObj 221 pd) ∈ news) (m2 : (pd, portD w pt pf pl fo td) ∈ news) (m3 : (td, to) ∈ news) (n1 : @Ne Nat pa pd) (n2 : @Ne Nat pa td) (n3 : @Ne Nat pd td) (lo : (td == sysModules) = false) (m4 : to.IsDictOf (intKind PySem.Challenge.rw_on0339_01.row.prog w) kvs) (hsz : kvs.length ≤ sizeLine) (b1 : 0 ≤ k) (b2 : k ≤ 100) (hva : valueAt kvs k ≠ none)
    (ret : ∀ to' h' tk', Fr h₀ L h' m → News h₀ L h' ((pd, portD w pt pf pl fo td) :: (td, to') :: offA (offA news pd) td) → to'.IsDictOf (intKind PySem.Challenge.rw_on0339_01.row.prog w) (without kvs k) → Q .none { s with heap := h', toks := tk' }),
    wpAny (model PySem.Challenge.rw_on0339_01.row.prog w) (ktrTop dp un gd cn cs L a ccd cl outer) (call (.ref 218) [.ref pa, .int k tk0]) Q E s := by
  intro w mean mg mb dp un gd cn cs a ccd cl outer A₀ base h₀ L m news s Q E B F X N T hk hdp hu pa pd td pdo to pt pf pl fo kvs k tk0 m1 m2 m3 n1 n2 n3 lo m4 hsz b1 b2 hva ret
  have N' := led2' N m2 m3
  have hb := led2 N m2 m3
  have a1 : (pa, instObj 221 pd) ∈ offA (offA news pd) td := mem_offA.mpr ⟨mem_offA.mpr ⟨m1, n1⟩, n2⟩
  have a2 : ∀ p ∈ offA (offA news pd) td, p.1 ≠ pd := fun p hp => (mem_offA.mp (mem_offA.mp hp).1).2
  have a3 : ∀ p ∈ offA (offA news pd) td, p.1 ≠ td := fun p hp => (mem_offA.mp hp).2
  exact free_spec (kvs := kvs) (pt := pt) (fo := fo) (pf := pf) (pl := pl) B F X N' T hk (by omega) (by omega) rfl a1 lo m4 hsz n3 a2 a3 b1 b2 (fun h => absurd h hva) (fun _ => ret)
theorem take0_S : ∀ {w : World} {mean : ExcName → Option Value} {mg mb : Str → Option Value} {dp un : Nat} {gd : Option (List Code)} {cn : Str} {cs : Scope} {a : Addr} {ccd : Value} {cl : List (Str × Addr)} {outer : List Env} {A₀ : Around} {base h₀ : Heap} {L : Addr} {m : Str → Option Value} {news : List (Addr × Obj)} {s : Shared}
    {Q E : Value → Shared → Prop} (B : Below A₀ base outer h₀) (F : Fr h₀ L s.heap m) (X : (hd.heap_1 w.params).In h₀) (N : News h₀ L s.heap news) (T : Top topProg LS mean mg mb h₀) (hk : cs.kind = .function) (hdp : dp < 870) (hu : un < 7800)
    {pa pd td : Addr} {pdo to : Obj} {pt : Nat → Tok} {pf pl fo : Int} {kvs : List (Int × Value)} {k : Int} {tk0 : Tok} (m1 : (pa, instObj 221 pd) ∈ news) (m2 : (pd, portD w pt pf pl fo td) ∈ news) (m3 : (td, to) ∈ news) (n1 : @Ne Nat pa pd) (n2 : @Ne Nat pa td) (n3 : @Ne Nat pd td) (lo : (td == sysModules) = false) (m4 : to.IsDictOf (intKind PySem.Challenge.rw_on0339_01.row.prog w) kvs) (hsz : kvs.length ≤ sizeLine) (b1 : 1 ≤ pf) (b2 : pf ≤ fo) (b3 : fo ≤ pl) (b4 : pl ≤ 100) (hall : ∀ i : Nat, (i : Int) < pl - pf + 1 → valueAt kvs (nthP pf pl fo i) ≠ none)
    (raz : ∀ e h' g₂ tk', RaisedSN base g₂ (envX cn cs L a ccd cl :: outer) e (.ref 56) news h' → Fr h₀ L g₂ m → g₂.UpToSlots h' → E (.ref e) { s with heap := h', toks := tk' }),
    wpAny (model PySem.Challenge.rw_on0339_01.row.prog w) (ktrTop dp un gd cn cs L a ccd cl outer) (call (.ref 197) [.ref pa, .int 0 tk0]) Q E s := by
  intro w mean mg mb dp un gd cn cs a ccd cl outer A₀ base h₀ L m news s Q E B F X N T hk hdp hu pa pd td pdo to pt pf pl fo kvs k tk0 m1 m2 m3 n1 n2 n3 lo m4 hsz b1 b2 b3 b4 hall raz
  have N' := led2' N m2 m3
  have hb := led2 N m2 m3
  have a1 : (pa, instObj 221 pd) ∈ offA (offA news pd) td := mem_offA.mpr ⟨mem_offA.mpr ⟨m1, n1⟩, n2⟩
  have a2 : ∀ p ∈ offA (offA news pd) td, p.1 ≠ pd := fun p hp => (mem_offA.mp (mem_offA.mp hp).1).2
  have a3 : ∀ p ∈ offA (offA news pd) td, p.1 ≠ td := fun p hp => (mem_offA.mp hp).2
  exact take0_spec (kvs := kvs) (pt := pt) (fo := fo) (pf := pf) (pl := pl) B F X N' T hk (by omega) (by omega) rfl a1 lo m4 hsz n3 a2 a3 b1 b2 b3 b4 (fun _ e h' g₂ tk' R' F' U' => raz e h' g₂ tk' (raisedN_sub R' hb) F' U') (fun i hi h => absurd h (hall i hi))
theorem take0_U : ∀ {w : World} {mean : ExcName → Option Value} {mg mb : Str → Option Value} {dp un : Nat} {gd : Option (List Code)} {cn : Str} {cs : Scope} {a : Addr} {ccd : Value} {cl : List (Str × Addr)} {outer : List Env} {A₀ : Around} {base h₀ : Heap} {L : Addr} {m : Str → Option Value} {news : List (Addr × Obj)} {s : Shared}
    {Q E : Value → Shared → Prop} (B : Below A₀ base outer h₀) (F : Fr h₀ L s.heap m) (X : (hd.heap_1 w.params).In h₀) (N : News h₀ L s.heap news) (T : Top topProg LS mean mg mb h₀) (hk : cs.kind = .function) (hdp : dp < 870) (hu : un < 7800)
    {pa pd td : Addr} {pdo to : Obj} {pt : Nat → Tok} {pf pl fo : Int} {kvs : List (Int × Value)} {k : Int} {tk0 : Tok} (m1 : (pa, instObj 221 pd) ∈ news) (m2 : (pd, portD w pt pf pl fo td) ∈ news) (m3 : (td, to) ∈ news) (n1 : @Ne Nat pa pd) (n2 : @Ne Nat pa td) (n3 : @Ne Nat pd td) (lo : (td == sysModules) = false) (m4 : to.IsDictOf (intKind PySem.Challenge.rw_on0339_01.row.prog w) kvs) (hsz : kvs.length ≤ sizeLine) (b1 : 1 ≤ pf) (b2 : pf ≤ fo) (b3 : fo ≤ pl) (b4 : pl ≤ 100) {i : Nat} (hi : (i : Int) < pl - pf + 1) (h1 : valueAt kvs (nthP pf pl fo i) = none) (h2 : ∀ j : Nat, j < i → valueAt kvs (nthP pf pl fo j) ≠ none)
    (ret : ∀ t9 pt' to' h' tk', Fr h₀ L h' m → News h₀ L h' ((pd, portD w pt' pf pl (nthP pf pl fo (i + 1)) td) :: (td, to') :: offA (offA news pd) td) → to'.IsDictOf (intKind PySem.Challenge.rw_on0339_01.row.prog w) (kvs ++ [(nthP pf pl fo i, .bool true)]) → Q (.int (nthP pf pl fo i) t9) { s with heap := h', toks := tk' }),
    wpAny (model PySem.Challenge.rw_on0339_01.row.prog w) (ktrTop dp un gd cn cs L a ccd cl outer) (call (.ref 197) [.ref pa, .int 0 tk0]) Q E s := by
  intro w mean mg mb dp un gd cn cs a ccd cl outer A₀ base h₀ L m news s Q E B F X N T hk hdp hu pa pd td pdo to pt pf pl fo kvs k tk0 m1 m2 m3 n1 n2 n3 lo m4 hsz b1 b2 b3 b4 i hi h1 h2 ret
  have N' := led2' N m2 m3
  have hb := led2 N m2 m3
  have a1 : (pa, instObj 221 pd) ∈ offA (offA news pd) td := mem_offA.mpr ⟨mem_offA.mpr ⟨m1, n1⟩, n2⟩
  have a2 : ∀ p ∈ offA (offA news pd) td, p.1 ≠ pd := fun p hp => (mem_offA.mp (mem_offA.mp hp).1).2
  have a3 : ∀ p ∈ offA (offA news pd) td, p.1 ≠ td := fun p hp => (mem_offA.mp hp).2
  refine take0_spec (kvs := kvs) (pt := pt) (fo := fo) (pf := pf) (pl := pl) B F X N' T hk (by omega) (by omega) rfl a1 lo m4 hsz n3 a2 a3 b1 b2 b3 b4 (fun hall => absurd h1 (hall i hi)) (fun i' hi' g1 g2 => ?_)
  have e : i' = i := by
    rcases Nat.lt_trichotomy i' i with h | h | h
    · exact absurd g1 (h2 i' h)
    · exact h
    · exact absurd h1 (g2 i h)
  subst e
  exact ret
end
section
open PySem PySem.W PySem.Calls PyProof.Rows PyProof.V PySem.Spec
theorem kclrC40 : True := by
  w_top off
  k_with_none
  trivial
theorem kset_C40_1 : True := by
  k_with "k_mem" => (first | assumption | exact List.mem_cons_self | (refine List.mem_cons_of_mem _ ?_; k_mem) | (refine List.mem_append_right _ ?_; k_mem))
  k_with "k_all" => (first | assumption | exact allLt_ne (by assumption) | exact allLt_ne1 (by assumption) | exact allLt_ne2 (by assumption) | exact allLt_ne3 (by assumption) | exact allLt_ne4 (by assumption) | exact allLt_ne5 (by assumption) | exact allLt_ne6 (by assumption))
  k_with "exec Raise some none" => ((k_here; (with_reducible show wpAny _ _ (exec (Stmt.Raise (some (Expr.Call (Expr.Name (Str.ofString "FormError") _) _ [] _)) none _) _) _ _ _); k_dflt (refine' Raise_I (C := 44) ?X ?h ?b ?hh ?_; (case X => k_asm); (case h => k_is); (case b => decide); (case hh => rfl))))
  k_with "call ref" => (((k_here; (with_reducible show wpAny _ _ (call (Value.ref 44) _) _ _ _); k_dflt (refine' call_excK ?F ?X ?T ?room ?hC ?hi ?hc ?hmro ?hdc ?hs ?ha ?_; (case F => k_asm); (case X => k_asm); (case T => k_asm); (case room => ktr_room); (case hC => k_is); (case hi => k_is); (case hc => k_is); (case hmro => rfl); (case hdc => rfl); (case hs => k_is); (case ha => k_is)); intro e'ₖ t'ₖ d'ₖ h'ₖ tk'ₖ hx'ₖ he'ₖ); all_goals ((try revert he'ₖ); (try revert hx'ₖ); (try revert tk'ₖ); (try revert h'ₖ); (try revert d'ₖ); (try revert t'ₖ); (try revert e'ₖ); intros)))
  k_with "exec Raise some none" => ((k_here; (with_reducible show wpAny _ _ (exec (Stmt.Raise (some (Expr.Call (Expr.Name (Str.ofString "PortError") _) _ [] _)) none _) _) _ _ _); k_dflt (refine' Raise_I (C := 56) ?X ?h ?b ?hh ?_; (case X => k_asm); (case h => k_is); (case b => decide); (case hh => rfl))))
  k_with "call ref" => (((k_here; (with_reducible show wpAny _ _ (call (Value.ref 56) _) _ _ _); k_dflt (refine' call_excK ?F ?X ?T ?room ?hC ?hi ?hc ?hmro ?hdc ?hs ?ha ?_; (case F => k_asm); (case X => k_asm); (case T => k_asm); (case room => ktr_room); (case hC => k_is); (case hi => k_is); (case hc => k_is); (case hmro => rfl); (case hdc => rfl); (case hs => k_is); (case ha => k_is)); intro e'ₖ t'ₖ d'ₖ h'ₖ tk'ₖ hx'ₖ he'ₖ); all_goals ((try revert he'ₖ); (try revert hx'ₖ); (try revert tk'ₖ); (try revert h'ₖ); (try revert d'ₖ); (try revert t'ₖ); (try revert e'ₖ); intros)))
  k_with "exec Raise some none" => ((k_here; (with_reducible show wpAny _ _ (exec (Stmt.Raise (some (Expr.Call (Expr.Name (Str.ofString "StateError") _) _ [] _)) none _) _) _ _ _); k_dflt (refine' Raise_I (C := 68) ?X ?h ?b ?hh ?_; (case X => k_asm); (case h => k_is); (case b => decide); (case hh => rfl))))
  k_with "call ref" => (((k_here; (with_reducible show wpAny _ _ (call (Value.ref 68) _) _ _ _); k_dflt (refine' call_excK ?F ?X ?T ?room ?hC ?hi ?hc ?hmro ?hdc ?hs ?ha ?_; (case F => k_asm); (case X => k_asm); (case T => k_asm); (case room => ktr_room); (case hC => k_is); (case hi => k_is); (case hc => k_is); (case hmro => rfl); (case hdc => rfl); (case hs => k_is); (case ha => k_is)); intro e'ₖ t'ₖ d'ₖ h'ₖ tk'ₖ hx'ₖ he'ₖ); all_goals ((try revert he'ₖ); (try revert hx'ₖ); (try revert tk'ₖ); (try revert h'ₖ); (try revert d'ₖ); (try revert t'ₖ); (try revert e'ₖ); intros)))
  k_with "RaiseEnd" => ((refine RaiseEnd.intro (Frag.In.keeps (by k_asm) (fun b o q => ExcNew.keeps (by assumption) b o (Fr.keep (by k_asm) b o q))) (by assumption) ?_))
  k_with "leaving ref" => (((k_here; (refine' leave_excK ?k1 ?k0 ?k2 ?k3 ?_; (case k0 => assumption); (case k1 => assumption); (case k2 => assumption); (case k3 => k_asm); k_whole; intro h'ₖ R'ₖ U'ₖ; (try dsimp only at R'ₖ U'ₖ ⊢))); all_goals ((try revert U'ₖ); (try revert R'ₖ); (try revert h'ₖ); intros)))
  k_with "leaving ref" => (((k_here; k_dflt (refine' leave_onS1 ?k0 ?k1 ?k2 ?k3 ?_; (case k2 => assumption); (case k0 => assumption); (case k1 => assumption); (case k3 => assumption)); intro h'ₖ R'ₖ U'ₖ; (try dsimp only at R'ₖ U'ₖ ⊢)); all_goals ((try revert U'ₖ); (try revert R'ₖ); (try revert h'ₖ); intros)))
  k_with "call ref" => (((k_here; (with_reducible show wpAny _ _ (call (Value.ref 256) _) _ _ _); k_dflt (refine' call_cls ?k1 ?k2 ?k3 ?k4 ?k5 ?k6 ?_; (case k1 => k_asm); (case k2 => k_asm); (case k3 => k_asm); (case k4 => k_is); (case k5 => k_is); (case k6 => k_is); k_whole; intro x'ₖ d'ₖ h'ₖ F'ₖ N'ₖ l1ₖ l2ₖ; (try k_lt l1ₖ); (try k_lt2 l2ₖ); (try k_sweep); refine' code_def ?k1 ?k2 ?k3 ?k4 ?k5 ?kA ?kF ?kK ?k6 ?k7 ?k8 ?k9 ?kB ?_ ?c2 ?c3 ?c4 ?c5; (case kA => exact rfl); (case kF => exact rfl); (case kK => first | exact rfl | assumption); (case k1 => k_asm); (case k2 => k_asm); (case k3 => k_asm); (case k4 => k_asm); (case k5 => k_asm); (case k6 => k_is); (case k7 => k_is); (case k8 => ktr_room); (case k9 => first | exact BindsTo.of_eq rfl | exact binds_K (by k_in) rfl (by k_is) rfl rfl rfl); (case c5 => decide); (case kB => exact locs rfl); (case c2 => exact rfl); (case c3 => exact rfl); (case c4 => exact rfl); k_whole; intro g'ₖ L'ₖ h'ₖ FG'ₖ F'ₖ N'ₖ B'ₖ X'ₖ T'ₖ; (try dsimp only); (try k_fold))); all_goals ((try revert T'ₖ); (try revert X'ₖ); (try revert B'ₖ); (try revert FG'ₖ); (try revert L'ₖ); (try revert g'ₖ); (try revert l2ₖ); (try revert l1ₖ); (try revert N'ₖ); (try revert F'ₖ); (try revert h'ₖ); (try revert d'ₖ); (try revert x'ₖ); intros)))
  trivial
theorem read_short : ∀ {w : World} {mean : ExcName → Option Value} {mg mb : Str → Option Value} {dp un : Nat} {gd : Option (List Code)} {cn : Str} {cs : Scope} {a : Addr} {ccd : Value} {cl : List (Str × Addr)} {outer : List Env} {A₀ : Around} {base h₀ : Heap} {L : Addr} {m : Str → Option Value} {news : List (Addr × Obj)} {s : Shared}
    {Q E : Value → Shared → Prop} (B : Below A₀ base outer h₀) (F : Fr h₀ L s.heap m) (X : (hd.heap_1 w.params).In h₀) (N : News h₀ L s.heap news) (T : Top topProg LS mean mg mb h₀) (hk : cs.kind = .function) (hdp : dp < 870) (hu : un < 7800)
    {bs : Array UInt8} {tb : Tok} (hb : bs.size < 4)
    (rai : ∀ e h' g₂ tk', RaisedSN base g₂ (envX cn cs L a ccd cl :: outer) e (.ref 44) news h' → Fr h₀ L g₂ m → g₂.UpToSlots h' → E (.ref e) { s with heap := h', toks := tk' }),
    wpAny (model PySem.Challenge.rw_on0339_01.row.prog w) (ktrTop dp un gd cn cs L a ccd cl outer) (call (.ref 267) [.bytes bs tb]) Q E s := by
  k_fill
  intro w mean mg mb dp un gd cn cs a ccd cl outer A₀ base h₀ L m news s Q E B F X N T hk hdp hu bs tb hb rai
  refine wpAny_call ?_
  k_dflt (refine' code_def (binds := [(Str.ofString "octets", .bytes bs tb)]) ?k1 ?k2 ?k3 ?k4 ?k5 ?kA ?kF ?kK ?k6 ?k7 ?k8 ?k9 ?kB ?_ ?c2 ?c3 ?c4 ?c5; (case kA => exact rfl); (case kF => exact rfl); (case kK => assumption); (case k1 => k_asm); (case k2 => k_asm); (case k3 => k_asm); (case k4 => k_asm); (case k5 => k_asm); (case k6 => k_is); (case k7 => k_is); (case k8 => ktr_room); (case k9 => exact BindsTo.of_eq rfl); (case c5 => decide); (case kB => exact locs rfl); (case c2 => exact rfl); (case c3 => exact rfl); (case c4 => exact rfl))
  intro g1 L1 h1 FG1 F1 N1 B1 X1 T1
  change Fr g1 L1 h1 (fun y => List.lookup y [(Str.ofString "octets", .bytes bs tb)]) at F1
  dsimp only
  k_fold
  k_steps
  exact rai _ _ _ _ (by assumption) (by assumption) (by assumption)
theorem need_spec : ∀ {w : World} {mean : ExcName → Option Value} {mg mb : Str → Option Value} {dp un : Nat} {gd : Option (List Code)} {cn : Str} {cs : Scope} {a : Addr} {ccd : Value} {cl : List (Str × Addr)} {outer : List Env} {A₀ : Around} {base h₀ : Heap} {L : Addr} {m : Str → Option Value} {news : List (Addr × Obj)} {s : Shared}
    {Q E : Value → Shared → Prop} (B : Below A₀ base outer h₀) (F : Fr h₀ L s.heap m) (X : (hd.heap_1 w.params).In h₀) (N : News h₀ L s.heap news) (T : Top topProg LS mean mg mb h₀) (hk : cs.kind = .function) (hdp : dp < 890) (hu : un < 8000)
    {bs : Array UInt8} {tb tk0 tk1 : Tok} {k : Int} (hk0 : 0 ≤ k) (hk1 : k + 2 ≤ bs.size) (hs : bs.size ≤ 100)
    (ret : ∀ h' tk', Fr h₀ L h' m → News h₀ L h' news → Q .none { s with heap := h', toks := tk' }),
    wpAny (model PySem.Challenge.rw_on0339_01.row.prog w) (ktrTop dp un gd cn cs L a ccd cl outer) (call (.ref 232) [.bytes bs tb, .int k tk0, .int 2 tk1]) Q E s := by
  k_fill
  intro w mean mg mb dp un gd cn cs a ccd cl outer A₀ base h₀ L m news s Q E B F X N T hk hdp hu bs tb tk0 tk1 k hk0 hk1 hs ret
  refine wpAny_call ?_
  k_dflt (refine' code_def (binds := [(Str.ofString "octets", .bytes bs tb), (Str.ofString "at", .int k tk0), (Str.ofString "size", .int 2 tk1)]) ?k1 ?k2 ?k3 ?k4 ?k5 ?kA ?kF ?kK ?k6 ?k7 ?k8 ?k9 ?kB ?_ ?c2 ?c3 ?c4 ?c5; (case kA => exact rfl); (case kF => exact rfl); (case kK => assumption); (case k1 => k_asm); (case k2 => k_asm); (case k3 => k_asm); (case k4 => k_asm); (case k5 => k_asm); (case k6 => k_is); (case k7 => k_is); (case k8 => ktr_room); (case k9 => exact BindsTo.of_eq rfl); (case c5 => decide); (case kB => exact locs rfl); (case c2 => exact rfl); (case c3 => exact rfl); (case c4 => exact rfl))
  intro g1 L1 h1 FG1 F1 N1 B1 X1 T1
  change Fr g1 L1 h1 (fun y => List.lookup y [(Str.ofString "size", .int 2 tk1), (Str.ofString "at", .int k tk0), (Str.ofString "octets", .bytes bs tb)]) at F1
  dsimp only
  k_fold
  k_steps
  all_goals first | exact ret _ _ (by k_asm) (by k_asm) | (exfalso; omega)
theorem kset_C40_2 : True := by
  k_with "call ref cons nil" => (((k_here; (with_reducible show wpAny _ _ (call (Value.ref 232) _) _ _ _); k_dflt (refine' need_spec ?u_B ?u_F ?u_X ?u_N ?u_T ?u_hk ?u_hdp ?u_hu ?u_hk0 ?u_hk1 ?u_hs ?_; (case u_B => k_asm); (case u_F => k_asm); (case u_X => k_asm); (case u_N => k_asm); (case u_T => k_asm); (case u_hk => first | exact rfl | assumption); (case u_hdp => ktr_room); (case u_hu => ktr_units); (case u_hk0 => assumption); (case u_hk1 => assumption); (case u_hs => assumption)); intro h9ₖ tk9ₖ F9ₖ N9ₖ; (try k_sweep)); all_goals ((try revert N9ₖ); (try revert F9ₖ); (try revert tk9ₖ); (try revert h9ₖ); intros)))
  k_with "subscriptTail Name Name bytes int" => (((k_here; (with_reducible show wpAny _ _ (subscriptTail _ _ (Value.bytes _ _) (Value.int _ _)) _ _ _); k_dflt (refine' KBw.item_K (ks := KBw.bInts _) rfl ?f ?a ?b ?_; (case f => rw [KBw.ints_length]; omega); (case a => omega); (case b => rw [KBw.ints_length]; omega)); intro t9ₖ k9ₖ l9ₖ u9ₖ); all_goals ((try revert u9ₖ); (try revert l9ₖ); (try revert k9ₖ); (try revert t9ₖ); intros)))
  k_with "subscriptTail Name BinOp Name Add Constant bytes int" => (((k_here; (with_reducible show wpAny _ _ (subscriptTail _ _ (Value.bytes _ _) (Value.int _ _)) _ _ _); k_dflt (refine' KBw.item_K (ks := KBw.bInts _) rfl ?f ?a ?b ?_; (case f => rw [KBw.ints_length]; omega); (case a => omega); (case b => rw [KBw.ints_length]; omega)); intro t9ₖ k9ₖ l9ₖ u9ₖ); all_goals ((try revert u9ₖ); (try revert l9ₖ); (try revert k9ₖ); (try revert t9ₖ); intros)))
  k_with "subscriptTail" => (((k_here; (with_reducible show wpAny _ _ (subscriptTail _ _ (Value.bytes _ _) (Value.int _ _)) _ _ _); k_dflt (refine' KBw.item_K (ks := KBw.bInts _) rfl ?f ?a ?b ?_; (case f => rw [KBw.ints_length]; omega); (case a => omega); (case b => rw [KBw.ints_length]; omega)); intro t9ₖ k9ₖ l9ₖ u9ₖ); all_goals ((try revert u9ₖ); (try revert l9ₖ); (try revert k9ₖ); (try revert t9ₖ); intros)))
  k_with "binaryOp BitOr int int" => ((k_here; k_dflt (refine or_int ?_); rw [or256 (by omega) (by omega) (by omega)]))
  k_with "binaryOp LShift int int" => ((k_here; k_dflt (refine lshift_int_small (by decide) (by decide) (by omega) ?_)))
  trivial
theorem get16_spec : ∀ {w : World} {mean : ExcName → Option Value} {mg mb : Str → Option Value} {dp un : Nat} {gd : Option (List Code)} {cn : Str} {cs : Scope} {a : Addr} {ccd : Value} {cl : List (Str × Addr)} {outer : List Env} {A₀ : Around} {base h₀ : Heap} {L : Addr} {m : Str → Option Value} {news : List (Addr × Obj)} {s : Shared}
    {Q E : Value → Shared → Prop} (B : Below A₀ base outer h₀) (F : Fr h₀ L s.heap m) (X : (hd.heap_1 w.params).In h₀) (N : News h₀ L s.heap news) (T : Top topProg LS mean mg mb h₀) (hk : cs.kind = .function) (hdp : dp < 870) (hu : un < 7800)
    {bs : Array UInt8} {tb tk0 : Tok} {k : Int} (hk0 : 0 ≤ k) (hk1 : k + 2 ≤ bs.size) (hs : bs.size ≤ 100)
    (ret : ∀ t9 h' tk', Fr h₀ L h' m → News h₀ L h' news → Q (.int (256 * (KBw.bInts bs).getD k.toNat 0 + (KBw.bInts bs).getD (k + 1).toNat 0) t9) { s with heap := h', toks := tk' }),
    wpAny (model PySem.Challenge.rw_on0339_01.row.prog w) (ktrTop dp un gd cn cs L a ccd cl outer) (call (.ref 239) [.bytes bs tb, .int k tk0]) Q E s := by
  k_fill
  intro w mean mg mb dp un gd cn cs a ccd cl outer A₀ base h₀ L m news s Q E B F X N T hk hdp hu bs tb tk0 k hk0 hk1 hs ret
  refine wpAny_call ?_
  k_dflt (refine' code_def (binds := [(Str.ofString "octets", .bytes bs tb), (Str.ofString "at", .int k tk0)]) ?k1 ?k2 ?k3 ?k4 ?k5 ?kA ?kF ?kK ?k6 ?k7 ?k8 ?k9 ?kB ?_ ?c2 ?c3 ?c4 ?c5; (case kA => exact rfl); (case kF => exact rfl); (case kK => assumption); (case k1 => k_asm); (case k2 => k_asm); (case k3 => k_asm); (case k4 => k_asm); (case k5 => k_asm); (case k6 => k_is); (case k7 => k_is); (case k8 => ktr_room); (case k9 => exact BindsTo.of_eq rfl); (case c5 => decide); (case kB => exact locs rfl); (case c2 => exact rfl); (case c3 => exact rfl); (case c4 => exact rfl))
  intro g1 L1 h1 FG1 F1 N1 B1 X1 T1
  change Fr g1 L1 h1 (fun y => List.lookup y [(Str.ofString "at", .int k tk0), (Str.ofString "octets", .bytes bs tb)]) at F1
  dsimp only
  k_fold
  k_steps
  exact ret _ _ _ (by assumption) (by assumption)
theorem kset_C40_3 : True := by
  k_with "call ref cons nil" => (((k_here; (with_reducible show wpAny _ _ (call (Value.ref 239) _) _ _ _); k_dflt (refine' get16_spec ?u_B ?u_F ?u_X ?u_N ?u_T ?u_hk ?u_hdp ?u_hu ?u_hk0 ?u_hk1 ?u_hs ?_; (case u_B => k_asm); (case u_F => k_asm); (case u_X => k_asm); (case u_N => k_asm); (case u_T => k_asm); (case u_hk => first | exact rfl | assumption); (case u_hdp => ktr_room); (case u_hu => ktr_units); (case u_hk0 => decide); (case u_hk1 => omega); (case u_hs => assumption)); intro t9ₖ h9ₖ tk9ₖ F9ₖ N9ₖ; (try k_sweep)); all_goals ((try revert N9ₖ); (try revert F9ₖ); (try revert tk9ₖ); (try revert h9ₖ); (try revert t9ₖ); intros)))
  trivial
theorem read_ok : ∀ {w : World} {mean : ExcName → Option Value} {mg mb : Str → Option Value} {dp un : Nat} {gd : Option (List Code)} {cn : Str} {cs : Scope} {a : Addr} {ccd : Value} {cl : List (Str × Addr)} {outer : List Env} {A₀ : Around} {base h₀ : Heap} {L : Addr} {m : Str → Option Value} {news : List (Addr × Obj)} {s : Shared}
    {Q E : Value → Shared → Prop} (B : Below A₀ base outer h₀) (F : Fr h₀ L s.heap m) (X : (hd.heap_1 w.params).In h₀) (N : News h₀ L s.heap news) (T : Top topProg LS mean mg mb h₀) (hk : cs.kind = .function) (hdp : dp < 860) (hu : un < 7700)
    {bs : Array UInt8} {tb : Tok} (hb : 4 ≤ bs.size) (hs : bs.size ≤ 100)
    (ret : ∀ ha hda t1 t2 t3 t4 h' tk', Fr h₀ L h' m → News h₀ L h' ((ha, instObj 256 hda) :: (hda, dictOf [⟨PyData.keyHash w.params (Str.ofString "source_port"), .str (Str.ofString "source_port") t1, .int (256 * (KBw.bInts bs).getD 0 0 + (KBw.bInts bs).getD 1 0) t2⟩, ⟨PyData.keyHash w.params (Str.ofString "target_port"), .str (Str.ofString "target_port") t3, .int (256 * (KBw.bInts bs).getD 2 0 + (KBw.bInts bs).getD 3 0) t4⟩] 2) :: news) → Q (.ref ha) { s with heap := h', toks := tk' }),
    wpAny (model PySem.Challenge.rw_on0339_01.row.prog w) (ktrTop dp un gd cn cs L a ccd cl outer) (call (.ref 267) [.bytes bs tb]) Q E s := by
  k_fill
  intro w mean mg mb dp un gd cn cs a ccd cl outer A₀ base h₀ L m news s Q E B F X N T hk hdp hu bs tb hb hs ret
  refine wpAny_call ?_
  k_dflt (refine' code_def (binds := [(Str.ofString "octets", .bytes bs tb)]) ?k1 ?k2 ?k3 ?k4 ?k5 ?kA ?kF ?kK ?k6 ?k7 ?k8 ?k9 ?kB ?_ ?c2 ?c3 ?c4 ?c5; (case kA => exact rfl); (case kF => exact rfl); (case kK => assumption); (case k1 => k_asm); (case k2 => k_asm); (case k3 => k_asm); (case k4 => k_asm); (case k5 => k_asm); (case k6 => k_is); (case k7 => k_is); (case k8 => ktr_room); (case k9 => exact BindsTo.of_eq rfl); (case c5 => decide); (case kB => exact locs rfl); (case c2 => exact rfl); (case c3 => exact rfl); (case c4 => exact rfl))
  intro g1 L1 h1 FG1 F1 N1 B1 X1 T1
  change Fr g1 L1 h1 (fun y => List.lookup y [(Str.ofString "octets", .bytes bs tb)]) at F1
  dsimp only
  k_fold
  k_steps
  exact ret _ _ _ _ _ _ _ _ (by assumption) (by assumption)
end
section
open PySem PySem.W PySem.Calls PyProof.Rows PyProof.V PySem.Spec PyProof.Rows.LCg
theorem kclrC41 : True := by
  w_top off
  k_with_none
  trivial
theorem kset_C41_1 : True := by
  k_with "k_ne" => (first | with_reducible assumption | (refine Ne.symm ?_; with_reducible assumption) | (refine neN ?_; (try dsimp only); omega))
  k_with "k_mem" => (first | assumption | exact List.mem_cons_self | (refine List.mem_cons_of_mem _ ?_; k_mem) | (refine List.mem_append_right _ ?_; k_mem))
  k_with "k_all" => (first | assumption | exact allLt_ne (by assumption) | exact allLt_ne1 (by assumption) | exact allLt_ne2 (by assumption) | exact allLt_ne3 (by assumption) | exact allLt_ne4 (by assumption) | exact allLt_ne5 (by assumption) | exact allLt_ne6 (by assumption))
  k_with "call ref cons nil" => (((k_here; (with_reducible show wpAny _ _ (call (Value.ref 281) _) _ _ _); k_dflt (refine' take_U ?u_B ?u_F ?u_X ?u_N ?u_T ?u_hk ?u_hdp ?u_hu ?u_U ?u_hso ?u_ht ?u_ht2 ?_; (case u_B => k_asm); (case u_F => k_asm); (case u_X => k_asm); (case u_N => k_asm); (case u_T => k_asm); (case u_hk => first | exact rfl | assumption); (case u_hdp => ktr_room); (case u_hu => ktr_units); (case u_U => k_updF); (case u_hso => assumption); (case u_ht => decide); (case u_ht2 => decide)); intro r9ₖ tr9ₖ o9ₖ h9ₖ tk9ₖ ha9ₖ hb9ₖ hs9ₖ F9ₖ N9ₖ; (try k_sweep); (try dsimp only at N9ₖ)); all_goals ((try revert N9ₖ); (try revert F9ₖ); (try revert hs9ₖ); (try revert hb9ₖ); (try revert ha9ₖ); (try revert tk9ₖ); (try revert h9ₖ); (try revert o9ₖ); (try revert tr9ₖ); (try revert r9ₖ); intros)))
  k_with "call ref cons nil" => ((k_here; (with_reducible show wpAny _ _ (call (Value.ref 295) _) _ _ _); refine Stop.here ?_))
  k_with "CompSrc" => ((refine Stop.here ?_))
  k_with "CompEnd" => ((refine Stop.here ?_))
  k_with "call type:bytes" => ((refine Stop.here ?_))
  k_with "eval ListComp" => ((k_here; k_dflt (refine ListComp_U (F₀ := by k_asm) (by with_unfolding_all rfl) (by decide) (by rfl) (by decide) (by rfl) ?_)))
  trivial
theorem Q_dec {S : Type} {P : Value → S → Prop} {b : Bool} {s : S} (h : b = true) (k : P (.bool true) s) : P (.bool b) s := by subst h; exact k
theorem intsAre_of {ys : List Value} (h : ∀ v ∈ ys, ∃ k t, v = Value.int k t ∧ 0 ≤ k ∧ k < 256) : ∃ ns, IntsAre ys ns ∧ ∀ n ∈ ns, 0 ≤ n ∧ n < 256 := by
  induction ys with
  | nil => exact ⟨[], .nil, by simp⟩
  | cons y ys ih =>
    obtain ⟨k, t, rfl, a, b⟩ := h y List.mem_cons_self
    obtain ⟨ns, i, j⟩ := ih fun v hv => h v (List.mem_cons_of_mem _ hv)
    refine ⟨k :: ns, .cons k t i, fun n hn => ?_⟩
    rcases List.mem_cons.mp hn with e | hn
    · rw [e]; exact ⟨a, b⟩
    · exact j n hn
theorem kset_C41_2 : True := by
  k_with "eval Lambda" => (((k_here; k_dflt (refine' kla_eval ?d0 ?_; (case d0 => exact rfl)); k_dflt (refine' lam_any ?F ?N ?T ?C ?cd ?U ?I ?cl ?_; (case F => k_asm); (case N => k_asm); (case T => k_asm); (case cd => exact rfl); (case C => exact CHid.keep (by assumption) (by assumption)); (case U => k_updF); (case I => assumption); (case cl => exact rfl)); intro f9ₖ c9ₖ oc9ₖ vs9ₖ t9ₖ ct9ₖ h9ₖ tk9ₖ tl9ₖ ps9ₖ F9ₖ N9ₖ m9ₖ d9ₖ e9ₖ I9ₖ l9ₖ r9ₖ; (try dsimp only at N9ₖ)); all_goals ((try revert r9ₖ); (try revert l9ₖ); (try revert I9ₖ); (try revert e9ₖ); (try revert d9ₖ); (try revert m9ₖ); (try revert N9ₖ); (try revert F9ₖ); (try revert ps9ₖ); (try revert tl9ₖ); (try revert tk9ₖ); (try revert h9ₖ); (try revert ct9ₖ); (try revert t9ₖ); (try revert vs9ₖ); (try revert oc9ₖ); (try revert c9ₖ); (try revert f9ₖ); intros)))
  k_with "eval Name" => ((k_here; (with_reducible show wpAny _ _ (eval (Expr.Name _ _) (envX _ _ _ _ _ _)) _ _ _); k_dflt (refine' nameX_F ?N ?c ?m ?d ?_ ?a ?b; (case a => rfl); (case b => rfl); (case N => k_asm); (case c => rfl); (case m => k_mem); (case d => k_asm))))
  k_with "leaving ref" => (((k_here; k_dflt (refine' leave_onS1X ?k0 ?k1 ?k2 ?k3 ?_; (case k2 => assumption); (case k0 => assumption); (case k1 => assumption); (case k3 => assumption)); intro h'ₖ R'ₖ U'ₖ; (try dsimp only at R'ₖ U'ₖ ⊢)); all_goals ((try revert U'ₖ); (try revert R'ₖ); (try revert h'ₖ); intros)))
  k_with "call ref cons nil" => (((k_here; (with_reducible show wpAny _ _ (call (Value.ref 267) _) _ _ _); k_dflt (refine' read_ok ?u_B ?u_F ?u_X ?u_N ?u_T ?u_hk ?u_hdp ?u_hu ?u_hb ?u_hs ?_; (case u_B => k_asm); (case u_F => k_asm); (case u_X => k_asm); (case u_N => k_asm); (case u_T => k_asm); (case u_hk => first | exact rfl | assumption); (case u_hdp => ktr_room); (case u_hu => ktr_units); (case u_hb => omega); (case u_hs => omega)); intro ha9ₖ hd9ₖ t1ₖ t2ₖ t3ₖ t4ₖ h9ₖ tk9ₖ F9ₖ N9ₖ; (try k_sweep)); all_goals ((try revert N9ₖ); (try revert F9ₖ); (try revert tk9ₖ); (try revert h9ₖ); (try revert t4ₖ); (try revert t3ₖ); (try revert t2ₖ); (try revert t1ₖ); (try revert hd9ₖ); (try revert ha9ₖ); intros)))
  k_with "subscriptTail Name Constant bytes int" => (((k_here; (with_reducible show wpAny _ _ (subscriptTail _ _ (Value.bytes _ _) (Value.int _ _)) _ _ _); k_dflt (refine' KBw.item_K (ks := KBw.bInts _) rfl ?f ?a ?b ?_; (case f => rw [KBw.ints_length]; omega); (case a => omega); (case b => rw [KBw.ints_length]; omega)); intro t9ₖ k9ₖ l9ₖ u9ₖ); all_goals ((try revert u9ₖ); (try revert l9ₖ); (try revert k9ₖ); (try revert t9ₖ); intros)))
  k_with "call ref cons nil" => (((k_here; (with_reducible show wpAny _ _ (call (Value.ref 267) _) _ _ _); k_dflt (refine' read_short ?u_B ?u_F ?u_X ?u_N ?u_T ?u_hk ?u_hdp ?u_hu ?u_hb ?_; (case u_B => k_asm); (case u_F => k_asm); (case u_X => k_asm); (case u_N => k_asm); (case u_T => k_asm); (case u_hk => first | exact rfl | assumption); (case u_hdp => ktr_room); (case u_hu => ktr_units); (case u_hb => assumption)); intro e9ₖ h9ₖ g9ₖ tk9ₖ R9ₖ F9ₖ U9ₖ; (try k_sweep)); all_goals ((try revert U9ₖ); (try revert F9ₖ); (try revert R9ₖ); (try revert tk9ₖ); (try revert g9ₖ); (try revert h9ₖ); (try revert e9ₖ); intros)))
  trivial
theorem head_spec : ∀ {w : World} {mean : ExcName → Option Value} {mg mb : Str → Option Value} {dp un : Nat} {gd : Option (List Code)} {cn : Str} {cs : Scope} {a : Addr} {ccd : Value} {cl : List (Str × Addr)} {outer : List Env} {A₀ : Around} {base h₀ : Heap} {L : Addr} {m : Str → Option Value} {src : Addr} {so : Obj} {ps : Array Value} {rest : List (Addr × Obj)} {s : Shared}
    {Q E : Value → Shared → Prop} (B : Below A₀ base outer h₀) (F : Fr h₀ L s.heap m) (X : (hd.heap_1 w.params).In h₀) (N : News h₀ L s.heap ((src, so) :: ((326 : Addr), tabObj ps) :: rest)) (T : Top topProg LS mean mg mb h₀) (hk : cs.kind = .function) (hdp : dp < 840) (hu : un < 7500)
    (XB : (hd.heap_1 w.params).In base) (TB : Top topProg LS mean mg mb base) (D : KtsDicts (outer.filterMap (·.frame)) h₀) (C : CHid base 328 326) (I : TabInv (Str.ofString "_law_head_right.<locals>.<lambda>") ps rest) (hso : SrcO so) (q1 : @Ne Nat src 326) (r1 : ∀ p ∈ rest, p.1 ≠ src) (r2 : ∀ p ∈ rest, p.1 ≠ (326 : Addr))
    (ret : ∀ so' ps' h' tk' g', KtsTurn (outer.filterMap (·.frame)) h₀ g' → Fr g' L h' m → News g' L h' ((src, so') :: ((326 : Addr), tabObj ps') :: rest) → Below A₀ base outer g' → KtsDicts (outer.filterMap (·.frame)) g' → Q (.bool true) { s with heap := h', toks := tk' }),
    wpAny (model PySem.Challenge.rw_on0339_01.row.prog w) (ktrTop dp un gd cn cs L a ccd cl outer) (call (.ref 329) [.ref src]) Q E s := by
  k_fill
  intro w mean mg mb dp un gd cn cs a ccd cl outer A₀ base h₀ L m src so ps rest s Q E B F X N T hk hdp hu XB TB D C I hso q1 r1 r2 ret
  refine wpAny_call ?_
  k_dflt (refine' code_defCS (binds := [(Str.ofString "source", .ref src)]) ?k1 ?k2 ?k3 ?k4 ?k5 ?xb ?tb ?d0 ?t0 ?kA ?kF ?kK ?k6 ?k7 ?k8 ?k9 ?kB ?kD ?_ ?c2 ?c3 ?c4; (case xb => assumption); (case tb => assumption); (case d0 => assumption); (case t0 => exact KtsTurn.refl); (case kA => exact rfl); (case kF => exact rfl); (case kK => assumption); (case k1 => k_asm); (case k2 => k_asm); (case k3 => assumption); (case k4 => k_asm); (case k5 => assumption); (case k6 => k_is); (case k7 => k_is); (case k8 => ktr_room); (case k9 => exact BindsTo.of_eq rfl); (case kB => exact rfl); (case kD => decide +kernel); (case c2 => exact rfl); (case c3 => exact rfl); (case c4 => exact rfl))
  intro g1 L1 h1 tk1 cells FG1 F1 N1 Y1 B1 X1 T1 l1 D1
  k_lt l1
  obtain ⟨o1, o2, hE, d1, d2⟩ := CellsAre.two Y1
  subst hE
  clear Y1
  change o1.data = .cell none at d1
  change o2.data = .cell (some (.ref src)) at d2
  change Fr g1 L1 h1 (fun y => none) at F1
  simp only [List.cons_append, List.nil_append] at N1
  have hA := l1.2.2
  have z1 : ∀ p ∈ rest, p.1 ≠ L1 + 1 := fun p hp => Nat.ne_of_lt (Nat.lt_of_lt_of_le (allLt_mem hA hp) (by omega))
  have z2 : ∀ p ∈ rest, p.1 ≠ L1 + 1 + 1 := fun p hp => Nat.ne_of_lt (Nat.lt_of_lt_of_le (allLt_mem hA hp) (by omega))
  refine wp_id ?_
  k_fold
  clear X T
  k_steps
  refine Stop.go ?_
  rename IsRange _ _ _ _ _ _ _ _ => R2
  rename Fr _ _ _ _ => F2
  rename News _ _ _ _ => N2
  rename_i r9 tr9 o9 h9 tk9 ha9 hb9 hs9 Fz Nz h9b tkb t1 t2 t3 hkk
  refine CompSrc.range (n := (r9 - 0).toNat) rfl F2 N2 R2 (small_one (by omega) (by omega) (by omega) (by omega)) (rangeSize_nat _ _) (by rw [sizeLine_eq]; omega) ?_
  intro g
  refine compU_ind (n := (r9 - 0).toNat) (fun i ys nw => ∃ so', SrcO so' ∧ nw = (L1 + 1 + 1, o1) :: (L1 + 1, o2) :: (src, so') :: ((326 : Addr), tabObj ps) :: rest ∧ ys.length = i ∧ ∀ v ∈ ys, ∃ k t, v = Value.int k t ∧ 0 ≤ k ∧ k < 256) ?_ ?_ _ 0 [] _ (Nat.zero_add _) ⟨o9, hs9, rfl, rfl, by simp⟩
  · rintro i ys nw v I2 oI C2 oC D2 m₂ h tk E' hi ⟨so', hso', rfl, hlen, hys⟩ hP hC hm F N off ne
    have off2 := off
    simp only [Off3, and_true] at off2
    clear F2 N2 Fz Nz hs9
    k_steps
    rename_i rr trr oo hh tkk ha hb hs FF NN
    exact Stop.go ⟨_, _, (L1 + 1 + 1, o1) :: (L1 + 1, o2) :: (src, oo) :: ((326 : Addr), tabObj ps) :: rest, rfl, FF, NN, off, trivial, oo, hs, rfl, by simp [hlen], fun v hv => by
      rcases List.mem_append.mp hv with hv | hv
      · exact hys v hv
      · simp only [List.mem_cons, List.not_mem_nil, or_false] at hv
        exact ⟨_, _, hv, ha, hb⟩⟩
  · rintro ys nw ⟨so', hso', rfl, hlen, hys⟩
    clear F2 N2 Fz Nz hs9
    obtain ⟨ns, hI, hns⟩ := intsAre_of hys
    k_steps
    refine Stop.go ?_
    rename News _ _ _ _ => N5
    rename Fr _ _ _ _ => F5
    refine bytes_K F5 N5 ⟨_, N5.get List.mem_cons_self, rfl, _, rfl⟩ hI hns (by rw [hlen, sizeLine_eq]; omega) rfl ?_
    intro h6 t6 k6 F6 N6 _
    have hbs : ((ns.map fun n => n.toNat.toUInt8).toArray).size ≤ 8 := by
      have := hI.length
      simp
      omega
    generalize (ns.map fun n => n.toNat.toUInt8).toArray = bs at hbs ⊢
    clear N5 F5 hI hns hys hlen
    k_steps
    · refine Stop.go ?_
      rename_i f9 c9 oc9 vs9 t9 ct9 h9 tk9 tl9 ps9 F9 N9 m9 d9 e9 I9 l9 r9
      have hlt : bs.size < 4 := by omega
      k_dflt (refine' refused_spec (C := 44) ?u_B ?u_F ?u_X ?u_N ?u_T ?u_hk ?u_hdp ?u_hu ?u_XB ?u_TB ?u_D ?u_hC ?u_hb ?u_fn ?u_hD ?u_ret; (case u_B => k_asm); (case u_F => k_asm); (case u_X => k_asm); (case u_N => k_asm); (case u_T => k_asm); (case u_hk => first | exact rfl | assumption); (case u_hdp => ktr_room); (case u_hu => ktr_units); (case u_XB => assumption); (case u_TB => assumption); (case u_D => assumption); (case u_hC => k_is); (case u_hb => decide); (case u_fn => exact List.mem_cons_self))
      case u_hD =>
        intro mean3 mg3 mb3 dp3 un3 gd3 cn3 cs3 a3 ccd3 cl3 outer3 A3 base3 hh3 L3 m3 s3 Q3 E3 B3 F3 X3 N3 T3 hk3 hdp3 hu3 raz
        refine wpAny_call ?_
        k_dflt (refine' kla_code ?k1 ?k2 ?k3 ?k4 ?k5 ?kA ?kF ?kK ?k6 ?k7 ?k8 ?k9 ?kB ?_ ?c2 ?c3 ?c4 ?c5; (case kA => exact rfl); (case kF => exact rfl); (case kK => assumption); (case k1 => exact B3); (case k2 => exact F3); (case k3 => exact X3); (case k4 => exact N3); (case k5 => exact T3); (case k6 => exact List.mem_cons_self); (case k7 => exact codeRec_news N3 (List.mem_cons_of_mem _ (mem_tl m9 (fun p hp => by simp [hp]))) d9 e9); (case k8 => ktr_room); (case k9 => exact rfl); (case c5 => decide); (case kB => exact locs rfl); (case c2 => exact rfl); (case c3 => exact rfl); (case c4 => exact rfl))
        intro g4 L4 h4 FG4 F4 N4 B4 X4 T4
        dsimp only
        clear N9 F9
        k_fold
        k_steps
        exact raz _ _ _ _ (by assumption) (by assumption) (by assumption)
      case u_ret =>
        intro h10 tk10 g10 T10 F10 N10 B10 X10 P10 D10
        k_steps
        exact ret so' ps9 _ _ _ (by assumption) (by assumption) (news_sub (l' := (src, so') :: ((326 : Addr), tabObj ps9) :: rest) (by assumption) (by
          intro p hp
          rcases List.mem_cons.mp hp with e | hp
          · rw [e]; k_mem
          · rcases List.mem_cons.mp hp with e | hp
            · rw [e]; k_mem
            · k_mem)) (by assumption) (by assumption)
    · refine Q_dec (P := Q) (decide_eq_true rfl) ?_
      exact ret so' ps _ _ _ (by assumption) (by assumption) (news_sub (l' := (src, so') :: ((326 : Addr), tabObj ps) :: rest) (by assumption) (by
        intro p hp
        rcases List.mem_cons.mp hp with e | hp
        · rw [e]; k_mem
        · rcases List.mem_cons.mp hp with e | hp
          · rw [e]; k_mem
          · k_mem)) (by assumption) (by assumption)
end
section
open PySem PySem.W PySem.Calls PyProof.Rows PyProof.V PySem.Spec PyProof.Rows.LCg
theorem kclrC50 : True := by
  w_top off
  k_with_none
  trivial
theorem kset_C50_1 : True := by
  k_with "mem" => ((with_reducible first | exact mm0 | exact mm1 | exact mm2 | exact mm3 | exact mm4 | exact mm5 | exact mm6 | exact mm7 | exact mm8 | exact mm9 | exact mm10 | exact mm11 | exact mm12 | exact mm13 | exact mm14 | exact mm15 | exact mm16 | exact mm17 | exact mm18 | (refine List.mem_append_right _ ?_; walk_at "mem")))
  k_with "subs" => ((with_reducible (repeat (first | exact sub_same | exact sub_nil | exact sub_left sub_same | refine sub_keep ?_ | (refine sub_cons ?_ ?_; (focus (walk_at "mem"; done))) | refine sub_app ?_ ?_ | refine sub_skip ?_ | refine sub_right ?_))))
  k_with "k_ne" => (first | with_reducible assumption | (refine Ne.symm ?_; with_reducible assumption) | (refine neN ?_; (try dsimp only); omega))
  k_with "k_mem" => (first | assumption | exact List.mem_cons_self | (refine List.mem_cons_of_mem _ ?_; k_mem) | (refine List.mem_append_right _ ?_; k_mem))
  k_with "k_all" => (first | assumption | exact allLt_ne (by assumption) | exact allLt_ne1 (by assumption) | exact allLt_ne2 (by assumption) | exact allLt_ne3 (by assumption) | exact allLt_ne4 (by assumption) | exact allLt_ne5 (by assumption) | exact allLt_ne6 (by assumption))
  k_with "call ref cons nil" => (((k_here; (with_reducible show wpAny _ _ (call (Value.ref 281) _) _ _ _); k_dflt (refine' take_U ?u_B ?u_F ?u_X ?u_N ?u_T ?u_hk ?u_hdp ?u_hu ?u_U ?u_hso ?u_ht ?u_ht2 ?_; (case u_B => k_asm); (case u_F => k_asm); (case u_X => k_asm); (case u_N => k_asm); (case u_T => k_asm); (case u_hk => first | exact rfl | assumption); (case u_hdp => ktr_room); (case u_hu => ktr_units); (case u_U => k_updF); (case u_hso => assumption); (case u_ht => first | decide | omega); (case u_ht2 => first | decide | omega)); intro r9ₖ tr9ₖ o9ₖ h9ₖ tk9ₖ ha9ₖ hb9ₖ hs9ₖ F9ₖ N9ₖ; (try k_sweep); (try dsimp only at N9ₖ)); all_goals ((try revert N9ₖ); (try revert F9ₖ); (try revert hs9ₖ); (try revert hb9ₖ); (try revert ha9ₖ); (try revert tk9ₖ); (try revert h9ₖ); (try revert o9ₖ); (try revert tr9ₖ); (try revert r9ₖ); intros)))
  k_with "call ref cons nil" => (((k_here; (with_reducible show wpAny _ _ (call (Value.ref 221) _) _ _ _); k_dflt (refine' ports_new ?u_B ?u_F ?u_X ?u_N ?u_T ?u_hk ?u_hdp ?u_hu ?u_b1 ?u_b2 ?u_b3 ?_; (case u_B => k_asm); (case u_F => k_asm); (case u_X => k_asm); (case u_N => k_asm); (case u_T => k_asm); (case u_hk => first | exact rfl | assumption); (case u_hdp => ktr_room); (case u_hu => ktr_units); (case u_b1 => omega); (case u_b2 => omega); (case u_b3 => omega)); intro pa'ₖ pd'ₖ td'ₖ pt'ₖ to'ₖ h9ₖ tk9ₖ F9ₖ N9ₖ l9ₖ u1'ₖ u2'ₖ lo'ₖ hi'ₖ; (try k_sweep); k_lt l9ₖ; (try k_lt2 u1'ₖ); (try k_lt2 u2'ₖ)); all_goals ((try revert hi'ₖ); (try revert lo'ₖ); (try revert u2'ₖ); (try revert u1'ₖ); (try revert l9ₖ); (try revert N9ₖ); (try revert F9ₖ); (try revert tk9ₖ); (try revert h9ₖ); (try revert to'ₖ); (try revert pt'ₖ); (try revert td'ₖ); (try revert pd'ₖ); (try revert pa'ₖ); intros)))
  k_with "exec For Name Call cons nil" => ((refine Stop.here ?_))
  k_with "pyIter ref" => ((k_here; refine Stop.here ?_))
  k_with "PostT" => (dsimp only [PostT])
  trivial
theorem turn_map {x : Value} {src : Addr} (u : Str → Option Value) : (fun y => if y = Str.ofString "turn" then some x else if y = Str.ofString "turn" then u y else if y = Str.ofString "row" then u y else if y = Str.ofString "due" then u y else if y = Str.ofString "source" then some (Value.ref src) else none) = (fun y => if y = Str.ofString "turn" then (fun z => if z = Str.ofString "turn" then some x else u z) y else if y = Str.ofString "row" then (fun z => if z = Str.ofString "turn" then some x else u z) y else if y = Str.ofString "due" then (fun z => if z = Str.ofString "turn" then some x else u z) y else if y = Str.ofString "source" then some (Value.ref src) else none) := by
  funext y
  by_cases h : y = Str.ofString "turn" <;> simp [h]
theorem sorted_listI {prog : Program} {w : World} {A : Around} {E : Value → Shared → Prop} {s : Shared} {h₀ : Heap} {L l : Addr} {m : Str → Option Value} {news : List (Addr × Obj)} {vs : List Value} {ns : List Int} {c : Nat} {Q : Value → Shared → Prop} (F : Fr h₀ L s.heap m) (N : News h₀ L s.heap news) (hm : (l, listOf vs.toArray c) ∈ news) (hi : IntsAre vs ns) (h64 : ns.length < 64)
    (h : ∀ D vs' ns' c h' tk, Fr h₀ L h' m → News h₀ L h' ((D, listOf vs'.toArray c) :: news) → (∀ q ∈ news, q.1 < D) → IntsAre vs' ns' → ns'.Perm ns → ns'.Pairwise (· ≤ ·) → Q (.ref D) { s with heap := h', toks := tk }) :
    wpAny (model prog w) A (call (.builtin "sorted") [.ref l]) Q E s :=
  kso_sorted F N ⟨_, N.get hm, rfl, _, rfl⟩ hi h64 (fun D vs' ns' c h' F' N' l1 i' e' p' o' _ => h D vs' ns' c h' s.toks F' N' l1 i' p' o')
theorem ne_nilI {prog : Program} {w : World} {A : Around} {E : Value → Shared → Prop} {s : Shared} {h₀ : Heap} {L a b : Addr} {news : List (Addr × Obj)} {vs : List Value} {ns : List Int} {c : Nat} {bb : Bool} {Q : Value → Shared → Prop} (N : News h₀ L s.heap news) (ha : (a, listOf vs.toArray c) ∈ news) (hb : (b, listOf #[] 0) ∈ news) (hi : IntsAre vs ns) (hbb : bb = !decide (ns = [])) (hu : A.units + 64 < cLine) (h : Q (.bool bb) s) :
    wpAny (model prog w) A (compareOp .NotEq (.ref a) (.ref b)) Q E s := by
  subst hbb
  exact ne_intsK ⟨_, N.get ha, rfl, _, rfl⟩ hi (us := []) ⟨_, N.get hb, rfl, _, rfl⟩ .nil hu h
theorem len_listI {prog : Program} {w : World} {A : Around} {E : Value → Shared → Prop} {s : Shared} {h₀ : Heap} {L : Addr} {news : List (Addr × Obj)} {l : Addr} {vs : List Value} {ns : List Int} {n : Nat} {Q : Value → Shared → Prop}
    (N : News h₀ L s.heap news) (hm : (l, listOf vs.toArray n) ∈ news) (hi : IntsAre vs ns) (hl : ns.length ≤ 300) (h : ∀ tk tk', Q (.int (ns.length : Int) tk) { s with toks := tk' }) : wpAny (model prog w) A (call (.builtin "len") [.ref l]) Q E s :=
  len_listN N hm (by rw [hi.length]; exact hl) (by rw [hi.length]; exact h)
theorem kset_C50_2 : True := by
  k_with "call builtin:len" => (((k_here; k_dflt (refine' len_listI ?N ?hm ?hi ?hl ?_; (case N => k_asm); (case hm => k_mem); (case hi => assumption); (case hl => omega)); intro tk'ₖ t'ₖ); all_goals ((try revert t'ₖ); (try revert tk'ₖ); intros)))
  trivial
local macro_rules | `(tactic| walk_at "call builtin:sorted") => `(tactic| (k_here; k_dflt (first
  | (refine' sorted_dictI ?F ?N ?m ?d ?lo ?hh ?l ?_; (case F => k_asm); (case N => k_asm); (case m => k_mem); (case d => assumption); (case lo => assumption); (case hh => rfl); (case l => omega))
  | (refine' sorted_listI ?F ?N ?m ?d ?l ?_; (case F => k_asm); (case N => k_asm); (case m => k_mem); (case d => assumption); (case l => omega))); intro D1 v1 n1 c1 h1 tk1 F1 N1 l1 i1 p1 q1; (try k_lt l1); (try k_sweep)))
theorem kset_C50_3 : True := by
  k_with "compareOp NotEq ref ref" => ((k_here; first
  | (k_dflt (refine' ne_sorted ?N ?ha ?hb ?ia ?ib ?pa ?pb ?e ?sa ?sb ?hu ?_; (case N => k_asm); (case ha => k_mem); (case hb => k_mem); (case ia => assumption); (case ib => assumption); (case pa => assumption); (case pb => assumption); (case e => assumption); (case sa => assumption); (case sb => assumption); (case hu => ktr_units)))
  | (k_dflt (refine' ne_nilI ?N ?ha ?hb ?hi ?hbb ?hu ?_; (case N => k_asm); (case ha => k_mem); (case hb => k_mem); (case hi => assumption); (case hbb => exact rfl); (case hu => ktr_units)))))
  k_with "call builtin:list.pop" => (((k_here; k_dflt (refine' pop_atI ?F ?N ?U ?i ?h0 ?h1 ?z ?_; (case F => k_asm); (case N => k_asm); (case U => k_updF); (case i => assumption); (case h0 => assumption); (case h1 => omega); (case z => omega)); intro k'ₖ t'ₖ vs'ₖ c'ₖ h'ₖ hk'ₖ F'ₖ N'ₖ hi'ₖ; (try dsimp only at N'ₖ); (try k_sweep)); all_goals ((try revert hi'ₖ); (try revert N'ₖ); (try revert F'ₖ); (try revert hk'ₖ); (try revert h'ₖ); (try revert c'ₖ); (try revert vs'ₖ); (try revert t'ₖ); (try revert k'ₖ); intros)))
  k_with "CompSrc BinOp cons ref" => ((refine Stop.here ?_))
  k_with "CompSrcT" => ((refine Stop.here ?_))
  k_with "CompSrcT Name cons ref" => ((refine Stop.here ?_))
  k_with "CompEnd" => ((refine Stop.here ?_))
  k_with "CompEnd int" => ((refine Stop.here ?_))
  k_with "eval ListComp Name cons" => ((k_here; k_dflt (refine ListComp_T (F₀ := by k_asm) (by with_unfolding_all rfl) (by decide) (by rfl) (by decide) (by rfl) ?_)))
  k_with "eval Lambda" => (((k_here; k_dflt (refine' kla_eval ?d0 ?_; (case d0 => exact rfl)); k_dflt (refine' lam_any ?F ?N ?T ?C ?cd ?U ?I ?cl ?_; (case F => k_asm); (case N => k_asm); (case T => k_asm); (case cd => exact rfl); (case C => exact CHid.keep (by assumption) (by assumption)); (case U => k_updF); (case I => assumption); (case cl => exact rfl)); intro f9ₖ c9ₖ oc9ₖ vs9ₖ t9ₖ ct9ₖ h9ₖ tk9ₖ tl9ₖ ps9ₖ F9ₖ N9ₖ m9ₖ d9ₖ e9ₖ I9ₖ l9ₖ r9ₖ; (try dsimp only at N9ₖ)); all_goals ((try revert r9ₖ); (try revert l9ₖ); (try revert I9ₖ); (try revert e9ₖ); (try revert d9ₖ); (try revert m9ₖ); (try revert N9ₖ); (try revert F9ₖ); (try revert ps9ₖ); (try revert tl9ₖ); (try revert tk9ₖ); (try revert h9ₖ); (try revert ct9ₖ); (try revert t9ₖ); (try revert vs9ₖ); (try revert oc9ₖ); (try revert c9ₖ); (try revert f9ₖ); intros)))
  k_with "eval Lambda Call" => (((k_here; k_dflt (refine' kla_eval ?d0 ?_; (case d0 => exact rfl)); k_dflt (refine' lam_any ?F ?N ?T ?C ?cd ?U ?I ?cl ?_; (case F => k_asm); (case N => k_asm); (case T => k_asm); (case cd => exact rfl); (case C => exact CHid.keep (by assumption) (by assumption)); (case U => k_updF); (case I => assumption); (case cl => exact rfl)); intro f9ₖ c9ₖ oc9ₖ vs9ₖ t9ₖ ct9ₖ h9ₖ tk9ₖ tl9ₖ ps9ₖ F9ₖ N9ₖ m9ₖ d9ₖ e9ₖ I9ₖ l9ₖ r9ₖ; (try dsimp only at N9ₖ)); all_goals ((try revert r9ₖ); (try revert l9ₖ); (try revert I9ₖ); (try revert e9ₖ); (try revert d9ₖ); (try revert m9ₖ); (try revert N9ₖ); (try revert F9ₖ); (try revert ps9ₖ); (try revert tl9ₖ); (try revert tk9ₖ); (try revert h9ₖ); (try revert ct9ₖ); (try revert t9ₖ); (try revert vs9ₖ); (try revert oc9ₖ); (try revert c9ₖ); (try revert f9ₖ); intros)))
  k_with "eval Name" => ((k_here; (with_reducible show wpAny _ _ (eval (Expr.Name _ _) (envX _ _ _ _ _ _)) _ _ _); k_dflt (refine' nameX_F ?N ?c ?m ?d ?_ ?a ?b; (case a => rfl); (case b => rfl); (case N => k_asm); (case c => rfl); (case m => k_mem); (case d => k_asm))))
  k_with "leaving ref" => (((k_here; k_dflt (refine' leave_onS1X ?k0 ?k1 ?k2 ?k3 ?_; (case k2 => assumption); (case k0 => assumption); (case k1 => assumption); (case k3 => assumption)); intro h'ₖ R'ₖ U'ₖ; (try dsimp only at R'ₖ U'ₖ ⊢)); all_goals ((try revert U'ₖ); (try revert R'ₖ); (try revert h'ₖ); intros)))
  k_with "call ref cons nil" => ((k_here; (with_reducible show wpAny _ _ (call (Value.ref 295) _) _ _ _); refine Stop.here ?_))
  k_with "call ref cons nil" => ((k_here; (with_reducible show wpAny _ _ (call (Value.ref 218) _) _ _ _); refine Stop.here ?_))
  k_with "call ref cons nil" => ((k_here; (with_reducible show wpAny _ _ (call (Value.ref 197) _) _ _ _); refine Stop.here ?_))
  trivial
theorem behind_eq : ∀ {w : World} {mean : ExcName → Option Value} {mg mb : Str → Option Value} {dp un : Nat} {gd : Option (List Code)} {cn : Str} {cs : Scope} {a : Addr} {ccd : Value} {cl : List (Str × Addr)} {outer : List Env} {A₀ : Around} {base h₀ : Heap} {L : Addr} {m : Str → Option Value} {news : List (Addr × Obj)} {s : Shared}
    {Q E : Value → Shared → Prop} (B : Below A₀ base outer h₀) (F : Fr h₀ L s.heap m) (X : (hd.heap_1 w.params).In h₀) (N : News h₀ L s.heap news) (T : Top topProg LS mean mg mb h₀) (hk : cs.kind = .function) (hdp : dp < 890) (hu : un < 8000)
    {pa pd td : Addr} {pt : Nat → Tok} {pf pl fo : Int} {k : Int} {tk0 : Tok} (p1 : (pa, instObj 221 pd) ∈ news) (p2 : (pd, portD w pt pf pl fo td) ∈ news) (hk1 : k = pl)
    (ret : ∀ t9 h' tk', Fr h₀ L h' m → News h₀ L h' news → Q (.int pf t9) { s with heap := h', toks := tk' }),
    wpAny (model PySem.Challenge.rw_on0339_01.row.prog w) (ktrTop dp un gd cn cs L a ccd cl outer) (call (.ref 211) [.ref pa, .int k tk0]) Q E s := by
  intro w mean mg mb dp un gd cn cs a ccd cl outer A₀ base h₀ L m news s Q E B F X N T hk hdp hu pa pd td pt pf pl fo k tk0 p1 p2 hk1 ret
  refine behind_spec B F X N T hk hdp hu p1 p2 (fun t9 h' tk' F' N' => ?_)
  rw [if_pos hk1]
  exact ret t9 h' tk' F' N'
theorem behind_ne : ∀ {w : World} {mean : ExcName → Option Value} {mg mb : Str → Option Value} {dp un : Nat} {gd : Option (List Code)} {cn : Str} {cs : Scope} {a : Addr} {ccd : Value} {cl : List (Str × Addr)} {outer : List Env} {A₀ : Around} {base h₀ : Heap} {L : Addr} {m : Str → Option Value} {news : List (Addr × Obj)} {s : Shared}
    {Q E : Value → Shared → Prop} (B : Below A₀ base outer h₀) (F : Fr h₀ L s.heap m) (X : (hd.heap_1 w.params).In h₀) (N : News h₀ L s.heap news) (T : Top topProg LS mean mg mb h₀) (hk : cs.kind = .function) (hdp : dp < 890) (hu : un < 8000)
    {pa pd td : Addr} {pt : Nat → Tok} {pf pl fo : Int} {k : Int} {tk0 : Tok} (p1 : (pa, instObj 221 pd) ∈ news) (p2 : (pd, portD w pt pf pl fo td) ∈ news) (hk1 : k ≠ pl)
    (ret : ∀ t9 h' tk', Fr h₀ L h' m → News h₀ L h' news → Q (.int (k + 1) t9) { s with heap := h', toks := tk' }),
    wpAny (model PySem.Challenge.rw_on0339_01.row.prog w) (ktrTop dp un gd cn cs L a ccd cl outer) (call (.ref 211) [.ref pa, .int k tk0]) Q E s := by
  intro w mean mg mb dp un gd cn cs a ccd cl outer A₀ base h₀ L m news s Q E B F X N T hk hdp hu pa pd td pt pf pl fo k tk0 p1 p2 hk1 ret
  refine behind_spec B F X N T hk hdp hu p1 p2 (fun t9 h' tk' F' N' => ?_)
  rw [if_neg hk1]
  exact ret t9 h' tk' F' N'
theorem kset_C50_4 : True := by
  k_with "call ref cons nil" => (((k_here; (with_reducible show wpAny _ _ (call (Value.ref 211) _) _ _ _); k_dflt (refine' behind_ne ?u_B ?u_F ?u_X ?u_N ?u_T ?u_hk ?u_hdp ?u_hu ?u_p1 ?u_p2 ?u_hk1 ?_; (case u_B => k_asm); (case u_F => k_asm); (case u_X => k_asm); (case u_N => k_asm); (case u_T => k_asm); (case u_hk => first | exact rfl | assumption); (case u_hdp => ktr_room); (case u_hu => ktr_units); (case u_p1 => k_mem); (case u_p2 => k_mem); (case u_hk1 => omega)); intro t9ₖ h9ₖ tk9ₖ F9ₖ N9ₖ; (try k_sweep)); all_goals ((try revert N9ₖ); (try revert F9ₖ); (try revert tk9ₖ); (try revert h9ₖ); (try revert t9ₖ); intros)))
  k_with "call ref cons nil" => (((k_here; (with_reducible show wpAny _ _ (call (Value.ref 211) _) _ _ _); k_dflt (refine' behind_eq ?u_B ?u_F ?u_X ?u_N ?u_T ?u_hk ?u_hdp ?u_hu ?u_p1 ?u_p2 ?u_hk1 ?_; (case u_B => k_asm); (case u_F => k_asm); (case u_X => k_asm); (case u_N => k_asm); (case u_T => k_asm); (case u_hk => first | exact rfl | assumption); (case u_hdp => ktr_room); (case u_hu => ktr_units); (case u_p1 => k_mem); (case u_p2 => k_mem); (case u_hk1 => omega)); intro t9ₖ h9ₖ tk9ₖ F9ₖ N9ₖ; (try k_sweep)); all_goals ((try revert N9ₖ); (try revert F9ₖ); (try revert tk9ₖ); (try revert h9ₖ); (try revert t9ₖ); intros)))
  trivial
theorem Q_true {S : Type} {P : Value → S → Prop} {b : Bool} {s : S} (h : b = true) (k : P (.bool true) s) : P (.bool b) s := by subst h; exact k
noncomputable def portL (w : World) (src L1 pa pd td lh : Addr) (f n fo : Int) (pt : Nat → Tok) (o1 o2 o3 o4 o5 o6 so to : Obj) (vs : List Value) (c : Nat) (ps : Array Value) (R0 : List (Addr × Obj)) : List (Addr × Obj) :=
  (lh, listOf vs.toArray c) :: (td, to) :: (pa, instObj 221 pd) :: (pd, portD w pt f (f + n - 1) fo td) :: (L1 + 1 + 1 + 1 + 1 + 1 + 1, o6) :: (L1 + 1 + 1 + 1 + 1 + 1, o5) :: (L1 + 1 + 1 + 1 + 1, o4) :: (L1 + 1 + 1 + 1, o3) :: (L1 + 1 + 1, o2) :: (L1 + 1, o1) :: (src, so) :: ((321 : Addr), tabObj ps) :: R0
def PJ (w : World) (src L1 pa pd td lh : Addr) (f n : Int) (tf tn : Tok) (rest : List (Addr × Obj)) (m : Str → Option Value) (nx : List (Addr × Obj)) : Prop :=
  ∃ (o1 o2 o3 o4 o5 o6 so to : Obj) (ps : Array Value) (R0 : List (Addr × Obj)) (vs : List Value) (c : Nat) (hl : List Int) (kvs : List (Int × Value)) (pt : Nat → Tok) (fo : Int) (tfo : Tok) (y5 : Option Value) (u : Str → Option Value),
    nx = portL w src L1 pa pd td lh f n fo pt o1 o2 o3 o4 o5 o6 so to vs c ps R0 ∧
    o1.data = .cell (some (.int f tf)) ∧ o2.data = .cell (some (.int n tn)) ∧ o3.data = .cell (some (.ref lh)) ∧ o4.data = .cell (some (.int fo tfo)) ∧ o5.data = .cell y5 ∧ o6.data = .cell (some (.ref pa)) ∧
    SrcO so ∧ TabInv (Str.ofString "_law_ports_right.<locals>.<lambda>") ps R0 ∧ to.IsDictOf (intKind PySem.Challenge.rw_on0339_01.row.prog w) kvs ∧ IntsAre vs hl ∧ kvs.map (·.1) = hl ∧ (∀ x ∈ hl, f ≤ x ∧ x < f + n) ∧ f ≤ fo ∧ fo < f + n ∧ OffAll R0 [lh, td, pa, pd, L1 + 1 + 1 + 1 + 1 + 1 + 1, L1 + 1 + 1 + 1 + 1 + 1, L1 + 1 + 1 + 1 + 1, L1 + 1 + 1 + 1, L1 + 1 + 1, L1 + 1, src, 321] ∧ (∀ p ∈ rest, p ∈ R0) ∧
    m = (fun y => if y = Str.ofString "turn" then u y else if y = Str.ofString "row" then u y else if y = Str.ofString "due" then u y else if y = Str.ofString "source" then some (.ref src) else none)
def MidP (X : Shared → Prop) (f : Flow) (s : Shared) : Prop := f = .next ∧ X s
def TestP (s₁ : Shared) (g : Heap) (L1 : Addr) (m : Str → Option Value) (led : Obj → List (Addr × Obj)) (ne : Prop) (b : Bool) (s2 : Shared) : Prop :=
  (b = true → ne) ∧ ∃ so' h' tk, s2 = { s₁ with heap := h', toks := tk } ∧ SrcO so' ∧ Fr g L1 h' m ∧ News g L1 h' (led so')
theorem turn_split {M : Model} {A : Around} {st : Stmt} {rs : List Stmt} {env : Env} {Q : Flow → Shared → Prop} {E : Value → Shared → Prop} {fs : List Addr} {g₁ : Heap} {L : Addr} {J : (Str → Option Value) → List (Addr × Obj) → Prop} {own : List (Addr × Obj)} {s₁ : Shared}
    (h1 : wpAny M A (exec st env) (MidP (TurnT fs g₁ L J own s₁)) E s₁)
    (h2 : ∀ g' h' tk m' nx, KtsTurn fs g₁ g' → Fr g' L h' m' → News g' L h' (nx ++ own) → TbOff own nx → J m' nx → wpAny M A (execs rs env) (PostT fs g₁ L J own s₁ Q) E { s₁ with heap := h', toks := tk }) :
    wpAny M A (execs (st :: rs) env) (PostT fs g₁ L J own s₁ Q) E s₁ :=
  wpAny_execs_cons (wpAny_mono h1 (fun f s' ⟨hf, g', h', tk, m', nx, e, a, b, c, d, j⟩ => by subst hf; subst e; exact h2 g' h' tk m' nx a b c d j) fun _ _ e => e)
theorem if_split {M : Model} {A : Around} {test : PySem.Expr} {body orelse : List Stmt} {pos : Pos} {env : Env} {Q : Flow → Shared → Prop} {E : Value → Shared → Prop} {s₁ g L1 m} (led : Obj → List (Addr × Obj)) (ne : Prop)
    (F : Fr g L1 s₁.heap m) (h1 : wpAny M A (isTrue test env (eval test env)) (TestP s₁ g L1 m led ne) E s₁)
    (h2 : ne → ∀ so' h' tk, SrcO so' → Fr g L1 h' m → News g L1 h' (led so') → wpAny M A (execs body env) Q E { s₁ with heap := h', toks := tk })
    (h3 : ∀ so' h' tk, SrcO so' → Fr g L1 h' m → News g L1 h' (led so') → wpAny M A (execs orelse env) Q E { s₁ with heap := h', toks := tk }) : wpAny M A (exec (.If test body orelse pos) env) Q E s₁ :=
  wpAny_If (wpAny_mono h1 (fun b s' ⟨hne, so', h', tk, e, a, f, n⟩ => by
    subst e
    cases b with
    | true => exact h2 (hne rfl) so' h' tk a f n
    | false => exact h3 so' h' tk a f n) fun _ _ e => e)
theorem notin_yes {prog : Program} {w : World} {A : Around} {E : Value → Shared → Prop} {s : Shared} {h₀ : Heap} {L : Addr} {news : List (Addr × Obj)} {l : Addr} {vs : List Value} {ns : List Int} {n : Nat} {k : Int} {t : Tok} {Q : Value → Shared → Prop}
    (N : News h₀ L s.heap news) (hm : (l, listOf vs.toArray n) ∈ news) (hi : IntsAre vs ns) (hx : k ∉ ns) (h : Q (.bool true) s) : wpAny (model prog w) A (compareOp .NotIn (.int k t) (.ref l)) Q E s :=
  notin_list_ints ⟨_, N.get hm, rfl, _, rfl⟩ hi (by
    have : (!(ns.any (· == k))) = true := by
      rw [Bool.not_eq_true', List.any_eq_false]
      intro x h' e
      exact hx (eq_of_beq e ▸ h')
    rw [this]; exact h)
theorem notin_no {prog : Program} {w : World} {A : Around} {E : Value → Shared → Prop} {s : Shared} {h₀ : Heap} {L : Addr} {news : List (Addr × Obj)} {l : Addr} {vs : List Value} {ns : List Int} {n : Nat} {k : Int} {t : Tok} {Q : Value → Shared → Prop}
    (N : News h₀ L s.heap news) (hm : (l, listOf vs.toArray n) ∈ news) (hi : IntsAre vs ns) (hx : k ∈ ns) (h : Q (.bool false) s) : wpAny (model prog w) A (compareOp .NotIn (.int k t) (.ref l)) Q E s :=
  notin_list_ints ⟨_, N.get hm, rfl, _, rfl⟩ hi (by
    have : (!(ns.any (· == k))) = false := by
      rw [Bool.not_eq_false', List.any_eq_true]
      exact ⟨k, hx, beq_self_eq_true k⟩
    rw [this]; exact h)
theorem port_led {w : World} {src L1 pa pd td lh : Addr} {f n fo fo' : Int} {pt pt' : Nat → Tok} {o1 o2 o3 o4 o5 o6 so to to' : Obj} {vs : List Value} {c : Nat} {ps : Array Value} {R : List (Addr × Obj)}
    (g0 : @LT.lt Nat _ src (L1 + 1)) (g1 : @LT.lt Nat _ 321 (L1 + 1)) (g2 : @LT.lt Nat _ (L1 + 1 + 1 + 1 + 1 + 1 + 1) pd) (u1 : @LT.lt Nat _ pd pa) (u2 : @LT.lt Nat _ pa td) (g3 : @LT.lt Nat _ td lh) (r1 : ∀ p ∈ R, p.1 ≠ pd) (r2 : ∀ p ∈ R, p.1 ≠ td) :
    ∀ p ∈ portL w src L1 pa pd td lh f n fo' pt' o1 o2 o3 o4 o5 o6 so to' vs c ps R, p ∈ (pd, portD w pt' f (f + n - 1) fo' td) :: (td, to') :: offA (offA (portL w src L1 pa pd td lh f n fo pt o1 o2 o3 o4 o5 o6 so to vs c ps R) pd) td := by
  have key : ∀ p ∈ portL w src L1 pa pd td lh f n fo pt o1 o2 o3 o4 o5 o6 so to vs c ps R, p.1 ≠ pd → p.1 ≠ td → p ∈ (pd, portD w pt' f (f + n - 1) fo' td) :: (td, to') :: offA (offA (portL w src L1 pa pd td lh f n fo pt o1 o2 o3 o4 o5 o6 so to vs c ps R) pd) td :=
    fun p hp h1 h2 => List.mem_cons_of_mem _ (List.mem_cons_of_mem _ (mem_offA.mpr ⟨mem_offA.mpr ⟨hp, h1⟩, h2⟩))
  have N : ∀ {a b : Addr}, @LT.lt Nat _ a b → @Ne Nat a b := fun h => Nat.ne_of_lt h
  have M : ∀ {a b : Addr}, @LT.lt Nat _ b a → @Ne Nat a b := fun h => Nat.ne_of_gt h
  refine sub_cons (key _ (by unfold portL; exact List.mem_cons_self) (M (by omega)) (M g3)) ?_
  refine sub_cons (List.mem_cons_of_mem _ List.mem_cons_self) ?_
  refine sub_cons (key _ (by unfold portL; k_mem) (M u1) (N u2)) ?_
  refine sub_cons List.mem_cons_self ?_
  refine sub_cons (key _ (by unfold portL; k_mem) (N g2) (N (by omega))) ?_
  refine sub_cons (key _ (by unfold portL; k_mem) (N (by omega)) (N (by omega))) ?_
  refine sub_cons (key _ (by unfold portL; k_mem) (N (by omega)) (N (by omega))) ?_
  refine sub_cons (key _ (by unfold portL; k_mem) (N (by omega)) (N (by omega))) ?_
  refine sub_cons (key _ (by unfold portL; k_mem) (N (by omega)) (N (by omega))) ?_
  refine sub_cons (key _ (by unfold portL; k_mem) (N (by omega)) (N (by omega))) ?_
  refine sub_cons (key _ (by unfold portL; k_mem) (N (by omega)) (N (by omega))) ?_
  refine sub_cons (key _ (by unfold portL; k_mem) (N (by omega)) (N (by omega))) ?_
  exact fun p hp => key p (by unfold portL; (iterate 12 refine List.mem_cons_of_mem _ ?_); exact hp) (r1 p hp) (r2 p hp)
theorem portL_of {w : World} {src L1 pa pd td lh : Addr} {f n fo : Int} {pt : Nat → Tok} {o1 o2 o3 o4 o5 o6 so to : Obj} {vs : List Value} {c : Nat} {ps : Array Value} {R R' led : List (Addr × Obj)}
    (h : ∀ p ∈ portL w src L1 pa pd td lh f n fo pt o1 o2 o3 o4 o5 o6 so to vs c ps R, p ∈ led) (t : ∀ p ∈ R', p ∈ led) : ∀ p ∈ portL w src L1 pa pd td lh f n fo pt o1 o2 o3 o4 o5 o6 so to vs c ps R', p ∈ led := by
  unfold portL at h ⊢
  iterate 12
    refine sub_cons (h _ List.mem_cons_self) ?_
    replace h := fun p hp => h p (List.mem_cons_of_mem _ hp)
  exact t
theorem led_ad {A R l : List (Addr × Obj)} {ds : List Addr} (e : l = A ++ R) (ed : A.map Prod.fst = ds) : ∀ d ∈ ds, ∃ o, (d, o) ∈ l := fun d hd => by
  subst e ed
  obtain ⟨p, hp, rfl⟩ := List.mem_map.mp hd
  exact ⟨p.2, List.mem_append_left _ hp⟩
theorem led_cases {A R l : List (Addr × Obj)} {ds : List Addr} {q : Addr × Obj} (e : l = A ++ R) (ed : A.map Prod.fst = ds) (h : q ∈ l) : q.1 ∈ ds ∨ q ∈ R := by
  subst e ed
  exact (List.mem_append.mp h).imp (fun h => List.mem_map_of_mem h) id
theorem portL_ad {w : World} {src L1 pa pd td lh : Addr} {f n fo : Int} {pt : Nat → Tok} {o1 o2 o3 o4 o5 o6 so to : Obj} {vs : List Value} {c : Nat} {ps : Array Value} {R : List (Addr × Obj)} :
    ∀ d ∈ [lh, td, pa, pd, L1 + 1 + 1 + 1 + 1 + 1 + 1, L1 + 1 + 1 + 1 + 1 + 1, L1 + 1 + 1 + 1 + 1, L1 + 1 + 1 + 1, L1 + 1 + 1, L1 + 1, src, 321], ∃ o, (d, o) ∈ portL w src L1 pa pd td lh f n fo pt o1 o2 o3 o4 o5 o6 so to vs c ps R :=
  led_ad (A := [_, _, _, _, _, _, _, _, _, _, _, _]) rfl rfl
theorem portL_cases {w : World} {src L1 pa pd td lh : Addr} {f n fo : Int} {pt : Nat → Tok} {o1 o2 o3 o4 o5 o6 so to : Obj} {vs : List Value} {c : Nat} {ps : Array Value} {R : List (Addr × Obj)} {q : Addr × Obj}
    (h : q ∈ portL w src L1 pa pd td lh f n fo pt o1 o2 o3 o4 o5 o6 so to vs c ps R) : q.1 ∈ [lh, td, pa, pd, L1 + 1 + 1 + 1 + 1 + 1 + 1, L1 + 1 + 1 + 1 + 1 + 1, L1 + 1 + 1 + 1 + 1, L1 + 1 + 1 + 1, L1 + 1 + 1, L1 + 1, src, 321] ∨ q ∈ R :=
  led_cases (A := [_, _, _, _, _, _, _, _, _, _, _, _]) rfl rfl h
theorem turn_end {w : World} {src L1 pa pd td lh : Addr} {f n fo : Int} {pt : Nat → Tok} {o1 o2 o3 o4 o5 o6 so to : Obj} {vs : List Value} {c : Nat} {ps : Array Value} {R0 rr own tl led rest : List (Addr × Obj)} {fs : List Addr} {g₁ g' h' : Heap} {m' : Str → Option Value} {tk : Nat} {s₁ : Shared} {tf tn tfo : Tok} {hl : List Int} {kvs : List (Int × Value)} {y5 : Option Value}
    (T' : KtsTurn fs g₁ g') (F' : Fr g' L1 h' m') (N' : News g' L1 h' led) (hled : ∀ p ∈ portL w src L1 pa pd td lh f n fo pt o1 o2 o3 o4 o5 o6 so to vs c ps (tl ++ rr), p ∈ led)
    (hR0 : ∀ p ∈ R0, p ∈ rr) (hRo : ∀ p ∈ own, p ∈ rr) (hO : OffAll rr [lh, td, pa, pd, L1 + 1 + 1 + 1 + 1 + 1 + 1, L1 + 1 + 1 + 1 + 1 + 1, L1 + 1 + 1 + 1 + 1, L1 + 1 + 1 + 1, L1 + 1 + 1, L1 + 1, src, 321]) (hRR : ∀ p ∈ own, ∀ q ∈ R0, p.1 ≠ q.1) (r9 : ∀ r ∈ tl, (∀ d ∈ [lh, td, pa, pd, L1 + 1 + 1 + 1 + 1 + 1 + 1, L1 + 1 + 1 + 1 + 1 + 1, L1 + 1 + 1 + 1 + 1, L1 + 1 + 1 + 1, L1 + 1 + 1, L1 + 1, src, 321], @LT.lt Nat _ d r.1) ∧ ∀ q ∈ rr, @LT.lt Nat _ q.1 r.1)
    (e1 : o1.data = .cell (some (.int f tf))) (e2 : o2.data = .cell (some (.int n tn))) (e3 : o3.data = .cell (some (.ref lh))) (e4 : o4.data = .cell (some (.int fo tfo))) (e5 : o5.data = .cell y5) (e6 : o6.data = .cell (some (.ref pa)))
    (hso : SrcO so) (I : TabInv (Str.ofString "_law_ports_right.<locals>.<lambda>") ps (tl ++ R0)) (hd : to.IsDictOf (intKind PySem.Challenge.rw_on0339_01.row.prog w) kvs) (hI : IntsAre vs hl) (hkeys : kvs.map (·.1) = hl) (hin : ∀ x ∈ hl, f ≤ x ∧ x < f + n) (hfo1 : f ≤ fo) (hfo2 : fo < f + n) (hrest : ∀ p ∈ rest, p ∈ R0)
    (hm : ∃ u : Str → Option Value, m' = fun y => if y = Str.ofString "turn" then u y else if y = Str.ofString "row" then u y else if y = Str.ofString "due" then u y else if y = Str.ofString "source" then some (.ref src) else none) :
    TurnT fs g₁ L1 (PJ w src L1 pa pd td lh f n tf tn rest) own s₁ { s₁ with heap := h', toks := tk } := by
  obtain ⟨u, hm⟩ := hm
  have hoff : OffAll (tl ++ R0) [lh, td, pa, pd, L1 + 1 + 1 + 1 + 1 + 1 + 1, L1 + 1 + 1 + 1 + 1 + 1, L1 + 1 + 1 + 1 + 1, L1 + 1 + 1 + 1, L1 + 1 + 1, L1 + 1, src, 321] := OffAll.app (fun p hp d hd => Nat.ne_of_gt ((r9 p hp).1 d hd)) (fun p hp => hO p (hR0 p hp))
  refine ⟨g', h', tk, m', portL w src L1 pa pd td lh f n fo pt o1 o2 o3 o4 o5 o6 so to vs c ps (tl ++ R0), rfl, T', F', ?_, ?_, o1, o2, o3, o4, o5, o6, so, to, ps, tl ++ R0, vs, c, hl, kvs, pt, fo, tfo, y5, u, rfl, e1, e2, e3, e4, e5, e6, hso, I, hd, hI, hkeys, hin, hfo1, hfo2, hoff, fun p hp => List.mem_append_right _ (hrest p hp), hm⟩
  · have hrr : ∀ p ∈ tl ++ rr, p ∈ led := fun p hp => hled p (by unfold portL; (iterate 12 refine List.mem_cons_of_mem _ ?_); exact hp)
    refine news_sub N' (sub_app (portL_of hled (fun p hp => ?_)) fun p hp => hrr p (List.mem_append_right _ (hRo p hp)))
    rcases List.mem_append.mp hp with hp | hp
    · exact hrr p (List.mem_append_left _ hp)
    · exact hrr p (List.mem_append_right _ (hR0 p hp))
  · intro p hp q hq
    rcases portL_cases hq with h | h
    · exact hO p (hRo p hp) q.1 h
    · rcases List.mem_append.mp h with h | h
      · exact Nat.ne_of_lt ((r9 q h).2 p (hRo p hp))
      · exact hRR p hp q h
theorem tl_lt {w : World} {src L1 pa pd td lh : Addr} {f n fo : Int} {pt : Nat → Tok} {o1 o2 o3 o4 o5 o6 so to : Obj} {vs : List Value} {c : Nat} {ps : Array Value} {rr tl : List (Addr × Obj)}
    (r9 : ∀ r ∈ tl, ∀ q ∈ portL w src L1 pa pd td lh f n fo pt o1 o2 o3 o4 o5 o6 so to vs c ps rr, @LT.lt Nat _ q.1 r.1) : ∀ r ∈ tl, (∀ d ∈ [lh, td, pa, pd, L1 + 1 + 1 + 1 + 1 + 1 + 1, L1 + 1 + 1 + 1 + 1 + 1, L1 + 1 + 1 + 1 + 1, L1 + 1 + 1 + 1, L1 + 1 + 1, L1 + 1, src, 321], @LT.lt Nat _ d r.1) ∧ ∀ q ∈ rr, @LT.lt Nat _ q.1 r.1 := fun r hr =>
  ⟨fun d hd => let ⟨_, ho⟩ := portL_ad d hd; r9 r hr _ ho, fun q hq => r9 r hr q (by unfold portL; (iterate 12 refine List.mem_cons_of_mem _ ?_); exact hq)⟩
theorem led_lam {w : World} {src L1 pa pd td lh : Addr} {f n fo : Int} {pt : Nat → Tok} {o1 o2 o3 o4 o5 o6 so to : Obj} {vs : List Value} {c : Nat} {ps : Array Value} {rr tl : List (Addr × Obj)} {x : Addr × Obj} :
    ∀ p ∈ portL w src L1 pa pd td lh f n fo pt o1 o2 o3 o4 o5 o6 so to vs c ps (tl ++ rr), p ∈ x :: (tl ++ portL w src L1 pa pd td lh f n fo pt o1 o2 o3 o4 o5 o6 so to vs c ps rr) :=
  portL_of (R := rr) (fun p hp => List.mem_cons_of_mem _ (List.mem_append_right _ hp)) (sub_app (fun p hp => List.mem_cons_of_mem _ (List.mem_append_left _ hp)) (fun p hp => List.mem_cons_of_mem _ (List.mem_append_right _ (by unfold portL; (iterate 12 refine List.mem_cons_of_mem _ ?_); exact hp))))
theorem pj_map {m' : Str → Option Value} {src : Addr} (hs : m' (Str.ofString "source") = some (.ref src)) (hn : ∀ y, y ≠ Str.ofString "turn" → y ≠ Str.ofString "row" → y ≠ Str.ofString "due" → y ≠ Str.ofString "source" → m' y = none) :
    ∃ u : Str → Option Value, m' = fun y => if y = Str.ofString "turn" then u y else if y = Str.ofString "row" then u y else if y = Str.ofString "due" then u y else if y = Str.ofString "source" then some (.ref src) else none := by
  refine ⟨m', funext fun y => ?_⟩
  by_cases h1 : y = Str.ofString "turn"
  · rw [if_pos h1]
  · by_cases h2 : y = Str.ofString "row"
    · rw [if_neg h1, if_pos h2]
    · by_cases h3 : y = Str.ofString "due"
      · rw [if_neg h1, if_neg h2, if_pos h3]
      · by_cases h4 : y = Str.ofString "source"
        · rw [if_neg h1, if_neg h2, if_neg h3, if_pos h4, h4]; exact hs
        · rw [if_neg h1, if_neg h2, if_neg h3, if_neg h4]; exact hn y h1 h2 h3 h4
theorem row_item {f n fo : Int} {N i : Nat} {ys : List Value} {v : Value} (h : IntsAre ys (rowP f n fo N)) (hi : i < N) (hv : ys.toArray[i]? = some v) : ∃ t, v = .int (nthP f (f + n - 1) fo i) t := by
  have h1 : (rowP f n fo N)[i]? = some (nthP f (f + n - 1) fo i) := by
    unfold rowP
    rw [List.getElem?_map, List.getElem?_range hi]
    rfl
  obtain ⟨t, ht⟩ := ints_get h h1
  rw [List.getElem?_toArray, ht] at hv
  exact ⟨t, (Option.some.inj hv).symm⟩
theorem row_len {f n fo : Int} {N : Nat} {ys : List Value} (h : IntsAre ys (rowP f n fo N)) : ys.length = N := by
  rw [h.length]; simp [rowP]
theorem kset_C50_5 : True := by
  k_with "compareOp NotIn int ref" => ((k_here; k_dflt (first
  | (refine' notin_yes ?N ?hm ?hi ?hx ?_; (case N => k_asm); (case hm => k_mem); (case hi => assumption); (case hx => assumption))
  | (refine' notin_no ?N ?hm ?hi ?hx ?_; (case N => k_asm); (case hm => k_mem); (case hi => assumption); (case hx => assumption)))))
  trivial
theorem ports_spec : ∀ {w : World} {mean : ExcName → Option Value} {mg mb : Str → Option Value} {dp un : Nat} {gd : Option (List Code)} {cn : Str} {cs : Scope} {a : Addr} {ccd : Value} {cl : List (Str × Addr)} {outer : List Env} {A₀ : Around} {base h₀ : Heap} {L : Addr} {m : Str → Option Value} {src : Addr} {so : Obj} {ps : Array Value} {rest : List (Addr × Obj)} {s : Shared}
    {Q E : Value → Shared → Prop} (B : Below A₀ base outer h₀) (F : Fr h₀ L s.heap m) (X : (hd.heap_1 w.params).In h₀) (N : News h₀ L s.heap ((src, so) :: ((321 : Addr), tabObj ps) :: rest)) (T : Top topProg LS mean mg mb h₀) (hk : cs.kind = .function) (hdp : dp < 840) (hu : un < 7500)
    (XB : (hd.heap_1 w.params).In base) (TB : Top topProg LS mean mg mb base) (D : KtsDicts (outer.filterMap (·.frame)) h₀) (C : CHid base 323 321) (I : TabInv (Str.ofString "_law_ports_right.<locals>.<lambda>") ps rest) (hso : SrcO so) (q1 : @Ne Nat src 321) (r1 : ∀ p ∈ rest, p.1 ≠ src) (r2 : ∀ p ∈ rest, p.1 ≠ (321 : Addr))
    (ret : ∀ so' ps' h' tk' g', KtsTurn (outer.filterMap (·.frame)) h₀ g' → Fr g' L h' m → News g' L h' ((src, so') :: ((321 : Addr), tabObj ps') :: rest) → Below A₀ base outer g' → KtsDicts (outer.filterMap (·.frame)) g' → SrcO so' → Q (.bool true) { s with heap := h', toks := tk' }),
    wpAny (model PySem.Challenge.rw_on0339_01.row.prog w) (ktrTop dp un gd cn cs L a ccd cl outer) (call (.ref 324) [.ref src]) Q E s := by
  k_fill
  intro w mean mg mb dp un gd cn cs a ccd cl outer A₀ base h₀ L m src so ps rest s Q E B F X N T hk hdp hu XB TB D C I hso q1 r1' r2' ret
  refine wpAny_call ?_
  k_dflt (refine' code_defCS (binds := [(Str.ofString "source", .ref src)]) ?k1 ?k2 ?k3 ?k4 ?k5 ?xb ?tb ?d0 ?t0 ?kA ?kF ?kK ?k6 ?k7 ?k8 ?k9 ?kB ?kD ?_ ?c2 ?c3 ?c4; (case xb => assumption); (case tb => assumption); (case d0 => assumption); (case t0 => exact KtsTurn.refl); (case kA => exact rfl); (case kF => exact rfl); (case kK => assumption); (case k1 => k_asm); (case k2 => k_asm); (case k3 => assumption); (case k4 => k_asm); (case k5 => assumption); (case k6 => k_is); (case k7 => k_is); (case k8 => ktr_room); (case k9 => exact BindsTo.of_eq rfl); (case kB => exact rfl); (case kD => decide +kernel); (case c2 => exact rfl); (case c3 => exact rfl); (case c4 => exact rfl))
  intro g1 L1 h1 tk1 cells FG1 F1 N1 Y1 B1 X1 T1 l1 D1
  k_lt l1
  obtain ⟨o1, o2, o3, o4, o5, o6, hE, d1, d2, d3, d4, d5, d6⟩ := kc_six Y1
  subst hE
  clear Y1
  change o1.data = .cell none at d1
  change o2.data = .cell none at d2
  change o3.data = .cell none at d3
  change o4.data = .cell none at d4
  change o5.data = .cell none at d5
  change o6.data = .cell none at d6
  change Fr g1 L1 h1 (fun y => if y = Str.ofString "source" then some (.ref src) else none) at F1
  simp only [List.cons_append, List.nil_append] at N1
  have hA := l1.2.2
  have z1 : ∀ p ∈ rest, p.1 ≠ L1 + 1 := fun p hp => Nat.ne_of_lt (Nat.lt_of_lt_of_le (allLt_mem hA hp) (by omega))
  have z2 : ∀ p ∈ rest, p.1 ≠ L1 + 1 + 1 := fun p hp => Nat.ne_of_lt (Nat.lt_of_lt_of_le (allLt_mem hA hp) (by omega))
  have z3 : ∀ p ∈ rest, p.1 ≠ L1 + 1 + 1 + 1 := fun p hp => Nat.ne_of_lt (Nat.lt_of_lt_of_le (allLt_mem hA hp) (by omega))
  have z4 : ∀ p ∈ rest, p.1 ≠ L1 + 1 + 1 + 1 + 1 := fun p hp => Nat.ne_of_lt (Nat.lt_of_lt_of_le (allLt_mem hA hp) (by omega))
  have z5 : ∀ p ∈ rest, p.1 ≠ L1 + 1 + 1 + 1 + 1 + 1 := fun p hp => Nat.ne_of_lt (Nat.lt_of_lt_of_le (allLt_mem hA hp) (by omega))
  have z6 : ∀ p ∈ rest, p.1 ≠ L1 + 1 + 1 + 1 + 1 + 1 + 1 := fun p hp => Nat.ne_of_lt (Nat.lt_of_lt_of_le (allLt_mem hA hp) (by omega))
  refine wp_id ?_
  k_fold
  clear X T
  k_steps
  refine Stop.go ?_
  rename_i r1 t1 ob1 hx1 tx1 ra1 rb1 rs1 r2 t2 ob2 hx2 tx2 ra2 rb2 rs2 Dq hx3 lq hx4 hx5 c1 dc1 hx6 c2 dc2 tq pa pd td pt to hx7 tx7 l9 u1 u2 lo hi0 lh hx8 la D2 hx9 lb hx10 hx11 c6 dc6 hx12 c3 dc3 hx13 c4 F2 N2 dc4
  obtain ⟨f, hf⟩ : ∃ f, f = 1 + r1 := ⟨_, rfl⟩
  obtain ⟨n, hn⟩ : ∃ n, n = 1 + r2 := ⟨_, rfl⟩
  rw [← hf] at dc1 dc4 N2
  rw [← hn] at dc2 N2
  have b1 : 1 ≤ f := by omega
  have b2 : f ≤ 9 := by omega
  have b3 : 1 ≤ n := by omega
  have b4 : n ≤ 4 := by omega
  have g0 : @LT.lt Nat _ src (L1 + 1) := by omega
  have g1' : @LT.lt Nat _ 321 (L1 + 1) := by omega
  have g2 : @LT.lt Nat _ (L1 + 1 + 1 + 1 + 1 + 1 + 1) pd := by omega
  have g3 : @LT.lt Nat _ td lh := by omega
  have u1 : @LT.lt Nat _ pd pa := u1
  have u2 : @LT.lt Nat _ pa td := u2
  clear hf hn ra1 rb1 rs1 ra2 rb2 lq lb la l9 r1 r2
  have hfs : ∀ b ∈ (envX cn cs L a ccd cl :: outer).filterMap (·.frame), ∃ o, g1.get? b = some o := fun b hb => let ⟨_, o, ho, _⟩ := B1.frames.mem hb; ⟨o, ho⟩
  with_unfolding_all refine For_invVF (hid_fr (fs := (envX cn cs L a ccd cl :: outer).filterMap (·.frame)) KtsTurn.refl F2) rfl rfl ?_
  k_steps
  refine Stop.go ?_
  rename IsRange _ _ _ _ _ _ _ _ => R3
  rename Fr _ _ _ _ => F3
  rename News _ _ _ _ => N3
  have N4 := news_sub N3 (l' := portL w src L1 pa pd td lh f n f pt c1 c2 c3 c4 o2 c6 ob2 to [] 0 ps rest) (by unfold portL; walk_at "subs")
  refine iter_rangeT (a₀ := 0) (b₀ := 7) (n := 7) (fun (_ : Nat) m nx => PJ w src L1 pa pd td lh f n tx1 tx2 rest m nx) rfl R3 rfl rfl hfs F3 N4 ⟨c1, c2, c3, c4, o2, c6, ob2, to, ps, rest, [], 0, [], [], pt, f, tx1, none, fun _ => none, rfl, dc1, dc2, dc3, dc4, d2, dc6, rs2, I, hi0, .nil, rfl, by simp, by omega, by omega, ?_, fun p hp => hp, ?_⟩ ?_ ?_
  · intro p hp d hd
    simp only [List.mem_cons, List.not_mem_nil, or_false] at hd
    have hb := allLt_mem hA hp
    have q1 := r1' p hp
    have q2 := r2' p hp
    have hb2 : @LT.lt Nat _ p.1 (L1 + 1) := by omega
    rcases hd with h | h | h | h | h | h | h | h | h | h | h | h <;> subst h <;> first | exact q1 | exact q2 | (intro e; rw [e] at hb2; omega)
  · funext y
    by_cases h1 : y = Str.ofString "turn"
    · subst h1; rfl
    · by_cases h2 : y = Str.ofString "row"
      · subst h2; rfl
      · by_cases h3 : y = Str.ofString "due"
        · subst h3; rfl
        · simp [h1, h2, h3]
  · rintro i t m₁ nx g h tk own hi T hown HJ F9 N9
    refine turn_split ?_ ?_
    · obtain ⟨p1, p2, p3, p4, p5, p6, so9, to9, ps9, R0, vs, c, hl, kvs, pt9, fo, tfo, y5, u, rfl, e1, e2, e3, e4, e5, e6, hso9, I9, hd9, hI, hkeys, hin, hfo1, hfo2, hoff, hrest, rfl⟩ := HJ
      have B9 := below_turn B1 T
      have X9 : (hd.heap_1 w.params).In g := XB.keeps B9.stays
      have T9 : Top topProg LS mean mg mb g := TB.keeps B9.stays
      have D9 := D1.turn T
      clear X1 T1 F3 N3 N4 R3
      change Fr g L1 h _ at F9
      change News g L1 h _ at N9
      dsimp only [portL, List.cons_append] at N9
      have hnd : hl.Nodup := by
        obtain ⟨es, ep, _, _, _, _, hq⟩ := hd9
        rw [← hkeys]; exact hq
      have hle := held_le (by omega) hnd hin
      have hvl := hI.length
      have hkl : kvs.length = hl.length := by rw [← hkeys]; simp
      have hO : OffAll (R0 ++ own) [lh, td, pa, pd, L1 + 1 + 1 + 1 + 1 + 1 + 1, L1 + 1 + 1 + 1 + 1 + 1, L1 + 1 + 1 + 1 + 1, L1 + 1 + 1 + 1, L1 + 1 + 1, L1 + 1, src, 321] := hoff.app (OffAll.own hown portL_ad)
      have z20 : ∀ p ∈ R0 ++ own, p.1 ≠ lh := hO.at (by walk_at "mem")
      have z21 : ∀ p ∈ R0 ++ own, p.1 ≠ td := hO.at (by walk_at "mem")
      have z22 : ∀ p ∈ R0 ++ own, p.1 ≠ pa := hO.at (by walk_at "mem")
      have z23 : ∀ p ∈ R0 ++ own, p.1 ≠ pd := hO.at (by walk_at "mem")
      have z24 : ∀ p ∈ R0 ++ own, p.1 ≠ L1 + 1 + 1 + 1 + 1 + 1 + 1 := hO.at (by walk_at "mem")
      have z25 : ∀ p ∈ R0 ++ own, p.1 ≠ L1 + 1 + 1 + 1 + 1 + 1 := hO.at (by walk_at "mem")
      have z26 : ∀ p ∈ R0 ++ own, p.1 ≠ L1 + 1 + 1 + 1 + 1 := hO.at (by walk_at "mem")
      have z27 : ∀ p ∈ R0 ++ own, p.1 ≠ L1 + 1 + 1 + 1 := hO.at (by walk_at "mem")
      have z28 : ∀ p ∈ R0 ++ own, p.1 ≠ L1 + 1 + 1 := hO.at (by walk_at "mem")
      have z29 : ∀ p ∈ R0 ++ own, p.1 ≠ L1 + 1 := hO.at (by walk_at "mem")
      have z30 : ∀ p ∈ R0 ++ own, p.1 ≠ src := hO.at (by walk_at "mem")
      have z31 : ∀ p ∈ R0 ++ own, p.1 ≠ (321 : Addr) := hO.at (by walk_at "mem")
      have hR0 : ∀ p ∈ R0, p ∈ R0 ++ own := fun p hp => List.mem_append_left _ hp
      have hRo : ∀ p ∈ own, p ∈ R0 ++ own := fun p hp => List.mem_append_right _ hp
      generalize R0 ++ own = rr at *
      have hlo : (kvs.map (·.1)) = hl := hkeys
      have hRR : ∀ p ∈ own, ∀ q ∈ R0, p.1 ≠ q.1 := fun p hp q hq => hown p hp q (by unfold portL; (iterate 12 refine List.mem_cons_of_mem _ ?_); exact hq)
      refine if_split (fun so' => portL w src L1 pa pd td lh f n fo pt9 p1 p2 p3 p4 p5 p6 so' to9 vs c ps9 rr) (hl ≠ []) F9 ?_ ?_ ?_
      · k_steps
        all_goals exact ⟨fun h => by first | (cases h; done) | assumption, _, _, _, rfl, by k_asm, by k_asm, news_sub (by k_asm) (by unfold portL; walk_at "subs")⟩
      · intro hne so2 h2 tk2 hs2 F2 N2
        change News g L1 h2 _ at N2
        dsimp only [portL] at N2
        clear F9 N9 hso9
        have hpos : (0 : Int) < (hl.length : Int) := by
          have := List.length_pos_iff.mpr hne
          omega
        have hl100 : hl.length ≤ 100 := by omega
        k_steps
        refine Stop.go ?_
        rename SrcO _ => hs3
        rename IntsAre _ (List.eraseIdx _ _) => hi3
        rename hl[_]? = some _ => hk3
        rename News _ _ _ _ => N3
        have hkm := List.mem_of_getElem? hk3
        have hkr := hin _ hkm
        have N5 := news_sub N3 (l' := portL w src L1 pa pd td lh f n fo pt9 p1 p2 p3 p4 _ p6 _ to9 _ _ ps9 rr) (by unfold portL; walk_at "subs")
        clear N3
        k_dflt (refine' free_U (kvs := kvs) (pt := pt9) (fo := fo) (pf := f) (pl := f + n - 1) (td := td) (to := to9) (pdo := to9) ?u_B ?u_F ?u_X N5 ?u_T ?u_hk ?u_hdp ?u_hu ?m1 ?m2 ?m3 ?n1 ?n2 ?n3 ?lo ?m4 ?sz ?b1 ?b2 ?hva ?_; (case u_B => k_asm); (case u_F => k_asm); (case u_X => k_asm); (case u_T => k_asm); (case u_hk => first | exact rfl | assumption); (case u_hdp => ktr_room); (case u_hu => ktr_units); (case m1 => (unfold portL; k_mem)); (case m2 => (unfold portL; k_mem)); (case m3 => (unfold portL; k_mem)); (case n1 => omega); (case n2 => omega); (case n3 => omega); (case lo => exact lo); (case m4 => assumption); (case sz => (rw [sizeLine_eq]; omega)); (case b1 => omega); (case b2 => omega); (case hva => exact fun h => valueAt_none.mp h (by rw [hkeys]; exact hkm)))
        intro to2 h3 tk3 F5 N6 hd3
        have N7 := news_sub N6 (port_led (fo' := fo) (pt' := pt9) (to' := to2) g0 g1' g2 u1 u2 g3 z23 z21)
        dsimp only [portL] at N7
        clear N5 N6
        have hwl : ∀ k, (without kvs k).length ≤ 100 := fun k => Nat.le_trans (List.length_filter_le _ kvs) (by omega)
        k_steps
        refine Stop.go ?_
        rename_i f9 c9 oc9 vs9 t9 ct9 h9 tk9 tl9 ps8 F8 N8 m9 d9 e9 I8 l9 r9
        k_dflt (refine' refused_spec (C := 56) ?u_B ?u_F ?u_X ?u_N ?u_T ?u_hk ?u_hdp ?u_hu ?u_XB ?u_TB ?u_D ?u_hC ?u_hb ?u_fn ?u_hD ?u_ret; (case u_B => k_asm); (case u_F => k_asm); (case u_X => k_asm); (case u_N => k_asm); (case u_T => k_asm); (case u_hk => first | exact rfl | assumption); (case u_hdp => ktr_room); (case u_hu => ktr_units); (case u_XB => assumption); (case u_TB => assumption); (case u_D => assumption); (case u_hC => k_is); (case u_hb => decide); (case u_fn => exact List.mem_cons_self))
        case u_hD =>
          intro mean3 mg3 mb3 dp3 un3 gd3 cn3 cs3 a3 ccd3 cl3 outer3 A3 base3 hh3 L3 m3 s3 Q3 E3 B3 F3 X3 N3 T3 hk3' hdp3 hu3 raz
          refine wpAny_call ?_
          k_dflt (refine' kla_code ?k1 ?k2 ?k3 ?k4 ?k5 ?kA ?kF ?kK ?k6 ?k7 ?k8 ?k9 ?kB ?_ ?c2 ?c3 ?c4 ?c5; (case kA => exact rfl); (case kF => exact rfl); (case kK => assumption); (case k1 => exact B3); (case k2 => exact F3); (case k3 => exact X3); (case k4 => exact N3); (case k5 => exact T3); (case k6 => exact List.mem_cons_self); (case k7 => exact codeRec_news N3 (List.mem_cons_of_mem _ (mem_tl m9 (fun p hp => by (iterate 12 refine List.mem_cons_of_mem _ ?_); exact hR0 p hp))) d9 e9); (case k8 => ktr_room); (case k9 => exact rfl); (case c5 => decide); (case kB => exact locs rfl); (case c2 => exact rfl); (case c3 => exact rfl); (case c4 => exact rfl))
          intro g4 L4 h4 FG4 F4 N4 B4 X4 T4
          dsimp only
          clear N8 F8
          k_fold
          k_steps
          refine Stop.go ?_
          k_dflt (refine' free_S (pt := pt9) (fo := fo) (pf := f) (pl := f + n - 1) (td := td) (to := to2) (pdo := to2) ?u_B ?u_F ?u_X ?u_N ?u_T ?u_hk ?u_hdp ?u_hu ?m1 ?m2 ?m3 ?n1 ?n2 ?n3 ?lo ?m4 ?sz ?b1 ?b2 ?hva ?_; (case u_B => k_asm); (case u_F => k_asm); (case u_X => k_asm); (case u_N => k_asm); (case u_T => k_asm); (case u_hk => first | exact rfl | assumption); (case u_hdp => ktr_room); (case u_hu => ktr_units); (case m1 => k_mem); (case m2 => k_mem); (case m3 => k_mem); (case n1 => omega); (case n2 => omega); (case n3 => omega); (case lo => exact lo); (case m4 => assumption); (case sz => (rw [sizeLine_eq]; exact Nat.le_trans (hwl _) (by decide))); (case b1 => omega); (case b2 => omega); (case hva => exact valueAt_none.mpr (by rw [keys_without]; simp)))
          intro e5 h5 g5 tk5 R5 F5 U5
          k_steps
          exact raz _ _ _ _ (by assumption) (by assumption) (by assumption)
        case u_ret =>
          intro h10 tk10 g10 T10 F10 N10 B10 X10 P10 D10
          clear N8 F8
          k_steps
          exact ⟨rfl, turn_end (T.trans T10) (by k_asm) (by k_asm) led_lam hR0 hRo hO hRR (tl_lt r9) e1 e2 e3 e4 (by assumption) e6 hs3 I8 hd3 hi3 (by rw [keys_without, hkeys, erase_filter hnd hk3]) (fun x hx => hin x (List.mem_of_mem_eraseIdx hx)) hfo1 hfo2 hrest (pj_map rfl (fun y h1 h2 h3 h4 => by simp only [if_neg h1, if_neg h2, if_neg h3, if_neg h4]))⟩
      · intro so2 h2 tk2 hs2 F2 N2
        change News g L1 h2 _ at N2
        dsimp only [portL] at N2
        clear F9 N9 hso9
        k_steps
        · have hlen : (hl.length : Int) = n := by assumption
          refine Stop.go ?_
          rename_i f9 c9 oc9 vs9 t9 ct9 h9 tk9 tl9 ps8 F8 N8 m9 d9 e9 I8 l9 r9
          k_dflt (refine' refused_spec (C := 56) ?u_B ?u_F ?u_X ?u_N ?u_T ?u_hk ?u_hdp ?u_hu ?u_XB ?u_TB ?u_D ?u_hC ?u_hb ?u_fn ?u_hD ?u_ret; (case u_B => k_asm); (case u_F => k_asm); (case u_X => k_asm); (case u_N => k_asm); (case u_T => k_asm); (case u_hk => first | exact rfl | assumption); (case u_hdp => ktr_room); (case u_hu => ktr_units); (case u_XB => assumption); (case u_TB => assumption); (case u_D => assumption); (case u_hC => k_is); (case u_hb => decide); (case u_fn => exact List.mem_cons_self))
          case u_hD =>
            intro mean3 mg3 mb3 dp3 un3 gd3 cn3 cs3 a3 ccd3 cl3 outer3 A3 base3 hh3 L3 m3 s3 Q3 E3 B3 F3 X3 N3 T3 hk3' hdp3 hu3 raz
            refine wpAny_call ?_
            k_dflt (refine' kla_code ?k1 ?k2 ?k3 ?k4 ?k5 ?kA ?kF ?kK ?k6 ?k7 ?k8 ?k9 ?kB ?_ ?c2 ?c3 ?c4 ?c5; (case kA => exact rfl); (case kF => exact rfl); (case kK => assumption); (case k1 => exact B3); (case k2 => exact F3); (case k3 => exact X3); (case k4 => exact N3); (case k5 => exact T3); (case k6 => exact List.mem_cons_self); (case k7 => exact codeRec_news N3 (List.mem_cons_of_mem _ (mem_tl m9 (fun p hp => by (iterate 12 refine List.mem_cons_of_mem _ ?_); exact hR0 p hp))) d9 e9); (case k8 => ktr_room); (case k9 => exact rfl); (case c5 => decide); (case kB => exact locs rfl); (case c2 => exact rfl); (case c3 => exact rfl); (case c4 => exact rfl))
            intro g4 L4 h4 FG4 F4 N4 B4 X4 T4
            dsimp only
            clear N8 F8
            k_fold
            k_steps
            refine Stop.go ?_
            k_dflt (refine' take0_S (kvs := kvs) (pt := pt9) (fo := fo) (pf := f) (pl := f + n - 1) (td := td) (to := to9) (pdo := to9) (k := 0) ?u_B ?u_F ?u_X ?u_N ?u_T ?u_hk ?u_hdp ?u_hu ?m1 ?m2 ?m3 ?n1 ?n2 ?n3 ?lo ?m4 ?sz ?b1 ?b2 ?b3 ?b4 ?hall ?_; (case u_B => k_asm); (case u_F => k_asm); (case u_X => k_asm); (case u_N => k_asm); (case u_T => k_asm); (case u_hk => first | exact rfl | assumption); (case u_hdp => ktr_room); (case u_hu => ktr_units); (case m1 => k_mem); (case m2 => k_mem); (case m3 => k_mem); (case n1 => omega); (case n2 => omega); (case n3 => omega); (case lo => exact lo); (case m4 => assumption); (case sz => (rw [sizeLine_eq]; omega)); (case b1 => omega); (case b2 => omega); (case b3 => omega); (case b4 => omega); (case hall => exact fun i hi h => (valueAt_none.mp h) (by rw [hkeys]; exact row_full hfo1 hfo2 hnd hin hlen (by omega))))
            intro e5 h5 g5 tk5 R5 F5 U5
            k_steps
            exact raz _ _ _ _ (by assumption) (by assumption) (by assumption)
          case u_ret =>
            intro h10 tk10 g10 T10 F10 N10 B10 X10 P10 D10
            clear N8 F8
            k_steps
            exact ⟨rfl, turn_end (T.trans T10) (by k_asm) (by k_asm) led_lam hR0 hRo hO hRR (tl_lt r9) e1 e2 e3 e4 e5 e6 hs2 I8 hd9 hI hkeys hin hfo1 hfo2 hrest (pj_map rfl (fun y h1 h2 h3 h4 => by simp only [if_neg h1, if_neg h2, if_neg h3, if_neg h4]))⟩
        · skip
          refine Stop.go ?_
          rename IsRange _ _ _ _ _ _ _ _ => R2
          rename Fr _ _ _ _ => F2
          rename News _ _ _ _ => N2
          have hlt : (hl.length : Int) < n := by omega
          have hnn : ((n - 0).toNat : Int) = n := by omega
          refine CompSrc.range (n := (n - 0).toNat) rfl F2 N2 R2 (small_one (by omega) (by omega) (by omega) (by omega)) (rangeSize_nat _ _) (by rw [sizeLine_eq]; omega) ?_
          intro gq
          refine compU_ind (n := (n - 0).toNat) (fun i ys nw => nw = portL w src L1 pa pd td lh f n fo pt9 p1 p2 p3 p4 p5 p6 so2 to9 vs c ps9 rr ∧ IntsAre ys (rowP f n fo i)) ?_ ?_ _ 0 [] _ (Nat.zero_add _) ⟨rfl, .nil⟩
          · rintro i2 ys nw v I2 oI C2 oC D2 m₂ h tk E' hi2 ⟨rfl, hys⟩ hP hC hm F N off ne
            have off2 := off
            simp only [portL, Off3, and_true] at off2
            dsimp only [portL] at N
            obtain ⟨tv, rfl⟩ := hP
            clear F2 N2 R2
            k_steps
            have hval : f + (fo - f + (0 + (i2 : Int))).fmod n = nthP f (f + n - 1) fo i2 := by
              rw [Int.fmod_eq_emod_of_nonneg _ (by omega), Int.zero_add]
              exact nthP_mod hfo1 hfo2 (by omega)
            exact Stop.go ⟨_, _, _, rfl, F, N, off, trivial, rfl, by rw [rowP_succ, ← hval]; exact ints_snoc hys⟩
          · rintro ys nw ⟨rfl, hys⟩
            simp only [portL]
            clear F2 N2 R2
            k_steps
            refine Stop.go ?_
            rename Fr _ _ _ _ => F5
            rename News _ _ _ _ => N5
            have hyl := row_len hys
            refine LCt.CompSrcT.ledger rfl F5 N5 List.mem_cons_self (by rw [sizeLine_eq, List.size_toArray]; omega) ?_
            intro gq2
            refine compT_ind (n := ys.toArray.size) (fun i zs => DueJ f n fo hl i zs) ?_ ?_ _ 0 [] (Nat.zero_add _) DueJ.nil
            · rintro i3 zs v I3 oI3 C3 oC3 D3 m3 h3 tk3 E3 hi3 hJ hP hC hm F N off ne
              have off2 := off
              simp only [Off3, and_true] at off2
              obtain ⟨t3, rfl⟩ := row_item hys (by rw [List.size_toArray] at hi3; omega) hP
              clear F5 N5
              by_cases hx : nthP f (f + n - 1) fo i3 ∈ hl
              · k_steps
                exact Stop.go ⟨_, _, _, rfl, by k_asm, by k_asm, off, .inr ⟨_, List.mem_cons_self, rfl, _, rfl⟩, rfl, hJ.no hx⟩
              · k_steps
                exact Stop.go ⟨_, _, _, rfl, by k_asm, by k_asm, off, .inr ⟨_, List.mem_cons_self, rfl, _, rfl⟩, rfl, hJ.yes hx⟩
            · intro zs hJ
              obtain ⟨i0, t0, r0, a1, a2, a3, rfl⟩ := hJ.all hfo1 hfo2 (by rw [List.size_toArray]; omega) hlt
              rw [List.size_toArray] at a1
              clear F5 N5
              k_steps
              refine Stop.go ?_
              rename News _ _ _ _ => N3
              have N5 := news_sub N3 (l' := portL w src L1 pa pd td lh f n fo pt9 p1 p2 p3 p4 p5 p6 so2 to9 vs c ps9 rr) (by unfold portL; walk_at "subs")
              clear N3
              have hz1 : (i0 : Int) < f + n - 1 - f + 1 := by omega
              k_dflt (refine' take0_U (kvs := kvs) (pt := pt9) (fo := fo) (pf := f) (pl := f + n - 1) (td := td) (to := to9) (pdo := to9) (k := 0) (i := i0) ?u_B ?u_F ?u_X N5 ?u_T ?u_hk ?u_hdp ?u_hu ?m1 ?m2 ?m3 ?n1 ?n2 ?n3 ?lo ?m4 ?sz ?b1 ?b2 ?b3 ?b4 hz1 ?h1 ?h2 ?_; (case u_B => k_asm); (case u_F => k_asm); (case u_X => k_asm); (case u_T => k_asm); (case u_hk => first | exact rfl | assumption); (case u_hdp => ktr_room); (case u_hu => ktr_units); (case m1 => (unfold portL; k_mem)); (case m2 => (unfold portL; k_mem)); (case m3 => (unfold portL; k_mem)); (case n1 => omega); (case n2 => omega); (case n3 => omega); (case lo => exact lo); (case m4 => assumption); (case sz => (rw [sizeLine_eq]; omega)); (case b1 => omega); (case b2 => omega); (case b3 => omega); (case b4 => omega); (case h1 => exact valueAt_none.mpr (by rw [hkeys]; exact a2)); (case h2 => exact fun j hj h => valueAt_none.mp h (by rw [hkeys]; exact a3 j hj)))
              intro t9 pt2 to2 h3 tk3 F5 N6 hd3
              have N7 := news_sub N6 (port_led (fo' := nthP f (f + n - 1) fo (i0 + 1)) (pt' := pt2) (to' := to2) g0 g1' g2 u1 u2 g3 z23 z21)
              dsimp only [portL] at N7
              clear N5 N6
              k_steps
              · exact absurd rfl ‹nthP f (f + n - 1) fo i0 ≠ nthP f (f + n - 1) fo i0›
              · rename News _ _ _ _ => N8
                rw [List.push_toArray] at N8
                rename Obj.data _ = _ => hd4
                have hnx := next_mod (f := f) (n := n) (fo := fo) (i := i0) hfo1 hfo2 (by omega)
                have hX : f + (nthP f (f + n - 1) fo i0 - f + 1).fmod n = nthP f (f + n - 1) fo (i0 + 1) := by
                  rw [Int.fmod_eq_emod_of_nonneg _ (by omega)]
                  exact hnx
                have hb1 := Int.emod_nonneg (nthP f (f + n - 1) fo i0 - f + 1) (show n ≠ 0 by omega)
                have hb2 := Int.emod_lt_of_pos (nthP f (f + n - 1) fo i0 - f + 1) (show 0 < n by omega)
                have hr := nthP_in (pf := f) (pl := f + n - 1) (fo := fo) (i := i0) hfo1 (by omega) hz1
                exact ⟨rfl, turn_end (tl := []) T (by k_asm) N8 (fun p hp => hp) hR0 hRo hO hRR (fun _ h => nomatch h) e1 e2 e3 (by rw [← hX]; exact hd4) e5 e6 hs2 I9 hd3 (ints_snoc hI) (by rw [List.map_append, hkeys]; rfl) (fun x hx => (List.mem_append.mp hx).elim (hin x) (fun h => by rw [List.mem_singleton.mp h]; omega)) (by omega) (by omega) hrest (pj_map rfl (fun y h1 h2 h3 h4 => by simp only [if_neg h1, if_neg h2, if_neg h3, if_neg h4]))⟩
    · clear HJ F9 N9 hown T
      rintro g h tk m₁ nx T F9 N9 hown ⟨p1, p2, p3, p4, p5, p6, so9, to9, ps9, R0, vs, c, hl, kvs, pt9, fo, tfo, y5, u, rfl, e1, e2, e3, e4, e5, e6, hso9, I9, hd9, hI, hkeys, hin, hfo1, hfo2, hoff, hrest, rfl⟩
      have B9 := below_turn B1 T
      have X9 : (hd.heap_1 w.params).In g := XB.keeps B9.stays
      have T9 : Top topProg LS mean mg mb g := TB.keeps B9.stays
      have D9 := D1.turn T
      clear X1 T1 F3 N3 N4 R3
      change Fr g L1 h _ at F9
      change News g L1 h _ at N9
      dsimp only [portL, List.cons_append] at N9
      have hnd : hl.Nodup := by
        obtain ⟨es, ep, _, _, _, _, hq⟩ := hd9
        rw [← hkeys]; exact hq
      have hle := held_le (by omega) hnd hin
      have hvl := hI.length
      have hkl : kvs.length = hl.length := by rw [← hkeys]; simp
      have hO : OffAll (R0 ++ own) [lh, td, pa, pd, L1 + 1 + 1 + 1 + 1 + 1 + 1, L1 + 1 + 1 + 1 + 1 + 1, L1 + 1 + 1 + 1 + 1, L1 + 1 + 1 + 1, L1 + 1 + 1, L1 + 1, src, 321] := hoff.app (OffAll.own hown portL_ad)
      have z20 : ∀ p ∈ R0 ++ own, p.1 ≠ lh := hO.at (by walk_at "mem")
      have z21 : ∀ p ∈ R0 ++ own, p.1 ≠ td := hO.at (by walk_at "mem")
      have z22 : ∀ p ∈ R0 ++ own, p.1 ≠ pa := hO.at (by walk_at "mem")
      have z23 : ∀ p ∈ R0 ++ own, p.1 ≠ pd := hO.at (by walk_at "mem")
      have z24 : ∀ p ∈ R0 ++ own, p.1 ≠ L1 + 1 + 1 + 1 + 1 + 1 + 1 := hO.at (by walk_at "mem")
      have z25 : ∀ p ∈ R0 ++ own, p.1 ≠ L1 + 1 + 1 + 1 + 1 + 1 := hO.at (by walk_at "mem")
      have z26 : ∀ p ∈ R0 ++ own, p.1 ≠ L1 + 1 + 1 + 1 + 1 := hO.at (by walk_at "mem")
      have z27 : ∀ p ∈ R0 ++ own, p.1 ≠ L1 + 1 + 1 + 1 := hO.at (by walk_at "mem")
      have z28 : ∀ p ∈ R0 ++ own, p.1 ≠ L1 + 1 + 1 := hO.at (by walk_at "mem")
      have z29 : ∀ p ∈ R0 ++ own, p.1 ≠ L1 + 1 := hO.at (by walk_at "mem")
      have z30 : ∀ p ∈ R0 ++ own, p.1 ≠ src := hO.at (by walk_at "mem")
      have z31 : ∀ p ∈ R0 ++ own, p.1 ≠ (321 : Addr) := hO.at (by walk_at "mem")
      have hR0 : ∀ p ∈ R0, p ∈ R0 ++ own := fun p hp => List.mem_append_left _ hp
      have hRo : ∀ p ∈ own, p ∈ R0 ++ own := fun p hp => List.mem_append_right _ hp
      generalize R0 ++ own = rr at *
      have hlo : (kvs.map (·.1)) = hl := hkeys
      have hRR : ∀ p ∈ own, ∀ q ∈ R0, p.1 ≠ q.1 := fun p hp q hq => hown p hp q (by unfold portL; (iterate 12 refine List.mem_cons_of_mem _ ?_); exact hq)
      k_steps
      · exact absurd rfl ‹f ≠ f›
      · rename News _ _ _ _ => N8
        exact turn_end (tl := []) T (by k_asm) (news_sub N8 (l' := portL w src L1 pa pd td lh f n fo pt9 p1 p2 p3 p4 p5 p6 so9 to9 vs c ps9 rr) (by unfold portL; walk_at "subs")) (fun p hp => hp) hR0 hRo hO hRR (fun _ h => nomatch h) e1 e2 e3 e4 e5 e6 hso9 I9 hd9 hI hkeys hin hfo1 hfo2 hrest ⟨u, rfl⟩
  · rintro m₁ nx g h tk T ⟨p1, p2, p3, p4, p5, p6, so9, to9, ps9, R0, vs, c, hl, kvs, pt9, fo, tfo, y5, u, rfl, e1, e2, e3, e4, e5, e6, hso9, I9, hd9, hI, hkeys, hin, hfo1, hfo2, hoff, hrest, rfl⟩ F9 N9
    have B9 := below_turn B1 T
    have X9 : (hd.heap_1 w.params).In g := XB.keeps B9.stays
    have T9 : Top topProg LS mean mg mb g := TB.keeps B9.stays
    have D9 := D1.turn T
    clear B1 X1 T1 D1 F3 N3 N4 R3
    change Fr g L1 h _ at F9
    change News g L1 h _ at N9
    dsimp only [portL] at N9
    rcases Int.lt_or_le 1 n with hn | hn
    · k_steps
      · omega
      · skip
        refine Q_true (by simp) ?_
        exact ret _ ps9 _ _ _ (by assumption) (by assumption) (news_sub (l' := (src, so9) :: ((321 : Addr), tabObj ps9) :: rest) (by assumption) (sub_cons (by k_mem) (sub_cons (by k_mem) (fun p hp => by (repeat (first | exact hrest p hp | refine List.mem_cons_of_mem _ ?_)))))) (by assumption) (by assumption) hso9
    · obtain rfl : n = 1 := by omega
      k_steps
      exact ret _ ps9 _ _ _ (by assumption) (by assumption) (news_sub (l' := (src, so9) :: ((321 : Addr), tabObj ps9) :: rest) (by assumption) (sub_cons (by k_mem) (sub_cons (by k_mem) (fun p hp => by (repeat (first | exact hrest p hp | refine List.mem_cons_of_mem _ ?_)))))) (by assumption) (by assumption) hso9
end
section
open PySem PySem.W PySem.Calls PyProof.Rows PyProof.V PySem.Spec
theorem kclrLaw : True := by
  w_top off
  k_with_none
  trivial
theorem kset_Law_1 : True := by
  k_with "k_mem" => (first | assumption | exact List.mem_cons_self | (refine List.mem_cons_of_mem _ ?_; k_mem) | (refine List.mem_append_right _ ?_; k_mem))
  k_with "k_all" => (first | assumption | exact allLt_ne (by assumption) | exact allLt_ne1 (by assumption) | exact allLt_ne2 (by assumption) | exact allLt_ne3 (by assumption) | exact allLt_ne4 (by assumption) | exact allLt_ne5 (by assumption) | exact allLt_ne6 (by assumption))
  k_with "call ref cons nil" => ((k_here; (with_reducible show wpAny _ _ (call (Value.ref 281) _) _ _ _); refine Stop.here ?_))
  k_with "call ref cons nil" => ((k_here; (with_reducible show wpAny _ _ (call (Value.ref 274) _) _ _ _); refine Stop.here ?_))
  k_with "call ref cons nil" => ((k_here; (with_reducible show wpAny _ _ (call (Value.ref 140) _) _ _ _); refine Stop.here ?_))
  k_with "call ref cons nil" => ((k_here; (with_reducible show wpAny _ _ (call (Value.ref 147) _) _ _ _); refine Stop.here ?_))
  k_with "call ref cons nil" => ((k_here; (with_reducible show wpAny _ _ (call (Value.ref 161) _) _ _ _); refine Stop.here ?_))
  k_with "call ref cons nil" => ((k_here; (with_reducible show wpAny _ _ (call (Value.ref 312) _) _ _ _); refine Stop.here ?_))
  k_with "call ref cons nil" => ((k_here; (with_reducible show wpAny _ _ (call (Value.ref 307) _) _ _ _); refine Stop.here ?_))
  k_with "call ref cons nil" => ((k_here; (with_reducible show wpAny _ _ (call (Value.ref 319) _) _ _ _); refine Stop.here ?_))
  k_with "call ref cons nil" => ((k_here; (with_reducible show wpAny _ _ (call (Value.ref 324) _) _ _ _); refine Stop.here ?_))
  k_with "call ref cons nil" => ((k_here; (with_reducible show wpAny _ _ (call (Value.ref 329) _) _ _ _); refine Stop.here ?_))
  k_with "call ref" => ((k_here; (with_reducible show wpAny _ _ (call (Value.ref 164) _) _ _ _); refine Stop.here ?_))
  k_with "call ref nil nil" => ((k_here; (with_reducible show wpAny _ _ (call (Value.ref 164) _) _ _ _); refine Stop.here ?_))
  k_with "getMethod ref" => ((k_here; (with_reducible show wpAny _ _ (getMethod (Value.ref _) (Str.ofString "items") _) _ _ _); k_dflt (refine' kdl_method (knd := PySem.intKind _ _) PySem.F.slot_dict_items PySem.F.type_dict_items ?N ?p ?d ?_; (case N => k_asm); (case p => k_mem); (case d => assumption))))
  k_with "call builtin:dict.items" => (((k_here; k_dflt (refine' kdx_view (knd := PySem.intKind _ _) ?F ?N ?p ?d ?l ?_; (case F => k_asm); (case N => k_asm); (case p => k_mem); (case d => assumption); (case l => assumption)); intro D'ₖ h'ₖ F'ₖ N'ₖ l1ₖ); all_goals ((try revert l1ₖ); (try revert N'ₖ); (try revert F'ₖ); (try revert h'ₖ); (try revert D'ₖ); intros)))
  k_with "call type:list" => ((refine Stop.here ?_))
  k_with "compareOp NotEq ref ref" => ((refine Stop.here ?_))
  k_with "exec For Name Call cons nil" => ((refine Stop.here ?_))
  k_with "pyIter ref" => ((k_here; refine Stop.here ?_))
  k_with "TbPost" => (dsimp only [TbPost])
  trivial
theorem off_keep {g h : Heap} {L da : Addr} {od : Obj} {news : List (Addr × Obj)} {p : Addr × Obj} (N : News g L h news) (hd : (da, od) ∈ news) (hp : p ∈ news) (hne : p.2 ≠ od) : p ∈ offA news da :=
  mem_offA.mpr ⟨hp, fun e => hne (by
    have h1 := (N _ hp).1
    rw [e, (N _ hd).1] at h1
    exact (Option.some.inj h1).symm)⟩
theorem rowD_ne_one {w : World} {t : Nat → Tok} {o a p : Int} {rv : Value} {x : DictEntry} {k : Nat} : dictOf [x] k ≠ rowD w t o a p rv := fun e => by
  have := congrArg Obj.data e
  simp at this
theorem rowD_ne_src {w : World} {t : Nat → Tok} {o a p : Int} {rv : Value} {x : Obj} (h : SrcO x) : x ≠ rowD w t o a p rv := fun e => by
  obtain ⟨_, _, _, _, _, rfl, _⟩ := h
  have := congrArg Obj.cls e
  simp [W.listOf] at this
/-- a range's loop that tells what the loop itself has made -/
theorem iter_rangeO {prog : Program} {w : World} {A : Around} {E : Value → Shared → Prop} {s : Shared} {env : Env} {h₀ : Heap} {x : Str} {body : List Stmt} {Q : Flow → Shared → Prop} {r : Addr} {a₀ b₀ : Int} {t₀ u₀ v₀ : Tok} {n : Nat} {m₀ : Str → Option Value} {news : List (Addr × Obj)} (J : Nat → (Str → Option Value) → List (Addr × Obj) → Prop)
    (hh : A.handled = none) (hr : IsRange s.heap r a₀ b₀ 1 t₀ u₀ v₀) (hsmall : Builtin.Range.small a₀ b₀ 1 = true) (hn : Builtin.Range.rangeSize a₀ b₀ 1 = (n : Int)) (F : Fr h₀ env.locals s.heap m₀) (N : News h₀ env.locals s.heap news) (hj : J 0 m₀ news)
    (turn : ∀ (i : Nat) t m₁ nx h tk own, i < n → (∀ p ∈ own, ∃ a b c, p.2.data = .fields #[rawInt a, rawInt b, rawInt c]) → TbOff own nx → J i m₁ nx → Fr h₀ env.locals h (fun y => if y = x then some (.int (a₀ + (i : Int) * 1) t) else m₁ y) → News h₀ env.locals h (nx ++ own) →
      wpAny (model prog w) A (execs body env) (TbPost h₀ env.locals (J (i + 1)) own { s with heap := h, toks := tk } Q) E { s with heap := h, toks := tk })
    (done : ∀ m₁ nx h tk, J n m₁ nx → Fr h₀ env.locals h m₁ → News h₀ env.locals h nx → Q .next { s with heap := h, toks := tk }) :
    wpAny (model prog w) A (pyIter (.ref r)) (fun it s₂ => LoopAtV prog w A h₀ env x body Q E it s₂) E s := by
  refine wpAny_pyIter_range hr hsmall ?_
  have hfree := next_is_new F
  refine ⟨s.heap.objs.size, [s.heap.objs.size], [s.heap.objs.size], n, _, _, m₀, news, J, rfl, Walks.range hh _ a₀ 1 n, ?_, ?_, ?_, ?_, F.push _, News.pushKeep N _, hj, ?_, ?_⟩
  · exact fun q => Nat.ne_of_lt F.ns.lt (List.mem_singleton.mp q)
  · exact fun c q => (List.mem_singleton.mp q).symm ▸ hfree
  · exact fun p hp q => Nat.ne_of_lt (Heap.lt_size (N p hp).1) (List.mem_singleton.mp q)
  · show IsRangeIter _ _ _ _ _
    rw [hn]
    simpa using Heap.get?_push_size _ rfl
  · rintro i v m₁ nx s₁ own ⟨h, tk, rfl⟩ hi ⟨t, rfl⟩ hJ hnx hown hval hall hst F₁ N₁
    have hst : IsRangeIter h s.heap.objs.size _ _ _ := hst
    have hI : (s.heap.objs.size, _) ∈ own := hall _ (List.mem_singleton.mpr rfl) hfree _ hst
    have ho : TbOff own nx := fun p hp q hq e => hnx q hq (e ▸ hown p hp)
    have hf : ∀ p ∈ own, ∃ a b c, p.2.data = .fields #[rawInt a, rawInt b, rawInt c] := fun p hp => by
      have e := hval p hp
      rw [List.mem_singleton.mp (hown p hp)] at e
      exact ⟨_, _, _, by rw [← Option.some.inj (hst.symm.trans e)]⟩
    refine wpAny_mono (turn i t m₁ nx h tk own hi hf ho hJ F₁ (fun p hp => N₁ p (List.mem_append.mpr (List.mem_append.mp hp).symm))) (fun f s₂ p => ?_) fun _ _ e => e
    have fin : TbEnd h₀ env.locals (J (i + 1)) own { s with heap := h, toks := tk } s₂ → LoopStepU h₀ env.locals [s.heap.objs.size] own (J (i + 1)) { s with heap := h, toks := tk } .next s₂ := by
      rintro ⟨h', tk', m', l', nx', e, F', N', a1, a2, a3, a4⟩
      exact ⟨rfl, h', tk', m', nx', e, F', fun p hp => N' p ((List.mem_append.mp hp).elim (a2 p) (a1 p)), fun p hp q => a3 _ hI p hp (List.mem_singleton.mp q).symm, a4⟩
    cases f with
    | ret v => exact p
    | brk => exact p
    | next => exact fin p
    | cont => exact fin p
  · exact fun h' tk m' nx F' N' _ hJ => done m' nx h' tk hJ F' N'
def Bnd4 (r : Int) : Prop := 0 ≤ r ∧ r < 4
def LJ (w : World) (l tb td rd ld : Addr) (tt : Tok) (i : Nat) (m : Str → Option Value) (nx : List (Addr × Obj)) : Prop :=
  ∃ (so : Obj) (ps : Array Value) (ro lobj : Obj) (rest : List (Addr × Obj)) (rs : List R) (kvs kvt : List (Int × Value)),
    nx = (l, so) :: ((309 : Addr), tabObj ps) :: (rd, ro) :: (ld, lobj) :: rest ∧ SrcO so ∧ TabInv (Str.ofString "_law_deed_right.<locals>.<lambda>") ps rest ∧ (tb, instObj 164 td) ∈ rest ∧ (td, dictOf [⟨PyData.keyHash w.params (Str.ofString "rows"), .str (Str.ofString "rows") tt, .ref rd⟩] 1) ∈ rest ∧ ((326 : Addr), tabObj #[]) ∈ rest ∧ ((321 : Addr), tabObj #[]) ∈ rest ∧
    ro.IsDictOf (intKind PySem.Challenge.rw_on0339_01.row.prog w) kvs ∧ RowsAt w rest rs kvs ∧ lobj.IsDictOf (intKind PySem.Challenge.rw_on0339_01.row.prog w) kvt ∧ TRowsAt rest rs kvt ∧ rs.length ≤ i ∧ (∀ r ∈ rs, r.p ≠ 1) ∧
    (∀ p ∈ rest, p.1 ≠ l) ∧ (∀ p ∈ rest, p.1 ≠ (309 : Addr)) ∧ (∀ p ∈ rest, p.1 ≠ rd) ∧ (∀ p ∈ rest, p.1 ≠ ld) ∧
    ∃ u : Str → Option Value, m = fun y => if y = Str.ofString "turn" then u y else if y = Str.ofString "table" then some (.ref tb) else if y = Str.ofString "rows" then some (.ref ld) else if y = Str.ofString "source" then some (.ref l) else u y
theorem lj_map {m' : Str → Option Value} {tb ld l : Addr} (h1 : m' (Str.ofString "table") = some (.ref tb)) (h2 : m' (Str.ofString "rows") = some (.ref ld)) (h3 : m' (Str.ofString "source") = some (.ref l)) :
    ∃ u : Str → Option Value, m' = fun y => if y = Str.ofString "turn" then u y else if y = Str.ofString "table" then some (.ref tb) else if y = Str.ofString "rows" then some (.ref ld) else if y = Str.ofString "source" then some (.ref l) else u y := by
  refine ⟨m', funext fun y => ?_⟩
  by_cases a1 : y = Str.ofString "turn"
  · rw [if_pos a1]
  · by_cases a2 : y = Str.ofString "table"
    · rw [if_neg a1, if_pos a2, a2]; exact h1
    · by_cases a3 : y = Str.ofString "rows"
      · rw [if_neg a1, if_neg a2, if_pos a3, a3]; exact h2
      · by_cases a4 : y = Str.ofString "source"
        · rw [if_neg a1, if_neg a2, if_neg a3, if_pos a4, a4]; exact h3
        · rw [if_neg a1, if_neg a2, if_neg a3, if_neg a4]
theorem lj_map0 {tb2 ld tb l : Addr} {v : Str → Option Value} : ∃ u : Str → Option Value, (fun y => if y = Str.ofString "table" then some (Value.ref tb2) else if y = Str.ofString "rows" then some (Value.ref ld) else if y = Str.ofString "fixed" then some (Value.ref tb) else if y = Str.ofString "source" then some (Value.ref l) else v y) = fun y => if y = Str.ofString "turn" then u y else if y = Str.ofString "table" then some (.ref tb2) else if y = Str.ofString "rows" then some (.ref ld) else if y = Str.ofString "source" then some (.ref l) else u y :=
  lj_map (if_pos rfl) ((if_neg (by decide)).trans (if_pos rfl)) ((if_neg (by decide)).trans ((if_neg (by decide)).trans ((if_neg (by decide)).trans (if_pos rfl))))
theorem lj_map1 {x : Option Value} {tb2 ld l : Addr} {u : Str → Option Value} : ∃ v : Str → Option Value, (fun y => if y = Str.ofString "turn" then x else if y = Str.ofString "turn" then u y else if y = Str.ofString "table" then some (Value.ref tb2) else if y = Str.ofString "rows" then some (Value.ref ld) else if y = Str.ofString "source" then some (Value.ref l) else u y) = fun y => if y = Str.ofString "turn" then v y else if y = Str.ofString "table" then some (.ref tb2) else if y = Str.ofString "rows" then some (.ref ld) else if y = Str.ofString "source" then some (.ref l) else v y :=
  lj_map ((if_neg (by decide)).trans ((if_neg (by decide)).trans (if_pos rfl))) ((if_neg (by decide)).trans ((if_neg (by decide)).trans ((if_neg (by decide)).trans (if_pos rfl)))) ((if_neg (by decide)).trans ((if_neg (by decide)).trans ((if_neg (by decide)).trans ((if_neg (by decide)).trans (if_pos rfl)))))
theorem off4 {p a b c d : Addr × Obj} {r : List (Addr × Obj)} (h1 : p.1 ≠ a.1) (h2 : p.1 ≠ b.1) (h3 : p.1 ≠ c.1) (h4 : p.1 ≠ d.1) (h5 : ∀ q ∈ r, p.1 ≠ q.1) : ∀ q ∈ a :: b :: c :: d :: r, p.1 ≠ q.1 := fun q hq =>
  (List.mem_cons.mp hq).elim (fun e => e ▸ h1) fun hq => (List.mem_cons.mp hq).elim (fun e => e ▸ h2) fun hq => (List.mem_cons.mp hq).elim (fun e => e ▸ h3) fun hq => (List.mem_cons.mp hq).elim (fun e => e ▸ h4) (h5 q)
def offOwn (own l : List (Addr × Obj)) : List (Addr × Obj) := l.filter (fun p => own.all (fun q => p.1 != q.1))
theorem mem_offOwn {own l : List (Addr × Obj)} {p : Addr × Obj} : p ∈ offOwn own l ↔ p ∈ l ∧ ∀ q ∈ own, p.1 ≠ q.1 := by
  unfold offOwn
  rw [List.mem_filter, List.all_eq_true]
  simp only [bne_iff_ne, ne_eq]
theorem keepOwn {g h : Heap} {L : Addr} {own l led : List (Addr × Obj)} (N : News g L h led) (h1 : ∀ p ∈ own, p ∈ led) (h2 : ∀ p ∈ l, p ∈ led) {p : Addr × Obj} (hp : p ∈ l) (hne : ∀ q ∈ own, p.2 ≠ q.2) : p ∈ offOwn own l :=
  mem_offOwn.mpr ⟨hp, fun q hq e => hne q hq (by
    have a := (N _ (h2 p hp)).1
    rw [e, (N _ (h1 q hq)).1] at a
    exact (Option.some.inj a).symm)⟩
theorem RemAt.keepO {news news' : List (Addr × Obj)} {rv : Value} {q : Option (Int × Int)} (x : RemAt news rv q) (k : ∀ p ∈ news, (∃ vs, p.2 = tupO vs) → p ∈ news') : RemAt news' rv q := x.keepT k
theorem RowsAt.keepO {w : World} {news news' : List (Addr × Obj)} (k : ∀ p ∈ news, (∀ vs, p.2.data ≠ .fields vs) → p ∈ news') : ∀ {rs : List R} {kvs : List (Int × Value)}, RowsAt w news rs kvs → RowsAt w news' rs kvs
  | _, _, .nil => .nil
  | _, _, .cons ⟨da, t, rv, h1, h2, h3⟩ y => .cons ⟨da, t, rv, k _ h1 (fun _ e => nomatch e), k _ h2 (fun _ e => nomatch e), h3.keepT (fun p hp ⟨vs, e⟩ => k p hp (fun _ e' => by rw [e] at e'; nomatch e'))⟩ (RowsAt.keepO k y)
theorem TabInv.keepS {qual : Str} {ps : Array Value} {led led' : List (Addr × Obj)} (I : TabInv qual ps led) (k : ∀ p ∈ led, ∀ vs t, p.2.data = .fields vs → vs[1]? = some (.str qual t) → p ∈ led') : TabInv qual ps led' :=
  ⟨I.1, fun pos => (I.2 pos).imp id fun ⟨c', oc, vs, t, a, b, c, d⟩ => ⟨c', oc, vs, t, a, k _ b vs t c d, c, d⟩⟩
theorem fix_rai : ∀ r ∈ ([⟨2, 5, 7, none⟩, ⟨1, 0, 7, none⟩] : List R), r.o = 1 → ¬ ∃ r' ∈ ([⟨2, 5, 7, none⟩, ⟨1, 0, 7, none⟩] : List R), r'.o ≠ 1 ∧ r'.a = r.a ∧ r'.p = r.p ∧ r'.r = some (9, 1) := by decide
theorem fix_one : (bestOf (fun r => fitsV r 5 7 (9, 1)) (([⟨2, 5, 7, none⟩, ⟨1, 0, 7, none⟩] : List R).map fun r => if r.o = 1 then { r with r := some (9, 1) } else r)).2 = some 1 := by decide
theorem fix_two : (bestOf (fun r => fitsV r 5 7 (9, 2)) (([⟨2, 5, 7, none⟩, ⟨1, 0, 7, none⟩] : List R).map fun r => if r.o = 1 then { r with r := some (9, 1) } else r)).2 = some 2 := by decide
local macro_rules | `(tactic| wrow_close) => `(tactic| (w_end; (show GoodW _ _ _ _ _ (.ok (.ret (.bool _))) _); refine goodW_bool (by with_reducible assumption) (by with_reducible assumption) (raisesW_false ?_) ?_; (· wrow_none_raised); (· kernel_rfl)))
theorem lawT : PySem.Challenge.rw_on0339_01.Holds := hd (by
  k_go0
  all_goals try k_fold
  k_steps
  refine Stop.go ?_
  rename World => w
  rename Below _ _ _ _ => BG
  rename Frag.In _ _ => XG
  rename Top topProg _ _ _ _ _ => TG
  rename CodeHd _ (328, 326).fst (328, 326).snd => c3
  rename CodeHd _ (323, 321).fst (323, 321).snd => c2
  rename CodeHd _ (311, 309).fst (311, 309).snd => c1
  have C1 : CHid _ 311 309 := c1
  have C2 : CHid _ 323 321 := c2
  have C3 : CHid _ 328 326 := c3
  clear c1 c2 c3
  rename Shared => s1
  generalize ghostOf s1.heap [(328, 326), (323, 321), (311, 309)] = G at *
  k_dflt (refine' pool_spec ?u_B ?u_F ?u_X ?u_N ?u_T ?u_hk ?u_hdp ?u_hu ?hl ?hI ?hn ?_; (case u_B => k_asm); (case u_F => k_asm); (case u_X => k_asm); (case u_N => k_asm); (case u_T => k_asm); (case u_hk => first | exact rfl | assumption); (case u_hdp => ktr_room); (case u_hu => ktr_units); (case hl => assumption); (case hI => assumption); (case hn => omega))
  intro l so h1 tk1 hso F1 N1 l1
  k_lt l1
  k_steps
  refine Stop.go ?_
  k_dflt (refine' table_new ?u_B ?u_F ?u_X ?u_N ?u_T ?u_hk ?u_hdp ?u_hu ?_; (case u_B => k_asm); (case u_F => k_asm); (case u_X => k_asm); (case u_N => k_asm); (case u_T => k_asm); (case u_hk => first | exact rfl | assumption); (case u_hdp => ktr_room); (case u_hu => ktr_units))
  intro tb td rd tt ro h2 tk2 F2 N2 l9 u1 u2 lo hd0
  k_lt l9
  k_lt2 u1
  k_lt2 u2
  k_steps
  refine Stop.go ?_
  rename News _ _ _ _ => N3
  have hrA : ∀ p ∈ [(tb, instObj 164 td), (td, dictOf [⟨PyData.keyHash w.params (Str.ofString "rows"), .str (Str.ofString "rows") tt, .ref rd⟩] 1), (l, so), ((326 : Addr), tabObj #[]), ((321 : Addr), tabObj #[]), ((309 : Addr), tabObj #[])], p.1 ≠ rd := ne_cons ((show @Ne Nat tb rd by omega)) (ne_cons ((show @Ne Nat td rd by omega)) (ne_cons ((show @Ne Nat l rd by omega)) (ne_cons ((show @Ne Nat 326 rd by omega)) (ne_cons ((show @Ne Nat 321 rd by omega)) (ne_cons ((show @Ne Nat 309 rd by omega)) (fun _ h => nomatch h))))))
  k_dflt (refine' bind_spec (rs := []) (kvs := []) ?u_B ?u_F ?u_X N3 ?u_T ?u_hk ?u_hdp ?u_hu ?m1 ?m2 ?lo ?m4 ?m5 hrA ?hsz ?raiS ?raiP ?_; (case u_B => k_asm); (case u_F => k_asm); (case u_X => k_asm); (case u_T => k_asm); (case u_hk => first | exact rfl | assumption); (case u_hdp => ktr_room); (case u_hu => ktr_units); (case m1 => k_mem); (case m2 => k_mem); (case lo => assumption); (case m4 => assumption); (case m5 => exact .nil); (case hsz => (rw [sizeLine_eq]; exact Nat.le_of_ble_eq_true rfl)); (case raiS => exact fun ⟨_, h⟩ => by simp [valueAt] at h); (case raiP => exact fun _ ⟨_, h, _⟩ => nomatch h))
  intro _ _ ra ro1 tl1 h3 tk3 F3 N4 hd1 row1 lt1
  k_steps
  refine Stop.go ?_
  have hrB := ne_app (d := rd) (fun p hp => Nat.ne_of_gt (lt1 p hp (rd, ro) List.mem_cons_self)) hrA
  k_dflt (refine' bind_spec (rs := [⟨2, 5, 7, none⟩]) (kvs := [(2, .ref ra)]) ?u_B ?u_F ?u_X N4 ?u_T ?u_hk ?u_hdp ?u_hu ?m1 ?m2 ?lo ?m4 ?m5 hrB ?hsz ?raiS ?raiP ?_; (case u_B => k_asm); (case u_F => k_asm); (case u_X => k_asm); (case u_T => k_asm); (case u_hk => first | exact rfl | assumption); (case u_hdp => ktr_room); (case u_hu => ktr_units); (case m1 => k_mem); (case m2 => k_mem); (case lo => assumption); (case m4 => exact hd1); (case m5 => exact .cons (row1.mono (fun p hp => List.mem_append_left _ hp)) .nil); (case hsz => (rw [sizeLine_eq]; exact Nat.le_of_ble_eq_true rfl)); (case raiS => exact fun ⟨_, h⟩ => by simp [valueAt] at h); (case raiP => exact fun _ ⟨r, h, _, h2, _⟩ => by rw [List.mem_singleton.mp h] at h2; cases h2))
  intro _ _ rb ro2 tl2 h4 tk4 F4 N5 hd2 row2 lt2
  clear N4
  k_steps
  refine Stop.go ?_
  have hrC := ne_app (d := rd) (fun p hp => Nat.ne_of_gt (lt2 p hp (rd, ro1) List.mem_cons_self)) hrB
  k_dflt (refine' connect_spec (rs := [⟨2, 5, 7, none⟩, ⟨1, 0, 7, none⟩]) (kvs := [(2, .ref ra), (1, .ref rb)]) ?u_B ?u_F ?u_X N5 ?u_T ?u_hk ?u_hdp ?u_hu ?m1 ?m2 ?lo ?m4 ?m5 (fun p hp => hp) hrC ?hsz ?raiS ?raiP ?_; (case u_B => k_asm); (case u_F => k_asm); (case u_X => k_asm); (case u_T => k_asm); (case u_hk => first | exact rfl | assumption); (case u_hdp => ktr_room); (case u_hu => ktr_units); (case m1 => k_mem); (case m2 => k_mem); (case lo => assumption); (case m4 => exact hd2); (case m5 => exact .cons (row1.mono (fun p hp => List.mem_append_right _ (List.mem_append_left _ hp))) (.cons (row2.mono (fun p hp => List.mem_append_left _ hp)) .nil)); (case hsz => (rw [sizeLine_eq]; exact Nat.le_of_ble_eq_true rfl)); (case raiS => exact fun h => by simp [valueAt] at h); (case raiP => exact fun r hr e h => absurd h (fix_rai r hr e)))
  intro r hr he _ da t9 rv od' D tp h5 tk5 hda lt3 F5 N6 rows3
  have key : ∀ p ∈ [(tb, instObj 164 td), (td, dictOf [⟨PyData.keyHash w.params (Str.ofString "rows"), .str (Str.ofString "rows") tt, .ref rd⟩] 1), (l, so), ((326 : Addr), tabObj #[]), ((321 : Addr), tabObj #[]), ((309 : Addr), tabObj #[])], p ∈ offA (tl2 ++ (tl1 ++ [(tb, instObj 164 td), (td, dictOf [⟨PyData.keyHash w.params (Str.ofString "rows"), .str (Str.ofString "rows") tt, .ref rd⟩] 1), (l, so), ((326 : Addr), tabObj #[]), ((321 : Addr), tabObj #[]), ((309 : Addr), tabObj #[])])) da := fun p hp =>
    off_keep (news_sub N5 (fun p hp => List.mem_cons_of_mem _ hp)) hda (List.mem_append_right _ (List.mem_append_right _ hp)) (by
      simp only [List.mem_cons, List.not_mem_nil, or_false] at hp
      rcases hp with e | e | e | e | e | e <;> rw [e]
      · exact rowD_ne_inst
      · exact rowD_ne_one
      · exact rowD_ne_src hso
      · exact rowD_ne_fields ⟨_, rfl⟩
      · exact rowD_ne_fields ⟨_, rfl⟩
      · exact rowD_ne_fields ⟨_, rfl⟩)
  generalize offA (tl2 ++ (tl1 ++ [(tb, instObj 164 td), (td, dictOf [⟨PyData.keyHash w.params (Str.ofString "rows"), .str (Str.ofString "rows") tt, .ref rd⟩] 1), (l, so), ((326 : Addr), tabObj #[]), ((321 : Addr), tabObj #[]), ((309 : Addr), tabObj #[])])) da = rr at *
  have k1 := key (tb, instObj 164 td) List.mem_cons_self
  have k2 := key (td, dictOf [⟨PyData.keyHash w.params (Str.ofString "rows"), .str (Str.ofString "rows") tt, .ref rd⟩] 1) (List.mem_cons_of_mem _ List.mem_cons_self)
  clear N5 hrA hrB hrC lt1 lt2 lt3 hda
  have rows4 := rows3.mono (news' := (rd, ro2) :: (da, od') :: (D, tp) :: rr) (fun p hp => List.mem_cons_of_mem _ hp)
  k_steps
  refine Stop.go ?_
  k_dflt (refine' find_spec ?u_B ?u_F ?u_X ?u_N ?u_T ?u_hk ?u_hdp ?u_hu ?m1 ?m2 ?m3 ?lo ?m4 ?m5 ?_; (case u_B => k_asm); (case u_F => k_asm); (case u_X => k_asm); (case u_N => k_asm); (case u_T => k_asm); (case u_hk => first | exact rfl | assumption); (case u_hdp => ktr_room); (case u_hu => ktr_units); (case m1 => k_mem); (case m2 => k_mem); (case m3 => exact List.mem_cons_self); (case lo => assumption); (case m4 => exact hd2); (case m5 => exact rows4))
  intro v1 h6 tk6 hv1 F6 N7
  obtain ⟨tv1, rfl⟩ : ∃ t, v1 = .int 1 t := by
    rw [fix_one] at hv1
    exact hv1
  clear N6 F5 hv1
  k_steps
  refine Stop.go ?_
  k_dflt (refine' find_spec ?u_B ?u_F ?u_X ?u_N ?u_T ?u_hk ?u_hdp ?u_hu ?m1 ?m2 ?m3 ?lo ?m4 ?m5 ?_; (case u_B => k_asm); (case u_F => k_asm); (case u_X => k_asm); (case u_N => k_asm); (case u_T => k_asm); (case u_hk => first | exact rfl | assumption); (case u_hdp => ktr_room); (case u_hu => ktr_units); (case m1 => k_mem); (case m2 => k_mem); (case m3 => exact List.mem_cons_self); (case lo => assumption); (case m4 => exact hd2); (case m5 => exact rows4))
  intro v2 h7 tk7 hv2 F7 N8
  obtain ⟨tv2, rfl⟩ : ∃ t, v2 = .int 2 t := by
    rw [fix_two] at hv2
    exact hv2
  clear N7 F6 hv2
  k_steps
  refine Stop.go ?_
  have N9 := news_sub N8 (l' := [(l, so), ((326 : Addr), tabObj #[]), ((321 : Addr), tabObj #[]), ((309 : Addr), tabObj #[])]) (fun p hp => List.mem_cons_of_mem _ (List.mem_cons_of_mem _ (List.mem_cons_of_mem _ (key p (List.mem_cons_of_mem _ (List.mem_cons_of_mem _ hp))))))
  clear N8 rows3 rows4 key k1 k2 row1 row2 hd2 hd1
  k_dflt (refine' table_new ?u_B ?u_F ?u_X N9 ?u_T ?u_hk ?u_hdp ?u_hu ?_; (case u_B => k_asm); (case u_F => k_asm); (case u_X => k_asm); (case u_T => k_asm); (case u_hk => first | exact rfl | assumption); (case u_hdp => ktr_room); (case u_hu => ktr_units))
  intro tb2 td2 rd2 tt2 ro3 h8 tk8 F8 N10 l10 u3 u4 lo2 hd3
  k_lt l10
  k_lt2 u3
  k_lt2 u4
  clear N9
  k_steps
  refine Stop.go ?_
  rename_i ld h9 lobj lo3 _ _ hd4 _ l11 D2 h10 l12 h11 h12 h13 F11 N11
  with_unfolding_all refine For_invVF F11 rfl rfl ?_
  k_steps
  refine Stop.go ?_
  k_dflt (refine' take_U ?u_B ?u_F ?u_X ?u_N ?u_T ?u_hk ?u_hdp ?u_hu ?u_U ?u_hso ?u_ht ?u_ht2 ?_; (case u_B => k_asm); (case u_F => k_asm); (case u_X => k_asm); (case u_N => k_asm); (case u_T => k_asm); (case u_hk => first | exact rfl | assumption); (case u_hdp => ktr_room); (case u_hu => ktr_units); (case u_U => k_updF); (case u_hso => assumption); (case u_ht => decide); (case u_ht2 => decide))
  intro r4 tr4 so2 h14 tk14 ha hb hso2 F13 N13
  have hbn : Bnd4 r4 := ⟨ha, hb⟩
  clear ha hb N11 F11
  k_steps
  refine Stop.go ?_
  obtain ⟨ha, hb⟩ := hbn
  rename IsRange _ _ _ _ _ _ _ _ => R3
  rename Fr _ _ _ _ => F14
  rename News _ _ _ _ => N14
  have hA : (4 + r4 - 0).toNat ≤ 7 := by omega
  have DG : KtsDicts (([] : List Env).filterMap (·.frame)) G := fun _ h => nomatch h
  have w1 : ∀ p ∈ [(tb2, instObj 164 td2), (td2, dictOf [⟨PyData.keyHash w.params (Str.ofString "rows"), .str (Str.ofString "rows") tt2, .ref rd2⟩] 1), ((326 : Addr), tabObj #[]), ((321 : Addr), tabObj #[])], p.1 ≠ l := ne_cons ((show @Ne Nat tb2 l by omega)) (ne_cons ((show @Ne Nat td2 l by omega)) (ne_cons ((show @Ne Nat 326 l by omega)) (ne_cons ((show @Ne Nat 321 l by omega)) (fun _ h => nomatch h))))
  have w2 : ∀ p ∈ [(tb2, instObj 164 td2), (td2, dictOf [⟨PyData.keyHash w.params (Str.ofString "rows"), .str (Str.ofString "rows") tt2, .ref rd2⟩] 1), ((326 : Addr), tabObj #[]), ((321 : Addr), tabObj #[])], p.1 ≠ (309 : Addr) := ne_cons ((show @Ne Nat tb2 309 by omega)) (ne_cons ((show @Ne Nat td2 309 by omega)) (ne_cons ((show @Ne Nat 326 309 by omega)) (ne_cons ((show @Ne Nat 321 309 by omega)) (fun _ h => nomatch h))))
  have w3 : ∀ p ∈ [(tb2, instObj 164 td2), (td2, dictOf [⟨PyData.keyHash w.params (Str.ofString "rows"), .str (Str.ofString "rows") tt2, .ref rd2⟩] 1), ((326 : Addr), tabObj #[]), ((321 : Addr), tabObj #[])], p.1 ≠ rd2 := ne_cons ((show @Ne Nat tb2 rd2 by omega)) (ne_cons ((show @Ne Nat td2 rd2 by omega)) (ne_cons ((show @Ne Nat 326 rd2 by omega)) (ne_cons ((show @Ne Nat 321 rd2 by omega)) (fun _ h => nomatch h))))
  have w4 : ∀ p ∈ [(tb2, instObj 164 td2), (td2, dictOf [⟨PyData.keyHash w.params (Str.ofString "rows"), .str (Str.ofString "rows") tt2, .ref rd2⟩] 1), ((326 : Addr), tabObj #[]), ((321 : Addr), tabObj #[])], p.1 ≠ ld := ne_cons ((show @Ne Nat tb2 ld by omega)) (ne_cons ((show @Ne Nat td2 ld by omega)) (ne_cons ((show @Ne Nat 326 ld by omega)) (ne_cons ((show @Ne Nat 321 ld by omega)) (fun _ h => nomatch h))))
  have w5 : True := trivial
  refine iter_rangeO (n := (4 + r4 - 0).toNat) (fun i m nx => LJ w l tb2 td2 rd2 ld tt2 i m nx) rfl R3 (small_one (by omega) (by omega) (by omega) (by omega)) (rangeSize_nat _ _) F14
    (news_sub N14 (l' := (l, so2) :: ((309 : Addr), tabObj #[]) :: (rd2, ro3) :: (ld, lobj) :: [(tb2, instObj 164 td2), (td2, dictOf [⟨PyData.keyHash w.params (Str.ofString "rows"), .str (Str.ofString "rows") tt2, .ref rd2⟩] 1), ((326 : Addr), tabObj #[]), ((321 : Addr), tabObj #[])]) ?_)
    ⟨so2, #[], ro3, lobj, _, [], [], [], rfl, hso2, .nil, List.mem_cons_self, (List.mem_cons_of_mem _ List.mem_cons_self), (List.mem_cons_of_mem _ (List.mem_cons_of_mem _ List.mem_cons_self)), (List.mem_cons_of_mem _ (List.mem_cons_of_mem _ (List.mem_cons_of_mem _ List.mem_cons_self))), hd3, .nil, hd4, .nil, Nat.le_refl _, (fun _ h => nomatch h), w1, w2, w3, w4, lj_map0⟩ ?_ ?_
  · exact sub_cons ((List.mem_cons_of_mem _ (List.mem_cons_of_mem _ (List.mem_cons_of_mem _ (List.mem_cons_of_mem _ (List.mem_cons_of_mem _ List.mem_cons_self)))))) (sub_cons ((List.mem_cons_of_mem _ (List.mem_cons_of_mem _ (List.mem_cons_of_mem _ (List.mem_cons_of_mem _ (List.mem_cons_of_mem _ (List.mem_cons_of_mem _ (List.mem_cons_of_mem _ (List.mem_cons_of_mem _ List.mem_cons_self))))))))) (sub_cons ((List.mem_cons_of_mem _ (List.mem_cons_of_mem _ List.mem_cons_self))) (sub_cons ((List.mem_cons_of_mem _ List.mem_cons_self)) (sub_cons ((List.mem_cons_of_mem _ (List.mem_cons_of_mem _ (List.mem_cons_of_mem _ List.mem_cons_self)))) (sub_cons ((List.mem_cons_of_mem _ (List.mem_cons_of_mem _ (List.mem_cons_of_mem _ (List.mem_cons_of_mem _ List.mem_cons_self))))) (sub_cons ((List.mem_cons_of_mem _ (List.mem_cons_of_mem _ (List.mem_cons_of_mem _ (List.mem_cons_of_mem _ (List.mem_cons_of_mem _ (List.mem_cons_of_mem _ List.mem_cons_self))))))) (sub_cons ((List.mem_cons_of_mem _ (List.mem_cons_of_mem _ (List.mem_cons_of_mem _ (List.mem_cons_of_mem _ (List.mem_cons_of_mem _ (List.mem_cons_of_mem _ (List.mem_cons_of_mem _ List.mem_cons_self)))))))) (sub_nil))))))))
  · clear F14 N14 R3
    rintro i t m₁ nx hh tk own hi hf hoff ⟨so3, ps, ro4, lobj4, rest, rs, kvs, kvt, rfl, hso3, I3, m1, m2, m3, m4, d4, rows, d5, trows, hlen, hp1, r1, r2, r3, r4', u, rfl⟩ F9 N9
    simp only [List.cons_append] at N9
    change Fr G s1.heap.objs.size hh _ at F9
    change News G s1.heap.objs.size hh _ at N9
    have z1 := ne_app r1 (fun p hp => hoff p hp (l, so3) List.mem_cons_self)
    have z2 := ne_app r2 (fun p hp => hoff p hp ((309 : Addr), tabObj ps) (List.mem_cons_of_mem _ List.mem_cons_self))
    have z3 := ne_app r3 (fun p hp => hoff p hp (rd2, ro4) (List.mem_cons_of_mem _ (List.mem_cons_of_mem _ List.mem_cons_self)))
    have z4 := ne_app r4' (fun p hp => hoff p hp (ld, lobj4) (List.mem_cons_of_mem _ (List.mem_cons_of_mem _ (List.mem_cons_of_mem _ List.mem_cons_self))))
    k_steps
    refine Stop.go ?_
    k_dflt (refine' deed_spec (rest := rest ++ own) ?u_B ?u_F ?u_X ?u_N ?u_T ?u_hk ?u_hdp ?u_hu ?XB ?TB ?D ?C ?I ?hso ?m1 ?m2 ?lo ?m4 ?m5 ?lo2 ?n4 ?n5 ?hsz hp1 ?q1 ?q2 ?q3 ?q4 ?q5 ?q6 z1 z2 z3 z4 ?_; (case u_B => k_asm); (case u_F => k_asm); (case u_X => k_asm); (case u_N => k_asm); (case u_T => k_asm); (case u_hk => first | exact rfl | assumption); (case u_hdp => ktr_room); (case u_hu => ktr_units); (case XB => exact XG); (case TB => exact TG); (case D => exact DG); (case C => exact C1); (case I => exact I3.mono (fun p hp => List.mem_append_left _ hp)); (case hso => exact hso3); (case m1 => exact List.mem_append_left _ m1); (case m2 => exact List.mem_append_left _ m2); (case lo => exact lo2); (case m4 => exact d4); (case m5 => exact rows.mono (fun p hp => List.mem_append_left _ hp)); (case lo2 => exact lo3); (case n4 => exact d5); (case n5 => exact trows.mono (fun p hp => List.mem_append_left _ hp)); (case hsz => omega); (case q1 => omega); (case q2 => omega); (case q3 => omega); (case q4 => omega); (case q5 => omega); (case q6 => omega))
    intro so4 ps4 ro5 lobj5 rest5 rs5 kvs5 kvt5 h20 tk20 g5 T5 F20' N20' B5 D5 I5 hso4 keep5 d6 rows5 d7 trows5 hlen5 hp5 y1 y2 y3 y4
    have F20 := turn_fr T5 F20'
    have N20 := turn_news T5 N20'
    clear F20' N20' T5 B5 D5 F9 N9 rows trows I3 d4 d5 hso3
    have a1 : (tb2, instObj 164 td2) ∈ rest5 := keep5 _ (List.mem_append_left _ m1) (fun _ _ _ _ _ => rowD_ne_inst)
    have a2 : (td2, dictOf [⟨PyData.keyHash w.params (Str.ofString "rows"), .str (Str.ofString "rows") tt2, .ref rd2⟩] 1) ∈ rest5 := keep5 _ (List.mem_append_left _ m2) (fun _ _ _ _ _ => rowD_ne_one)
    have a3 : ((326 : Addr), tabObj #[]) ∈ rest5 := keep5 _ (List.mem_append_left _ m3) (fun _ _ _ _ _ => rowD_ne_fields ⟨_, rfl⟩)
    have a4 : ((321 : Addr), tabObj #[]) ∈ rest5 := keep5 _ (List.mem_append_left _ m4) (fun _ _ _ _ _ => rowD_ne_fields ⟨_, rfl⟩)
    have a5 : ∀ p ∈ own, p ∈ rest5 := fun p hp => keep5 p (List.mem_append_right _ hp) (fun _ _ _ _ _ => by
      obtain ⟨_, _, _, e⟩ := hf p hp
      exact rowD_ne_fields ⟨_, e⟩)
    have sub5 : ∀ p ∈ rest5, p ∈ (l, so4) :: ((309 : Addr), tabObj ps4) :: (rd2, ro5) :: (ld, lobj5) :: rest5 := fun p hp => List.mem_cons_of_mem _ (List.mem_cons_of_mem _ (List.mem_cons_of_mem _ (List.mem_cons_of_mem _ hp)))
    have hkl : kvs5.length ≤ sizeLine := by
      rw [← rows5.len, sizeLine_eq]; omega
    have hkt : kvt5.length ≤ 16777216 := by
      rw [← trows5.len]; omega
    k_steps
    refine Stop.go ?_
    k_dflt (refine' rows_spec ?u_B ?u_F ?u_X ?u_N ?u_T ?u_hk ?u_hdp ?u_hu (sub5 _ a1) (sub5 _ a2) (List.mem_cons_of_mem _ (List.mem_cons_of_mem _ List.mem_cons_self)) lo2 d6 (rows5.mono sub5) hkl ?_; (case u_B => k_asm); (case u_F => k_asm); (case u_X => k_asm); (case u_N => k_asm); (case u_T => k_asm); (case u_hk => first | exact rfl | assumption); (case u_hdp => ktr_room); (case u_hu => ktr_units))
    intro D6 ys6 tl6 h21 tk21 F22 N22 items6
    have sub6 : ∀ p ∈ (l, so4) :: ((309 : Addr), tabObj ps4) :: (rd2, ro5) :: (ld, lobj5) :: rest5, p ∈ (D6, LCg.lst ys6) :: (tl6 ++ (l, so4) :: ((309 : Addr), tabObj ps4) :: (rd2, ro5) :: (ld, lobj5) :: rest5) := fun p hp => List.mem_cons_of_mem _ (List.mem_append_right _ hp)
    clear F20 N20
    k_steps
    refine Stop.go ?_
    rename_i V8 hV8 F23 N23 lV8
    refine list_items rfl F23 N23 List.mem_cons_self (List.mem_cons_of_mem _ (sub6 _ (List.mem_cons_of_mem _ (List.mem_cons_of_mem _ (List.mem_cons_of_mem _ List.mem_cons_self))))) d7 hkt (fun p hp => List.mem_cons_of_mem _ (sub6 _ (sub5 p hp))) trows5 ?_
    intro B7 vs7 c7 tups7 h24 tk24 F24 N24 items7
    clear F23 N23 F22 N22
    k_steps
    refine Stop.go ?_
    refine items_ne (by k_asm) (List.mem_cons_of_mem _ (List.mem_append_right _ (List.mem_cons_of_mem _ List.mem_cons_self))) items6 (fun p hp => List.mem_cons_of_mem _ (List.mem_append_right _ (List.mem_cons_of_mem _ (List.mem_cons_of_mem _ hp)))) List.mem_cons_self items7 (fun p hp => List.mem_cons_of_mem _ hp) (by ktr_units) ?_
    clear items6 items7
    k_steps
    rename News _ _ _ _ => N25
    rename Fr _ _ _ _ => F25
    have X := fun (p : Addr × Obj) (hp : p ∈ (l, so4) :: ((309 : Addr), tabObj ps4) :: (rd2, ro5) :: (ld, lobj5) :: rest5) => List.mem_cons_of_mem (B7, listOf vs7.toArray c7) (List.mem_append_right tups7 (List.mem_cons_of_mem (V8, ({ cls := .type "dict_items", data := .fields #[.ref ld] } : Obj)) (sub6 p hp)))
    have K : ∀ p ∈ rest5, (∀ q ∈ own, p.2 ≠ q.2) → p ∈ offOwn own rest5 := fun p hp hne => keepOwn N25 (fun p hp => X p (sub5 p (a5 p hp))) (fun p hp => X p (sub5 p hp)) hp hne
    have OO : ∀ p ∈ rest, p ∈ rest5 → p ∈ offOwn own rest5 := fun p h1 h2 => mem_offOwn.mpr ⟨h2, fun q hq e => hoff q hq p (List.mem_cons_of_mem _ (List.mem_cons_of_mem _ (List.mem_cons_of_mem _ (List.mem_cons_of_mem _ h1)))) e.symm⟩
    have rowsN := RowsAt.keepO (news' := offOwn own rest5) (fun p hp hne => K p hp (fun q hq e => by
      obtain ⟨_, _, _, e'⟩ := hf q hq
      exact hne _ (by rw [e]; exact e'))) rows5
    have trowsN := TRowsAt.keepT (news' := offOwn own rest5) (fun p hp ⟨vs, e⟩ => K p hp (fun q hq e2 => by
      obtain ⟨_, _, _, e'⟩ := hf q hq
      rw [← e2, e] at e'
      cases e')) trows5
    have tabN := TabInv.keepS (led' := offOwn own rest5) I5 (fun p hp vs t e1 e2 => K p hp (fun q hq e => by
      obtain ⟨_, _, _, e'⟩ := hf q hq
      rw [← e, e1] at e'
      cases e'
      simp [rawInt] at e2))
    exact ⟨_, _, _, _, (l, so4) :: ((309 : Addr), tabObj ps4) :: (rd2, ro5) :: (ld, lobj5) :: offOwn own rest5, rfl, F25, N25, fun p hp => X p (sub_keep (sub_keep (sub_keep (sub_keep (fun p hp => (mem_offOwn.mp hp).1)))) p hp), fun p hp => X p (sub5 p (a5 p hp)),
      fun p hp => off4 (y1 p (a5 p hp)) (y2 p (a5 p hp)) (y3 p (a5 p hp)) (y4 p (a5 p hp)) (fun q hq e => (mem_offOwn.mp hq).2 p hp e.symm),
      so4, ps4, ro5, lobj5, offOwn own rest5, rs5, kvs5, kvt5, rfl, hso4, tabN, OO _ m1 a1, OO _ m2 a2, OO _ m3 a3, OO _ m4 a4, d6, rowsN, d7, trowsN, by omega, hp5, fun p hp => y1 p (mem_offOwn.mp hp).1, fun p hp => y2 p (mem_offOwn.mp hp).1, fun p hp => y3 p (mem_offOwn.mp hp).1, fun p hp => y4 p (mem_offOwn.mp hp).1, lj_map1⟩
  · clear F14 N14 R3
    rintro m₁ nx hh tk ⟨so3, ps, ro4, lobj4, rest, rs, kvs, kvt, rfl, hso3, I3, m1, m2, m3, m4, d4, rows, d5, trows, hlen, hp1, r1, r2, r3, r4', u, rfl⟩ F9 N9
    change Fr G s1.heap.objs.size hh _ at F9
    change News G s1.heap.objs.size hh _ at N9
    have sub5 : ∀ p ∈ rest, p ∈ (l, so3) :: ((309 : Addr), tabObj ps) :: (rd2, ro4) :: (ld, lobj4) :: rest := fun p hp => List.mem_cons_of_mem _ (List.mem_cons_of_mem _ (List.mem_cons_of_mem _ (List.mem_cons_of_mem _ hp)))
    k_steps
    refine Stop.go ?_
    k_dflt (refine' found_spec ?u_B ?u_F ?u_X ?u_N ?u_T ?u_hk ?u_hdp ?u_hu (sub5 _ m1) (sub5 _ m2) (List.mem_cons_of_mem _ (List.mem_cons_of_mem _ List.mem_cons_self)) lo2 d4 (rows.mono sub5) (List.mem_cons_of_mem _ (List.mem_cons_of_mem _ (List.mem_cons_of_mem _ List.mem_cons_self))) lo3 d5 (trows.mono sub5) hp1 ?_; (case u_B => k_asm); (case u_F => k_asm); (case u_X => k_asm); (case u_N => k_asm); (case u_T => k_asm); (case u_hk => first | exact rfl | assumption); (case u_hdp => ktr_room); (case u_hu => ktr_units))
    intro h20 tk20 F20 N20
    have N21 := news_sub N20 (l' := [(l, so3), ((321 : Addr), tabObj #[]), ((326 : Addr), tabObj #[]), ((309 : Addr), tabObj ps)]) (sub_cons List.mem_cons_self (sub_cons (sub5 _ m4) (sub_cons (sub5 _ m3) (sub_cons (List.mem_cons_of_mem _ List.mem_cons_self) sub_nil))))
    clear F9 N9 N20 rows trows d4 d5 I3 r1 r2 r3 r4' m1 m2 m3 m4
    k_steps
    refine Stop.go ?_
    k_dflt (refine' ports_spec (rest := [((326 : Addr), tabObj #[]), ((309 : Addr), tabObj ps)]) ?u_B ?u_F ?u_X N21 ?u_T ?u_hk ?u_hdp ?u_hu XG TG DG C2 TabInv.nil hso3 ?q1 ?r1 ?r2 ?_; (case u_B => k_asm); (case u_F => k_asm); (case u_X => k_asm); (case u_T => k_asm); (case u_hk => first | exact rfl | assumption); (case u_hdp => ktr_room); (case u_hu => ktr_units); (case q1 => omega); (case r1 => exact ne_cons (show @Ne Nat 326 l by omega) (ne_cons (show @Ne Nat 309 l by omega) (fun _ h => nomatch h))); (case r2 => exact ne_cons (show @Ne Nat 326 321 by omega) (ne_cons (show @Ne Nat 309 321 by omega) (fun _ h => nomatch h))))
    intro so5 ps5 h22 tk22 g5 T5 F22' N22' B5 D5 hso5
    have F22 := turn_fr T5 F22'
    have N22 := news_sub (turn_news T5 N22') (l' := [(l, so5), ((326 : Addr), tabObj #[]), ((321 : Addr), tabObj ps5), ((309 : Addr), tabObj ps)]) (sub_cons List.mem_cons_self (sub_cons (List.mem_cons_of_mem _ (List.mem_cons_of_mem _ List.mem_cons_self)) (sub_cons (List.mem_cons_of_mem _ List.mem_cons_self) (sub_cons (List.mem_cons_of_mem _ (List.mem_cons_of_mem _ (List.mem_cons_of_mem _ List.mem_cons_self))) sub_nil))))
    clear F22' N22' T5 B5 D5 F20 N21
    k_steps
    refine Stop.go ?_
    k_dflt (refine' head_spec (rest := [((321 : Addr), tabObj ps5), ((309 : Addr), tabObj ps)]) ?u_B ?u_F ?u_X N22 ?u_T ?u_hk ?u_hdp ?u_hu XG TG DG C3 TabInv.nil hso5 ?q1 ?r1 ?r2 ?_; (case u_B => k_asm); (case u_F => k_asm); (case u_X => k_asm); (case u_T => k_asm); (case u_hk => first | exact rfl | assumption); (case u_hdp => ktr_room); (case u_hu => ktr_units); (case q1 => omega); (case r1 => exact ne_cons (show @Ne Nat 321 l by omega) (ne_cons (show @Ne Nat 309 l by omega) (fun _ h => nomatch h))); (case r2 => exact ne_cons (show @Ne Nat 321 326 by omega) (ne_cons (show @Ne Nat 309 326 by omega) (fun _ h => nomatch h))))
    intro so6 ps6 h23 tk23 g6 T6 F23' N23' B6 D6'
    have F23 := turn_fr T6 F23'
    have N23 := turn_news T6 N23'
    clear F23' N23' T6 B6 D6' F22 N22
    k_steps)
end
end Mine
open PySem PySem.W PyProof.Rows
theorem PySem.Challenge.cw_on0339_01_holds : PySem.Challenge.rw_on0339_01.Holds :=
  Mine.lawT
