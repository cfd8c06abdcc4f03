import PyProof.Rows.All
import Wide.All
import OpenK.AllK
import Wide.FinOn
import PySem.Challenge.RW_og0170_01
open PySem PySem.W PyProof.Rows
set_option Elab.async false
set_option maxRecDepth 100000
namespace Mine
/-- the top run over a tree of objects, the step given -/
noncomputable def runG (ok : Thread → Bool) (st : SharedT → Thread → Option (SharedT × Thread)) : Nat → SharedT → Thread → Option SharedT
  | 0, _, _ => none
  | n + 1, s, t => match through t with
    | true => some s
    | false => match ok t with
      | false => none
      | true => match st s t with
        | some (s', t') => runG ok st n s' t'
        | none => none
theorem runG_spec {tb : String → Option Builtin} {p : Program} {w : World} {n₀ : Nat} {ann : Option Value} : ∀ {n : Nat} {s s' : SharedT} {t : Thread}, runG (stepOk n₀ ann) (stepT (denote tb) p w) n s t = some s' → topRun tb p w n₀ ann n s.abs t = some s'.abs
  | 0, _, _, _, h => by cases h
  | n + 1, s, s', t, h => by
    unfold runG at h
    unfold topRun
    cases he : through t with
    | true => rw [he] at h; cases h; rfl
    | false =>
      rw [he] at h
      cases hk : stepOk n₀ ann t with
      | false => rw [hk] at h; cases h
      | true =>
        rw [hk] at h
        cases hs : stepT (denote tb) p w s t with
        | none => rw [hs] at h; cases h
        | some r => obtain ⟨s₂, t₂⟩ := r; rw [hs] at h; rw [stepT_spec hs]; exact runG_spec h
/-- a list of objects laid into a tree -/
noncomputable def layT : List Obj → Nat → BT → BT
  | [], _, t => t
  | o :: l, n, t => layT l (n + 1) (t.ins n o)
noncomputable def laidT : List Obj → Nat → BT → Bool
  | [], _, _ => true
  | o :: l, n, t => ((t.ins n o).get n).isSome && laidT l (n + 1) (t.ins n o)
theorem layT_spec {life : Life} : ∀ {l : List Obj} {n : Nat} {t : BT}, laidT l n t = true → absHeap (layT l n t) (n + l.length) life = ⟨(absHeap t n life).objs ++ l.toArray, life⟩
  | [], n, t, _ => by
    show absHeap t n life = ⟨(absHeap t n life).objs ++ #[], life⟩
    rw [Array.append_empty]
    rfl
  | o :: l, n, t, h => by
    obtain ⟨h1, h2⟩ := Bool.and_eq_true_iff.mp h
    have ih := layT_spec (life := life) h2
    show absHeap (layT l (n + 1) (t.ins n o)) (n + (l.length + 1)) life = _
    rw [show n + (l.length + 1) = n + 1 + l.length by omega, ih, absHeap_ins h1]
    congr 1
    show (absHeap t n life).objs.push o ++ l.toArray = _
    rw [Array.push_eq_append, Array.append_assoc]
    congr 1
    simp
theorem layT_heap {life : Life} {l : List Obj} (h : laidT l 0 .nil = true) : absHeap (layT l 0 .nil) l.length life = ⟨l.toArray, life⟩ := by
  have := layT_spec (life := life) h
  rw [Nat.zero_add] at this
  rw [this]
  congr 1
  show (#[] : Array Obj) ++ _ = _
  rw [Array.empty_append]
/-- what is asked of the state behind the top -/
abbrev Seen1 {α : Type} (p q : Program) (loose : List Str) (Xt : Shared → Bool) (Yf : Shared → α) (g0 : Bool) (H₀ : Heap) (s : Shared) :=
  ((staticsOk (importedModules p.main.body) H₀ s.heap && namesBound p s.heap && gensDone s && laidKept H₀ s.heap), openSeen q loose (importedModules p.main.body) Xt g0 s, Yf s)
theorem left_run {p q : Program} {loose : List Str} {Xt : Shared → Bool} {α : Type} {Yf : Shared → α} {Ya : World → α} {N : Nat} {g0 : Bool} {L₀ : Params → List Obj} {life : Life} {gs₀ : Array GenState} {d₀ : Drawn} {k₀ : Nat} {m₀ : Nat} {ann : Option Value} {M : Nat}
    (open_ : ∀ w : World, (fencedOpening treeTable p w N).map (fun s => (s.heap, s.gens, s.drawn, s.toks)) = some ((⟨(L₀ w.params).toArray, life⟩ : Heap), gs₀, d₀, k₀))
    (size : ∀ P : Params, ((⟨(L₀ P).toArray, life⟩ : Heap).isNs mainGlobals && gs₀.size == 0, (L₀ P).length, (⟨(L₀ P).toArray, life⟩ : Heap).nsMap mainGlobals "__annotations__", laidT (L₀ P) 0 .nil) = (true, m₀, ann, true)) (le : Nat.ble M N = true)
    (run : ∀ (w : World) (os : OsState), (runG (stepOk m₀ ann) (stepT (denote treeTable) p w) M ⟨layT (L₀ w.params) 0 .nil, m₀, life, gs₀, d₀, k₀, os⟩ (topStub p)).map (fun s => Seen1 p q loose Xt Yf g0 ⟨(L₀ w.params).toArray, life⟩ s.abs) = some (true, openGood q loose, Ya w)) : LeftO p q loose Xt Yf Ya N g0 := fun w => by
  obtain ⟨⟨h, gs, d, k, os⟩, e, e'⟩ := Option.map_eq_some_iff.mp (open_ w)
  obtain ⟨rfl, rfl, rfl, rfl⟩ : h = (⟨(L₀ w.params).toArray, life⟩ : Heap) ∧ gs = gs₀ ∧ d = d₀ ∧ k = k₀ := by simpa using e'
  obtain ⟨z1, z2, z3, z4⟩ : _ ∧ _ ∧ _ ∧ _ := by simpa only [Prod.mk.injEq] using size w.params
  obtain ⟨s', r0, l0⟩ := Option.map_eq_some_iff.mp (run w os)
  obtain ⟨l1, l2, l3⟩ : _ ∧ _ ∧ _ := by simpa only [Prod.mk.injEq] using l0
  have hh := layT_heap (life := life) z4
  rw [z2] at hh
  have r := runG_spec r0
  have ab : SharedT.abs ⟨layT (L₀ w.params) 0 .nil, m₀, life, gs, d, k, os⟩ = ⟨⟨(L₀ w.params).toArray, life⟩, gs, d, k, os⟩ := by
    unfold SharedT.abs
    rw [hh]
  rw [ab] at r
  have r := topRun_mono (N - M) _ _ _ _ r
  rw [show M + (N - M) = N by have := Nat.le_of_ble_eq_true le; omega] at r
  have t : topFrom treeTable p w N ⟨⟨(L₀ w.params).toArray, life⟩, gs, d, k, os⟩ = some s'.abs := by
    unfold topFrom
    dsimp only
    rw [z1, z3, show (L₀ w.params).toArray.size = m₀ by rw [List.size_toArray]; exact z2, r]
    show (match staticsOk (importedModules p.main.body) _ s'.abs.heap && namesBound p s'.abs.heap && gensDone s'.abs && laidKept _ s'.abs.heap with | true => _ | false => _) = _
    rw [l1]
  unfold openEnds
  rw [e]
  show (topFrom treeTable p w N _).map _ = _
  rw [t]
  exact congrArg some (Prod.ext l2 l3)
/-- the statements that the view keeps -/
noncomputable def vw : Program := view PySem.Challenge.pw_og0170_01 [0, 2, 3, 5, 6, 8, 9, 11, 12, 13, 14, 15, 16, 17, 18, 19, 20, 21, 22, 23, 25, 27, 28]
noncomputable def bootL (P : Params) : List Obj := [boot_o_0 P, boot_o_1 P, boot_o_2 P, boot_o_3 P, boot_o_4 P, boot_o_5 P, boot_o_6 P, boot_o_7 P, boot_o_8 P, boot_o_9 P, boot_o_10 P]
theorem size0 (P : Params) : ((⟨(bootL P).toArray, {}⟩ : Heap).isNs mainGlobals && (#[] : Array GenState).size == 0, (bootL P).length, (⟨(bootL P).toArray, {}⟩ : Heap).nsMap mainGlobals "__annotations__", laidT (bootL P) 0 .nil) = (true, 11, some (.ref 6), true) := by
  kernel_rfl!
theorem open0 (w : World) : (fencedOpening treeTable PySem.Challenge.pw_og0170_01 w 6704).map (fun s => (s.heap, s.gens, s.drawn, s.toks)) = some ((⟨(bootL w.params).toArray, {}⟩ : Heap), #[], boot_drawn, boot_toks) :=
  boot_open (by kernel_rfl!) (by decide) (fun s => by kernel_rfl!) w
/-- the row is well said: each look by the kernel, no twin of the text -/
theorem said0 : OpenLaw.wellSaid PySem.Challenge.rw_og0170_01 = true := by
  unfold OpenLaw.wellSaid
  repeat' (with_reducible refine look_both ?_ ?_)
  all_goals kernel_rfl
noncomputable def xt0 (s : Shared) : Bool := xlAt vw [] s && recOk (RowW.records (OpenRow.toRowW (OpenLaw.row PySem.Challenge.rw_og0170_01))) s
set_option maxHeartbeats 8000000 in
theorem head0 (H : Hook) {d : DefRec} {kwd : List (Str × Expr)}
    (a1 : defOf vw (OpenLaw.row PySem.Challenge.rw_og0170_01).name = some (d, kwd)) (a2 : (OpenLaw.row PySem.Challenge.rw_og0170_01).prog.theDef (OpenLaw.row PySem.Challenge.rw_og0170_01).name = some (d.params, d.body, d.scope)) (a3 : kwWritten? d.params.kwonlyargs d.params.kw_defaults = some kwd)
    (run : ∀ (w : World) (os : OsState), (runG (stepOk 11 (some (.ref 6))) (stepT (denote treeTable) PySem.Challenge.pw_og0170_01 w) 3310 ⟨layT (bootL w.params) 0 .nil, 11, {}, #[], boot_drawn, boot_toks, os⟩ (topStub PySem.Challenge.pw_og0170_01)).map (fun s => Seen1 PySem.Challenge.pw_og0170_01 vw [Str.ofString "PaperError", Str.ofString "told_objects"] xt0 H.obs true ⟨(bootL w.params).toArray, {}⟩ s.abs) = some (true, openGood vw [Str.ofString "PaperError", Str.ofString "told_objects"], H.val w))
    (hw : (OpenRow.toRowW (OpenLaw.row PySem.Challenge.rw_og0170_01)).promised)
    (hc : WalkO vw [Str.ofString "PaperError", Str.ofString "told_objects"] (XL vw []) H.says (OpenRow.toRowW (OpenLaw.row PySem.Challenge.rw_og0170_01)) d kwd fun f vs => PySem.call f vs) : OpenRow.Holds (OpenLaw.row PySem.Challenge.rw_og0170_01) := by
  refine holds_open (q := vw) (loose := [Str.ofString "PaperError", Str.ofString "told_objects"]) (Xt := xt0) (XP := XL vw []) (Yf := H.obs) (Ya := H.val) (YP := H.says) (N := 6704) ?hl H.of H.keeps (fun s e => xl_of s (Bool.and_eq_true_iff.mp e).1) XL.keeps a1 a2 a3 (fun s e => recFacts_of (Bool.and_eq_true_iff.mp e).2) ?a4 (row_said said0) ?a6 ⟨rfl, rfl, rfl, rfl, rfl, by decide +kernel⟩ hw hc
  case a4 => rfl
  case a6 => decide +kernel
  case hl => exact left_run (p := PySem.Challenge.pw_og0170_01) (M := 3310) (L₀ := bootL) (life := {}) (gs₀ := #[]) (d₀ := boot_drawn) (k₀ := boot_toks) (m₀ := 11) (ann := some (.ref 6)) open0 size0 (by decide) run
theorem law0 (h : (OpenLaw.row PySem.Challenge.rw_og0170_01).Holds) : OpenLaw.Holds PySem.Challenge.rw_og0170_01 := holds_law said0 fun _ => h
local macro_rules | `(tactic| o_law) => `(tactic| apply law0)
local macro_rules | `(tactic| o_head $H:term) => `(tactic| (
  refine' head0 $H rfl rfl rfl ?hr ?hw ?hc
  (case hr =>
    intro w os
    delta vw Seen1 xt0
    rw [PySem.W.Fast.te6613529449190102663, PySem.W.Fast.te10156331382660048174, PySem.W.Fast.te11892475500146522536, PySem.W.Fast.te14364793385576792824, PySem.W.Fast.te5923862056798008813, PySem.W.Fast.te4187177175401517315]
    kernel_rfl)))
set_option maxRecDepth 100000 in
set_option maxHeartbeats 8000000 in
open_top hd for PySem.Challenge.rw_og0170_01
end Mine
set_option maxRecDepth 100000
open PySem PySem.Spec PySem.Calls PySem.W PyProof.Rows
set_option Elab.async false
namespace Mine
theorem offBase : True := by
  w_top off
  exact trivial
section
-- bundles: one case each
inductive Ex1 {α1 : Type} (P : α1 → Prop) : Prop
  | mk (a1 : α1) (h : P a1) : Ex1 P
inductive Ex2 {α1 α2 : Type} (P : α1 → α2 → Prop) : Prop
  | mk (a1 : α1) (a2 : α2) (h : P a1 a2) : Ex2 P
inductive Ex3 {α1 α2 α3 : Type} (P : α1 → α2 → α3 → Prop) : Prop
  | mk (a1 : α1) (a2 : α2) (a3 : α3) (h : P a1 a2 a3) : Ex3 P
inductive Ex4 {α1 α2 α3 α4 : Type} (P : α1 → α2 → α3 → α4 → Prop) : Prop
  | mk (a1 : α1) (a2 : α2) (a3 : α3) (a4 : α4) (h : P a1 a2 a3 a4) : Ex4 P
inductive Ex5 {α1 α2 α3 α4 α5 : Type} (P : α1 → α2 → α3 → α4 → α5 → Prop) : Prop
  | mk (a1 : α1) (a2 : α2) (a3 : α3) (a4 : α4) (a5 : α5) (h : P a1 a2 a3 a4 a5) : Ex5 P
inductive Ex6 {α1 α2 α3 α4 α5 α6 : Type} (P : α1 → α2 → α3 → α4 → α5 → α6 → Prop) : Prop
  | mk (a1 : α1) (a2 : α2) (a3 : α3) (a4 : α4) (a5 : α5) (a6 : α6) (h : P a1 a2 a3 a4 a5 a6) : Ex6 P
inductive Ex7 {α1 α2 α3 α4 α5 α6 α7 : Type} (P : α1 → α2 → α3 → α4 → α5 → α6 → α7 → Prop) : Prop
  | mk (a1 : α1) (a2 : α2) (a3 : α3) (a4 : α4) (a5 : α5) (a6 : α6) (a7 : α7) (h : P a1 a2 a3 a4 a5 a6 a7) : Ex7 P
inductive Ex11 {α1 α2 α3 α4 α5 α6 α7 α8 α9 α10 α11 : Type} (P : α1 → α2 → α3 → α4 → α5 → α6 → α7 → α8 → α9 → α10 → α11 → Prop) : Prop
  | mk (a1 : α1) (a2 : α2) (a3 : α3) (a4 : α4) (a5 : α5) (a6 : α6) (a7 : α7) (a8 : α8) (a9 : α9) (a10 : α10) (a11 : α11) (h : P a1 a2 a3 a4 a5 a6 a7 a8 a9 a10 a11) : Ex11 P
inductive C2 (p1 p2 : Prop) : Prop
  | mk (h1 : p1) (h2 : p2) : C2 p1 p2
inductive C5 (p1 p2 p3 p4 p5 : Prop) : Prop
  | mk (h1 : p1) (h2 : p2) (h3 : p3) (h4 : p4) (h5 : p5) : C5 p1 p2 p3 p4 p5
inductive C7 (p1 p2 p3 p4 p5 p6 p7 : Prop) : Prop
  | mk (h1 : p1) (h2 : p2) (h3 : p3) (h4 : p4) (h5 : p5) (h6 : p6) (h7 : p7) : C7 p1 p2 p3 p4 p5 p6 p7
inductive C8 (p1 p2 p3 p4 p5 p6 p7 p8 : Prop) : Prop
  | mk (h1 : p1) (h2 : p2) (h3 : p3) (h4 : p4) (h5 : p5) (h6 : p6) (h7 : p7) (h8 : p8) : C8 p1 p2 p3 p4 p5 p6 p7 p8
inductive C9 (p1 p2 p3 p4 p5 p6 p7 p8 p9 : Prop) : Prop
  | mk (h1 : p1) (h2 : p2) (h3 : p3) (h4 : p4) (h5 : p5) (h6 : p6) (h7 : p7) (h8 : p8) (h9 : p9) : C9 p1 p2 p3 p4 p5 p6 p7 p8 p9
inductive C10 (p1 p2 p3 p4 p5 p6 p7 p8 p9 p10 : Prop) : Prop
  | mk (h1 : p1) (h2 : p2) (h3 : p3) (h4 : p4) (h5 : p5) (h6 : p6) (h7 : p7) (h8 : p8) (h9 : p9) (h10 : p10) : C10 p1 p2 p3 p4 p5 p6 p7 p8 p9 p10
inductive C11 (p1 p2 p3 p4 p5 p6 p7 p8 p9 p10 p11 : Prop) : Prop
  | mk (h1 : p1) (h2 : p2) (h3 : p3) (h4 : p4) (h5 : p5) (h6 : p6) (h7 : p7) (h8 : p8) (h9 : p9) (h10 : p10) (h11 : p11) : C11 p1 p2 p3 p4 p5 p6 p7 p8 p9 p10 p11
inductive C12 (p1 p2 p3 p4 p5 p6 p7 p8 p9 p10 p11 p12 : Prop) : Prop
  | mk (h1 : p1) (h2 : p2) (h3 : p3) (h4 : p4) (h5 : p5) (h6 : p6) (h7 : p7) (h8 : p8) (h9 : p9) (h10 : p10) (h11 : p11) (h12 : p12) : C12 p1 p2 p3 p4 p5 p6 p7 p8 p9 p10 p11 p12
inductive C13 (p1 p2 p3 p4 p5 p6 p7 p8 p9 p10 p11 p12 p13 : Prop) : Prop
  | mk (h1 : p1) (h2 : p2) (h3 : p3) (h4 : p4) (h5 : p5) (h6 : p6) (h7 : p7) (h8 : p8) (h9 : p9) (h10 : p10) (h11 : p11) (h12 : p12) (h13 : p13) : C13 p1 p2 p3 p4 p5 p6 p7 p8 p9 p10 p11 p12 p13

abbrev Led := List (Addr × Obj)
theorem mem_tail {p q : Addr × Obj} {l : Led} (h : p ∈ l) : p ∈ q :: l := .tail _ h
theorem mem_head {p : Addr × Obj} {l : Led} : p ∈ p :: l := .head _
/-- everything of the one ledger stands in the other -/
def Sub (l l' : Led) : Prop := ∀ p ∈ l, p ∈ l'
theorem Sub.mem {l l' : Led} {p : Addr × Obj} (h : Sub l l') (hm : p ∈ l) : p ∈ l' := h p hm
theorem Sub.rfl' {l : Led} : Sub l l := fun _ h => h
theorem Sub.trans {l l' l'' : Led} (h : Sub l l') (h' : Sub l' l'') : Sub l l'' := fun p hp => h' p (h p hp)
theorem Sub.cons {l l' : Led} {p : Addr × Obj} (h : Sub l l') : Sub l (p :: l') := fun q hq => .tail _ (h q hq)
/-- everything of the one ledger, but what stands at a, stands in the other -/
def SubX (a : Addr) (l l' : Led) : Prop := ∀ p ∈ l, p.1 ≠ a → p ∈ l'
theorem SubX.mem {a : Addr} {l l' : Led} {p : Addr × Obj} (h : SubX a l l') (hm : p ∈ l) (hne : p.1 ≠ a) : p ∈ l' := h p hm hne
theorem Sub.x {a : Addr} {l l' : Led} (h : Sub l l') : SubX a l l' := fun p hp _ => h p hp
theorem SubX.trans {a : Addr} {l l' l'' : Led} (h : SubX a l l') (h' : SubX a l' l'') : SubX a l l'' := fun p hp hn => h' p (h p hp hn) hn
theorem SubX.transS {a : Addr} {l l' l'' : Led} (h : SubX a l l') (h' : Sub l' l'') : SubX a l l'' := fun p hp hn => h' p (h p hp hn)
theorem Sub.transX {a : Addr} {l l' l'' : Led} (h : Sub l l') (h' : SubX a l' l'') : SubX a l l'' := fun p hp hn => h' p (h p hp) hn

/-- the ledger without what stands at a -/
noncomputable def but (a : Addr) (l : Led) : Led := l.filter fun p => decide (p.1 ≠ a)
theorem mem_but {a : Addr} {l : Led} {p : Addr × Obj} (h : p ∈ l) (hn : p.1 ≠ a) : p ∈ but a l := List.mem_filter.mpr ⟨h, decide_eq_true hn⟩
theorem of_but {a : Addr} {l : Led} {p : Addr × Obj} (h : p ∈ but a l) : p ∈ l ∧ p.1 ≠ a := ⟨(List.mem_filter.mp h).1, of_decide_eq_true (List.mem_filter.mp h).2⟩
theorem but_off {a : Addr} {l : Led} : ∀ p ∈ but a l, p.1 ≠ a := fun _ h => (of_but h).2
theorem subX_but {a : Addr} {l : Led} {o : Obj} : SubX a l ((a, o) :: but a l) := fun _ h hn => .tail _ (mem_but h hn)

theorem front {h₀ h : Heap} {L a : Addr} {o : Obj} {l : Led} (N : News h₀ L h l) (hm : (a, o) ∈ l) : News h₀ L h ((a, o) :: but a l) := fun p hp => by
  rcases List.mem_cons.mp hp with rfl | hp
  · exact N _ hm
  · exact N _ (of_but hp).1
theorem det {h₀ h : Heap} {L a : Addr} {o o' : Obj} {l : Led} (N : News h₀ L h l) (h1 : (a, o) ∈ l) (h2 : (a, o') ∈ l) : o = o' := by
  have e1 := (N _ h1).1
  have e2 := (N _ h2).1
  rw [e1] at e2
  exact Option.some.inj e2
theorem ne_of_obj {h₀ h : Heap} {L a b : Addr} {o o' : Obj} {l : Led} (N : News h₀ L h l) (h1 : (a, o) ∈ l) (h2 : (b, o') ∈ l) (hne : o ≠ o') : a ≠ b := fun e => by
  subst e
  exact hne (det N h1 h2)

theorem lt_of_all {d : Nat} : ∀ {l : Led}, AllLt d l → ∀ p ∈ l, (p.1 : Nat) < d
  | [], _, _, h => nomatch h
  | _ :: _, h, p, hp => by
    rcases List.mem_cons.mp hp with rfl | hp
    · exact h.1
    · exact lt_of_all h.2 p hp
theorem lt_succ_all {d : Nat} {l : Led} (h : ∀ p ∈ l, (p.1 : Nat) < d) : ∀ p ∈ l, (p.1 : Nat) < d + 1 := fun p hp => Nat.lt_succ_of_lt (h p hp)
theorem off_of_lt {d : Addr} {l : Led} (h : ∀ p ∈ l, (p.1 : Nat) < d) : ∀ p ∈ l, p.1 ≠ d := fun p hp => Nat.ne_of_lt (h p hp)
theorem off_of_all {d : Addr} {l : Led} (h : AllLt d l) : ∀ p ∈ l, p.1 ≠ d := off_of_lt (lt_of_all h)
theorem Sub.one {a : Addr} {o : Obj} {l : Led} : Sub l ((a, o) :: l) := Sub.rfl'.cons
/-- none of the one ledger's places is one of the other's -/
def New (l tl : Led) : Prop := ∀ p ∈ tl, ∀ q ∈ l, q.1 ≠ p.1
theorem New.nil {l : Led} : New l [] := fun _ h => nomatch h
theorem New.cons {l tl : Led} {a : Addr} {o : Obj} (h : ∀ q ∈ l, q.1 ≠ a) (n : New l tl) : New l ((a, o) :: tl) := fun p hp => by
  rcases List.mem_cons.mp hp with rfl | hp
  · exact h
  · exact n p hp
theorem New.pre {l l1 tl : Led} (h : Sub l l1) (f : New l1 tl) : New l tl := fun p hp q hq => f p hp q (h q hq)
theorem New.append {l tl tl' : Led} (h : New l tl) (f : New l tl') : New l (tl ++ tl') := fun p hp => (List.mem_append.mp hp).elim (h p) (f p)
/-- a datum made anew: none of its parts stood before -/
def NewDat (l l' : Led) (r : Value) (d : Dat) : Prop := Sub l l' ∧ ∃ tl, Sub tl l' ∧ New l tl ∧ DatIn tl r d
theorem NewDat.pre {l l1 l2 : Led} {r : Value} {d : Dat} (h : Sub l l1) (n : NewDat l1 l2 r d) : NewDat l l2 r d := by
  obtain ⟨e, tl, a, b, c⟩ := n
  exact ⟨h.trans e, tl, a, b.pre h, c⟩
theorem NewDat.post {l l1 l2 : Led} {r : Value} {d : Dat} (n : NewDat l l1 r d) (h : Sub l1 l2) : NewDat l l2 r d := by
  obtain ⟨e, tl, a, b, c⟩ := n
  exact ⟨e.trans h, tl, a.trans h, b, c⟩
theorem NewDat.dat {l l' : Led} {r : Value} {d : Dat} (n : NewDat l l' r d) : DatIn l' r d := by
  obtain ⟨e, tl, a, b, c⟩ := n
  exact DatIn.mono a c
theorem NewDat.tup {l l' : Led} {a : Addr} {vs : List Value} {n : Nat} {ds : List Dat} {tl : Led} (h : Sub l l') (hm : (a, ({ cls := .type "tuple", data := .seq vs.toArray n } : Obj)) ∈ l') (ha : ∀ q ∈ l, q.1 ≠ a) (hs : Sub tl l') (hf : New l tl) (hd : DatAll tl vs ds) :
    NewDat l l' (.ref a) (.tuple ds) := ⟨h, (a, _) :: tl, fun p hp => by
      rcases List.mem_cons.mp hp with rfl | hp
      · exact hm
      · exact hs p hp, .cons ha hf, .tuple (.head _) (DatAll.mono (fun _ h => .tail _ h) hd)⟩
theorem NewDat.flat {l : Led} {a : Addr} {vs : List Value} {n : Nat} {ds : List Dat} (ha : ∀ q ∈ l, (q.1 : Nat) < a) (hd : DatAll [] vs ds) : NewDat l ((a, ({ cls := .type "tuple", data := .seq vs.toArray n } : Obj)) :: l) (.ref a) (.tuple ds) :=
  .tup .one (.head _) (off_of_lt ha) (tl := []) (fun _ h => nomatch h) .nil hd

/-- a goal that the walk leaves alone -/
def Halt (P : Prop) : Prop := P
theorem halt {P : Prop} (h : Halt P) : P := h

abbrev site (hdl : Option Value) (dp un : Nat) (gd : Option (List Code)) (env : Env) (outer : List Env) : Around := { handled := hdl, depth := dp, frames := some (env :: outer), guards := gd, units := un }

section
variable {prog : Program} {w : World} {A : Around} {E : Value → Shared → Prop} {s : Shared} {h₀ : Heap} {L D : Addr} {m : Str → Option Value} {news : Led}
theorem setList {its : Array Value} {n : Nat} {k : Int} {t : Tok} {v : Value} {Q : Unit → Shared → Prop} (F : Fr h₀ L s.heap m) (N : News h₀ L s.heap news) (hm : (D, listOf its n) ∈ news) (h0 : 0 ≤ k) (h1 : k.toNat < its.size) (hfit : k < 2 ^ 63)
    (h : ∀ h', Fr h₀ L h' m → News h₀ L h' ((D, listOf (its.setIfInBounds k.toNat v) n) :: but D news) → Q () { s with heap := h' }) :
    wpAny (model prog w) A (setItem (.ref D) (.int k t) v) Q E s := by
  have N2 := front N hm
  have z := N _ hm
  have hd : PySem.Obj.mapSeq (fun a => a.setIfInBounds k.toNat v) (listOf its n) = listOf (its.setIfInBounds k.toNat v) n := by
    simp [PySem.Obj.mapSeq]
  refine ki_setAt z.1 h0 hfit (by omega) (h _ (F.change (Heap.SameBut.update ..) z.2.1 z.2.2) ?_)
  exact news_set (pre := []) N2 (fun _ h => nomatch h) but_off (Heap.SameBut.update ..) (by rw [← hd]; exact Heap.get?_update_self _ z.1 (by rw [hd]; rfl))

theorem ledList {h : Heap} {its : Array Value} {n : Nat} (N : News h₀ L h news) (hm : (D, listOf its n) ∈ news) : h.IsList D its := PySem.IsL.isList (n := n) (N _ hm).1
theorem lenI {vs : List Value} {ns : List Int} {n : Nat} {Q : Value → Shared → Prop} (N : News h₀ L s.heap news) (hm : (D, listOf vs.toArray n) ∈ news) (hi : IntsAre vs ns) (hsz : ns.length ≤ 1000000) (h : Q (.int ns.length (s.toks + 1)) { s with toks := s.toks + 1 + 1 }) :
    wpAny (model prog w) A (call (.builtin "len") [.ref D]) Q E s := by
  have e : vs.toArray.size = ns.length := by rw [List.size_toArray]; exact hi.length
  refine PyProof.Rows.len_list (ledList N hm) (by omega) ?_
  rw [e]
  exact h
end
theorem dict_cls {prog : Program} {w : World} {K : Type} [DecidableEq K] {knd : KeyKind prog w K} {o : Obj} {kvs : List (K × Value)} (h : o.IsDictOf knd kvs) : o.cls = .type "dict" := by
  obtain ⟨_, _, e, _⟩ := h
  exact e.1
theorem dictS_cls {prog : Program} {w : World} {o : Obj} {kvs : List (Str × Value)} (h : o.IsDictOf (strKind prog w) kvs) : o.cls = .type "dict" := dict_cls h
theorem dictI_cls {prog : Program} {w : World} {o : Obj} {kvs : List (Int × Value)} (h : o.IsDictOf (intKind prog w) kvs) : o.cls = .type "dict" := dict_cls h
end
theorem loaded : (PySem.Challenge.rw_og0170_01, Mine.hd.heap_1) = (PySem.Challenge.rw_og0170_01, Mine.hd.heap_1) := by k_fill; rfl
-- the short rules: k_search shows the goal's act; ktf_call takes a contract; tbr_iter takes a lemma, its arguments (0: the goal that stays; 100 * rank + closer), and what is brought in
def closer (n : Nat) : Lean.MacroM (Lean.TSyntax `tactic) :=
  match n with
  | 1 => `(tactic| k_asm)
  | 2 => `(tactic| k_mem)
  | 3 => `(tactic| with_reducible assumption)
  | 4 => `(tactic| ktr_rel)
  | 5 => `(tactic| ktr_unf)
  | 6 => `(tactic| rfl)
  | 7 => `(tactic| exact rfl)
  | 8 => `(tactic| omega)
  | 9 => `(tactic| decide)
  | 10 => `(tactic| with_unfolding_all rfl)
  | 11 => `(tactic| (intro _; with_unfolding_all rfl))
  | 12 => `(tactic| first | with_reducible assumption | omega)
  | 13 => `(tactic| k_room)
  | 14 => `(tactic| exact List.cons_ne_nil _ _)
  | 15 => `(tactic| exact Nat.le_of_ble_eq_true rfl)
  | 16 => `(tactic| first | exact rfl | assumption)
  | 17 => `(tactic| first | (simp only [List.length_cons, List.length_nil]; omega) | omega)
  | 18 => `(tactic| walk_at "mine dsub")
  | 19 => `(tactic| walk_at "mine one")
  | 20 => `(tactic| tbr_iter (FnAt.of, "101 203"))
  | 21 => `(tactic| exact Top.nolimit (by k_asm))
  | 23 => `(tactic| walk_at "mine room")
  | 24 => `(tactic| walk_at "mine dent")
  | _ => Lean.Macro.throwUnsupported
local macro_rules | `(tactic| k_search $a:term) => `(tactic| (with_reducible show wpAny _ _ $a _ _ _))
local macro_rules | `(tactic| ktf_call $l:term) => `(tactic| (k_here; k_dflt (apply $l; walk_at "mine std"); intros; (try k_sweep)))
def ruleGo (f : Lean.TSyntax `term) (cs : Array Lean.Syntax) : Lean.MacroM (Lean.TSyntax `tactic) := do
  let mut as : Array Lean.Syntax := if f.raw.isOfKind ``Lean.Parser.Term.app then f.raw[1].getArgs else #[]
  let mut ts : Array (Nat × Lean.TSyntax `tactic) := #[]
  for c in cs do
    match c.isNatLit? with
    | some 0 => as := as.push (← `(?_))
    | some n =>
      let x := Lean.mkIdent (← Lean.Macro.addMacroScope (Lean.Name.mkSimple ("q" ++ toString as.size)))
      as := as.push (← `(?$x:ident))
      let t ← closer (n % 100)
      ts := ts.push (n / 100, ← `(tactic| case $x:ident => $t:tactic))
    | none => as := as.push c
  let h := if f.raw.isOfKind ``Lean.Parser.Term.app then f.raw[0] else f.raw
  let e : Lean.TSyntax `term := ⟨Lean.Syntax.node .none ``Lean.Parser.Term.app #[h, Lean.mkNullNode as]⟩
  let zs := (ts.qsort fun a b => a.1 < b.1).map (·.2)
  `(tactic| (refine' $e; $[$zs];*))
def ruleAll (f : Lean.TSyntax `term) (cs : Array Lean.Syntax) (n : Nat) : Lean.MacroM (Lean.TSyntax `tactic) := do
  let us (k : Nat) : Array (Lean.TSyntax `term) := Array.replicate k ⟨Lean.Syntax.node .none ``Lean.Parser.Term.hole #[Lean.Syntax.atom .none "_"]⟩
  let r ← ruleGo f cs
  let t ← `(tactic| (k_here; k_dflt ($r:tactic; k_whole)))
  if n == 0 then return t
  if n < 100 then
    let a := us n
    return ← `(tactic| ($t:tactic; intro $[$a]*; (try k_sweep)))
  if 10000 ≤ n then
    let a := us (n - 10000)
    return ← `(tactic| ($t:tactic; intro $[$a]*))
  let x := Lean.mkIdent (← Lean.Macro.addMacroScope `l1)
  let x' : Lean.TSyntax `term := ⟨x.raw⟩
  let a := us (n / 100) ++ #[x'] ++ us (n % 100)
  `(tactic| ($t:tactic; intro $[$a]*; (try k_lt $x:ident); (try k_sweep)))
/-- "101 203 0" or "101 203 0/6" -/
def ruleStr (f : Lean.TSyntax `term) (s : String) : Lean.MacroM (Lean.TSyntax `tactic) :=
  let z := s.splitOn "/"
  let cs := ((z.headD "").splitOn " ").toArray.map fun x => (Lean.Syntax.mkNumLit x).raw
  match z with
  | [_, p] => ruleAll f cs (p.toNat?.getD 0)
  | _ => ruleGo f cs
local macro_rules
  | `(tactic| tbr_iter ($f, $s:str)) => ruleStr f s.getString
  | `(tactic| tbr_iter ([$xs,*], $n:num)) => do
    let t ← closer n.getNat
    let ts ← xs.getElems.mapM fun x => `(tactic| all_goals (try ((with_reducible show $x); $t:tactic)))
    `(tactic| ($[$ts];*))
  | `(tactic| tbr_iter ($f, [$cs,*], $n:num)) => ruleAll f (cs.getElems.map (·.raw)) n.getNat
local macro_rules | `(tactic| k_mem) => `(tactic| (refine mem_but ?mbA ?mbB; (case mbB => (try dsimp only); first | assumption | exact Ne.symm (by assumption) | omega); (case mbA => k_mem)))
local macro_rules | `(tactic| k_mem) => `(tactic| (refine Sub.mem (by with_reducible assumption) ?sbA; (case sbA => k_mem)))
local macro_rules | `(tactic| k_mem) => `(tactic| (refine SubX.mem (by with_reducible assumption) ?sbA ?sbB; (case sbB => (try dsimp only); first | assumption | exact Ne.symm (by assumption) | omega); (case sbA => k_mem)))
local macro_rules | `(tactic| k_mem) => `(tactic| first | exact mem_head | (refine mem_tail ?mtA; (case mtA => k_mem)))
local macro_rules | `(tactic| k_mem) => `(tactic| with_reducible assumption)
-- a list's item set, the ledger abstract
local macro_rules | `(tactic| walk_at "setItem ref int") => `(tactic| (k_here; k_dflt (refine' setList ?k1 ?k2 ?k3 ?k4 ?k5 ?k6 ?_; (case k1 => k_asm); (case k2 => k_asm); (case k3 => k_mem); (case k4 => decide); (case k5 => (show (1 : Nat) < 2; decide)); (case k6 => decide); k_whole); intro h' F' N'; (try k_sweep)))
local macro_rules | `(tactic| walk_at "call builtin:len") => `(tactic| (k_search (call (Value.builtin "len") [Value.ref _]); tbr_iter (lenI, "101 202 303 408 0/0")))
local macro_rules | `(tactic| walk_at "call builtin:isinstance") => `(tactic| (k_here; (with_reducible show wpAny _ _ (call _ [Value.ref _, _]) _ _ _); k_dflt (refine' kia_one kitx_dict ?X (kitAt_N ?N ?m (dictS_cls ?c)) ?ee ?nb ?_; (case c => with_reducible assumption); (case N => k_asm); (case m => k_mem); (case X => k_in); (case ee => kit_is); (case nb => kit_nb); k_whole; intro _)))
-- the one ledger stands in the other
local macro_rules | `(tactic| ktr_unf) => `(tactic| first | exact Sub.rfl' | with_reducible assumption | tbr_iter (Sub.cons, "105") | tbr_iter (Sub.trans, "205 103"))
local macro_rules | `(tactic| walk_at "eval ListComp") => `(tactic| refine halt ?_)
local macro_rules | `(tactic| k_room) => `(tactic| (first | omega | (simp only [site, depth_mark, depth_under_make, depth_under_kw, depth_in1, depth_deeper, units_in1, units_deeper]; omega) | (dsimp only [site, Around.deeper, Around.in1]; omega)))
-- what a contract asks, by its kind
local macro_rules | `(tactic| walk_at "mine std") => `(tactic| (
  tbr_iter ([Below _ _ _ _, Fr _ _ _ _, Frag.In _ _, News _ _ _ _, Top _ _ _ _ _ _], 1);
  tbr_iter ([Env.frame _ = _, Scope.kind _ = _], 7);
  (all_goals (try (walk_at "mine A")));
  (all_goals (try (walk_at "mine B")));
  (all_goals (try (walk_at "mine C")));
  tbr_iter ([_ < 64, (_ : Int) ≤ _, (_ : Int) < _], 12);
  tbr_iter ([_ < recursionLimit, _ < cLine], 23);
  (all_goals (with_reducible show ∀ _, _))))
local macro_rules | `(tactic| walk_at "mine room") => `(tactic| first | k_room | decide)
local macro_rules | `(tactic| walk_at "mine A") => `(tactic| ((with_reducible show Obj.IsDictOf _ _ _); with_reducible assumption))
local macro_rules | `(tactic| walk_at "mine B") => `(tactic| first | ((with_reducible show _ ∈ _); k_mem) | ((with_reducible show (_ == sysModules) = false); with_reducible assumption))
theorem offDraw : True := by
  w_top off
  exact trivial
section
section
variable {prog pt : Program} {w : World} {A₀ : Around} {base h₀ : Heap} {outer : List Env} {env : Env} {L : Addr} {m : Str → Option Value} {news : List (Addr × Obj)} {mean : ExcName → Option Value} {mg mb : Str → Option Value} {loose : List Str} {s : Shared} {Q E : Value → Shared → Prop} {dp un : Nat} {gd : Option (List Code)}

set_option maxHeartbeats 4000000 in
theorem draw_spec (B : Below A₀ base outer h₀) (F : Fr h₀ L s.heap m) (X : (hd.heap_1 w.params).In h₀) (N : News h₀ L s.heap news) (T : Top pt loose mean mg mb h₀)
    (hf : env.frame = some L) (hk : env.scope.kind = .function) (hd : dp + 20 < recursionLimit) (hu : un + 200 < cLine)
    {tp cl : Addr} {at_ many : Int} {tk tk2 : Tok} {ep ec : Nat} {its : List Value} {ns : List Int}
    (ht : (tp, W.listOf #[.ref cl, .int at_ tk] ep) ∈ news) (hc : (cl, W.listOf its.toArray ec) ∈ news) (hi : IntsAre its ns) (hn : ns ≠ []) (hl : ns.length ≤ 40) (h0 : 0 ≤ at_) (h1 : at_ ≤ 1000) (hm : 0 < many)
    (ret : ∀ r t h' tk' news', 0 ≤ r → r < many → Fr h₀ L h' m → News h₀ L h' news' → SubX tp news news' → (∃ t ep', (tp, W.listOf #[.ref cl, .int (at_ + 1) t] ep') ∈ news') → Q (.int r t) { s with heap := h', toks := tk' }) :
    wpAny (model prog w) (site none dp un gd env outer) (call (.ref 417) [.ref tp, .int many tk2]) Q E s := by
  have hlen : its.length = ns.length := hi.length
  have hpos : 0 < ns.length := List.length_pos_iff.mpr hn
  have hne : cl ≠ tp := fun e => by
    subst e
    have := det N ht hc
    cases hi with
    | nil => exact hn rfl
    | cons i t r => simp [W.listOf] at this
  refine wpAny_call ?_
  k_dflt (refine' code_def (binds := [(Str.ofString "tape", .ref tp), (Str.ofString "many", .int many tk2)]) ?k1 ?k2 ?k3 ?k4 ?k5 ?kA ?kF ?kK ?k6 ?k7 ?k8 ?k9 ?kB ?_ ?c2 ?c3 ?c4 ?c5; (case kA => exact rfl); (case kF => exact hf); (case kK => assumption); (case k1 => k_asm); (case k2 => k_asm); (case k3 => k_asm); (case k4 => k_asm); (case k5 => k_asm); (case k6 => k_is); (case k7 => k_is); (case k8 => (show dp < _; omega)); (case k9 => exact BindsTo.of_eq rfl); (case c5 => decide); (case kB => exact locs rfl); (case c2 => exact rfl); (case c3 => exact rfl); (case c4 => exact rfl); k_whole; intro g' L' h' FG' F' N' B' X' T'; (try dsimp only); (try k_fold))
  k_steps
  have hb : ∀ x : Int, 0 ≤ x.fmod many ∧ x.fmod many < many := fun x => by
    rw [Int.fmod_eq_emod_of_nonneg _ (Int.le_of_lt hm)]
    exact ⟨Int.emod_nonneg _ (Int.ne_of_gt hm), Int.emod_lt_of_pos _ hm⟩
  exact ret _ _ _ _ _ (hb _).1 (hb _).2 (by k_asm) (by k_asm) subX_but ⟨_, _, .head _⟩
end
end
theorem offKind : True := by
  w_top off
  exact trivial
section
/-- what kind_of says -/
inductive Kind (prog : Program) (w : World) (news : Led) : Value → Str → Prop where
  | none : Kind prog w news .none (Str.ofString "null")
  | int {i : Int} {t : Tok} : Kind prog w news (.int i t) (Str.ofString "int")
  | list {l : Addr} {its : Array Value} {n : Nat} : (l, W.listOf its n) ∈ news → Kind prog w news (.ref l) (Str.ofString "array")
  | dict {d : Addr} {od : Obj} {kvs : List (Str × Value)} : (d, od) ∈ news → od.IsDictOf (strKind prog w) kvs → Kind prog w news (.ref d) (Str.ofString "dict")
  | name {x dx : Addr} {es : List DictEntry} {n : Nat} : (x, instObj 211 dx) ∈ news → (dx, W.dictOf es n) ∈ news → Kind prog w news (.ref x) (Str.ofString "name")
  | ref {x dx : Addr} {es : List DictEntry} {n : Nat} : (x, instObj 282 dx) ∈ news → (dx, W.dictOf es n) ∈ news → Kind prog w news (.ref x) (Str.ofString "ref")
section
variable {prog pt : Program} {w : World} {A₀ : Around} {base h₀ : Heap} {outer : List Env} {env : Env} {L : Addr} {m : Str → Option Value} {news : List (Addr × Obj)} {mean : ExcName → Option Value} {mg mb : Str → Option Value} {loose : List Str} {s : Shared} {Q E : Value → Shared → Prop} {dp un : Nat} {gd : Option (List Code)} {hdl : Option Value}

set_option maxHeartbeats 8000000 in
theorem kind_spec (B : Below A₀ base outer h₀) (F : Fr h₀ L s.heap m) (X : (hd.heap_1 w.params).In h₀) (N : News h₀ L s.heap news) (T : Top pt loose mean mg mb h₀)
    (hf : env.frame = some L) (hk : env.scope.kind = .function) (hd : dp + 20 < recursionLimit) (hu : un + 200 < cLine)
    {v : Value} {k : Str} (hv : Kind prog w news v k)
    (ret : ∀ t h' tk', Fr h₀ L h' m → News h₀ L h' news → Q (.str k t) { s with heap := h', toks := tk' }) :
    wpAny (model prog w) (site hdl dp un gd env outer) (call (.ref 293) [v]) Q E s := by
  cases hv with
  | none =>
    (refine wpAny_call ?_; k_dflt (refine' code_def (binds := [(Str.ofString "value", .none)]) ?k1 ?k2 ?k3 ?k4 ?k5 ?kA ?kF ?kK ?k6 ?k7 ?k8 ?k9 ?kB ?_ ?c2 ?c3 ?c4 ?c5; (case kA => exact rfl); (case kF => assumption); (case kK => assumption); (case k1 => k_asm); (case k2 => k_asm); (case k3 => k_asm); (case k4 => k_asm); (case k5 => k_asm); (case k6 => k_is); (case k7 => k_is); (case k8 => (show dp < _; omega)); (case k9 => exact BindsTo.of_eq rfl); (case c5 => decide); (case kB => exact locs rfl); (case c2 => exact rfl); (case c3 => exact rfl); (case c4 => exact rfl); k_whole; intro g' L' h' FG' F' N' B' X' T'; (try dsimp only); (try k_fold)))
    k_steps
    exact ret _ _ _ (by k_asm) (by k_asm)
  | @int i t =>
    (refine wpAny_call ?_; k_dflt (refine' code_def (binds := [(Str.ofString "value", .int i t)]) ?k1 ?k2 ?k3 ?k4 ?k5 ?kA ?kF ?kK ?k6 ?k7 ?k8 ?k9 ?kB ?_ ?c2 ?c3 ?c4 ?c5; (case kA => exact rfl); (case kF => assumption); (case kK => assumption); (case k1 => k_asm); (case k2 => k_asm); (case k3 => k_asm); (case k4 => k_asm); (case k5 => k_asm); (case k6 => k_is); (case k7 => k_is); (case k8 => (show dp < _; omega)); (case k9 => exact BindsTo.of_eq rfl); (case c5 => decide); (case kB => exact locs rfl); (case c2 => exact rfl); (case c3 => exact rfl); (case c4 => exact rfl); k_whole; intro g' L' h' FG' F' N' B' X' T'; (try dsimp only); (try k_fold)))
    k_steps
    exact ret _ _ _ (by k_asm) (by k_asm)
  | @list l its n hm =>
    (refine wpAny_call ?_; k_dflt (refine' code_def (binds := [(Str.ofString "value", .ref l)]) ?k1 ?k2 ?k3 ?k4 ?k5 ?kA ?kF ?kK ?k6 ?k7 ?k8 ?k9 ?kB ?_ ?c2 ?c3 ?c4 ?c5; (case kA => exact rfl); (case kF => assumption); (case kK => assumption); (case k1 => k_asm); (case k2 => k_asm); (case k3 => k_asm); (case k4 => k_asm); (case k5 => k_asm); (case k6 => k_is); (case k7 => k_is); (case k8 => (show dp < _; omega)); (case k9 => exact BindsTo.of_eq rfl); (case c5 => decide); (case kB => exact locs rfl); (case c2 => exact rfl); (case c3 => exact rfl); (case c4 => exact rfl); k_whole; intro g' L' h' FG' F' N' B' X' T'; (try dsimp only); (try k_fold)))
    k_steps
    exact ret _ _ _ (by k_asm) (by k_asm)
  | @name x dx es n hm hm2 =>
    (refine wpAny_call ?_; k_dflt (refine' code_def (binds := [(Str.ofString "value", .ref x)]) ?k1 ?k2 ?k3 ?k4 ?k5 ?kA ?kF ?kK ?k6 ?k7 ?k8 ?k9 ?kB ?_ ?c2 ?c3 ?c4 ?c5; (case kA => exact rfl); (case kF => assumption); (case kK => assumption); (case k1 => k_asm); (case k2 => k_asm); (case k3 => k_asm); (case k4 => k_asm); (case k5 => k_asm); (case k6 => k_is); (case k7 => k_is); (case k8 => (show dp < _; omega)); (case k9 => exact BindsTo.of_eq rfl); (case c5 => decide); (case kB => exact locs rfl); (case c2 => exact rfl); (case c3 => exact rfl); (case c4 => exact rfl); k_whole; intro g' L' h' FG' F' N' B' X' T'; (try dsimp only); (try k_fold)))
    k_steps
    exact ret _ _ _ (by k_asm) (by k_asm)
  | @ref x dx es n hm hm2 =>
    (refine wpAny_call ?_; k_dflt (refine' code_def (binds := [(Str.ofString "value", .ref x)]) ?k1 ?k2 ?k3 ?k4 ?k5 ?kA ?kF ?kK ?k6 ?k7 ?k8 ?k9 ?kB ?_ ?c2 ?c3 ?c4 ?c5; (case kA => exact rfl); (case kF => assumption); (case kK => assumption); (case k1 => k_asm); (case k2 => k_asm); (case k3 => k_asm); (case k4 => k_asm); (case k5 => k_asm); (case k6 => k_is); (case k7 => k_is); (case k8 => (show dp < _; omega)); (case k9 => exact BindsTo.of_eq rfl); (case c5 => decide); (case kB => exact locs rfl); (case c2 => exact rfl); (case c3 => exact rfl); (case c4 => exact rfl); k_whole; intro g' L' h' FG' F' N' B' X' T'; (try dsimp only); (try k_fold)))
    k_steps
    exact ret _ _ _ (by k_asm) (by k_asm)
  | @dict d od kvs hm ho =>
    (refine wpAny_call ?_; k_dflt (refine' code_def (binds := [(Str.ofString "value", .ref d)]) ?k1 ?k2 ?k3 ?k4 ?k5 ?kA ?kF ?kK ?k6 ?k7 ?k8 ?k9 ?kB ?_ ?c2 ?c3 ?c4 ?c5; (case kA => exact rfl); (case kF => assumption); (case kK => assumption); (case k1 => k_asm); (case k2 => k_asm); (case k3 => k_asm); (case k4 => k_asm); (case k5 => k_asm); (case k6 => k_is); (case k7 => k_is); (case k8 => (show dp < _; omega)); (case k9 => exact BindsTo.of_eq rfl); (case c5 => decide); (case kB => exact locs rfl); (case c2 => exact rfl); (case c3 => exact rfl); (case c4 => exact rfl); k_whole; intro g' L' h' FG' F' N' B' X' T'; (try dsimp only); (try k_fold)))
    k_steps
    exact ret _ _ _ (by k_asm) (by k_asm)
end
end
local macro_rules | `(tactic| walk_at "mine C") => `(tactic| ((with_reducible show Kind _ _ _ _ _); ktr_rel))
local macro_rules | `(tactic| ktr_rel) => `(tactic| first | with_reducible assumption | exact Kind.int | exact Kind.none | tbr_iter (Kind.list, "102") | tbr_iter (Kind.dict, "202 103") | tbr_iter (Kind.name, "102 202") | tbr_iter (Kind.ref, "102 202"))
local macro_rules | `(tactic| walk_at "call ref") => `(tactic| (k_search (call (Value.ref 293) [_]); ktf_call kind_spec))
theorem offPlain : True := by
  w_top off
  exact trivial
section
/-- what told_plain takes: the value, its kind, what it tells -/
inductive Plain (news : Led) : Value → Str → Dat → Prop where
  | none : Plain news .none (Str.ofString "null") (.tuple [.str (Str.ofString "null")])
  | int {i : Int} {t : Tok} : Plain news (.int i t) (Str.ofString "int") (.tuple [.str (Str.ofString "int"), .int i])
  | name {x dx : Addr} {hs : Int} {t1 : Tok} {tx : Str} {t2 : Tok} {n : Nat} : (x, instObj 211 dx) ∈ news → (dx, W.dictOf [⟨hs, .str (Str.ofString "text") t1, .str tx t2⟩] n) ∈ news →
      Plain news (.ref x) (Str.ofString "name") (.tuple [.str (Str.ofString "name"), .str tx])
  | ref {x dx : Addr} {h1 : Int} {t1 : Tok} {a : Int} {u1 : Tok} {h2 : Int} {t2 : Tok} {b : Int} {u2 : Tok} {n : Nat} : (x, instObj 282 dx) ∈ news →
      (dx, W.dictOf [⟨h1, .str (Str.ofString "number") t1, .int a u1⟩, ⟨h2, .str (Str.ofString "generation") t2, .int b u2⟩] n) ∈ news →
      Plain news (.ref x) (Str.ofString "ref") (.tuple [.str (Str.ofString "ref"), .int a, .int b])
theorem Plain.sub {l l' : Led} {v : Value} {k : Str} {d : Dat} (h : Plain l v k d) (e : Sub l l') : Plain l' v k d := by
  cases h with
  | none => exact .none
  | int => exact .int
  | name a b => exact .name (e _ a) (e _ b)
  | ref a b => exact .ref (e _ a) (e _ b)
section
variable {prog pt : Program} {w : World} {A₀ : Around} {base h₀ : Heap} {outer : List Env} {env : Env} {L : Addr} {m : Str → Option Value} {news : List (Addr × Obj)} {mean : ExcName → Option Value} {mg mb : Str → Option Value} {loose : List Str} {s : Shared} {Q E : Value → Shared → Prop} {dp un : Nat} {gd : Option (List Code)} {hdl : Option Value}
set_option maxHeartbeats 8000000 in
theorem plain_spec (B : Below A₀ base outer h₀) (F : Fr h₀ L s.heap m) (X : (hd.heap_1 w.params).In h₀) (N : News h₀ L s.heap news) (T : Top pt loose mean mg mb h₀)
    (hf : env.frame = some L) (hk : env.scope.kind = .function) (hd : dp + 20 < recursionLimit) (hu : un + 200 < cLine)
    {v : Value} {k : Str} {tk0 : Tok} {d : Dat} (hv : Plain news v k d)
    (ret : ∀ r h' tk' news', Fr h₀ L h' m → News h₀ L h' news' → NewDat news news' r d → Q r { s with heap := h', toks := tk' }) :
    wpAny (model prog w) (site hdl dp un gd env outer) (call (.ref 300) [.str k tk0, v]) Q E s := by
  cases hv with
  | none =>
    (refine wpAny_call ?_; k_dflt (refine' code_def (binds := [(Str.ofString "kind", .str (Str.ofString "null") tk0), (Str.ofString "value", .none)]) ?k1 ?k2 ?k3 ?k4 ?k5 ?kA ?kF ?kK ?k6 ?k7 ?k8 ?k9 ?kB ?_ ?c2 ?c3 ?c4 ?c5; (case kA => exact rfl); (case kF => assumption); (case kK => assumption); (case k1 => k_asm); (case k2 => k_asm); (case k3 => k_asm); (case k4 => k_asm); (case k5 => k_asm); (case k6 => k_is); (case k7 => k_is); (case k8 => (show dp < _; omega)); (case k9 => exact BindsTo.of_eq rfl); (case c5 => decide); (case kB => exact locs rfl); (case c2 => exact rfl); (case c3 => exact rfl); (case c4 => exact rfl); k_whole; intro g' L' h' FG' F' N' B' X' T'; (try dsimp only); (try k_fold)))
    k_steps
    exact ret _ _ _ _ (by k_asm) (by k_asm) (.flat (by assumption) (.cons (.str _ _) .nil))
  | @int i t =>
    (refine wpAny_call ?_; k_dflt (refine' code_def (binds := [(Str.ofString "kind", .str (Str.ofString "int") tk0), (Str.ofString "value", .int i t)]) ?k1 ?k2 ?k3 ?k4 ?k5 ?kA ?kF ?kK ?k6 ?k7 ?k8 ?k9 ?kB ?_ ?c2 ?c3 ?c4 ?c5; (case kA => exact rfl); (case kF => assumption); (case kK => assumption); (case k1 => k_asm); (case k2 => k_asm); (case k3 => k_asm); (case k4 => k_asm); (case k5 => k_asm); (case k6 => k_is); (case k7 => k_is); (case k8 => (show dp < _; omega)); (case k9 => exact BindsTo.of_eq rfl); (case c5 => decide); (case kB => exact locs rfl); (case c2 => exact rfl); (case c3 => exact rfl); (case c4 => exact rfl); k_whole; intro g' L' h' FG' F' N' B' X' T'; (try dsimp only); (try k_fold)))
    k_steps
    all_goals trace_state
    exact ret _ _ _ _ (by k_asm) (by k_asm) (.flat (by assumption) (.cons (.str _ _) (.cons (.int _ _) .nil)))
  | @name x dx hs t1 s t2 n hm hm2 =>
    (refine wpAny_call ?_; k_dflt (refine' code_def (binds := [(Str.ofString "kind", .str (Str.ofString "name") tk0), (Str.ofString "value", .ref x)]) ?k1 ?k2 ?k3 ?k4 ?k5 ?kA ?kF ?kK ?k6 ?k7 ?k8 ?k9 ?kB ?_ ?c2 ?c3 ?c4 ?c5; (case kA => exact rfl); (case kF => assumption); (case kK => assumption); (case k1 => k_asm); (case k2 => k_asm); (case k3 => k_asm); (case k4 => k_asm); (case k5 => k_asm); (case k6 => k_is); (case k7 => k_is); (case k8 => (show dp < _; omega)); (case k9 => exact BindsTo.of_eq rfl); (case c5 => decide); (case kB => exact locs rfl); (case c2 => exact rfl); (case c3 => exact rfl); (case c4 => exact rfl); k_whole; intro g' L' h' FG' F' N' B' X' T'; (try dsimp only); (try k_fold)))
    k_steps
    exact ret _ _ _ _ (by k_asm) (by k_asm) (.flat (by assumption) (.cons (.str _ _) (.cons (.str _ _) .nil)))
  | @ref x dx h1 t1 a u1 h2 t2 b u2 n hm hm2 =>
    (refine wpAny_call ?_; k_dflt (refine' code_def (binds := [(Str.ofString "kind", .str (Str.ofString "ref") tk0), (Str.ofString "value", .ref x)]) ?k1 ?k2 ?k3 ?k4 ?k5 ?kA ?kF ?kK ?k6 ?k7 ?k8 ?k9 ?kB ?_ ?c2 ?c3 ?c4 ?c5; (case kA => exact rfl); (case kF => assumption); (case kK => assumption); (case k1 => k_asm); (case k2 => k_asm); (case k3 => k_asm); (case k4 => k_asm); (case k5 => k_asm); (case k6 => k_is); (case k7 => k_is); (case k8 => (show dp < _; omega)); (case k9 => exact BindsTo.of_eq rfl); (case c5 => decide); (case kB => exact locs rfl); (case c2 => exact rfl); (case c3 => exact rfl); (case c4 => exact rfl); k_whole; intro g' L' h' FG' F' N' B' X' T'; (try dsimp only); (try k_fold)))
    k_steps
    exact ret _ _ _ _ (by k_asm) (by k_asm) (.flat (by assumption) (.cons (.str _ _) (.cons (.int _ _) (.cons (.int _ _) .nil))))
end
end
local macro_rules | `(tactic| walk_at "mine C") => `(tactic| ((with_reducible show Plain _ _ _ _); ktr_rel))
local macro_rules | `(tactic| ktr_rel) => `(tactic| first | with_reducible assumption | exact Plain.int | exact Plain.none | tbr_iter (Plain.sub, "103 205") | tbr_iter (Plain.name, "102 202") | tbr_iter (Plain.ref, "102 202"))
local macro_rules | `(tactic| walk_at "call ref") => `(tactic| (k_search (call (Value.ref 300) [_, _]); ktf_call plain_spec))
theorem offTold : True := by
  w_top off
  exact trivial
section
section
variable {prog pt : Program} {w : World} {A₀ : Around} {base h₀ : Heap} {outer : List Env} {env : Env} {L : Addr} {m : Str → Option Value} {news : List (Addr × Obj)} {mean : ExcName → Option Value} {mg mb : Str → Option Value} {loose : List Str} {s : Shared} {Q E : Value → Shared → Prop} {dp un : Nat} {gd : Option (List Code)} {hdl : Option Value}
set_option maxHeartbeats 8000000 in
theorem told1_spec (B : Below A₀ base outer h₀) (F : Fr h₀ L s.heap m) (X : (hd.heap_1 w.params).In h₀) (N : News h₀ L s.heap news) (T : Top pt loose mean mg mb h₀)
    (hf : env.frame = some L) (hk : env.scope.kind = .function) (hd : dp + 40 < recursionLimit) (hu : un + 400 < cLine)
    {v : Value} {k : Str} {d : Dat} (hv : Plain news v k d)
    (ret : ∀ r h' tk' news', Fr h₀ L h' m → News h₀ L h' news' → NewDat news news' r d → Q r { s with heap := h', toks := tk' }) :
    wpAny (model prog w) (site hdl dp un gd env outer) (call (.ref 305) [v]) Q E s := by
  cases hv with
  | none =>
    (refine wpAny_call ?_; k_dflt (refine' code_defC (binds := [(Str.ofString "value", .none)]) ?k1 ?k2 ?k3 ?k4 ?k5 ?kA ?kF ?kK ?k6 ?k7 ?k8 ?k9 ?kB ?kN ?_ ?c2 ?c3 ?c4; (case kA => exact rfl); (case kF => assumption); (case kK => assumption); (case k1 => k_asm); (case k2 => k_asm); (case k3 => k_asm); (case k4 => k_asm); (case k5 => k_asm); (case k6 => k_is); (case k7 => k_is); (case k8 => (show dp < _; omega)); (case k9 => exact BindsTo.of_eq rfl); (case kB => exact rfl); (case kN => decide +kernel); (case c2 => exact rfl); (case c3 => exact rfl); (case c4 => exact rfl); k_whole; intro g' L' h' tk' cells' FG' F' N' Y' B' X' T' l'; (try k_lt l'); k_cells Y'; (try simp only [List.cons_append, List.nil_append] at N'); (try dsimp only); (try k_fold)))
    k_steps
    exact ret _ _ _ _ (by k_asm) (by k_asm) (.pre .one (by assumption))
  | @int i t =>
    (refine wpAny_call ?_; k_dflt (refine' code_defC (binds := [(Str.ofString "value", .int i t)]) ?k1 ?k2 ?k3 ?k4 ?k5 ?kA ?kF ?kK ?k6 ?k7 ?k8 ?k9 ?kB ?kN ?_ ?c2 ?c3 ?c4; (case kA => exact rfl); (case kF => assumption); (case kK => assumption); (case k1 => k_asm); (case k2 => k_asm); (case k3 => k_asm); (case k4 => k_asm); (case k5 => k_asm); (case k6 => k_is); (case k7 => k_is); (case k8 => (show dp < _; omega)); (case k9 => exact BindsTo.of_eq rfl); (case kB => exact rfl); (case kN => decide +kernel); (case c2 => exact rfl); (case c3 => exact rfl); (case c4 => exact rfl); k_whole; intro g' L' h' tk' cells' FG' F' N' Y' B' X' T' l'; (try k_lt l'); k_cells Y'; (try simp only [List.cons_append, List.nil_append] at N'); (try dsimp only); (try k_fold)))
    k_steps
    exact ret _ _ _ _ (by k_asm) (by k_asm) (.pre .one (by assumption))
  | @name x dx hs t1 tx t2 n hm hm2 =>
    (refine wpAny_call ?_; k_dflt (refine' code_defC (binds := [(Str.ofString "value", .ref x)]) ?k1 ?k2 ?k3 ?k4 ?k5 ?kA ?kF ?kK ?k6 ?k7 ?k8 ?k9 ?kB ?kN ?_ ?c2 ?c3 ?c4; (case kA => exact rfl); (case kF => assumption); (case kK => assumption); (case k1 => k_asm); (case k2 => k_asm); (case k3 => k_asm); (case k4 => k_asm); (case k5 => k_asm); (case k6 => k_is); (case k7 => k_is); (case k8 => (show dp < _; omega)); (case k9 => exact BindsTo.of_eq rfl); (case kB => exact rfl); (case kN => decide +kernel); (case c2 => exact rfl); (case c3 => exact rfl); (case c4 => exact rfl); k_whole; intro g' L' h' tk' cells' FG' F' N' Y' B' X' T' l'; (try k_lt l'); k_cells Y'; (try simp only [List.cons_append, List.nil_append] at N'); (try dsimp only); (try k_fold)))
    k_steps
    exact ret _ _ _ _ (by k_asm) (by k_asm) (.pre .one (by assumption))
  | @ref x dx h1 t1 a u1 h2 t2 b u2 n hm hm2 =>
    (refine wpAny_call ?_; k_dflt (refine' code_defC (binds := [(Str.ofString "value", .ref x)]) ?k1 ?k2 ?k3 ?k4 ?k5 ?kA ?kF ?kK ?k6 ?k7 ?k8 ?k9 ?kB ?kN ?_ ?c2 ?c3 ?c4; (case kA => exact rfl); (case kF => assumption); (case kK => assumption); (case k1 => k_asm); (case k2 => k_asm); (case k3 => k_asm); (case k4 => k_asm); (case k5 => k_asm); (case k6 => k_is); (case k7 => k_is); (case k8 => (show dp < _; omega)); (case k9 => exact BindsTo.of_eq rfl); (case kB => exact rfl); (case kN => decide +kernel); (case c2 => exact rfl); (case c3 => exact rfl); (case c4 => exact rfl); k_whole; intro g' L' h' tk' cells' FG' F' N' Y' B' X' T' l'; (try k_lt l'); k_cells Y'; (try simp only [List.cons_append, List.nil_append] at N'); (try dsimp only); (try k_fold)))
    k_steps
    exact ret _ _ _ _ (by k_asm) (by k_asm) (.pre .one (by assumption))
end
end
local macro_rules | `(tactic| walk_at "call ref") => `(tactic| (k_search (call (Value.ref 305) [_]); ktf_call told1_spec))
theorem offIter : True := by
  w_top off
  exact trivial
section
/-- what is said of the exception that is being handled where the code stands: none, or one that has no context of its own -/
def HAt (hd : Option Value) (h : Heap) : Prop := hd = none ∨ ∃ x ox vs, hd = some (.ref x) ∧ h.get? x = some ox ∧ ox.data = .fields vs ∧ vs[2]? = some .none
theorem HAt.none {h : Heap} : HAt none h := .inl rfl
theorem HAt.keeps {hd : Option Value} {h h' : Heap} (H : HAt hd h) (k : ∀ b o, h.get? b = some o → h'.get? b = some o) : HAt hd h' := by
  rcases H with e | ⟨x, ox, vs, e, ho, r⟩
  · exact .inl e
  · exact .inr ⟨x, ox, vs, e, k _ _ ho, r⟩
def HIn (hd : Option Value) (news : Led) : Prop := hd = none ∨ ∃ x ox vs, hd = some (.ref x) ∧ (x, ox) ∈ news ∧ ox.data = .fields vs ∧ vs[2]? = some .none
theorem HIn.none {l : Led} : HIn none l := .inl rfl
theorem HIn.sub {hd : Option Value} {l l' : Led} (H : HIn hd l) (k : Sub l l') : HIn hd l' := by
  rcases H with e | ⟨x, ox, vs, e, ho, r⟩
  · exact .inl e
  · exact .inr ⟨x, ox, vs, e, k _ ho, r⟩
theorem HIn.at {hd : Option Value} {l : Led} {h₀ h : Heap} {L : Addr} (H : HIn hd l) (N : News h₀ L h l) : HAt hd h := by
  rcases H with e | ⟨x, ox, vs, e, ho, r⟩
  · exact .inl e
  · exact .inr ⟨x, ox, vs, e, (N _ ho).1, r⟩

theorem entry_unchain : entryFor table "proto.unchain" = some PySem.Builtin.«proto.unchain» := entryFor_of_fast (by kernel_rfl)
theorem plain_unchain : plainId "proto.unchain" = true := by decide +kernel

section
variable {prog : Program} {w : World} {A : Around} {E : Value → Shared → Prop} {s : Shared}
/-- an exception just made is raised where another may be at hand -/
theorem raise_made {α : Type} {e : Addr} {oe : Obj} {vs : Array Value} {Q : α → Shared → Prop} (he : s.heap.get? e = some oe) (hd : oe.data = .fields vs) (hs : 2 < vs.size) (hx : HAt A.handled s.heap) (hne : ∀ x, A.handled = some (.ref x) → x ≠ e)
    (k : ∀ h', (∀ b o, b ≠ e → s.heap.get? b = some o → h'.get? b = some o) → (∃ o, h'.get? e = some o ∧ o.cls = oe.cls) → E (.ref e) { s with heap := h' }) : wpAny (model prog w) A (raiseNew (.ref e) : Sem α) Q E s := by
  unfold raiseNew
  refine wpAny_bind (wpAny_handled ?_)
  rcases hx with h | ⟨x, ox, ws, h, ho, hw, h2⟩
  · rw [h]
    exact wpAny_bind (wpAny_pure (wpAny_throw (k _ (fun _ _ _ q => q) ⟨oe, he, rfl⟩)))
  · rw [h]
    have hxe : x ≠ e := hne x h
    have hb : (Value.ref x != Value.ref e) = true := by
      rw [bne_iff_ne]
      intro q
      exact hxe (Value.ref.inj q)
    simp only [hb, if_true]
    refine wpAny_bind (wpAny_holding (wpAny_runValue (codeAny_builtin entry_unchain ?_)))
    rw [Around.under_plainId plain_unchain _]
    show wpAny _ _ (field (.ref x) 2 >>= _) _ _ s
    refine wpAny_bind (wpAny_field ho hw h2 ?_)
    refine wpAny_pure ?_
    unfold updateField
    refine wpAny_bind (wpAny_bind (wpAny_load he ?_))
    rw [hd]
    dsimp only
    rw [if_pos hs]
    refine wpAny_update he (wpAny_throw (k _ (fun b o hb q => (Heap.get?_update_ne _ _ _ _ hb).trans q) ⟨_, Heap.get?_update_self _ he (Obj.isFreed_of_fields (Obj.data_mapFields hd _)), Obj.cls_mapFields ..⟩))

/-- the end of an iteration told by StopIteration, another exception at hand or none -/
theorem stop_made {α : Type} {Q : α → Shared → Prop} (hx : HAt A.handled s.heap) (k : ∀ h' e, (∀ b o, s.heap.get? b = some o → h'.get? b = some o) → (∃ o, h'.get? e = some o ∧ o.cls = .type "StopIteration") → E (.ref e) { s with heap := h' }) :
    wpAny (model prog w) A (newExc (.type "StopIteration") [] >>= fun e => (raiseNew e : Sem α)) Q E s := by
  refine wpAny_bind ?_
  simp only [newExc, newTuple]
  refine wpAny_bind (wpAny_newObj_type ?_ (by size_fits))
  refine wpAny_bind (m := firstArgMember _ _) (wpAny_of_eq (a := Value.none) (by first | rfl | (simp only [firstArgMember]; rfl)) ?_)
  refine wpAny_newObj_type ?_ (by size_fits)
  have up : ∀ b o, s.heap.get? b = some o → ((s.heap.push { cls := .type "tuple", data := .seq ([] : List Value).toArray }).push { cls := .type "StopIteration", data := .fields (#[.ref s.heap.objs.size, .none, .none, .none, .bool false, .none] ++ ownMembersOf (.type "StopIteration") []) }).get? b = some o := fun b o e => Heap.get?_push_of_some _ (Heap.get?_push_of_some _ e)
  refine raise_made (Heap.get?_push_size _ rfl) rfl (show 2 < 6 by decide) (hx.keeps up) (fun x hx' => ?_) fun h' hk ho => ?_
  · rcases hx with e | ⟨y, oy, ys, e, ho, _⟩
    · rw [e] at hx'; cases hx'
    · rw [e] at hx'
      obtain rfl : y = x := Value.ref.inj (Option.some.inj hx')
      have h1 := Heap.lt_size ho
      intro q
      have h2 : (s.heap.push { cls := .type "tuple", data := .seq ([] : List Value).toArray }).objs.size = s.heap.objs.size + 1 := Heap.size_push ..
      rw [q] at h1
      dsimp only at h1
      rw [h2] at h1
      exact Nat.lt_irrefl _ (Nat.lt_of_succ_lt h1)
  · refine k h' _ (fun b o e => hk b o ?_ (up b o e)) ho
    have h1 := Heap.lt_size e
    have h2 : (s.heap.push { cls := .type "tuple", data := .seq ([] : List Value).toArray }).objs.size = s.heap.objs.size + 1 := Heap.size_push ..
    intro q
    rw [q] at h1
    dsimp only at h1
    rw [h2] at h1
    exact Nat.lt_irrefl _ (Nat.lt_of_succ_lt h1)

/-- no object of the handled exception's stands at I -/
def HOff (hd : Option Value) (I : Addr) : Prop := ∀ x, hd = some (.ref x) → x ≠ I
theorem HAt.but {hd : Option Value} {h h' : Heap} {I : Addr} (H : HAt hd h) (n : HOff hd I) (k : ∀ b o, b ≠ I → h.get? b = some o → h'.get? b = some o) : HAt hd h' := by
  rcases H with e | ⟨x, ox, vs, e, ho, r⟩
  · exact .inl e
  · exact .inr ⟨x, ox, vs, e, k _ _ (n x e) ho, r⟩
theorem HAt.off {hd : Option Value} {h : Heap} {I : Addr} (H : HAt hd h) (hI : h.objs.size ≤ I) : HOff hd I := fun x hx q => by
  rcases H with e | ⟨y, oy, vs, e, ho, _⟩
  · rw [e] at hx; cases hx
  · rw [e] at hx
    obtain rfl : y = x := Value.ref.inj (Option.some.inj hx)
    exact absurd (Heap.lt_size ho) (by rw [q]; exact Nat.not_lt.mpr hI)

theorem list_done {it l : Addr} {i : Nat} {items : Array Value} {Q : Option Value → Shared → Prop} (H : HAt A.handled s.heap) (n : HOff A.handled it) (hit : s.heap.IsListIter it l i) (hl : s.heap.IsList l items) (hx : items[i]? = none)
    (hQ : ∀ h', Heap.ExtBut it s.heap h' → Q none { s with heap := h' }) : wpAny (model prog w) A (pyNext (.ref it)) Q E s := by
  obtain ⟨o, ho, hc, hd⟩ := id hit
  obtain ⟨ol, hol, _, nl, hdl⟩ := hl
  have up : ∀ b o', b ≠ it → s.heap.get? b = some o' → (s.heap.update it (Obj.mapFields (·.setIfInBounds 0 .none))).get? b = some o' := fun b o' hb e => (Heap.get?_update_ne _ _ _ _ hb).trans e
  unfold pyNext
  refine wpAny_bind (wpAny_attempt (wpAny_callSpecial?_slot (name := Str.ofString "__next__") hit.typeIs slot_listiter_next (wpAny_call_entry slot_listiter_next hit.typeIs entry_listiter_next ?_ (args_listiter_next _))))
  show wpAny _ _ (field (.ref it) 0 >>= _) _ _ s
  refine wpAny_bind (wpAny_field ho hd (x := .ref l) rfl ?_)
  show wpAny _ _ (if (Value.ref l == Value.none) = true then _ else _) _ _ s
  rw [if_neg (show ¬ ((Value.ref l == Value.none) = true) from Bool.false_ne_true)]
  show wpAny _ _ (field (.ref it) 1 >>= _) _ _ s
  refine wpAny_bind (wpAny_field ho hd (x := .int i 0) rfl ?_)
  show wpAny _ _ (seqItems? (.ref l) >>= _) _ _ s
  refine wpAny_bind (wpAny_seqItems hol hdl ?_)
  simp only [Int.toNat_natCast, hx]
  refine wpAny_bind (wpAny_rule (wpAny_bind (wpAny_setField ho hd (by simp) ?_)))
  refine stop_made (A := A.in1) (s := { s with heap := s.heap.update it (Obj.mapFields (·.setIfInBounds 0 .none)) }) (H.but n up) fun h' e hk ht => ?_
  refine wpAny_bind (wpAny_isInstance (T := "StopIteration") (b := true) ht isSubtype_stop ?_)
  exact wpAny_pure (hQ _ fun b o' hb e' => hk b o' (up b o' hb e'))
end
/-- a list walked, another exception at hand or none -/
theorem walk_list {prog : Program} {w : World} {A : Around} (I ax : Addr) (hne : ax ≠ I) (n : HOff A.handled I) (items : Array Value) (fp : List Addr) (hfp : ∀ x, A.handled = some (.ref x) → x ∈ fp) :
    Walks prog w A I (I :: ax :: fp) [I] items.size (fun i v => items[i]? = some v) (fun i h => h.IsListIter I ax i ∧ h.IsList ax items ∧ HAt A.handled h) where
  sub := fun b hb => by simp at hb; simp [hb]
  frame := fun _ h h' st hk => ⟨st.1.at fun o e => hk I (by simp) o e, st.2.1.at fun o e => hk ax (by simp) o e, by
    rcases st.2.2 with e | ⟨x, ox, vs, e, ho, r⟩
    · exact .inl e
    · exact .inr ⟨x, ox, vs, e, hk x (by simp [hfp x e]) _ ho, r⟩⟩
  item := fun i s Q E hi st hQ => by
    refine wpAny_pyNext_list_item st.1 st.2.1 (x := items[i]) (by simp [hi]) fun h' hit' hs' => ?_
    exact hQ _ h' s.toks (by simp [hi]) ⟨hit', st.2.1.extBut hs'.extBut hne, st.2.2.but n fun b o hb e => hs'.extBut b o hb e⟩ fun b o hb e => hs'.extBut b o (fun h => hb (by simp [h])) e
  done := fun s Q E st hQ => list_done st.2.2 n st.1 st.2.1 (by simp) fun h' he' => hQ h' s.toks fun b o hb e => he' b o (fun h => hb (by simp [h])) e
  self := fun _ _ _ _ st hQ => wpAny_pyIter_listiter st.1 hQ
section
variable {prog : Program} {w : World} {K : Type} [DecidableEq K] {knd : PySem.KeyKind prog w K} {A : Around} {E : Value → Shared → Prop} {s : Shared}
theorem keys_done {it d : Addr} {i ep : Nat} {kvs : List (K × Value)} {Q : Option Value → Shared → Prop} (H : HAt A.handled s.heap) (n : HOff A.handled it) (hit : s.heap.IsKeyIter it d i kvs.length ep) (hm : s.heap.DictAt knd d kvs ep) (hx : kvs[i]? = none)
    (hQ : ∀ h', Heap.ExtBut it s.heap h' → Q none { s with heap := h' }) : wpAny (model prog w) A (pyNext (.ref it)) Q E s := by
  obtain ⟨o, ho, hc, hd⟩ := id hit
  obtain ⟨od, es, hod, hcd, hdd, hk, hp, hn⟩ := id hm
  have up : ∀ b o', b ≠ it → s.heap.get? b = some o' → (s.heap.update it (Obj.mapFields (·.setIfInBounds 0 .none))).get? b = some o' := fun b o' hb e => (Heap.get?_update_ne _ _ _ _ hb).trans e
  have hsz : es.size = kvs.length := by rw [← hp.length]; simp
  have hge : es.size ≤ i := by rw [hsz]; simpa using hx
  have hown : Builtin.Dict_items.ownsTuple "dict_keyiterator" = false := by decide
  unfold pyNext
  refine wpAny_bind (wpAny_attempt (wpAny_callSpecial?_slot (name := Str.ofString "__next__") hit.typeIs PySem.F.slot_dict_keyiterator_next
    (wpAny_call_entry PySem.F.slot_dict_keyiterator_next hit.typeIs PySem.F.entry_dict_keyiterator_next ?_ (PySem.F.args_dict_keyiterator_next_1 _))))
  refine wpAny_bind (wpAny_pure ?_)
  refine wpAny_bind ?_
  refine wpAny_bind ?_
  refine wpAny_bind (wpAny_typeNameOfWhole_keyiter hit.typeIs (wpAny_pure ?_))
  refine wpAny_bind (wpAny_fieldsOf ho hd ?_)
  simp only [hown, Bool.false_eq_true, if_false]
  show wpAny _ _ (if (Value.ref d == Value.none) = true then _ else _) _ _ s
  rw [if_neg (show ¬ ((Value.ref d == Value.none) = true) from Bool.false_ne_true)]
  refine wpAny_bind (wpAny_pure ?_)
  refine wpAny_bind (wpAny_dictEntries hod hdd ?_)
  rw [if_neg (by rw [hsz]; simp)]
  refine wpAny_bind (wpAny_pure ?_)
  refine wpAny_bind (wpAny_dictEpoch hod hdd ?_)
  rw [if_neg (by simp)]
  refine wpAny_pure ?_
  simp only [show ¬ ((i : Int) < 0) from by omega, if_false, Int.toNat_natCast, Array.getElem?_eq_none hge]
  refine wpAny_bind ?_
  refine wpAny_bind (wpAny_typeNameOfWhole_keyiter hit.typeIs (wpAny_pure ?_))
  show wpAny _ _ (setField (.ref it) 0 .none >>= _) _ _ s
  refine wpAny_bind (wpAny_setField ho hd (by simp) ?_)
  refine stop_made (A := A.in1) (s := { s with heap := s.heap.update it (Obj.mapFields (·.setIfInBounds 0 .none)) }) (H.but n up) fun h' e hk ht => ?_
  refine wpAny_bind (wpAny_isInstance (T := "StopIteration") (b := true) ht isSubtype_stop ?_)
  exact wpAny_pure (hQ _ fun b o' hb e' => hk b o' (up b o' hb e'))
/-- a dict's keys walked, another exception at hand or none -/
theorem walk_keys (I d : Addr) (hne : d ≠ I) (n : HOff A.handled I) (kvs : List (K × Value)) (ep : Nat) (fp : List Addr) (hfp : ∀ x, A.handled = some (.ref x) → x ∈ fp) :
    Walks prog w A I (I :: d :: fp) [I] kvs.length (fun i v => ∃ k x, kvs[i]? = some (k, x) ∧ knd.is k v = true) (fun i h => h.IsKeyIter I d i kvs.length ep ∧ h.DictAt knd d kvs ep ∧ HAt A.handled h) where
  sub := fun b hb => by simp at hb; simp [hb]
  frame := fun _ h h' st hk => ⟨st.1.at fun o e => hk I (by simp) o e, st.2.1.at' fun o e => hk d (by simp) o e, by
    rcases st.2.2 with e | ⟨x, ox, vs, e, ho, r⟩
    · exact .inl e
    · exact .inr ⟨x, ox, vs, e, hk x (by simp [hfp x e]) _ ho, r⟩⟩
  item := fun i s Q E hi st hQ => by
    obtain ⟨⟨k, x⟩, hx⟩ : ∃ p, kvs[i]? = some p := ⟨kvs[i], by simp [hi]⟩
    refine wpAny_pyNext_dict_item st.1 st.2.1 hx fun key h' hkey hit' hs' => ?_
    exact hQ key h' s.toks ⟨k, x, hx, hkey⟩ ⟨hit', st.2.1.extBut hs'.extBut hne, st.2.2.but n fun b o hb e => hs'.extBut b o hb e⟩ fun b o hb e => hs'.extBut b o (fun h => hb (by simp [h])) e
  done := fun s Q E st hQ => keys_done st.2.2 n st.1 st.2.1 (by simp) fun h' he' => hQ h' s.toks fun b o hb e => he' b o (fun h => hb (by simp [h])) e
  self := fun _ _ _ _ st hQ => wpAny_pyIter_keyiter st.1 hQ
end
section
variable {prog : Program} {w : World} {K : Type} [DecidableEq K] {knd : PySem.KeyKind prog w K} {A : Around} {E : Value → Shared → Prop} {s : Shared} {d : Addr} {kvs : List (K × Value)} {ep : Nat}
abbrev KeyAt (knd : PySem.KeyKind prog w K) (kvs : List (K × Value)) : Nat → Value → Prop := fun i v => ∃ k x, kvs[i]? = some (k, x) ∧ knd.is k v = true
noncomputable def hFp (hd : Option Value) : List Addr := match hd with
  | some (.ref x) => [x]
  | _ => []
theorem hFp_mem {hd : Option Value} : ∀ x, hd = some (.ref x) → x ∈ hFp hd := fun x e => by rw [e]; exact List.mem_singleton.mpr rfl
theorem hFp_of {hd : Option Value} {x : Addr} (h : x ∈ hFp hd) : hd = some (.ref x) := by
  unfold hFp at h
  split at h
  · rw [List.mem_singleton.mp h]
  · cases h
theorem HAt.lt {hd : Option Value} {h : Heap} (H : HAt hd h) : ∀ x ∈ hFp hd, x < h.objs.size := fun x hx => by
  have e := hFp_of hx
  rcases H with q | ⟨y, oy, vs, q, ho, _⟩
  · rw [q] at e; cases e
  · rw [q] at e
    obtain rfl : y = x := Value.ref.inj (Option.some.inj e)
    exact Heap.lt_size ho

theorem extend_keys {R : Result → Shared → Prop} (H : HAt A.handled s.heap) (hm : s.heap.DictAt knd d kvs ep) (lo : (d == sysModules) = false) (hn : kvs.length ≤ sizeLine) (S : Addr) (hSd : S ≠ d) (hSx : HOff A.handled S) (res : Value) (c₀ : Nat)
    (hS : s.heap.get? S = some { cls := .type "list", data := .seq #[] c₀ })
    (hR : ∀ h' tk acc' c', (∀ b o, b ≠ S → s.heap.get? b = some o → h'.get? b = some o) → h'.get? S = some { cls := .type "list", dict := none, data := .seq acc' c', slots := #[] } → ItemsOf (KeyAt knd kvs) acc' kvs.length → R (.ok (.ret res)) { s with heap := h', toks := tk }) :
    wpAny (model prog w) A.in1 (Builtin.List.listExtendWith (.ref S) (.ref d) res)
      (fun fin s' => match fin with | .done f => R (.ok f) s' | .again c' => c'.quiet = true ∧ codeAny (model prog w) A c' R s') (fun e s' => R (.error e) s') s := by
  have hT : s.TypeIs (.ref d) "dict" := hm.dictOf.typeIs
  have hSI : S ≠ s.heap.objs.size := Nat.ne_of_lt (Heap.lt_size hS)
  have W := walk_keys (prog := prog) (w := w) (knd := knd) (A := A.in1) s.heap.objs.size d (Nat.ne_of_lt hm.lt_size) (H.off (Nat.le_refl _)) kvs ep (hFp A.handled) hFp_mem
  have hSf : S ∉ s.heap.objs.size :: d :: hFp A.handled := by
    intro q
    rcases List.mem_cons.mp q with q | q
    · exact hSI q
    rcases List.mem_cons.mp q with q | q
    · exact hSd q
    · exact hSx S (hFp_of q) rfl
  have st : ∀ h : Heap, (∀ b o, b ≠ S → (s.heap.push { cls := .type "dict_keyiterator", data := .fields #[.ref d, .int 0 0, .int kvs.length 0, .int ep 0] }).get? b = some o → h.get? b = some o) →
      (h.IsKeyIter s.heap.objs.size d 0 kvs.length ep ∧ h.DictAt knd d kvs ep ∧ HAt A.handled h) := fun h hk =>
    ⟨⟨_, hk _ _ (Ne.symm hSI) (Heap.get?_push_size _ rfl), rfl, rfl⟩, hm.at' fun o e => hk d o (Ne.symm hSd) (Heap.get?_push_of_some _ e), (H.keeps fun b o e => Heap.get?_push_of_some _ e).but hSx hk⟩
  have key : ∀ (h : Heap) (c₁ tk : Nat), (∀ b o, b ≠ S → (s.heap.push { cls := .type "dict_keyiterator", data := .fields #[.ref d, .int 0 0, .int kvs.length 0, .int ep 0] }).get? b = some o → h.get? b = some o) →
      h.get? S = some { cls := .type "list", data := .seq #[] c₁ } → codeAny (model prog w) A (.builtin "list.extend.loop" ⟨[.ref S, .ref s.heap.objs.size, res], []⟩) R { s with heap := h, toks := tk } := by
    intro h c₁ tk hk hS₁
    refine codeAny_extend_loopS W.toS hn S hSf res kvs.length 0 _ #[] c₁ rfl (Nat.zero_le _) (st h hk) hS₁ (ItemsOf.nil _) fun s' acc' c' hm' hS' hacc => ?_
    rw [Moved.eq_with hm']
    refine hR s'.heap s'.toks acc' c' (fun b o hb e => hm'.heap b o (fun hmem => ?_) (hk b o hb (Heap.get?_push_of_some _ e))) hS' hacc
    rcases List.mem_cons.mp hmem with e' | hmem
    · exact hb e'
    · exact absurd (Heap.lt_size e) (by rw [List.mem_singleton.mp hmem]; exact Nat.lt_irrefl _)
  unfold Builtin.List.listExtendWith
  refine wpAny_bind (wpAny_typeOf (T := "dict") hT ?_)
  have h1 : Builtin.List.listSameRef (.ref S) (.ref d) = false := by simp [Builtin.List.listSameRef, hSd]
  simp only [h1, show (Value.type "dict" == Value.type "list") = false from by decide, show (Value.type "dict" == Value.type "tuple") = false from by decide, Bool.or_false, Bool.false_eq_true, if_false]
  refine wpAny_bind (wpAny_pyIter_dict lo hm ?_)
  have hS₁ := Heap.get?_push_of_some { cls := .type "dict_keyiterator", data := .fields #[.ref d, .int 0 0, .int kvs.length 0, .int ep 0] } hS
  refine wpAny_bind (wpAny_holding (kdl_hint_dict (hm.push _).dictOf.typeIs ?_))
  refine wpAny_ite_split (fun _ => ?_) (fun _ => wpAny_pure ⟨plainId_quiet PySem.F.plain_extend_loop _, key _ c₀ _ (fun b o _ e => e) hS₁⟩)
  refine wpAny_bind (wpAny_rule ?_)
  refine wpAny_bind ?_
  show wpAny _ _ (updateSeq S (·.push .none) >>= fun _ => updateSeq S (·.pop)) _ _ _
  refine wpAny_bind (wpAny_updateSeq hS₁ rfl ?_)
  have hS₂ := Heap.get?_update_self (Obj.mapSeq (·.push Value.none)) hS₁ rfl
  refine wpAny_updateSeq (hz := by seq_fits) hS₂ rfl ?_
  have hS₃ := Heap.get?_update_self (Obj.mapSeq (·.pop)) hS₂ rfl
  exact wpAny_pure ⟨plainId_quiet PySem.F.plain_extend_loop _, key _ _ _ (fun b o hb e => (Heap.get?_update_other _ _ (Ne.symm hb)).trans ((Heap.get?_update_other _ _ (Ne.symm hb)).trans e)) hS₃⟩
end
section
variable {prog : Program} {w : World} {K : Type} [DecidableEq K] {knd : PySem.KeyKind prog w K} {A : Around} {E : Value → Shared → Prop} {s : Shared} {d : Addr} {kvs : List (K × Value)} {ep : Nat}
theorem news_new {h₀ h h' : Heap} {L D : Addr} {m : Str → Option Value} {news : Led} {o : Obj} (F : Fr h₀ L h m) (N : News h₀ L h news) (hk : ∀ b o, h.get? b = some o → h'.get? b = some o) (hD : h'.get? D = some o) (hge : h.objs.size ≤ D) : News h₀ L h' ((D, o) :: news) := fun q hq => by
  rcases List.mem_cons.mp hq with rfl | hq
  · refine ⟨hD, fun e => ?_, ?_⟩
    · have := F.ns.lt
      dsimp only at e
      rw [← e] at this
      exact Nat.lt_irrefl _ (Nat.lt_of_lt_of_le this hge)
    · cases q : h₀.get? D with
      | none => rfl
      | some o' => exact absurd (Heap.lt_size (F.keep _ _ q)) (Nat.not_lt.mpr hge)
  · exact ⟨hk _ _ (N q hq).1, (N q hq).2⟩
theorem size_le {h h' : Heap} (hk : ∀ b o, h.get? b = some o → h'.get? b = some o) {a : Addr} {o : Obj} (e : h.get? a = some o) : a < h'.objs.size := Heap.lt_size (hk _ _ e)
theorem collect_keys {R : List Value → Shared → Prop} (H : HAt A.handled s.heap) (hm : s.heap.DictAt knd d kvs ep) (lo : (d == sysModules) = false) (hn : kvs.length ≤ sizeLine)
    (h : ∀ (h' : Heap) (tk : Nat) (acc : Array Value), (∀ b o, s.heap.get? b = some o → h'.get? b = some o) → ItemsOf (KeyAt knd kvs) acc kvs.length → R acc.toList { s with heap := h', toks := tk }) :
    wpAny (model prog w) A (collect (.ref d)) R E s := by
  unfold collect
  refine wpAny_bind (wpAny_runValue (codeAny_builtin entry_proto_collect' ?_))
  rw [Around.under_plainId PySem.F.plain_proto_collect _]
  show wpAny _ A.in1 (newList [] >>= fun l => again (.builtin "list.__iadd__" ⟨[l, .ref d], []⟩)) _ _ s
  refine wpAny_bind (wpAny_newObj_type ?_)
  refine wpAny_pure ⟨plainId_quiet PySem.F.plain_list_iadd _, codeAny_builtin entry_list_iadd' ?_⟩
  rw [Around.under_plainId PySem.F.plain_list_iadd _]
  have up : ∀ b o, s.heap.get? b = some o → (s.heap.push { cls := .type "list", data := .seq ([] : List Value).toArray }).get? b = some o := fun b o e => Heap.get?_push_of_some _ e
  have key := extend_keys (A := A) (s := { s with heap := s.heap.push { cls := .type "list", data := .seq ([] : List Value).toArray } })
    (R := fun (q : Result) (s' : Shared) => ∃ (h' : Heap) (tk : Nat) (acc' : Array Value) (c' : Nat), q = .ok (.ret (.ref s.heap.objs.size)) ∧ s' = { s with heap := h', toks := tk } ∧
      (∀ b o, s.heap.get? b = some o → h'.get? b = some o) ∧ h'.get? s.heap.objs.size = some { cls := .type "list", dict := none, data := .seq acc' c', slots := #[] } ∧ ItemsOf (KeyAt knd kvs) acc' kvs.length)
    (H.keeps up) (hm.push _) lo hn s.heap.objs.size (Nat.ne_of_gt hm.lt_size) (H.off (Nat.le_refl _)) (.ref s.heap.objs.size) 0 (Heap.get?_push_size _ rfl)
    (fun h' tk acc' c' hk hS' hacc => ⟨h', tk, acc', c', rfl, rfl, fun b o e => hk b o (Nat.ne_of_lt (Heap.lt_size e)) (up b o e), hS', hacc⟩)
  refine wpAny_mono key (fun r s' x => ?_) fun e s' x => ?_
  · cases r with
    | done f =>
      obtain ⟨h', tk, acc', c', e, rfl, hk, hS', hacc⟩ := x
      cases e
      show wpAny _ A (load s.heap.objs.size >>= _) _ _ _
      refine wpAny_bind (wpAny_load hS' ?_)
      exact wpAny_pure (h h' tk acc' hk hacc)
    | again c₁ =>
      refine ⟨x.1, codeAny_mono x.2 fun q s₂ y => ?_⟩
      obtain ⟨h', tk, acc', c', rfl, rfl, hk, hS', hacc⟩ := y
      show wpAny _ A (load s.heap.objs.size >>= _) _ _ _
      refine wpAny_bind (wpAny_load hS' ?_)
      exact wpAny_pure (h h' tk acc' hk hacc)
  · obtain ⟨_, _, _, _, e', _⟩ := x
    cases e'
theorem sorted_keys {h₀ : Heap} {L : Addr} {m : Str → Option Value} {news : Led} {Q : Value → Shared → Prop} (H : HAt A.handled s.heap) (F : Fr h₀ L s.heap m) (N : News h₀ L s.heap news) (hm : s.heap.DictAt knd d kvs ep) (lo : (d == sysModules) = false) (hn : kvs.length ≤ sizeLine)
    (P : Array Value → Prop) (hs : ∀ (s' : Shared) (a : Addr) (vs : List Value) (R : Fin → Shared → Prop) (E : Value → Shared → Prop), s'.heap.get? a = some (seqObj "list" vs.toArray 0) → vs.length = kvs.length → (∀ (j : Nat) (v : Value), vs[j]? = some v → KeyAt knd kvs j v) →
      (∀ out, P out → R (.done (.ret .none)) { s' with heap := sortedHeap s'.heap a vs out }) → wpAny (model prog w) A.in1.in1 (Builtin.«list.sort» ⟨[.ref a], []⟩) R E s')
    (h : ∀ (D : Addr) (h' : Heap) (tk e : Nat) (out : Array Value), P out → Fr h₀ L h' m → News h₀ L h' ((D, W.listOf out e) :: news) → (∀ q ∈ news, q.1 < D) → Q (.ref D) { s with heap := h', toks := tk }) :
    wpAny (model prog w) A (call (.builtin "sorted") [.ref d]) Q E s := by
  refine call_function_entry kind_sorted plain_sorted entry_sorted (args_sorted1 _) ?_
  unfold Builtin.«sorted»
  refine wpAny_bind (m := checkCount "sorted" 1 1 _) (wpAny_pure ?_)
  refine wpAny_bind (collect_keys (A := A.in1) H hm lo hn fun h' tk acc hk hacc => ?_)
  have hl : acc.toList.length = kvs.length := by rw [Array.length_toList]; exact hacc.1
  refine wpAny_bind (wpAny_newList ?_ (by rw [hl]; exact hn))
  have ho : (h'.push (seqObj "list" acc.toList.toArray 0)).get? h'.objs.size = some (seqObj "list" acc.toList.toArray 0) := Heap.get?_push_size _ rfl
  refine wpAny_bind (wpAny_holding (wpAny_call_entry slot_list_sort ⟨_, ho, rfl⟩ entry_list_sort (hs _ _ acc.toList _ _ ho hl (fun j v e => hacc.2 j v (by rw [← Array.getElem?_toList]; exact e)) fun out hP => ⟨_, rfl, ?_⟩) (args_list_sort _)))
  refine wpAny_pure ⟨_, rfl, ?_⟩
  obtain ⟨e, he⟩ := sortedHeap_at (vs := acc.toList) (out := out) ho
  have old : ∀ b o, h'.get? b = some o → (sortedHeap (h'.push (seqObj "list" acc.toList.toArray 0)) h'.objs.size acc.toList out).get? b = some o := fun b o q' => by
    have lt := Heap.lt_size q'
    rw [sortedHeap_old (Nat.ne_of_lt lt) (by rw [Heap.size_push]; exact Nat.lt_succ_of_lt lt)]
    exact Heap.get?_push_of_some _ q'
  exact h h'.objs.size _ tk e out hP ((F.keeps hk).keeps old) (news_new (F.keeps hk) (N.grown hk) old he (Nat.le_refl _)) (fun q hq => Heap.lt_size (hk _ _ (N q hq).1))
end
section
variable {prog : Program} {w : World} {A : Around} {E : Value → Shared → Prop} {s : Shared} {d : Addr} {ep : Nat} {h₀ : Heap} {L : Addr} {m : Str → Option Value} {news : Led} {Q : Value → Shared → Prop} {od : Obj}
theorem ints_of_keys : ∀ {kvs : List (Int × Value)} {vs : List Value}, vs.length = kvs.length → (∀ (j : Nat) (v : Value), vs[j]? = some v → KeyAt (intKind prog w) kvs j v) → IntsAre vs (kvs.map (·.1))
  | [], [], _, _ => .nil
  | kv :: kvs, v :: vs, hl, h => by
    obtain ⟨k, x, e, hk⟩ := h 0 v rfl
    obtain rfl : kv = (k, x) := by simpa using e
    obtain ⟨t, rfl⟩ := Value.isInt_shape hk
    exact .cons k t (ints_of_keys (by simpa using hl) fun j u hj => by
      obtain ⟨k', x', e', hk'⟩ := h (j + 1) u (by simpa using hj)
      exact ⟨k', x', by simpa using e', hk'⟩)
theorem strs_of_keys : ∀ {kvs : List (Str × Value)} {vs : List Value}, vs.length = kvs.length → (∀ (j : Nat) (v : Value), vs[j]? = some v → KeyAt (PySem.strKind prog w) kvs j v) → StrsAre vs (kvs.map (·.1))
  | [], [], _, _ => .nil
  | kv :: kvs, v :: vs, hl, h => by
    obtain ⟨k, x, e, hk⟩ := h 0 v rfl
    obtain rfl : kv = (k, x) := by simpa using e
    obtain ⟨t, rfl⟩ := Value.isStrOf_shape hk
    exact .cons k t (strs_of_keys (by simpa using hl) fun j u hj => by
      obtain ⟨k', x', e', hk'⟩ := h (j + 1) u (by simpa using hj)
      exact ⟨k', x', by simpa using e', hk'⟩)
theorem fits64 {n : Nat} (h : n < 64) : n ≤ sizeLine := by rw [sizeLine_eq]; omega
/-- sorted of a dict of int keys -/
theorem sorted_dictI {kvs : List (Int × Value)} (H : HIn A.handled news) (F : Fr h₀ L s.heap m) (N : News h₀ L s.heap news) (lo : (d == sysModules) = false) (hd : (d, od) ∈ news) (ho : od.IsDictOf (intKind prog w) kvs) (h64 : kvs.length < 64)
    (h : ∀ (D : Addr) (h' : Heap) (tk e : Nat) (vs : List Value) (ns : List Int), IntsAre vs ns → ns.Perm (kvs.map (·.1)) → ns.Pairwise (· ≤ ·) → Fr h₀ L h' m → News h₀ L h' ((D, W.listOf vs.toArray e) :: news) → (∀ q ∈ news, q.1 < D) → Q (.ref D) { s with heap := h', toks := tk }) :
    wpAny (model prog w) A (call (.builtin "sorted") [.ref d]) Q E s := by
  obtain ⟨ep, hat⟩ := (Heap.dictOf_iff.mpr ⟨od, (N _ hd).1, ho⟩ : s.heap.DictOf (intKind prog w) d kvs).dictAt
  refine sorted_keys (H.at N) F N hat lo (fits64 h64) (fun out => ∃ ns, IntsAre out.toList ns ∧ ns.Perm (kvs.map (·.1)) ∧ ns.Pairwise (· ≤ ·)) (fun s' a vs R E ho' hl hv hR => ?_) fun D h' tk e out ⟨ns, i1, i2, i3⟩ F' N' l1 => ?_
  · exact list_sort_tree ho' (ints_of_keys hl hv) (by rw [hl]; exact h64) fun out ns' a1 a2 a3 => hR out ⟨ns', a1, a2, a3⟩
  · exact h D h' tk e out.toList ns i1 i2 i3 F' (by rw [Array.toArray_toList]; exact N') l1
/-- sorted of a dict of one str key -/
theorem sorted_dictS1 {k : Str} {x : Value} (H : HIn A.handled news) (F : Fr h₀ L s.heap m) (N : News h₀ L s.heap news) (lo : (d == sysModules) = false) (hd : (d, od) ∈ news) (ho : od.IsDictOf (PySem.strKind prog w) [(k, x)])
    (h : ∀ (D : Addr) (h' : Heap) (tk e : Nat) (t : Tok), Fr h₀ L h' m → News h₀ L h' ((D, W.listOf #[.str k t] e) :: news) → (∀ q ∈ news, q.1 < D) → Q (.ref D) { s with heap := h', toks := tk }) :
    wpAny (model prog w) A (call (.builtin "sorted") [.ref d]) Q E s := by
  obtain ⟨ep, hat⟩ := (Heap.dictOf_iff.mpr ⟨od, (N _ hd).1, ho⟩ : s.heap.DictOf (PySem.strKind prog w) d [(k, x)]).dictAt
  refine sorted_keys (H.at N) F N hat lo (fits64 (show 1 < 64 by decide)) (fun out => ∃ t, out = #[.str k t]) (fun s' a vs R E ho' hl hv hR => ?_) fun D h' tk e out ⟨t, i1⟩ F' N' l1 => ?_
  · have hS := strs_of_keys hl hv
    refine list_sort_treeK strKind_oneLt ho' hS.keysOf (fun v₁ v₂ rest e => by rw [e] at hl; simp at hl) (by rw [hl]; show 1 < 64; decide) fun st' hp hs => ?_
    obtain ⟨ss', h1, h2, h3⟩ := sorted_out_str hS hp hs
    refine hR _ ?_
    have hss : ss' = [k] := List.perm_singleton.mp h2
    rw [hss] at h1
    generalize Array.map (fun x => x.2) (arrOf st') = out at h1
    obtain ⟨l⟩ := out
    cases h1 with
    | cons _ t r => cases r; exact ⟨t, rfl⟩
  · subst i1
    exact h D h' tk e t F' N' l1
end
end
local macro_rules | `(tactic| walk_at "mine C") => `(tactic| ((with_reducible show HIn _ _); ktr_rel))
local macro_rules | `(tactic| walk_at "call builtin:sorted") => `(tactic| (k_search (call (Value.builtin "sorted") [Value.ref _]); tbr_iter (sorted_dictS1, "604 101 201 503 402 303 0/700")))
local macro_rules | `(tactic| walk_at "call builtin:sorted") => `(tactic| (k_search (call (Value.builtin "sorted") [Value.ref _]); tbr_iter (sorted_dictI, "604 101 201 503 402 303 712 0/1100")))
local macro_rules | `(tactic| ktr_rel) => `(tactic| first | with_reducible assumption | exact HIn.none | (refine HIn.sub (by assumption) ?hsub; (case hsub => ktr_unf)))
theorem offSetP : True := by
  w_top off
  exact trivial
section
/-- places that rise -/
abbrev Ris (xs : Array Nat) : Prop := xs.toList.Pairwise (· < ·)
theorem Ris.at {xs : Array Nat} (h : Ris xs) {i j : Nat} (hij : i < j) (hj : j < xs.size) : xs.getD i 0 < xs.getD j 0 := by
  have e := List.pairwise_iff_getElem.mp h i j (by rw [Array.length_toList]; omega) (by rw [Array.length_toList]; exact hj) hij
  rw [Array.getElem_toList, Array.getElem_toList] at e
  simpa [Array.getD, hj, Nat.lt_trans hij hj] using e
theorem below_go {xs : Array Nat} {j : Nat} (h : Ris xs) : ∀ (fuel lo hi : Nat), lo ≤ hi → hi ≤ xs.size → hi - lo ≤ fuel → (∀ k, k < lo → xs.getD k 0 < j) → (∀ k, hi ≤ k → k < xs.size → j ≤ xs.getD k 0) →
    let r := SetTable.below.go xs j fuel lo hi; r ≤ xs.size ∧ (∀ k, k < r → xs.getD k 0 < j) ∧ (∀ k, r ≤ k → k < xs.size → j ≤ xs.getD k 0)
  | 0, lo, hi, h1, h2, h3, a, b => by
    have : lo = hi := by omega
    subst this
    exact ⟨h2, a, b⟩
  | fuel + 1, lo, hi, h1, h2, h3, a, b => by
    unfold SetTable.below.go
    by_cases hl : lo < hi
    · simp only [hl, if_true]
      have hm1 : lo ≤ (lo + hi) / 2 := by omega
      have hm2 : (lo + hi) / 2 < hi := by omega
      by_cases hx : xs.getD ((lo + hi) / 2) j < j
      · simp only [hx, if_true]
        have hx0 : xs.getD ((lo + hi) / 2) 0 < j := by
          have hs : (lo + hi) / 2 < xs.size := by omega
          simp only [Array.getD, hs, dif_pos] at hx ⊢
          exact hx
        refine below_go h fuel _ hi (by omega) h2 (by omega) (fun k hk => ?_) b
        rcases Nat.lt_or_ge k ((lo + hi) / 2) with q | q
        · exact Nat.lt_trans (h.at q (by omega)) hx0
        · have : k = (lo + hi) / 2 := by omega
          rw [this]; exact hx0
      · simp only [hx, if_false]
        have hx0 : j ≤ xs.getD ((lo + hi) / 2) 0 := by
          have hs : (lo + hi) / 2 < xs.size := by omega
          simp only [Array.getD, hs, dif_pos] at hx ⊢
          exact Nat.not_lt.mp hx
        refine below_go h fuel lo _ hm1 (by omega) (by omega) a (fun k hk hk2 => ?_)
        rcases Nat.lt_or_ge ((lo + hi) / 2) k with q | q
        · exact Nat.le_of_lt (Nat.lt_of_le_of_lt hx0 (h.at q hk2))
        · have : k = (lo + hi) / 2 := by omega
          rw [this]; exact hx0
    · simp only [hl, if_false]
      have : lo = hi := by omega
      subst this
      exact ⟨h2, a, b⟩
theorem below_spec {xs : Array Nat} {j : Nat} (h : Ris xs) : SetTable.below xs j ≤ xs.size ∧ (∀ k, k < SetTable.below xs j → xs.getD k 0 < j) ∧ (∀ k, SetTable.below xs j ≤ k → k < xs.size → j ≤ xs.getD k 0) :=
  below_go h xs.size 0 xs.size (Nat.zero_le _) (Nat.le_refl _) (Nat.le_refl _) (fun k hk => absurd hk (Nat.not_lt_zero k)) fun k h1 h2 => absurd h2 (Nat.not_lt.mpr h1)
theorem below_eq {xs : Array Nat} {j i : Nat} (h : Ris xs) (hi : i ≤ xs.size) (a : ∀ k, k < i → xs.getD k 0 < j) (b : i < xs.size → j ≤ xs.getD i 0) : SetTable.below xs j = i := by
  obtain ⟨s1, s2, s3⟩ := below_spec (j := j) h
  rcases Nat.lt_trichotomy (SetTable.below xs j) i with q | q | q
  · have h1 := s3 _ (Nat.le_refl _) (by omega)
    have h2 := a _ q
    omega
  · exact q
  · have h1 := s2 _ q
    have h2 := b (by omega)
    omega
/-- a slot that holds no element -/
def Dead (t : SetTable) (j : Nat) : Prop := t.place[SetTable.below t.place j]? ≠ some j
theorem dead_of_slot {t : SetTable} {j : Nat} (h : ∀ i, t.slot j ≠ .live i) : Dead t j := fun q => by
  refine h (SetTable.below t.place j) ?_
  unfold SetTable.slot
  simp [q]
theorem ris_insert {t : SetTable} {j : Nat} (h : Ris t.place) (d : Dead t j) : Ris (SetTable.insertAt t.place (SetTable.below t.place j) j) := by
  obtain ⟨s1, s2, s3⟩ := below_spec (j := j) h
  have gd : ∀ k (hk : k < t.place.size), t.place.getD k 0 = t.place.toList[k]'(by rw [Array.length_toList]; exact hk) := fun k hk => by simp [Array.getD, hk]
  unfold Ris
  rw [SetTable.toList_insertAt, List.pairwise_append]
  refine ⟨h.sublist (List.take_sublist _ _), List.pairwise_cons.mpr ⟨fun x hx => ?_, h.sublist (List.drop_sublist _ _)⟩, fun x hx y hy => ?_⟩
  · obtain ⟨k, hk, rfl⟩ := List.getElem_of_mem hx
    rw [List.getElem_drop]
    rw [List.length_drop, Array.length_toList] at hk
    have h1 := s3 _ (Nat.le_refl _) (by omega)
    have hne : t.place.getD (SetTable.below t.place j) 0 ≠ j := fun q => d (by
      have hb : SetTable.below t.place j < t.place.size := by omega
      rw [gd _ hb, Array.getElem_toList] at q
      rw [Array.getElem?_eq_getElem hb, q])
    have h2 : t.place.getD (SetTable.below t.place j) 0 ≤ t.place.getD (SetTable.below t.place j + k) 0 := by
      rcases Nat.eq_zero_or_pos k with q | q
      · subst q; exact Nat.le_refl _
      · exact Nat.le_of_lt (h.at (by omega) (by omega))
    rw [gd (SetTable.below t.place j + k) (by omega)] at h2
    omega
  · obtain ⟨k, hk, rfl⟩ := List.getElem_of_mem hx
    rw [List.length_take, Array.length_toList] at hk
    rw [List.getElem_take]
    have h1 := s2 k (by omega)
    rw [gd _ (by omega)] at h1
    rcases List.mem_cons.mp hy with rfl | hy
    · exact h1
    · obtain ⟨k', hk', rfl⟩ := List.getElem_of_mem hy
      rw [List.length_drop, Array.length_toList] at hk'
      rw [List.getElem_drop]
      exact List.pairwise_iff_getElem.mp h _ _ (by rw [Array.length_toList]; omega) (by rw [Array.length_toList]; omega) (by omega)
theorem probe_dead {t : SetTable} {hashAt : Nat → Int} {h : Int} : ∀ (fuel : Nat) (p : SetTable.Probe) {j : Nat} {d : Option Nat}, (∀ x, p.dummy = some x → Dead t x) → SetTable.probe.go t hashAt h fuel p = some (.empty j d) → Dead t (d.getD j)
  | 0, _, _, _, _, e => by cases e
  | fuel + 1, p, j, d, hp, e => by
    unfold SetTable.probe.go at e
    split at e
    · rename_i hs
      obtain ⟨rfl, rfl⟩ : p.j = j ∧ p.dummy = d := by injection e with e; injection e with a b; exact ⟨a, b⟩
      cases q : p.dummy with
      | none => exact dead_of_slot fun i hi => by rw [show (none : Option Nat).getD p.j = p.j from rfl, hs] at hi; cases hi
      | some x => exact hp x q
    · rename_i hs
      refine probe_dead fuel _ (fun x hx => ?_) e
      have hd : (t.advance { p with dummy := some p.j }).dummy = some p.j := by
        unfold SetTable.advance
        split <;> rfl
      rw [hd] at hx
      cases hx
      exact dead_of_slot fun i hi => by rw [hs] at hi; cases hi
    · split at e
      · cases e
      · refine probe_dead fuel _ (fun x hx => ?_) e
        have hd : (t.advance p).dummy = p.dummy := by
          unfold SetTable.advance
          split <;> rfl
        rw [hd] at hx
        exact hp x hx
theorem free_dead {t : SetTable} {h : Int} {slot : Nat} {b : Bool} (e : t.freeSlot h = some (slot, b)) : Dead t slot := by
  unfold SetTable.freeSlot at e
  split at e
  · rename_i j d he
    cases e
    exact probe_dead _ _ (fun x hx => by cases hx) he
  · cases e
theorem ris_range {n : Nat} : Ris (Array.range n) := by
  unfold Ris
  rw [Array.toList_range]
  exact List.pairwise_lt_range
theorem standIn_ris {t : SetTable} {n : Nat} : Ris (t.standIn n).place := ris_range
theorem orStandIn_ris {t : SetTable} {n : Nat} (h : Ris t.place) : Ris (t.orStandIn n).place := by
  unfold SetTable.orStandIn
  split
  · exact h
  · exact standIn_ris
theorem orStandIn_led {t : SetTable} {n : Nat} : (t.orStandIn n).led = t.led := by
  unfold SetTable.orStandIn
  split <;> rfl
theorem layNew_led {t : SetTable} {es : Array (Int × Value)} {h : Int} {x : Value} : (layNew t es h x).2.1.led = t.led := by
  unfold layNew
  split
  · rw [orStandIn_led]; rfl
  · rfl
theorem layNew_ris {t : SetTable} {es : Array (Int × Value)} {h : Int} {x : Value} (r : Ris t.place) : Ris (layNew t es h x).2.1.place := by
  unfold layNew
  split
  · rename_i slot b he
    exact orStandIn_ris (ris_insert r (free_dead he))
  · exact standIn_ris
theorem laid_of {mask finger moves : Nat} {led plain : Bool} {hashes : Array Int} {t : SetTable} {o : Array Nat} (e : SetTable.laid mask finger moves led plain hashes = some (t, o)) : t.led = led ∧ Ris t.place := by
  unfold SetTable.laid at e
  cases hc : SetTable.layClean mask hashes with
  | none => rw [hc] at e; cases e
  | some owner =>
    rw [hc] at e
    cases e
    refine ⟨rfl, ?_⟩
    unfold Ris
    rw [List.toList_toArray, List.pairwise_map, List.pairwise_filterMap]
    refine List.pairwise_lt_range.imp fun {a b} hab x hx y hy => ?_
    obtain ⟨k, _, rfl⟩ := Option.map_eq_some_iff.mp hx
    obtain ⟨k', _, rfl⟩ := Option.map_eq_some_iff.mp hy
    exact hab
theorem relayAll_keep {t : SetTable} {es : Array (Int × Value)} {wanted : Nat} (r : Ris t.place) : (relayAll t es wanted).2.1.led = t.led ∧ Ris (relayAll t es wanted).2.1.place := by
  unfold relayAll
  split
  · rename_i t' order he
    have q := laid_of he
    dsimp only
    split
    · exact q
    · exact ⟨rfl, standIn_ris⟩
  · exact ⟨rfl, standIn_ris⟩
theorem erase_perm {α : Type} : ∀ {l : List α} {i : Nat} (h : i < l.length), (l[i] :: l.eraseIdx i).Perm l
  | a :: l, 0, _ => .refl _
  | a :: l, i + 1, h => by
    rw [List.getElem_cons_succ, List.eraseIdx_cons_succ]
    exact (List.Perm.swap _ _ _).trans (List.Perm.cons a (erase_perm (Nat.lt_of_succ_lt_succ h)))
theorem pick_go {α : Type} {next : Nat → Nat} : ∀ (fuel k : Nat) (left : List α) (out : Array α), left.length ≤ fuel → (pickOrder.go next fuel k left out).toList.Perm (out.toList ++ left)
  | 0, k, [], out, _ => by unfold pickOrder.go; rw [List.append_nil]
  | 0, k, _ :: _, out, h => by simp at h
  | fuel + 1, k, [], out, _ => by
    unfold pickOrder.go
    simp
  | fuel + 1, k, a :: left, out, h => by
    unfold pickOrder.go
    have hlt : next k % (a :: left).length < (a :: left).length := Nat.mod_lt _ (by simp)
    rw [List.getElem?_eq_getElem hlt]
    dsimp only
    refine (pick_go fuel (k + 1) _ _ (by rw [List.length_eraseIdx, if_pos hlt]; simp at h ⊢; omega)).trans ?_
    rw [Array.toList_push, List.append_assoc]
    exact List.Perm.append_left _ (erase_perm hlt)
theorem pick_perm {α : Type} {next : Nat → Nat} {xs : Array α} : (pickOrder next xs).toList.Perm xs.toList := by
  unfold pickOrder
  refine (pick_go xs.size 0 xs.toList #[] (by rw [Array.length_toList]; exact Nat.le_refl _)).trans ?_
  simp
/-- a list without doubles that holds what another holds, no shorter, is the other in some order -/
theorem perm_of_len : ∀ {l l' : List Int}, l.Nodup → (∀ x ∈ l, x ∈ l') → l'.length ≤ l.length → l.Perm l'
  | [], [], _, _, _ => .nil
  | [], _ :: _, _, _, h => by simp at h
  | a :: l, l', hn, hs, hl => by
    have ha := hs a (.head _)
    refine (List.Perm.cons a (perm_of_len (l' := l'.erase a) (List.nodup_cons.mp hn).2 (fun x hx => ?_) ?_)).trans (List.perm_cons_erase ha).symm
    · have hne : x ≠ a := fun e => by subst e; exact (List.nodup_cons.mp hn).1 hx
      exact (List.mem_erase_of_ne hne).mpr (hs x (.tail _ hx))
    · rw [List.length_erase_of_mem ha]
      simp at hl
      omega
end
theorem offSetA : True := by
  w_top off
  exact trivial
section
/-- is the order of sets told by the text? -/
abbrev byT (w : World) : Bool := w.params.followText "set-order"
structure SetI (prog : Program) (w : World) (o : Obj) (es : Array (Int × Value)) (ep : Nat) (t : SetTable) : Prop where
  ex : o.ExactSet
  dat : o.data = .set es ep t
  el : ElemsOf (intKind prog w) es.toList
  few : es.size < scanBound
  fit : t.fits es.size = true
  led : t.led = !byT w
  ris : Ris t.place
noncomputable def keyI : Value → Int
  | .int i _ => i
  | _ => 0
noncomputable def keysI (es : Array (Int × Value)) : List Int := es.toList.map fun e => keyI e.2
section
variable {prog : Program} {w : World} {A : Around} {E : Value → Shared → Prop} {s : Shared}
theorem SetI.int {o : Obj} {es : Array (Int × Value)} {ep : Nat} {t : SetTable} (h : SetI prog w o es ep t) {e : Int × Value} (he : e ∈ es.toList) : ∃ u, e.2 = .int (keyI e.2) u := by
  obtain ⟨⟨k, hk, _⟩, _⟩ := h.el e he
  obtain ⟨u, q⟩ := Value.isInt_shape hk
  exact ⟨u, by rw [q]; rfl⟩
theorem keysI_perm {es es' : Array (Int × Value)} (h : es.toList.Perm es'.toList) : (keysI es).Perm (keysI es') := h.map _
theorem keysI_push {es : Array (Int × Value)} {h k : Int} {u : Tok} : keysI (es.push (h, .int k u)) = keysI es ++ [k] := by simp [keysI, keyI]
theorem put_at {h : Heap} {a : Addr} {o : Obj} {es : Array (Int × Value)} {ep : Nat} {t : SetTable} (ho : h.get? a = some o) (hd : o.data = .set es ep t) (es' : Array (Int × Value)) (t' : SetTable) :
    (h.update a (Obj.putSet es' t')).get? a = some { o with data := .set es' (ep + 1) t' } := by
  have e := Heap.get?_update_self (Obj.putSet es' t') ho (by rw [putSet_of es' t' hd]; rfl)
  rw [putSet_of es' t' hd] at e
  exact e
theorem set_addI {a : Addr} {o : Obj} {es : Array (Int × Value)} {ep : Nat} {t : SetTable} {k : Int} {u : Tok} {Q : Bool → Shared → Prop} (ho : s.heap.get? a = some o) (hI : SetI prog w o es ep t) (hroom : es.size + 1 < scanBound)
    (h : ∀ b h' o' es' ep' t', Heap.SameBut a s.heap h' → h'.get? a = some o' → SetI prog w o' es' ep' t' → (k ∈ keysI es ∧ keysI es' = keysI es ∨ k ∉ keysI es ∧ (keysI es').Perm (keysI es ++ [k])) → Q b { s with heap := h' }) :
    wpAny (model prog w) A (setAddHashed a (.int k u) ((intKind prog w).hash k)) Q E s := by
  have hkey : (intKind prog w).is k (.int k u) = true := intKind_is _ _ _ _
  have hsc : (Value.int k u).scannable = true := rfl
  obtain ⟨hex, hd, hel, hb, hf, hled, hris⟩ := id hI
  unfold setAddHashed setAddHashedIn
  refine wpAny_holding (wpAny_bind (wpAny_setState_of ho hd hf ?_))
  dsimp only
  rw [byScan_of hsc hb hel]
  simp only [↓reduceIte]
  unfold setAddByScan
  refine wpAny_bind (wpAny_bind (wpAny_rule (wpAny_bind (wpAny_setScan_of hkey ho hd hf hel ?_))))
  cases hr : List.findIdx? (fun e => (intKind prog w).is k e.2) es.toList with
  | some j =>
    dsimp only
    obtain ⟨hj, hpj, _⟩ := List.findIdx?_eq_some_iff_getElem.mp hr
    refine wpAny_pure (wpAny_pure ?_)
    obtain ⟨v, q⟩ := Value.isInt_shape hpj
    exact h _ s.heap o es ep t (Heap.SameBut.refl a s.heap) ho hI (.inl ⟨List.mem_map.mpr ⟨_, List.getElem_mem hj, by rw [q]; rfl⟩, rfl⟩)
  | none =>
    dsimp only
    have hno : k ∉ keysI es := fun hm => by
      obtain ⟨e, he, q⟩ := List.mem_map.mp hm
      obtain ⟨v, q'⟩ := hI.int he
      have z := List.findIdx?_eq_none_iff.mp hr e he
      rw [q', q] at z
      rw [intKind_is] at z
      cases z
    have hgw : ∀ (b : Bool) {s₁ : Shared} {Q' : Unit → Shared → Prop}, Q' () s₁ → wpAny (model prog w) A (match b with | true => rule "set.scan.the-table-gave-way" | false => pure ()) Q' E s₁ :=
      fun b s₁ Q' hq => by cases b <;> first | exact wpAny_pure hq | exact wpAny_rule hq
    have hperm := layNew_perm t es ((intKind prog w).hash k) (.int k u)
    have hfits := layNew_fits t es ((intKind prog w).hash k) (.int k u)
    have hled1 := layNew_led (t := t) (es := es) (h := (intKind prog w).hash k) (x := .int k u)
    have hris1 := layNew_ris (es := es) (h := (intKind prog w).hash k) (x := .int k u) hris
    generalize layNew t es ((intKind prog w).hash k) (.int k u) = Lx at hperm hfits hled1 hris1 ⊢
    obtain ⟨es1, t1, wasDummy, gave⟩ := Lx
    dsimp only at hperm hfits hled1 hris1 ⊢
    have hp1 : (keysI es1).Perm (keysI es ++ [k]) := by rw [← keysI_push]; exact keysI_perm hperm
    have hel1 : ElemsOf (intKind prog w) es1.toList := (hel.push hkey hsc).perm (by rw [Array.toList_push] at hperm; exact hperm)
    have hb1 : es1.size < scanBound := by
      have := hperm.length_eq
      simp only [Array.length_toList, Array.size_push] at this
      omega
    have one : ∀ (es2 : Array (Int × Value)) (ep2 : Nat) (t2 : SetTable), ElemsOf (intKind prog w) es2.toList → es2.size < scanBound → t2.fits es2.size = true → t2.led = !byT w → Ris t2.place → SetI prog w { o with data := .set es2 ep2 t2 } es2 ep2 t2 :=
      fun es2 ep2 t2 a b c d e => ⟨hex, rfl, a, b, c, d, e⟩
    refine wpAny_bind (hgw _ ?_)
    have tail : ∀ t2 : SetTable, t2.fits es1.size = true → t2.led = !byT w → Ris t2.place → wpAny (model prog w) A (do
        storeSet a es1 t2
        if (!wasDummy && t2.tooFull) = true then do
            (match (relayAll t2 es1 (SetTable.grown es1.size)).2.2 with | true => rule "set.scan.the-table-gave-way" | false => pure () : Sem Unit)
            storeSet a (relayAll t2 es1 (SetTable.grown es1.size)).1 (relayAll t2 es1 (SetTable.grown es1.size)).2.1
            pure (some true)
          else pure (some true)) (fun r s' => wpAny (model prog w) A (match r with | some added => pure added | none => setAddHashedIn a (.int k u) ((intKind prog w).hash k) 99999) Q E s') E s := by
      intro t2 f2 l2 r2
      refine wpAny_bind (wpAny_storeSet_of ho hd ?_ (fits_of_scanBound hb1))
      have g1 := put_at ho hd es1 t2
      have sb1 := Heap.SameBut.update s.heap a (Obj.putSet es1 t2)
      split
      · have q1 := relayAll_perm t2 es1 (SetTable.grown es1.size)
        have q2 := relayAll_fits t2 es1 (SetTable.grown es1.size)
        have q3 := relayAll_keep (es := es1) (wanted := SetTable.grown es1.size) r2
        generalize relayAll t2 es1 (SetTable.grown es1.size) = R at q1 q2 q3 ⊢
        obtain ⟨es2, t3, gave2⟩ := R
        dsimp only at q1 q2 q3 ⊢
        have hb2 : es2.size < scanBound := by
          have := q1.length_eq
          simp only [Array.length_toList] at this
          omega
        refine wpAny_bind (hgw _ (wpAny_bind (wpAny_storeSet_of g1 rfl ?_ (fits_of_scanBound hb2))))
        exact wpAny_pure (wpAny_pure (h _ _ _ es2 _ t3 (sb1.trans (Heap.SameBut.update _ a _)) (put_at g1 rfl es2 t3) (one es2 _ t3 (hel1.perm q1) hb2 q2 (q3.1.trans l2) q3.2) (.inr ⟨hno, (keysI_perm q1).trans hp1⟩)))
      · exact wpAny_pure (wpAny_pure (h _ _ _ es1 _ t2 sb1 g1 (one es1 _ t2 hel1 hb1 f2 l2 r2) (.inr ⟨hno, hp1⟩)))
    split
    · refine wpAny_bind ?_
      rw [hashByValue_scannable 8 hsc]
      refine wpAny_pure ?_
      exact tail _ hfits (hled1.trans hled) hris1
    · refine wpAny_bind (wpAny_pure ?_)
      simp only [↓reduceIte]
      exact tail _ hfits (hled1.trans hled) hris1
end
end
theorem offSetB : True := by
  w_top off
  exact trivial
section
section
variable {prog : Program} {w : World} {A : Around} {E : Value → Shared → Prop} {s : Shared}
/-- an empty set, its order led unless told by the text -/
theorem set_newI (a : Value) {Q₁ : Value → Shared → Prop}
    (h : Q₁ (.ref s.heap.objs.size) { s with heap := s.heap.push { cls := .type "set", dict := none, data := .set #[] 0 (.fresh 0 0 (!byT w)) } }) :
    codeAny (model prog w) A (.call (.builtin "set.__new__") ⟨[.type "set", a], []⟩) (wants Q₁ E) s := by
  refine codeAny_of_tree ?_
  show wpAny _ A.in1 (do checkBuiltinCall "set.__new__" ⟨[.type "set", a], []⟩; again (.builtin "set.__new__" ⟨[.type "set", a], []⟩)) _ _ s
  refine wpAny_bind (wpAny_of_eq (PySem.F.newCall_set_1 a) (wpAny_pure ⟨plainId_quiet PySem.F.plain_set_new _, codeAny_builtin PySem.F.entry_set_new ?_⟩))
  rw [Around.under_plainId PySem.F.plain_set_new _]
  unfold Builtin.«set.__new__» Builtin.Frozenset.newClass
  have hsub := sub_set_self
  obtain ⟨hp, g, d, tk, os⟩ := s
  dsimp only
  wp_walk
  refine wpAny_askSetting (wpAny_pure ?_)
  dsimp only
  simp only [newObj]
  exact wpAny_bind (wpAny_alloc (wpAny_pure (wpAny_pure h)))
theorem setI_fresh {led : Bool} (h : led = !byT w) : SetI prog w { cls := .type "set", dict := none, data := .set #[] 0 (.fresh 0 0 led) } #[] 0 (.fresh 0 0 led) :=
  ⟨⟨rfl, rfl, rfl⟩, rfl, fun e he => by simp at he, by decide, by rfl, h, List.Pairwise.nil⟩
/-- the items of a list put into a set -/
theorem set_loopI {R : Result → Shared → Prop} {I S : Addr} {fp : List Addr} {n : Nat} {P : Nat → Value → Prop} {St : Nat → Heap → Prop} {ns : List Int} (W : Walks prog w A.in1 I fp [I] n P St) (hSf : S ∉ fp) (hn : n = ns.length) (hb : n + 1 < scanBound)
    (hval : ∀ i v, P i v → ∃ k t, v = .int k t ∧ ns[i]? = some k) :
    ∀ (k i : Nat) (s : Shared) (o : Obj) (es : Array (Int × Value)) (ep : Nat) (t : SetTable), i + k = n → St i s.heap → s.heap.get? S = some o → SetI prog w o es ep t → (keysI es).Nodup → es.size ≤ i → (∀ x, x ∈ keysI es ↔ x ∈ ns.take i) →
      (∀ h' tk o' es' ep' t', (∀ b o, b ≠ S → b ≠ I → s.heap.get? b = some o → h'.get? b = some o) → h'.get? S = some o' → SetI prog w o' es' ep' t' → (keysI es').Nodup → es'.size ≤ n → (∀ x, x ∈ keysI es' ↔ x ∈ ns) → R (.ok (.ret .none)) { s with heap := h', toks := tk }) →
      codeAny (model prog w) A (.builtin "set.update.loop" ⟨[.ref S, .ref I], []⟩) R s
  | 0, i, s, o, es, ep, t, hi, hst, ho, hI, hnd, hsz, hmem, hR => by
    have hin : i = n := by omega
    subst hin
    refine codeAny_builtin F.entry_set_update_loop ?_
    rw [Around.under_plainId F.plain_set_update_loop _]
    show wpAny _ A.in1 (pyNext (.ref I) >>= _) _ _ s
    have hSI : S ≠ I := fun e => hSf (W.sub _ (by rw [e]; exact .head _))
    refine wpAny_bind (W.done s _ _ hst fun h' tk hk => ?_)
    refine wpAny_pure (hR h' tk o es ep t (fun b o _ hb e => hk b o (fun q => hb (List.mem_singleton.mp q)) e) (hk S o (fun q => hSI (List.mem_singleton.mp q)) ho) hI hnd hsz fun x => ?_)
    rw [hmem x, hn, List.take_length]
  | k + 1, i, s, o, es, ep, t, hi, hst, ho, hI, hnd, hsz, hmem, hR => by
    have hSI : S ≠ I := fun e => hSf (W.sub _ (by rw [e]; exact .head _))
    refine codeAny_builtin F.entry_set_update_loop ?_
    rw [Around.under_plainId F.plain_set_update_loop _]
    show wpAny _ A.in1 (pyNext (.ref I) >>= _) _ _ s
    refine wpAny_bind (W.item i s _ _ (by omega) hst fun v h1 tk1 hP hst1 hk1 => ?_)
    obtain ⟨x, u, rfl, hx⟩ := hval i v hP
    show wpAny _ A.in1 (holding [Value.int x u] (setAdd S (.int x u)) >>= _) _ _ _
    refine wpAny_bind (wpAny_holding ?_)
    unfold setAdd
    refine wpAny_holding ?_
    refine wpAny_bind ((intKind prog w).pyHash (k := x) (intKind_is _ _ _ _) ?_)
    refine set_addI (hk1 S o (fun q => hSI (List.mem_singleton.mp q)) ho) hI (by omega) fun b h2 o2 es2 ep2 t2 sb ho2 hI2 hks => ?_
    have hst2 : St (i + 1) h2 := W.frame _ _ _ hst1 fun b hb o e => by rw [sb.2 b fun e => hSf (e ▸ hb)]; exact e
    have htake : ns.take (i + 1) = ns.take i ++ [x] := by rw [List.take_succ, hx]; rfl
    have hl2 : es2.size ≤ i + 1 := by
      have e1 : (keysI es).length = es.size := by simp [keysI]
      have e2 : (keysI es2).length = es2.size := by simp [keysI]
      rcases hks with ⟨_, q⟩ | ⟨_, q⟩
      · rw [q] at e2; omega
      · have := q.length_eq
        rw [List.length_append, List.length_singleton] at this
        omega
    refine wpAny_pure ⟨plainId_quiet F.plain_set_update_loop _, set_loopI W hSf hn hb hval k (i + 1) _ o2 es2 ep2 t2 (by omega) hst2 ho2 hI2 ?_ hl2 (fun y => ?_) fun h3 tk3 o3 es3 ep3 t3 hk3 => ?_⟩
    · rcases hks with ⟨_, q⟩ | ⟨q1, q⟩
      · rw [q]; exact hnd
      · refine q.nodup_iff.mpr (List.nodup_append.mpr ⟨hnd, by simp, fun a ha b hb => ?_⟩)
        rw [List.mem_singleton.mp hb]
        exact fun e => q1 (e ▸ ha)
    · rw [htake, List.mem_append, List.mem_singleton, ← hmem y]
      rcases hks with ⟨q1, q⟩ | ⟨q1, q⟩
      · rw [q]; exact ⟨.inl, fun h => h.elim id fun e => e ▸ q1⟩
      · rw [q.mem_iff, List.mem_append, List.mem_singleton]
    · refine hR h3 tk3 o3 es3 ep3 t3 fun b o hb hbI e => hk3 b o hb hbI ?_
      rw [sb.2 b hb]
      exact hk1 b o (fun q => hbI (List.mem_singleton.mp q)) e
end
end
theorem offSetC : True := by
  w_top off
  exact trivial
section
theorem ints_of : ∀ {vs : List Value} {ns : List Int} {i : Nat} {v : Value}, IntsAre vs ns → vs[i]? = some v → ∃ k t, v = .int k t ∧ ns[i]? = some k
  | _, _, i, v, .nil, h => by simp at h
  | _, _, 0, v, .cons k t _, h => ⟨k, t, by simpa using h.symm, rfl⟩
  | _, _, i + 1, v, .cons k t r, h => by
    obtain ⟨k', t', a, b⟩ := ints_of (i := i) r (by simpa using h)
    exact ⟨k', t', a, by simpa using b⟩
section
variable {prog : Program} {w : World} {A : Around} {E : Value → Shared → Prop} {s : Shared}
set_option maxHeartbeats 4000000 in
/-- set(a list of ints) -/
theorem call_setI {l : Addr} {items : Array Value} {ns : List Int} {Q : Value → Shared → Prop}
    (hh : A.handled = none) (hl : s.heap.IsList l items) (hi : IntsAre items.toList ns) (hb : items.size + 1 < scanBound)
    (h : ∀ (h' : Heap) (tk : Nat) o' es' ep' t', (∀ b o, s.heap.get? b = some o → h'.get? b = some o) → h'.get? s.heap.objs.size = some o' → SetI prog w o' es' ep' t' → (keysI es').Nodup → es'.size ≤ ns.length → (∀ x, x ∈ keysI es' ↔ x ∈ ns) → Q (.ref s.heap.objs.size) { s with heap := h', toks := tk }) :
    wpAny (model prog w) A (call (.type "set") [.ref l]) Q E s := by
  have hnl : items.size = ns.length := by rw [← Array.length_toList]; exact hi.length
  obtain ⟨c, tl, hmro⟩ := PySem.F.called_set.mro
  have hmade := PySem.F.called_set.made
  have hsub := PySem.F.called_set.sub
  refine wpAny_call (codeAny_of_tree ?_)
  show wpAny _ _ (callAny (.type "set") _) _ _ _
  refine wpAny_pure ⟨Code.quiet_builtin _ (by decide +kernel), codeAny_builtin PySem.F.entry_type_call ?_⟩
  rw [Around.under_plain (weight_type_call_type "set" [.ref l] []) rfl]
  have h1 := PySem.F.called_set.notType
  have h2 := PySem.F.called_set.canCreate
  have hct := PySem.F.typeCall_set_1 (.ref l)
  repeat (any_goals (first | assumption | wp_step))
  refine codeAny_mono (set_newI (.ref l) (E := E) (Q₁ := fun obj s₁ => obj = .ref s.heap.objs.size ∧ s₁ = { s with heap := s.heap.push { cls := .type "set", dict := none, data := .set #[] 0 (.fresh 0 0 (!byT w)) } }) ⟨rfl, rfl⟩) fun r s₁ hr => ?_
  cases r with
  | error e => exact hr
  | ok fl =>
    cases fl with
    | ret obj =>
      obtain ⟨rfl, rfl⟩ := hr
      have hS : (s.heap.push { cls := .type "set", dict := none, data := .set #[] 0 (.fresh 0 0 (!byT w)) }).get? s.heap.objs.size = some { cls := .type "set", dict := none, data := .set #[] 0 (.fresh 0 0 (!byT w)) } := Heap.get?_push_size _ rfl
      have hT : Shared.TypeIs { s with heap := s.heap.push { cls := .type "set", dict := none, data := .set #[] 0 (.fresh 0 0 (!byT w)) } } (.ref s.heap.objs.size) "set" := ⟨_, hS, rfl⟩
      have hli := PySem.F.called_set.init.lookup
      have hbi := PySem.F.called_set.init.bind (.ref s.heap.objs.size)
      repeat (any_goals (first | assumption | wp_step))
      refine codeAny_mono (codeAny_call_builtin (R := wants (fun r s₂ => r = .none ∧ ∃ h' tk o' es' ep' t', s₂ = { s with heap := h', toks := tk } ∧
          (∀ b o, s.heap.get? b = some o → h'.get? b = some o) ∧ h'.get? s.heap.objs.size = some o' ∧ SetI prog w o' es' ep' t' ∧ (keysI es').Nodup ∧ es'.size ≤ ns.length ∧ (∀ x, x ∈ keysI es' ↔ x ∈ ns)) E) PySem.F.called_set.init.plain PySem.F.entry_set_init (check_set_init_1 hT ?_)) fun r₂ s₂ hr₂ => ?_
      · obtain ⟨ol, hol, hcl, nl, hdl⟩ := hl
        obtain ⟨ocls, odict, odata, oslots⟩ := ol
        simp only at hcl hdl
        subst hcl; subst hdl
        have hol' : (s.heap.push { cls := .type "set", dict := none, data := .set #[] 0 (.fresh 0 0 (!byT w)) }).get? l = some { cls := .type "list", dict := odict, data := .seq items nl, slots := oslots } := Heap.get?_push_of_some _ hol
        have hsls := PySem.F.sub_list_set
        have hslf := PySem.F.sub_list_frozenset
        have hne : (Value.type "list" == Value.type "dict") = false := by decide
        have hl1 : (s.heap.push { cls := .type "set", dict := none, data := .set #[] 0 (.fresh 0 0 (!byT w)) }).IsList l items := ⟨_, hol', rfl, nl, rfl⟩
        have hlS : l < s.heap.objs.size := Heap.lt_size hol
        unfold Builtin.«set.__init__» noKeywords Builtin.Frozenset.updateFrom
        generalize hPI : pyIter = PI
        wp_walk
        subst hPI
        refine wpAny_pyIter_list hl1 ?_
        refine wpAny_bind (wpAny_runValue ?_)
        have hh3 : A.in1.in1.in1.handled = none := by simp [hh]
        have hsz : (s.heap.push { cls := .type "set", dict := none, data := .set #[] 0 (.fresh 0 0 (!byT w)) }).objs.size = s.heap.objs.size + 1 := Heap.size_push ..
        rw [hsz]
        have hneI : l ≠ s.heap.objs.size + 1 := Nat.ne_of_lt (Nat.lt_succ_of_lt hlS)
        have hSf : s.heap.objs.size ∉ [s.heap.objs.size + 1, l] := by
          simp only [List.mem_cons, List.not_mem_nil, or_false, not_or]
          exact ⟨Nat.ne_of_lt (Nat.lt_succ_self _), Nat.ne_of_gt hlS⟩
        refine set_loopI (ns := ns) (n := items.size) (Walks.list hh3 _ l hneI items) hSf hnl hb (fun i v hv => ?_) items.size 0 _ _ #[] 0 _ (by omega) ⟨⟨_, hsz ▸ Heap.get?_push_size _ rfl, rfl, rfl⟩, hl1.push _⟩ (Heap.get?_push_of_some _ hS) (setI_fresh rfl) List.nodup_nil (Nat.le_refl _) (fun x => by simp [keysI]) ?_
        · obtain ⟨k, t, e1, e2⟩ := ints_of hi (by rw [Array.getElem?_toList]; exact hv)
          exact ⟨k, t, e1, e2⟩
        · intro h' tk o' es' ep' t' hk ho' hI' hnd hle hmem
          show wpAny _ _ _ _ _ _
          refine wpAny_pure ?_
          show wpAny _ _ (ret Value.none) _ _ _
          refine wpAny_pure ⟨rfl, h', tk, o', es', ep', t', rfl, fun b o e => ?_, ho', hI', hnd, by omega, hmem⟩
          have hb1 := Heap.lt_size e
          exact hk b o (Nat.ne_of_lt hb1) (Nat.ne_of_lt (Nat.lt_succ_of_lt hb1)) (Heap.get?_push_of_some _ (Heap.get?_push_of_some _ e))
      · cases r₂ with
        | error e => exact hr₂
        | ok fl₂ =>
          cases fl₂ with
          | ret r =>
            obtain ⟨rfl, h', tk, o', es', ep', t', rfl, a, b, c, d, e, f⟩ := hr₂
            repeat (any_goals (first | assumption | wp_step))
            exact h _ _ _ _ _ _ a b c d e f
          | _ => exact hr₂.elim
    | _ => exact hr.elim
end
end
theorem offSetD : True := by
  w_top off
  exact trivial
section
theorem slot_si_next : Slot "set_iterator" "__next__" "set_iterator.__next__" :=
  .of (owner := "set_iterator") (n := "__next__") (by rw [typeLookup_type, builtinLookup_eq_fast]; kernel_rfl) (by decide +kernel) (by decide +kernel) (by decide +kernel)
    (by first | exact .inl (by decide +kernel) | exact .inr (by decide +kernel)) (by rw [isSubtype_type]; kernel_rfl)
theorem slot_si_iter : Slot "set_iterator" "__iter__" "set_iterator.__iter__" :=
  .of (owner := "set_iterator") (n := "__iter__") (by rw [typeLookup_type, builtinLookup_eq_fast]; kernel_rfl) (by decide +kernel) (by decide +kernel) (by decide +kernel)
    (by first | exact .inl (by decide +kernel) | exact .inr (by decide +kernel)) (by rw [isSubtype_type]; kernel_rfl)
theorem entry_si_next : entryFor table "set_iterator.__next__" = some Builtin.«set_iterator.__next__» := entryFor_of_fast (by kernel_rfl)
theorem entry_si_iter : entryFor table "set_iterator.__iter__" = some Builtin.«dict_keyiterator.__iter__» :=
  entryFor_alias (id' := "dict_keyiterator.__iter__") (by kernel_rfl) rfl (by decide +kernel) (by kernel_rfl)
theorem entry_set_iter : entryFor table "set.__iter__" = some Builtin.«frozenset.__iter__» :=
  entryFor_alias (id' := "frozenset.__iter__") (by kernel_rfl) rfl (by decide +kernel) (by kernel_rfl)
theorem args_si_next (a : Value) : argsOk "set_iterator.__next__" ⟨[a], []⟩ := by unfold argsOk; kernel_rfl
theorem args_si_iter (a : Value) : argsOk "set_iterator.__iter__" ⟨[a], []⟩ := by unfold argsOk; kernel_rfl
/-- a set's iterator -/
def SIt (h : Heap) (I a : Addr) (n ep i : Nat) (first : Value) : Prop :=
  ∃ o, h.get? I = some o ∧ o.cls = .type "set_iterator" ∧ o.data = .fields #[first, .int i 0, .ref a, .int n 0, .int ep 0]
theorem SIt.at {h h' : Heap} {I a : Addr} {n ep i : Nat} {f : Value} (x : SIt h I a n ep i f) (e : ∀ o, h.get? I = some o → h'.get? I = some o) : SIt h' I a n ep i f := by
  obtain ⟨o, a, b⟩ := x
  exact ⟨o, e _ a, b⟩
section
variable {prog : Program} {w : World} {A : Around} {E : Value → Shared → Prop} {s : Shared} {I a : Addr} {o : Obj} {es : Array (Int × Value)} {ep : Nat} {t : SetTable}
theorem wpAny_byText {Q : Bool → Shared → Prop} (h : Q (byT w) s) : wpAny (model prog w) A setsByText Q E s := by
  unfold setsByText
  exact wpAny_bind (wpAny_askSetting (wpAny_pure h))
theorem SIt.typeIs {n i : Nat} {f : Value} (x : SIt s.heap I a n ep i f) : s.TypeIs (.ref I) "set_iterator" := by
  obtain ⟨o, ho, hc, _⟩ := x
  exact ⟨o, ho, hc⟩
theorem pyIter_si {n i : Nat} {f : Value} {Q : Value → Shared → Prop} (x : SIt s.heap I a n ep i f) (h : Q (.ref I) s) : wpAny (model prog w) A (pyIter (.ref I)) Q E s := by
  refine wpAny_pyIter_slot x.typeIs slot_si_iter (wpAny_call_entry slot_si_iter x.typeIs entry_si_iter ?_ (args_si_iter _))
  show wpAny _ _ (ret (.ref I)) _ _ s
  exact wpAny_pure ⟨_, rfl, "set_iterator", _, x.typeIs, slot_si_next.lookup, h⟩
/-- an iterator with a slot: its next is what setNext gives -/
theorem next_slot {sl n i : Nat} {Q : Option Value → Shared → Prop} (ho : s.heap.get? a = some o) (hI : SetI prog w o es ep t) (hn : es.size = n) (x : SIt s.heap I a n ep i (.int sl 0)) (hh : A.handled = none) (r : Option (Value × Nat))
    (hnx : ∀ {Q' : Option (Value × Nat) → Shared → Prop} {A' : Around} {E' : Value → Shared → Prop}, Q' r s → wpAny (model prog w) A' (setNext a sl i ep) Q' E' s)
    (hsome : ∀ v sl' h', r = some (v, sl') → SIt h' I a n ep (i + 1) (.int sl' 0) → Heap.ExtBut I s.heap h' → Q (some v) { s with heap := h' })
    (hnone : ∀ h', r = none → Heap.ExtBut I s.heap h' → Q none { s with heap := h' }) : wpAny (model prog w) A (pyNext (.ref I)) Q E s := by
  obtain ⟨oI, hoI, hc, hd⟩ := id x
  unfold pyNext
  refine wpAny_bind (wpAny_attempt (wpAny_callSpecial?_slot (name := Str.ofString "__next__") x.typeIs slot_si_next
    (wpAny_call_entry slot_si_next x.typeIs entry_si_next ?_ (args_si_next _))))
  refine wpAny_bind (wpAny_pure ?_)
  show wpAny _ _ (fieldsOf (.ref I) >>= _) _ _ s
  refine wpAny_bind (wpAny_fieldsOf hoI hd ?_)
  refine wpAny_bind (wpAny_setEntries_of ho hI.dat hI.fit ?_)
  rw [if_neg (by rw [hn]; simp)]
  refine wpAny_bind (m := setNext a sl i ep) (hnx ?_)
  cases r with
  | some p =>
    obtain ⟨v, sl'⟩ := p
    dsimp only
    refine wpAny_bind (wpAny_setField hoI hd (by simp) ?_)
    have h1 := Heap.get?_update_self (Obj.mapFields (·.setIfInBounds 0 (rawInt (sl' : Int)))) hoI (Obj.isFreed_of_fields (Obj.data_mapFields hd _))
    refine wpAny_bind (wpAny_setField h1 (Obj.data_mapFields hd _) (by simp) (wpAny_pure ⟨v, rfl, wpAny_pure (hsome v sl' _ rfl ?_ ?_)⟩))
    · exact ⟨_, Heap.get?_update_self _ h1 (Obj.isFreed_of_fields (Obj.data_mapFields (Obj.data_mapFields hd _) _)), (Obj.cls_mapFields ..).trans ((Obj.cls_mapFields ..).trans hc), by
        rw [Obj.data_mapFields (Obj.data_mapFields hd _) _]
        simp [rawInt]⟩
    · exact fun b o' hb e => (Heap.get?_update_ne _ _ _ _ hb).trans ((Heap.get?_update_ne _ _ _ _ hb).trans e)
  | none =>
    dsimp only
    refine wpAny_bind (wpAny_setField hoI hd (by simp) ?_)
    have up : ∀ b o', b ≠ I → s.heap.get? b = some o' → (s.heap.update I (Obj.mapFields (·.setIfInBounds 2 .none))).get? b = some o' := fun b o' hb e => (Heap.get?_update_ne _ _ _ _ hb).trans e
    refine stop_made (A := A.in1) (s := { s with heap := s.heap.update I (Obj.mapFields (·.setIfInBounds 2 .none)) }) (.inl hh) fun h' e hk ht => ?_
    refine wpAny_bind (wpAny_isInstance (T := "StopIteration") (b := true) ht isSubtype_stop ?_)
    exact wpAny_pure (hnone _ rfl fun b o' hb e' => hk b o' (up b o' hb e'))
/-- a set walked by slots -/
theorem walk_slots (hI : SetI prog w o es ep t) (hne : a ≠ I) (hh : A.handled = none) {vals : List Value} {sl : Nat → Nat} (hv : vals.length = es.size)
    (hnx : ∀ {s : Shared} {i : Nat} {Q' : Option (Value × Nat) → Shared → Prop} {A' : Around} {E' : Value → Shared → Prop}, s.heap.get? a = some o → i ≤ es.size → Q' (vals[i]?.map fun v => (v, sl (i + 1))) s → wpAny (model prog w) A' (setNext a (sl i) i ep) Q' E' s) :
    Walks prog w A I [I, a] [I] es.size (fun i v => vals[i]? = some v) (fun i h => SIt h I a es.size ep i (.int (sl i) 0) ∧ h.get? a = some o) where
  sub := fun b hb => by simp at hb; simp [hb]
  frame := fun _ h h' st hk => ⟨st.1.at fun o e => hk I (by simp) o e, hk a (by simp) _ st.2⟩
  item := fun i s Q E hi st hQ => by
    refine next_slot st.2 hI rfl st.1 hh (vals[i]?.map fun v => (v, sl (i + 1))) (fun hq => hnx st.2 (Nat.le_of_lt hi) hq) (fun v sl' h' e st' hs' => ?_) fun h' e => ?_
    · have hlt : i < vals.length := by omega
      rw [List.getElem?_eq_getElem hlt] at e
      cases e
      exact hQ _ h' s.toks (List.getElem?_eq_getElem hlt) ⟨st', hs' _ _ hne st.2⟩ fun b o hb e => hs' b o (fun h => hb (by simp [h])) e
    · have hlt : i < vals.length := by omega
      rw [List.getElem?_eq_getElem hlt] at e
      cases e
  done := fun s Q E st hQ => by
    refine next_slot st.2 hI rfl st.1 hh (vals[es.size]?.map fun v => (v, sl (es.size + 1))) (fun hq => hnx st.2 (Nat.le_refl _) hq) (fun v sl' h' e => ?_) fun h' _ hs' => hQ h' s.toks fun b o hb e => hs' b o (fun h => hb (by simp [h])) e
    rw [List.getElem?_eq_none (by omega)] at e
    cases e
  self := fun _ _ _ _ st hQ => pyIter_si st.1 hQ
end
end
theorem offSetE : True := by
  w_top off
  exact trivial
section
section
variable {M : Model} {A : Around} {E : Value → Shared → Prop}
theorem choose_any {src : Source} {n : Nat} {s : Shared} {Q : Nat → Shared → Prop} (hn : n ≠ 0) (h : ∀ i dr, i < n → Q i { s with drawn := dr }) : wpAny M A (choose src n) Q E s := fun Γ p _ => by
  unfold choose
  rw [Sem.wp_choose]
  exact ⟨hn, h _ _ (Nat.mod_lt _ (Nat.pos_of_ne_zero hn))⟩
theorem draw_any {α : Type} (n : Nat) : ∀ (xs : List α) (s : Shared) (Q : List α → Shared → Prop), xs.length ≤ n → (∀ ys dr, ys.Perm xs → Q ys { s with drawn := dr }) → wpAny M A (drawOrder n xs) Q E s := by
  induction n with
  | zero =>
    intro xs s Q hl h
    obtain rfl := List.length_eq_zero_iff.mp (Nat.le_zero.mp hl)
    unfold drawOrder
    exact wpAny_pure (h [] s.drawn (.refl _))
  | succ n ih =>
    intro xs s Q hl h
    cases xs with
    | nil =>
      unfold drawOrder
      exact wpAny_pure (h [] s.drawn (.refl _))
    | cons x xs =>
      unfold drawOrder
      refine wpAny_bind (choose_any (by simp) fun i dr hi => ?_)
      rw [List.getElem?_eq_getElem hi]
      dsimp only
      refine wpAny_bind (ih _ _ _ ?_ fun ys dr' hp => wpAny_pure (h _ dr' ((List.Perm.cons _ hp).trans (erase_perm hi))))
      rw [List.length_eraseIdx, if_pos hi]
      simp at hl ⊢
      omega
end
/-- the values of a set's entries, in some order -/
def SVals (es : Array (Int × Value)) (vals : List Value) : Prop := ∃ l : List (Int × Value), l.Perm es.toList ∧ vals = l.map (·.2)
theorem SVals.length {es : Array (Int × Value)} {vals : List Value} (h : SVals es vals) : vals.length = es.size := by
  obtain ⟨l, p, rfl⟩ := h
  rw [List.length_map, p.length_eq, Array.length_toList]
theorem ints_keys : ∀ {l : List (Int × Value)}, (∀ e ∈ l, ∃ u, e.2 = .int (keyI e.2) u) → IntsAre (l.map (·.2)) (l.map fun e => keyI e.2)
  | [], _ => .nil
  | e :: l, h => by
    obtain ⟨u, q⟩ := h e (.head _)
    have ih := ints_keys (l := l) fun e' he => h e' (.tail _ he)
    rw [List.map_cons, List.map_cons]
    generalize keyI e.2 = k at q ⊢
    rw [q]
    exact .cons k u ih
section
variable {prog : Program} {w : World} {A : Around} {E : Value → Shared → Prop} {s : Shared} {I a : Addr} {o : Obj} {es : Array (Int × Value)} {ep : Nat} {t : SetTable}
theorem SVals.ints {vals : List Value} (hI : SetI prog w o es ep t) (h : SVals es vals) : ∃ ns, IntsAre vals ns ∧ ns.Perm (keysI es) := by
  obtain ⟨l, p, rfl⟩ := h
  exact ⟨_, ints_keys fun e he => hI.int (p.mem_iff.mp he), p.map _⟩
/-- a set walked, its order told by the text -/
theorem next_text {s : Shared} {Q : Option (Value × Nat) → Shared → Prop} (hI : SetI prog w o es ep t) (hb : byT w = true) (ho : s.heap.get? a = some o) {i : Nat}
    (h : Q (((pickOrder (w.params.setOrder a ep) es).toList.map (·.2))[i]?.map fun v => (v, 0)) s) : wpAny (model prog w) A (setNext a 0 i ep) Q E s := by
  unfold setNext
  refine wpAny_bind (wpAny_setState_of ho hI.dat hI.fit ?_)
  dsimp only
  refine wpAny_bind (wpAny_byText ?_)
  rw [hb]
  rw [if_pos rfl, if_neg (by simp)]
  refine wpAny_bind ?_
  unfold setWalk
  refine wpAny_bind (wpAny_setState_of ho hI.dat hI.fit ?_)
  dsimp only
  refine wpAny_bind (wpAny_byText ?_)
  rw [hb, if_pos rfl]
  refine wpAny_bind (wpAny_askSetting (wpAny_pure ?_))
  refine wpAny_pure ?_
  have e : ((pickOrder (w.params.setOrder a ep) es).toList.map (·.2))[i]?.map (fun v => (v, 0)) = ((pickOrder (w.params.setOrder a ep) es)[i]?).map fun e => (e.2, 0) := by
    rw [List.getElem?_map, Array.getElem?_toList, Option.map_map]
    rfl
  rw [e] at h
  exact h
/-- the slot that a walk by slots stands at -/
noncomputable def slotAt (t : SetTable) : Nat → Nat
  | 0 => 0
  | i + 1 => t.place.getD i 0 + 1
theorem size_place {n : Nat} {t : SetTable} (h : t.fits n = true) : t.place.size = n := by
  unfold SetTable.fits at h
  simp at h
  exact h.1
theorem next_slots {s : Shared} {Q : Option (Value × Nat) → Shared → Prop} (hI : SetI prog w o es ep t) (hb : byT w = false) (hp : (!t.plain && decide (es.size > 1)) = false) (ho : s.heap.get? a = some o) {i : Nat} (hi : i ≤ es.size)
    (h : Q ((es.toList.map (·.2))[i]?.map fun v => (v, slotAt t (i + 1))) s) : wpAny (model prog w) A (setNext a (slotAt t i) i ep) Q E s := by
  have hps := size_place hI.fit
  have hbl : SetTable.below t.place (slotAt t i) = i := by
    refine below_eq hI.ris (by omega) (fun k hk => ?_) fun hlt => ?_
    · match i with
      | 0 => omega
      | i + 1 =>
        show t.place.getD k 0 < t.place.getD i 0 + 1
        rcases Nat.lt_or_ge k i with q | q
        · have := hI.ris.at q (by omega); omega
        · have : k = i := by omega
          rw [this]; exact Nat.lt_succ_self _
    · match i with
      | 0 => exact Nat.zero_le _
      | i + 1 => exact hI.ris.at (Nat.lt_succ_self i) hlt
  unfold setNext
  refine wpAny_bind (wpAny_setState_of ho hI.dat hI.fit ?_)
  dsimp only
  refine wpAny_bind (wpAny_byText ?_)
  rw [hb]
  rw [if_neg (by decide)]
  refine wpAny_ite_split (fun hab => absurd (show (!t.plain && decide (es.size > 1)) = true from hab) (by rw [hp]; decide)) (fun _ => ?_)
  refine wpAny_bind ?_
  have hled : t.led = true := by rw [hI.led, hb]; rfl
  show wpAny _ _ (if (!t.led && !es.isEmpty) = true then _ else pure PUnit.unit) _ _ s
  rw [hled, if_neg (by simp)]
  refine wpAny_pure ?_
  rw [hbl]
  refine wpAny_pure ?_
  rcases Nat.lt_or_ge i es.size with q | q
  · rw [List.getElem?_map, Array.getElem?_toList, Array.getElem?_eq_getElem q] at h
    rw [Array.getElem?_eq_getElem q, Array.getElem?_eq_getElem (by omega)]
    have : slotAt t (i + 1) = t.place[i]'(by omega) + 1 := by
      show t.place.getD i 0 + 1 = _
      simp [Array.getD, show i < t.place.size by omega]
    rw [this] at h
    exact h
  · rw [List.getElem?_map, Array.getElem?_toList, Array.getElem?_eq_none q] at h
    rw [Array.getElem?_eq_none q]
    exact h
end
end
theorem offSetF : True := by
  w_top off
  exact trivial
section
section
variable {prog : Program} {w : World} {A : Around} {E : Value → Shared → Prop} {s : Shared} {I a tp : Addr} {o : Obj} {es : Array (Int × Value)} {ep : Nat} {t : SetTable} {pl : List Nat}
/-- the tuple of places that a drawn walk goes by -/
def PTup (h : Heap) (tp : Addr) (pl : List Nat) : Prop := ∃ ot n, h.get? tp = some ot ∧ ot.data = .seq (pl.map fun (i : Nat) => rawInt i).toArray n
theorem next_place {n i : Nat} {Q : Option Value → Shared → Prop} (ho : s.heap.get? a = some o) (hI : SetI prog w o es ep t) (hn : es.size = n) (x : SIt s.heap I a n ep i (.ref tp)) (hp : PTup s.heap tp pl) (hh : A.handled = none) (hpl : ∀ p ∈ pl, p < es.size)
    (hsome : ∀ p v h', pl[i]? = some p → (es.toList.map (·.2))[p]? = some v → SIt h' I a n ep (i + 1) (.ref tp) → Heap.ExtBut I s.heap h' → Q (some v) { s with heap := h' })
    (hnone : ∀ h', pl[i]? = none → Heap.ExtBut I s.heap h' → Q none { s with heap := h' }) : wpAny (model prog w) A (pyNext (.ref I)) Q E s := by
  obtain ⟨oI, hoI, hc, hd⟩ := id x
  obtain ⟨ot, nt, hot, hdt⟩ := hp
  unfold pyNext
  refine wpAny_bind (wpAny_attempt (wpAny_callSpecial?_slot (name := Str.ofString "__next__") x.typeIs slot_si_next
    (wpAny_call_entry slot_si_next x.typeIs entry_si_next ?_ (args_si_next _))))
  refine wpAny_bind (wpAny_pure ?_)
  show wpAny _ _ (fieldsOf (.ref I) >>= _) _ _ s
  refine wpAny_bind (wpAny_fieldsOf hoI hd ?_)
  refine wpAny_bind (wpAny_setEntries_of ho hI.dat hI.fit ?_)
  rw [if_neg (by rw [hn]; simp)]
  show wpAny _ _ (seqItems? (.ref tp) >>= _) _ _ s
  refine wpAny_bind (wpAny_seqItems hot hdt ?_)
  simp only [Int.toNat_natCast, List.getElem?_toArray, List.getElem?_map]
  cases hpi : pl[i]? with
  | some p =>
    dsimp only [Option.map, rawInt]
    have hlt := hpl p (List.mem_of_getElem? hpi)
    unfold setNextDrawn
    refine wpAny_bind ?_
    refine wpAny_bind (wpAny_setState_of ho hI.dat hI.fit ?_)
    dsimp only
    rw [if_neg (by simp)]
    simp only [Int.toNat_natCast, Array.getElem?_eq_getElem hlt]
    refine wpAny_pure ?_
    refine wpAny_bind (wpAny_setField hoI hd (by simp) (wpAny_pure ⟨_, rfl, wpAny_pure (hsome p _ _ hpi ?_ ?_ ?_)⟩))
    · rw [List.getElem?_map, Array.getElem?_toList, Array.getElem?_eq_getElem hlt]; rfl
    · exact ⟨_, Heap.get?_update_self _ hoI (Obj.isFreed_of_fields (Obj.data_mapFields hd _)), (Obj.cls_mapFields ..).trans hc, by
        rw [Obj.data_mapFields hd _]
        simp [rawInt]⟩
    · exact fun b o' hb e => (Heap.get?_update_ne _ _ _ _ hb).trans e
  | none =>
    dsimp only [Option.map]
    refine wpAny_bind (wpAny_setField hoI hd (by simp) ?_)
    have h1 := Heap.get?_update_self (Obj.mapFields (·.setIfInBounds 0 (rawInt 0))) hoI (Obj.isFreed_of_fields (Obj.data_mapFields hd _))
    refine wpAny_bind (wpAny_setField h1 (Obj.data_mapFields hd _) (by simp) ?_)
    have up : ∀ b o', b ≠ I → s.heap.get? b = some o' → ((s.heap.update I (Obj.mapFields (·.setIfInBounds 0 (rawInt 0)))).update I (Obj.mapFields (·.setIfInBounds 2 .none))).get? b = some o' := fun b o' hb e =>
      (Heap.get?_update_ne _ _ _ _ hb).trans ((Heap.get?_update_ne _ _ _ _ hb).trans e)
    refine stop_made (A := A.in1) (s := { s with heap := (s.heap.update I (Obj.mapFields (·.setIfInBounds 0 (rawInt 0)))).update I (Obj.mapFields (·.setIfInBounds 2 .none)) }) (.inl hh) fun h' e hk ht => ?_
    refine wpAny_bind (wpAny_isInstance (T := "StopIteration") (b := true) ht isSubtype_stop ?_)
    exact wpAny_pure (hnone _ hpi fun b o' hb e' => hk b o' (up b o' hb e'))
theorem walk_places (hI : SetI prog w o es ep t) (hne : a ≠ I) (hnt : tp ≠ I) (hh : A.handled = none) (hpl : pl.Perm (List.range es.size)) :
    Walks prog w A I [I, a, tp] [I] es.size (fun i v => (pl.map fun p => (es.toList.map (·.2)).getD p .none)[i]? = some v) (fun i h => SIt h I a es.size ep i (.ref tp) ∧ h.get? a = some o ∧ PTup h tp pl) where
  sub := fun b hb => by simp at hb; simp [hb]
  frame := fun _ h h' st hk => ⟨st.1.at fun o e => hk I (by simp) o e, hk a (by simp) _ st.2.1, by
    obtain ⟨ot, n, e, r⟩ := st.2.2
    exact ⟨ot, n, hk tp (by simp) _ e, r⟩⟩
  item := fun i s Q E hi st hQ => by
    have hl : pl.length = es.size := by rw [hpl.length_eq, List.length_range]
    refine next_place st.2.1 hI rfl st.1 st.2.2 hh (fun p hp => List.mem_range.mp (hpl.mem_iff.mp hp)) (fun p v h' e1 e2 st' hs' => ?_) fun h' e => ?_
    · obtain ⟨ot, n, q, r⟩ := st.2.2
      exact hQ _ h' s.toks (by rw [List.getElem?_map, e1]; simp only [Option.map, List.getD, e2, Option.getD]) ⟨st', hs' _ _ hne st.2.1, ot, n, hs' _ _ hnt q, r⟩ fun b o hb e => hs' b o (fun h => hb (by simp [h])) e
    · rw [List.getElem?_eq_getElem (by omega)] at e
      cases e
  done := fun s Q E st hQ => by
    have hl : pl.length = es.size := by rw [hpl.length_eq, List.length_range]
    refine next_place st.2.1 hI rfl st.1 st.2.2 hh (fun p hp => List.mem_range.mp (hpl.mem_iff.mp hp)) (fun p v h' e1 => ?_) fun h' _ hs' => hQ h' s.toks fun b o hb e => hs' b o (fun h => hb (by simp [h])) e
    rw [List.getElem?_eq_none (by omega)] at e1
    cases e1
  self := fun _ _ _ _ st hQ => pyIter_si st.1 hQ
theorem map_range_getD {α : Type} {d : α} : ∀ {l : List α}, (List.range l.length).map (fun p => l.getD p d) = l
  | [] => rfl
  | x :: l => by
    rw [List.length_cons, List.range_succ_eq_map, List.map_cons, List.map_map]
    have ih := map_range_getD (d := d) (l := l)
    show x :: List.map (fun p => l.getD p d) (List.range l.length) = x :: l
    rw [ih]
theorem svals_places (hpl : pl.Perm (List.range es.size)) : SVals es (pl.map fun p => (es.toList.map (·.2)).getD p .none) := by
  have h : (pl.map fun p => es.toList.getD p (0, .none)).Perm es.toList := by
    have e := hpl.map (fun p => es.toList.getD p (0, .none))
    have e2 := map_range_getD (d := ((0, .none) : Int × Value)) (l := es.toList)
    rw [Array.length_toList] at e2
    rw [e2] at e
    exact e
  refine ⟨_, h, ?_⟩
  rw [List.map_map]
  refine List.map_congr_left fun p hp => ?_
  have hlt : p < es.size := List.mem_range.mp (hpl.mem_iff.mp hp)
  simp [List.getD, hlt]
theorem svals_pick {next : Nat → Nat} : SVals es ((pickOrder next es).toList.map (·.2)) := ⟨_, pick_perm, rfl⟩
theorem svals_id : SVals es (es.toList.map (·.2)) := ⟨_, .refl _, rfl⟩
theorem args_set_iter (a : Value) : argsOk "set.__iter__" ⟨[a], []⟩ := by unfold argsOk; kernel_rfl
theorem SetI.typeIs (ho : s.heap.get? a = some o) (hI : SetI prog w o es ep t) : s.TypeIs (.ref a) "set" := ⟨o, ho, hI.ex.1⟩
/-- the iterator of a set -/
theorem iter_set {Q : Value → Shared → Prop} (ho : s.heap.get? a = some o) (hI : SetI prog w o es ep t) (hh : A.handled = none)
    (hQ : ∀ I h' dr vals fp St, (∀ b o, s.heap.get? b = some o → h'.get? b = some o) → s.heap.objs.size ≤ I → (∀ b ∈ fp, b = a ∨ s.heap.objs.size ≤ b) → SVals es vals → Walks prog w A I fp [I] es.size (fun i v => vals[i]? = some v) St → St 0 h' → Q (.ref I) { s with heap := h', drawn := dr }) :
    wpAny (model prog w) A (pyIter (.ref a)) Q E s := by
  have hT := hI.typeIs ho
  have ha : a < s.heap.objs.size := Heap.lt_size ho
  have hbnd : es.size ≤ sizeLine := fits_of_scanBound hI.few
  refine wpAny_pyIter_slot hT F.slot_set_iter (wpAny_call_entry F.slot_set_iter hT entry_set_iter ?_ (args_set_iter _))
  unfold Builtin.«frozenset.__iter__» Builtin.Frozenset.slot0 slotArgs
  simp only [List.isEmpty_nil, Bool.not_true, Bool.false_eq_true, ↓reduceIte, bind_assoc, List.length_nil, bne_self_eq_false]
  unfold Builtin.Frozenset.addrOf Builtin.Frozenset.sizeOf
  refine wpAny_bind (wpAny_pure ?_)
  try dsimp only
  refine wpAny_bind (wpAny_pure ?_)
  refine wpAny_bind (wpAny_bind (wpAny_setEntries_of ho hI.dat hI.fit (wpAny_pure ?_)))
  refine wpAny_bind ?_
  unfold setDrawn
  refine wpAny_bind (wpAny_setState_of ho hI.dat hI.fit ?_)
  dsimp only
  refine wpAny_bind (wpAny_byText (wpAny_pure ?_))
  have fin : ∀ (s₁ : Shared) (first : Value) (vals : List Value) (fp : List Addr) (St : Nat → Heap → Prop), (∃ dr, s₁ = { s with heap := s₁.heap, drawn := dr }) → s.heap.objs.size ≤ s₁.heap.objs.size → (∀ b o, s.heap.get? b = some o → s₁.heap.get? b = some o) → SVals es vals → (∀ b ∈ fp, b = a ∨ s.heap.objs.size ≤ b) →
      Walks prog w A s₁.heap.objs.size fp [s₁.heap.objs.size] es.size (fun i v => vals[i]? = some v) St →
      (∀ h', (∀ b o, s₁.heap.get? b = some o → h'.get? b = some o) → SIt h' s₁.heap.objs.size a es.size ep 0 first → St 0 h') →
      wpAny (model prog w) A.in1 (do
          let e ← setEpoch a
          let r ← newFields "set_iterator" [first, rawInt 0, Value.ref a, rawInt es.size, rawInt e]
          ret r) (fun fin s' => ∃ r, fin = .done (.ret r) ∧ ∃ T' r', s'.TypeIs r T' ∧ typeLookup (.type T') "__next__" = pure (some r') ∧ Q r s') E s₁ := by
    intro s₁ first vals fp St hs hsz hk hv hf W hst
    refine wpAny_bind (wpAny_setEpoch_of (hk _ _ ho) hI.dat hI.fit ?_)
    unfold newFields
    refine wpAny_bind (wpAny_newObj_type ?_)
    have up : ∀ b o, s₁.heap.get? b = some o → (s₁.heap.push { cls := .type "set_iterator", dict := none, data := .fields [first, rawInt 0, Value.ref a, rawInt es.size, rawInt ep].toArray }).get? b = some o := fun b o e => Heap.get?_push_of_some _ e
    have hI' : SIt (s₁.heap.push { cls := .type "set_iterator", dict := none, data := .fields [first, rawInt 0, Value.ref a, rawInt es.size, rawInt ep].toArray }) s₁.heap.objs.size a es.size ep 0 first := ⟨_, Heap.get?_push_size _ rfl, rfl, rfl⟩
    refine wpAny_pure ⟨_, rfl, "set_iterator", _, ⟨_, Heap.get?_push_size _ rfl, rfl⟩, slot_si_next.lookup, ?_⟩
    obtain ⟨dr, e⟩ := hs
    rw [e]
    exact hQ s₁.heap.objs.size _ dr vals fp St (fun b o q => up b o (hk b o q)) hsz hf hv W (hst _ up hI')
  refine wpAny_ite_split (fun hab => ?_) (fun hab => ?_)
  · refine wpAny_bind (draw_any es.size _ s _ (by simp) fun pl dr hp => ?_)
    refine wpAny_bind (wpAny_newTuple ?_ (by rw [List.length_map, hp.length_eq, List.length_range]; exact hbnd))
    refine fin _ _ _ _ _ ⟨dr, rfl⟩ (by rw [Heap.size_push]; exact Nat.le_succ _) (fun b o e => Heap.get?_push_of_some _ e) (svals_places hp) (fun b hb => ?_) (walk_places (tp := s.heap.objs.size) hI ?_ ?_ hh hp) fun h' k x => ⟨x, k _ _ (Heap.get?_push_of_some _ ho), _, _, k _ _ (Heap.get?_push_size _ rfl), rfl⟩
    · rw [Heap.size_push] at hb
      rcases List.mem_cons.mp hb with rfl | hb
      · exact .inr (Nat.le_succ _)
      rcases List.mem_cons.mp hb with rfl | hb
      · exact .inl rfl
      · exact .inr (by rw [List.mem_singleton.mp hb]; exact Nat.le_refl _)
    · rw [Heap.size_push]; exact Nat.ne_of_lt (Nat.lt_succ_of_lt ha)
    · rw [Heap.size_push]; exact Nat.ne_of_lt (Nat.lt_succ_self _)
  · refine wpAny_bind (wpAny_pure ?_)
    have two : ∀ b ∈ [s.heap.objs.size, a], b = a ∨ s.heap.objs.size ≤ b := fun b hb => by
      rcases List.mem_cons.mp hb with rfl | hb
      · exact .inr (Nat.le_refl _)
      · exact .inl (List.mem_singleton.mp hb)
    cases hb : byT w with
    | true =>
      refine fin s _ _ _ _ ⟨s.drawn, rfl⟩ (Nat.le_refl _) (fun b o e => e) svals_pick ?_ (walk_slots (sl := fun _ => 0) hI (Nat.ne_of_lt ha) hh svals_pick.length fun ho' hi hq => next_text hI hb ho' hq) fun h' k x => ⟨x, k _ _ ho⟩
      exact two
    | false =>
      refine fin s _ _ _ _ ⟨s.drawn, rfl⟩ (Nat.le_refl _) (fun b o e => e) svals_id ?_ (walk_slots (sl := slotAt t) hI (Nat.ne_of_lt ha) hh svals_id.length fun ho' hi hq => next_slots hI hb ?_ ho' hi hq) fun h' k x => ⟨x, k _ _ ho⟩
      · exact two
      · cases q : (!t.plain && decide (es.size > 1)) with
        | false => rfl
        | true =>
          refine absurd ?_ hab
          rw [hb]
          exact q
end
end
theorem offSetG : True := by
  w_top off
  exact trivial
section
section
variable {prog : Program} {w : World} {A : Around} {E : Value → Shared → Prop} {s : Shared} {a : Addr} {o : Obj} {es : Array (Int × Value)} {ep : Nat} {t : SetTable}
theorem hint_set (hT : s.TypeIs (.ref a) "set") {Q : Bool → Shared → Prop} (h : Q false s) : wpAny (model prog w) A (Builtin.List.listLengthHint (.ref a)) Q E s := by
  unfold Builtin.List.listLengthHint
  refine wpAny_bind (wpAny_specialOf hT F.slot_set_len.lookup ?_)
  generalize hid : ("set.__len__" : String) = id0
  wp_delta
  rw [show splitId id0 = some ("set", "__len__") from by subst hid; decide +kernel]
  subst hid
  refine wpAny_bind (wpAny_isInstance (T := "set") (b := true) hT (by rw [isSubtype_type]; kernel_rfl) ?_)
  refine wpAny_ite_split (fun hab => absurd hab (by decide)) (fun _ => ?_)
  refine wpAny_ite_split (fun _ => ?_) (fun hab => absurd (by decide +kernel) hab)
  refine wpAny_bind (wpAny_typeOf hT ?_)
  exact wpAny_pure h
theorem extend_set {R : Result → Shared → Prop} (ho : s.heap.get? a = some o) (hI : SetI prog w o es ep t) (hh : A.handled = none) (S : Addr) (hSa : S ≠ a) (res : Value) (c₀ : Nat)
    (hS : s.heap.get? S = some { cls := .type "list", data := .seq #[] c₀ })
    (hR : ∀ h' tk dr acc' c' vals, (∀ b o, b ≠ S → s.heap.get? b = some o → h'.get? b = some o) → h'.get? S = some { cls := .type "list", dict := none, data := .seq acc' c', slots := #[] } → SVals es vals → ItemsOf (fun i v => vals[i]? = some v) acc' es.size → R (.ok (.ret res)) { s with heap := h', toks := tk, drawn := dr }) :
    wpAny (model prog w) A.in1 (Builtin.List.listExtendWith (.ref S) (.ref a) res)
      (fun fin s' => match fin with | .done f => R (.ok f) s' | .again c' => c'.quiet = true ∧ codeAny (model prog w) A c' R s') (fun e s' => R (.error e) s') s := by
  have hT := hI.typeIs ho
  have hn : es.size ≤ sizeLine := fits_of_scanBound hI.few
  unfold Builtin.List.listExtendWith
  refine wpAny_bind (wpAny_typeOf (T := "set") hT ?_)
  have h1 : Builtin.List.listSameRef (.ref S) (.ref a) = false := by simp [Builtin.List.listSameRef, hSa]
  simp only [h1, show (Value.type "set" == Value.type "list") = false from by decide, show (Value.type "set" == Value.type "tuple") = false from by decide, Bool.or_false, Bool.false_eq_true, if_false]
  refine wpAny_bind (iter_set (A := A.in1) ho hI hh fun I g dr vals fp St hk hge hfp hv W st => ?_)
  have hSI : S ≠ I := Nat.ne_of_lt (Nat.lt_of_lt_of_le (Heap.lt_size hS) hge)
  have hSf : S ∉ fp := fun q => by
    rcases hfp S q with e | e
    · exact hSa e
    · exact Nat.lt_irrefl _ (Nat.lt_of_lt_of_le (Heap.lt_size hS) e)
  have key : ∀ (h : Heap) (c₁ tk : Nat), (∀ b o, b ≠ S → g.get? b = some o → h.get? b = some o) → h.get? S = some { cls := .type "list", data := .seq #[] c₁ } →
      codeAny (model prog w) A (.builtin "list.extend.loop" ⟨[.ref S, .ref I, res], []⟩) R { s with heap := h, toks := tk, drawn := dr } := by
    intro h c₁ tk hk1 hS₁
    refine codeAny_extend_loopS W.toS hn S hSf res es.size 0 _ #[] c₁ rfl (Nat.zero_le _) (W.frame 0 _ _ st fun b hb o e => hk1 b o (fun q => hSf (q ▸ hb)) e) hS₁ (ItemsOf.nil _) fun s' acc' c' hm' hS' hacc => ?_
    rw [Moved.eq_with hm']
    refine hR s'.heap s'.toks dr acc' c' vals (fun b o hb e => hm'.heap b o (fun hmem => ?_) (hk1 b o hb (hk b o e))) hS' hv hacc
    rcases List.mem_cons.mp hmem with e' | hmem
    · exact hb e'
    · exact absurd (Heap.lt_size e) (by rw [List.mem_singleton.mp hmem]; exact Nat.not_lt.mpr hge)
  have hS₁ := hk _ _ hS
  refine wpAny_bind (wpAny_holding (hint_set (hI.typeIs (hk _ _ ho)) ?_))
  refine wpAny_ite_split (fun _ => ?_) (fun _ => wpAny_pure ⟨plainId_quiet PySem.F.plain_extend_loop _, key _ c₀ _ (fun b o _ e => e) hS₁⟩)
  refine wpAny_bind (wpAny_rule ?_)
  refine wpAny_bind ?_
  show wpAny _ _ (updateSeq S (·.push .none) >>= fun _ => updateSeq S (·.pop)) _ _ _
  refine wpAny_bind (wpAny_updateSeq hS₁ rfl ?_)
  have hS₂ := Heap.get?_update_self (Obj.mapSeq (·.push Value.none)) hS₁ rfl
  refine wpAny_updateSeq (hz := by seq_fits) hS₂ rfl ?_
  have hS₃ := Heap.get?_update_self (Obj.mapSeq (·.pop)) hS₂ rfl
  exact wpAny_pure ⟨plainId_quiet PySem.F.plain_extend_loop _, key _ _ _ (fun b o hb e => (Heap.get?_update_other _ _ (Ne.symm hb)).trans ((Heap.get?_update_other _ _ (Ne.symm hb)).trans e)) hS₃⟩
theorem collect_set {R : List Value → Shared → Prop} (ho : s.heap.get? a = some o) (hI : SetI prog w o es ep t) (hh : A.handled = none)
    (h : ∀ (h' : Heap) (tk : Nat) dr (acc : Array Value) vals, (∀ b o, s.heap.get? b = some o → h'.get? b = some o) → SVals es vals → ItemsOf (fun i v => vals[i]? = some v) acc es.size → R acc.toList { s with heap := h', toks := tk, drawn := dr }) :
    wpAny (model prog w) A (collect (.ref a)) R E s := by
  unfold collect
  refine wpAny_bind (wpAny_runValue (codeAny_builtin entry_proto_collect' ?_))
  rw [Around.under_plainId PySem.F.plain_proto_collect _]
  show wpAny _ A.in1 (newList [] >>= fun l => again (.builtin "list.__iadd__" ⟨[l, .ref a], []⟩)) _ _ s
  refine wpAny_bind (wpAny_newObj_type ?_)
  refine wpAny_pure ⟨plainId_quiet PySem.F.plain_list_iadd _, codeAny_builtin entry_list_iadd' ?_⟩
  rw [Around.under_plainId PySem.F.plain_list_iadd _]
  have up : ∀ b o, s.heap.get? b = some o → (s.heap.push { cls := .type "list", data := .seq ([] : List Value).toArray }).get? b = some o := fun b o e => Heap.get?_push_of_some _ e
  have key := extend_set (A := A) (s := { s with heap := s.heap.push { cls := .type "list", data := .seq ([] : List Value).toArray } })
    (R := fun (q : Result) (s' : Shared) => ∃ (h' : Heap) (tk : Nat) (dr : Drawn) (acc' : Array Value) (c' : Nat) (vals : List Value), q = .ok (.ret (.ref s.heap.objs.size)) ∧ s' = { s with heap := h', toks := tk, drawn := dr } ∧
      (∀ b o, s.heap.get? b = some o → h'.get? b = some o) ∧ h'.get? s.heap.objs.size = some { cls := .type "list", dict := none, data := .seq acc' c', slots := #[] } ∧ SVals es vals ∧ ItemsOf (fun i v => vals[i]? = some v) acc' es.size)
    (up _ _ ho) hI hh s.heap.objs.size (Nat.ne_of_gt (Heap.lt_size ho)) (.ref s.heap.objs.size) 0 (Heap.get?_push_size _ rfl)
    (fun h' tk dr acc' c' vals hk hS' hv hacc => ⟨h', tk, dr, acc', c', vals, rfl, rfl, fun b o e => hk b o (Nat.ne_of_lt (Heap.lt_size e)) (up b o e), hS', hv, hacc⟩)
  refine wpAny_mono key (fun r s' x => ?_) fun e s' x => ?_
  · cases r with
    | done f =>
      obtain ⟨h', tk, dr, acc', c', vals, e, rfl, hk, hS', hv, hacc⟩ := x
      cases e
      show wpAny _ A (load s.heap.objs.size >>= _) _ _ _
      refine wpAny_bind (wpAny_load hS' ?_)
      exact wpAny_pure (h h' tk dr acc' vals hk hv hacc)
    | again c₁ =>
      refine ⟨x.1, codeAny_mono x.2 fun q s₂ y => ?_⟩
      obtain ⟨h', tk, dr, acc', c', vals, rfl, rfl, hk, hS', hv, hacc⟩ := y
      show wpAny _ A (load s.heap.objs.size >>= _) _ _ _
      refine wpAny_bind (wpAny_load hS' ?_)
      exact wpAny_pure (h h' tk dr acc' vals hk hv hacc)
  · obtain ⟨_, _, _, _, _, _, e', _⟩ := x
    cases e'
end
section
variable {prog : Program} {w : World} {A : Around} {E : Value → Shared → Prop} {s : Shared} {h₀ : Heap} {L : Addr} {m : Str → Option Value} {news : Led} {a l : Addr} {o : Obj} {es : Array (Int × Value)} {ep : Nat} {t : SetTable}
/-- sorted of a set of ints -/
theorem sorted_setI {Q : Value → Shared → Prop} (hh : A.handled = none) (F : Fr h₀ L s.heap m) (N : News h₀ L s.heap news) (hm : (a, o) ∈ news) (hI : SetI prog w o es ep t) (h64 : es.size < 64)
    (h : ∀ (D : Addr) (h' : Heap) (tk e : Nat) dr (vs : List Value) (ns : List Int), IntsAre vs ns → ns.Perm (keysI es) → ns.Pairwise (· ≤ ·) → Fr h₀ L h' m → News h₀ L h' ((D, W.listOf vs.toArray e) :: news) → (∀ q ∈ news, q.1 < D) → Q (.ref D) { s with heap := h', toks := tk, drawn := dr }) :
    wpAny (model prog w) A (call (.builtin "sorted") [.ref a]) Q E s := by
  refine call_function_entry kind_sorted plain_sorted entry_sorted (args_sorted1 _) ?_
  unfold Builtin.«sorted»
  refine wpAny_bind (m := checkCount "sorted" 1 1 _) (wpAny_pure ?_)
  refine wpAny_bind (collect_set (A := A.in1) (N _ hm).1 hI hh fun h' tk dr acc vals hk hv hacc => ?_)
  have hl : acc.toList.length = es.size := by rw [Array.length_toList]; exact hacc.1
  have hav : acc.toList = vals := by
    refine List.ext_getElem? fun i => ?_
    rcases Nat.lt_or_ge i es.size with q | q
    · rw [Array.getElem?_toList]
      obtain ⟨v, hv'⟩ : ∃ v, acc[i]? = some v := ⟨acc[i]'(by rw [hacc.1]; exact q), by simp [hacc.1, q]⟩
      rw [hv', hacc.2 i v hv']
    · rw [List.getElem?_eq_none (by omega), List.getElem?_eq_none (by rw [hv.length]; exact q)]
  obtain ⟨ns, hi, hp⟩ := hv.ints hI
  rw [← hav] at hi
  have hz : acc.toList.length ≤ sizeLine := by rw [hl]; exact fits64 h64
  refine wpAny_bind (wpAny_newList ?_ hz)
  have ho : (h'.push (seqObj "list" acc.toList.toArray 0)).get? h'.objs.size = some (seqObj "list" acc.toList.toArray 0) := Heap.get?_push_size _ rfl
  refine wpAny_bind (wpAny_holding (wpAny_call_entry slot_list_sort ⟨_, ho, rfl⟩ entry_list_sort (list_sort_tree ho hi (by rw [hl]; exact h64) fun out ns' i1 i2 i3 => ⟨_, rfl, ?_⟩) (args_list_sort _)))
  refine wpAny_pure ⟨_, rfl, ?_⟩
  obtain ⟨e, he⟩ := sortedHeap_at (vs := acc.toList) (out := out) ho
  have old : ∀ b o, h'.get? b = some o → (sortedHeap (h'.push (seqObj "list" acc.toList.toArray 0)) h'.objs.size acc.toList out).get? b = some o := fun b o q' => by
    have lt := Heap.lt_size q'
    rw [sortedHeap_old (Nat.ne_of_lt lt) (by rw [Heap.size_push]; exact Nat.lt_succ_of_lt lt)]
    exact Heap.get?_push_of_some _ q'
  exact h h'.objs.size _ tk e dr out.toList ns' i1 (i2.trans hp) i3 ((F.keeps hk).keeps old) (by rw [Array.toArray_toList]; exact news_new (F.keeps hk) (N.grown hk) old he (Nat.le_refl _)) (fun q hq => Heap.lt_size (hk _ _ (N q hq).1))
/-- set of a list of ints -/
theorem setOf_N {vs : List Value} {ns : List Int} {k : Nat} {Q : Value → Shared → Prop} (hh : A.handled = none) (F : Fr h₀ L s.heap m) (N : News h₀ L s.heap news) (hm : (l, W.listOf vs.toArray k) ∈ news) (hi : IntsAre vs ns) (h64 : ns.length < 64)
    (h : ∀ (D : Addr) (h' : Heap) (tk : Nat) o' es' ep' t', Fr h₀ L h' m → News h₀ L h' ((D, o') :: news) → (∀ q ∈ news, q.1 < D) → SetI prog w o' es' ep' t' → (keysI es').Nodup → es'.size ≤ ns.length → es'.size < 64 → (∀ x, x ∈ keysI es' ↔ x ∈ ns) → Q (.ref D) { s with heap := h', toks := tk }) :
    wpAny (model prog w) A (call (.type "set") [.ref l]) Q E s :=
  call_setI hh (ledList N hm) (by simpa using hi) (by
    rw [List.size_toArray, hi.length]
    exact Nat.lt_of_lt_of_le (Nat.succ_lt_succ h64) (by decide)) fun h' tk o' es' ep' t' hk ho' hI hnd hsz hmem =>
    h _ h' tk o' es' ep' t' (F.keeps hk) (news_new F N hk ho' (Nat.le_refl _)) (fun q hq => Heap.lt_size (N q hq).1) hI hnd hsz (Nat.lt_of_le_of_lt hsz h64) hmem
end
end
local macro_rules | `(tactic| walk_at "call type:set") => `(tactic| (k_search (call (Value.type "set") [Value.ref _]); tbr_iter (setOf_N, "307 101 201 402 503 608 0/905")))
local macro_rules | `(tactic| walk_at "call builtin:sorted") => `(tactic| (k_search (call (Value.builtin "sorted") [Value.ref _]); tbr_iter (sorted_setI, "507 101 201 402 303 603 0/1200")))
theorem offComp : True := by
  w_top off
  exact trivial
section
open LCg in
/-- what stands still of the turn's ledger behind the turn: all but the block's own three -/
noncomputable def rest3 (I C D : Addr) (l : Led) : Led := but I (but C (but D l))
theorem mem_rest3 {I C D : Addr} {l : Led} {p : Addr × Obj} (h : p ∈ l) (h1 : p.1 ≠ I) (h2 : p.1 ≠ C) (h3 : p.1 ≠ D) : p ∈ rest3 I C D l := mem_but (mem_but (mem_but h h3) h2) h1
theorem of_rest3 {I C D : Addr} {l : Led} {p : Addr × Obj} (h : p ∈ rest3 I C D l) : p ∈ l ∧ p.1 ≠ I ∧ p.1 ≠ C ∧ p.1 ≠ D :=
  have a := of_but h
  have b := of_but a.1
  have c := of_but b.1
  ⟨c.1, a.2, b.2, c.2⟩
/-- behind a turn: the ledger has grown, its rest bears what the next turn asks -/
def TurnEnd (h₀ : Heap) (L : Addr) (m : Str → Option Value) (s₁ : Shared) (I : Addr) (oI : Obj) (C : Addr) (oC : Obj) (D : Addr) (oD : Obj) (l : Led) (J : Led → Prop) (s' : Shared) : Prop :=
  ∃ h' tk' all, s' = { s₁ with heap := h', toks := tk' } ∧ Fr h₀ L h' m ∧ News h₀ L h' all ∧ Sub ((I, oI) :: (C, oC) :: (D, oD) :: l) all ∧
    ∀ l', Sub l l' → (∀ p ∈ all, (∀ q ∈ (I, oI) :: (C, oC) :: (D, oD) :: l, q.1 ≠ p.1) → p ∈ l') → J l'
section
variable {prog : Program} {w : World} {A : Around} {E : Value → Shared → Prop} {s : Shared} {h₀ : Heap} {L : Addr} {m : Str → Option Value} {env : Env}
open LCg
theorem TurnEnd.end {s₁ s' : Shared} {I C D : Addr} {oI oC oD : Obj} {l : Led} {J : Led → Prop} {S : Led → Prop} {rest : Value → Led → Prop} {y : Value} (h : TurnEnd h₀ L m s₁ I oI C oC D oD l J s') (off : Off3 I C D l) (hS : S l) (hSe : ∀ l', Sub l l' → S l → S l') (k : ∀ l', Sub l l' → J l' → rest y l') :
    CompEnd h₀ L m s₁ I oI C oC D oD S rest y s' := by
  obtain ⟨h', tk', all, rfl, F', N', e, hJ⟩ := h
  have o3 := off.mem
  have e2 : Sub l (rest3 I C D all) := fun p hp => by
    have z := o3 p hp
    exact mem_rest3 (e p (.tail _ (.tail _ (.tail _ hp)))) z.1 z.2.1 z.2.2
  have hJ2 := hJ _ e2 fun p hp hf => mem_rest3 hp (Ne.symm (hf _ (.head _))) (Ne.symm (hf _ (.tail _ (.head _)))) (Ne.symm (hf _ (.tail _ (.tail _ (.head _)))))
  refine CompEnd.intro F' N' (rest3 I C D all) (fun p hp => ?_) (Off3.of fun p hp => (of_rest3 hp).2) (hSe _ e2 hS) (k _ e2 hJ2)
  rcases List.mem_cons.mp hp with rfl | hp
  · exact e _ (.head _)
  rcases List.mem_cons.mp hp with rfl | hp
  · exact e _ (.tail _ (.head _))
  rcases List.mem_cons.mp hp with rfl | hp
  · exact e _ (.tail _ (.tail _ (.head _)))
  exact (of_rest3 hp).1

/-- a turn of a comprehension without a test, by what holds of the ledger between the turns -/
def TurnU (prog : Program) (w : World) (A : Around) (h₀ : Heap) (L : Addr) (m : Str → Option Value) (env : Env) (elt : Expr) (x : Str) (scope : Scope) (cl : List (Str × Addr)) (s₁ : Shared) (S : Led → Prop) (P : Nat → Value → Prop) (J : Nat → List Value → Led → Prop) : Prop :=
  ∀ i v ys l I oI C oC D m₂ h tk (E' : Value → Shared → Prop), P i v → J i ys l → S l → NsObj oC m₂ → m₂ x = some v → Fr h₀ L h m → News h₀ L h ((I, oI) :: (C, oC) :: (D, lst ys) :: l) →
    wpAny (model prog w) A (eval elt (compEnvC scope cl C env)) (fun y s' => TurnEnd h₀ L m { s₁ with heap := h, toks := tk } I oI C oC D (lst ys) l (J (i + 1) (ys ++ [y])) s') E' { s₁ with heap := h, toks := tk }
theorem turns_U {elt : Expr} {x : Str} {scope : Scope} {cl : List (Str × Addr)} {S : Led → Prop} {P : Nat → Value → Prop} {J : Nat → List Value → Led → Prop} {Fin : List Value → Led → Prop} {n : Nat}
    (turn : TurnU prog w A h₀ L m env elt x scope cl s S P J) (hSe : ∀ l l', Sub l l' → S l → S l') (fin : ∀ ys l, J n ys l → Fin ys l) :
    ∀ (k i : Nat) (ys : List Value) (l : Led), i + k = n → S l → J i ys l → CompRest prog w A h₀ L m env elt x scope cl s S P Fin k i ys l
  | 0, i, ys, l, e, _, hJ => fin ys l (by rw [← e]; exact hJ)
  | k + 1, i, ys, l, e, hS, hJ => .succ fun v I oI C oC D m₂ h tk E' hP hC hx F N off _ => by
    refine wpAny_mono (turn i v ys l I oI C oC D m₂ h tk E' hP hJ hS hC hx F N) (fun y s' hT => ?_) fun _ _ e => e
    exact hT.end off hS (fun l' he hS => hSe l l' he hS) fun l' he hJ' => turns_U turn hSe fin k (i + 1) (ys ++ [y]) l' (by omega) (hSe l l' he hS) hJ'

theorem off1_mem {D : Addr} : ∀ {l : Led}, Off1 D l → ∀ p ∈ l, p.1 ≠ D
  | [], _, _, h => nomatch h
  | _ :: _, o, q, hq => by
    rcases List.mem_cons.mp hq with rfl | hq
    · exact o.1
    · exact off1_mem o.2 q hq
/-- a list of the ledger's, walked by a comprehension -/
def SrcH (A : Around) (h₀ : Heap) (L : Addr) (m : Str → Option Value) (ax : Addr) (its : Array Value) (k : Nat) (l : Led) (s₁ : Shared) : Prop :=
  Fr h₀ L s₁.heap m ∧ News h₀ L s₁.heap l ∧ (ax, W.listOf its k) ∈ l ∧ HIn A.handled l ∧ its.size ≤ sizeLine
theorem listComp_H {elt iter : Expr} {x : Str} {px : Pos} {scope : Scope} {cl : List (Str × Addr)} {pos : Pos} {Q : Value → Shared → Prop} (_F₀ : Fr h₀ L s.heap m)
    (hclos : closureFor scope env = pure cl) (hcell : ∀ y ∈ scope.names, y.2 ≠ .cell) (hkind : scope.kind = .function)
    (hnames : ∀ y ∈ scope.names, y.2 = .local → scope.names.lookup y.1 = some .local) (hx : scope.names.lookup x = some .local)
    (h : wpAny (model prog w) A (eval iter env) (fun xv s₁ => Halt (Ex5 fun ax its k l (J : Nat → List Value → Led → Prop) => C5 (xv = .ref ax) (SrcH A h₀ L m ax its k l s₁) (J 0 [] l) ((∀ g, TurnU prog w A h₀ L m env elt x scope cl { s₁ with heap := g } (fun l => (ax, W.listOf its k) ∈ l ∧ HIn A.handled l) (fun i v => its[i]? = some v) J)) (∀ D h tk ys l', J its.size ys l' → Fr h₀ L h m → News h₀ L h ((D, lst ys) :: l') → (∀ p ∈ l', p.1 ≠ D) → Q (.ref D) { s₁ with heap := h, toks := tk }))) E s)
    (hs : ∀ x, foldedSetIterable iter env x = pure x := by intro _; rfl) :
    wpAny (model prog w) A (eval (.ListComp elt [⟨.Name x px, iter, [], 0⟩] scope pos) env) Q E s := by
  rw [eval_ListComp]
  refine wpAny_comprehension_free (use := none) rfl hs hclos hkind hnames (wpAny_mono h (fun xv s₁ h₁ => ?_) fun _ _ e => e)
  obtain ⟨ax, its, k, l, J, rfl, ⟨F, N, hm, H, hsz⟩, hJ, turn, done⟩ := h₁
  have hl := ledList N hm
  have hlt : ax < s₁.heap.objs.size := by obtain ⟨_, e, _⟩ := hl; exact Heap.lt_size e
  refine wpAny_pyIter_list hl ?_
  have up : ∀ b o, s₁.heap.get? b = some o → (s₁.heap.push { cls := .type "list_iterator", data := .fields #[.ref ax, .int 0 0] }).get? b = some o := fun b o e => Heap.get?_push_of_some _ e
  have HA := H.at N
  refine block_U (S := fun l => (ax, W.listOf its k) ∈ l ∧ HIn A.handled l) (walk_list s₁.heap.objs.size ax (Nat.ne_of_lt hlt) (HA.off (Nat.le_refl _)) its (hFp A.handled) hFp_mem) hsz (fun i h st => by obtain ⟨o, e, _⟩ := st.1; exact ⟨o, e⟩)
    (fun i h h' o nw st e e' kk N S => ⟨by obtain ⟨o', q, r⟩ := st.1; rw [e] at q; cases q; exact ⟨o, e', r⟩, ledList N S.1, S.2.at N⟩) hcell hkind hx ⟨⟨_, Heap.get?_push_size _ rfl, rfl, rfl⟩, hl.push _, HA.keeps up⟩ (fun b hb => ?_)
    (F.keeps up) (N.grown up) (Nat.ne_of_lt F.ns.lt) (next_is_new F) (fun p hp => Nat.ne_of_lt (Heap.lt_size (N p hp).1)) ⟨hm, H⟩ (turns_U (turn _) (fun l l' e S => ⟨e _ S.1, S.2.sub e⟩) (Fin := fun ys l' => J its.size ys l') (fun ys l' hJ => hJ) its.size 0 [] l (by omega) ⟨hm, H⟩ hJ) ?_
  · show b < (s₁.heap.push _).objs.size
    rw [Heap.size_push]
    rcases List.mem_cons.mp hb with rfl | hb
    · exact Nat.lt_succ_self _
    rcases List.mem_cons.mp hb with rfl | hb
    · exact Nat.lt_succ_of_lt hlt
    exact Nat.lt_succ_of_lt (HA.lt b hb)
  · intro D C h tk m' ys news' F' N' o1 hn hC₀ hD₀ hCL hDL hCD offC fin
    have o1' := off1_mem o1
    refine ⟨m', hn, fun h'' hs'' => done D h'' tk ys news' fin (F'.change hs'' hCL hC₀) (fun p hp => ?_) o1'⟩
    refine ⟨hs''.extBut _ _ ?_ (N' p hp).1, (N' p hp).2⟩
    rcases List.mem_cons.mp hp with rfl | hp
    · exact Ne.symm hCD
    · exact offC p hp
end
/-- data made anew, one behind the other -/
def NewDats (l l' : Led) (vs : List Value) (ds : List Dat) : Prop := Sub l l' ∧ ∃ tl, Sub tl l' ∧ New l tl ∧ DatAll tl vs ds
theorem NewDats.nil {l : Led} : NewDats l l [] [] := ⟨Sub.rfl', [], (fun _ h => (nomatch h)), .nil, .nil⟩
theorem NewDats.snoc {l l1 l2 : Led} {vs : List Value} {ds : List Dat} {r : Value} {d : Dat} (a : NewDats l l1 vs ds) (n : NewDat l1 l2 r d) : NewDats l l2 (vs ++ [r]) (ds ++ [d]) := by
  obtain ⟨e, tl, a1, a2, a3⟩ := a
  obtain ⟨e', tl', b1, b2, b3⟩ := n
  refine ⟨e.trans e', tl ++ tl', fun p hp => ?_, a2.append (b2.pre e), DatAll.append (DatAll.mono (fun p hp => List.mem_append_left _ hp) a3) (.one (DatIn.mono (fun p hp => List.mem_append_right _ hp) b3))⟩
  rcases List.mem_append.mp hp with hp | hp
  · exact e' p (a1 p hp)
  · exact b1 p hp
theorem NewDats.ext {l l1 l2 : Led} {vs : List Value} {ds : List Dat} (a : NewDats l l1 vs ds) (e : Sub l1 l2) : NewDats l l2 vs ds := by
  obtain ⟨e', tl, a1, a2, a3⟩ := a
  exact ⟨e'.trans e, tl, a1.trans e, a2, a3⟩
theorem NewDats.pre {l l1 l2 : Led} {vs : List Value} {ds : List Dat} (e : Sub l l1) (a : NewDats l1 l2 vs ds) : NewDats l l2 vs ds := by
  obtain ⟨e', tl, a1, a2, a3⟩ := a
  exact ⟨e.trans e', tl, a1, a2.pre e, a3⟩
theorem NewDats.one {l l' : Led} {ys : List Value} {d : Dat} (h : NewDats l l' ys [d]) : ∃ y, ys = [y] ∧ NewDat l l' y d := by
  obtain ⟨e, tl, a1, a2, a3⟩ := h
  cases a3 with
  | @cons y ys' d ds hd r =>
  cases r
  exact ⟨y, rfl, e, tl, a1, a2, hd⟩
theorem NewDats.front {l l' : Led} {ys : List Value} {ds : List Dat} {v : Value} {d : Dat} (h : NewDats l l' ys ds) (hv : DatIn [] v d) : NewDats l l' (v :: ys) (d :: ds) := by
  obtain ⟨e, tl, a1, a2, a3⟩ := h
  exact ⟨e, tl, a1, a2, .cons (DatIn.mono (news := []) (fun _ h => (nomatch h)) hv) a3⟩
theorem NewDats.length {l l' : Led} {ys : List Value} {ds : List Dat} (h : NewDats l l' ys ds) : ys.length = ds.length := by
  obtain ⟨e, tl, a1, a2, a3⟩ := h
  exact a3.length
theorem NewDats.of {l l' : Led} {v : Value} {d : Dat} (h : NewDat l l' v d) : NewDats l l' [v] [d] := by
  obtain ⟨e, tl, a1, a2, a3⟩ := h
  exact ⟨e, tl, a1, a2, .one a3⟩
theorem off_sub {l l' : Led} {a : Addr} (e : Sub l l') (h : ∀ p ∈ l', p.1 ≠ a) : ∀ p ∈ l, p.1 ≠ a := fun p hp => h p (e p hp)
theorem off_cons {l : Led} {p : Addr × Obj} {a : Addr} (h : ∀ q ∈ p :: l, q.1 ≠ a) : ∀ q ∈ l, q.1 ≠ a := fun q hq => h q (.tail _ hq)
theorem NewDats.tup {l l1 l' : Led} {a : Addr} {vs : List Value} {n : Nat} {ds : List Dat} (d : NewDats l l1 vs ds) (h : Sub l1 l') (hm : (a, ({ cls := .type "tuple", data := .seq vs.toArray n } : Obj)) ∈ l') (ha : ∀ q ∈ l, q.1 ≠ a) : NewDat l l' (.ref a) (.tuple ds) := by
  obtain ⟨e, tl, a1, a2, a3⟩ := d
  exact .tup (e.trans h) hm ha (a1.trans h) a2 a3
theorem turn_dat {h₀ h' : Heap} {L : Addr} {m : Str → Option Value} {s₁ : Shared} {I C D : Addr} {oI oC oD : Obj} {l all : Led} {J : Led → Prop} {r : Value} {d : Dat} {tk' : Nat} (F' : Fr h₀ L h' m) (N' : News h₀ L h' all) (n : NewDat ((I, oI) :: (C, oC) :: (D, oD) :: l) all r d)
    (k : ∀ l', NewDat l l' r d → J l') : TurnEnd h₀ L m s₁ I oI C oC D oD l J { s₁ with heap := h', toks := tk' } := by
  obtain ⟨e, tl, a, b, c⟩ := n
  exact ⟨h', tk', all, rfl, F', N', e, fun l' he hf => k l' ⟨he, tl, fun p hp => hf p (a p hp) (b p hp), fun p hp q hq => b p hp q (.tail _ (.tail _ (.tail _ hq))), c⟩⟩
theorem one_item {a v : Value} {i : Nat} (h : (#[a] : Array Value)[i]? = some v) : i = 0 ∧ v = a := by
  match i with
  | 0 => exact ⟨rfl, (Option.some.inj h).symm⟩
  | i + 1 => simp at h

abbrev tupOf (vs : List Value) (n : Nat) : Obj := { cls := .type "tuple", data := .seq vs.toArray n }
section
variable {prog : Program} {w : World} {A : Around} {E : Value → Shared → Prop} {s : Shared} {h₀ : Heap} {L D : Addr} {m : Str → Option Value} {news : Led}
theorem ledTup {h : Heap} {vs : List Value} {n : Nat} (N : News h₀ L h news) (hm : (D, tupOf vs n) ∈ news) : IsTup h D vs.toArray := ⟨_, (N _ hm).1, rfl, n, rfl⟩
theorem tupleOf {vs : List Value} {n : Nat} {Q : Value → Shared → Prop} (F : Fr h₀ L s.heap m) (N : News h₀ L s.heap news) (hm : (D, W.listOf vs.toArray n) ∈ news) (hz : vs.length ≤ 16384)
    (h : ∀ D' h', Fr h₀ L h' m → News h₀ L h' ((D', tupOf vs 0) :: news) → (∀ p ∈ news, p.1 < D') → Q (.ref D') { s with heap := h' }) : wpAny (model prog w) A (call (.type "tuple") [.ref D]) Q E s :=
  kde_tupleOf F N (ledList N hm) (by rw [List.size_toArray]; exact hz) rfl fun D' h' F' N' l1 => h D' h' F' N' l1
theorem addTups {a b : Addr} {vs ws : List Value} {n k : Nat} {Q : Value → Shared → Prop} (F : Fr h₀ L s.heap m) (N : News h₀ L s.heap news) (ha : (a, tupOf vs n) ∈ news) (hb : (b, tupOf ws k) ∈ news) (hv : vs ≠ []) (hw : ws ≠ []) (hz : vs.length + ws.length ≤ 16384)
    (h : ∀ D' h', Fr h₀ L h' m → News h₀ L h' ((D', tupOf (vs ++ ws) 0) :: news) → (∀ p ∈ news, p.1 < D') → Q (.ref D') { s with heap := h' }) : wpAny (model prog w) A (binaryOp .Add (.ref a) (.ref b)) Q E s :=
  kde_addT F N (ledTup N ha) (ledTup N hb) (by simpa using hv) (by simpa using hw) (by simpa using hz) rfl fun D' h' F' N' l1 => h D' h' F' (by simpa using N') l1
end

section
variable {prog : Program} {w : World} {A : Around} {E : Value → Shared → Prop} {s : Shared} {h₀ : Heap} {L : Addr} {m : Str → Option Value} {env : Env}
open LCg LCt
/-- a turn of a comprehension with a test -/
def TurnT (prog : Program) (w : World) (A : Around) (h₀ : Heap) (L : Addr) (m : Str → Option Value) (env : Env) (ct elt : Expr) (x : Str) (scope : Scope) (cl : List (Str × Addr)) (s₁ : Shared) (S : Led → Prop) (P : Nat → Value → Prop) (J : Nat → List Value → Led → Prop) : Prop :=
  ∀ i v ys l I oI C oC D m₂ h tk (E' : Value → Shared → Prop), P i v → J i ys l → S l → NsObj oC m₂ → m₂ x = some v → Fr h₀ L h m → News h₀ L h ((I, oI) :: (C, oC) :: (D, lst ys) :: l) →
    wpAny (model prog w) A (isTrue ct (compEnvC scope cl C env) (eval ct (compEnvC scope cl C env))) (fun ok s' => if ok = true then
        wpAny (model prog w) A (eval elt (compEnvC scope cl C env)) (fun y s' => TurnEnd h₀ L m { s₁ with heap := h, toks := tk } I oI C oC D (lst ys) l (J (i + 1) (ys ++ [y])) s') E' s'
        else TurnEnd h₀ L m { s₁ with heap := h, toks := tk } I oI C oC D (lst ys) l (J (i + 1) ys) s') E' { s₁ with heap := h, toks := tk }
theorem turns_T {ct elt : Expr} {x : Str} {scope : Scope} {cl : List (Str × Addr)} {S : Led → Prop} {P : Nat → Value → Prop} {J : Nat → List Value → Led → Prop} {Fin : List Value → Led → Prop} {n : Nat}
    (turn : TurnT prog w A h₀ L m env ct elt x scope cl s S P J) (hSe : ∀ l l', Sub l l' → S l → S l') (fin : ∀ ys l, J n ys l → Fin ys l) :
    ∀ (k i : Nat) (ys : List Value) (l : Led), i + k = n → S l → J i ys l → CompRestT prog w A h₀ L m env ct elt x scope cl s S P Fin k i ys l
  | 0, i, ys, l, e, _, hJ => fin ys l (by rw [← e]; exact hJ)
  | k + 1, i, ys, l, e, hS, hJ => .succ fun v I oI C oC D m₂ h tk E' hP hC hx F N off _ => by
    refine wpAny_mono (turn i v ys l I oI C oC D m₂ h tk E' hP hJ hS hC hx F N) (fun ok s' hT => ?_) fun _ _ e => e
    by_cases ho : ok = true
    · rw [if_pos ho] at hT ⊢
      refine wpAny_mono hT (fun y s'' hT' => ?_) fun _ _ e => e
      exact hT'.end off hS (fun l' he hS => hSe l l' he hS) fun l' he hJ' => turns_T turn hSe fin k (i + 1) (ys ++ [y]) l' (by omega) (hSe l l' he hS) hJ'
    · rw [if_neg ho] at hT ⊢
      exact hT.end off hS (fun l' he hS => hSe l l' he hS) fun l' he hJ' => turns_T turn hSe fin k (i + 1) ys l' (by omega) (hSe l l' he hS) hJ'
theorem listComp_HT {ct elt iter : Expr} {x : Str} {px : Pos} {scope : Scope} {cl : List (Str × Addr)} {pos : Pos} {Q : Value → Shared → Prop} (_F₀ : Fr h₀ L s.heap m)
    (hclos : closureFor scope env = pure cl) (hcell : ∀ y ∈ scope.names, y.2 ≠ .cell) (hkind : scope.kind = .function)
    (hnames : ∀ y ∈ scope.names, y.2 = .local → scope.names.lookup y.1 = some .local) (hx : scope.names.lookup x = some .local)
    (h : wpAny (model prog w) A (eval iter env) (fun xv s₁ => Halt (Ex5 fun ax its k l (J : Nat → List Value → Led → Prop) => C5 (xv = .ref ax) (SrcH A h₀ L m ax its k l s₁) (J 0 [] l) ((∀ g, TurnT prog w A h₀ L m env ct elt x scope cl { s₁ with heap := g } (fun l => (ax, W.listOf its k) ∈ l ∧ HIn A.handled l) (fun i v => its[i]? = some v) J)) (∀ D h tk ys l', J its.size ys l' → Fr h₀ L h m → News h₀ L h ((D, lst ys) :: l') → (∀ p ∈ l', p.1 ≠ D) → Q (.ref D) { s₁ with heap := h, toks := tk }))) E s)
    (hs : ∀ x, foldedSetIterable iter env x = pure x := by intro _; rfl) :
    wpAny (model prog w) A (eval (.ListComp elt [⟨.Name x px, iter, [ct], 0⟩] scope pos) env) Q E s := by
  rw [eval_ListComp]
  refine wpAny_comprehension_free (use := none) rfl hs hclos hkind hnames (wpAny_mono h (fun xv s₁ h₁ => ?_) fun _ _ e => e)
  obtain ⟨ax, its, k, l, J, rfl, ⟨F, N, hm, H, hsz⟩, hJ, turn, done⟩ := h₁
  have hl := ledList N hm
  have hlt : ax < s₁.heap.objs.size := by obtain ⟨_, e, _⟩ := hl; exact Heap.lt_size e
  refine wpAny_pyIter_list hl ?_
  have up : ∀ b o, s₁.heap.get? b = some o → (s₁.heap.push { cls := .type "list_iterator", data := .fields #[.ref ax, .int 0 0] }).get? b = some o := fun b o e => Heap.get?_push_of_some _ e
  have HA := H.at N
  refine block_T (S := fun l => (ax, W.listOf its k) ∈ l ∧ HIn A.handled l) (walk_list s₁.heap.objs.size ax (Nat.ne_of_lt hlt) (HA.off (Nat.le_refl _)) its (hFp A.handled) hFp_mem) hsz (fun i h st => by obtain ⟨o, e, _⟩ := st.1; exact ⟨o, e⟩)
    (fun i h h' o nw st e e' kk N S => ⟨by obtain ⟨o', q, r⟩ := st.1; rw [e] at q; cases q; exact ⟨o, e', r⟩, ledList N S.1, S.2.at N⟩) hcell hkind hx ⟨⟨_, Heap.get?_push_size _ rfl, rfl, rfl⟩, hl.push _, HA.keeps up⟩ (fun b hb => ?_)
    (F.keeps up) (N.grown up) (Nat.ne_of_lt F.ns.lt) (next_is_new F) (fun p hp => Nat.ne_of_lt (Heap.lt_size (N p hp).1)) ⟨hm, H⟩ (turns_T (turn _) (fun l l' e S => ⟨e _ S.1, S.2.sub e⟩) (Fin := fun ys l' => J its.size ys l') (fun ys l' hJ => hJ) its.size 0 [] l (by omega) ⟨hm, H⟩ hJ) ?_
  · show b < (s₁.heap.push _).objs.size
    rw [Heap.size_push]
    rcases List.mem_cons.mp hb with rfl | hb
    · exact Nat.lt_succ_self _
    rcases List.mem_cons.mp hb with rfl | hb
    · exact Nat.lt_succ_of_lt hlt
    exact Nat.lt_succ_of_lt (HA.lt b hb)
  · intro D C h tk m' ys news' F' N' o1 hn hC₀ hD₀ hCL hDL hCD offC fin
    refine ⟨m', hn, fun h'' hs'' => done D h'' tk ys news' fin (F'.change hs'' hCL hC₀) (fun p hp => ?_) (off1_mem o1)⟩
    refine ⟨hs''.extBut _ _ ?_ (N' p hp).1, (N' p hp).2⟩
    rcases List.mem_cons.mp hp with rfl | hp
    · exact Ne.symm hCD
    · exact offC p hp
end
theorem valueAt_one {K : Type} [DecidableEq K] {k : K} {v : Value} : valueAt [(k, v)] k = some v := by simp [valueAt]
end
local macro_rules | `(tactic| walk_at "mine one") => `(tactic| first | with_reducible assumption | exact valueAt_one (K := Str))
local macro_rules | `(tactic| walk_at "call type:tuple") => `(tactic| (k_search (call (Value.type "tuple") [Value.ref _]); tbr_iter (tupleOf, "101 201 302 417 0/400")))
local macro_rules | `(tactic| walk_at "binaryOp Add ref ref") => `(tactic| (tbr_iter (addTups, "101 201 302 402 514 614 717 0/400")))
local macro_rules | `(tactic| walk_at "subscriptTail Name Name ref str") => `(tactic| (tbr_iter (kda_item (knd := PySem.strKind _ _), [101, 302, 203, (strKind_is _ _ _ _), 419, 0, 510, 611], 0)))
theorem offTList : True := by
  w_top off
  exact trivial
section
section
variable {prog pt : Program} {w : World} {A₀ : Around} {base h₀ : Heap} {outer : List Env} {env : Env} {L : Addr} {m : Str → Option Value} {news : List (Addr × Obj)} {mean : ExcName → Option Value} {mg mb : Str → Option Value} {loose : List Str} {s : Shared} {Q E : Value → Shared → Prop} {dp un : Nat} {gd : Option (List Code)} {hdl : Option Value}
set_option maxHeartbeats 8000000 in
theorem toldL_spec (B : Below A₀ base outer h₀) (F : Fr h₀ L s.heap m) (X : (hd.heap_1 w.params).In h₀) (N : News h₀ L s.heap news) (T : Top pt loose mean mg mb h₀)
    (hf : env.frame = some L) (hk : env.scope.kind = .function) (hd : dp + 60 < recursionLimit) (hu : un + 600 < cLine) (H : HIn hdl news)
    {l : Addr} {x : Int} {t : Tok} {k : Nat} (hv : (l, W.listOf #[.int x t] k) ∈ news)
    (ret : ∀ r h' tk' news', Fr h₀ L h' m → News h₀ L h' news' → NewDat news news' r (.tuple [.str (Str.ofString "array"), .tuple [.str (Str.ofString "int"), .int x]]) → Q r { s with heap := h', toks := tk' }) :
    wpAny (model prog w) (site hdl dp un gd env outer) (call (.ref 305) [.ref l]) Q E s := by
  (refine wpAny_call ?_; k_dflt (refine' code_defC (binds := [(Str.ofString "value", .ref l)]) ?k1 ?k2 ?k3 ?k4 ?k5 ?kA ?kF ?kK ?k6 ?k7 ?k8 ?k9 ?kB ?kN ?_ ?c2 ?c3 ?c4; (case kA => exact rfl); (case kF => assumption); (case kK => assumption); (case k1 => k_asm); (case k2 => k_asm); (case k3 => k_asm); (case k4 => k_asm); (case k5 => k_asm); (case k6 => k_is); (case k7 => k_is); (case k8 => (show dp < _; omega)); (case k9 => exact BindsTo.of_eq rfl); (case kB => exact rfl); (case kN => decide +kernel); (case c2 => exact rfl); (case c3 => exact rfl); (case c4 => exact rfl); k_whole; intro g' L' h' tk' cells' FG' F' N' Y' B' X' T' l'; (try k_lt l'); k_cells Y'; (try simp only [List.cons_append, List.nil_append] at N'); (try dsimp only); (try k_fold)))
  k_steps
  rename Fr g' L' _ _ => F1
  rename News g' L' _ _ => N1
  refine' listComp_H F1 ?hclos ?hcell ?hkind ?hnames ?hx ?h ?hs
  case hclos => with_unfolding_all rfl
  case hcell => decide
  case hkind => with_unfolding_all rfl
  case hnames => decide
  case hx => with_unfolding_all rfl
  case hs => intro _; with_unfolding_all rfl
  k_steps
  refine ⟨l, #[.int x t], k, _, fun i ys l' => NewDats _ l' ys ((#[Dat.tuple [.str (Str.ofString "int"), .int x]] : Array Dat).toList.take i), rfl, ⟨F1, N1, ?hm, ?H, ?sz⟩, NewDats.nil, fun g => ?turn, ?done⟩
  case hm => k_mem
  case sz => exact fits64 (show 1 < 64 by decide)
  case H => exact H.sub (by ktr_unf)
  case turn => 
    intro i v ys l1 I oI C oC D m₂ h tk E' hP hJ hS hC hx F2 N2
    obtain ⟨rfl, rfl⟩ := one_item hP
    k_steps
    exact turn_dat (by k_asm) (by k_asm) (by assumption) fun l' n => hJ.snoc n
  case done =>
    intro D h tk ys l' hJ F2 N2 l2
    have e := hJ.1
    obtain ⟨y, rfl, hy⟩ := hJ.one
    k_steps
    rename _ ∧ _ ∧ AllLt _ _ => q1
    exact ret _ _ _ _ (by k_asm) (by k_asm) (.pre (l1 := (_ :: _ :: news)) (by ktr_unf) (((NewDats.of hy).front (.str _ _)).tup (by ktr_unf) (.head _) (off_sub e (off_of_all q1.2.2))))
end
end
theorem offTDict : True := by
  w_top off
  exact trivial
section
section
variable {prog pt : Program} {w : World} {A₀ : Around} {base h₀ : Heap} {outer : List Env} {env : Env} {L : Addr} {m : Str → Option Value} {news : List (Addr × Obj)} {mean : ExcName → Option Value} {mg mb : Str → Option Value} {loose : List Str} {s : Shared} {Q E : Value → Shared → Prop} {dp un : Nat} {gd : Option (List Code)} {hdl : Option Value}
set_option maxHeartbeats 8000000 in
theorem toldD_spec (B : Below A₀ base outer h₀) (F : Fr h₀ L s.heap m) (X : (hd.heap_1 w.params).In h₀) (N : News h₀ L s.heap news) (T : Top pt loose mean mg mb h₀)
    (hf : env.frame = some L) (hk : env.scope.kind = .function) (hd : dp + 60 < recursionLimit) (hu : un + 600 < cLine) (H : HIn hdl news)
    {d x : Addr} {od : Obj} {k kk : Str} {dd : Dat} (hm : (d, od) ∈ news) (ho : od.IsDictOf (PySem.strKind prog w) [(k, .ref x)]) (lo : (d == sysModules) = false) (hv : Plain news (.ref x) kk dd)
    (ret : ∀ r h' tk' news', Fr h₀ L h' m → News h₀ L h' news' → NewDat news news' r (.tuple [.str (Str.ofString "dict"), .tuple [.str k, dd]]) → Q r { s with heap := h', toks := tk' }) :
    wpAny (model prog w) (site hdl dp un gd env outer) (call (.ref 305) [.ref d]) Q E s := by
  (refine wpAny_call ?_; k_dflt (refine' code_defC (binds := [(Str.ofString "value", .ref d)]) ?k1 ?k2 ?k3 ?k4 ?k5 ?kA ?kF ?kK ?k6 ?k7 ?k8 ?k9 ?kB ?kN ?_ ?c2 ?c3 ?c4; (case kA => exact rfl); (case kF => assumption); (case kK => assumption); (case k1 => k_asm); (case k2 => k_asm); (case k3 => k_asm); (case k4 => k_asm); (case k5 => k_asm); (case k6 => k_is); (case k7 => k_is); (case k8 => (show dp < _; omega)); (case k9 => exact BindsTo.of_eq rfl); (case kB => exact rfl); (case kN => decide +kernel); (case c2 => exact rfl); (case c3 => exact rfl); (case c4 => exact rfl); k_whole; intro g' L' h' tk' cells' FG' F' N' Y' B' X' T' l'; (try k_lt l'); k_cells Y'; (try simp only [List.cons_append, List.nil_append] at N'); (try dsimp only); (try k_fold)))
  k_steps
  rename Fr g' L' _ _ => F1
  rename News g' L' _ _ => N1
  refine' listComp_HT F1 ?hclos ?hcell ?hkind ?hnames ?hx ?h ?hs
  case hclos => with_unfolding_all rfl
  case hcell => decide
  case hkind => with_unfolding_all rfl
  case hnames => decide
  case hx => with_unfolding_all rfl
  case hs => intro _; with_unfolding_all rfl
  k_steps
  rename_i D1 h2 tk2 e1 t1 F2 N2 q2
  refine ⟨D1, #[.str k t1], e1, _, fun i ys l' => NewDats _ l' ys ([Dat.tuple [.str k, dd]].take i), rfl, ⟨F2, N2, ?hm, ?H, ?sz⟩, NewDats.nil, fun g => ?turn, ?done⟩
  case hm => k_mem
  case sz => exact fits64 (show 1 < 64 by decide)
  case H => exact H.sub (by ktr_unf)
  case turn =>
    intro i v ys l1 I oI C oC D m₂ h tk E' hP hJ hS hC hx F3 N3
    obtain ⟨rfl, rfl⟩ := one_item hP
    have e := hJ.1
    k_steps
    refine turn_dat (by k_asm) (by k_asm) ?_ fun l' n => hJ.snoc n
    rename NewDat ((I, oI) :: _) _ _ _ => n0
    rename ∀ p : Addr × Obj, p ∈ _ → p.1 < _ => q0
    exact ((NewDats.of n0).front (.str _ _)).tup .one (.head _) (off_sub n0.1 (off_of_lt q0))
  case done =>
    intro D h tk ys l' hJ F2 N2 l2
    have e := hJ.1
    obtain ⟨y, rfl, hy⟩ := hJ.one
    k_steps
    rename _ ∧ _ ∧ AllLt _ _ => q1
    exact ret _ _ _ _ (by k_asm) (by k_asm) (.pre (l1 := (_ :: _ :: _ :: news)) (by ktr_unf) (((NewDats.of hy).front (.str _ _)).tup (by ktr_unf) (.head _) (off_sub e (off_of_all q1.2.2))))
end
end
local macro_rules | `(tactic| walk_at "call ref") => `(tactic| (k_search (call (Value.ref 305) [_]); ktf_call toldD_spec))
theorem offVal : True := by
  w_top off
  exact trivial
section
/-- what a shelf's place holds -/
inductive Val where
  | nul
  | lst (x : Int)
  | cat
structure Ent where
  gen : Int
  val : Val
noncomputable def catDat : Dat := .tuple [.str (Str.ofString "dict"), .tuple [.str (Str.ofString "Type"), .tuple [.str (Str.ofString "name"), .str (Str.ofString "Catalog")]]]
noncomputable def lstDat (x : Int) : Dat := .tuple [.str (Str.ofString "array"), .tuple [.str (Str.ofString "int"), .int x]]
noncomputable def trDat : Dat := .tuple [.str (Str.ofString "dict"), .tuple [.str (Str.ofString "Root"), .tuple [.str (Str.ofString "ref"), .int 1, .int 0]]]
noncomputable def Val.dat : Val → Dat
  | .nul => .tuple [.str (Str.ofString "null")]
  | .lst x => lstDat x
  | .cat => catDat
inductive ValIn (prog : Program) (w : World) (news : Led) : Value → Val → Prop where
  | nul : ValIn prog w news .none .nul
  | lst {l : Addr} {x : Int} {t : Tok} {k : Nat} : (l, W.listOf #[.int x t] k) ∈ news → ValIn prog w news (.ref l) (.lst x)
  | cat {d nm : Addr} {od : Obj} : (d, od) ∈ news → od.IsDictOf (PySem.strKind prog w) [(Str.ofString "Type", .ref nm)] → (d == sysModules) = false → Plain news (.ref nm) (Str.ofString "name") (.tuple [.str (Str.ofString "name"), .str (Str.ofString "Catalog")]) → ValIn prog w news (.ref d) .cat
theorem ValIn.sub {prog : Program} {w : World} {l l' : Led} {v : Value} {a : Val} (h : ValIn prog w l v a) (e : Sub l l') : ValIn prog w l' v a := by
  cases h with
  | nul => exact .nul
  | lst hm => exact .lst (e _ hm)
  | cat hm ho lo hp => exact .cat (e _ hm) ho lo (hp.sub e)
section
variable {prog pt : Program} {w : World} {A₀ : Around} {base h₀ : Heap} {outer : List Env} {env : Env} {L : Addr} {m : Str → Option Value} {news : List (Addr × Obj)} {mean : ExcName → Option Value} {mg mb : Str → Option Value} {loose : List Str} {s : Shared} {Q E : Value → Shared → Prop} {dp un : Nat} {gd : Option (List Code)} {hdl : Option Value}
theorem toldV_spec (B : Below A₀ base outer h₀) (F : Fr h₀ L s.heap m) (X : (hd.heap_1 w.params).In h₀) (N : News h₀ L s.heap news) (T : Top pt loose mean mg mb h₀)
    (hf : env.frame = some L) (hk : env.scope.kind = .function) (hd : dp + 60 < recursionLimit) (hu : un + 600 < cLine) (H : HIn hdl news)
    {v : Value} {a : Val} (hv : ValIn prog w news v a)
    (ret : ∀ r h' tk' news', Fr h₀ L h' m → News h₀ L h' news' → NewDat news news' r a.dat → Q r { s with heap := h', toks := tk' }) :
    wpAny (model prog w) (site hdl dp un gd env outer) (call (.ref 305) [v]) Q E s := by
  cases hv with
  | nul => exact told1_spec B F X N T hf hk (by omega) (by omega) .none ret
  | lst hm => exact toldL_spec B F X N T hf hk hd hu H hm ret
  | cat hm ho lo hp => exact toldD_spec B F X N T hf hk hd hu H hm ho lo hp ret
end
end
local macro_rules | `(tactic| walk_at "mine C") => `(tactic| ((with_reducible show ValIn _ _ _ _ _); ktr_rel))
local macro_rules | `(tactic| ktr_rel) => `(tactic| first | with_reducible assumption | tbr_iter (ValIn.sub, "103 205"))
local macro_rules | `(tactic| walk_at "call ref") => `(tactic| (k_search (call (Value.ref 305) [_]); ktf_call toldV_spec))
theorem offShelf : True := by
  w_top off
  exact trivial
section
/-- a table, as pairs in its order -/
abbrev Tab := List (Int × Ent)
noncomputable def look (T : Tab) (n : Int) : Option Ent := (T.find? fun p => p.1 = n).map (·.2)
def EntIn (prog : Program) (w : World) (news : Led) (v : Value) (e : Ent) : Prop := ∃ tup t x k, v = .ref tup ∧ (tup, tupOf [.int e.gen t, x] k) ∈ news ∧ ValIn prog w news x e.val
inductive EntsIn (prog : Program) (w : World) (news : Led) : List (Int × Value) → Tab → Prop where
  | nil : EntsIn prog w news [] []
  | cons {n : Int} {v : Value} {e : Ent} {kvs : List (Int × Value)} {T : Tab} : EntIn prog w news v e → EntsIn prog w news kvs T → EntsIn prog w news ((n, v) :: kvs) ((n, e) :: T)
section
variable {prog : Program} {w : World} {news : Led}
theorem EntIn.sub {l l' : Led} {v : Value} {e : Ent} (h : EntIn prog w l v e) (k : Sub l l') : EntIn prog w l' v e := by
  obtain ⟨tup, t, x, n, h1, h2, h3⟩ := h
  exact ⟨tup, t, x, n, h1, k _ h2, h3.sub k⟩
theorem EntsIn.sub {l l' : Led} (k : Sub l l') : ∀ {kvs : List (Int × Value)} {T : Tab}, EntsIn prog w l kvs T → EntsIn prog w l' kvs T
  | _, _, .nil => .nil
  | _, _, .cons a b => .cons (a.sub k) (EntsIn.sub k b)
theorem EntsIn.keys : ∀ {kvs : List (Int × Value)} {T : Tab}, EntsIn prog w news kvs T → kvs.map (·.1) = T.map (·.1)
  | _, _, .nil => rfl
  | _, _, .cons _ b => by rw [List.map_cons, List.map_cons, EntsIn.keys b]
theorem EntsIn.length : ∀ {kvs : List (Int × Value)} {T : Tab}, EntsIn prog w news kvs T → kvs.length = T.length
  | _, _, .nil => rfl
  | _, _, .cons _ b => by rw [List.length_cons, List.length_cons, EntsIn.length b]
theorem EntsIn.none (n : Int) : ∀ {kvs : List (Int × Value)} {T : Tab}, EntsIn prog w news kvs T → (valueAt kvs n).isSome = (look T n).isSome
  | _, _, .nil => rfl
  | _, _, .cons (n := k) _ b => by
    have ih := EntsIn.none n b
    unfold valueAt look at ih ⊢
    by_cases e : k = n
    · simp [e]
    · simpa [e] using ih
theorem EntsIn.at {n : Int} {e : Ent} : ∀ {kvs : List (Int × Value)} {T : Tab}, EntsIn prog w news kvs T → look T n = some e → ∃ v, valueAt kvs n = some v ∧ EntIn prog w news v e
  | _, _, .nil, h => by simp [look] at h
  | _, _, .cons (n := k) (v := v) (e := e') a b, h => by
    by_cases q : k = n
    · subst q
      have : e' = e := by simpa [look] using h
      subst this
      exact ⟨v, by simp [valueAt], a⟩
    · obtain ⟨v', h1, h2⟩ := EntsIn.at (n := n) (e := e) b (by simpa [look, q] using h)
      exact ⟨v', by simpa [valueAt, q] using h1, h2⟩
theorem look_mem {T : Tab} {n : Int} (h : n ∈ T.map (·.1)) : ∃ e, look T n = some e := by
  obtain ⟨p, hp, rfl⟩ := List.mem_map.mp h
  cases q : look T p.1 with
  | some e => exact ⟨e, rfl⟩
  | none =>
    unfold look at q
    have := List.find?_eq_none.mp (Option.map_eq_none_iff.mp q) p hp
    simp at this
end
/-- a shelf: its object, its table, its trailer -/
structure ShelfIn (prog : Program) (w : World) (news : Led) (sh tb tr : Addr) : Prop where
  inst : ∃ ds h1 t1 h2 t2 n, (sh, instObj 396 ds) ∈ news ∧ (ds, W.dictOf [⟨h1, .str (Str.ofString "table") t1, .ref tb⟩, ⟨h2, .str (Str.ofString "trailer") t2, .ref tr⟩] n) ∈ news
  trail : ∃ otr rf, (tr, otr) ∈ news ∧ otr.IsDictOf (PySem.strKind prog w) [(Str.ofString "Root", .ref rf)] ∧ (tr == sysModules) = false ∧ Plain news (.ref rf) (Str.ofString "ref") (.tuple [.str (Str.ofString "ref"), .int 1, .int 0])
theorem ShelfIn.opn1 {prog : Program} {w : World} {news : Led} {sh tb tr : Addr} {G : Prop} (h : ShelfIn prog w news sh tb tr) (k : ∀ ds h1 t1 h2 t2 n, (sh, instObj 396 ds) ∈ news → (ds, W.dictOf [⟨h1, .str (Str.ofString "table") t1, .ref tb⟩, ⟨h2, .str (Str.ofString "trailer") t2, .ref tr⟩] n) ∈ news → G) : G := by
  obtain ⟨⟨ds, h1, t1, h2, t2, n, a, b⟩, _⟩ := h
  exact k ds h1 t1 h2 t2 n a b
theorem ShelfIn.opn {prog : Program} {w : World} {news : Led} {sh tb tr : Addr} {G : Prop} (h : ShelfIn prog w news sh tb tr) (k : ∀ ds h1 t1 h2 t2 n, (sh, instObj 396 ds) ∈ news → (ds, W.dictOf [⟨h1, .str (Str.ofString "table") t1, .ref tb⟩, ⟨h2, .str (Str.ofString "trailer") t2, .ref tr⟩] n) ∈ news →
    ∀ otr rf, (tr, otr) ∈ news → otr.IsDictOf (PySem.strKind prog w) [(Str.ofString "Root", .ref rf)] → (tr == sysModules) = false → Plain news (.ref rf) (Str.ofString "ref") (.tuple [.str (Str.ofString "ref"), .int 1, .int 0]) → G) : G := by
  obtain ⟨⟨ds, h1, t1, h2, t2, n, a, b⟩, otr, rf, c, d, lo, f⟩ := h
  exact k ds h1 t1 h2 t2 n a b otr rf c d lo f
theorem ShelfIn.sub {prog : Program} {w : World} {l l' : Led} {sh tb tr : Addr} (h : ShelfIn prog w l sh tb tr) (e : Sub l l') : ShelfIn prog w l' sh tb tr := by
  obtain ⟨⟨ds, h1, t1, h2, t2, n, a, b⟩, otr, rf, c, d, lo, f⟩ := h
  exact ⟨⟨ds, h1, t1, h2, t2, n, e _ a, e _ b⟩, otr, rf, e _ c, d, lo, f.sub e⟩
/-- a table's dict -/
structure TabIn (prog : Program) (w : World) (news : Led) (tb : Addr) (T : Tab) : Prop where
  tab : ∃ o kvs, (tb, o) ∈ news ∧ o.IsDictOf (intKind prog w) kvs ∧ EntsIn prog w news kvs T
  low : (tb == sysModules) = false
theorem TabIn.sub {prog : Program} {w : World} {l l' : Led} {tb : Addr} {T : Tab} (h : TabIn prog w l tb T) (e : Sub l l') : TabIn prog w l' tb T := by
  obtain ⟨⟨o, kvs, a, b, c⟩, lo⟩ := h
  exact ⟨⟨o, kvs, e _ a, b, c.sub e⟩, lo⟩
/-- the rows that a table tells, in the order of the given numbers -/
noncomputable def rowOf (T : Tab) (n : Int) : Dat := match look T n with
  | some e => .tuple [.int n, .int e.gen, e.val.dat]
  | none => .none
noncomputable def toldDat (T : Tab) (ns : List Int) : Dat := .tuple [.tuple (ns.map (rowOf T)), trDat]
section
variable {prog : Program} {w : World} {news : Led}
theorem row_open {kvs : List (Int × Value)} {Ta : Tab} {vs : List Value} {ns : List Int} {i : Nat} {v : Value} (hes : EntsIn prog w news kvs Ta) (hi : IntsAre vs ns) (hp : ns.Perm (kvs.map (·.1))) (hP : vs.toArray[i]? = some v) :
    ∃ n t tup tg e x k, v = .int n t ∧ ns[i]? = some n ∧ look Ta n = some e ∧ valueAt kvs n = some (.ref tup) ∧ (tup, tupOf [.int e.gen tg, x] k) ∈ news ∧ ValIn prog w news x e.val := by
  have hP' : vs[i]? = some v := by simpa using hP
  have hlt : i < ns.length := by rw [← hi.length]; exact (List.getElem?_eq_some_iff.mp hP').1
  obtain ⟨t, hx⟩ := hi.get i ns[i] (by simp [hlt])
  rw [hx] at hP'
  cases hP'
  have hn : ns[i] ∈ Ta.map (·.1) := by
    rw [← hes.keys]
    exact hp.mem_iff.mp (List.getElem_mem hlt)
  obtain ⟨e, he⟩ := look_mem hn
  obtain ⟨v', hv', tup, tg, x, k, rfl, hm, hval⟩ := hes.at he
  exact ⟨ns[i], t, tup, tg, e, x, k, rfl, by simp [hlt], he, hv', hm, hval⟩
end
end
local macro_rules | `(tactic| walk_at "mine C") => `(tactic| ((with_reducible show ShelfIn _ _ _ _ _ _); ktr_rel))
local macro_rules | `(tactic| walk_at "mine C") => `(tactic| ((with_reducible show TabIn _ _ _ _ _); ktr_rel))
local macro_rules | `(tactic| walk_at "mine A") => `(tactic| first | ((with_reducible show look _ _ = _); with_reducible assumption) | ((with_reducible show ∀ _, _ → _ → look _ _ ≠ none); with_reducible assumption))
local macro_rules | `(tactic| walk_at "subscriptTail Name Name ref int") => `(tactic| (tbr_iter (kda_item (knd := intKind _ _), [101, 302, 203, (intKind_is _ _ _ _), 403, 0, 510, 611], 0)))
local macro_rules | `(tactic| walk_at "subscriptTail Name Constant ref int") => `(tactic| (k_here; k_dflt (refine' item_tupleT (ledTup ?N ?m) ?lo ?hi ?j ?x ?_ ?s; (case N => k_asm); (case m => k_mem); (case lo => decide); (case hi => decide); (case j => exact rfl); (case x => exact rfl); (case s => with_unfolding_all rfl); k_whole)))
theorem offSTold : True := by
  w_top off
  exact trivial
section
theorem rows_tup {l l' n' : Led} {a b D : Addr} {oD : Obj} {ys : List Value} {ds : List Dat} {r : Value} {d : Dat} {n k : Nat} (hJ : NewDats l l' ys ds) (ha : ∀ p ∈ l', p.1 ≠ a) (n1 : NewDat ((a, tupOf ys n) :: (D, oD) :: l') n' r d) (hb : ∀ p ∈ n', p.1 ≠ b) :
    NewDat l ((b, tupOf [.ref a, r] k) :: n') (.ref b) (.tuple [.tuple ds, d]) := by
  have nr : NewDat l ((a, tupOf ys n) :: (D, oD) :: l') (.ref a) (.tuple ds) := hJ.tup Sub.rfl'.cons.cons (.head _) (off_sub hJ.1 ha)
  have ns := (NewDats.of nr).snoc n1
  exact ns.tup .one (.head _) (off_sub ns.1 hb)
theorem take_row {Ta : Tab} {ns : List Int} {i : Nat} {n : Int} {e : Ent} (h : ns[i]? = some n) (hl : look Ta n = some e) : (ns.map (rowOf Ta)).take (i + 1) = (ns.map (rowOf Ta)).take i ++ [.tuple [.int n, .int e.gen, e.val.dat]] := by
  rw [List.take_succ, List.getElem?_map, h]
  simp [rowOf, hl]
section
variable {prog pt : Program} {w : World} {A₀ : Around} {base h₀ : Heap} {outer : List Env} {env : Env} {L : Addr} {m : Str → Option Value} {news : List (Addr × Obj)} {mean : ExcName → Option Value} {mg mb : Str → Option Value} {loose : List Str} {s : Shared} {Q E : Value → Shared → Prop} {dp un : Nat} {gd : Option (List Code)} {hdl : Option Value}
set_option maxHeartbeats 8000000 in
theorem shelfTold_spec (B : Below A₀ base outer h₀) (F : Fr h₀ L s.heap m) (X : (hd.heap_1 w.params).In h₀) (N : News h₀ L s.heap news) (T : Top pt loose mean mg mb h₀)
    (hf : env.frame = some L) (hk : env.scope.kind = .function) (hd : dp + 80 < recursionLimit) (hu : un + 800 < cLine) (H : HIn hdl news)
    {sh tb tr : Addr} {Ta : Tab} (hs : ShelfIn prog w news sh tb tr) (ht : TabIn prog w news tb Ta) (h64 : Ta.length < 64)
    (ret : ∀ r h' tk' news' ns, ns.Perm (Ta.map (·.1)) → ns.Pairwise (· ≤ ·) → Fr h₀ L h' m → News h₀ L h' news' → NewDat news news' r (toldDat Ta ns) → Q r { s with heap := h', toks := tk' }) :
    wpAny (model prog w) (site hdl dp un gd env outer) (call (.ref 393) [.ref sh]) Q E s := by
  with_reducible refine ShelfIn.opn hs fun ds h1 t1 h2 t2 n hi1 hi2 otr rf htr hot lotr hrf => ?_
  obtain ⟨⟨otb, kvs, htb, hotb, hes⟩, lotb⟩ := id ht
  have hlen : kvs.length < 64 := by rw [hes.length]; exact h64
  (refine wpAny_call ?_; k_dflt (refine' code_defC (binds := [(Str.ofString "self", .ref sh)]) ?k1 ?k2 ?k3 ?k4 ?k5 ?kA ?kF ?kK ?k6 ?k7 ?k8 ?k9 ?kB ?kN ?_ ?c2 ?c3 ?c4; (case kA => exact rfl); (case kF => assumption); (case kK => assumption); (case k1 => k_asm); (case k2 => k_asm); (case k3 => k_asm); (case k4 => k_asm); (case k5 => k_asm); (case k6 => k_is); (case k7 => k_is); (case k8 => (show dp < _; omega)); (case k9 => exact BindsTo.of_eq rfl); (case kB => exact rfl); (case kN => decide +kernel); (case c2 => exact rfl); (case c3 => exact rfl); (case c4 => exact rfl); k_whole; intro g' L' h' tk' cells' FG' F' N' Y' B' X' T' l'; (try k_lt l'); k_cells Y'; (try simp only [List.cons_append, List.nil_append] at N'); (try dsimp only); (try k_fold)))
  k_steps
  rename Fr g' L' _ _ => F1
  rename News g' L' _ _ => N1
  refine' listComp_H F1 ?hclos ?hcell ?hkind ?hnames ?hx ?h ?hs
  case hclos => with_unfolding_all rfl
  case hcell => decide
  case hkind => with_unfolding_all rfl
  case hnames => decide
  case hx => with_unfolding_all rfl
  case hs => intro _; with_unfolding_all rfl
  k_steps
  rename_i D1 h2 tk2 e1 vs ns hi hp hsr F2 N2 q2 F3 N3 Tc kX
  refine ⟨D1, vs.toArray, e1, _, fun i ys l' => NewDats _ l' ys ((ns.map (rowOf Ta)).take i), rfl, ⟨F3, N3, ?hm, ?H, ?sz⟩, NewDats.nil, fun g => ?turn, ?done⟩
  case hm => k_mem
  case sz => rw [List.size_toArray, hi.length, hp.length_eq, List.length_map]; exact fits64 hlen
  case H => exact H.sub (by ktr_unf)
  case turn =>
    intro i v ys l1 I oI C oC D m₂ h tk E' hP hJ hS hC hx F4 N4
    have e := hJ.1
    obtain ⟨n, t, tup, tg, en, x, kk, rfl, hni, hlk, hva, htup, hval⟩ := row_open hes hi hp hP
    k_steps
    refine turn_dat (d := .tuple [.int n, .int en.gen, en.val.dat]) (by k_asm) (by k_asm) ?_ fun l' nn => by rw [take_row hni hlk]; exact hJ.snoc nn
    · rename NewDat ((I, oI) :: _) _ _ _ => n0
      rename ∀ p : Addr × Obj, p ∈ _ → p.1 < _ => q0
      exact (((NewDats.of n0).front (.int _ _)).front (.int _ _)).tup .one (.head _) (off_sub n0.1 (off_of_lt q0))
  case done =>
    intro D h tk ys l' hJ F4 N4 l2
    have e := hJ.1
    have hy : ys.length < 64 := by
      have := hJ.length
      have e1 := hi.length
      have e2 := hp.length_eq
      simp only [List.length_take, List.length_map, List.size_toArray] at this e2
      omega
    k_steps
    rename NewDat _ _ _ _ => n1
    rename _ ∧ AllLt _ _ => q1
    rename ∀ p : Addr × Obj, p ∈ _ → p.1 < _ => q0
    have hJ1 := hJ
    rw [List.take_of_length_le (by simp only [List.length_map, List.size_toArray, hi.length]; omega)] at hJ1
    exact ret _ _ _ _ ns (by rw [← hes.keys]; exact hp) hsr (by k_asm) (by k_asm) (.pre (by ktr_unf) (rows_tup hJ1 (off_of_all q1.2) n1 (off_of_lt q0)))
end
end
local macro_rules | `(tactic| walk_at "call ref") => `(tactic| (k_search (call (Value.ref 393) [_]); ktf_call shelfTold_spec))
theorem offDPair : True := by
  w_top off
  exact trivial
section
theorem entry_update_loop : entryFor table "dict.update.loop" = some PySem.Builtin.«dict.update.loop» := entryFor_of_fast (by kernel_rfl)
theorem plain_update_loop : plainId "dict.update.loop" = true := by decide +kernel
theorem miss_keys : typeLookup (.type "list") (Str.ofString "keys") = pure none := am_miss_of_fast (by kernel_rfl)
section
variable {prog : Program} {w : World} {A : Around} {E : Value → Shared → Prop} {s : Shared}
theorem list_no_keys {a : Addr} {xs : Array Value} {k : Nat} {Q : Option Value → Shared → Prop} (hx : s.heap.get? a = some (W.listOf xs k)) (hA : A.handled = none)
    (h : ∀ h' tk, (∀ b o, s.heap.get? b = some o → h'.get? b = some o) → Q none { s with heap := h', toks := tk }) :
    wpAny (model prog w) A (getAttr? (.ref a) (Str.ofString "keys")) Q E s := by
  obtain ⟨hp, g, d, tk, os⟩ := s
  have hT : ∀ tk', (⟨hp, g, d, tk', os⟩ : Shared).TypeIs (.ref a) "list" := fun _ => ⟨_, hx, rfl⟩
  have f1 := sub_AttributeError
  have f3 := PySem.F.slot_list_getattribute.lookup
  have f4 := PySem.F.slot_list_getattribute.bind (.ref a)
  have f5 := am_list_getattr_none
  unfold getAttr? getAttrBy? getAttrBy
  repeat (any_goals (first | assumption | exact hT _ | ((with_reducible show wpAny _ _ (call (Value.builtin "list.__getattribute__") _ _) _ _ _); refine call_meets PySem.F.slot_list_getattribute (hT _) am_entry_list_getattribute (PySem.F.args_list_getattribute_2 _ _) (meets_getattribute_miss_list a xs k #[] _ _ miss_keys (by decide +kernel)) ⟨hx, hA, fun h' tk' e hx' => ?_⟩) | wp_step))
  obtain ⟨t', u', he⟩ := hx'.there
  show wpAny _ _ (getattributeRaised _ _ _ _ _ _ _) _ _ _
  unfold getattributeRaised
  repeat (any_goals (first | assumption | wp_step))
  all_goals exact h _ _ hx'.keeps
end
section
variable {prog : Program} {w : World} {A : Around} {E : Value → Shared → Prop} {s : Shared}
theorem update_loop1 {d I src tp : Addr} {n : Nat} {key : Str} {t : Tok} {v : Value} {R : Result → Shared → Prop} (hA : A.handled = none)
    (hI : s.heap.IsListIter I src 0) (hl : s.heap.IsList src #[.ref tp]) (ht : s.heap.get? tp = some (tupOf [.str key t, v] n)) (hd : s.heap.DictOf (PySem.strKind prog w) d [])
    (n1 : d ≠ I) (n2 : src ≠ d) (n4 : src ≠ I) (n5 : tp ≠ I) (n6 : tp ≠ d)
    (h : ∀ h' tk, (∀ b o, b ≠ d → b ≠ I → s.heap.get? b = some o → h'.get? b = some o) → h'.DictOf (PySem.strKind prog w) d [(key, v)] → R (.ok (.ret .none)) { s with heap := h', toks := tk }) :
    codeAny (model prog w) A (.builtin "dict.update.loop" ⟨[.ref d, .ref I, rawInt 0, .none], []⟩) R s := by
  refine codeAny_builtin entry_update_loop ?_
  rw [Around.under_plainId plain_update_loop _]
  show wpAny _ A.in1 (pyNext (.ref I) >>= _) _ _ s
  refine wpAny_bind (wpAny_pyNext_list_item hI hl rfl fun h1 hI1 hs1 => ?_)
  have ht1 := hs1.extBut _ _ n5 ht
  have hd1 := hd.sameBut hs1 n1
  have hl1 := hl.extBut hs1.extBut n4
  refine wpAny_bind (wpAny_holding (wpAny_bind (wpAny_tryCatch ?_)))
  unfold Builtin.Dict.pairItems
  refine wpAny_bind (wpAny_typeOf_ref ht1 ?_)
  rw [if_pos (by rfl)]
  refine wpAny_bind (wpAny_seqItems ht1 rfl (wpAny_pure ?_))
  show wpAny _ _ (holding [.str key t, v] (dictSet d (.str key t) v)) _ _ _
  refine wpAny_holding (wpAny_dictSet_pairs (knd := PySem.strKind prog w) (k := key) (strKind_is _ _ _ _) hd1 (fun h2 hd2 hs2 => ?_) (by size_fits))
  refine wpAny_pure ⟨plainId_quiet plain_update_loop _, ?_⟩
  refine codeAny_builtin entry_update_loop ?_
  rw [Around.under_plainId plain_update_loop _]
  show wpAny _ A.in1 (pyNext (.ref I) >>= _) _ _ _
  refine wpAny_bind (wpAny_pyNext_list_end hA (hI1.extBut hs2.extBut (Ne.symm n1)) (hl1.extBut hs2.extBut n2) (by rfl) fun h3 hs3 => ?_)
  show wpAny _ _ (Builtin.Dict.addKeywords d [] >>= _) _ _ _
  exact wpAny_bind (wpAny_pure (wpAny_pure (h h3 _ (fun b o hb hb' e => hs3 b o hb' (hs2.extBut b o hb (hs1.extBut b o hb' e))) (hd2.extBut hs3 n1))))
theorem dict_pair {src tp : Addr} {k n : Nat} {key : Str} {t : Tok} {v : Value} {Q : Value → Shared → Prop} (hA : A.handled = none)
    (hl : s.heap.get? src = some (W.listOf #[.ref tp] k)) (ht : s.heap.get? tp = some (tupOf [.str key t, v] n))
    (h : ∀ h' tk, (∀ b o, s.heap.get? b = some o → h'.get? b = some o) → h'.DictOf (PySem.strKind prog w) s.heap.objs.size [(key, v)] → Q (.ref s.heap.objs.size) { s with heap := h', toks := tk }) :
    wpAny (model prog w) A (call (.type "dict") [.ref src]) Q E s := by
  refine callType_codes (Q₁ := fun obj s₁ => obj = .ref s.heap.objs.size ∧ s₁ = { s with heap := s.heap.push { cls := .type "dict", data := .dict #[] } }) PySem.F.kt_called_dict (PySem.F.kt_typeCall_dict_1 _) PySem.F.entry_dict_init (kt_code_dict_new _ ⟨rfl, rfl⟩) ?_
  rintro obj s₁ ⟨rfl, rfl⟩
  have hnew : (s.heap.push { cls := .type "dict", data := .dict #[] }).DictOf (PySem.strKind prog w) s.heap.objs.size [] := Heap.DictOf.new s.heap
  have hl1 := Heap.get?_push_of_some { cls := .type "dict", data := .dict #[] } hl
  have ht1 := Heap.get?_push_of_some { cls := .type "dict", data := .dict #[] } ht
  have ns : src ≠ s.heap.objs.size := Nat.ne_of_lt (Heap.lt_size hl)
  have nt : tp ≠ s.heap.objs.size := Nat.ne_of_lt (Heap.lt_size ht)
  refine ⟨hnew.typeIs, PySem.F.args_dict_init_2 _ _, ?_⟩
  unfold Builtin.«dict.__init__»
  refine wpAny_bind ?_
  unfold Builtin.Dict.selfAndRest
  refine wpAny_bind (wpAny_notOrdered_dict hnew.typeIs ?_)
  show wpAny _ _ (pure (s.heap.objs.size, [Value.ref src])) _ _ _
  refine wpAny_pure ?_
  show wpAny _ _ (Builtin.Dict.updateFrom "dict.__init__" s.heap.objs.size (.ref src) [] .none) _ _ _
  unfold Builtin.Dict.updateFrom
  refine wpAny_bind (wpAny_typeOf_ref hl1 ?_)
  rw [if_pos (by rfl)]
  refine wpAny_bind (list_no_keys hl1 hA fun h2 tk2 kp => ?_)
  rw [if_pos (by rfl)]
  refine wpAny_bind (wpAny_rule ?_)
  have hl2 : ({ s with heap := h2, toks := tk2 } : Shared).heap.IsList src #[.ref tp] := ⟨_, kp _ _ hl1, rfl, _, rfl⟩
  have ht2 := kp _ _ ht1
  have hd2 := hnew.keep kp
  have hd2s : s.heap.objs.size < h2.objs.size := by obtain ⟨_, _, _, e, _⟩ := hd2; exact Heap.lt_size e
  have hl2s : src < h2.objs.size := Heap.lt_size (kp _ _ hl1)
  have ht2s : tp < h2.objs.size := Heap.lt_size ht2
  refine wpAny_bind (wpAny_pyIter_list hl2 (wpAny_pure ⟨plainId_quiet plain_update_loop _, update_loop1 hA ⟨_, Heap.get?_push_size _ rfl, rfl, rfl⟩ (hl2.push _) (Heap.get?_push_of_some _ ht2) (hd2.push _) (Nat.ne_of_lt hd2s) ns (Nat.ne_of_lt hl2s) (Nat.ne_of_lt ht2s) nt fun h3 tk3 kp3 hd3 => ?_⟩))
  exact ⟨rfl, h h3 tk3 (fun b o e => kp3 b o (Nat.ne_of_lt (Heap.lt_size e)) (Nat.ne_of_lt (Heap.lt_size (kp b o (Heap.get?_push_of_some _ e)))) (Heap.get?_push_of_some _ (kp b o (Heap.get?_push_of_some _ e)))) hd3⟩
end
section
variable {prog : Program} {w : World} {A : Around} {E : Value → Shared → Prop} {s : Shared} {h₀ : Heap} {L : Addr} {m : Str → Option Value} {news : Led}
theorem dictPair {src tp : Addr} {k n : Nat} {key : Str} {t : Tok} {v : Value} {Q : Value → Shared → Prop} (hA : A.handled = none) (F : Fr h₀ L s.heap m) (N : News h₀ L s.heap news) (big : h₀.NoLimit)
    (hl : (src, W.listOf #[.ref tp] k) ∈ news) (ht : (tp, tupOf [.str key t, v] n) ∈ news)
    (h : ∀ D' h' tk' o', Fr h₀ L h' m → News h₀ L h' ((D', o') :: news) → o'.IsDictOf (PySem.strKind prog w) [(key, v)] → (D' == sysModules) = false → (∀ p ∈ news, p.1 < D') → Q (.ref D') { s with heap := h', toks := tk' }) :
    wpAny (model prog w) A (call (.type "dict") [.ref src]) Q E s := by
  refine dict_pair hA (N _ hl).1 (N _ ht).1 fun h' tk' kp hd => ?_
  obtain ⟨o', ho', hd'⟩ := Heap.dictOf_iff.mp hd
  exact h _ h' tk' o' (F.keeps kp) (news_new F N kp ho' (Nat.le_refl _)) hd' (F.notModules (modules_low big)) fun p hp => Heap.lt_size (N p hp).1
end
/-- a dict of the ledger's, its keys walked by a comprehension -/
def SrcD (prog : Program) (w : World) {K : Type} [DecidableEq K] (knd : PySem.KeyKind prog w K) (A : Around) (h₀ : Heap) (L : Addr) (m : Str → Option Value) (ax : Addr) (o : Obj) (kvs : List (K × Value)) (l : Led) (s₁ : Shared) : Prop :=
  Fr h₀ L s₁.heap m ∧ News h₀ L s₁.heap l ∧ (ax, o) ∈ l ∧ o.IsDictOf knd kvs ∧ (ax == sysModules) = false ∧ HIn A.handled l ∧ kvs.length ≤ sizeLine
section
variable {prog : Program} {w : World} {K : Type} [DecidableEq K] {knd : PySem.KeyKind prog w K} {A : Around} {E : Value → Shared → Prop} {s : Shared} {h₀ : Heap} {L : Addr} {m : Str → Option Value} {env : Env}
open LCg
theorem listComp_D {elt iter : Expr} {x : Str} {px : Pos} {scope : Scope} {cl : List (Str × Addr)} {pos : Pos} {Q : Value → Shared → Prop} (_F₀ : Fr h₀ L s.heap m)
    (hclos : closureFor scope env = pure cl) (hcell : ∀ y ∈ scope.names, y.2 ≠ .cell) (hkind : scope.kind = .function)
    (hnames : ∀ y ∈ scope.names, y.2 = .local → scope.names.lookup y.1 = some .local) (hx : scope.names.lookup x = some .local)
    (h : wpAny (model prog w) A (eval iter env) (fun xv s₁ => Halt (∃ ax od kvs l, ∃ J : Nat → List Value → Led → Prop, xv = .ref ax ∧ SrcD prog w knd A h₀ L m ax od kvs l s₁ ∧ J 0 [] l ∧
      (∀ g, TurnU prog w A h₀ L m env elt x scope cl { s₁ with heap := g } (fun l => (ax, od) ∈ l ∧ HIn A.handled l) (fun i v => ∃ k x, kvs[i]? = some (k, x) ∧ knd.is k v = true) J) ∧
      ∀ D h tk ys l', J kvs.length ys l' → Fr h₀ L h m → News h₀ L h ((D, lst ys) :: l') → (∀ p ∈ l', p.1 ≠ D) → Q (.ref D) { s₁ with heap := h, toks := tk })) E s)
    (hs : ∀ x, foldedSetIterable iter env x = pure x := by intro _; rfl) :
    wpAny (model prog w) A (eval (.ListComp elt [⟨.Name x px, iter, [], 0⟩] scope pos) env) Q E s := by
  rw [eval_ListComp]
  refine wpAny_comprehension_free (use := none) rfl hs hclos hkind hnames (wpAny_mono h (fun xv s₁ h₁ => ?_) fun _ _ e => e)
  obtain ⟨ax, od, kvs, l, J, rfl, ⟨F, N, hm, ho, lo, H, hsz⟩, hJ, turn, done⟩ := h₁
  obtain ⟨es, ep, r⟩ := ho
  have hl : s₁.heap.DictAt knd ax kvs ep := ⟨od, es, (N _ hm).1, r⟩
  have hlt : ax < s₁.heap.objs.size := hl.lt_size
  refine wpAny_pyIter_dict lo hl ?_
  have up : ∀ b o, s₁.heap.get? b = some o → (s₁.heap.push { cls := .type "dict_keyiterator", data := .fields #[.ref ax, .int 0 0, .int kvs.length 0, .int ep 0] }).get? b = some o := fun b o e => Heap.get?_push_of_some _ e
  have HA := H.at N
  refine block_U (S := fun l => (ax, od) ∈ l ∧ HIn A.handled l) (walk_keys (knd := knd) s₁.heap.objs.size ax (Nat.ne_of_lt hlt) (HA.off (Nat.le_refl _)) kvs ep (hFp A.handled) hFp_mem) hsz (fun i h st => by obtain ⟨o, e, _⟩ := st.1; exact ⟨o, e⟩)
    (fun i h h' o nw st e e' kk N S => ⟨by obtain ⟨o', q, r⟩ := st.1; rw [e] at q; cases q; exact ⟨o, e', r⟩, ⟨od, es, (N _ S.1).1, r⟩, S.2.at N⟩) hcell hkind hx ⟨⟨_, Heap.get?_push_size _ rfl, rfl, rfl⟩, hl.push _, HA.keeps up⟩ (fun b hb => ?_)
    (F.keeps up) (N.grown up) (Nat.ne_of_lt F.ns.lt) (next_is_new F) (fun p hp => Nat.ne_of_lt (Heap.lt_size (N p hp).1)) ⟨hm, H⟩ (turns_U (turn _) (fun l l' e S => ⟨e _ S.1, S.2.sub e⟩) (Fin := fun ys l' => J kvs.length ys l') (fun ys l' hJ => hJ) kvs.length 0 [] l (by omega) ⟨hm, H⟩ hJ) ?_
  · show b < (s₁.heap.push _).objs.size
    rw [Heap.size_push]
    rcases List.mem_cons.mp hb with rfl | hb
    · exact Nat.lt_succ_self _
    rcases List.mem_cons.mp hb with rfl | hb
    · exact Nat.lt_succ_of_lt hlt
    exact Nat.lt_succ_of_lt (HA.lt b hb)
  · intro D C h tk m' ys news' F' N' o1 hn hC₀ hD₀ hCL hDL hCD offC fin
    have o1' := off1_mem o1
    refine ⟨m', hn, fun h'' hs'' => done D h'' tk ys news' fin (F'.change hs'' hCL hC₀) (fun p hp => ?_) o1'⟩
    refine ⟨hs''.extBut _ _ ?_ (N' p hp).1, (N' p hp).2⟩
    rcases List.mem_cons.mp hp with rfl | hp
    · exact Ne.symm hCD
    · exact offC p hp
end
end
local macro_rules | `(tactic| walk_at "call type:dict") => `(tactic| (k_search (call (Value.type "dict") [Value.ref _]); tbr_iter (dictPair, "107 201 301 421 502 602 0/800")))
theorem offCop : True := by
  w_top off
  exact trivial
section
theorem turn_val {h₀ h' : Heap} {L : Addr} {m : Str → Option Value} {s₁ : Shared} {I C D : Addr} {oI oC oD : Obj} {l all : Led} {J : Led → Prop} {tk' : Nat} (F' : Fr h₀ L h' m) (N' : News h₀ L h' all) (e : Sub ((I, oI) :: (C, oC) :: (D, oD) :: l) all)
    (k : ∀ l', Sub l l' → J l') : TurnEnd h₀ L m s₁ I oI C oC D oD l J { s₁ with heap := h', toks := tk' } :=
  ⟨h', tk', all, rfl, F', N', e, fun l' he _ => k l' he⟩
/-- the same, with what the turn made -/
theorem turn_own {h₀ h' : Heap} {L : Addr} {m : Str → Option Value} {s₁ : Shared} {I C D : Addr} {oI oC oD : Obj} {l all : Led} {J : Led → Prop} {tk' : Nat} (F' : Fr h₀ L h' m) (N' : News h₀ L h' all) (e : Sub ((I, oI) :: (C, oC) :: (D, oD) :: l) all)
    (k : ∀ l', Sub l l' → (∀ p ∈ all, (∀ q ∈ (I, oI) :: (C, oC) :: (D, oD) :: l, q.1 ≠ p.1) → p ∈ l') → J l') : TurnEnd h₀ L m s₁ I oI C oC D oD l J { s₁ with heap := h', toks := tk' } :=
  ⟨h', tk', all, rfl, F', N', e, k⟩
section
variable {prog pt : Program} {w : World} {A₀ : Around} {base h₀ : Heap} {outer : List Env} {env : Env} {L : Addr} {m : Str → Option Value} {news : List (Addr × Obj)} {mean : ExcName → Option Value} {mg mb : Str → Option Value} {loose : List Str} {s : Shared} {Q E : Value → Shared → Prop} {dp un : Nat} {gd : Option (List Code)} {hdl : Option Value}
set_option maxHeartbeats 8000000 in
theorem cop1_spec (B : Below A₀ base outer h₀) (F : Fr h₀ L s.heap m) (X : (hd.heap_1 w.params).In h₀) (N : News h₀ L s.heap news) (T : Top pt loose mean mg mb h₀)
    (hf : env.frame = some L) (hk : env.scope.kind = .function) (hd : dp + 40 < recursionLimit) (hu : un + 400 < cLine)
    {v : Value} {k : Str} {d : Dat} (hv : Plain news v k d)
    (ret : ∀ h' tk' news', Fr h₀ L h' m → News h₀ L h' news' → Sub news news' → Q v { s with heap := h', toks := tk' }) :
    wpAny (model prog w) (site none dp un gd env outer) (call (.ref 310) [v]) Q E s := by
  cases hv with
  | none =>
    (refine wpAny_call ?_; k_dflt (refine' code_defC (binds := [(Str.ofString "value", .none)]) ?k1 ?k2 ?k3 ?k4 ?k5 ?kA ?kF ?kK ?k6 ?k7 ?k8 ?k9 ?kB ?kN ?_ ?c2 ?c3 ?c4; (case kA => exact rfl); (case kF => assumption); (case kK => assumption); (case k1 => k_asm); (case k2 => k_asm); (case k3 => k_asm); (case k4 => k_asm); (case k5 => k_asm); (case k6 => k_is); (case k7 => k_is); (case k8 => (show dp < _; omega)); (case k9 => exact BindsTo.of_eq rfl); (case kB => exact rfl); (case kN => decide +kernel); (case c2 => exact rfl); (case c3 => exact rfl); (case c4 => exact rfl); k_whole; intro g' L' h' tk' cells' FG' F' N' Y' B' X' T' l'; (try k_lt l'); k_cells Y'; (try simp only [List.cons_append, List.nil_append] at N'); (try dsimp only); (try k_fold)))
    k_steps
    exact ret _ _ _ (by k_asm) (by k_asm) (by ktr_unf)
  | @int i t =>
    (refine wpAny_call ?_; k_dflt (refine' code_defC (binds := [(Str.ofString "value", .int i t)]) ?k1 ?k2 ?k3 ?k4 ?k5 ?kA ?kF ?kK ?k6 ?k7 ?k8 ?k9 ?kB ?kN ?_ ?c2 ?c3 ?c4; (case kA => exact rfl); (case kF => assumption); (case kK => assumption); (case k1 => k_asm); (case k2 => k_asm); (case k3 => k_asm); (case k4 => k_asm); (case k5 => k_asm); (case k6 => k_is); (case k7 => k_is); (case k8 => (show dp < _; omega)); (case k9 => exact BindsTo.of_eq rfl); (case kB => exact rfl); (case kN => decide +kernel); (case c2 => exact rfl); (case c3 => exact rfl); (case c4 => exact rfl); k_whole; intro g' L' h' tk' cells' FG' F' N' Y' B' X' T' l'; (try k_lt l'); k_cells Y'; (try simp only [List.cons_append, List.nil_append] at N'); (try dsimp only); (try k_fold)))
    k_steps
    exact ret _ _ _ (by k_asm) (by k_asm) (by ktr_unf)
  | @name x dx hs t1 tx t2 n hm hm2 =>
    (refine wpAny_call ?_; k_dflt (refine' code_defC (binds := [(Str.ofString "value", .ref x)]) ?k1 ?k2 ?k3 ?k4 ?k5 ?kA ?kF ?kK ?k6 ?k7 ?k8 ?k9 ?kB ?kN ?_ ?c2 ?c3 ?c4; (case kA => exact rfl); (case kF => assumption); (case kK => assumption); (case k1 => k_asm); (case k2 => k_asm); (case k3 => k_asm); (case k4 => k_asm); (case k5 => k_asm); (case k6 => k_is); (case k7 => k_is); (case k8 => (show dp < _; omega)); (case k9 => exact BindsTo.of_eq rfl); (case kB => exact rfl); (case kN => decide +kernel); (case c2 => exact rfl); (case c3 => exact rfl); (case c4 => exact rfl); k_whole; intro g' L' h' tk' cells' FG' F' N' Y' B' X' T' l'; (try k_lt l'); k_cells Y'; (try simp only [List.cons_append, List.nil_append] at N'); (try dsimp only); (try k_fold)))
    k_steps
    exact ret _ _ _ (by k_asm) (by k_asm) (by ktr_unf)
  | @ref x dx h1 t1 a u1 h2 t2 b u2 n hm hm2 =>
    (refine wpAny_call ?_; k_dflt (refine' code_defC (binds := [(Str.ofString "value", .ref x)]) ?k1 ?k2 ?k3 ?k4 ?k5 ?kA ?kF ?kK ?k6 ?k7 ?k8 ?k9 ?kB ?kN ?_ ?c2 ?c3 ?c4; (case kA => exact rfl); (case kF => assumption); (case kK => assumption); (case k1 => k_asm); (case k2 => k_asm); (case k3 => k_asm); (case k4 => k_asm); (case k5 => k_asm); (case k6 => k_is); (case k7 => k_is); (case k8 => (show dp < _; omega)); (case k9 => exact BindsTo.of_eq rfl); (case kB => exact rfl); (case kN => decide +kernel); (case c2 => exact rfl); (case c3 => exact rfl); (case c4 => exact rfl); k_whole; intro g' L' h' tk' cells' FG' F' N' Y' B' X' T' l'; (try k_lt l'); k_cells Y'; (try simp only [List.cons_append, List.nil_append] at N'); (try dsimp only); (try k_fold)))
    k_steps
    exact ret _ _ _ (by k_asm) (by k_asm) (by ktr_unf)
end
end
local macro_rules | `(tactic| walk_at "call ref") => `(tactic| (k_search (call (Value.ref 310) [_]); ktf_call cop1_spec))
theorem offCopL : True := by
  w_top off
  exact trivial
section
section
variable {prog pt : Program} {w : World} {A₀ : Around} {base h₀ : Heap} {outer : List Env} {env : Env} {L : Addr} {m : Str → Option Value} {news : List (Addr × Obj)} {mean : ExcName → Option Value} {mg mb : Str → Option Value} {loose : List Str} {s : Shared} {Q E : Value → Shared → Prop} {dp un : Nat} {gd : Option (List Code)} {hdl : Option Value}
set_option maxHeartbeats 8000000 in
theorem copL_spec (B : Below A₀ base outer h₀) (F : Fr h₀ L s.heap m) (X : (hd.heap_1 w.params).In h₀) (N : News h₀ L s.heap news) (T : Top pt loose mean mg mb h₀)
    (hf : env.frame = some L) (hk : env.scope.kind = .function) (hd : dp + 60 < recursionLimit) (hu : un + 600 < cLine)
    {l : Addr} {x : Int} {t : Tok} {k : Nat} (hm : (l, W.listOf #[.int x t] k) ∈ news)
    (ret : ∀ l' h' tk' news' k', Fr h₀ L h' m → News h₀ L h' news' → Sub news news' → (l', W.listOf #[.int x t] k') ∈ news' → Q (.ref l') { s with heap := h', toks := tk' }) :
    wpAny (model prog w) (site none dp un gd env outer) (call (.ref 310) [.ref l]) Q E s := by
  (refine wpAny_call ?_; k_dflt (refine' code_defC (binds := [(Str.ofString "value", .ref l)]) ?k1 ?k2 ?k3 ?k4 ?k5 ?kA ?kF ?kK ?k6 ?k7 ?k8 ?k9 ?kB ?kN ?_ ?c2 ?c3 ?c4; (case kA => exact rfl); (case kF => assumption); (case kK => assumption); (case k1 => k_asm); (case k2 => k_asm); (case k3 => k_asm); (case k4 => k_asm); (case k5 => k_asm); (case k6 => k_is); (case k7 => k_is); (case k8 => (show dp < _; omega)); (case k9 => exact BindsTo.of_eq rfl); (case kB => exact rfl); (case kN => decide +kernel); (case c2 => exact rfl); (case c3 => exact rfl); (case c4 => exact rfl); k_whole; intro g' L' h' tk' cells' FG' F' N' Y' B' X' T' l'; (try k_lt l'); k_cells Y'; (try simp only [List.cons_append, List.nil_append] at N'); (try dsimp only); (try k_fold)))
  k_steps
  rename Fr g' L' _ _ => F1
  rename News g' L' _ _ => N1
  refine' listComp_H F1 ?hclos ?hcell ?hkind ?hnames ?hx ?h ?hs
  case hclos => with_unfolding_all rfl
  case hcell => decide
  case hkind => with_unfolding_all rfl
  case hnames => decide
  case hx => with_unfolding_all rfl
  case hs => intro _; with_unfolding_all rfl
  k_steps
  refine ⟨l, #[.int x t], k, _, fun i ys l' => Sub _ l' ∧ ys = ([Value.int x t].take i), rfl, ⟨F1, N1, ?hm, HIn.none, ?sz⟩, ⟨Sub.rfl', rfl⟩, fun g => ?turn, ?done⟩
  case hm => k_mem
  case sz => exact fits64 (show 1 < 64 by decide)
  case turn => 
    intro i v ys l1 I oI C oC D m₂ h tk E' hP hJ hS hC hx F2 N2
    obtain ⟨rfl, rfl⟩ := one_item hP
    obtain ⟨e, rfl⟩ := hJ
    k_steps
    exact turn_val (by k_asm) (by k_asm) (by assumption) fun l' n => ⟨e.trans n, rfl⟩
  case done =>
    intro D h tk ys l' hJ F2 N2 l2
    obtain ⟨e, rfl⟩ := hJ
    k_steps
    exact ret _ _ _ _ _ (by k_asm) (by k_asm) (.trans (l' := (_ :: news)) (by ktr_unf) e.cons) (.head _)
set_option maxHeartbeats 8000000 in
theorem copD_spec (B : Below A₀ base outer h₀) (F : Fr h₀ L s.heap m) (X : (hd.heap_1 w.params).In h₀) (N : News h₀ L s.heap news) (T : Top pt loose mean mg mb h₀)
    (hf : env.frame = some L) (hk : env.scope.kind = .function) (hd : dp + 60 < recursionLimit) (hu : un + 600 < cLine)
    {d x : Addr} {od : Obj} {k kk : Str} {dd : Dat} (hm : (d, od) ∈ news) (ho : od.IsDictOf (PySem.strKind prog w) [(k, .ref x)]) (lo : (d == sysModules) = false) (hv : Plain news (.ref x) kk dd)
    (ret : ∀ d' h' tk' news' o', Fr h₀ L h' m → News h₀ L h' news' → Sub news news' → (d', o') ∈ news' → o'.IsDictOf (PySem.strKind prog w) [(k, .ref x)] → (d' == sysModules) = false → Q (.ref d') { s with heap := h', toks := tk' }) :
    wpAny (model prog w) (site none dp un gd env outer) (call (.ref 310) [.ref d]) Q E s := by
  (refine wpAny_call ?_; k_dflt (refine' code_defC (binds := [(Str.ofString "value", .ref d)]) ?k1 ?k2 ?k3 ?k4 ?k5 ?kA ?kF ?kK ?k6 ?k7 ?k8 ?k9 ?kB ?kN ?_ ?c2 ?c3 ?c4; (case kA => exact rfl); (case kF => assumption); (case kK => assumption); (case k1 => k_asm); (case k2 => k_asm); (case k3 => k_asm); (case k4 => k_asm); (case k5 => k_asm); (case k6 => k_is); (case k7 => k_is); (case k8 => (show dp < _; omega)); (case k9 => exact BindsTo.of_eq rfl); (case kB => exact rfl); (case kN => decide +kernel); (case c2 => exact rfl); (case c3 => exact rfl); (case c4 => exact rfl); k_whole; intro g' L' h' tk' cells' FG' F' N' Y' B' X' T' l'; (try k_lt l'); k_cells Y'; (try simp only [List.cons_append, List.nil_append] at N'); (try dsimp only); (try k_fold)))
  k_steps
  rename Fr g' L' _ _ => F1
  rename News g' L' _ _ => N1
  refine' listComp_D (knd := PySem.strKind prog w) F1 ?hclos ?hcell ?hkind ?hnames ?hx ?h ?hs
  case hclos => with_unfolding_all rfl
  case hcell => decide
  case hkind => with_unfolding_all rfl
  case hnames => decide
  case hx => with_unfolding_all rfl
  case hs => intro _; with_unfolding_all rfl
  k_steps
  refine ⟨d, od, [(k, .ref x)], _, fun i ys l' => Sub _ l' ∧ (i = 0 → ys = []) ∧ (i = 1 → ∃ tp t n, ys = [.ref tp] ∧ (tp, tupOf [.str k t, .ref x] n) ∈ l'), rfl, ⟨F1, N1, ?hm, ho, lo, HIn.none, ?sz⟩, ⟨Sub.rfl', fun _ => rfl, fun h => by cases h⟩, fun g => ?turn, ?done⟩
  case hm => k_mem
  case sz => exact fits64 (show 1 < 64 by decide)
  case turn => 
    intro i v ys l1 I oI C oC D m₂ h tk E' hP hJ hS hC hx F2 N2
    obtain ⟨k1, x1, hP, hkey⟩ := hP
    obtain ⟨e, hj, _⟩ := hJ
    obtain ⟨tk1, rfl⟩ := Value.isStrOf_shape hkey
    have hi : i = 0 := by
      match i, hP with
      | 0, _ => rfl
      | i + 1, hP => simp at hP
    subst hi
    obtain ⟨rfl, rfl⟩ : k = k1 ∧ Value.ref x = x1 := by simpa using hP
    obtain rfl := hj rfl
    k_steps
    rename Sub ((I, oI) :: _) _ => e2
    rename ∀ p : Addr × Obj, p ∈ _ → p.1 < _ => q0
    refine turn_own (by k_asm) (by k_asm) e2.cons fun l' n1 n2 => ⟨e.trans n1, fun h => by (cases h), fun _ => ⟨_, _, _, rfl, n2 _ (.head _) (off_sub e2 (off_of_lt q0))⟩⟩
  case done =>
    intro D h tk ys l' hJ F2 N2 l2
    obtain ⟨e, _, hj⟩ := hJ
    obtain ⟨tp, t, n, rfl, htp⟩ := hj rfl
    k_steps
    exact ret _ _ _ _ _ (by k_asm) (by k_asm) (.trans (l' := (_ :: news)) (by ktr_unf) (.trans e (by ktr_unf))) (.head _) (by assumption) (by assumption)
end
section
variable {prog pt : Program} {w : World} {A₀ : Around} {base h₀ : Heap} {outer : List Env} {env : Env} {L : Addr} {m : Str → Option Value} {news : List (Addr × Obj)} {mean : ExcName → Option Value} {mg mb : Str → Option Value} {loose : List Str} {s : Shared} {Q E : Value → Shared → Prop} {dp un : Nat} {gd : Option (List Code)} {hdl : Option Value}
theorem copV_spec (B : Below A₀ base outer h₀) (F : Fr h₀ L s.heap m) (X : (hd.heap_1 w.params).In h₀) (N : News h₀ L s.heap news) (T : Top pt loose mean mg mb h₀)
    (hf : env.frame = some L) (hk : env.scope.kind = .function) (hd : dp + 60 < recursionLimit) (hu : un + 600 < cLine)
    {v : Value} {a : Val} (hv : ValIn prog w news v a)
    (ret : ∀ r h' tk' news', Fr h₀ L h' m → News h₀ L h' news' → Sub news news' → ValIn prog w news' r a → Q r { s with heap := h', toks := tk' }) :
    wpAny (model prog w) (site none dp un gd env outer) (call (.ref 310) [v]) Q E s := by
  cases hv with
  | nul => exact cop1_spec B F X N T hf hk (by omega) (by omega) .none fun h' tk' n' F' N' e => ret _ h' tk' n' F' N' e .nul
  | lst hm => exact copL_spec B F X N T hf hk hd hu hm fun l' h' tk' n' k' F' N' e hm' => ret _ h' tk' n' F' N' e (.lst hm')
  | cat hm ho lo hp => exact copD_spec B F X N T hf hk hd hu hm ho lo hp fun d' h' tk' n' o' F' N' e hm' ho' lo' => ret _ h' tk' n' F' N' e (.cat hm' ho' lo' (hp.sub e))
end
end
local macro_rules | `(tactic| walk_at "call ref") => `(tactic| (k_search (call (Value.ref 310) [_]); ktf_call copD_spec))
local macro_rules | `(tactic| walk_at "call ref") => `(tactic| (k_search (call (Value.ref 310) [_]); ktf_call copV_spec))
theorem offLoop : True := by
  w_top off
  exact trivial
section
/-- an iterator's object (or an exception's) -/
def IsFields (o : Obj) : Prop := ∃ vs, o.data = .fields vs ∧ ∀ q t, vs[1]? ≠ some (.str q t)
/-- all but such objects stands still -/
def SubF (l l' : Led) : Prop := ∀ p ∈ l, ¬ IsFields p.2 → p ∈ l'
/-- behind a turn of a loop: the iterator stands still; what else stands bears the next turn -/
def LoopEnd (h₀ : Heap) (L : Addr) (s₁ : Shared) (I : Addr) (oI : Obj) (J : (Str → Option Value) → Led → Prop) (Qr : Value → Shared → Prop) (Qb : Shared → Prop) (f : Flow) (s' : Shared) : Prop :=
  match f with
  | .ret v => Qr v s'
  | .brk => Qb s'
  | .next | .cont => ∃ h' tk' m' all, s' = { s₁ with heap := h', toks := tk' } ∧ Fr h₀ L h' m' ∧ News h₀ L h' all ∧ (I, oI) ∈ all ∧ ∀ l', (∀ p ∈ all, p.1 ≠ I → p ∈ l') → J m' l'
section
variable {prog : Program} {w : World} {A : Around} {E : Value → Shared → Prop} {s : Shared} {h₀ : Heap} {env : Env}
def TurnL (prog : Program) (w : World) (A : Around) (h₀ : Heap) (env : Env) (x : Str) (body : List Stmt) (Q : Flow → Shared → Prop) (E : Value → Shared → Prop) (s₁ : Shared) (n : Nat) (P : Nat → Value → Prop) (S : Led → Prop) (J : Nat → (Str → Option Value) → Led → Prop) : Prop :=
  ∀ i v m₁ l₁ I oI h tk, i < n → P i v → J i m₁ l₁ → S l₁ → (∀ p ∈ l₁, p.1 ≠ I) → IsFields oI → Fr h₀ env.locals h (fun y => if y = x then some v else m₁ y) → News h₀ env.locals h ((I, oI) :: l₁) →
    wpAny (model prog w) A (execs body env) (LoopEnd h₀ env.locals { s₁ with heap := h, toks := tk } I oI (fun m' l' => S l' ∧ J (i + 1) m' l') (fun v s' => Q (.ret v) s') fun s' => Q .next s') E { s₁ with heap := h, toks := tk }
theorem news_but {h : Heap} {L I : Addr} {l : Led} (N : News h₀ L h l) : News h₀ L h (but I l) := fun p hp => N p (of_but hp).1
theorem forLed {R : Result → Shared → Prop} {x : Str} {px : Pos} {body : List Stmt} {Q : Flow → Shared → Prop} {I : Addr} {fp : List Addr} {n : Nat} {P : Nat → Value → Prop} {St : Nat → Heap → Prop} {S : Led → Prop} {m : Str → Option Value} {l : Led} {J : Nat → (Str → Option Value) → Led → Prop}
    (W : Walks prog w A I fp [I] n P St) (hIo : ∀ i h, St i h → ∃ o, h.get? I = some o ∧ IsFields o) (hSt : ∀ i h h' o nw, St i h → h.get? I = some o → h'.get? I = some o → News h₀ env.locals h' nw → S nw → St i h')
    (hx : env.kindOf x = some .local) (hp : (env.scope.kind == .class || (env.scope.kind == .module && env.locals != env.globals)) = false) (hLf : env.locals ∉ fp) (hI₀ : h₀.get? I = none)
    (hst : St 0 s.heap) (F : Fr h₀ env.locals s.heap m) (N : News h₀ env.locals s.heap l) (off : ∀ p ∈ l, p.1 ≠ I) (hS : S l) (h0 : J 0 m l)
    (turn : TurnL prog w A h₀ env x body Q (notedBy (model prog w) A env fun e s' => R (.error e) s') s n P S J)
    (hret : ∀ v s', Q (.ret v) s' → R (.ok (.ret v)) s') (hnext : ∀ s', Q .next s' → R (.ok .next) s')
    (hR : ∀ h' tk m' l', Fr h₀ env.locals h' m' → News h₀ env.locals h' l' → S l' → J n m' l' → R (.ok .next) { s with heap := h', toks := tk }) :
    codeAny (model prog w) A (.forLoop (.Name x px) (.ref I) body [] env) R s := by
  have hLI : env.locals ≠ I := fun e => hLf (W.sub _ (by rw [e]; exact .head _))
  have wrI : ∀ {b : Addr}, b ≠ I → b ∉ [I] := fun hb q => hb (List.mem_singleton.mp q)
  refine codeAny_forLoop (fun k s' => ∃ h' tk m' l' i, s' = { s with heap := h', toks := tk } ∧ St i h' ∧ Fr h₀ env.locals h' m' ∧ News h₀ env.locals h' l' ∧ (∀ p ∈ l', p.1 ≠ I) ∧ S l' ∧ J i m' l' ∧ i ≤ n ∧ k = n + 1 - i) ?_ (n + 1)
    ⟨s.heap, s.toks, m, l, 0, rfl, hst, F, N, off, hS, h0, Nat.zero_le _, rfl⟩
  rintro k s' ⟨h', tk, m', l', i, rfl, hst', F', N', off', hS', hJ, hi, rfl⟩
  have next : ∀ h₁ : Heap, (∀ b o, b ∉ [I] → h'.get? b = some o → h₁.get? b = some o) → Fr h₀ env.locals h₁ m' ∧ News h₀ env.locals h₁ l' := fun h₁ hk₁ =>
    ⟨⟨F'.ns.at' fun o e => hk₁ _ o (wrI hLI) e, fun b o e => hk₁ b o (wrI fun q => by rw [q, hI₀] at e; cases e) (F'.keep b o e), F'.above⟩, fun p hp => ⟨hk₁ _ _ (wrI (off' p hp)) (N' p hp).1, (N' p hp).2⟩⟩
  by_cases hlt : i < n
  · refine W.item i _ _ _ hlt hst' fun v h₁ tk₁ hP hst₁ hk₁ => ?_
    obtain ⟨F₁, N₁⟩ := next h₁ hk₁
    refine wpAny_assign_Name (wpAny_storeName_local hx F₁.ns (fun h₂ hn₂ hs₂ => ?_) hp)
    have F₂ := F₁.set hn₂ hs₂
    have hst₂ : St (i + 1) h₂ := W.frame _ _ _ hst₁ fun b hb o e => (hs₂.2 b fun q => hLf (q ▸ hb)).trans e
    obtain ⟨oI, hoI, hoF⟩ := hIo _ _ hst₂
    have N₂ : News h₀ env.locals h₂ ((I, oI) :: l') := fun p hp => by
      rcases List.mem_cons.mp hp with rfl | hp
      · exact ⟨hoI, Ne.symm hLI, hI₀⟩
      · exact (N₁.set hs₂) p hp
    have fin : ∀ s₃, (∃ h₃ tk₃ m₃ all, s₃ = { ({ s with heap := h₂, toks := tk₁ } : Shared) with heap := h₃, toks := tk₃ } ∧ Fr h₀ env.locals h₃ m₃ ∧ News h₀ env.locals h₃ all ∧ (I, oI) ∈ all ∧ ∀ l', (∀ p ∈ all, p.1 ≠ I → p ∈ l') → S l' ∧ J (i + 1) m₃ l') →
        ∃ k', k' < n + 1 - i ∧ ∃ h' tk m' l' j, s₃ = { s with heap := h', toks := tk } ∧ St j h' ∧ Fr h₀ env.locals h' m' ∧ News h₀ env.locals h' l' ∧ (∀ p ∈ l', p.1 ≠ I) ∧ S l' ∧ J j m' l' ∧ j ≤ n ∧ k' = n + 1 - j := by
      rintro s₃ ⟨h₃, tk₃, m₃, all, rfl, F₃, N₃, hI, hJ₃⟩
      obtain ⟨a, b⟩ := hJ₃ (but I all) fun p hp hn => mem_but hp hn
      exact ⟨n + 1 - (i + 1), by omega, h₃, tk₃, m₃, but I all, i + 1, rfl, hSt _ _ _ _ _ hst₂ hoI (N₃ _ hI).1 (news_but N₃) a, F₃, news_but N₃, but_off, a, b, hlt, rfl⟩
    refine wpAny_mono (turn i v m' l' I oI h₂ _ hlt hP hJ hS' off' hoF F₂ N₂) (fun f s₃ h₃ => ?_) fun _ _ e => e
    cases f with
    | ret v => exact hret _ _ h₃
    | brk => exact hnext _ h₃
    | cont => exact fin _ h₃
    | next => exact fin _ h₃
  · have hin : i = n := by omega
    subst hin
    refine W.done _ _ _ hst' fun h₁ tk₁ hk₁ => wpAny_execs_nil ?_
    obtain ⟨F₁, N₁⟩ := next h₁ hk₁
    exact hR h₁ tk₁ m' l' F₁ N₁ hS' hJ
end
section
variable {prog : Program} {w : World} {A : Around} {E : Value → Shared → Prop} {s : Shared} {h₀ : Heap} {env : Env}
theorem for_list {x : Str} {px pos : Pos} {iter : Expr} {body : List Stmt} {Q : Flow → Shared → Prop} {m₀ : Str → Option Value} (_F₀ : Fr h₀ env.locals s.heap m₀) (hA : A.handled = none) (hx : env.kindOf x = some .local) (hp : (env.scope.kind == .class || (env.scope.kind == .module && env.locals != env.globals)) = false)
    (h : wpAny (model prog w) A (eval iter env) (fun xv s₁ => Halt (Ex6 fun ax its k l m (J : Nat → (Str → Option Value) → Led → Prop) => C5 (xv = .ref ax) ((Fr h₀ env.locals s₁.heap m ∧ News h₀ env.locals s₁.heap l ∧ (ax, W.listOf its k) ∈ l)) (J 0 m l) ((∀ g, TurnL prog w A h₀ env x body Q E { s₁ with heap := g } its.size (fun i v => its[i]? = some v) (fun l => (ax, W.listOf its k) ∈ l) J)) (∀ h' tk m' l', Fr h₀ env.locals h' m' → News h₀ env.locals h' l' → (ax, W.listOf its k) ∈ l' → J its.size m' l' → Q .next { s₁ with heap := h', toks := tk }))) E s)
    (hs : ∀ x, foldedSetIterable iter env x = pure x := by intro _; rfl) (hE : PassesOwn (model prog w) A env E := by passes_own) :
    wpAny (model prog w) A (exec (.For (.Name x px) iter body [] pos) env) Q E s := by
  refine wpAny_For (wpAny_mono h (fun xv s₁ h₁ => ?_) fun _ _ e => e) hs
  obtain ⟨ax, its, k, l, m, J, rfl, ⟨F, N, hm⟩, hJ, turn, done⟩ := h₁
  have hl := ledList N hm
  have hlt : ax < s₁.heap.objs.size := by obtain ⟨_, e, _⟩ := hl; exact Heap.lt_size e
  refine wpAny_pyIter_list hl ?_
  have up : ∀ b o, s₁.heap.get? b = some o → (s₁.heap.push { cls := .type "list_iterator", data := .fields #[.ref ax, .int 0 0] }).get? b = some o := fun b o e => Heap.get?_push_of_some _ e
  refine forLed (Q := Q) (S := fun l => (ax, W.listOf its k) ∈ l) (Walks.list hA s₁.heap.objs.size ax (Nat.ne_of_lt hlt) its) (fun i h st => by obtain ⟨o, e, _, d⟩ := st.1; exact ⟨o, e, _, d, fun q t => by simp⟩)
    (fun i h h' o nw st e e' N S => ⟨by obtain ⟨o', q, r⟩ := st.1; rw [e] at q; cases q; exact ⟨o, e', r⟩, ledList N S⟩) hx hp ?_ (next_is_new F) ⟨⟨_, Heap.get?_push_size _ rfl, rfl, rfl⟩, hl.push _⟩ (F.keeps up) (N.grown up) (fun p hp => Nat.ne_of_lt (Heap.lt_size (N p hp).1)) hm hJ
    (fun i v m₁ l₁ I oI h tk a b c d e f F' N' => wpAny_passesOwn hE (turn _ i v m₁ l₁ I oI h tk a b c d e f F' N')) (fun v s' q => q) (fun s' q => q) (fun h' tk m' l' F' N' S' J' => done h' tk m' l' F' N' S' J')
  intro q
  rcases List.mem_cons.mp q with q | q
  · exact absurd F.ns.lt (by rw [q]; exact Nat.lt_irrefl _)
  · exact (N _ hm).2.1 (List.mem_singleton.mp q).symm
theorem for_keys {K : Type} [DecidableEq K] {knd : PySem.KeyKind prog w K} {x : Str} {px pos : Pos} {iter : Expr} {body : List Stmt} {Q : Flow → Shared → Prop} {m₀ : Str → Option Value} (_F₀ : Fr h₀ env.locals s.heap m₀) (hA : A.handled = none) (hx : env.kindOf x = some .local) (hp : (env.scope.kind == .class || (env.scope.kind == .module && env.locals != env.globals)) = false)
    (h : wpAny (model prog w) A (eval iter env) (fun xv s₁ => Halt (Ex6 fun ax od kvs l m (J : Nat → (Str → Option Value) → Led → Prop) => C5 (xv = .ref ax) ((Fr h₀ env.locals s₁.heap m ∧ News h₀ env.locals s₁.heap l ∧ (ax, od) ∈ l ∧ od.IsDictOf knd kvs ∧ (ax == sysModules) = false)) (J 0 m l) ((∀ g, TurnL prog w A h₀ env x body Q E { s₁ with heap := g } kvs.length (fun i v => ∃ k x, kvs[i]? = some (k, x) ∧ knd.is k v = true) (fun l => (ax, od) ∈ l) J)) (∀ h' tk m' l', Fr h₀ env.locals h' m' → News h₀ env.locals h' l' → (ax, od) ∈ l' → J kvs.length m' l' → Q .next { s₁ with heap := h', toks := tk }))) E s)
    (hs : ∀ x, foldedSetIterable iter env x = pure x := by intro _; rfl) (hE : PassesOwn (model prog w) A env E := by passes_own) :
    wpAny (model prog w) A (exec (.For (.Name x px) iter body [] pos) env) Q E s := by
  refine wpAny_For (wpAny_mono h (fun xv s₁ h₁ => ?_) fun _ _ e => e) hs
  obtain ⟨ax, od, kvs, l, m, J, rfl, ⟨F, N, hm, ho, lo⟩, hJ, turn, done⟩ := h₁
  obtain ⟨es, ep, r⟩ := ho
  have hl : s₁.heap.DictAt knd ax kvs ep := ⟨od, es, (N _ hm).1, r⟩
  have hlt : ax < s₁.heap.objs.size := hl.lt_size
  refine wpAny_pyIter_dict lo hl ?_
  have up : ∀ b o, s₁.heap.get? b = some o → (s₁.heap.push { cls := .type "dict_keyiterator", data := .fields #[.ref ax, .int 0 0, .int kvs.length 0, .int ep 0] }).get? b = some o := fun b o e => Heap.get?_push_of_some _ e
  refine forLed (Q := Q) (S := fun l => (ax, od) ∈ l) (walk_keys (knd := knd) s₁.heap.objs.size ax (Nat.ne_of_lt hlt) (fun x q => by rw [hA] at q; cases q) kvs ep [] (fun x q => by rw [hA] at q; cases q)) (fun i h st => by obtain ⟨o, e, _, d⟩ := st.1; exact ⟨o, e, _, d, fun q t => by simp⟩)
    (fun i h h' o nw st e e' N S => ⟨by obtain ⟨o', q, r⟩ := st.1; rw [e] at q; cases q; exact ⟨o, e', r⟩, ⟨od, es, (N _ S).1, r⟩, .inl hA⟩) hx hp ?_ (next_is_new F) ⟨⟨_, Heap.get?_push_size _ rfl, rfl, rfl⟩, hl.push _, .inl hA⟩ (F.keeps up) (N.grown up) (fun p hp => Nat.ne_of_lt (Heap.lt_size (N p hp).1)) hm hJ
    (fun i v m₁ l₁ I oI h tk a b c d e f F' N' => wpAny_passesOwn hE (turn _ i v m₁ l₁ I oI h tk a b c d e f F' N')) (fun v s' q => q) (fun s' q => q) (fun h' tk m' l' F' N' S' J' => done h' tk m' l' F' N' S' J')
  intro q
  rcases List.mem_cons.mp q with q | q
  · exact absurd F.ns.lt (by rw [q]; exact Nat.lt_irrefl _)
  · exact (N _ hm).2.1 (List.mem_singleton.mp q).symm
end
section
variable {prog : Program} {w : World} {A : Around} {E : Value → Shared → Prop} {s : Shared} {h₀ : Heap} {env : Env}
theorem for_range {x : Str} {px pos : Pos} {iter : Expr} {body : List Stmt} {Q : Flow → Shared → Prop} {m₀ : Str → Option Value} (_F₀ : Fr h₀ env.locals s.heap m₀) (hA : A.handled = none) (hx : env.kindOf x = some .local) (hp : (env.scope.kind == .class || (env.scope.kind == .module && env.locals != env.globals)) = false)
    (h : wpAny (model prog w) A (eval iter env) (fun xv s₁ => Halt (Ex11 fun r a b c t u v n l m (J : Nat → (Str → Option Value) → Led → Prop) => C5 (xv = .ref r) ((IsRange s₁.heap r a b c t u v ∧ Builtin.Range.small a b c = true ∧ Builtin.Range.rangeSize a b c = (n : Nat) ∧ Fr h₀ env.locals s₁.heap m ∧ News h₀ env.locals s₁.heap l)) (J 0 m l) ((∀ g, TurnL prog w A h₀ env x body Q E { s₁ with heap := g } n (fun i v => ∃ t, v = .int (a + i * c) t) (fun _ => True) J)) (∀ h' tk m' l', Fr h₀ env.locals h' m' → News h₀ env.locals h' l' → J n m' l' → Q .next { s₁ with heap := h', toks := tk }))) E s)
    (hs : ∀ x, foldedSetIterable iter env x = pure x := by intro _; rfl) (hE : PassesOwn (model prog w) A env E := by passes_own) :
    wpAny (model prog w) A (exec (.For (.Name x px) iter body [] pos) env) Q E s := by
  refine wpAny_For (wpAny_mono h (fun xv s₁ h₁ => ?_) fun _ _ e => e) hs
  obtain ⟨r, a, b, c, t, u, v, n, l, m, J, rfl, ⟨R, hsm, hn, F, N⟩, hJ, turn, done⟩ := h₁
  refine wpAny_pyIter_range R hsm ?_
  have up : ∀ b' o, s₁.heap.get? b' = some o → (s₁.heap.push { cls := .type "range_iterator", data := .fields #[rawInt a, rawInt (Builtin.Range.rangeSize a b c), rawInt c] }).get? b' = some o := fun b o e => Heap.get?_push_of_some _ e
  refine forLed (Q := Q) (S := fun _ => True) (Walks.range hA s₁.heap.objs.size a c n) (fun i h st => ⟨_, st, _, rfl, fun q t => by simp [rawInt]⟩)
    (fun i h h' o nw st e e' N S => by
      have : h.get? s₁.heap.objs.size = _ := st
      rw [e] at this
      cases this
      exact e') hx hp ?_ (next_is_new F) ?_ (F.keeps up) (N.grown up) (fun p hp => Nat.ne_of_lt (Heap.lt_size (N p hp).1)) trivial hJ
    (fun i v m₁ l₁ I oI h tk a b c d e f F' N' => wpAny_passesOwn hE (turn _ i v m₁ l₁ I oI h tk a b c d e f F' N')) (fun v s' q => q) (fun s' q => q) (fun h' tk m' l' F' N' S' J' => done h' tk m' l' F' N' J')
  · intro q
    exact absurd F.ns.lt (by rw [List.mem_singleton.mp q]; exact Nat.lt_irrefl _)
  · show IsRangeIter _ _ (a + ((0 : Nat) : Int) * c) ((n : Int) - ((0 : Nat) : Int)) c
    have e1 : a + ((0 : Nat) : Int) * c = a := by simp
    have e2 : (n : Int) - ((0 : Nat) : Int) = (n : Int) := by simp
    rw [e1, e2, ← hn]
    exact Heap.get?_push_size _ rfl
end
end
local macro_rules | `(tactic| walk_at "exec For Name Call cons nil") => `(tactic| refine halt ?_)
local macro_rules | `(tactic| walk_at "exec For Name Name cons nil") => `(tactic| refine halt ?_)
local macro_rules | `(tactic| walk_at "exec For Name Attribute cons nil") => `(tactic| refine halt ?_)
theorem offTab : True := by
  w_top off
  exact trivial
section
/-- a dict whose keys are ints, if it has any -/
def IntDict (o : Obj) : Prop := ∃ es ep, o.data = .dict es ep ∧ ∀ e ∈ es.toList, ∃ k t, e.key = .int k t
theorem notInt_list {its : Array Value} {n : Nat} : ¬ IntDict (W.listOf its n) := fun ⟨_, _, e, _⟩ => by simp at e
theorem notInt_tup {vs : List Value} {n : Nat} : ¬ IntDict (tupOf vs n) := fun ⟨_, _, e, _⟩ => by simp at e
theorem notInt_inst {a d : Addr} : ¬ IntDict (instObj a d) := fun ⟨_, _, e, _⟩ => by cases e
theorem notInt_cell {o : Obj} {c : Option Value} (h : o.data = .cell c) : ¬ IntDict o := fun ⟨_, _, e, _⟩ => by rw [h] at e; cases e
theorem notInt_dictOf {h : Int} {k : Str} {t : Tok} {v : Value} {es : List DictEntry} {n : Nat} : ¬ IntDict (W.dictOf (⟨h, .str k t, v⟩ :: es) n) := fun ⟨es', _, e, f⟩ => by
  have e2 : (⟨h, .str k t, v⟩ :: es).toArray = es' := by simpa [W.dictOf] using congrArg (fun d => match d with | Data.dict a _ => a | _ => #[]) e
  obtain ⟨k', t', q⟩ := f ⟨h, .str k t, v⟩ (by rw [← e2]; simp)
  cases q
section
variable {prog : Program} {w : World}
theorem notInt_str {o : Obj} {k : Str} {v : Value} {kvs : List (Str × Value)} (h : o.IsDictOf (PySem.strKind prog w) ((k, v) :: kvs)) : ¬ IntDict o := fun ⟨es', ep', e, f⟩ => by
  obtain ⟨es, ep, _, hd, _, hp, _⟩ := h
  rw [hd] at e
  obtain ⟨rfl, rfl⟩ : es = es' ∧ ep = ep' := by injection e with a b; exact ⟨a, b⟩
  revert f hp
  generalize es.toList = z
  intro hp f
  cases hp with
  | cons a _ _ =>
    obtain ⟨t, q⟩ := Value.isStrOf_shape a
    obtain ⟨k', t', q'⟩ := f _ (.head _)
    rw [q] at q'
    cases q'
theorem isInt_dict {o : Obj} {kvs : List (Int × Value)} (h : o.IsDictOf (intKind prog w) kvs) : IntDict o := by
  obtain ⟨es, ep, _, hd, hk, hp, _⟩ := h
  refine ⟨es, ep, hd, ?_⟩
  revert hp
  generalize es.toList = z
  intro hp
  rename (_ : List _).Nodup => nd
  clear nd hk hd
  induction hp with
  | nil => intro e he; cases he
  | cons a _ _ ih =>
    intro e he
    rcases List.mem_cons.mp he with rfl | he
    · obtain ⟨t, q⟩ := Value.isInt_shape a
      exact ⟨_, t, q⟩
    · exact ih e he
end
/-- all but the int dict at a stands still -/
def SubI (a : Addr) (l l' : Led) : Prop := ∀ p ∈ l, p.1 ≠ a ∨ ¬ IntDict p.2 → p ∈ l'
theorem SubI.mem {a : Addr} {l l' : Led} {p : Addr × Obj} (h : SubI a l l') (hm : p ∈ l) (hn : p.1 ≠ a ∨ ¬ IntDict p.2) : p ∈ l' := h p hm hn
theorem SubI.ofX {h₀ h : Heap} {L a : Addr} {o : Obj} {l l' : Led} (N : News h₀ L h l) (hm : (a, o) ∈ l) (hi : IntDict o) (x : SubX a l l') : SubI a l l' := fun p hp hn => x p hp fun e => by
  rcases hn with hn | hn
  · exact hn e
  · obtain ⟨b, ob⟩ := p
    simp only at e
    subst e
    exact hn (det N hm hp ▸ hi)
theorem Sub.i {a : Addr} {l l' : Led} (h : Sub l l') : SubI a l l' := fun p hp _ => h p hp
theorem SubI.cons {a : Addr} {l l' : Led} {p : Addr × Obj} (h : SubI a l l') : SubI a l (p :: l') := fun q hq hn => .tail _ (h q hq hn)
theorem SubI.trans {a : Addr} {l l' l'' : Led} (h : SubI a l l') (h' : SubI a l' l'') : SubI a l l'' := fun p hp hn => h' p (h p hp hn) hn
theorem SubI.transS {a : Addr} {l l' l'' : Led} (h : SubI a l l') (h' : Sub l' l'') : SubI a l l'' := fun p hp hn => h' p (h p hp hn)
theorem Sub.transI {a : Addr} {l l' l'' : Led} (h : Sub l l') (h' : SubI a l' l'') : SubI a l l'' := fun p hp hn => h' p (h p hp) hn
/-- all but int dicts and iterators stands still -/
def SubP (l l' : Led) : Prop := ∀ p ∈ l, ¬ IntDict p.2 → ¬ IsFields p.2 → p ∈ l'
def IsCell (o : Obj) : Prop := ∃ c, o.data = .cell c
/-- all but cells stands still -/
def SubC (l l' : Led) : Prop := ∀ p ∈ l, ¬ IsCell p.2 → p ∈ l'
/-- a list whose first item is an object -/
def IsTape (o : Obj) : Prop := o.cls = .type "list" ∧ ∃ a r n, o.data = .seq (.ref a :: r).toArray n
/-- all but such lists stands still -/
def SubT (l l' : Led) : Prop := ∀ p ∈ l, ¬ IsTape p.2 → p ∈ l'
/-- all but int dicts, iterators, cells and such lists stands still -/
def SubR (l l' : Led) : Prop := ∀ p ∈ l, ¬ IntDict p.2 → ¬ IsFields p.2 → ¬ IsCell p.2 → ¬ IsTape p.2 → p ∈ l'
theorem SubI.p {a : Addr} {l l' : Led} (h : SubI a l l') : SubP l l' := fun p hp hn _ => h p hp (.inr hn)
theorem SubF.p {l l' : Led} (h : SubF l l') : SubP l l' := fun p hp _ hn => h p hp hn
theorem SubP.r {l l' : Led} (h : SubP l l') : SubR l l' := fun p hp a b _ _ => h p hp a b
theorem SubC.r {l l' : Led} (h : SubC l l') : SubR l l' := fun p hp _ _ c _ => h p hp c
theorem SubT.r {l l' : Led} (h : SubT l l') : SubR l l' := fun p hp _ _ _ t => h p hp t
theorem SubF.trans {l l' l'' : Led} (h : SubF l l') (h' : SubF l' l'') : SubF l l'' := fun p hp hn => h' p (h p hp hn) hn
theorem Sub.f {l l' : Led} (h : Sub l l') : SubF l l' := fun p hp _ => h p hp
theorem notF_list {its : Array Value} {n : Nat} : ¬ IsFields (W.listOf its n) := fun ⟨_, e, _⟩ => by cases e
theorem notF_tup {vs : List Value} {n : Nat} : ¬ IsFields (tupOf vs n) := fun ⟨_, e, _⟩ => by cases e
theorem notF_inst {a d : Addr} : ¬ IsFields (instObj a d) := fun ⟨_, e, _⟩ => by cases e
theorem notF_dictOf {es : List DictEntry} {n : Nat} : ¬ IsFields (W.dictOf es n) := fun ⟨_, e, _⟩ => by cases e
theorem notF_cell {o : Obj} {c : Option Value} (h : o.data = .cell c) : ¬ IsFields o := fun ⟨_, e, _⟩ => by rw [h] at e; cases e
theorem notC_list {its : Array Value} {n : Nat} : ¬ IsCell (W.listOf its n) := fun ⟨_, e⟩ => by cases e
theorem notC_tup {vs : List Value} {n : Nat} : ¬ IsCell (tupOf vs n) := fun ⟨_, e⟩ => by cases e
theorem notC_inst {a d : Addr} : ¬ IsCell (instObj a d) := fun ⟨_, e⟩ => by cases e
theorem notC_dictOf {es : List DictEntry} {n : Nat} : ¬ IsCell (W.dictOf es n) := fun ⟨_, e⟩ => by cases e
theorem notT_one {x : Int} {t : Tok} {n : Nat} : ¬ IsTape (W.listOf #[.int x t] n) := fun ⟨_, _, _, _, e⟩ => by simp [W.listOf] at e
theorem notT_ints {its : List Value} {ns : List Int} {n : Nat} (h : IntsAre its ns) : ¬ IsTape (W.listOf its.toArray n) := fun ⟨_, _, _, _, e⟩ => by
  cases h <;> simp [W.listOf] at e
theorem notT_tup {vs : List Value} {n : Nat} : ¬ IsTape (tupOf vs n) := fun ⟨e, _⟩ => by simp at e
theorem notT_inst {a d : Addr} : ¬ IsTape (instObj a d) := fun ⟨_, _, _, _, e⟩ => by cases e
theorem notT_dictOf {es : List DictEntry} {n : Nat} : ¬ IsTape (W.dictOf es n) := fun ⟨_, _, _, _, e⟩ => by cases e
theorem notT_cell {o : Obj} {c : Option Value} (h : o.data = .cell c) : ¬ IsTape o := fun ⟨_, _, _, _, e⟩ => by rw [h] at e; cases e
/-- a code object stands still, too -/
def IsCode' (o : Obj) (qual : Str) : Prop := ∃ vs t, o.data = .fields vs ∧ vs[1]? = some (.str qual t)
theorem notF_code {o : Obj} {q : Str} (h : IsCode' o q) : ¬ IsFields o := fun ⟨_, e, n⟩ => by
  obtain ⟨vs, t, d, v⟩ := h
  rw [d] at e
  cases e
  exact n _ _ v
theorem notInt_code {o : Obj} {q : Str} (h : IsCode' o q) : ¬ IntDict o := fun ⟨_, _, e, _⟩ => by
  obtain ⟨vs, t, d, v⟩ := h
  rw [d] at e
  cases e
section
variable {prog : Program} {w : World} {a : Addr} {l l' : Led}
theorem notF_isDict {K : Type} [DecidableEq K] {knd : PySem.KeyKind prog w K} {o : Obj} {kvs : List (K × Value)} (h : o.IsDictOf knd kvs) : ¬ IsFields o := fun ⟨_, e, _⟩ => by
  obtain ⟨es, ep, _, hd, _⟩ := h
  rw [hd] at e; cases e
theorem notC_isDict {K : Type} [DecidableEq K] {knd : PySem.KeyKind prog w K} {o : Obj} {kvs : List (K × Value)} (h : o.IsDictOf knd kvs) : ¬ IsCell o := fun ⟨_, e⟩ => by
  obtain ⟨es, ep, _, hd, _⟩ := h
  rw [hd] at e; cases e
theorem notT_isDict {K : Type} [DecidableEq K] {knd : PySem.KeyKind prog w K} {o : Obj} {kvs : List (K × Value)} (h : o.IsDictOf knd kvs) : ¬ IsTape o := fun ⟨_, _, _, _, e⟩ => by
  obtain ⟨es, ep, _, hd, _⟩ := h
  rw [hd] at e; cases e
theorem Plain.subR {v : Value} {k : Str} {d : Dat} (h : Plain l v k d) (e : SubR l l') : Plain l' v k d := by
  cases h with
  | none => exact .none
  | int => exact .int
  | name x y => exact .name (e _ x notInt_inst notF_inst notC_inst notT_inst) (e _ y notInt_dictOf notF_dictOf notC_dictOf notT_dictOf)
  | ref x y => exact .ref (e _ x notInt_inst notF_inst notC_inst notT_inst) (e _ y notInt_dictOf notF_dictOf notC_dictOf notT_dictOf)
theorem ValIn.subR {v : Value} {x : Val} (h : ValIn prog w l v x) (e : SubR l l') : ValIn prog w l' v x := by
  cases h with
  | nul => exact .nul
  | lst hm => exact .lst (e _ hm notInt_list notF_list notC_list notT_one)
  | cat hm ho lo hp => exact .cat (e _ hm (notInt_str ho) (notF_isDict ho) (notC_isDict ho) (notT_isDict ho)) ho lo (hp.subR e)
theorem EntIn.subR {v : Value} {x : Ent} (h : EntIn prog w l v x) (e : SubR l l') : EntIn prog w l' v x := by
  obtain ⟨tup, t, x, n, h1, h2, h3⟩ := h
  exact ⟨tup, t, x, n, h1, e _ h2 notInt_tup notF_tup notC_tup notT_tup, h3.subR e⟩
theorem EntsIn.subR (e : SubR l l') : ∀ {kvs : List (Int × Value)} {T : Tab}, EntsIn prog w l kvs T → EntsIn prog w l' kvs T
  | _, _, .nil => .nil
  | _, _, .cons x y => .cons (x.subR e) (EntsIn.subR e y)
theorem ShelfIn.subR {sh tb tr : Addr} (h : ShelfIn prog w l sh tb tr) (e : SubR l l') : ShelfIn prog w l' sh tb tr := by
  obtain ⟨⟨ds, h1, t1, h2, t2, n, x, y⟩, otr, rf, c, d, lo, f⟩ := h
  exact ⟨⟨ds, h1, t1, h2, t2, n, e _ x notInt_inst notF_inst notC_inst notT_inst, e _ y notInt_dictOf notF_dictOf notC_dictOf notT_dictOf⟩, otr, rf, e _ c (notInt_str d) (notF_isDict d) (notC_isDict d) (notT_isDict d), d, lo, f.subR e⟩
theorem ValIn.subP {v : Value} {x : Val} (h : ValIn prog w l v x) (e : SubP l l') : ValIn prog w l' v x := h.subR e.r
theorem EntIn.subP {v : Value} {x : Ent} (h : EntIn prog w l v x) (e : SubP l l') : EntIn prog w l' v x := h.subR e.r
theorem EntsIn.subP (e : SubP l l') {kvs : List (Int × Value)} {T : Tab} (h : EntsIn prog w l kvs T) : EntsIn prog w l' kvs T := EntsIn.subR e.r h
theorem ShelfIn.subP {sh tb tr : Addr} (h : ShelfIn prog w l sh tb tr) (e : SubP l l') : ShelfIn prog w l' sh tb tr := h.subR e.r
theorem ShelfIn.subC {sh tb tr : Addr} (h : ShelfIn prog w l sh tb tr) (e : SubC l l') : ShelfIn prog w l' sh tb tr := h.subR e.r
theorem TabIn.subC {tb : Addr} {T : Tab} (h : TabIn prog w l tb T) (e : SubC l l') : TabIn prog w l' tb T := by
  obtain ⟨⟨o, kvs, x, y, z⟩, lo⟩ := h
  exact ⟨⟨o, kvs, e _ x (notC_isDict y), y, EntsIn.subR e.r z⟩, lo⟩
theorem ShelfIn.subT {sh tb tr : Addr} (h : ShelfIn prog w l sh tb tr) (e : SubT l l') : ShelfIn prog w l' sh tb tr := h.subR e.r
theorem TabIn.subT {tb : Addr} {T : Tab} (h : TabIn prog w l tb T) (e : SubT l l') : TabIn prog w l' tb T := by
  obtain ⟨⟨o, kvs, x, y, z⟩, lo⟩ := h
  exact ⟨⟨o, kvs, e _ x (notT_isDict y), y, EntsIn.subR e.r z⟩, lo⟩
theorem ValIn.subI {v : Value} {x : Val} (h : ValIn prog w l v x) (e : SubI a l l') : ValIn prog w l' v x := h.subP e.p
theorem EntIn.subI {v : Value} {x : Ent} (h : EntIn prog w l v x) (e : SubI a l l') : EntIn prog w l' v x := h.subP e.p
theorem EntsIn.subI {kvs : List (Int × Value)} {T : Tab} (h : EntsIn prog w l kvs T) (e : SubI a l l') : EntsIn prog w l' kvs T := EntsIn.subP e.p h
theorem ShelfIn.subI {sh tb tr : Addr} (h : ShelfIn prog w l sh tb tr) (e : SubI a l l') : ShelfIn prog w l' sh tb tr := h.subP e.p
theorem TabIn.subI {tb : Addr} {T : Tab} (h : TabIn prog w l tb T) (e : SubI a l l') (hn : tb ≠ a) : TabIn prog w l' tb T := by
  obtain ⟨⟨o, kvs, x, y, z⟩, lo⟩ := h
  exact ⟨⟨o, kvs, e _ x (.inl hn), y, z.subI e⟩, lo⟩
theorem TabIn.subF {tb : Addr} {T : Tab} (h : TabIn prog w l tb T) (e : SubF l l') : TabIn prog w l' tb T := by
  obtain ⟨⟨o, kvs, x, y, z⟩, lo⟩ := h
  exact ⟨⟨o, kvs, e _ x (notF_isDict y), y, EntsIn.subP e.p z⟩, lo⟩
end
theorem LoopEnd.go {h₀ h' : Heap} {L : Addr} {s₁ : Shared} {I : Addr} {oI : Obj} {J : (Str → Option Value) → Led → Prop} {Qr : Value → Shared → Prop} {Qb : Shared → Prop} {m' : Str → Option Value} {l₁ all : Led} {tk : Nat} (a : Addr)
    (F : Fr h₀ L h' m') (N : News h₀ L h' all) (off : ∀ p ∈ l₁, p.1 ≠ I) (hF : IsFields oI) (e : SubI a ((I, oI) :: l₁) all) (k : ∀ l', SubI a l₁ l' → SubF all l' → J m' l') : LoopEnd h₀ L s₁ I oI J Qr Qb .next { s₁ with heap := h', toks := tk } := by
  have hI : (I, oI) ∈ all := e _ (.head _) (.inr fun ⟨_, _, q, _⟩ => by obtain ⟨vs, z, _⟩ := hF; rw [z] at q; cases q)
  refine ⟨h', tk, m', all, rfl, F, N, hI, fun l' hl => k l' (fun p hp hn => hl p (e p (.tail _ hp) hn) (off p hp)) fun p hp hn => hl p hp fun q => ?_⟩
  obtain ⟨b, ob⟩ := p
  simp only at q
  subst q
  exact hn (det N hI hp ▸ hF)
theorem LoopEnd.sub {h₀ h' : Heap} {L : Addr} {s₁ : Shared} {I : Addr} {oI : Obj} {J : (Str → Option Value) → Led → Prop} {Qr : Value → Shared → Prop} {Qb : Shared → Prop} {m' : Str → Option Value} {l₁ all : Led} {tk : Nat}
    (F : Fr h₀ L h' m') (N : News h₀ L h' all) (off : ∀ p ∈ l₁, p.1 ≠ I) (hF : IsFields oI) (e : Sub ((I, oI) :: l₁) all) (k : ∀ l', Sub l₁ l' → SubF all l' → J m' l') : LoopEnd h₀ L s₁ I oI J Qr Qb .next { s₁ with heap := h', toks := tk } := by
  refine ⟨h', tk, m', all, rfl, F, N, e _ (.head _), fun l' hl => k l' (fun p hp => hl p (e p (.tail _ hp)) (off p hp)) fun p hp hn => hl p hp fun q => ?_⟩
  obtain ⟨b, ob⟩ := p
  simp only at q
  subst q
  exact hn (det N (e _ (.head _)) hp ▸ hF)
/-- a place of a table set, taken away -/
noncomputable def tset (T : Tab) (n : Int) (e : Ent) : Tab := if T.any (fun p => decide (p.1 = n)) then T.map (fun p => if p.1 = n then (p.1, e) else p) else T ++ [(n, e)]
noncomputable def tdel (T : Tab) (n : Int) : Tab := T.filter fun p => decide (p.1 ≠ n)
theorem look_nil {n : Int} : look [] n = none := rfl
theorem look_cons {T : Tab} {k n : Int} {e : Ent} : look ((k, e) :: T) n = if k = n then some e else look T n := by
  unfold look
  by_cases h : k = n <;> simp [h]
theorem look_append {n : Int} {T' : Tab} : ∀ {T : Tab}, look (T ++ T') n = (look T n).or (look T' n)
  | [] => by simp [look_nil]
  | (k, e) :: T => by
    rw [List.cons_append, look_cons, look_cons, look_append (T := T)]
    by_cases h : k = n <;> simp [h]
theorem any_look {n : Int} : ∀ {T : Tab}, T.any (fun p => decide (p.1 = n)) = (look T n).isSome
  | [] => rfl
  | (k, e) :: T => by
    rw [look_cons, List.any_cons, any_look (T := T)]
    by_cases h : k = n <;> simp [h]
theorem look_map {n k : Int} {e : Ent} : ∀ {T : Tab}, look (T.map fun p => if p.1 = n then (p.1, e) else p) k = if k = n then (look T n).map (fun _ => e) else look T k
  | [] => by simp [look_nil]
  | (j, e') :: T => by
    rw [List.map_cons]
    by_cases h : j = n
    · subst h
      rw [if_pos rfl, look_cons, look_cons, look_cons, look_map (T := T)]
      by_cases q : j = k
      · subst q; simp
      · rw [if_neg q, if_neg q, if_neg (Ne.symm q), if_neg (Ne.symm q)]
    · rw [if_neg h, look_cons, look_cons, look_cons, look_map (T := T), if_neg h]
      by_cases q : j = k
      · subst q; simp [h]
      · rw [if_neg q, if_neg q]
theorem look_tset {T : Tab} {n k : Int} {e : Ent} : look (tset T n e) k = if k = n then some e else look T k := by
  unfold tset
  cases h : T.any (fun p => decide (p.1 = n)) with
  | true =>
    rw [if_pos rfl, look_map]
    rw [any_look] at h
    by_cases q : k = n
    · rw [if_pos q, if_pos q]
      cases hl : look T n with
      | none => rw [hl] at h; cases h
      | some _ => rfl
    · rw [if_neg q, if_neg q]
  | false =>
    rw [if_neg (by decide), look_append, look_cons]
    rw [any_look] at h
    by_cases q : k = n
    · subst q
      rw [if_pos rfl, if_pos rfl]
      cases hl : look T k with
      | none => rfl
      | some _ => rw [hl] at h; cases h
    · rw [if_neg q, if_neg (Ne.symm q), look_nil]
      simp
theorem look_tdel {n k : Int} : ∀ {T : Tab}, look (tdel T n) k = if k = n then none else look T k
  | [] => by simp [tdel, look_nil]
  | (j, e) :: T => by
    have ih := look_tdel (n := n) (k := k) (T := T)
    unfold tdel at ih ⊢
    rw [List.filter_cons]
    by_cases h : j = n
    · subst h
      rw [if_neg (by simp), ih, look_cons]
      by_cases q : k = j
      · simp [q]
      · rw [if_neg q, if_neg q, if_neg (Ne.symm q)]
    · rw [if_pos (by simp [h]), look_cons, look_cons, ih]
      by_cases q : j = k
      · subst q; simp [h]
      · rw [if_neg q, if_neg q]
theorem tset_len {T : Tab} {n : Int} {e : Ent} : (tset T n e).length ≤ T.length + 1 := by
  unfold tset
  split
  · rw [List.length_map]; omega
  · rw [List.length_append]; exact Nat.le_refl _
theorem tdel_len {T : Tab} {n : Int} : (tdel T n).length ≤ T.length := List.length_filter_le _ _
section
variable {prog : Program} {w : World} {l : Led}
theorem EntsIn.any {n : Int} : ∀ {kvs : List (Int × Value)} {T : Tab}, EntsIn prog w l kvs T → kvs.any (fun kv => decide (kv.1 = n)) = T.any (fun p => decide (p.1 = n))
  | _, _, .nil => rfl
  | _, _, .cons _ y => by rw [List.any_cons, List.any_cons, EntsIn.any y]
theorem EntsIn.append {kvs' : List (Int × Value)} {T' : Tab} (h' : EntsIn prog w l kvs' T') : ∀ {kvs : List (Int × Value)} {T : Tab}, EntsIn prog w l kvs T → EntsIn prog w l (kvs ++ kvs') (T ++ T')
  | _, _, .nil => h'
  | _, _, .cons x y => .cons x (EntsIn.append h' y)
theorem EntsIn.put {n : Int} {v : Value} {e : Ent} (hv : EntIn prog w l v e) : ∀ {kvs : List (Int × Value)} {T : Tab}, EntsIn prog w l kvs T → EntsIn prog w l (kvs.map fun kv => if kv.1 = n then (kv.1, v) else kv) (T.map fun p => if p.1 = n then (p.1, e) else p)
  | _, _, .nil => .nil
  | _, _, .cons (n := k) x y => by
    rw [List.map_cons, List.map_cons]
    by_cases h : k = n
    · rw [if_pos h, if_pos h]; exact .cons hv (EntsIn.put hv y)
    · rw [if_neg h, if_neg h]; exact .cons x (EntsIn.put hv y)
theorem EntsIn.set {kvs : List (Int × Value)} {T : Tab} {n : Int} {v : Value} {e : Ent} (h : EntsIn prog w l kvs T) (hv : EntIn prog w l v e) : EntsIn prog w l (stored kvs n v) (tset T n e) := by
  unfold stored tset
  rw [h.any]
  split
  · exact h.put hv
  · exact EntsIn.append (.cons hv .nil) h
theorem EntsIn.del {n : Int} : ∀ {kvs : List (Int × Value)} {T : Tab}, EntsIn prog w l kvs T → EntsIn prog w l (without kvs n) (tdel T n)
  | _, _, .nil => .nil
  | _, _, .cons (n := k) x y => by
    have ih := EntsIn.del (n := n) y
    unfold without tdel at ih ⊢
    rw [List.filter_cons, List.filter_cons]
    by_cases h : k = n
    · rw [if_neg (by simp [h]), if_neg (by simp [h])]; exact ih
    · rw [if_pos (by simp [h]), if_pos (by simp [h])]; exact .cons x ih
end
section
variable {prog : Program} {w : World} {A : Around} {E : Value → Shared → Prop} {s : Shared} {h₀ : Heap} {L : Addr} {m : Str → Option Value} {news : Led}
theorem tab_set {tb : Addr} {T : Tab} {n : Int} {t : Tok} {v : Value} {e : Ent} {Q : Unit → Shared → Prop} (F : Fr h₀ L s.heap m) (N : News h₀ L s.heap news) (ht : TabIn prog w news tb T) (hv : EntIn prog w news v e) (hz : T.length < 64)
    (h : ∀ h' o', Fr h₀ L h' m → News h₀ L h' ((tb, o') :: but tb news) → SubI tb news ((tb, o') :: but tb news) → TabIn prog w ((tb, o') :: but tb news) tb (tset T n e) → Q () { s with heap := h', toks := s.toks + 1 }) :
    wpAny (model prog w) A (setItem (.ref tb) (.int n t) v) Q E s := by
  obtain ⟨⟨o, kvs, hm, ho, hes⟩, lo⟩ := ht
  have hs : ∀ {o'}, SubI tb news ((tb, o') :: but tb news) := fun {o'} => SubI.ofX N hm (isInt_dict ho) (subX_but (a := tb) (l := news) (o := o'))
  have hz' : kvs.length ≤ sizeLine := fits64 (by rw [hes.length]; exact hz)
  have hD : s.heap.DictOf (intKind prog w) tb kvs := Heap.dictOf_iff.mpr ⟨o, (N _ hm).1, ho⟩
  refine wpAny_setItem_pairs (hsz := hz') (intKind_is _ _ _ _) hD fun h' hd hsb => ?_
  obtain ⟨o', ho', hd'⟩ := Heap.dictOf_iff.mp hd
  refine h h' o' (F.change hsb (N _ hm).2.1 (N _ hm).2.2) ?_ hs ⟨⟨o', _, .head _, hd', (hes.subI hs).set (hv.subI hs)⟩, lo⟩
  exact news_set (pre := []) (front N hm) (fun _ h => nomatch h) but_off hsb ho'
theorem tab_pop {tb : Addr} {T : Tab} {n : Int} {t : Tok} {e : Ent} {Q : Value → Shared → Prop} (F : Fr h₀ L s.heap m) (N : News h₀ L s.heap news) (ht : TabIn prog w news tb T) (hl : look T n = some e) (hz : T.length < 64)
    (h : ∀ h' o' v, Fr h₀ L h' m → News h₀ L h' ((tb, o') :: but tb news) → SubI tb news ((tb, o') :: but tb news) → TabIn prog w ((tb, o') :: but tb news) tb (tdel T n) → Q v { s with heap := h', toks := s.toks + 1 }) :
    wpAny (model prog w) A (call (.builtin "dict.pop") [.ref tb, .int n t]) Q E s := by
  obtain ⟨⟨o, kvs, hm, ho, hes⟩, lo⟩ := ht
  have hs : ∀ {o'}, SubI tb news ((tb, o') :: but tb news) := fun {o'} => SubI.ofX N hm (isInt_dict ho) (subX_but (a := tb) (l := news) (o := o'))
  have hz' : kvs.length ≤ sizeLine := fits64 (by rw [hes.length]; exact hz)
  have hD : s.heap.DictOf (intKind prog w) tb kvs := Heap.dictOf_iff.mpr ⟨o, (N _ hm).1, ho⟩
  obtain ⟨v, hv, _⟩ := hes.at hl
  refine call_meetsIn PySem.F.slot_dict_pop hD.typeIs PySem.F.entry_dict_pop (PySem.F.args_dict_pop_2 _ _) (meets_dict_pop_there (intKind prog w) tb (intKind_is _ _ _ _) [] (.inl rfl) rfl) ⟨kvs, v, hD, hz', hv, fun h' hd hsb => ?_⟩
  obtain ⟨o', ho', hd'⟩ := Heap.dictOf_iff.mp hd
  refine h h' o' v (F.change hsb (N _ hm).2.1 (N _ hm).2.2) ?_ hs ⟨⟨o', _, .head _, hd', (hes.subI hs).del⟩, lo⟩
  exact news_set (pre := []) (front N hm) (fun _ h => nomatch h) but_off hsb ho'
end
section
variable {prog : Program} {w : World} {A : Around} {E : Value → Shared → Prop} {s : Shared} {h₀ : Heap} {L : Addr} {m : Str → Option Value} {news : Led}
theorem EntIn.mk' {tup : Addr} {g : Int} {t : Tok} {x : Value} {k : Nat} {a : Val} (hm : (tup, tupOf [.int g t, x] k) ∈ news) (hv : ValIn prog w news x a) : EntIn prog w news (.ref tup) ⟨g, a⟩ := ⟨tup, t, x, k, rfl, hm, hv⟩
theorem tab_in {tb : Addr} {T : Tab} {n : Int} {t : Tok} {Q : Value → Shared → Prop} (N : News h₀ L s.heap news) (ht : TabIn prog w news tb T) {o : Option Ent} (hl : look T n = o) (h : Q (.bool o.isSome) { s with toks := s.toks + 1 }) :
    wpAny (model prog w) A (compareOp .In (.int n t) (.ref tb)) Q E s := by
  obtain ⟨⟨od, kvs, hm, ho, hes⟩, lo⟩ := ht
  exact kda_in (k := n) N hm ho lo (intKind_is _ _ _ _) o.isSome (by rw [hes.none n, hl]) h
theorem tab_notin {tb : Addr} {T : Tab} {n : Int} {t : Tok} {Q : Value → Shared → Prop} (N : News h₀ L s.heap news) (ht : TabIn prog w news tb T) {o : Option Ent} (hl : look T n = o) (h : Q (.bool (!o.isSome)) { s with toks := s.toks + 1 }) :
    wpAny (model prog w) A (compareOp .NotIn (.int n t) (.ref tb)) Q E s := by
  obtain ⟨⟨od, kvs, hm, ho, hes⟩, lo⟩ := ht
  exact wpAny_notIn_of (intKind_is _ _ _ _) lo (kda_dict N hm ho).mapOf (by rw [hes.none n, hl]; exact h)
end
theorem tdel_none {n : Int} : ∀ {T : Tab}, look T n = none → tdel T n = T
  | [], _ => rfl
  | (k, e) :: T, h => by
    rw [look_cons] at h
    by_cases q : k = n
    · rw [if_pos q] at h; cases h
    · rw [if_neg q] at h
      have ih := tdel_none (T := T) h
      unfold tdel at ih ⊢
      rw [List.filter_cons, if_pos (by simp [q]), ih]
section
variable {prog : Program} {w : World} {A : Around} {E : Value → Shared → Prop} {s : Shared} {h₀ : Heap} {L : Addr} {m : Str → Option Value} {news : Led}
theorem tab_method {tb : Addr} {T : Tab} {name : Str} {id : String} {pl : Sem Bool} {Q : Value × List Value → Shared → Prop} (slot : Slot "dict" name id) (ty : typeOf (.builtin id) = pure (.type "method_descriptor")) (N : News h₀ L s.heap news) (ht : TabIn prog w news tb T) (h : Q (.builtin id, [.ref tb]) s) :
    wpAny (model prog w) A (getMethod (.ref tb) name pl) Q E s := by
  obtain ⟨⟨od, kvs, hm, ho, hes⟩, lo⟩ := ht
  exact kob_method slot ty N hm ho h
theorem tab_get_none {tb : Addr} {T : Tab} {n : Int} {t : Tok} {dflt : Value} {Q : Value → Shared → Prop} (N : News h₀ L s.heap news) (ht : TabIn prog w news tb T) (hl : look T n = none) (h : Q dflt { s with toks := s.toks + 1 }) :
    wpAny (model prog w) A (call (.builtin "dict.get") [.ref tb, .int n t, dflt]) Q E s := by
  obtain ⟨⟨od, kvs, hm, ho, hes⟩, lo⟩ := ht
  have hD := kda_dict N hm ho
  have hv : valueAt kvs n = none := by
    have := hes.none n
    rw [hl] at this
    cases q : valueAt kvs n with
    | none => rfl
    | some _ => rw [q] at this; cases this
  exact call_meetsIn PySem.F.slot_dict_get hD.typeIs PySem.F.entry_dict_get (PySem.F.args_dict_get_3 _ _ _) (meets_dict_get_default (intKind prog w) tb (intKind_is _ _ _ _) lo dflt) ⟨_, hD.mapOf, by rw [hv]; exact h⟩
theorem tab_get_some {tb : Addr} {T : Tab} {n : Int} {t : Tok} {dflt : Value} {e : Ent} {Q : Value → Shared → Prop} {l₀ : Led} (N : News h₀ L s.heap news) (ht : TabIn prog w l₀ tb T) (hsub : Sub l₀ news) (hl : look T n = some e) (h : ∀ tup tg x k, (tup, tupOf [.int e.gen tg, x] k) ∈ l₀ → ValIn prog w l₀ x e.val → Q (.ref tup) { s with toks := s.toks + 1 }) :
    wpAny (model prog w) A (call (.builtin "dict.get") [.ref tb, .int n t, dflt]) Q E s := by
  obtain ⟨⟨od, kvs, hm, ho, hes⟩, lo⟩ := ht
  have hD := kda_dict N (hsub _ hm) ho
  obtain ⟨v, hv, tup, tg, x, k, rfl, h1, h2⟩ := hes.at hl
  exact call_meetsIn PySem.F.slot_dict_get hD.typeIs PySem.F.entry_dict_get (PySem.F.args_dict_get_3 _ _ _) (meets_dict_get_default (intKind prog w) tb (intKind_is _ _ _ _) lo dflt) ⟨_, hD.mapOf, by rw [hv]; exact h tup tg x k h1 h2⟩
theorem tab_item {value slice : PySem.Expr} {tb : Addr} {T : Tab} {n : Int} {t : Tok} {e : Ent} {Q : Value → Shared → Prop} {l₀ : Led} (N : News h₀ L s.heap news) (ht : TabIn prog w l₀ tb T) (hsub : Sub l₀ news) (hl : look T n = some e) (h : ∀ tup tg x k, (tup, tupOf [.int e.gen tg, x] k) ∈ l₀ → ValIn prog w l₀ x e.val → Q (.ref tup) { s with toks := s.toks + 1 })
    (hs : subscripted slice false (.ref tb) (.int n t) = operate [.ref tb, .int n t] (getItem (.ref tb) (.int n t)) := by with_unfolding_all rfl) (hg : ∀ r, letTemporaryGo value (.ref tb) r = pure () := by intro _; with_unfolding_all rfl) :
    wpAny (model prog w) A (subscriptTail value slice (.ref tb) (.int n t)) Q E s := by
  obtain ⟨⟨od, kvs, hm, ho, hes⟩, lo⟩ := ht
  obtain ⟨v, hv, tup, tg, x, k, rfl, h1, h2⟩ := hes.at hl
  exact kda_item (knd := intKind prog w) N (hsub _ hm) ho (intKind_is _ _ _ _) hv (h tup tg x k h1 h2) hs hg
end
section
variable {M : Model} {A : Around} {E : Value → Shared → Prop} {s : Shared} {h₀ : Heap} {L : Addr} {m : Str → Option Value}
theorem ldE {env : Env} {x : Str} {pos : Pos} {v : Value} {Q : Value → Shared → Prop} (F : Fr h₀ env.locals s.heap m) (hv : m x = some v) (hk : env.scope.kind = .function) (hl : env.kindOf x = some .local) (h : Q v s)
    (hd : (x == ("__debug__" : Str)) = false := by decide) : wpAny M A (eval (.Name x pos) env) Q E s := wpAny_Name (wpAny_loadName_local hk hl F.ns hv h) hd
end
end
local macro_rules | `(tactic| k_mem) => `(tactic| (refine SubI.mem (by with_reducible assumption) ?sbA ?sbB; (case sbB => (try dsimp only); first | (left; first | assumption | exact Ne.symm (by assumption) | omega) | (right; first | exact notInt_list | exact notInt_tup | exact notInt_inst | exact notInt_dictOf | exact notInt_cell (by assumption) | exact notInt_str (by assumption))); (case sbA => k_mem)))
local macro_rules | `(tactic| ktr_unf) => `(tactic| first | with_reducible assumption | tbr_iter (SubI.trans, "205 103") | tbr_iter (Sub.i, "105") | tbr_iter (SubI.cons, "105"))
local macro_rules | `(tactic| ktr_rel) => `(tactic| first | with_reducible assumption | tbr_iter (TabIn.sub, "103 205") | tbr_iter (ShelfIn.sub, "103 205"))
local macro_rules | `(tactic| ktr_rel) => `(tactic| tbr_iter (EntIn.mk', "102 204"))
local macro_rules | `(tactic| walk_at "setItem ref int") => `(tactic| (tbr_iter (tab_set, "101 201 304 404 512 0/6")))
local macro_rules | `(tactic| walk_at "call builtin:dict.pop") => `(tactic| (k_search (call (Value.builtin "dict.pop") [Value.ref _, Value.int _ _]); tbr_iter (tab_pop, "101 201 304 403 512 0/7")))
local macro_rules | `(tactic| walk_at "compareOp In int ref") => `(tactic| (tbr_iter (tab_in, "101 204 303 0/0"); (try simp only [Option.isSome_some, Option.isSome_none])))
local macro_rules | `(tactic| walk_at "compareOp NotIn int ref") => `(tactic| (tbr_iter (tab_notin, "101 204 303 0/0"); (try simp only [Option.isSome_some, Option.isSome_none, Bool.not_true, Bool.not_false])))
local macro_rules | `(tactic| walk_at "getMethod ref") => `(tactic| (k_search (getMethod (Value.ref _) (Str.ofString "pop") _); tbr_iter (tab_method PySem.F.slot_dict_pop PySem.F.type_dict_pop, "101 204 0/0")))
local macro_rules | `(tactic| walk_at "getMethod ref") => `(tactic| (k_search (getMethod (Value.ref _) (Str.ofString "get") _); tbr_iter (tab_method PySem.F.slot_dict_get PySem.F.type_dict_get, "101 204 0/0")))
local macro_rules | `(tactic| walk_at "call builtin:dict.get") => `(tactic| (k_search (call (Value.builtin "dict.get") [Value.ref _, Value.int _ _, _]); tbr_iter (tab_get_none, "101 204 303 0/0")))
local macro_rules | `(tactic| walk_at "call builtin:dict.get") => `(tactic| (k_search (call (Value.builtin "dict.get") [Value.ref _, Value.int _ _, _]); tbr_iter (tab_get_some, "101 203 305 403 0/10006")))
local macro_rules | `(tactic| walk_at "exec While Compare") => `(tactic| refine halt ?_)
local macro_rules | `(tactic| walk_at "eval Name") => `(tactic| (tbr_iter (ldE, "301 416 106 206 0/0")))
local macro_rules | `(tactic| walk_at "subscriptTail Name Name ref int") => `(tactic| (tbr_iter (tab_item, "101 203 305 403 0 510 611/10006")))
theorem offPut : True := by
  w_top off
  exact trivial
section
section
variable {prog pt : Program} {w : World} {A₀ : Around} {base h₀ : Heap} {outer : List Env} {env : Env} {L : Addr} {m : Str → Option Value} {news : List (Addr × Obj)} {mean : ExcName → Option Value} {mg mb : Str → Option Value} {loose : List Str} {s : Shared} {Q E : Value → Shared → Prop} {dp un : Nat} {gd : Option (List Code)} {hdl : Option Value}
set_option maxHeartbeats 8000000 in
theorem put_spec (B : Below A₀ base outer h₀) (F : Fr h₀ L s.heap m) (X : (hd.heap_1 w.params).In h₀) (N : News h₀ L s.heap news) (T : Top pt loose mean mg mb h₀)
    (hf : env.frame = some L) (hk : env.scope.kind = .function) (hd : dp + 40 < recursionLimit) (hu : un + 400 < cLine)
    {sh tb tr : Addr} {Ta : Tab} {n g : Int} {t tg : Tok} {v : Value} {a : Val} (hs : ShelfIn prog w news sh tb tr) (ht : TabIn prog w news tb Ta) (h64 : Ta.length < 64) (hv : ValIn prog w news v a)
    (ret : ∀ h' tk' news', Fr h₀ L h' m → News h₀ L h' news' → SubI tb news news' → TabIn prog w news' tb (tset Ta n ⟨g, a⟩) → Q .none { s with heap := h', toks := tk' }) :
    wpAny (model prog w) (site none dp un gd env outer) (call (.ref 360) [.ref sh, .int n t, .int g tg, v]) Q E s := by
  with_reducible refine ShelfIn.opn hs fun ds h1 t1 h2 t2 k hi1 hi2 otr rf htr hot lotr hrf => ?_
  (refine wpAny_call ?_; k_dflt (refine' code_def (binds := [(Str.ofString "self", .ref sh), (Str.ofString "number", .int n t), (Str.ofString "generation", .int g tg), (Str.ofString "value", v)]) ?k1 ?k2 ?k3 ?k4 ?k5 ?kA ?kF ?kK ?k6 ?k7 ?k8 ?k9 ?kB ?_ ?c2 ?c3 ?c4 ?c5; (case kA => exact rfl); (case kF => assumption); (case kK => assumption); (case k1 => k_asm); (case k2 => k_asm); (case k3 => k_asm); (case k4 => k_asm); (case k5 => k_asm); (case k6 => k_is); (case k7 => k_is); (case k8 => (show dp < _; omega)); (case k9 => exact BindsTo.of_eq rfl); (case c5 => decide); (case kB => exact locs rfl); (case c2 => exact rfl); (case c3 => exact rfl); (case c4 => exact rfl); k_whole; intro g' L' h' FG' F' N' B' X' T'; (try dsimp only); (try k_fold)))
  k_steps
  exact ret _ _ _ (by k_asm) (by k_asm) (by ktr_unf) (by with_reducible assumption)
set_option maxHeartbeats 8000000 in
theorem drop_spec (B : Below A₀ base outer h₀) (F : Fr h₀ L s.heap m) (X : (hd.heap_1 w.params).In h₀) (N : News h₀ L s.heap news) (T : Top pt loose mean mg mb h₀)
    (hf : env.frame = some L) (hk : env.scope.kind = .function) (hd : dp + 40 < recursionLimit) (hu : un + 400 < cLine)
    {sh tb tr : Addr} {Ta : Tab} {n : Int} {t : Tok} (hs : ShelfIn prog w news sh tb tr) (ht : TabIn prog w news tb Ta) (h64 : Ta.length < 64)
    (ret : ∀ h' tk' news', Fr h₀ L h' m → News h₀ L h' news' → SubI tb news news' → TabIn prog w news' tb (tdel Ta n) → Q .none { s with heap := h', toks := tk' }) :
    wpAny (model prog w) (site none dp un gd env outer) (call (.ref 374) [.ref sh, .int n t]) Q E s := by
  with_reducible refine ShelfIn.opn hs fun ds h1 t1 h2 t2 k hi1 hi2 otr rf htr hot lotr hrf => ?_
  cases hl : look Ta n with
  | none =>
    (refine wpAny_call ?_; k_dflt (refine' code_def (binds := [(Str.ofString "self", .ref sh), (Str.ofString "number", .int n t)]) ?k1 ?k2 ?k3 ?k4 ?k5 ?kA ?kF ?kK ?k6 ?k7 ?k8 ?k9 ?kB ?_ ?c2 ?c3 ?c4 ?c5; (case kA => exact rfl); (case kF => assumption); (case kK => assumption); (case k1 => k_asm); (case k2 => k_asm); (case k3 => k_asm); (case k4 => k_asm); (case k5 => k_asm); (case k6 => k_is); (case k7 => k_is); (case k8 => (show dp < _; omega)); (case k9 => exact BindsTo.of_eq rfl); (case c5 => decide); (case kB => exact locs rfl); (case c2 => exact rfl); (case c3 => exact rfl); (case c4 => exact rfl); k_whole; intro g' L' h' FG' F' N' B' X' T'; (try dsimp only); (try k_fold)))
    k_steps
    exact ret _ _ _ (by k_asm) (by k_asm) Sub.rfl'.i (by rw [tdel_none hl]; with_reducible assumption)
  | some e =>
    (refine wpAny_call ?_; k_dflt (refine' code_def (binds := [(Str.ofString "self", .ref sh), (Str.ofString "number", .int n t)]) ?k1 ?k2 ?k3 ?k4 ?k5 ?kA ?kF ?kK ?k6 ?k7 ?k8 ?k9 ?kB ?_ ?c2 ?c3 ?c4 ?c5; (case kA => exact rfl); (case kF => assumption); (case kK => assumption); (case k1 => k_asm); (case k2 => k_asm); (case k3 => k_asm); (case k4 => k_asm); (case k5 => k_asm); (case k6 => k_is); (case k7 => k_is); (case k8 => (show dp < _; omega)); (case k9 => exact BindsTo.of_eq rfl); (case c5 => decide); (case kB => exact locs rfl); (case c2 => exact rfl); (case c3 => exact rfl); (case c4 => exact rfl); k_whole; intro g' L' h' FG' F' N' B' X' T'; (try dsimp only); (try k_fold)))
    k_steps
    exact ret _ _ _ (by k_asm) (by k_asm) (by ktr_unf) (by with_reducible assumption)
end
end
theorem offAdd : True := by
  w_top off
  exact trivial
section
theorem find_free {T : Tab} (b : Int) : ∃ f, b ≤ f ∧ look T f = none ∧ ∀ j, b ≤ j → j < f → look T j ≠ none := by
  have bound : ∃ u : Int, ∀ n, look T n ≠ none → n < u := by
    induction T with
    | nil => exact ⟨0, fun n h => absurd look_nil h⟩
    | cons p T ih =>
      obtain ⟨u, hu⟩ := ih
      refine ⟨max u (p.1 + 1), fun n h => ?_⟩
      obtain ⟨k, e⟩ := p
      rw [look_cons] at h
      by_cases q : k = n
      · subst q; simp only; omega
      · rw [if_neg q] at h; have := hu n h; omega
  obtain ⟨u, hu⟩ := bound
  have step : ∀ (d : Nat) (b : Int), u ≤ b + d → ∃ f, b ≤ f ∧ look T f = none ∧ ∀ j, b ≤ j → j < f → look T j ≠ none := by
    intro d
    induction d with
    | zero =>
      intro b h
      refine ⟨b, Int.le_refl _, ?_, fun j h1 h2 => by omega⟩
      cases q : look T b with
      | none => rfl
      | some e =>
        have := hu b (by rw [q]; simp)
        omega
    | succ d ih =>
      intro b h
      by_cases q : look T b = none
      · exact ⟨b, Int.le_refl _, q, fun j h1 h2 => by omega⟩
      · obtain ⟨f, h1, h2, h3⟩ := ih (b + 1) (by omega)
        refine ⟨f, by omega, h2, fun j h4 h5 => ?_⟩
        by_cases e : j = b
        · subst e; exact q
        · exact h3 j (by omega) h5
  exact step (u - b).toNat b (by omega)
section
variable {prog pt : Program} {w : World} {A₀ : Around} {base h₀ : Heap} {outer : List Env} {env : Env} {L : Addr} {m : Str → Option Value} {news : List (Addr × Obj)} {mean : ExcName → Option Value} {mg mb : Str → Option Value} {loose : List Str} {s : Shared} {Q E : Value → Shared → Prop} {dp un : Nat} {gd : Option (List Code)} {hdl : Option Value}
set_option maxHeartbeats 8000000 in
theorem add_spec (B : Below A₀ base outer h₀) (F : Fr h₀ L s.heap m) (X : (hd.heap_1 w.params).In h₀) (N : News h₀ L s.heap news) (T : Top pt loose mean mg mb h₀)
    (hf : env.frame = some L) (hk : env.scope.kind = .function) (hd : dp + 40 < recursionLimit) (hu : un + 400 < cLine)
    {sh tb tr : Addr} {Ta : Tab} {v : Value} {a : Val} {f : Int} (h1f : 1 ≤ f) (hff : look Ta f = none) (hfj : ∀ j, 1 ≤ j → j < f → look Ta j ≠ none)
    (hs : ShelfIn prog w news sh tb tr) (ht : TabIn prog w news tb Ta) (h64 : Ta.length < 64) (hv : ValIn prog w news v a)
    (ret : ∀ r h' tk' news', Fr h₀ L h' m → News h₀ L h' news' → SubI tb news news' → TabIn prog w news' tb (tset Ta f ⟨0, a⟩) → Q r { s with heap := h', toks := tk' }) :
    wpAny (model prog w) (site none dp un gd env outer) (call (.ref 367) [.ref sh, v]) Q E s := by
  with_reducible refine ShelfIn.opn hs fun ds h1 t1 h2 t2 k hi1 hi2 otr rf htr hot lotr hrf => ?_
  (refine wpAny_call ?_; k_dflt (refine' code_def (binds := [(Str.ofString "self", .ref sh), (Str.ofString "value", v)]) ?k1 ?k2 ?k3 ?k4 ?k5 ?kA ?kF ?kK ?k6 ?k7 ?k8 ?k9 ?kB ?_ ?c2 ?c3 ?c4 ?c5; (case kA => exact rfl); (case kF => assumption); (case kK => assumption); (case k1 => k_asm); (case k2 => k_asm); (case k3 => k_asm); (case k4 => k_asm); (case k5 => k_asm); (case k6 => k_is); (case k7 => k_is); (case k8 => (show dp < _; omega)); (case k9 => exact BindsTo.of_eq rfl); (case c5 => decide); (case kB => exact locs rfl); (case c2 => exact rfl); (case c3 => exact rfl); (case c4 => exact rfl); k_whole; intro g' L' h' FG' F' N' B' X' T'; (try dsimp only); (try k_fold)))
  k_steps
  rename Fr g' L' _ _ => F1
  rename News g' L' _ _ => N1
  refine While_inv (fun n m₁ l₁ => l₁ = news ∧ ∃ k t, m₁ (Str.ofString "number") = some (.int k t) ∧ m₁ (Str.ofString "self") = some (.ref sh) ∧ m₁ (Str.ofString "value") = some v ∧ 1 ≤ k ∧ k ≤ f ∧ n = (f - k).toNat) F1 N1 ⟨rfl, 1, _, rfl, rfl, rfl, by omega, h1f, rfl⟩ ?_
  clear F1 N1
  rintro n m₁ l₁ h₁ tk₁ F1 N1 ⟨rfl, k, t, hn, hse, hva, hk1, hkf, rfl⟩
  by_cases hkk : k = f
  · subst hkk
    k_steps
    exact ret _ _ _ _ (by k_asm) (by k_asm) (by ktr_unf) (by ktr_rel)
  · obtain ⟨e, he⟩ := Option.ne_none_iff_exists'.mp (hfj k hk1 (by omega))
    k_steps
    rename Fr g' L' _ _ => F2
    rename News g' L' _ _ => N2
    exact .intro F2 N2 (n' := (f - (k + 1)).toNat) (by omega) ⟨rfl, k + 1, _, rfl, hse, hva, by omega, by omega, rfl⟩
end
end
local macro_rules | `(tactic| walk_at "getMethod ref") => `(tactic| (k_search (getMethod (Value.ref _) (Str.ofString "get") _); tbr_iter (kob_method (knd := PySem.strKind _ _) PySem.F.slot_dict_get PySem.F.type_dict_get, "101 302 203 0/0")))
local macro_rules | `(tactic| walk_at "call builtin:dict.get") => `(tactic| (k_search (call (Value.builtin "dict.get") [Value.ref _, Value.str _ _]); tbr_iter (kdg_get1 (knd := PySem.strKind _ _), [101, 302, 203, 403, (strKind_is _ _ _ _), (some _), 519, 0], 0); (try dsimp only [Option.getD])))
local macro_rules | `(tactic| walk_at "call ref") => `(tactic| (k_search (call (Value.ref 374) [_, _]); ktf_call drop_spec))
local macro_rules | `(tactic| walk_at "call ref") => `(tactic| (k_search (call (Value.ref 360) [_, _, _, _]); ktf_call put_spec))
local macro_rules | `(tactic| ktr_rel) => `(tactic| first | with_reducible assumption | exact ValIn.nul | tbr_iter (ValIn.lst, "102") | tbr_iter (ValIn.sub, "103 205") | tbr_iter (ValIn.subI, "103 205"))
theorem offRoot : True := by
  w_top off
  exact trivial
section
section
variable {prog pt : Program} {w : World} {A₀ : Around} {base h₀ : Heap} {outer : List Env} {env : Env} {L : Addr} {m : Str → Option Value} {news : List (Addr × Obj)} {mean : ExcName → Option Value} {mg mb : Str → Option Value} {loose : List Str} {s : Shared} {Q E : Value → Shared → Prop} {dp un : Nat} {gd : Option (List Code)} {hdl : Option Value}
set_option maxHeartbeats 8000000 in
theorem fetch_spec (B : Below A₀ base outer h₀) (F : Fr h₀ L s.heap m) (X : (hd.heap_1 w.params).In h₀) (N : News h₀ L s.heap news) (T : Top pt loose mean mg mb h₀)
    (hf : env.frame = some L) (hk : env.scope.kind = .function) (hd : dp + 40 < recursionLimit) (hu : un + 400 < cLine)
    {sh tb tr rf : Addr} {Ta : Tab} {o : Option Ent} (hs : ShelfIn prog w news sh tb tr) (ht : TabIn prog w news tb Ta) (hl : look Ta 1 = o) (ho : o = none ∨ o = some ⟨0, .cat⟩)
    (hrf : Plain news (.ref rf) (Str.ofString "ref") (.tuple [.str (Str.ofString "ref"), .int 1, .int 0]))
    (ret : ∀ r h' tk' news', Fr h₀ L h' m → News h₀ L h' news' → Sub news news' → (o = none → r = .none) → (o = some ⟨0, .cat⟩ → ValIn prog w news' r .cat) → Q r { s with heap := h', toks := tk' }) :
    wpAny (model prog w) (site none dp un gd env outer) (call (.ref 332) [.ref sh, .ref rf]) Q E s := by
  with_reducible refine ShelfIn.opn hs fun ds h1 t1 h2 t2 k hi1 hi2 otr rf' htr hot lotr hrf' => ?_
  cases hrf with
  | ref r1 r2 =>
  (refine wpAny_call ?_; k_dflt (refine' code_def (binds := [(Str.ofString "self", .ref sh), (Str.ofString "value", .ref rf)]) ?k1 ?k2 ?k3 ?k4 ?k5 ?kA ?kF ?kK ?k6 ?k7 ?k8 ?k9 ?kB ?_ ?c2 ?c3 ?c4 ?c5; (case kA => exact rfl); (case kF => assumption); (case kK => assumption); (case k1 => k_asm); (case k2 => k_asm); (case k3 => k_asm); (case k4 => k_asm); (case k5 => k_asm); (case k6 => k_is); (case k7 => k_is); (case k8 => (show dp < _; omega)); (case k9 => exact BindsTo.of_eq rfl); (case c5 => decide); (case kB => exact locs rfl); (case c2 => exact rfl); (case c3 => exact rfl); (case c4 => exact rfl); k_whole; intro g' L' h' FG' F' N' B' X' T'; (try dsimp only); (try k_fold)))
  k_steps
  rename Fr g' L' _ _ => F1
  refine' for_range F1 rfl rfl rfl ?h
  k_steps
  rename Fr g' L' _ _ => F2
  rename News g' L' _ _ => N2
  rename IsRange _ _ _ _ _ _ _ _ => R2
  refine ⟨_, 0, 30, 1, _, _, _, 30, news, _, fun i m₁ l₁ => Sub news l₁ ∧ ∃ v, m₁ (Str.ofString "self") = some (.ref sh) ∧ m₁ (Str.ofString "here") = some v ∧ (i = 0 ∧ v = .ref rf ∨ i = 1 ∧ o = some ⟨0, .cat⟩ ∧ ValIn prog w l₁ v .cat), rfl, ⟨R2, by decide, by decide, F2, N2⟩, ⟨Sub.rfl', .ref rf, rfl, rfl, .inl ⟨rfl, rfl⟩⟩, fun g => ?turn, ?done⟩
  case done =>
    rintro h' tk m' l' F3 N3 ⟨_, _, _, _, ⟨h, _⟩ | ⟨h, _⟩⟩ <;> cases h
  case turn =>
    clear F2 N2 R2
    rintro i v m₁ l₁ I oI h tk hi hP ⟨e, v', hse, hhe, hv⟩ _ off hoF F3 N3
    rcases hv with ⟨rfl, rfl⟩ | ⟨rfl, rfl, hv⟩
    · rcases ho with rfl | rfl
      · k_steps
        dsimp only [LoopEnd]
        k_steps
        exact ret _ _ _ _ (by k_asm) (by k_asm) (by ktr_unf) (fun _ => rfl) (fun h => by cases h)
      · k_steps
        rename Fr g' L' _ _ => F4
        rename News g' L' _ _ => N4
        exact .sub F4 N4 off hoF (by ktr_unf) fun l' e2 _ => ⟨trivial, e.trans e2, _, hse, rfl, .inr ⟨by first | rfl | trivial, by first | rfl | trivial, ValIn.sub (by with_reducible assumption) (e.trans e2)⟩⟩
    · cases hv with
      | cat hm ho lo hp =>
      k_steps
      dsimp only [LoopEnd]
      k_steps
      exact ret _ _ _ _ (by k_asm) (by k_asm) (by ktr_unf) (fun h => by cases h) (fun _ => .cat (by k_mem) ho lo (hp.sub (by ktr_unf)))
end
section
variable {prog pt : Program} {w : World} {A₀ : Around} {base h₀ : Heap} {outer : List Env} {env : Env} {L : Addr} {m : Str → Option Value} {news : List (Addr × Obj)} {mean : ExcName → Option Value} {mg mb : Str → Option Value} {loose : List Str} {s : Shared} {Q E : Value → Shared → Prop} {dp un : Nat} {gd : Option (List Code)} {hdl : Option Value}
theorem fetchN_spec (B : Below A₀ base outer h₀) (F : Fr h₀ L s.heap m) (X : (hd.heap_1 w.params).In h₀) (N : News h₀ L s.heap news) (T : Top pt loose mean mg mb h₀)
    (hf : env.frame = some L) (hk : env.scope.kind = .function) (hd : dp + 40 < recursionLimit) (hu : un + 400 < cLine)
    {sh tb tr rf : Addr} {Ta : Tab} (hs : ShelfIn prog w news sh tb tr) (ht : TabIn prog w news tb Ta) (hl : look Ta 1 = none)
    (hrf : Plain news (.ref rf) (Str.ofString "ref") (.tuple [.str (Str.ofString "ref"), .int 1, .int 0]))
    (ret : ∀ h' tk' news', Fr h₀ L h' m → News h₀ L h' news' → Sub news news' → Q .none { s with heap := h', toks := tk' }) :
    wpAny (model prog w) (site none dp un gd env outer) (call (.ref 332) [.ref sh, .ref rf]) Q E s :=
  fetch_spec B F X N T hf hk hd hu hs ht hl (.inl rfl) hrf fun r h' tk' n' F' N' S' a _ => by rw [a rfl]; exact ret h' tk' n' F' N' S'
theorem fetchC_spec (B : Below A₀ base outer h₀) (F : Fr h₀ L s.heap m) (X : (hd.heap_1 w.params).In h₀) (N : News h₀ L s.heap news) (T : Top pt loose mean mg mb h₀)
    (hf : env.frame = some L) (hk : env.scope.kind = .function) (hd : dp + 40 < recursionLimit) (hu : un + 400 < cLine)
    {sh tb tr rf : Addr} {Ta : Tab} (hs : ShelfIn prog w news sh tb tr) (ht : TabIn prog w news tb Ta) (hl : look Ta 1 = some ⟨0, .cat⟩)
    (hrf : Plain news (.ref rf) (Str.ofString "ref") (.tuple [.str (Str.ofString "ref"), .int 1, .int 0]))
    (ret : ∀ d od nm h' tk' news', Fr h₀ L h' m → News h₀ L h' news' → Sub news news' → (d, od) ∈ news' → od.IsDictOf (PySem.strKind prog w) [(Str.ofString "Type", .ref nm)] → (d == sysModules) = false → Q (.ref d) { s with heap := h', toks := tk' }) :
    wpAny (model prog w) (site none dp un gd env outer) (call (.ref 332) [.ref sh, .ref rf]) Q E s :=
  fetch_spec B F X N T hf hk hd hu hs ht hl (.inr rfl) hrf fun r h' tk' n' F' N' S' _ b => by
    cases b rfl with
    | cat hm ho lo hp => exact ret _ _ _ h' tk' n' F' N' S' hm ho lo
end
end
local macro_rules | `(tactic| walk_at "call ref") => `(tactic| (k_search (call (Value.ref 332) [_, _]); ktf_call fetchN_spec))
local macro_rules | `(tactic| walk_at "call ref") => `(tactic| (k_search (call (Value.ref 332) [_, _]); ktf_call fetchC_spec))
theorem offSCopy : True := by
  w_top off
  exact trivial
section
def TNodup (T : Tab) : Prop := (T.map (·.1)).Nodup
theorem look_at {T : Tab} (hn : TNodup T) {i : Nat} {k : Int} {e : Ent} (h : T[i]? = some (k, e)) : look T k = some e := by
  induction T generalizing i with
  | nil => simp at h
  | cons p T ih =>
    obtain ⟨j, e'⟩ := p
    unfold TNodup at hn
    rw [List.map_cons, List.nodup_cons] at hn
    rw [look_cons]
    cases i with
    | zero => simp at h; simp [h.1, h.2]
    | succ i =>
      rw [List.getElem?_cons_succ] at h
      have hm : k ∈ T.map (·.1) := List.mem_map.mpr ⟨(k, e), List.mem_of_getElem? h, rfl⟩
      rw [if_neg (fun q => hn.1 (by rw [q]; exact hm))]
      exact ih hn.2 h
theorem look_take_none {T : Tab} (hn : TNodup T) {i : Nat} {k : Int} {e : Ent} (h : T[i]? = some (k, e)) : look (T.take i) k = none := by
  induction T generalizing i with
  | nil => simp at h
  | cons p T ih =>
    obtain ⟨j, e'⟩ := p
    unfold TNodup at hn
    rw [List.map_cons, List.nodup_cons] at hn
    cases i with
    | zero => rfl
    | succ i =>
      rw [List.getElem?_cons_succ] at h
      have hm : k ∈ T.map (·.1) := List.mem_map.mpr ⟨(k, e), List.mem_of_getElem? h, rfl⟩
      rw [List.take_succ_cons, look_cons, if_neg (fun q => hn.1 (by rw [q]; exact hm))]
      exact ih hn.2 h
theorem tset_take {T : Tab} (hn : TNodup T) {i : Nat} {k : Int} {e : Ent} (h : T[i]? = some (k, e)) : tset (T.take i) k e = T.take (i + 1) := by
  unfold tset
  rw [any_look, look_take_none hn h, if_neg (by decide), List.take_succ, h]
  rfl
theorem EntsIn.get {prog : Program} {w : World} {l : Led} : ∀ {kvs : List (Int × Value)} {T : Tab}, EntsIn prog w l kvs T → ∀ {i : Nat} {k : Int} {x : Value}, kvs[i]? = some (k, x) → ∃ e, T[i]? = some (k, e) ∧ EntIn prog w l x e
  | _, _, .nil, _, _, _, h => by simp at h
  | _, _, .cons (e := e) a b, 0, k, x, h => by
    simp at h
    obtain ⟨rfl, rfl⟩ := h
    exact ⟨e, rfl, a⟩
  | _, _, .cons a b, i + 1, k, x, h => by
    rw [List.getElem?_cons_succ] at h
    exact EntsIn.get b h
theorem TabIn.nodup {prog : Program} {w : World} {l : Led} {tb : Addr} {T : Tab} (h : TabIn prog w l tb T) : TNodup T := by
  obtain ⟨⟨o, kvs, x, y, z⟩, lo⟩ := h
  obtain ⟨_, _, _, _, _, _, hn⟩ := y
  unfold TNodup
  rw [← z.keys]
  exact hn
section
variable {prog pt : Program} {w : World} {A₀ : Around} {base h₀ : Heap} {outer : List Env} {env : Env} {L : Addr} {m : Str → Option Value} {news : List (Addr × Obj)} {mean : ExcName → Option Value} {mg mb : Str → Option Value} {loose : List Str} {s : Shared} {Q E : Value → Shared → Prop} {dp un : Nat} {gd : Option (List Code)} {hdl : Option Value}
set_option maxHeartbeats 8000000 in
theorem scopy_spec (B : Below A₀ base outer h₀) (F : Fr h₀ L s.heap m) (X : (hd.heap_1 w.params).In h₀) (N : News h₀ L s.heap news) (T : Top pt loose mean mg mb h₀)
    (hf : env.frame = some L) (hk : env.scope.kind = .function) (hd : dp + 80 < recursionLimit) (hu : un + 800 < cLine)
    {sh tb tr : Addr} {Ta : Tab} (hs : ShelfIn prog w news sh tb tr) (ht : TabIn prog w news tb Ta) (h64 : Ta.length < 64)
    (ret : ∀ sh' tb' tr' h' tk' news', Fr h₀ L h' m → News h₀ L h' news' → Sub news news' → ShelfIn prog w news' sh' tb' tr' → TabIn prog w news' tb' Ta → (∀ p ∈ news, p.1 ≠ tb') → Q (.ref sh') { s with heap := h', toks := tk' }) :
    wpAny (model prog w) (site none dp un gd env outer) (call (.ref 405) [.ref sh]) Q E s := by
  with_reducible refine ShelfIn.opn hs fun ds h1 t1 h2 t2 k hi1 hi2 otr rf htr hot lotr hrf => ?_
  obtain ⟨⟨otb, kvs, htb, hotb, hes⟩, lotb⟩ := id ht
  have hnd := ht.nodup
  (refine wpAny_call ?_; k_dflt (refine' code_def (binds := [(Str.ofString "shelf", .ref sh)]) ?k1 ?k2 ?k3 ?k4 ?k5 ?kA ?kF ?kK ?k6 ?k7 ?k8 ?k9 ?kB ?_ ?c2 ?c3 ?c4 ?c5; (case kA => exact rfl); (case kF => assumption); (case kK => assumption); (case k1 => k_asm); (case k2 => k_asm); (case k3 => k_asm); (case k4 => k_asm); (case k5 => k_asm); (case k6 => k_is); (case k7 => k_is); (case k8 => (show dp < _; omega)); (case k9 => exact BindsTo.of_eq rfl); (case c5 => decide); (case kB => exact locs rfl); (case c2 => exact rfl); (case c3 => exact rfl); (case c4 => exact rfl); k_whole; intro g' L' h' FG' F' N' B' X' T'; (try dsimp only); (try k_fold)))
  k_steps
  rename Fr g' L' _ _ => F1
  rename News g' L' _ _ => N1
  refine' for_keys (knd := intKind prog w) F1 rfl rfl rfl ?h
  rename Obj.IsDictOf (intKind prog w) _ [] => hD
  k_steps
  rename Fr g' L' _ _ => F2
  rename News g' L' _ _ => N2
  rename_i D' _ oD l1 loD _ _ _ _
  refine ⟨tb, otb, kvs, _, _, fun i m₁ l₁ => Sub news l₁ ∧ m₁ (Str.ofString "shelf") = some (.ref sh) ∧ m₁ (Str.ofString "table") = some (.ref D') ∧ TabIn prog w l₁ D' (Ta.take i), rfl, ⟨F2, N2, .tail _ htb, hotb, lotb⟩, ⟨Sub.one, rfl, rfl, ⟨oD, [], .head _, hD, .nil⟩, loD⟩, fun g => ?turn, ?done⟩
  case turn =>
    clear F2 N2
    rintro i v m₁ l₁ I oI h tk hi ⟨n, x, hkv, hP⟩ ⟨e, hsh, htab, hT⟩ hS off hoF F3 N3
    obtain ⟨t, rfl⟩ := Value.isInt_shape hP
    obtain ⟨en, hTa, _⟩ := hes.get hkv
    have hl := look_at hnd hTa
    have hz : (Ta.take i).length < 64 := by rw [List.length_take]; omega
    k_steps
    rename Fr g' L' _ _ => F4
    rename News g' L' _ _ => N4
    rename TabIn _ _ _ D' (tset _ _ _) => T4
    rw [tset_take hnd hTa] at T4
    exact .go D' F4 N4 off hoF (by ktr_unf) fun l' e2 f2 => ⟨e2 _ hS (.inl (Nat.ne_of_lt (l1 _ htb))), fun p hp => e2 p (e p hp) (.inl (Nat.ne_of_lt (l1 p hp))), hsh, htab, T4.subF f2⟩
  case done =>
    rintro h' tk m' l' F3 N3 hm ⟨e, hsh, htab, hT⟩
    rw [List.take_of_length_le (by rw [hes.length]; exact Nat.le_refl _)] at hT
    k_steps
    exact ret _ D' _ _ _ _ (by k_asm) (by k_asm) (by ktr_unf) ⟨⟨_, _, _, _, _, _, .head _, .tail _ (.head _)⟩, _, rf, by k_mem, by with_reducible assumption, by with_reducible assumption, hrf.sub (by ktr_unf)⟩ (hT.sub (by ktr_unf)) (fun p hp => Nat.ne_of_lt (l1 p hp))
end
end
local macro_rules | `(tactic| walk_at "call ref") => `(tactic| (k_search (call (Value.ref 405) [_]); ktf_call scopy_spec))
theorem offTurnA : True := by
  w_top off
  exact trivial
section
section
variable {prog : Program} {w : World} {A : Around} {E : Value → Shared → Prop} {s : Shared} {h₀ : Heap} {L : Addr} {news : Led}
theorem eq_nil {a b : Addr} {oa ob : Obj} {Q : Value → Shared → Prop} (N : News h₀ L s.heap news) (ma : (a, oa) ∈ news) (ha : oa.IsDictOf (PySem.strKind prog w) []) (la : (a == sysModules) = false)
    (mb : (b, ob) ∈ news) (hb : ob.IsDictOf (PySem.strKind prog w) []) (lb : (b == sysModules) = false) (hu : A.units < cLine) (h : Q (.bool true) s) : wpAny (model prog w) A (compareOp .Eq (.ref a) (.ref b)) Q E s :=
  keq_eq (r := true) la lb (kda_dict N ma ha) (kda_dict N mb hb) hu (fun _ => .nil) h
theorem eq_one {a b : Addr} {oa ob : Obj} {k : Str} {v : Value} {Q : Value → Shared → Prop} (N : News h₀ L s.heap news) (ma : (a, oa) ∈ news) (ha : oa.IsDictOf (PySem.strKind prog w) [(k, v)]) (la : (a == sysModules) = false)
    (mb : (b, ob) ∈ news) (hb : ob.IsDictOf (PySem.strKind prog w) []) (lb : (b == sysModules) = false) (hu : A.units < cLine) (h : Q (.bool false) s) : wpAny (model prog w) A (compareOp .Eq (.ref a) (.ref b)) Q E s :=
  keq_eq (r := false) la lb (kda_dict N ma ha) (kda_dict N mb hb) hu (fun q => by simp at q) h
end
/-- a bench: its object, its data, its shelf -/
def BenchIn (news : Led) (bn sh : Addr) (d : Array UInt8) : Prop := ∃ db h1 t1 t0 h2 t2 h3 t3 n, (bn, instObj 78 db) ∈ news ∧
  (db, W.dictOf [⟨h1, .str (Str.ofString "data") t1, .bytes d t0⟩, ⟨h2, .str (Str.ofString "base") t2, .none⟩, ⟨h3, .str (Str.ofString "shelf") t3, .ref sh⟩] n) ∈ news
theorem BenchIn.opn {news : Led} {bn sh : Addr} {d : Array UInt8} {G : Prop} (h : BenchIn news bn sh d) (k : ∀ db h1 t1 t0 h2 t2 h3 t3 n, (bn, instObj 78 db) ∈ news → (db, W.dictOf [⟨h1, .str (Str.ofString "data") t1, .bytes d t0⟩, ⟨h2, .str (Str.ofString "base") t2, .none⟩, ⟨h3, .str (Str.ofString "shelf") t3, .ref sh⟩] n) ∈ news → G) : G := by
  obtain ⟨db, h1, t1, t0, h2, t2, h3, t3, n, a, b⟩ := h
  exact k db h1 t1 t0 h2 t2 h3 t3 n a b
theorem BenchIn.sub {l l' : Led} {bn sh : Addr} {d : Array UInt8} (h : BenchIn l bn sh d) (e : Sub l l') : BenchIn l' bn sh d := by
  obtain ⟨db, h1, t1, t0, h2, t2, h3, t3, n, a, b⟩ := h
  exact ⟨db, h1, t1, t0, h2, t2, h3, t3, n, e _ a, e _ b⟩
theorem BenchIn.subR {l l' : Led} {bn sh : Addr} {d : Array UInt8} (h : BenchIn l bn sh d) (e : SubR l l') : BenchIn l' bn sh d := by
  obtain ⟨db, h1, t1, t0, h2, t2, h3, t3, n, a, b⟩ := h
  exact ⟨db, h1, t1, t0, h2, t2, h3, t3, n, e _ a notInt_inst notF_inst notC_inst notT_inst, e _ b notInt_dictOf notF_dictOf notC_dictOf notT_dictOf⟩
theorem BenchIn.subP {l l' : Led} {bn sh : Addr} {d : Array UInt8} (h : BenchIn l bn sh d) (e : SubP l l') : BenchIn l' bn sh d := h.subR e.r
theorem BenchIn.subI {a : Addr} {l l' : Led} {bn sh : Addr} {d : Array UInt8} (h : BenchIn l bn sh d) (e : SubI a l l') : BenchIn l' bn sh d := h.subP e.p
/-- what is kept from an earlier ledger -/
def Held (P : Led → Prop) (l : Led) : Prop := ∃ l₀, P l₀ ∧ SubP l₀ l
theorem SubP.trans {l l' l'' : Led} (h : SubP l l') (h' : SubP l' l'') : SubP l l'' := fun p hp a b => h' p (h p hp a b) a b
theorem Sub.p {l l' : Led} (h : Sub l l') : SubP l l' := fun p hp _ _ => h p hp
theorem Held.subP {P : Led → Prop} {l l' : Led} (h : Held P l) (e : SubP l l') : Held P l' := by
  obtain ⟨l₀, a, b⟩ := h
  exact ⟨l₀, a, b.trans e⟩
theorem Held.sub {P : Led → Prop} {l l' : Led} (h : Held P l) (e : Sub l l') : Held P l' := h.subP e.p
theorem Held.subI {P : Led → Prop} {a : Addr} {l l' : Led} (h : Held P l) (e : SubI a l l') : Held P l' := h.subP e.p
end
local macro_rules | `(tactic| walk_at "compareOp Eq ref ref") => `(tactic| (tbr_iter (eq_nil, "101 202 303 403 502 603 703 813 0/0")))
local macro_rules | `(tactic| walk_at "compareOp Eq ref ref") => `(tactic| (tbr_iter (eq_one, "101 402 203 503 602 303 703 813 0/0")))
theorem offTurned : True := by
  w_top off
  exact trivial
section
section
variable {prog pt : Program} {w : World} {A₀ : Around} {base h₀ : Heap} {outer : List Env} {env : Env} {L : Addr} {m : Str → Option Value} {news : List (Addr × Obj)} {mean : ExcName → Option Value} {mg mb : Str → Option Value} {loose : List Str} {s : Shared} {Q E : Value → Shared → Prop} {dp un : Nat} {gd : Option (List Code)} {hdl : Option Value}
set_option maxHeartbeats 8000000 in
theorem turnedC_spec (B : Below A₀ base outer h₀) (F : Fr h₀ L s.heap m) (X : (hd.heap_1 w.params).In h₀) (N : News h₀ L s.heap news) (T : Top pt loose mean mg mb h₀)
    (hf : env.frame = some L) (hk : env.scope.kind = .function) (hd : dp + 90 < recursionLimit) (hu : un + 900 < cLine)
    {bn sh₀ sh tb tr : Addr} {Ta : Tab} {d : Array UInt8} (hb : BenchIn news bn sh₀ d) (hs : ShelfIn prog w news sh tb tr) (ht : TabIn prog w news tb Ta) (hl : look Ta 1 = some ⟨0, .cat⟩)
    (ret : ∀ bn' h' tk' news', Fr h₀ L h' m → News h₀ L h' news' → Sub news news' → BenchIn news' bn' sh d → Q (.ref bn') { s with heap := h', toks := tk' }) :
    wpAny (model prog w) (site none dp un gd env outer) (call (.ref 89) [.ref bn, .ref sh]) Q E s := by
  with_reducible refine ShelfIn.opn hs fun ds h1 t1 h2 t2 k hi1 hi2 otr rf htr hot lotr hrf => ?_
  with_reducible refine BenchIn.opn hb fun db h1 t1 t0 h2 t2 h3 t3 n hb1 hb2 => ?_
  (refine wpAny_call ?_; k_dflt (refine' code_def (binds := [(Str.ofString "bench", .ref bn), (Str.ofString "shelf", .ref sh)]) ?k1 ?k2 ?k3 ?k4 ?k5 ?kA ?kF ?kK ?k6 ?k7 ?k8 ?k9 ?kB ?_ ?c2 ?c3 ?c4 ?c5; (case kA => exact rfl); (case kF => assumption); (case kK => assumption); (case k1 => k_asm); (case k2 => k_asm); (case k3 => k_asm); (case k4 => k_asm); (case k5 => k_asm); (case k6 => k_is); (case k7 => k_is); (case k8 => (show dp < _; omega)); (case k9 => exact BindsTo.of_eq rfl); (case c5 => decide); (case kB => exact locs rfl); (case c2 => exact rfl); (case c3 => exact rfl); (case c4 => exact rfl); k_whole; intro g' L' h' FG' F' N' B' X' T'; (try dsimp only); (try k_fold)))
  k_steps
  exact ret _ _ _ _ (by k_asm) (by k_asm) (by ktr_unf) ⟨_, _, _, _, _, _, _, _, _, .head _, .tail _ (.head _)⟩
end
end
local macro_rules | `(tactic| walk_at "mine C") => `(tactic| ((with_reducible show BenchIn _ _ _ _); ktr_rel))
local macro_rules | `(tactic| ktr_rel) => `(tactic| first | with_reducible assumption | tbr_iter (BenchIn.sub, "103 205") | tbr_iter (BenchIn.subI, "103 205"))
local macro_rules | `(tactic| ktr_rel) => `(tactic| first | with_reducible assumption | tbr_iter (ShelfIn.sub, "103 205") | tbr_iter (ShelfIn.subI, "103 205"))
local macro_rules | `(tactic| walk_at "call ref") => `(tactic| (k_search (call (Value.ref 89) [_, _]); ktf_call turnedC_spec))
theorem offCompR : True := by
  w_top off
  exact trivial
section
section
variable {prog : Program} {w : World} {A : Around} {E : Value → Shared → Prop} {s : Shared} {h₀ : Heap} {L : Addr} {m : Str → Option Value} {env : Env}
open LCg LCt
/-- a range, walked by a comprehension -/
def SrcR (h₀ : Heap) (L : Addr) (m : Str → Option Value) (r : Addr) (a b : Int) (n : Nat) (l : Led) (s₁ : Shared) : Prop :=
  (∃ t u v, IsRange s₁.heap r a b 1 t u v) ∧ Builtin.Range.small a b 1 = true ∧ Builtin.Range.rangeSize a b 1 = (n : Nat) ∧ Fr h₀ L s₁.heap m ∧ News h₀ L s₁.heap l ∧ n ≤ sizeLine
end
section
variable {prog : Program} {w : World} {A : Around} {E : Value → Shared → Prop} {s : Shared} {h₀ : Heap} {L : Addr} {m : Str → Option Value} {env : Env}
open LCg LCt
theorem assign_RT {ct elt iter : Expr} {x y : Str} {px py : Pos} {scope : Scope} {cl : List (Str × Addr)} {pos spos : Pos} {Q : Flow → Shared → Prop} (F₀ : Fr h₀ L s.heap m) (hA : A.handled = none) (hLe : env.locals = L)
    (hsw : swapsWith (.ListComp elt [⟨.Name x px, iter, [ct], 0⟩] scope pos) (some (.Name y py)) spos.line env = pure true)
    (hclos : closureFor scope env = pure cl) (hcell : ∀ z ∈ scope.names, z.2 ≠ .cell) (hkind : scope.kind = .function)
    (hnames : ∀ z ∈ scope.names, z.2 = .local → scope.names.lookup z.1 = some .local) (hx : scope.names.lookup x = some .local)
    (hy : env.kindOf y = some .local) (hp : (env.scope.kind == .class || (env.scope.kind == .module && env.locals != env.globals)) = false)
    (h : wpAny (model prog w) A (eval iter env) (fun xv s₁ => Halt (∃ r a b n l, ∃ J : Nat → List Value → Led → Prop, xv = .ref r ∧ SrcR h₀ L m r a b n l s₁ ∧ J 0 [] l ∧
      (∀ g, TurnT prog w A h₀ L m env ct elt x scope cl { s₁ with heap := g } (fun _ => True) (fun i v => ∃ t, v = .int (a + i) t) J) ∧
      ∀ D h tk ys l', J n ys l' → Fr h₀ L h (fun z => if z = y then some (.ref D) else m z) → News h₀ L h ((D, lst ys) :: l') → (∀ p ∈ l', p.1 ≠ D) → Q .next { s₁ with heap := h, toks := tk })) E s)
    (hs : ∀ x, foldedSetIterable iter env x = pure x := by intro _; rfl) :
    wpAny (model prog w) A (exec (.Assign [.Name y py] (.ListComp elt [⟨.Name x px, iter, [ct], 0⟩] scope pos) spos) env) Q E s := by
  refine Assign_ListComp_T F₀ hLe hsw hclos hcell hkind hnames hx hy hp (wpAny_mono h (fun xv s₁ h₁ => ?_) fun _ _ e => e) hs
  obtain ⟨r, a, b, n, l, J, rfl, ⟨⟨t, u, v, R⟩, hsm, hn, F, N, hsz⟩, hJ, turn, done⟩ := h₁
  exact CompSrcT.range hA F N R hsm hn hsz fun g => turns_T (turn g) (fun _ _ _ S => S) (fun ys l' hJ D h tk F' N' o1 => done D h tk ys l' hJ F' N' (off1_mem o1)) n 0 [] l (by omega) trivial hJ
end
end
local macro_rules | `(tactic| walk_at "exec Assign cons ListComp") => `(tactic| refine halt ?_)
theorem offCompX : True := by
  w_top off
  exact trivial
section
section
variable {prog : Program} {w : World} {A : Around} {E : Value → Shared → Prop} {s : Shared} {h₀ : Heap} {L : Addr} {m : Str → Option Value} {env : Env}
open LCg LCt
/-- behind a turn that may change what stands: the block's own three stand still -/
def TurnEndX (h₀ : Heap) (L : Addr) (m : Str → Option Value) (s₁ : Shared) (I : Addr) (oI : Obj) (C : Addr) (oC : Obj) (D : Addr) (oD : Obj) (J : Led → Prop) (s' : Shared) : Prop :=
  ∃ h' tk' all, s' = { s₁ with heap := h', toks := tk' } ∧ Fr h₀ L h' m ∧ News h₀ L h' all ∧ (I, oI) ∈ all ∧ (C, oC) ∈ all ∧ (D, oD) ∈ all ∧ ∀ l', (∀ p ∈ all, p.1 ≠ I → p.1 ≠ C → p.1 ≠ D → p ∈ l') → J l'
theorem TurnEndX.end {s₁ s' : Shared} {I C D : Addr} {oI oC oD : Obj} {J : Led → Prop} {rest : Value → Led → Prop} {y : Value} (h : TurnEndX h₀ L m s₁ I oI C oC D oD J s') (k : ∀ l', J l' → rest y l') :
    CompEnd h₀ L m s₁ I oI C oC D oD (fun _ => True) rest y s' := by
  obtain ⟨h', tk', all, rfl, F', N', i1, i2, i3, hJ⟩ := h
  refine CompEnd.intro F' N' (rest3 I C D all) (fun p hp => ?_) (Off3.of fun p hp => (of_rest3 hp).2) trivial (k _ (hJ _ fun p hp a b c => mem_rest3 hp a b c))
  rcases List.mem_cons.mp hp with rfl | hp
  · exact i1
  rcases List.mem_cons.mp hp with rfl | hp
  · exact i2
  rcases List.mem_cons.mp hp with rfl | hp
  · exact i3
  exact (of_rest3 hp).1
def TurnX (prog : Program) (w : World) (A : Around) (h₀ : Heap) (L : Addr) (m : Str → Option Value) (env : Env) (elt : Expr) (x : Str) (scope : Scope) (cl : List (Str × Addr)) (s₁ : Shared) (n : Nat) (P : Nat → Value → Prop) (J : Nat → List Value → Led → Prop) : Prop :=
  ∀ i v ys l I oI C oC D m₂ h tk (E' : Value → Shared → Prop), i < n → P i v → J i ys l → (∀ p ∈ l, p.1 ≠ I ∧ p.1 ≠ C ∧ p.1 ≠ D) → NsObj oC m₂ → m₂ x = some v → Fr h₀ L h m → News h₀ L h ((I, oI) :: (C, oC) :: (D, lst ys) :: l) →
    wpAny (model prog w) A (eval elt (compEnvC scope cl C env)) (fun y s' => TurnEndX h₀ L m { s₁ with heap := h, toks := tk } I oI C oC D (lst ys) (J (i + 1) (ys ++ [y])) s') E' { s₁ with heap := h, toks := tk }
theorem turns_X {elt : Expr} {x : Str} {scope : Scope} {cl : List (Str × Addr)} {P : Nat → Value → Prop} {J : Nat → List Value → Led → Prop} {Fin : List Value → Led → Prop} {n : Nat}
    (turn : TurnX prog w A h₀ L m env elt x scope cl s n P J) (fin : ∀ ys l, J n ys l → Fin ys l) :
    ∀ (k i : Nat) (ys : List Value) (l : Led), i + k = n → J i ys l → CompRest prog w A h₀ L m env elt x scope cl s (fun _ => True) P Fin k i ys l
  | 0, i, ys, l, e, hJ => fin ys l (by rw [← e]; exact hJ)
  | k + 1, i, ys, l, e, hJ => .succ fun v I oI C oC D m₂ h tk E' hP hC hx F N off _ => by
    refine wpAny_mono (turn i v ys l I oI C oC D m₂ h tk E' (by omega) hP hJ off.mem hC hx F N) (fun y s' hT => ?_) fun _ _ e => e
    exact hT.end fun l' hJ' => turns_X turn fin k (i + 1) (ys ++ [y]) l' (by omega) hJ'
/-- a comprehension over a range whose turns may change what stands -/
theorem listComp_RX {elt iter : Expr} {x : Str} {px : Pos} {scope : Scope} {cl : List (Str × Addr)} {pos : Pos} {Q : Value → Shared → Prop} (_F₀ : Fr h₀ L s.heap m) (hA : A.handled = none)
    (hclos : closureFor scope env = pure cl) (hcell : ∀ y ∈ scope.names, y.2 ≠ .cell) (hkind : scope.kind = .function)
    (hnames : ∀ y ∈ scope.names, y.2 = .local → scope.names.lookup y.1 = some .local) (hx : scope.names.lookup x = some .local)
    (h : wpAny (model prog w) A (eval iter env) (fun xv s₁ => Halt (Ex6 fun r a b n l (J : Nat → List Value → Led → Prop) => C5 (xv = .ref r) (SrcR h₀ L m r a b n l s₁) (J 0 [] l) ((∀ g, TurnX prog w A h₀ L m env elt x scope cl { s₁ with heap := g } n (fun i v => ∃ t, v = .int (a + i * 1) t) J)) (∀ D h tk ys l', J n ys l' → Fr h₀ L h m → News h₀ L h ((D, lst ys) :: l') → (∀ p ∈ l', p.1 ≠ D) → Q (.ref D) { s₁ with heap := h, toks := tk }))) E s)
    (hs : ∀ x, foldedSetIterable iter env x = pure x := by intro _; rfl) :
    wpAny (model prog w) A (eval (.ListComp elt [⟨.Name x px, iter, [], 0⟩] scope pos) env) Q E s := by
  rw [eval_ListComp]
  refine wpAny_comprehension_free (use := none) rfl hs hclos hkind hnames (wpAny_mono h (fun xv s₁ h₁ => ?_) fun _ _ e => e)
  obtain ⟨r, a, b, n, l, J, rfl, ⟨⟨t, u, v, R⟩, hsm, hn, F, N, hsz⟩, hJ, turn, done⟩ := h₁
  refine wpAny_pyIter_range R hsm ?_
  have up : ∀ b' o, s₁.heap.get? b' = some o → (s₁.heap.push { cls := .type "range_iterator", data := .fields #[rawInt a, rawInt (Builtin.Range.rangeSize a b 1), rawInt 1] }).get? b' = some o := fun b o e => Heap.get?_push_of_some _ e
  refine block_U (S := fun _ => True) (Walks.range hA s₁.heap.objs.size a 1 n) hsz (fun i h st => ⟨_, st⟩)
    (fun i h h' o nw st e e' kk N S => by
      have : h.get? s₁.heap.objs.size = _ := st
      rw [e] at this
      cases this
      exact e') hcell hkind hx ?_ (fun b hb => ?_)
    (F.keeps up) (N.grown up) (Nat.ne_of_lt F.ns.lt) (next_is_new F) (fun p hp => Nat.ne_of_lt (Heap.lt_size (N p hp).1)) trivial (turns_X (turn _) (Fin := fun ys l' => J n ys l') (fun ys l' hJ => hJ) n 0 [] l (by omega) hJ) ?_
  · show IsRangeIter _ _ (a + ((0 : Nat) : Int) * 1) ((n : Int) - ((0 : Nat) : Int)) 1
    have e1 : a + ((0 : Nat) : Int) * 1 = a := by simp
    have e2 : (n : Int) - ((0 : Nat) : Int) = (n : Int) := by simp
    rw [e1, e2, ← hn]
    exact Heap.get?_push_size _ rfl
  · show b < (s₁.heap.push _).objs.size
    rw [Heap.size_push, List.mem_singleton.mp hb]
    exact Nat.lt_succ_self _
  · intro D C h tk m' ys news' F' N' o1 hn hC₀ hD₀ hCL hDL hCD offC fin
    have o1' := off1_mem o1
    refine ⟨m', hn, fun h'' hs'' => done D h'' tk ys news' fin (F'.change hs'' hCL hC₀) (fun p hp => ?_) o1'⟩
    refine ⟨hs''.extBut _ _ ?_ (N' p hp).1, (N' p hp).2⟩
    rcases List.mem_cons.mp hp with rfl | hp
    · exact Ne.symm hCD
    · exact offC p hp
end
end
theorem offFault : True := by
  w_top off
  exact trivial
section
abbrev faultObj (t : Addr) : Obj := { cls := .ref 59, data := .fields #[.ref t, .none, .none, .none, .bool false, .none] }
theorem fault_cls {w : World} {h : Heap} (X : (hd.heap_1 w.params).In h) : ∃ nm q N bs hdct sn sub ab col dd k0 k1 k2 k3 k5, h.get? 59 = some (excClassObj nm q 59 N bs [.ref 46, .type "Exception", .type "BaseException", .type "object"] hdct sn sub ab col dd k0 k1 k2 k3 k5 "Exception.__new__") :=
  ⟨_, _, _, _, _, _, _, _, _, _, _, _, _, _, _, X 59 _ rfl⟩
theorem fault_init {w : World} : findIn (hd.heap_1 w.params) (.ref 59) (Str.ofString "__init__") = some (some (.ref 36)) := by rfl
theorem fault_fn {w : World} : typeIn (hd.heap_1 w.params) (.ref 36) = some (.type "function") := by rfl
theorem fault_set {w : World} : findIn (hd.heap_1 w.params) (.ref 59) (Str.ofString "__setattr__") = some (some (.builtin "object.__setattr__")) := by rfl
theorem fault_what {w : World} : findIn (hd.heap_1 w.params) (.ref 59) (Str.ofString "what") = some none := by rfl
theorem exc_init_of : findIn [] (.type "Exception") (Str.ofString "__init__") = some (some (.builtin "Exception.__init__")) := by decide +kernel
theorem exc_find : findCls [] (.type "Exception") (.type "type") (Str.ofString "__init__") = some (.val (.builtin "Exception.__init__")) := by kernel_rfl
abbrev faultMro : List Value := [.ref 46, .type "Exception", .type "BaseException", .type "object"]
section
variable {prog : Program} {w : World} {A : Around} {E : Value → Shared → Prop} {h : Heap} {g : Array GenState} {d : Drawn} {t : Nat} {os : OsState}
variable {nm q : Str} {N : Addr} {bs : List Value} {hdct : Bool} {sn : List Str} {sub : List Value} {ab : Bool} {col : Option Bool} {dd : Option Addr} {k0 k1 k2 k3 k5 : Option Value}
theorem fault_check_new {M : Model} {rest : List Value} {Q : Unit → Shared → Prop} (hC : h.get? 59 = some (excClassObj nm q 59 N bs faultMro hdct sn sub ab col dd k0 k1 k2 k3 k5 "Exception.__new__"))
    (hq : Q () ⟨h, g, d, t, os⟩) : wpAny M A (checkBuiltinCall "Exception.__new__" ⟨.ref 59 :: rest, []⟩) Q E ⟨h, g, d, t, os⟩ := by
  have Fn := PySem.F.excBase_Exception
  have hcont : (Value.ref 59 :: faultMro).contains (.type "Exception") = true := by decide
  have hstar := Fn.noStar
  simp only [checkBuiltinCall, Fn.newKind, Fn.newSplit, Fn.newRow]
  repeat (first | refine wpAny_loadPart_at hC ?_ | (refine wpAny_isSubtype_exc hC ?_; rw [hcont]) | refine wpAny_staticBase_exc hC ?_ | refine wpAny_madeBy_exc hC ?_ | simp only [bne_self_eq_false, Bool.false_eq_true, if_false] | wp_step)
  exact hq
theorem fault_new {R : Result → Shared → Prop} {rest : List Value} (hC : h.get? 59 = some (excClassObj nm q 59 N bs faultMro hdct sn sub ab col dd k0 k1 k2 k3 k5 "Exception.__new__"))
    (hq : R (.ok (.ret (.ref (h.objs.size + 1)))) ⟨(h.push { cls := .type "tuple", data := .seq rest.toArray }).push (faultObj h.objs.size), g, d, t, os⟩) (hrest : rest.length ≤ sizeLine) :
    codeAny (model prog w) A (.builtin "Exception.__new__" ⟨.ref 59 :: rest, []⟩) R ⟨h, g, d, t, os⟩ := by
  have Fn := PySem.F.excBase_Exception
  have hends := Fn.ends
  have hcB : (Value.ref 59 :: faultMro).contains (.type "Exception") = true := by decide
  have hcA : (Value.ref 59 :: faultMro).contains (.type "AttributeError") = false := by decide
  have hcN : (Value.ref 59 :: faultMro).contains (.type "NameError") = false := by decide
  refine codeAny_builtinAt Fn.entry ?_
  unfold Builtin.«BaseException.__new__»
  refine PySem.wpAt_bind ?_
  show PySem.wpAt _ _ _ (stack >>= _) _ _ _
  refine PySem.wpAt_bind (PySem.wpAt_stack fun p below => PySem.wpAt_of_wpAny ?_)
  wp_walk
  refine PySem.wpAt_of_wpAny ?_
  rw [Fn.owner]
  repeat (first | with_reducible refine wpAny_madeHere_exc Fn.canon hC ?_ | with_reducible refine wpAny_loadPart_at hC ?_ | (with_reducible refine wpAny_isSubtype_exc hC ?_; first | rw [hcB] | rw [hcA] | rw [hcN]) | wp_step)
  show R _ _
  rw [Heap.size_push]
  exact hq
theorem fault_type_call {rest : List Value} {Q : PySem.Fin → Shared → Prop} (X : (hd.heap_1 w.params).In h) (hrest : rest.length ≤ sizeLine)
    (hq : wpAny (model prog w) A (call (.ref 36) (.ref (h.objs.size + 1) :: rest)) (fun r s' => r = .none ∧ Q (.done (.ret (.ref (h.objs.size + 1)))) s') E ⟨(h.push { cls := .type "tuple", data := .seq rest.toArray }).push (faultObj h.objs.size), g, d, t, os⟩) :
    wpAny (model prog w) A (Builtin.«type.__call__» ⟨.ref 59 :: rest, []⟩) Q E ⟨h, g, d, t, os⟩ := by
  obtain ⟨nm, q, N, bs, hdct, sn, sub, ab, col, dd, k0, k1, k2, k3, k5, hC⟩ := fault_cls X
  have Fn := PySem.F.excBase_Exception
  repeat (first | with_reducible refine wpAny_loadPart_at hC ?_ | with_reducible refine wpAny_madeBy_exc hC ?_ | wp_step)
  refine codeAny_call_builtin_code (Code.quiet_builtin _ Fn.quiet) (fault_check_new hC ?_)
  refine fault_new hC ?_ hrest
  show wpAny _ _ _ _ _ _
  have kp : ∀ b o, h.get? b = some o → ((h.push { cls := .type "tuple", data := .seq rest.toArray }).push (faultObj h.objs.size)).get? b = some o := fun b o e => Heap.get?_push_of_some _ (Heap.get?_push_of_some _ e)
  have hC₁ := kp _ _ hC
  have X₁ := X.keeps kp
  have hget : ((h.push { cls := .type "tuple", data := .seq rest.toArray }).push (faultObj h.objs.size)).get? (h.objs.size + 1) = some (faultObj h.objs.size) := by heap_get
  have hcC : (Value.ref 59 :: faultMro).contains (.ref 59) = true := by decide
  unfold isInstance
  repeat (first | with_reducible refine wpAny_loadPart_at hget ?_ | (with_reducible refine wpAny_isSubtype_exc hC₁ ?_; rw [hcC]) | wp_step)
  show wpAny _ _ (typeLookup (.ref 59) _) _ _ _
  refine (looks_findIn X₁ fault_init).at ?_
  refine wpAny_holding (wpAny_bind ?_)
  refine (bind_fn X₁ _ fault_fn).at ?_
  refine wpAny_bind (wpAny_mono hq (fun r s' hr => ?_) fun _ _ x => x)
  obtain ⟨rfl, hQ⟩ := hr
  wp_walk
  exact hQ
theorem fault_call {rest : List Value} {Q : Value → Shared → Prop} (X : (hd.heap_1 w.params).In h) (hrest : rest.length ≤ sizeLine)
    (hq : wpAny (model prog w) (A.under (.builtin "type.__call__" ⟨.ref 59 :: rest, []⟩)) (call (.ref 36) (.ref (h.objs.size + 1) :: rest)) (fun r s' => r = .none ∧ Q (.ref (h.objs.size + 1)) s') E ⟨(h.push { cls := .type "tuple", data := .seq rest.toArray }).push (faultObj h.objs.size), g, d, t, os⟩) :
    wpAny (model prog w) A (call (.ref 59) rest) Q E ⟨h, g, d, t, os⟩ := by
  obtain ⟨nm, q, N, bs, hdct, sn, sub, ab, col, dd, k0, k1, k2, k3, k5, hC⟩ := fault_cls X
  have f1 := tc_lookup
  have f2 := PySem.tc_bind (.ref 59)
  have hT : (⟨h, g, d, t, os⟩ : Shared).TypeIs (.ref 59) "type" := ⟨_, hC, rfl⟩
  refine wpAny_call (codeAny_of_tree ?_)
  show wpAny _ _ (callAny (.ref 59) _) _ _ _
  repeat (any_goals (first | assumption | with_reducible refine wpAny_loadPart_at hC ?_ | wp_step))
  refine ⟨rfl, ?_⟩
  exact codeAny_call_builtin_at (Code.quiet_builtin _ (by decide +kernel)) entry_typeCall (wpAny_check_type_call_sub hC (fault_type_call X hrest hq))
end
end
theorem offFault2 : True := by
  w_top off
  exact trivial
section
section
variable {prog : Program} {w : World} {A : Around} {E : Value → Shared → Prop} {s : Shared} {h₀ : Heap} {L : Addr} {m : Str → Option Value} {news : Led}
theorem exc_method {pl : Sem Bool} {Q : Value × List Value → Shared → Prop} (F : Fr h₀ L s.heap m) (h : Q (.builtin "Exception.__init__", []) { s with toks := s.toks + 1 }) :
    wpAny (model prog w) A (getMethod (.type "Exception") (Str.ofString "__init__") pl) Q E s :=
  method_type (K := []) F (fun _ _ h => nomatch h) (by kernel_rfl) (by decide +kernel) exc_find (by decide +kernel) h
theorem exc_init {e t : Addr} {v : Value} {Q : Value → Shared → Prop} (X : (hd.heap_1 w.params).In s.heap) (he : s.heap.get? e = some (faultObj t))
    (h : ∀ h', (∀ b o, b ≠ e → s.heap.get? b = some o → h'.get? b = some o) → h'.get? e = some (faultObj s.heap.objs.size) → h'.get? s.heap.objs.size = some (tupOf [v] 0) → Q .none { s with heap := h' }) :
    wpAny (model prog w) A (call (.builtin "Exception.__init__") [.ref e, v]) Q E s := by
  obtain ⟨hp, g, d, tk, os⟩ := s
  obtain ⟨nm, q, N, bs, hdct, sn, sub, ab, col, dd, k0, k1, k2, k3, k5, hC⟩ := fault_cls X
  have Fn := PySem.F.excBase_Exception
  have hcB : (Value.ref 59 :: faultMro).contains (.type "Exception") = true := by decide
  have hshort := Fn.noStar
  have hlt := Heap.lt_size he
  refine wpAny_call (codeAny_call_builtin Fn.init.plain Fn.initEntry ?_)
  simp only [checkBuiltinCall, Fn.initKind, Fn.initSplit, Fn.initRow]
  repeat (first | with_reducible refine wpAny_loadPart_at he ?_ | with_reducible refine wpAny_loadPart_at hC ?_ | (with_reducible refine wpAny_isSubtype_exc hC ?_; rw [hcB]) | wp_step)
  have he₁ := Heap.get?_push_of_some { cls := .type "tuple", data := .seq [v].toArray } he
  refine h _ (fun b o hb hg => ?_) ?_ ?_
  · exact (Heap.get?_update_other _ _ (Ne.symm hb)).trans (Heap.get?_push_of_some _ hg)
  · rw [Heap.get?_update_self _ he₁ rfl]
    rfl
  · exact (Heap.get?_update_other _ _ (Nat.ne_of_lt hlt)).trans (Heap.get?_push_size _ rfl)
end
end
theorem offFault3 : True := by
  w_top off
  exact trivial
section
open Builtin Builtin.ObjectAttr in
theorem fault_passes (e : Addr) : refuseLoop (.ref e) "__setattr__" (.ref 59 :: faultMro) = pure () := by
  rw [refuseLoop_ref, refuseLoop_ref]
  kernel_rfl
theorem fault_mroIn {w : World} : mroIn (hd.heap_1 w.params) 59 (.type "object") = some true := by rfl
theorem fault_clsIn {w : World} : ∃ cd, clsIn (hd.heap_1 w.params) 59 = some cd ∧ cd.mro = .ref 59 :: faultMro ∧ cd.hasDict = true := ⟨_, rfl, rfl, rfl⟩
section
open Builtin Builtin.ObjectAttr
variable {prog : Program} {w : World} {A : Around} {E : Value → Shared → Prop} {s : Shared} {R : Result → Shared → Prop}
theorem fault_open {e : Addr} {oe : Obj} {od : Option Obj} {name : Str} {tk : Tok} {v : Value} (X : (hd.heap_1 w.params).In s.heap) (I : InstAt s.heap e oe 59 od) (hn : findIn (hd.heap_1 w.params) (.ref 59) name = some none)
    (h : ∀ b, wpAny (model prog w) A.in1 (storeInOwnDict (.ref e) (.ref 59) (.str name tk) name v b)
      (fun fin s' => match fin with | .done f => R (.ok f) s' | .again c' => c'.quiet = true ∧ codeAny (model prog w) A c' R s') (fun e s' => R (.error e) s') s) :
    codeAny (model prog w) A (.call (.builtin "object.__setattr__") ⟨[.ref e, .str name tk, v], []⟩) R s := by
  have SF := PySem.F.store_object
  obtain ⟨cd, hc, hm, _⟩ := fault_clsIn (w := w)
  have sub : Looks (model prog w) s.heap (isInstance (.ref e) (.type "object")) true := I.type.andThen (looks_mroIn X fault_mroIn)
  refine codeAny_call_builtin SF.slot.plain SF.entry (@check_slot (model prog w) _ _ s "object.__setattr__" "object" "__setattr__" (.ref e) [.str name tk, v] [] _ SF.kind SF.split sub (SF.args (.ref e) (.str name tk) v) ?_)
  have hmro : Looks (model prog w) s.heap (mroOf (.ref 59)) (.ref 59 :: faultMro) := hm ▸ (looks_clsIn X hc).andThen .now
  have L3 : Looks (model prog w) s.heap (storeTaker? none) none := .now
  rw [osa_eq, refuse_eq]
  refine wpAny_bind (wpAny_bind (I.type.here (wpAny_bind (hmro.here ?_))))
  rw [fault_passes]
  refine wpAny_pure (wpAny_bind (I.type.here (wpAny_bind ((looks_findIn X hn).here (wpAny_bind (L3.here ?_))))))
  exact h _
end
section
open Builtin Builtin.ObjectAttr
variable {prog : Program} {w : World} {A : Around} {E : Value → Shared → Prop} {h : Heap} {g : Array GenState} {d : Drawn} {t : Nat} {os : OsState}
theorem fault_store1 {e : Addr} {vs : Array Value} {name : Str} {v : Value} {Q : Unit → Shared → Prop} (X : (hd.heap_1 w.params).In h) (he : h.get? e = some { cls := .ref 59, data := .fields vs }) (hn : findIn (hd.heap_1 w.params) (.ref 59) name = some none)
    (hq : ∀ h' tk', (∀ b o, b ≠ e → h.get? b = some o → h'.get? b = some o) → h'.get? e = some { cls := .ref 59, dict := some h.objs.size, data := .fields vs } → h'.Ns1 h.objs.size (fun y => if y = name then some v else none) → Q () ⟨h', g, d, tk', os⟩) :
    wpAny (model prog w) A (setAttr (.ref e) name v) Q E ⟨h, g, d, t, os⟩ := by
  have I : InstAt h e { cls := .ref 59, data := .fields vs } 59 none := ⟨he, rfl, rfl, trivial⟩
  obtain ⟨cd, hc, hm, hdct⟩ := fault_clsIn (w := w)
  have hx₁ : (h.push { cls := .type "dict", data := .dict #[] }).get? e = some { cls := .ref 59, data := .fields vs } := Heap.get?_push_of_some _ he
  have hxs : e ≠ h.objs.size := Nat.ne_of_lt (Heap.lt_size he)
  refine set_plain X I fault_set (fault_open X I hn fun b => ?_)
  refine wpAny_bind (wpAny_pure (wpAny_bind ?_))
  unfold ownDictForStores instanceDict
  refine wpAny_bind (wpAny_loadPart he ?_)
  dsimp only
  refine wpAny_bind ((looks_clsIn X hc).here ?_)
  rw [hdct]
  rw [if_neg (by decide), if_neg (by simp [typeHasDict])]
  refine wpAny_bind (wpAny_alloc' ?_)
  refine wpAny_bind (wpAny_update' hx₁ ?_)
  refine wpAny_pure ?_
  have hgd : ((h.push { cls := .type "dict", data := .dict #[] }).update e fun o => { cls := o.cls, dict := some h.objs.size, data := o.data, slots := o.slots }).get? h.objs.size
      = some { cls := .type "dict", data := .dict #[] } := (Heap.get?_update_ne _ _ _ _ hxs.symm).trans (Heap.get?_push_at rfl rfl)
  have hnd : ((h.push { cls := .type "dict", data := .dict #[] }).update e fun o => { cls := o.cls, dict := some h.objs.size, data := o.data, slots := o.slots }).Ns h.objs.size (fun _ => none) :=
    ⟨_, #[], _, hgd, rfl, fun e he => absurd he (by simp), fun _ => rfl⟩
  show wpAny _ _ (storeInDict h.objs.size (.str name _) name v) _ _ _
  unfold storeInDict newKeyGuard
  refine wpAny_bind (wpAny_pure (wpAny_bind (wpAny_nsSet1 (Heap.Ns1.of_empty hnd) fun h' hn' hs => ?_)))
  obtain ⟨oD, esD, epD, hoD, hdD, hcD⟩ := hn'.count (Within.cons name v Within.nil)
  refine wpAny_bind (wpAny_lookBehind hoD (by rw [hdD]; exact pastItsLine_dict (Nat.le_trans hcD (by rw [List.length_cons, List.length_nil, sizeLine_eq]; omega))) ?_)
  wp_walk
  refine hq h' _ (fun b o hb ho => ?_) ?_ hn'
  · exact (hs.2 b (Nat.ne_of_lt (Heap.lt_size ho))).trans ((Heap.get?_update_ne _ _ _ _ hb).trans (Heap.get?_push_of_some _ ho))
  · exact (hs.2 e hxs).trans (Heap.get?_update_self _ hx₁ rfl)
theorem fault_store2 {e dx : Addr} {vs : Array Value} {name : Str} {v : Value} {mA : Str → Option Value} {ns : List Str} {Q : Unit → Shared → Prop} (X : (hd.heap_1 w.params).In h) (he : h.get? e = some { cls := .ref 59, dict := some dx, data := .fields vs }) (hne : e ≠ dx) (hns : h.Ns1 dx mA) (hw : Within mA ns) (hz : ns.length ≤ 10)
    (hn : findIn (hd.heap_1 w.params) (.ref 59) name = some none)
    (hq : ∀ h' tk', (∀ b o, b ≠ dx → h.get? b = some o → h'.get? b = some o) → h'.Ns1 dx (fun y => if y = name then some v else mA y) → Q () ⟨h', g, d, tk', os⟩) :
    wpAny (model prog w) A (setAttr (.ref e) name v) Q E ⟨h, g, d, t, os⟩ := by
  obtain ⟨od, _, _, hod, _⟩ := id hns
  have I : InstAt h e { cls := .ref 59, dict := some dx, data := .fields vs } 59 (some od) := ⟨he, rfl, rfl, hod⟩
  obtain ⟨cd, hc, hm, hdct⟩ := fault_clsIn (w := w)
  refine set_plain X I fault_set (fault_open X I hn fun b => ?_)
  refine wpAny_bind (wpAny_pure (wpAny_bind ?_))
  unfold ownDictForStores instanceDict
  refine wpAny_bind (wpAny_loadPart he ?_)
  dsimp only
  refine wpAny_bind ((looks_clsIn X hc).here ?_)
  rw [hdct]
  rw [if_neg (by decide)]
  refine wpAny_pure ?_
  show wpAny _ _ (storeInDict dx (.str name _) name v) _ _ _
  unfold storeInDict newKeyGuard
  refine wpAny_bind (wpAny_pure (wpAny_bind (wpAny_nsSet1 hns fun h' hn' hs => ?_)))
  obtain ⟨oD, esD, epD, hoD, hdD, hcD⟩ := hn'.count (Within.cons name v hw)
  refine wpAny_bind (wpAny_lookBehind hoD (by rw [hdD]; exact pastItsLine_dict (Nat.le_trans hcD (by rw [List.length_cons, sizeLine_eq]; omega))) ?_)
  wp_walk
  exact hq h' _ (fun b o hb ho => (hs.2 b hb).trans ho) hn'
end
end
theorem offFault4 : True := by
  w_top off
  exact trivial
section
section
variable {prog : Program} {w : World} {A : Around} {E : Value → Shared → Prop} {s : Shared} {h₀ : Heap} {L : Addr} {m : Str → Option Value} {news : Led}
theorem frBut {h h' : Heap} {e : Addr} (F : Fr h₀ L h m) (hk : ∀ b o, b ≠ e → h.get? b = some o → h'.get? b = some o) (hL : e ≠ L) (h0 : h₀.get? e = none) : Fr h₀ L h' m :=
  ⟨F.ns.at' fun o q => hk _ o (Ne.symm hL) q, fun b o q => hk b o (fun r => by rw [r, h0] at q; cases q) (F.keep b o q), F.above⟩
theorem newsBut {h h' : Heap} {e : Addr} (N : News h₀ L h news) (hk : ∀ b o, b ≠ e → h.get? b = some o → h'.get? b = some o) : News h₀ L h' (but e news) := fun p hp =>
  ⟨hk _ _ (of_but hp).2 (N p (of_but hp).1).1, (N p (of_but hp).1).2⟩
theorem newOne {h h' : Heap} {D : Addr} {o : Obj} (F : Fr h₀ L h m) (hD : h'.get? D = some o) (hge : h.objs.size ≤ D) : h'.get? D = some o ∧ D ≠ L ∧ h₀.get? D = none :=
  ⟨hD, fun q => Nat.lt_irrefl _ (Nat.lt_of_lt_of_le F.ns.lt (q ▸ hge)), (by
    cases q : h₀.get? D with
    | none => rfl
    | some o' => exact absurd (Heap.lt_size (F.keep _ _ q)) (Nat.not_lt.mpr hge))⟩
theorem exc_init_N {e t : Addr} {v : Value} {Q : Value → Shared → Prop} (F : Fr h₀ L s.heap m) (N : News h₀ L s.heap news) (X : (hd.heap_1 w.params).In h₀) (he : (e, faultObj t) ∈ news)
    (h : ∀ h' T, Fr h₀ L h' m → News h₀ L h' ((e, faultObj T) :: but e news) → SubX e news ((e, faultObj T) :: but e news) → Q .none { s with heap := h' }) :
    wpAny (model prog w) A (call (.builtin "Exception.__init__") [.ref e, v]) Q E s :=
  exc_init (X.keeps F.keep) (N _ he).1 fun h' hk e' _ => h h' _ (frBut F hk (N _ he).2.1 (N _ he).2.2) (fun p hp => by
    rcases List.mem_cons.mp hp with rfl | hp
    · exact ⟨e', (N _ he).2⟩
    · exact newsBut N hk p hp) subX_but
theorem store1_N {e t : Addr} {name : Str} {v : Value} {Q : Unit → Shared → Prop} (F : Fr h₀ L s.heap m) (N : News h₀ L s.heap news) (X : (hd.heap_1 w.params).In h₀) (he : (e, faultObj t) ∈ news) (hn : findIn (hd.heap_1 w.params) (.ref 59) name = some none)
    (h : ∀ h' tk' D od, Fr h₀ L h' m → News h₀ L h' ((e, { cls := .ref 59, dict := some D, data := .fields #[.ref t, .none, .none, .none, .bool false, .none] }) :: (D, od) :: but e news) → (∀ hh : Heap, hh.get? D = some od → hh.Ns1 D (fun y => if y = name then some v else none)) → Within (fun y => if y = name then some v else none) [name] → e ≠ D → (∀ p ∈ news, p.1 ≠ D) →
      SubX e news ((e, { cls := .ref 59, dict := some D, data := .fields #[.ref t, .none, .none, .none, .bool false, .none] }) :: (D, od) :: but e news) → Q () { s with heap := h', toks := tk' }) :
    wpAny (model prog w) A (setAttr (.ref e) name v) Q E s := by
  obtain ⟨hp, g, d, tk, os⟩ := s
  refine fault_store1 (X.keeps F.keep) (N _ he).1 hn fun h' tk' hk e' hns => ?_
  obtain ⟨od, es, ep, hod, r⟩ := id hns
  refine h h' tk' hp.objs.size od (frBut F hk (N _ he).2.1 (N _ he).2.2) (fun p hp' => ?_) (fun hh q => ⟨od, es, ep, q, r⟩) (Within.cons name v Within.nil) (Nat.ne_of_lt (Heap.lt_size (N _ he).1)) (fun p hp' => Nat.ne_of_lt (Heap.lt_size (N p hp').1)) (fun p hp' hn => .tail _ (.tail _ (mem_but hp' hn)))
  rcases List.mem_cons.mp hp' with rfl | hp'
  · exact ⟨e', (N _ he).2⟩
  rcases List.mem_cons.mp hp' with rfl | hp'
  · exact newOne F hod (Nat.le_refl _)
  · exact newsBut N hk p hp'
theorem store2_N {e D : Addr} {vs : Array Value} {od : Obj} {name : Str} {v : Value} {mA : Str → Option Value} {ns : List Str} {Q : Unit → Shared → Prop} (F : Fr h₀ L s.heap m) (N : News h₀ L s.heap news) (X : (hd.heap_1 w.params).In h₀)
    (he : (e, ({ cls := .ref 59, dict := some D, data := .fields vs } : Obj)) ∈ news) (hD : (D, od) ∈ news) (hne : e ≠ D) (hns : ∀ hh : Heap, hh.get? D = some od → hh.Ns1 D mA) (hw : Within mA ns) (hz : ns.length ≤ 10) (hn : findIn (hd.heap_1 w.params) (.ref 59) name = some none)
    (h : ∀ h' tk' od', Fr h₀ L h' m → News h₀ L h' ((D, od') :: but D news) → SubX D news ((D, od') :: but D news) → Q () { s with heap := h', toks := tk' }) :
    wpAny (model prog w) A (setAttr (.ref e) name v) Q E s := by
  obtain ⟨hp, g, d, tk, os⟩ := s
  refine fault_store2 (X.keeps F.keep) (N _ he).1 hne (hns _ (N _ hD).1) hw hz hn fun h' tk' hk hns' => ?_
  obtain ⟨od', es, ep, hod, r⟩ := id hns'
  refine h h' tk' od' (frBut F hk (N _ hD).2.1 (N _ hD).2.2) (fun p hp' => ?_) subX_but
  rcases List.mem_cons.mp hp' with rfl | hp'
  · exact ⟨hod, (N _ hD).2⟩
  · exact newsBut N hk p hp'
end
end
theorem offFault5 : True := by
  w_top off
  exact trivial
section
local macro_rules | `(tactic| walk_at "getMethod type:Exception") => `(tactic| (tbr_iter (exc_method, "101 0/0")))
local macro_rules | `(tactic| walk_at "call builtin:Exception.__init__") => `(tactic| (tbr_iter (exc_init_N, "101 201 301 402 0/5")))
local macro_rules | `(tactic| walk_at "setAttr ref") => `(tactic| (tbr_iter (store1_N, "101 201 301 402 506 0/11")))
local macro_rules | `(tactic| walk_at "setAttr ref") => `(tactic| (tbr_iter (store2_N, "101 201 301 602 702 803 403 503 915 1006 0/6")))
section
variable {prog pt : Program} {w : World} {A₀ : Around} {base h₀ : Heap} {outer : List Env} {env : Env} {L : Addr} {m : Str → Option Value} {news : List (Addr × Obj)} {mean : ExcName → Option Value} {mg mb : Str → Option Value} {loose : List Str} {s : Shared} {Q E : Value → Shared → Prop} {dp un : Nat} {gd : Option (List Code)} {hdl : Option Value}
set_option maxHeartbeats 8000000 in
theorem fault_spec (B : Below A₀ base outer h₀) (F : Fr h₀ L s.heap m) (X : (hd.heap_1 w.params).In h₀) (N : News h₀ L s.heap news) (T : Top pt loose mean mg mb h₀)
    (hf : env.frame = some L) (hk : env.scope.kind = .function) (hd : dp + 40 < recursionLimit) (hu : un + 400 < cLine) {x : Str} {tx : Tok}
    (ret : ∀ e oe vs a0 h' tk' news', Fr h₀ L h' m → News h₀ L h' news' → Sub news news' → (e, oe) ∈ news' → oe.cls = .ref 59 → oe.data = .fields vs → vs[0]? = some a0 → vs[1]? = some .none → vs[2]? = some .none → (∀ p ∈ news, p.1 ≠ e) → Q (.ref e) { s with heap := h', toks := tk' }) :
    wpAny (model prog w) (site none dp un gd env outer) (call (.ref 59) [.str x tx]) Q E s := by
  obtain ⟨hp, g, d, tk, os⟩ := s
  refine fault_call (X.keeps F.keep) (by rw [sizeLine_eq]; exact Nat.le_of_ble_eq_true rfl) ?_
  have N1 := News.push F N { cls := .type "tuple", data := .seq [Value.str x tx].toArray }
  have F1 := F.push { cls := .type "tuple", data := .seq [Value.str x tx].toArray }
  have N2 := News.push F1 N1 (faultObj hp.objs.size)
  have F2 := F1.push (faultObj hp.objs.size)
  rw [Heap.size_push] at N2
  have l0 : ∀ p ∈ news, p.1 < hp.objs.size := fun p hp' => Heap.lt_size (N p hp').1
  generalize (hp.push { cls := .type "tuple", data := .seq [Value.str x tx].toArray }).push (faultObj hp.objs.size) = hq at N2 F2
  obtain ⟨e, he⟩ : ∃ e : Addr, e = hp.objs.size + 1 := ⟨_, rfl⟩
  rw [← he] at N2 ⊢
  clear N1 F1 F N
  refine wpAny_call ?_
  k_dflt (refine' code_def ?k1 ?k2 ?k3 ?k4 ?k5 ?kA ?kF ?kK ?k6 ?k7 ?k8 ?k9 ?kB ?_ ?c2 ?c3 ?c4 ?c5; (case kA => exact rfl); (case kF => assumption); (case kK => assumption); (case k1 => k_asm); (case k2 => k_asm); (case k3 => k_asm); (case k4 => k_asm); (case k5 => k_asm); (case k6 => k_is); (case k7 => k_is); (case k8 => (show dp + 1 < _; omega)); (case k9 => exact binds_K (by k_in) rfl (by k_is) rfl rfl rfl); (case c5 => decide); (case kB => exact locs rfl); (case c2 => exact rfl); (case c3 => exact rfl); (case c4 => exact rfl); k_whole; intro g' L' h' FG' F' N' B' X' T'; (try dsimp only); (try k_fold))
  k_steps
  rename_i hh2 T1 Sx2 hh1 tk1 D1 od1 Z1 W1 e1 l1 Sx1 hh0 tk0 od0 F9 N9 Sx0 _ _ _ _
  have ne : ∀ p ∈ news, p.1 ≠ e := fun p hp' q => by
    have := l0 p hp'
    rw [q, he] at this
    exact Nat.lt_irrefl _ (Nat.lt_of_succ_lt this)
  refine ret e _ _ _ _ _ _ (by k_asm) (by k_asm) (fun p hp' => ?_) (.tail _ (mem_but (.head _) e1)) rfl rfl rfl rfl rfl ne
  have b := Sx2 p (.tail _ (.tail _ hp')) (ne p hp')
  exact Sx0 p (Sx1 p b (ne p hp')) (l1 p b)
end
end
local macro_rules | `(tactic| walk_at "call ref") => `(tactic| (k_search (call (Value.ref 59) [_]); ktf_call fault_spec))
theorem offFault6 : True := by
  w_top off
  exact trivial
section
theorem fault_base {w : World} : mroIn (hd.heap_1 w.params) 59 (.type "BaseException") = some true := by rfl
theorem fault_meta {w : World} : typeIn (hd.heap_1 w.params) (.ref 59) = some (.type "type") := by rfl
section
variable {prog : Program} {w : World} {A : Around} {E : Value → Shared → Prop} {s : Shared} {env : Env}
/-- what a raise takes: an exception of class 59 -/
def RaisableF (prog : Program) (w : World) (E : Value → Shared → Prop) (v : Value) (s₁ : Shared) : Prop :=
  ∃ a ob vs, v = .ref a ∧ (hd.heap_1 w.params).In s₁.heap ∧ s₁.heap.get? a = some ob ∧ ob.cls = .ref 59 ∧ ob.data = .fields vs ∧ vs[1]? = some .none ∧ E (.ref a) s₁
theorem Raise_fault {e : Expr} {pos : Pos} {Q : Flow → Shared → Prop} (hh : A.handled = none)
    (h : wpAny (model prog w) A (eval e env) (RaisableF prog w E) E s) : wpAny (model prog w) A (exec (.Raise (some e) none pos) env) Q E s := by
  show wpAny (model prog w) A (do standAt pos; raiseStmt env (some (do let v ← eval e env; standAt pos; pure v)) none) Q E s
  refine wpAny_bind (wpAny_standAt ?_)
  unfold raiseStmt
  dsimp only
  refine wpAny_bind (wpAny_bind (wpAny_mono h (fun v s₁ h₁ => wpAny_bind (wpAny_standAt (wpAny_pure ?_))) fun _ _ x => x))
  obtain ⟨a, ob, vs, rfl, X, ha, hcls, hd, h1, hE⟩ := h₁
  have L0 : Looks (model prog w) s₁.heap (typeOf (.ref a)) (.ref 59) := hcls ▸ (Looks.ld ha).andThen .now
  have L1 : Looks (model prog w) s₁.heap (isInstance (.ref a) (.type "BaseException")) true := L0.andThen (looks_mroIn X fault_base)
  have L2 := looks_typeIn (M := model prog w) X fault_meta
  have hnt : ∀ {Q' : Bool → Shared → Prop}, Q' false s₁ → wpAny (model prog w) A (isType (.ref a)) Q' E s₁ := by
    intro Q' hq
    simp only [isType, loadHead]
    refine wpAny_bind (wpAny_loadPart ha ?_)
    rw [hd]; exact wpAny_pure hq
  refine wpAny_bind (wpAny_pure ?_)
  dsimp only
  refine wpAny_bind (wpAny_holding ?_)
  unfold excFromValue isExcClass
  refine wpAny_bind (wpAny_bind (hnt ?_))
  simp only [Bool.false_eq_true, if_false]
  refine wpAny_pure ?_
  simp only [Bool.false_eq_true, if_false]
  refine wpAny_bind (L1.here ?_)
  simp only [if_true]
  refine wpAny_pure ?_
  refine wpAny_bind (hnt ?_)
  simp only [Bool.false_eq_true, if_false]
  unfold raisedInstance
  refine wpAny_bind (wpAny_bind (L0.here (wpAny_bind (L2.here ?_))))
  rw [if_pos (by decide)]
  refine wpAny_pure ?_
  unfold setFlight raiseNew
  refine wpAny_bind (wpAny_bind (wpAny_field ha hd h1 ?_))
  rw [if_neg (by decide)]
  refine wpAny_pure (wpAny_bind (wpAny_handled ?_))
  rw [hh]
  first
    | exact wpAny_throw hE
    | exact wpAny_bind (wpAny_pure (wpAny_throw hE))
end
end
theorem offFly : True := by
  w_top off
  exact trivial
section
/-- an exception of class 59 on its way: its record stands at T, it has no context -/
def FlT (B : Heap) (l : List Env) (e T : Addr) (fl : Value) (h : Heap) : Prop :=
  B.StaysIn h ∧ B.get? e = none ∧ B.get? T = none ∧ T ≠ e ∧ h.FunFrames B l ∧
  (∃ oe vs, h.get? e = some oe ∧ oe.cls = .ref 59 ∧ oe.data = .fields vs ∧ vs[1]? = some (.ref T) ∧ vs[2]? = some .none) ∧ (∃ oT ts, h.get? T = some oT ∧ oT.data = .fields ts ∧ ts[3]? = some fl)
section
variable {M : Model} {A : Around} {E : Value → Shared → Prop} {s : Shared} {B : Heap} {l outer : List Env} {env : Env} {e T L : Addr} {fl : Value} {Q : Unit → Shared → Prop}
theorem flt_set {v : Value} (R : FlT B l e T fl s.heap) (hQ : ∀ h', FlT B l e T v h' → s.heap.UpToSlots h' → Q () { s with heap := h' }) : wpAny M A (setField (.ref T) 3 v) Q E s := by
  obtain ⟨k1, k2, k3, k4, k5, ⟨oe, vs, he, hc, hd, h1, h2⟩, oT, ts, hT, hdT, h3⟩ := R
  have sz := (Array.getElem?_eq_some_iff.mp h3).1
  have oth : ∀ b, b ≠ T → (s.heap.update T (Obj.mapFields (·.setIfInBounds 3 v))).get? b = s.heap.get? b := fun b hb => Heap.get?_update_other _ _ (Ne.symm hb)
  have nf : ∀ b o, s.heap.get? b = some o → (∀ vs, o.data ≠ .fields vs) → b ≠ T := fun b o hb hn q => by
    subst q
    rw [hT] at hb
    cases hb
    exact hn ts hdT
  have dT := Obj.data_mapFields hdT (·.setIfInBounds 3 v)
  refine wpAny_setField hT hdT sz (hQ _ ⟨fun b o q => (oth b fun z => ?_).trans (k1 b o q), k2, k3, k4, k5.of_keeps fun b o q n => ⟨o, (oth b (nf b o q n)).trans q, rfl⟩, ⟨oe, vs, (oth e (Ne.symm k4)).trans he, hc, hd, h1, h2⟩, _, _, Heap.get?_update_self _ hT (Obj.isFreed_of_fields dT), dT, by simp [sz]⟩ fun b o q n => ⟨o.slots, (oth b (nf b o q n)).trans q⟩)
  rw [z, k3] at q
  cases q
theorem flt_flight {fr : Option Addr} (R : FlT B l e T fl s.heap) (hQ : ∀ h', FlT B l e T (fr.elim .none fun f => rawInt f) h' → s.heap.UpToSlots h' → Q () { s with heap := h' }) : wpAny M A (setFlight (.ref e) fr) Q E s := by
  obtain ⟨_, _, _, _, _, ⟨oe, vs, he, hc, hd, h1, h2⟩, _⟩ := id R
  unfold setFlight
  refine wpAny_bind (wpAny_field he hd h1 ?_)
  rw [if_pos (show (Value.ref T != Value.none) = true from by simp)]
  exact flt_set R hQ
/-- the record of a frame put ahead of what stands -/
theorem flt_entry {oe : Obj} {vs : Array Value} {head : Value} {had : Bool} (hfr : A.frames = some (env :: outer)) (hl : s.heap.FunFrames B (env :: outer)) (hf : env.frame = some L) (hkb : B.StaysIn s.heap) (hen : B.get? e = none)
    (he : s.heap.get? e = some oe) (hc : oe.cls = .ref 59) (hd : oe.data = .fields vs) (h2 : vs[2]? = some .none) (hQ : ∀ h' T, FlT B (env :: outer) e T (rawInt L) h' → s.heap.UpToSlots h' → Q () { s with heap := h' }) :
    wpAny M A (do let a ← frameOf env; let pl ← entryPlaceOf L had; let b ← EntryCells.newEntry head a .none (rawInt L) .none pl; setField (.ref e) 1 b) Q E s := by
  have sz2 := (Array.getElem?_eq_some_iff.mp h2).1
  have off : e ∉ (env :: outer).filterMap (·.frame) := fun hm => by
    obtain ⟨_, o, ho, hn⟩ := hl.mem hm
    rw [he] at ho
    cases ho
    exact hn vs hd
  refine wpAny_bind (wpAny_frameOf_fun hfr hl hf fun g hg => ?_)
  have heg : g.get? e = some oe := (hg.2.1 e off).trans he
  refine wpAny_bind (wpAny_entryPlaceOf fun pl hpl => ?_)
  unfold EntryCells.newEntry newFields
  refine wpAny_bind (wpAny_newObj_type ?_ (hpl.sizeOk5 _ _ _ _ _))
  generalize hob : ({ cls := .type "traceback", dict := none, data := .fields ([head, .ref L, .none, rawInt L, .none] ++ (if pl.isEmpty then List.replicate 6 Value.none else pl)).toArray } : Obj) = ob
  have obd : ∃ ts, ob.data = .fields ts ∧ ts[3]? = some (rawInt L) := ⟨_, by rw [← hob], by first | (simp; done) | (rcases hpl with rfl | ⟨_, _, _, _, _, _, _, rfl⟩ <;> simp)⟩
  obtain ⟨ts, hts, ht3⟩ := obd
  have he2 : (g.push ob).get? e = some oe := Heap.get?_push_of_some _ heg
  refine wpAny_setField he2 hd (by omega) ?_
  have dE := Obj.data_mapFields hd (·.setIfInBounds 1 (Value.ref g.objs.size))
  have hne : g.objs.size ≠ e := Nat.ne_of_gt (Heap.lt_size heg)
  have stay : ∀ b o, b ≠ e → g.get? b = some o → ((g.push ob).update e (Obj.mapFields (·.setIfInBounds 1 (Value.ref g.objs.size)))).get? b = some o := fun b o hb q =>
    (Heap.get?_update_other _ _ (Ne.symm hb)).trans (Heap.get?_push_of_some _ q)
  have nf : ∀ b o, s.heap.get? b = some o → (∀ vs, o.data ≠ .fields vs) → b ≠ e := fun b o hb hn q => by
    subst q
    rw [he] at hb
    cases hb
    exact hn vs hd
  have up : ∀ b o, s.heap.get? b = some o → (∀ vs, o.data ≠ .fields vs) → ∃ sl, ((g.push ob).update e (Obj.mapFields (·.setIfInBounds 1 (Value.ref g.objs.size)))).get? b = some { o with slots := sl } := fun b o q n => by
    obtain ⟨sl, hs⟩ := hg.2.2 b o q
    exact ⟨sl, stay b _ (nf b o q n) hs⟩
  have kg : B.StaysIn g := fun b o q => (hg.2.1 b fun hm => by
    rw [(hl.mem hm).1] at q
    cases q).trans (hkb b o q)
  refine hQ _ g.objs.size ⟨fun b o q => stay b o (fun z => ?_) (kg b o q), hen, kg.fresh, hne, hl.of_keeps fun b o q n => ?_, ⟨_, _, Heap.get?_update_self _ he2 (Obj.isFreed_of_fields dE), (Obj.cls_mapFields ..).trans hc, dE, by simp [show 1 < vs.size by omega], by
    rw [Array.getElem?_setIfInBounds_ne (by decide)]
    exact h2⟩, ob, ts, ?_, hts, ht3⟩ up
  · rw [z, hen] at q
    cases q
  · obtain ⟨sl, hs⟩ := up b o q n
    exact ⟨_, hs, rfl⟩
  · refine (Heap.get?_update_other _ _ (Ne.symm hne)).trans (Heap.get?_push_size _ ?_)
    exact Obj.isFreed_of_fields hts
theorem flt_note1 {oe : Obj} {vs : Array Value} (hfr : A.frames = some (env :: outer)) (hl : s.heap.FunFrames B (env :: outer)) (hf : env.frame = some L) (hkb : B.StaysIn s.heap) (hen : B.get? e = none)
    (he : s.heap.get? e = some oe) (hc : oe.cls = .ref 59) (hd : oe.data = .fields vs) (h1 : vs[1]? = some .none) (h2 : vs[2]? = some .none) (hQ : ∀ h' T, FlT B (env :: outer) e T (rawInt L) h' → s.heap.UpToSlots h' → Q () { s with heap := h' }) :
    wpAny M A (noteFrame (.ref e) env) Q E s := by
  unfold noteFrame
  simp only [hf]
  refine wpAny_bind (wpAny_field he hd h1 ?_)
  rw [if_neg (by decide)]
  exact flt_entry hfr hl hf hkb hen he hc hd h2 hQ
theorem flt_note2 (hfr : A.frames = some (env :: outer)) (hf : env.frame = some L) (R : FlT B (env :: outer) e T .none s.heap) (hQ : ∀ h' T, FlT B (env :: outer) e T (rawInt L) h' → s.heap.UpToSlots h' → Q () { s with heap := h' }) :
    wpAny M A (noteFrame (.ref e) env) Q E s := by
  obtain ⟨_, _, _, _, _, ⟨oe, vs, he, hc, hd, h1, h2⟩, oT, ts, hT, hdT, h3⟩ := id R
  unfold noteFrame
  simp only [hf]
  refine wpAny_bind (wpAny_field he hd h1 ?_)
  rw [if_pos (show (Value.ref T != Value.none) = true from by simp)]
  refine wpAny_bind (wpAny_field hT hdT h3 ?_)
  rw [if_neg (show ¬ ((Value.none == rawInt L) = true) from by simp [rawInt])]
  refine wpAny_bind (flt_set R fun h' R' u => ?_)
  obtain ⟨k1, k2, k3, k4, k5, ⟨oe, vs, he, hc, hd, h1, h2⟩, _⟩ := R'
  exact flt_entry hfr k5 hf k1 k2 he hc hd h2 fun h'' T' R'' u' => hQ h'' T' R'' (u.trans u')
theorem flt_out {h : Heap} (R : FlT B (env :: outer) e T fl h) : FlT B outer e T fl h := by
  obtain ⟨k1, k2, k3, k4, ⟨_, _, k5⟩, r⟩ := R
  exact ⟨k1, k2, k3, k4, k5, r⟩
end
/-- an exception of class 59 in flight: what the ledger held stands -/
def FlyF (base : Heap) (l : List Env) (e : Addr) (news : Led) (h : Heap) : Prop :=
  ∃ B T, base.StaysIn B ∧ (∀ q ∈ news, B.get? q.1 = some q.2 ∧ base.get? q.1 = none) ∧ FlT B l e T .none h
theorem FlyF.less {base : Heap} {l : List Env} {e : Addr} {l0 l1 : Led} {h : Heap} (x : FlyF base l e l1 h) (k : Sub l0 l1) : FlyF base l e l0 h := by
  obtain ⟨B, T, a, b, c⟩ := x
  exact ⟨B, T, a, fun q hq => b q (k q hq), c⟩
section
variable {M : Model} {A : Around} {E : Value → Shared → Prop} {s' : Shared} {base g g₂ h : Heap} {outer : List Env} {env : Env} {L e : Addr} {m : Str → Option Value} {Q : Unit → Shared → Prop} {news l0 : Led}
/-- the frame that raised is left -/
theorem leave_fault {oe : Obj} {vs : Array Value} (K : Below A base outer g) (F : Fr g L s'.heap m) (N : News g L s'.heap news) (he : (e, oe) ∈ news) (hc : oe.cls = .ref 59) (hd : oe.data = .fields vs) (h1 : vs[1]? = some .none) (h2 : vs[2]? = some .none)
    (hf : env.frame = some L) (hk : env.scope.kind = .function) (hs : Sub l0 news) (ho : ∀ p ∈ l0, p.1 ≠ e)
    (hQ : ∀ h', FlyF base outer e l0 h' → g.UpToSlots h' → Q () { s' with heap := h' }) :
    wpAny M (A.deeper env) (leaving env (.ref e)) Q E s' := by
  have K' := pushX K F hf hk
  have hin : ∀ ev ∈ (env :: outer), ∀ b, ev.frame = some b → b ∈ e :: (env :: outer).filterMap (·.frame) := fun ev hev b hb => .tail _ (List.mem_filterMap.mpr ⟨ev, hev, hb⟩)
  have eb : base.get? e = none := fresh_of_stays K.stays (N _ he).2.2
  have st : base.StaysIn (hideAll s'.heap (e :: (env :: outer).filterMap (·.frame))) := fun b o q => hideAll_get _ (K'.stays b o q) fun hm => by
    rcases List.mem_cons.mp hm with rfl | hm
    · rw [eb] at q; cases q
    · rw [(K'.frames.mem hm).1] at q; cases q
  have hl : ∀ q ∈ l0, (hideAll s'.heap (e :: (env :: outer).filterMap (·.frame))).get? q.1 = some q.2 ∧ base.get? q.1 = none := fun q hq => by
    have hn := N q (hs q hq)
    refine ⟨hideAll_get _ hn.1 fun hm => ?_, fresh_of_stays K.stays hn.2.2⟩
    rcases List.mem_cons.mp hm with hm | hm
    · exact ho q hq hm
    obtain ⟨ev, hev, hf'⟩ := List.mem_filterMap.mp hm
    rcases List.mem_cons.mp hev with rfl | hev
    · rw [hf] at hf'; exact hn.2.1 (Option.some.inj hf').symm
    · obtain ⟨o, ho', _⟩ := (K.frames.mem (List.mem_filterMap.mpr ⟨ev, hev, hf'⟩)).2
      rw [hn.2.2] at ho'; cases ho'
  unfold leaving
  refine wpAny_bind (flt_note1 (B := hideAll s'.heap (e :: (env :: outer).filterMap (·.frame))) K'.stack (funFrames_hide K'.frames hin) hf (fun b o q => of_hideAll _ q) (hideAll_none _ (.head _)) (N _ he).1 hc hd h1 h2 fun h' T R u => ?_)
  refine flt_flight R fun h'' R' u' => ?_
  exact hQ h'' ⟨_, T, st, hl, flt_out R'⟩ ((Heap.UpToSlots.of_keeps F.keep).trans (u.trans u'))
/-- a frame that it passes is left -/
theorem leave_onF (K : Below A base outer g) (F : Fr g L g₂ m) (hf : env.frame = some L) (R : FlyF base (env :: outer) e news s'.heap) (hsm : g₂.UpToSlots s'.heap)
    (hQ : ∀ h', FlyF base outer e news h' → g.UpToSlots h' → Q () { s' with heap := h' }) : wpAny M (A.deeper env) (leaving env (.ref e)) Q E s' := by
  obtain ⟨B, T, hB, hl, R⟩ := R
  unfold leaving
  refine wpAny_bind (flt_note2 (Around.frames_deeper K.stack) hf R fun h' T' R' u => ?_)
  refine flt_flight R' fun h'' R'' u' => ?_
  exact hQ h'' ⟨B, T', hB, hl, flt_out R''⟩ ((Heap.UpToSlots.of_keeps F.keep).trans (hsm.trans (u.trans u')))
end
end
theorem offFault8 : True := by
  w_top off
  exact trivial
section
section
variable {prog pt : Program} {w : World} {A₀ : Around} {base h₀ : Heap} {outer : List Env} {env : Env} {L : Addr} {m : Str → Option Value} {news : List (Addr × Obj)} {mean : ExcName → Option Value} {mg mb : Str → Option Value} {loose : List Str} {s : Shared} {Q E : Value → Shared → Prop} {dp un : Nat} {gd : Option (List Code)} {hdl : Option Value}
local macro_rules | `(tactic| walk_at "exec Raise some none") => `(tactic| refine halt ?_)
set_option maxHeartbeats 8000000 in
theorem turnedN_spec (B : Below A₀ base outer h₀) (F : Fr h₀ L s.heap m) (X : (hd.heap_1 w.params).In h₀) (N : News h₀ L s.heap news) (T : Top pt loose mean mg mb h₀)
    (hf : env.frame = some L) (hk : env.scope.kind = .function) (hd : dp + 90 < recursionLimit) (hu : un + 900 < cLine)
    {bn sh₀ sh tb tr : Addr} {Ta : Tab} {d : Array UInt8} (hb : BenchIn news bn sh₀ d) (hs : ShelfIn prog w news sh tb tr) (ht : TabIn prog w news tb Ta) (hl : look Ta 1 = none)
    (ret : ∀ e g₂ h' tk', Fr h₀ L g₂ m → g₂.UpToSlots h' → FlyF base (env :: outer) e news h' → E (.ref e) { s with heap := h', toks := tk' }) :
    wpAny (model prog w) (site none dp un gd env outer) (call (.ref 89) [.ref bn, .ref sh]) Q E s := by
  with_reducible refine ShelfIn.opn hs fun ds h1 t1 h2 t2 k hi1 hi2 otr rf htr hot lotr hrf => ?_
  (refine wpAny_call ?_; k_dflt (refine' code_def (binds := [(Str.ofString "bench", .ref bn), (Str.ofString "shelf", .ref sh)]) ?k1 ?k2 ?k3 ?k4 ?k5 ?kA ?kF ?kK ?k6 ?k7 ?k8 ?k9 ?kB ?_ ?c2 ?c3 ?c4 ?c5; (case kA => exact rfl); (case kF => assumption); (case kK => assumption); (case k1 => k_asm); (case k2 => k_asm); (case k3 => k_asm); (case k4 => k_asm); (case k5 => k_asm); (case k6 => k_is); (case k7 => k_is); (case k8 => (show dp < _; omega)); (case k9 => exact BindsTo.of_eq rfl); (case c5 => decide); (case kB => exact locs rfl); (case c2 => exact rfl); (case c3 => exact rfl); (case c4 => exact rfl); k_whole; intro g' L' h' FG' F' N' B' X' T'; (try dsimp only); (try k_fold)))
  k_steps
  refine Raise_fault rfl ?_
  k_steps
  rename_i e1 oe1 vs1 a01 hh1 tt1 n1 F1 N1 S1 M1 c1 d1 z0 z1 z2 off1
  refine ⟨e1, oe1, vs1, rfl, X'.keeps F1.keep, (N1 _ M1).1, c1, d1, z1, ?_⟩
  refine leave_fault B' F1 N1 M1 c1 d1 z1 z2 rfl rfl S1 off1 fun h' y1 y2 => ?_
  exact ret _ _ _ _ FG' y2 (y1.less (by ktr_unf))
end
end
local macro_rules | `(tactic| walk_at "call ref") => `(tactic| (k_search (call (Value.ref 89) [_, _]); ktf_call turnedN_spec))
theorem offGrown : True := by
  w_top off
  exact trivial
section
noncomputable def gapsN (T : Tab) (n : Nat) : List Int := ((List.range n).map fun (i : Nat) => (1 : Int) + (i : Int)).filter fun k => (look T k).isNone
noncomputable def fillT (T : Tab) (gs : List Int) : Tab := gs.foldl (fun T g => tset T g ⟨0, .nul⟩) T
noncomputable def dropT (T : Tab) (gs : List Int) : Tab := gs.foldl tdel T
theorem gapsN_succ {T : Tab} {n : Nat} : gapsN T (n + 1) = gapsN T n ++ (if (look T (1 + (n : Int))).isNone then [1 + (n : Int)] else []) := by
  unfold gapsN
  rw [List.range_succ, List.map_append, List.filter_append]
  simp only [List.map_cons, List.map_nil, List.filter_cons, List.filter_nil]
theorem gapsN_len {T : Tab} : ∀ {n : Nat}, (gapsN T n).length ≤ n
  | n => Nat.le_trans (List.length_filter_le _ _) (by rw [List.length_map, List.length_range]; exact Nat.le_refl _)
theorem fillT_len : ∀ {gs : List Int} {T : Tab}, (fillT T gs).length ≤ T.length + gs.length
  | [], T => Nat.le_refl _
  | g :: gs, T => by
    have a := fillT_len (gs := gs) (T := tset T g ⟨0, .nul⟩)
    have b := tset_len (T := T) (n := g) (e := ⟨0, .nul⟩)
    unfold fillT at a ⊢
    rw [List.foldl_cons, List.length_cons]
    omega
theorem dropT_len : ∀ {gs : List Int} {T : Tab}, (dropT T gs).length ≤ T.length
  | [], T => Nat.le_refl _
  | g :: gs, T => Nat.le_trans (dropT_len (gs := gs) (T := tdel T g)) tdel_len
theorem fillT_snoc {T : Tab} {gs : List Int} {g : Int} : fillT T (gs ++ [g]) = tset (fillT T gs) g ⟨0, .nul⟩ := by unfold fillT; rw [List.foldl_append]; rfl
theorem dropT_snoc {T : Tab} {gs : List Int} {g : Int} : dropT T (gs ++ [g]) = tdel (dropT T gs) g := by unfold dropT; rw [List.foldl_append]; rfl
theorem take_snoc {α : Type} {l : List α} {i : Nat} {x : α} (h : l[i]? = some x) : l.take (i + 1) = l.take i ++ [x] := by rw [List.take_succ, h]; rfl
theorem ints_snoc : ∀ {vs : List Value} {ns : List Int} {k : Int} {t : Tok}, IntsAre vs ns → IntsAre (vs ++ [.int k t]) (ns ++ [k])
  | _, _, k, t, .nil => .cons k t .nil
  | _, _, _, _, .cons a b c => .cons a b (ints_snoc c)
theorem ints_at {vs : List Value} {ns : List Int} {i : Nat} {v : Value} (h : IntsAre vs ns) (hv : vs.toArray[i]? = some v) : ∃ n t, v = .int n t ∧ ns[i]? = some n := by
  have hP' : vs[i]? = some v := by simpa using hv
  have hlt : i < ns.length := by rw [← h.length]; exact (List.getElem?_eq_some_iff.mp hP').1
  obtain ⟨t, hx⟩ := h.get i ns[i] (by simp [hlt])
  rw [hx] at hP'
  cases hP'
  exact ⟨ns[i], t, rfl, by simp [hlt]⟩
section
variable {M : Model} {A : Around} {E : Value → Shared → Prop} {s : Shared} {h₀ : Heap} {L : Addr} {m : Str → Option Value} {news : Led} {cn : Str} {cs : Scope} {a : Addr} {ccd : Value} {cl : List (Str × Addr)} {x : Str} {c : Addr} {o : Obj} {v₀ : Option Value} {v : Value}
/-- a cell set, the ledger abstract -/
theorem storeX_M {env : Env} {Q : Unit → Shared → Prop} (F : Fr h₀ L s.heap m) (N : News h₀ L s.heap news) (hk : env.scope.kind = .function) (hx : env.kindOf x = some .cell) (hc : env.cells.lookup x = some c) (hm : (c, o) ∈ news) (hd : o.data = .cell v₀)
    (h : ∀ h' o', Fr h₀ L h' m → News h₀ L h' ((c, o') :: but c news) → o'.data = .cell (some v) → SubX c news ((c, o') :: but c news) → SubC news ((c, o') :: but c news) → Q () { s with heap := h' }) : wpAny M A (storeName env x v) Q E s := by
  refine wpAny_storeName_cell hk hx hc ⟨o, (N _ hm).1, hd⟩ fun h' hv hs => ?_
  obtain ⟨o', ho', hd'⟩ := hv
  refine h h' o' (F.change hs (N _ hm).2.1 (N _ hm).2.2) (news_set (pre := []) (front N hm) (fun _ h => nomatch h) but_off hs ho') hd' subX_but fun p hp hn => subX_but (o := o') p hp fun e => hn ?_
  obtain ⟨b, ob⟩ := p
  simp only at e
  subst e
  exact det N hm hp ▸ ⟨_, hd⟩
end
local macro_rules | `(tactic| walk_at "storeName") => `(tactic| (tbr_iter (storeX_M, "301 401 106 206 506 702 603 0/7")))
local macro_rules | `(tactic| ktr_rel) => `(tactic| first | tbr_iter (TabIn.subC, "103 203") | tbr_iter (ShelfIn.subC, "103 203"))
theorem notInt_func {oc : Value} {od : Option Addr} {fd : FuncData} {sl : Array (Option Value)} : ¬ IntDict (⟨oc, od, .func fd, sl⟩ : Obj) := fun ⟨_, _, e, _⟩ => by cases e
local macro_rules | `(tactic| walk_at "callWith ref") => `(tactic| (tbr_iter (callWith_F, "120 0/0")))
local macro_rules | `(tactic| walk_at "FnAt") => `(tactic| k_dflt (tbr_iter (FnAt.of, "101 203")))
/-- a callable that turns a shelf's table T1 into T2 -/
def ChangeOK (prog pt : Program) (w : World) (mean : ExcName → Option Value) (mg mb : Str → Option Value) (loose : List Str) (ch : Addr) (P : Led → Prop) (T1 T2 : Tab) : Prop :=
  ∀ {A₀ : Around} {base h₀ : Heap} {outer : List Env} {env : Env} {L : Addr} {m : Str → Option Value} {news : List (Addr × Obj)} {s : Shared} {Q E : Value → Shared → Prop} {dp un : Nat} {gd : Option (List Code)},
    Below A₀ base outer h₀ → Fr h₀ L s.heap m → (hd.heap_1 w.params).In h₀ → News h₀ L s.heap news → Top pt loose mean mg mb h₀ → env.frame = some L → env.scope.kind = .function → dp + 100 < recursionLimit → un + 1000 < cLine →
    Held P news → ∀ {sh tb tr : Addr}, ShelfIn prog w news sh tb tr → TabIn prog w news tb T1 →
    (∀ r h' tk' news', Fr h₀ L h' m → News h₀ L h' news' → SubI tb news news' → TabIn prog w news' tb T2 → Q r { s with heap := h', toks := tk' }) →
    wpAny (model prog w) (site none dp un gd env outer) (call (.ref ch) [.ref sh]) Q E s
section
variable {prog pt : Program} {w : World} {A₀ : Around} {base h₀ : Heap} {outer : List Env} {env : Env} {L : Addr} {m : Str → Option Value} {news : List (Addr × Obj)} {mean : ExcName → Option Value} {mg mb : Str → Option Value} {loose : List Str} {s : Shared} {Q E : Value → Shared → Prop} {dp un : Nat} {gd : Option (List Code)} {hdl : Option Value}
theorem ChangeOK.use {ch : Addr} {P : Led → Prop} {T1 T2 : Tab} (h : ChangeOK prog pt w mean mg mb loose ch P T1 T2) (B : Below A₀ base outer h₀) (F : Fr h₀ L s.heap m) (X : (hd.heap_1 w.params).In h₀) (N : News h₀ L s.heap news) (T : Top pt loose mean mg mb h₀)
    (hf : env.frame = some L) (hk : env.scope.kind = .function) (hd : dp + 100 < recursionLimit) (hu : un + 1000 < cLine) (hP : Held P news) {sh tb tr : Addr} (hs : ShelfIn prog w news sh tb tr) (ht : TabIn prog w news tb T1)
    (ret : ∀ r h' tk' news', Fr h₀ L h' m → News h₀ L h' news' → SubI tb news news' → TabIn prog w news' tb T2 → Q r { s with heap := h', toks := tk' }) :
    wpAny (model prog w) (site none dp un gd env outer) (call (.ref ch) [.ref sh]) Q E s := h B F X N T hf hk hd hu hP hs ht ret
end
local macro_rules | `(tactic| ktr_rel) => `(tactic| first | with_reducible assumption | tbr_iter (Held.sub, "103 205") | tbr_iter (Held.subI, "103 205"))
local macro_rules | `(tactic| walk_at "mine A") => `(tactic| ((with_reducible show ChangeOK _ _ _ _ _ _ _ _ _ _ _); with_reducible assumption))
local macro_rules | `(tactic| walk_at "mine C") => `(tactic| ((with_reducible show Held _ _); ktr_rel))
local macro_rules | `(tactic| walk_at "call ref") => `(tactic| (k_search (call (Value.ref _) [_]); ktf_call ChangeOK.use))
section
variable {prog pt : Program} {w : World} {A₀ : Around} {base h₀ : Heap} {outer : List Env} {env : Env} {L : Addr} {m : Str → Option Value} {news : List (Addr × Obj)} {mean : ExcName → Option Value} {mg mb : Str → Option Value} {loose : List Str} {s : Shared} {Q E : Value → Shared → Prop} {dp un : Nat} {gd : Option (List Code)} {hdl : Option Value}
set_option maxHeartbeats 8000000 in
theorem grown_both (B : Below A₀ base outer h₀) (F : Fr h₀ L s.heap m) (X : (hd.heap_1 w.params).In h₀) (N : News h₀ L s.heap news) (T : Top pt loose mean mg mb h₀)
    (hf : env.frame = some L) (hk : env.scope.kind = .function) (hd : dp + 150 < recursionLimit) (hu : un + 1500 < cLine)
    {bn sh tb tr ch : Addr} {Ta T2 : Tab} {d : Array UInt8} {by' : Nat} {tbe : Tok} {P : Led → Prop} (hb : BenchIn news bn sh d) (hs : ShelfIn prog w news sh tb tr) (ht : TabIn prog w news tb Ta) (h64 : Ta.length ≤ 20) (hby : by' ≤ 20)
    {oc : Value} {od : Option Addr} {fd : FuncData} {sl : Array (Option Value)} (hfn : (ch, (⟨oc, od, .func fd, sl⟩ : Obj)) ∈ news) (hP : Held P news) (hch : ChangeOK prog pt w mean mg mb loose ch P (fillT Ta (gapsN Ta by')) T2) (h2' : T2.length < 64) (hroot : look (dropT T2 (gapsN Ta by')) 1 = some ⟨0, .cat⟩ ∨ look (dropT T2 (gapsN Ta by')) 1 = none)
    (ret : look (dropT T2 (gapsN Ta by')) 1 = some ⟨0, .cat⟩ → ∀ bn' sh' tb' tr' h' tk' news', Fr h₀ L h' m → News h₀ L h' news' → Sub news news' → BenchIn news' bn' sh' d → ShelfIn prog w news' sh' tb' tr' → TabIn prog w news' tb' (dropT T2 (gapsN Ta by')) → Q (.ref bn') { s with heap := h', toks := tk' })
    (retN : look (dropT T2 (gapsN Ta by')) 1 = none → ∀ e g₂ h' tk', Fr h₀ L g₂ m → g₂.UpToSlots h' → FlyF base (env :: outer) e news h' → E (.ref e) { s with heap := h', toks := tk' }) :
    wpAny (model prog w) (site none dp un gd env outer) (call (.ref 410) [.ref bn, .int (1 + (by' : Int)) tbe, .ref ch]) Q E s := by
  with_reducible refine BenchIn.opn hb fun db h1 t1 t0 h2 t2 h3 t3 n hb1 hb2 => ?_
  (refine wpAny_call ?_; k_dflt (refine' code_defC (binds := [(Str.ofString "bench", .ref bn), (Str.ofString "beyond", .int (1 + (by' : Int)) tbe), (Str.ofString "change", .ref ch)]) ?k1 ?k2 ?k3 ?k4 ?k5 ?kA ?kF ?kK ?k6 ?k7 ?k8 ?k9 ?kB ?kN ?_ ?c2 ?c3 ?c4; (case kA => exact rfl); (case kF => assumption); (case kK => assumption); (case k1 => k_asm); (case k2 => k_asm); (case k3 => k_asm); (case k4 => k_asm); (case k5 => k_asm); (case k6 => k_is); (case k7 => k_is); (case k8 => (show dp < _; omega)); (case k9 => exact BindsTo.of_eq rfl); (case kB => exact rfl); (case kN => decide +kernel); (case c2 => exact rfl); (case c3 => exact rfl); (case c4 => exact rfl); k_whole; intro g' L' h' tk' cells' FG' F' N' Y' B' X' T' l'; (try k_lt l'); k_cells Y'; (try simp only [List.cons_append, List.nil_append] at N'); (try dsimp only); (try k_fold)))
  k_steps
  rename Fr g' L' _ _ => F1
  refine' assign_RT F1 rfl rfl ?hsw ?hclos ?hcell ?hkind ?hnames ?hx ?hy ?hp ?h ?hs
  case hsw => with_unfolding_all rfl
  case hclos => with_unfolding_all rfl
  case hcell => decide
  case hkind => with_unfolding_all rfl
  case hnames => decide
  case hx => with_unfolding_all rfl
  case hy => rfl
  case hp => rfl
  case hs => intro _; with_unfolding_all rfl
  k_steps
  rename IsRange _ _ _ _ _ _ _ _ => R1
  rename Fr g' L' _ _ => F2
  rename News g' L' _ _ => N2
  rename SubX _ _ _ => S2
  rename SubC _ _ => C2
  rename_i o0 dd0 sh' tb' tr' hh0 tk0 n0 S1 H1 T1 fr1 hh1 o1 F9 N9 dd1 hh2 tk2 _ _ _ _
  have e0 : Sub news ((L' + 1, o1) :: but (L' + 1) n0) := fun p hp => S2 p (S1 p (.tail _ hp)) (Nat.ne_of_lt (Nat.lt_succ_of_lt (l' p hp)))
  obtain ⟨l1, N2, e1, hb3, hP1, H2, T2', cm⟩ : ∃ l1, News g' L' hh2 l1 ∧ Sub news l1 ∧ BenchIn l1 bn sh d ∧ Held P l1 ∧ ShelfIn prog w l1 sh' tb' tr' ∧ TabIn prog w l1 tb' Ta ∧ (L' + 1, o1) ∈ l1 :=
    ⟨_, N2, e0, hb.sub e0, hP.sub e0, H1.subC C2, T1.subC C2, .head _⟩
  have fr : ∀ p ∈ news, p.1 ≠ tb' := fun p hp => fr1 p (.tail _ hp)
  clear S2 C2 S1 H1 T1 fr1 e0
  with_reducible refine ShelfIn.opn1 H2 fun ds' g1 u1 g2 u2 kk hi1 hi2 => ?_
  refine ⟨_, 1, 1 + (by' : Int), by', l1, fun i ys l' => Sub l1 l' ∧ IntsAre ys (gapsN Ta i), rfl, ⟨⟨_, _, _, R1⟩, small_one (by omega) (by omega) (by omega) (by omega), by rw [rangeSize_nat]; omega, F2, N2, by rw [sizeLine_eq]; omega⟩, ⟨Sub.rfl', .nil⟩, fun g => ?turn, ?done⟩
  case turn =>
    rintro i v ys l2 I oI C oC D m₂ h tk E' ⟨t, rfl⟩ ⟨e, hi⟩ _ hC hx F3 N3
    cases hl : look Ta (1 + (i : Int)) with
    | none =>
      k_steps
      refine turn_val (by k_asm) (by k_asm) (by ktr_unf) fun l' n => ⟨e.trans n, ?_⟩
      rw [gapsN_succ, hl]
      exact ints_snoc hi
    | some en =>
      k_steps
      refine turn_val (by k_asm) (by k_asm) (by ktr_unf) fun l' n => ⟨e.trans n, ?_⟩
      rw [gapsN_succ, hl]
      simpa using hi
  case done =>
    rintro D h tk ys l3 ⟨e, hi⟩ F3 N3 off3
    have hgl : (gapsN Ta by').length ≤ 20 := Nat.le_trans gapsN_len hby
    have hsz : ys.toArray.size = (gapsN Ta by').length := by rw [List.size_toArray]; exact hi.length
    clear N2 F2 R1
    k_steps
    refine' for_list F3 rfl rfl rfl ?h
    k_steps
    rename Fr g' L' _ _ => F4
    rename News g' L' _ _ => N4
    refine ⟨D, ys.toArray, _, _, _, fun i m₁ l₁ => SubI tb' ((D, LCg.lst ys) :: l3) l₁ ∧ m₁ (Str.ofString "gaps") = some (.ref D) ∧ m₁ (Str.ofString "bench") = some (.ref bn) ∧ m₁ (Str.ofString "change") = some (.ref ch) ∧ TabIn prog w l₁ tb' (fillT Ta ((gapsN Ta by').take i)), rfl, ⟨F4, N4, .head _⟩, ⟨Sub.rfl'.i, rfl, rfl, rfl, T2'.sub e.cons⟩, fun g => ?turn1, ?done1⟩
    case turn1 =>
      clear F4 N4
      rintro i v m₁ l₁ I oI h tk hlt hP ⟨e4, hg, hbn, hcc, hT⟩ hS off hoF F5 N5
      obtain ⟨n, t, rfl, hni⟩ := ints_at hi hP
      have hz : (fillT Ta ((gapsN Ta by').take i)).length < 64 := Nat.lt_of_le_of_lt fillT_len (by rw [List.length_take]; omega)
      have E4 : SubI tb' l1 l₁ := (Sub.i e.cons).trans e4
      have H4 := H2.subI E4
      have cm4 := E4 _ cm (.inr (notInt_cell dd1))
      have hi14 := E4 _ hi1 (.inr notInt_inst)
      have hi24 := E4 _ hi2 (.inr notInt_dictOf)
      k_steps
      rename Fr g' _ _ _ => F6
      rename News g' _ _ _ => N6
      rename TabIn _ _ _ tb' (tset _ _ _) => T6
      rename SubI _ ((I, oI) :: _) _ => S6
      rw [← fillT_snoc, ← take_snoc hni] at T6
      exact .go tb' F6 N6 off hoF S6 fun l' e5 f5 => ⟨e5 _ hS (.inr notInt_list), e4.trans e5, hg, hbn, hcc, T6.subF f5⟩
    case done1 =>
      clear F4 N4
      rintro h' tk m' l4 F5 N5 hS ⟨e4, hg, hbn, hcc, hT⟩
      rw [hsz, List.take_length] at hT
      have E4 : SubI tb' l1 l4 := (Sub.i e.cons).trans e4
      have H4 := H2.subI E4
      have cm4 := E4 _ cm (.inr (notInt_cell dd1))
      have hi14 := E4 _ hi1 (.inr notInt_inst)
      have hi24 := E4 _ hi2 (.inr notInt_dictOf)
      have hfn4 := E4 _ (e1 _ hfn) (.inr notInt_func)
      have hP4 := hP1.subI E4
      k_steps
      rename Fr g' _ _ _ => F6
      refine' for_list F6 rfl rfl rfl ?h
      rename SubI tb' l4 _ => S6
      rename TabIn _ _ _ tb' T2 => T6
      k_steps
      rename Fr g' _ _ _ => F7
      rename News g' _ _ _ => N7
      rename_i rr hh6 tt6 n6 _ _ _
      refine ⟨D, ys.toArray, _, _, _, fun i m₁ l₁ => SubI tb' l4 l₁ ∧ m₁ (Str.ofString "bench") = some (.ref bn) ∧ TabIn prog w l₁ tb' (dropT T2 ((gapsN Ta by').take i)), rfl, ⟨F7, N7, S6 _ hS (.inr notInt_list)⟩, ⟨S6, hbn, T6⟩, fun g => ?turn2, ?done2⟩
      case turn2 =>
        clear F7 N7 S6 T6
        rintro i v m₁ l₁ I oI h tk hlt hP ⟨e7, hbn7, hT7⟩ hS7 off7 hoF7 F8 N8
        obtain ⟨n, t, rfl, hni⟩ := ints_at hi hP
        have hz : (dropT T2 ((gapsN Ta by').take i)).length < 64 := Nat.lt_of_le_of_lt dropT_len h2'
        have H8 := H4.subI e7
        have cm8 := e7 _ cm4 (.inr (notInt_cell dd1))
        have hi18 := e7 _ hi14 (.inr notInt_inst)
        have hi28 := e7 _ hi24 (.inr notInt_dictOf)
        k_steps
        rename Fr g' _ _ _ => F9
        rename News g' _ _ _ => N9
        rename TabIn _ _ _ tb' (tdel _ _) => T9
        rename SubI _ ((I, oI) :: _) _ => S9
        rw [← dropT_snoc, ← take_snoc hni] at T9
        exact .go tb' F9 N9 off7 hoF7 S9 fun l' e5 f5 => ⟨e5 _ hS7 (.inr notInt_list), e7.trans e5, hbn7, T9.subF f5⟩
      case done2 =>
        clear F7 N7 S6 T6
        rintro h' tk m' l5 F8 N8 hS7 ⟨e7, hbn7, hT7⟩
        rw [hsz, List.take_length] at hT7
        have H8 := H4.subI e7
        have cm8 := e7 _ cm4 (.inr (notInt_cell dd1))
        have B8 := (hb3.subI E4).subI e7
        rcases hroot with hroot | hroot
        · k_steps
          rename Sub l5 _ => S9
          exact ret hroot _ sh' tb' tr' _ _ _ (by k_asm) (by k_asm) (fun p hp => S9 _ (e7 _ (E4 _ (e1 p hp) (.inl (fr p hp))) (.inl (fr p hp)))) (by assumption) (H8.sub S9) (hT7.sub S9)
        · k_steps
          rename FlyF _ _ _ _ _ => R9
          rename Heap.UpToSlots _ _ => U9
          rename Fr g' L' _ _ => F9
          refine leave_onF B' F9 rfl R9 U9 fun h'' y1 y2 => ?_
          exact retN hroot _ _ _ _ FG' y2 (y1.less fun p hp => e7 _ (E4 _ (e1 p hp) (.inl (fr p hp))) (.inl (fr p hp)))
end
end
theorem offPure : True := by
  w_top off
  exact trivial
section
noncomputable def free (T : Tab) (b : Int) : Int := Classical.choose (find_free (T := T) b)
theorem free_ge {T : Tab} {b : Int} : b ≤ free T b := (Classical.choose_spec (find_free (T := T) b)).1
theorem free_none {T : Tab} {b : Int} : look T (free T b) = none := (Classical.choose_spec (find_free (T := T) b)).2.1
theorem free_least {T : Tab} {b : Int} : ∀ j, b ≤ j → j < free T b → look T j ≠ none := (Classical.choose_spec (find_free (T := T) b)).2.2
theorem free_eq {T : Tab} {b f : Int} (h1 : b ≤ f) (h2 : look T f = none) (h3 : ∀ j, b ≤ j → j < f → look T j ≠ none) : free T b = f := by
  rcases Int.lt_trichotomy (free T b) f with q | q | q
  · exact absurd free_none (h3 _ free_ge q)
  · exact q
  · exact absurd h2 (free_least _ h1 q)
/-- new objects laid on the least free numbers from b on -/
noncomputable def adds (T : Tab) (b : Int) : Nat → Tab
  | 0 => T
  | k + 1 => tset (adds T b k) (free (adds T b k) b) ⟨0, .lst (100 + (k : Int))⟩
noncomputable def turnT (T : Tab) (tu go : Int) : Tab := if 0 < go then tdel (if 0 < tu then tset T tu ⟨5, .lst 0⟩ else T) go else (if 0 < tu then tset T tu ⟨5, .lst 0⟩ else T)
theorem look_turnT {T : Tab} {tu go k : Int} : look (turnT T tu go) k = if 0 < go ∧ k = go then none else if 0 < tu ∧ k = tu then some ⟨5, .lst 0⟩ else look T k := by
  unfold turnT
  by_cases h1 : 0 < go <;> by_cases h2 : 0 < tu <;> simp only [h1, h2, if_true, if_false, look_tdel, look_tset, true_and, false_and]
theorem look_fillT {k : Int} : ∀ {gs : List Int} {T : Tab}, look (fillT T gs) k = if k ∈ gs then some ⟨0, .nul⟩ else look T k
  | [], T => by simp [fillT]
  | g :: gs, T => by
    have ih := look_fillT (k := k) (gs := gs) (T := tset T g ⟨0, .nul⟩)
    unfold fillT at ih ⊢
    rw [List.foldl_cons, ih, look_tset]
    by_cases h1 : k ∈ gs
    · rw [if_pos h1, if_pos (List.mem_cons_of_mem _ h1)]
    · rw [if_neg h1]
      by_cases h2 : k = g
      · rw [if_pos h2, if_pos (by rw [h2]; exact List.mem_cons_self)]
      · rw [if_neg h2, if_neg (fun q => (List.mem_cons.mp q).elim h2 h1)]
theorem look_dropT {k : Int} : ∀ {gs : List Int} {T : Tab}, look (dropT T gs) k = if k ∈ gs then none else look T k
  | [], T => by simp [dropT]
  | g :: gs, T => by
    have ih := look_dropT (k := k) (gs := gs) (T := tdel T g)
    unfold dropT at ih ⊢
    rw [List.foldl_cons, ih, look_tdel]
    by_cases h1 : k ∈ gs
    · rw [if_pos h1, if_pos (List.mem_cons_of_mem _ h1)]
    · rw [if_neg h1]
      by_cases h2 : k = g
      · rw [if_pos h2, if_pos (by rw [h2]; exact List.mem_cons_self)]
      · rw [if_neg h2, if_neg (fun q => (List.mem_cons.mp q).elim h2 h1)]
theorem mem_gaps {T : Tab} {n : Nat} {k : Int} : k ∈ gapsN T n ↔ 1 ≤ k ∧ k ≤ n ∧ look T k = none := by
  unfold gapsN
  rw [List.mem_filter, List.mem_map, Option.isNone_iff_eq_none]
  constructor
  · rintro ⟨⟨i, hi, rfl⟩, h⟩
    have := List.mem_range.mp hi
    exact ⟨by omega, by omega, h⟩
  · rintro ⟨h1, h2, h3⟩
    exact ⟨⟨(k - 1).toNat, List.mem_range.mpr (by omega), by omega⟩, h3⟩
/-- the tables of the change and of the law, step by step -/
theorem adds_meet {T0 : Tab} {n : Nat} : ∀ (k : Nat), (∀ j, look (adds (fillT T0 (gapsN T0 n)) 1 k) j = if j ∈ gapsN T0 n then some ⟨0, .nul⟩ else look (adds T0 (1 + (n : Int)) k) j) ∧
    (∀ j : Int, j ≤ (n : Int) → look (adds T0 (1 + (n : Int)) k) j = look T0 j)
  | 0 => ⟨fun j => look_fillT, fun _ _ => rfl⟩
  | k + 1 => by
    obtain ⟨h1, h2⟩ := adds_meet (T0 := T0) (n := n) k
    have hf : free (adds (fillT T0 (gapsN T0 n)) 1 k) 1 = free (adds T0 (1 + (n : Int)) k) (1 + (n : Int)) := by
      have g1 := free_ge (T := adds T0 (1 + (n : Int)) k) (b := 1 + (n : Int))
      have g2 := free_none (T := adds T0 (1 + (n : Int)) k) (b := 1 + (n : Int))
      have g3 := free_least (T := adds T0 (1 + (n : Int)) k) (b := 1 + (n : Int))
      refine free_eq (by omega) ?_ fun j hj1 hj2 => ?_
      · rw [h1, if_neg (fun q => by have := (mem_gaps.mp q).2.1; omega), g2]
      · rw [h1]
        by_cases q : j ∈ gapsN T0 n
        · rw [if_pos q]; simp
        · rw [if_neg q]
          by_cases hn : j ≤ n
          · rw [h2 j hn]
            exact fun e => q (mem_gaps.mpr ⟨hj1, hn, e⟩)
          · exact g3 j (by omega) hj2
    have g1 := free_ge (T := adds T0 (1 + (n : Int)) k) (b := 1 + (n : Int))
    refine ⟨fun j => ?_, fun j hj => ?_⟩
    · show look (tset (adds (fillT T0 (gapsN T0 n)) 1 k) (free (adds (fillT T0 (gapsN T0 n)) 1 k) 1) _) j = if _ then _ else look (tset (adds T0 (1 + (n : Int)) k) (free (adds T0 (1 + (n : Int)) k) (1 + (n : Int))) _) j
      rw [look_tset, look_tset, hf, h1]
      by_cases e : j = free (adds T0 (1 + (n : Int)) k) (1 + (n : Int))
      · rw [if_pos e, if_pos e, if_neg (fun q => by have := (mem_gaps.mp q).2.1; omega)]
      · rw [if_neg e, if_neg e]
    · show look (tset (adds T0 (1 + (n : Int)) k) (free (adds T0 (1 + (n : Int)) k) (1 + (n : Int))) _) j = _
      rw [look_tset, if_neg (by omega), h2 j hj]
/-- what copy_grown leaves is what the law reckons -/
theorem grown_looks {T0 : Tab} {n k : Nat} {tu go : Int} (ht : 0 < tu → look T0 tu ≠ none) (hg : 0 < go → look T0 go ≠ none) (j : Int) :
    look (dropT (turnT (adds (fillT T0 (gapsN T0 n)) 1 k) tu go) (gapsN T0 n)) j = look (turnT (adds T0 (1 + (n : Int)) k) tu go) j := by
  obtain ⟨h1, h2⟩ := adds_meet (T0 := T0) (n := n) k
  rw [look_dropT, look_turnT, look_turnT, h1]
  by_cases q : j ∈ gapsN T0 n
  · have hq := mem_gaps.mp q
    rw [if_pos q, if_neg (fun (e : 0 < go ∧ j = go) => hg e.1 (e.2 ▸ hq.2.2)), if_neg (fun (e : 0 < tu ∧ j = tu) => ht e.1 (e.2 ▸ hq.2.2)), h2 j hq.2.1, hq.2.2]
  · rw [if_neg q, if_neg q]
theorem look_mem_iff {T : Tab} {n : Int} : n ∈ T.map (·.1) ↔ look T n ≠ none := by
  constructor
  · intro h
    obtain ⟨e, he⟩ := look_mem h
    rw [he]; simp
  · intro h
    obtain ⟨e, he⟩ := Option.ne_none_iff_exists'.mp h
    unfold look at he
    obtain ⟨p, hp, _⟩ := Option.map_eq_some_iff.mp he
    have h1 := List.find?_some hp
    have h2 := List.mem_of_find?_eq_some hp
    exact List.mem_map.mpr ⟨p, h2, by simpa using h1⟩
theorem sorted_uniq : ∀ {l l' : List Int}, l.Pairwise (· ≤ ·) → l'.Pairwise (· ≤ ·) → l.Nodup → l'.Nodup → (∀ x, x ∈ l ↔ x ∈ l') → l = l'
  | [], [], _, _, _, _, _ => rfl
  | [], y :: _, _, _, _, _, h => by have := (h y).mpr (.head _); simp at this
  | x :: _, [], _, _, _, _, h => by have := (h x).mp (.head _); simp at this
  | x :: l, y :: l', s, s', n, n', h => by
    have sx := List.pairwise_cons.mp s
    have sy := List.pairwise_cons.mp s'
    have nx := List.nodup_cons.mp n
    have ny := List.nodup_cons.mp n'
    have e : x = y := by
      rcases List.mem_cons.mp ((h x).mp (.head _)) with q | q
      · exact q
      rcases List.mem_cons.mp ((h y).mpr (.head _)) with p | p
      · exact p.symm
      exact Int.le_antisymm (sx.1 y p) (sy.1 x q)
    subst e
    rw [sorted_uniq sx.2 sy.2 nx.2 ny.2 fun z => ?_]
    constructor
    · intro hz
      rcases List.mem_cons.mp ((h z).mp (.tail _ hz)) with q | q
      · exact absurd (q ▸ hz) nx.1
      · exact q
    · intro hz
      rcases List.mem_cons.mp ((h z).mpr (.tail _ hz)) with q | q
      · exact absurd (q ▸ hz) ny.1
      · exact q
theorem keys_uniq {T T' : Tab} {ns ns' : List Int} (hl : ∀ j, look T j = look T' j) (p : ns.Perm (T.map (·.1))) (p' : ns'.Perm (T'.map (·.1))) (s : ns.Pairwise (· ≤ ·)) (s' : ns'.Pairwise (· ≤ ·)) (n : TNodup T) (n' : TNodup T') : ns = ns' ∧ ns.map (rowOf T) = ns'.map (rowOf T') := by
  have e : ns = ns' := sorted_uniq s s' (p.nodup_iff.mpr n) (p'.nodup_iff.mpr n') fun x => by rw [p.mem_iff, p'.mem_iff, look_mem_iff, look_mem_iff, hl]
  subst e
  refine ⟨rfl, List.map_congr_left fun x _ => ?_⟩
  unfold rowOf
  rw [hl]
theorem told_uniq {T T' : Tab} {ns ns' : List Int} (hl : ∀ j, look T j = look T' j) (p : ns.Perm (T.map (·.1))) (p' : ns'.Perm (T'.map (·.1))) (s : ns.Pairwise (· ≤ ·)) (s' : ns'.Pairwise (· ≤ ·)) (n : TNodup T) (n' : TNodup T') : toldDat T ns = toldDat T' ns' := by
  unfold toldDat
  rw [(keys_uniq hl p p' s s' n n').2]
/-- the law's first table -/
noncomputable def baseT (ns : List Int) : Tab := ns.foldl (fun T n => tset T n ⟨n.fmod 3, .lst n⟩) [(1, ⟨0, .cat⟩)]
theorem baseT_snoc {ns : List Int} {n : Int} : baseT (ns ++ [n]) = tset (baseT ns) n ⟨n.fmod 3, .lst n⟩ := by unfold baseT; rw [List.foldl_append]; rfl
theorem foldl_len : ∀ {ns : List Int} {T : Tab}, (ns.foldl (fun T n => tset T n ⟨n.fmod 3, .lst n⟩) T).length ≤ T.length + ns.length
  | [], T => Nat.le_refl _
  | n :: ns, T => by
    have a := foldl_len (ns := ns) (T := tset T n ⟨n.fmod 3, .lst n⟩)
    have b := tset_len (T := T) (n := n) (e := ⟨n.fmod 3, .lst n⟩)
    rw [List.foldl_cons, List.length_cons]
    omega
theorem baseT_len {ns : List Int} : (baseT ns).length ≤ 1 + ns.length := foldl_len
theorem foldl_look {k : Int} : ∀ {ns : List Int} {T : Tab}, k ∈ ns ∨ look T k ≠ none → look (ns.foldl (fun T n => tset T n ⟨n.fmod 3, .lst n⟩) T) k ≠ none
  | [], T, h => h.elim (fun q => by simp at q) id
  | n :: ns, T, h => by
    rw [List.foldl_cons]
    refine foldl_look ?_
    rw [look_tset]
    by_cases e : k = n
    · right; rw [if_pos e]; simp
    · rw [if_neg e]
      exact h.imp (fun q => (List.mem_cons.mp q).resolve_left e) id
theorem baseT_look {ns : List Int} {k : Int} (h : k ∈ ns) : look (baseT ns) k ≠ none := foldl_look (.inl h)
theorem foldl_one : ∀ {ns : List Int} {T : Tab}, (∀ n ∈ ns, n ≠ 1) → look (ns.foldl (fun T n => tset T n ⟨n.fmod 3, .lst n⟩) T) 1 = look T 1
  | [], _, _ => rfl
  | n :: ns, T, h => by
    rw [List.foldl_cons, foldl_one fun m hm => h m (.tail _ hm), look_tset, if_neg (Ne.symm (h n (.head _)))]
theorem baseT_one {ns : List Int} (h : ∀ n ∈ ns, n ≠ 1) : look (baseT ns) 1 = some ⟨0, .cat⟩ := foldl_one h
theorem adds_len {T : Tab} {b : Int} : ∀ {k : Nat}, (adds T b k).length ≤ T.length + k
  | 0 => Nat.le_refl _
  | k + 1 => Nat.le_trans tset_len (by have := adds_len (T := T) (b := b) (k := k); omega)
theorem turnT_len {T : Tab} {tu go : Int} : (turnT T tu go).length ≤ T.length + 1 := by
  have h : (if 0 < tu then tset T tu ⟨5, .lst 0⟩ else T).length ≤ T.length + 1 := by
    split
    · exact tset_len
    · omega
  unfold turnT
  split
  · exact Nat.le_trans tdel_len h
  · exact h
theorem turnT_one {T : Tab} {tu go : Int} (ht : 0 < tu → tu ≠ 1) (hg : 0 < go → go ≠ 1) : look (turnT T tu go) 1 = look T 1 := by
  rw [look_turnT, if_neg (fun e => hg e.1 e.2.symm), if_neg (fun e => ht e.1 e.2.symm)]
theorem adds_one {T : Tab} {n : Nat} {e : Ent} (h : look T 1 = some e) : ∀ {k : Nat}, look (adds T (1 + (n : Int)) k) 1 = some e
  | 0 => h
  | k + 1 => by
    show look (tset (adds T (1 + (n : Int)) k) (free (adds T (1 + (n : Int)) k) (1 + (n : Int))) _) 1 = _
    have ih := adds_one (n := n) h (k := k)
    rw [look_tset, if_neg, ih]
    intro q
    have := free_none (T := adds T (1 + (n : Int)) k) (b := 1 + (n : Int))
    rw [← q, ih] at this
    cases this
end
theorem offEqD : True := by
  w_top off
  exact trivial
section
mutual
/-- no list in it -/
noncomputable def flatD : Dat → Bool
  | .list _ => false
  | .tuple ds => flatDs ds
  | _ => true
noncomputable def flatDs : List Dat → Bool
  | [] => true
  | d :: ds => flatD d && flatDs ds
end
mutual
theorem dat_subR {l l' : Led} (e : SubR l l') : ∀ {v : Value} {d : Dat}, DatIn l v d → flatD d = true → DatIn l' v d
  | _, _, .none, _ => .none
  | _, _, .bool b, _ => .bool b
  | _, _, .int i t, _ => .int i t
  | _, _, .str x t, _ => .str x t
  | _, _, .bytes b t, _ => .bytes b t
  | _, _, .tuple hm r, h => .tuple (e _ hm notInt_tup notF_tup notC_tup notT_tup) (dats_subR e r (by rw [flatD] at h; exact h))
  | _, _, .list hm r, h => by rw [flatD] at h; cases h
theorem dats_subR {l l' : Led} (e : SubR l l') : ∀ {vs : List Value} {ds : List Dat}, DatAll l vs ds → flatDs ds = true → DatAll l' vs ds
  | _, _, .nil, _ => .nil
  | _, _, .cons h r, q => by
    rw [flatDs, Bool.and_eq_true] at q
    exact .cons (dat_subR e h q.1) (dats_subR e r q.2)
end
theorem val_flat (v : Val) : flatD v.dat = true := by
  cases v with
  | nul => rfl
  | lst x => rfl
  | cat => rfl
theorem flats_of : ∀ {ds : List Dat}, (∀ d ∈ ds, flatD d = true) → flatDs ds = true
  | [], _ => rfl
  | d :: ds, h => by rw [flatDs, h d (.head _), flats_of fun e he => h e (.tail _ he)]; rfl
theorem rows_flat (T : Tab) (ns : List Int) : flatDs (ns.map (rowOf T)) = true := flats_of fun d hd => by
  obtain ⟨n, _, rfl⟩ := List.mem_map.mp hd
  unfold rowOf
  cases look T n with
  | none => rfl
  | some e =>
    show (flatD (.int n) && (flatD (.int e.gen) && (flatD e.val.dat && true))) = true
    rw [val_flat]
    rfl
theorem told_flat (T : Tab) (ns : List Int) : flatD (toldDat T ns) = true := by
  show (flatDs (ns.map (rowOf T)) && (flatD trDat && true)) = true
  rw [rows_flat]
  rfl
section
variable {prog : Program} {w : World} {A : Around} {E : Value → Shared → Prop} {s : Shared} {h₀ : Heap} {L : Addr} {m : Str → Option Value} {news n₁ n₂ : Led} {a b : Value} {d e : Dat} {Q : Value → Shared → Prop}
theorem dat_eqv (ha : kqdOk 8 d = true) : PyData.eqv (kqdP d) (kqdP d) = true := (kqd_eqv 8 d d 8 ha ha).mpr rfl
theorem dat_shaped (ha : kqdOk 8 d = true) : SeqAt.shaped (kqdP d) = true := by
  have la := kqd_lay 8 d ha
  unfold SeqAt.shaped
  rw [la.1, Bool.true_and]
  exact decide_eq_true (Nat.le_trans la.2 (by decide))
theorem eq_dat (N : News h₀ L s.heap news) (Da : DatIn n₁ a d) (sa : Sub n₁ news) (Db : DatIn n₂ b d) (sb : Sub n₂ news) (ha : kqdOk 8 d = true) (hu : A.units + 64 < cLine) (h : Q (.bool true) s) :
    wpAny (model prog w) A (compareOp .Eq a b) Q E s := by
  obtain ⟨as, ra⟩ := kqd_in N 8 (Da.mono sa) ha
  obtain ⟨bs, rb⟩ := kqd_in N 8 (Db.mono sb) ha
  exact eq_dataH ra rb (dat_shaped ha) (dat_shaped ha) hu (by rw [dat_eqv ha]; exact h)
theorem ne_dat (N : News h₀ L s.heap news) (Da : DatIn n₁ a d) (sa : Sub n₁ news) (Db : DatIn n₂ b d) (sb : Sub n₂ news) (ha : kqdOk 8 d = true) (hu : A.units + 64 < cLine) (h : Q (.bool false) s) :
    wpAny (model prog w) A (compareOp .NotEq a b) Q E s := by
  obtain ⟨as, ra⟩ := kqd_in N 8 (Da.mono sa) ha
  obtain ⟨bs, rb⟩ := kqd_in N 8 (Db.mono sb) ha
  exact ne_dataH ra rb (dat_shaped ha) (dat_shaped ha) hu (by rw [dat_eqv ha]; exact h)
end
theorem val_ok (v : Val) : kqdOk 5 v.dat = true := by
  cases v with
  | nul => decide +kernel
  | lst x => simp only [Val.dat, lstDat, kqdOk, List.all_cons, List.all_nil]; decide +kernel
  | cat => decide +kernel
theorem kqdOk_mono : ∀ {n k : Nat} {d : Dat}, n ≤ k → kqdOk n d = true → kqdOk k d = true
  | 0, 0, _, _, h => h
  | 0, k + 1, d, _, h => by cases d <;> simp_all [kqdOk]
  | n + 1, 0, _, hn, _ => absurd hn (by omega)
  | n + 1, k + 1, d, hn, h => by
    cases d with
    | tuple ds => simp only [kqdOk, List.all_eq_true] at h ⊢; exact fun x hx => kqdOk_mono (by omega) (h x hx)
    | list ds => simp only [kqdOk, List.all_eq_true] at h ⊢; exact fun x hx => kqdOk_mono (by omega) (h x hx)
    | _ => simp_all [kqdOk]
theorem rows_ok (T : Tab) (ns : List Int) : kqdOk 7 (.tuple (ns.map (rowOf T))) = true := by
  simp only [kqdOk, List.all_eq_true, List.mem_map]
  rintro _ ⟨n, _, rfl⟩
  unfold rowOf
  cases look T n with
  | none => rfl
  | some e =>
    simp only [kqdOk, List.all_cons, List.all_nil, Bool.and_true, Bool.true_and]
    exact val_ok e.val
theorem told_ok (T : Tab) (ns : List Int) : kqdOk 8 (toldDat T ns) = true := by
  have h := rows_ok T ns
  unfold toldDat
  rw [show kqdOk 8 (.tuple [.tuple (ns.map (rowOf T)), trDat]) = (kqdOk 7 (.tuple (ns.map (rowOf T))) && (kqdOk 7 trDat && true)) from rfl, h]
  decide +kernel
/-- the law's own table: what a place tells -/
def DEntIn (news : Led) (v : Value) (e : Ent) : Prop := ∃ tup t x k, v = .ref tup ∧ (tup, tupOf [.int e.gen t, x] k) ∈ news ∧ DatIn news x e.val.dat
inductive DEntsIn (news : Led) : List (Int × Value) → Tab → Prop where
  | nil : DEntsIn news [] []
  | cons {n : Int} {v : Value} {e : Ent} {kvs : List (Int × Value)} {T : Tab} : DEntIn news v e → DEntsIn news kvs T → DEntsIn news ((n, v) :: kvs) ((n, e) :: T)
theorem DEntIn.subR {l l' : Led} {v : Value} {e : Ent} (h : DEntIn l v e) (k : SubR l l') : DEntIn l' v e := by
  obtain ⟨tup, t, x, n, h1, h2, h3⟩ := h
  exact ⟨tup, t, x, n, h1, k _ h2 notInt_tup notF_tup notC_tup notT_tup, dat_subR k h3 (val_flat _)⟩
theorem DEntsIn.subR {l l' : Led} (k : SubR l l') : ∀ {kvs : List (Int × Value)} {T : Tab}, DEntsIn l kvs T → DEntsIn l' kvs T
  | _, _, .nil => .nil
  | _, _, .cons a b => .cons (a.subR k) (DEntsIn.subR k b)
theorem DEntsIn.keys {l : Led} : ∀ {kvs : List (Int × Value)} {T : Tab}, DEntsIn l kvs T → kvs.map (·.1) = T.map (·.1)
  | _, _, .nil => rfl
  | _, _, .cons _ b => by rw [List.map_cons, List.map_cons, DEntsIn.keys b]
theorem DEntsIn.length {l : Led} : ∀ {kvs : List (Int × Value)} {T : Tab}, DEntsIn l kvs T → kvs.length = T.length
  | _, _, .nil => rfl
  | _, _, .cons _ b => by rw [List.length_cons, List.length_cons, DEntsIn.length b]
theorem DEntsIn.none {l : Led} (n : Int) : ∀ {kvs : List (Int × Value)} {T : Tab}, DEntsIn l kvs T → (valueAt kvs n).isSome = (look T n).isSome
  | _, _, .nil => rfl
  | _, _, .cons (n := k) _ b => by
    have ih := DEntsIn.none n b
    unfold valueAt look at ih ⊢
    by_cases e : k = n
    · simp [e]
    · simpa [e] using ih
theorem DEntsIn.at {l : Led} {n : Int} {e : Ent} : ∀ {kvs : List (Int × Value)} {T : Tab}, DEntsIn l kvs T → look T n = some e → ∃ v, valueAt kvs n = some v ∧ DEntIn l v e
  | _, _, .nil, h => by simp [look] at h
  | _, _, .cons (n := k) (v := v) (e := e') a b, h => by
    by_cases q : k = n
    · subst q
      have : e' = e := by simpa [look] using h
      subst this
      exact ⟨v, by simp [valueAt], a⟩
    · obtain ⟨v', h1, h2⟩ := DEntsIn.at (n := n) (e := e) b (by simpa [look, q] using h)
      exact ⟨v', by simpa [valueAt, q] using h1, h2⟩
theorem DEntsIn.any {l : Led} {n : Int} : ∀ {kvs : List (Int × Value)} {T : Tab}, DEntsIn l kvs T → kvs.any (fun kv => decide (kv.1 = n)) = T.any (fun p => decide (p.1 = n))
  | _, _, .nil => rfl
  | _, _, .cons _ y => by rw [List.any_cons, List.any_cons, DEntsIn.any y]
theorem DEntsIn.append {l : Led} {kvs' : List (Int × Value)} {T' : Tab} (h' : DEntsIn l kvs' T') : ∀ {kvs : List (Int × Value)} {T : Tab}, DEntsIn l kvs T → DEntsIn l (kvs ++ kvs') (T ++ T')
  | _, _, .nil => h'
  | _, _, .cons x y => .cons x (DEntsIn.append h' y)
theorem DEntsIn.put {l : Led} {n : Int} {v : Value} {e : Ent} (hv : DEntIn l v e) : ∀ {kvs : List (Int × Value)} {T : Tab}, DEntsIn l kvs T → DEntsIn l (kvs.map fun kv => if kv.1 = n then (kv.1, v) else kv) (T.map fun p => if p.1 = n then (p.1, e) else p)
  | _, _, .nil => .nil
  | _, _, .cons (n := k) x y => by
    rw [List.map_cons, List.map_cons]
    by_cases h : k = n
    · rw [if_pos h, if_pos h]; exact .cons hv (DEntsIn.put hv y)
    · rw [if_neg h, if_neg h]; exact .cons x (DEntsIn.put hv y)
theorem DEntsIn.set {l : Led} {kvs : List (Int × Value)} {T : Tab} {n : Int} {v : Value} {e : Ent} (h : DEntsIn l kvs T) (hv : DEntIn l v e) : DEntsIn l (stored kvs n v) (tset T n e) := by
  unfold stored tset
  rw [h.any]
  split
  · exact h.put hv
  · exact DEntsIn.append (.cons hv .nil) h
theorem DEntsIn.del {l : Led} {n : Int} : ∀ {kvs : List (Int × Value)} {T : Tab}, DEntsIn l kvs T → DEntsIn l (without kvs n) (tdel T n)
  | _, _, .nil => .nil
  | _, _, .cons (n := k) x y => by
    have ih := DEntsIn.del (n := n) y
    unfold without tdel at ih ⊢
    rw [List.filter_cons, List.filter_cons]
    by_cases h : k = n
    · rw [if_neg (by simp [h]), if_neg (by simp [h])]; exact ih
    · rw [if_pos (by simp [h]), if_pos (by simp [h])]; exact .cons x ih
structure DTabIn (prog : Program) (w : World) (news : Led) (tb : Addr) (T : Tab) : Prop where
  tab : ∃ o kvs, (tb, o) ∈ news ∧ o.IsDictOf (intKind prog w) kvs ∧ DEntsIn news kvs T
  low : (tb == sysModules) = false
theorem DTabIn.sub {prog : Program} {w : World} {l l' : Led} {tb : Addr} {T : Tab} (h : DTabIn prog w l tb T) (e : Sub l l') : DTabIn prog w l' tb T := by
  obtain ⟨⟨o, kvs, a, b, c⟩, lo⟩ := h
  exact ⟨⟨o, kvs, e _ a, b, DEntsIn.subR e.p.r c⟩, lo⟩
theorem DTabIn.subF {prog : Program} {w : World} {l l' : Led} {tb : Addr} {T : Tab} (h : DTabIn prog w l tb T) (e : SubF l l') : DTabIn prog w l' tb T := by
  obtain ⟨⟨o, kvs, a, b, c⟩, lo⟩ := h
  exact ⟨⟨o, kvs, e _ a (notF_isDict b), b, DEntsIn.subR e.p.r c⟩, lo⟩
theorem DTabIn.subC {prog : Program} {w : World} {l l' : Led} {tb : Addr} {T : Tab} (h : DTabIn prog w l tb T) (e : SubC l l') : DTabIn prog w l' tb T := by
  obtain ⟨⟨o, kvs, a, b, c⟩, lo⟩ := h
  exact ⟨⟨o, kvs, e _ a (notC_isDict b), b, DEntsIn.subR e.r c⟩, lo⟩
theorem DTabIn.nodup {prog : Program} {w : World} {l : Led} {tb : Addr} {T : Tab} (h : DTabIn prog w l tb T) : TNodup T := by
  obtain ⟨⟨o, kvs, x, y, z⟩, lo⟩ := h
  obtain ⟨_, _, _, _, _, _, hn⟩ := y
  unfold TNodup
  rw [← z.keys]
  exact hn
section
variable {prog : Program} {w : World} {A : Around} {E : Value → Shared → Prop} {s : Shared} {h₀ : Heap} {L : Addr} {m : Str → Option Value} {news : Led}
theorem dtab_set {tb : Addr} {T : Tab} {n : Int} {t : Tok} {v : Value} {e : Ent} {Q : Unit → Shared → Prop} (F : Fr h₀ L s.heap m) (N : News h₀ L s.heap news) (ht : DTabIn prog w news tb T) (hv : DEntIn news v e) (hz : T.length < 64)
    (h : ∀ h' o', Fr h₀ L h' m → News h₀ L h' ((tb, o') :: but tb news) → SubI tb news ((tb, o') :: but tb news) → DTabIn prog w ((tb, o') :: but tb news) tb (tset T n e) → Q () { s with heap := h', toks := s.toks + 1 }) :
    wpAny (model prog w) A (setItem (.ref tb) (.int n t) v) Q E s := by
  obtain ⟨⟨o, kvs, hm, ho, hes⟩, lo⟩ := ht
  have hs : ∀ {o'}, SubI tb news ((tb, o') :: but tb news) := fun {o'} => SubI.ofX N hm (isInt_dict ho) (subX_but (a := tb) (l := news) (o := o'))
  have hz' : kvs.length ≤ sizeLine := fits64 (by rw [hes.length]; exact hz)
  have hD : s.heap.DictOf (intKind prog w) tb kvs := Heap.dictOf_iff.mpr ⟨o, (N _ hm).1, ho⟩
  refine wpAny_setItem_pairs (hsz := hz') (intKind_is _ _ _ _) hD fun h' hd hsb => ?_
  obtain ⟨o', ho', hd'⟩ := Heap.dictOf_iff.mp hd
  refine h h' o' (F.change hsb (N _ hm).2.1 (N _ hm).2.2) ?_ hs ⟨⟨o', _, .head _, hd', (DEntsIn.subR hs.p.r hes).set (hv.subR hs.p.r)⟩, lo⟩
  exact news_set (pre := []) (front N hm) (fun _ h => nomatch h) but_off hsb ho'
theorem dtab_pop {tb : Addr} {T : Tab} {n : Int} {t : Tok} {e : Ent} {Q : Value → Shared → Prop} (F : Fr h₀ L s.heap m) (N : News h₀ L s.heap news) (ht : DTabIn prog w news tb T) (hl : look T n = some e) (hz : T.length < 64)
    (h : ∀ h' o' v, Fr h₀ L h' m → News h₀ L h' ((tb, o') :: but tb news) → SubI tb news ((tb, o') :: but tb news) → DTabIn prog w ((tb, o') :: but tb news) tb (tdel T n) → Q v { s with heap := h', toks := s.toks + 1 }) :
    wpAny (model prog w) A (call (.builtin "dict.pop") [.ref tb, .int n t]) Q E s := by
  obtain ⟨⟨o, kvs, hm, ho, hes⟩, lo⟩ := ht
  have hs : ∀ {o'}, SubI tb news ((tb, o') :: but tb news) := fun {o'} => SubI.ofX N hm (isInt_dict ho) (subX_but (a := tb) (l := news) (o := o'))
  have hz' : kvs.length ≤ sizeLine := fits64 (by rw [hes.length]; exact hz)
  have hD : s.heap.DictOf (intKind prog w) tb kvs := Heap.dictOf_iff.mpr ⟨o, (N _ hm).1, ho⟩
  obtain ⟨v, hv, _⟩ := hes.at hl
  refine call_meetsIn PySem.F.slot_dict_pop hD.typeIs PySem.F.entry_dict_pop (PySem.F.args_dict_pop_2 _ _) (meets_dict_pop_there (intKind prog w) tb (intKind_is _ _ _ _) [] (.inl rfl) rfl) ⟨kvs, v, hD, hz', hv, fun h' hd hsb => ?_⟩
  obtain ⟨o', ho', hd'⟩ := Heap.dictOf_iff.mp hd
  refine h h' o' v (F.change hsb (N _ hm).2.1 (N _ hm).2.2) ?_ hs ⟨⟨o', _, .head _, hd', (DEntsIn.subR hs.p.r hes).del⟩, lo⟩
  exact news_set (pre := []) (front N hm) (fun _ h => nomatch h) but_off hsb ho'
theorem dtab_in {tb : Addr} {T : Tab} {n : Int} {t : Tok} {Q : Value → Shared → Prop} (N : News h₀ L s.heap news) (ht : DTabIn prog w news tb T) {o : Option Ent} (hl : look T n = o) (h : Q (.bool o.isSome) { s with toks := s.toks + 1 }) :
    wpAny (model prog w) A (compareOp .In (.int n t) (.ref tb)) Q E s := by
  obtain ⟨⟨od, kvs, hm, ho, hes⟩, lo⟩ := ht
  exact kda_in (k := n) N hm ho lo (intKind_is _ _ _ _) o.isSome (by rw [hes.none n, hl]) h
end
end
theorem offTape : True := by
  w_top off
  exact trivial
section
/-- the tape: its list, the cells that it reads, the place -/
def TapeIn (news : Led) (tp cl : Addr) (at_ : Int) : Prop := ∃ t ep its ns ec, (tp, W.listOf #[.ref cl, .int at_ t] ep) ∈ news ∧ (cl, W.listOf its.toArray ec) ∈ news ∧ IntsAre its ns ∧ ns ≠ [] ∧ ns.length ≤ 40
theorem TapeIn.sub {l l' : Led} {tp cl : Addr} {k : Int} (h : TapeIn l tp cl k) (e : Sub l l') : TapeIn l' tp cl k := by
  obtain ⟨t, ep, its, ns, ec, a, b, c⟩ := h
  exact ⟨t, ep, its, ns, ec, e _ a, e _ b, c⟩
theorem TapeIn.subI {a : Addr} {l l' : Led} {tp cl : Addr} {k : Int} (h : TapeIn l tp cl k) (e : SubI a l l') : TapeIn l' tp cl k := by
  obtain ⟨t, ep, its, ns, ec, x, y, c⟩ := h
  exact ⟨t, ep, its, ns, ec, e _ x (.inr notInt_list), e _ y (.inr notInt_list), c⟩
theorem TapeIn.subC {l l' : Led} {tp cl : Addr} {k : Int} (h : TapeIn l tp cl k) (e : SubC l l') : TapeIn l' tp cl k := by
  obtain ⟨t, ep, its, ns, ec, x, y, c⟩ := h
  exact ⟨t, ep, its, ns, ec, e _ x notC_list, e _ y notC_list, c⟩
theorem TapeIn.subF {l l' : Led} {tp cl : Addr} {k : Int} (h : TapeIn l tp cl k) (e : SubF l l') : TapeIn l' tp cl k := by
  obtain ⟨t, ep, its, ns, ec, x, y, c⟩ := h
  exact ⟨t, ep, its, ns, ec, e _ x notF_list, e _ y notF_list, c⟩
theorem TapeIn.at {l : Led} {tp cl : Addr} {k : Int} (h : TapeIn l tp cl k) : (∃ o, (tp, o) ∈ l) ∧ ∃ o, (cl, o) ∈ l := by
  obtain ⟨t, ep, its, ns, ec, x, y, c⟩ := h
  exact ⟨⟨_, x⟩, _, y⟩
/-- the tape in a ledger that holds what does not stand at three places -/
theorem TapeIn.off3 {l l' : Led} {tp cl I C D : Addr} {k : Int} (h : TapeIn l tp cl k) (e : ∀ p ∈ l, p.1 ≠ I → p.1 ≠ C → p.1 ≠ D → p ∈ l') (ht : tp ≠ I ∧ tp ≠ C ∧ tp ≠ D) (hc : cl ≠ I ∧ cl ≠ C ∧ cl ≠ D) : TapeIn l' tp cl k := by
  obtain ⟨t, ep, its, ns, ec, x, y, c⟩ := h
  exact ⟨t, ep, its, ns, ec, e _ x ht.1 ht.2.1 ht.2.2, e _ y hc.1 hc.2.1 hc.2.2, c⟩
theorem isTape {a : Addr} {i : Int} {t : Tok} {n : Nat} : IsTape (W.listOf #[.ref a, .int i t] n) := ⟨rfl, a, [.int i t], n, rfl⟩
theorem notT_tab {xs : Array Value} : ¬ IsTape (tabObj xs) := fun ⟨_, _, _, _, e⟩ => by simp [tabObj] at e
theorem notInt_tab {xs : Array Value} : ¬ IntDict (tabObj xs) := fun ⟨_, _, e, _⟩ => by simp [tabObj] at e
theorem SubT.mem {l l' : Led} {p : Addr × Obj} (h : SubT l l') (hm : p ∈ l) (hn : ¬ IsTape p.2) : p ∈ l' := h p hm hn
theorem SubT.trans {l l' l'' : Led} (h : SubT l l') (h' : SubT l' l'') : SubT l l'' := fun p hp hn => h' p (h p hp hn) hn
theorem Sub.t {l l' : Led} (h : Sub l l') : SubT l l' := fun p hp _ => h p hp
section
variable {prog pt : Program} {w : World} {A₀ : Around} {base h₀ : Heap} {outer : List Env} {env : Env} {L : Addr} {m : Str → Option Value} {news : List (Addr × Obj)} {mean : ExcName → Option Value} {mg mb : Str → Option Value} {loose : List Str} {s : Shared} {Q E : Value → Shared → Prop} {dp un : Nat} {gd : Option (List Code)}
theorem drawT_spec (B : Below A₀ base outer h₀) (F : Fr h₀ L s.heap m) (X : (hd.heap_1 w.params).In h₀) (N : News h₀ L s.heap news) (T : Top pt loose mean mg mb h₀)
    (hf : env.frame = some L) (hk : env.scope.kind = .function) (hd : dp + 20 < recursionLimit) (hu : un + 200 < cLine)
    {tp cl : Addr} {at_ many : Int} {tk2 : Tok} (ht : TapeIn news tp cl at_) (h0 : 0 ≤ at_) (h1 : at_ ≤ 1000) (hm : 0 < many)
    (ret : ∀ r t h' tk' news', 0 ≤ r → r < many → Fr h₀ L h' m → News h₀ L h' news' → SubT news news' → SubX tp news news' → TapeIn news' tp cl (at_ + 1) → Q (.int r t) { s with heap := h', toks := tk' }) :
    wpAny (model prog w) (site none dp un gd env outer) (call (.ref 417) [.ref tp, .int many tk2]) Q E s := by
  obtain ⟨t, ep, its, ns, ec, a, b, hi, hn, hl⟩ := ht
  have hne : cl ≠ tp := ne_of_obj N b a fun e => (notT_ints (n := ec) hi) (e ▸ isTape)
  refine draw_spec B F X N T hf hk hd hu a b hi hn hl h0 h1 hm fun r t' h' tk' news' r1 r2 F' N' S' ⟨t2, ep', a'⟩ => ret r t' h' tk' news' r1 r2 F' N' (fun p hp q => S' p hp fun e => ?_) S' ⟨t2, ep', its, ns, ec, a', S' _ b hne, hi, hn, hl⟩
  obtain ⟨x, ox⟩ := p
  simp only at e
  subst e
  exact q (det N a hp ▸ isTape)
end
/-- the state at a place of the law -/
abbrev At (s1 : Shared) (h₀ : Heap) (L : Addr) (m : Str → Option Value) (l : Led) (s' : Shared) : Prop := ∃ h tk dr, s' = { s1 with heap := h, toks := tk, drawn := dr } ∧ Fr h₀ L h m ∧ News h₀ L h l
theorem At.mk {s1 s' : Shared} {h₀ : Heap} {L : Addr} {m : Str → Option Value} {l : Led} (F : Fr h₀ L s'.heap m) (N : News h₀ L s'.heap l) (hg : s'.gens = s1.gens) (ho : s'.os = s1.os) : At s1 h₀ L m l s' := by
  obtain ⟨h, g, d, t, o⟩ := s'
  simp only at hg ho
  subst hg ho
  exact ⟨h, t, d, rfl, F, N⟩
/-- a statement walked to a state that is told; the block meets a letter in its place -/
theorem exec_cut {M : Model} {A : Around} {E : Value → Shared → Prop} {s : Shared} {st : Stmt} {rest : List Stmt} {env : Env} {Q : Flow → Shared → Prop} {s1 : Shared} {g0 : Heap} {L : Addr} (Mid : (Str → Option Value) → Led → Prop)
    (h1 : ∀ Z : Shared → Prop, (∀ m l s', At s1 g0 L m l s' → Mid m l → Z s') → wpAny M A (exec st env) (fun f s' => Halt (f = .next ∧ Z s')) E s)
    (h2 : ∀ m l h tk dr, Fr g0 L h m → News g0 L h l → Mid m l → wpAny M A (execs rest env) Q E { s1 with heap := h, toks := tk, drawn := dr }) :
    wpAny M A (execs (st :: rest) env) Q E s :=
  wpAny_execs_cons (wpAny_mono (h1 (fun s' => ∃ m l, At s1 g0 L m l s' ∧ Mid m l) fun m l s' a b => ⟨m, l, a, b⟩) (fun f s' h => by
    obtain ⟨e, m, l, ⟨h, tk, dr, e', F, N⟩, c⟩ := h
    subst e e'
    exact h2 m l h tk dr F N c) fun _ _ e => e)
theorem fin_cut {M : Model} {A : Around} {E : Value → Shared → Prop} {s : Shared} {act : Sem Flow} {v : Flow} {s1 : Shared} {g0 : Heap} {L : Addr}
    (h : ∀ Z : Shared → Prop, (∀ m l s', At s1 g0 L m l s' → (Ex1 fun xs => (419, tabObj xs) ∈ l) → Z s') → wpAny M A act (fun f s' => f = v ∧ Z s') E s) :
    wpAny M A act (fun f s' => f = v ∧ ∃ m l xs, At s1 g0 L m l s' ∧ (419, tabObj xs) ∈ l) E s :=
  h _ fun m l s' a b => by
    obtain ⟨xs, b⟩ := b
    exact ⟨m, l, xs, a, b⟩
/-- a cell of the law's -/
def CellIn (l : Led) (a : Addr) (v : Option Value) : Prop := ∃ o, (a, o) ∈ l ∧ o.data = .cell v
/-- the law's five cells, the maker's table -/
def CellsX (xs : Array Value) (l : Led) (L : Addr) (tape due gone many turned : Option Value) : Prop :=
  CellIn l (L + 1) tape ∧ CellIn l (L + 1 + 1) due ∧ CellIn l (L + 1 + 1 + 1) gone ∧ CellIn l (L + 1 + 1 + 1 + 1) many ∧ CellIn l (L + 1 + 1 + 1 + 1 + 1) turned ∧ (419, tabObj xs) ∈ l
theorem CellsX.opn {G : Prop} {xs : Array Value} {l : Led} {L : Addr} {a b c d e : Option Value} (h : CellsX xs l L a b c d e)
    (k : ∀ o1, (L + 1, o1) ∈ l → o1.data = .cell a → ∀ o2, (L + 1 + 1, o2) ∈ l → o2.data = .cell b → ∀ o3, (L + 1 + 1 + 1, o3) ∈ l → o3.data = .cell c → ∀ o4, (L + 1 + 1 + 1 + 1, o4) ∈ l → o4.data = .cell d → ∀ o5, (L + 1 + 1 + 1 + 1 + 1, o5) ∈ l → o5.data = .cell e → (419, tabObj xs) ∈ l → G) : G := by
  obtain ⟨⟨o1, m1, d1⟩, ⟨o2, m2, d2⟩, ⟨o3, m3, d3⟩, ⟨o4, m4, d4⟩, ⟨o5, m5, d5⟩, hx⟩ := h
  exact k o1 m1 d1 o2 m2 d2 o3 m3 d3 o4 m4 d4 o5 m5 d5 hx
theorem CellIn.subT {l l' : Led} {a : Addr} {v : Option Value} (h : CellIn l a v) (e : SubT l l') : CellIn l' a v := by
  obtain ⟨o, hm, hd⟩ := h
  exact ⟨o, e _ hm (notT_cell hd), hd⟩
theorem CellsX.subT {xs : Array Value} {l l' : Led} {L : Addr} {a b c d e : Option Value} (h : CellsX xs l L a b c d e) (k : SubT l l') : CellsX xs l' L a b c d e := by
  obtain ⟨h1, h2, h3, h4, h5, hx⟩ := h
  exact ⟨h1.subT k, h2.subT k, h3.subT k, h4.subT k, h5.subT k, k _ hx notT_tab⟩
theorem CellIn.subX {l l' : Led} {a c : Addr} {v : Option Value} (h : CellIn l a v) (e : SubX c l l') (hn : a ≠ c) : CellIn l' a v := by
  obtain ⟨o, hm, hd⟩ := h
  exact ⟨o, e _ hm hn, hd⟩
theorem CellsX.many {xs : Array Value} {l l' : Led} {L : Nat} {a b c d d' e : Option Value} (h : CellsX xs l L a b c d e) (k : SubX (L + 1 + 1 + 1 + 1) l l') (n : CellIn l' (L + 1 + 1 + 1 + 1) d') (l0 : 419 < L) : CellsX xs l' L a b c d' e := by
  obtain ⟨h1, h2, h3, h4, h5, hx⟩ := h
  exact ⟨h1.subX k (by show @Ne Nat _ _; omega), h2.subX k (by show @Ne Nat _ _; omega), h3.subX k (by show @Ne Nat _ _; omega), n, h5.subX k (by show @Ne Nat _ _; omega), k _ hx (by show (419 : Nat) ≠ _; omega)⟩
theorem CellsX.gone {xs : Array Value} {l l' : Led} {L : Nat} {a b c d c' e : Option Value} (h : CellsX xs l L a b c d e) (k : SubX (L + 1 + 1 + 1) l l') (n : CellIn l' (L + 1 + 1 + 1) c') (l0 : 419 < L) : CellsX xs l' L a b c' d e := by
  obtain ⟨h1, h2, h3, h4, h5, hx⟩ := h
  exact ⟨h1.subX k (by show @Ne Nat _ _; omega), h2.subX k (by show @Ne Nat _ _; omega), n, h4.subX k (by show @Ne Nat _ _; omega), h5.subX k (by show @Ne Nat _ _; omega), k _ hx (by show (419 : Nat) ≠ _; omega)⟩
theorem CellsX.turned {xs : Array Value} {l l' : Led} {L : Nat} {a b c d e' e : Option Value} (h : CellsX xs l L a b c d e) (k : SubX (L + 1 + 1 + 1 + 1 + 1) l l') (n : CellIn l' (L + 1 + 1 + 1 + 1 + 1) e') (l0 : 419 < L) : CellsX xs l' L a b c d e' := by
  obtain ⟨h1, h2, h3, h4, h5, hx⟩ := h
  exact ⟨h1.subX k (by show @Ne Nat _ _; omega), h2.subX k (by show @Ne Nat _ _; omega), h3.subX k (by show @Ne Nat _ _; omega), h4.subX k (by show @Ne Nat _ _; omega), n, k _ hx (by show (419 : Nat) ≠ _; omega)⟩
theorem CellsX.due {xs : Array Value} {l l' : Led} {L : Nat} {a b b' c d e : Option Value} (h : CellsX xs l L a b c d e) (k : SubX (L + 1 + 1) l l') (n : CellIn l' (L + 1 + 1) b') (l0 : 419 < L) : CellsX xs l' L a b' c d e := by
  obtain ⟨h1, h2, h3, h4, h5, hx⟩ := h
  exact ⟨h1.subX k (by show @Ne Nat _ _; omega), n, h3.subX k (by show @Ne Nat _ _; omega), h4.subX k (by show @Ne Nat _ _; omega), h5.subX k (by show @Ne Nat _ _; omega), k _ hx (by show (419 : Nat) ≠ _; omega)⟩
theorem CellsX.sub {xs : Array Value} {l l' : Led} {L : Addr} {a b c d e : Option Value} (h : CellsX xs l L a b c d e) (k : Sub l l') : CellsX xs l' L a b c d e := h.subT k.t
theorem CellsX.subI {xs : Array Value} {l l' : Led} {x L : Addr} {a b c d e : Option Value} (h : CellsX xs l L a b c d e) (k : SubI x l l') : CellsX xs l' L a b c d e := by
  obtain ⟨⟨o1, m1, d1⟩, ⟨o2, m2, d2⟩, ⟨o3, m3, d3⟩, ⟨o4, m4, d4⟩, ⟨o5, m5, d5⟩, hx⟩ := h
  exact ⟨⟨o1, k _ m1 (.inr (notInt_cell d1)), d1⟩, ⟨o2, k _ m2 (.inr (notInt_cell d2)), d2⟩, ⟨o3, k _ m3 (.inr (notInt_cell d3)), d3⟩, ⟨o4, k _ m4 (.inr (notInt_cell d4)), d4⟩, ⟨o5, k _ m5 (.inr (notInt_cell d5)), d5⟩, k _ hx (.inr notInt_tab)⟩
abbrev Cells := CellsX #[]
theorem CellsX.tape {xs : Array Value} {l l' : Led} {L : Nat} {a a' b c d e : Option Value} (h : CellsX xs l L a b c d e) (k : SubX (L + 1) l l') (n : CellIn l' (L + 1) a') (l0 : 419 < L) : CellsX xs l' L a' b c d e := by
  obtain ⟨h1, h2, h3, h4, h5, hx⟩ := h
  exact ⟨n, h2.subX k (by show @Ne Nat _ _; omega), h3.subX k (by show @Ne Nat _ _; omega), h4.subX k (by show @Ne Nat _ _; omega), h5.subX k (by show @Ne Nat _ _; omega), k _ hx (by show (419 : Nat) ≠ _; omega)⟩
theorem CellsX.tab {xs ys : Array Value} {l l' : Led} {L : Nat} {a b c d e : Option Value} (h : CellsX xs l L a b c d e) (k : SubX 419 l l') (n : (419, tabObj ys) ∈ l') (l0 : 419 < L) : CellsX ys l' L a b c d e := by
  obtain ⟨h1, h2, h3, h4, h5, hx⟩ := h
  exact ⟨h1.subX k (by show @Ne Nat _ _; omega), h2.subX k (by show @Ne Nat _ _; omega), h3.subX k (by show @Ne Nat _ _; omega), h4.subX k (by show @Ne Nat _ _; omega), h5.subX k (by show @Ne Nat _ _; omega), n⟩
theorem subF_tab {h₀ h : Heap} {L : Addr} {l l' : Led} {xs : Array Value} (N : News h₀ L h l) (hx : (419, tabObj xs) ∈ l) (hn : ∀ q t, xs[1]? ≠ some (.str q t)) (k : SubX 419 l l') : SubF l l' := fun p hp hf => k p hp fun e => hf (by
  obtain ⟨a, o⟩ := p
  simp only at e
  subst e
  have := det N hx hp
  subst this
  exact ⟨xs, rfl, hn⟩)
end
local macro_rules | `(tactic| walk_at "mine A") => `(tactic| ((with_reducible show TapeIn _ _ _ _); with_reducible assumption))
local macro_rules | `(tactic| walk_at "mine C") => `(tactic| ((with_reducible show TapeIn _ _ _ _); ktr_rel))
local macro_rules | `(tactic| ktr_rel) => `(tactic| tbr_iter (TapeIn.sub, "103 205"))
local macro_rules | `(tactic| k_mem) => `(tactic| (refine SubT.mem (by with_reducible assumption) ?sbA ?sbB; (case sbA => k_mem); (case sbB => (try dsimp only); first | exact notT_tab | exact notT_one | exact notT_tup | exact notT_inst | exact notT_dictOf | exact notT_cell (by assumption) | exact notT_ints (by assumption) | exact notT_isDict (by assumption))))
local macro_rules | `(tactic| walk_at "call ref") => `(tactic| (k_search (call (Value.ref 417) [_, _]); ktf_call drawT_spec))
local macro_rules | `(tactic| walk_at "storeName") => `(tactic| (tbr_iter (storeX_M, "301 401 106 206 506 602 703 0/7")))
theorem offLawA : True := by
  w_top off
  exact trivial
section
section
variable {prog pt : Program} {w : World} {A₀ : Around} {base h₀ : Heap} {outer : List Env} {env : Env} {L : Addr} {m : Str → Option Value} {news : List (Addr × Obj)} {mean : ExcName → Option Value} {mg mb : Str → Option Value} {loose : List Str} {s : Shared} {Q E : Value → Shared → Prop} {dp un : Nat} {gd : Option (List Code)} {hdl : Option Value}
set_option maxHeartbeats 1000000 in
theorem bench_shelf (B : Below A₀ base outer h₀) (F : Fr h₀ L s.heap m) (X : (hd.heap_1 w.params).In h₀) (N : News h₀ L s.heap news) (T : Top pt loose mean mg mb h₀)
    (hf : env.frame = some L) (hk : env.scope.kind = .function) (hd : dp + 80 < recursionLimit) (hu : un + 800 < cLine)
    {bn sh : Addr} {d : Array UInt8} (hb : BenchIn news bn sh d) (ret : ∀ tk', Q (.ref sh) { s with toks := tk' }) :
    wpAny (model prog w) (site hdl dp un gd env outer) (getAttr (.ref bn) (Str.ofString "shelf") true) Q E s := by
  with_reducible refine BenchIn.opn hb fun db h1 t1 t0 h2 t2 h3 t3 nn hb1 hb2 => ?_
  k_steps
  exact ret _
theorem bench_data (B : Below A₀ base outer h₀) (F : Fr h₀ L s.heap m) (X : (hd.heap_1 w.params).In h₀) (N : News h₀ L s.heap news) (T : Top pt loose mean mg mb h₀)
    (hf : env.frame = some L) (hk : env.scope.kind = .function) (hd : dp + 80 < recursionLimit) (hu : un + 800 < cLine)
    {bn sh : Addr} {d : Array UInt8} (hb : BenchIn news bn sh d) (ret : ∀ t0 tk', Q (.bytes d t0) { s with toks := tk' }) :
    wpAny (model prog w) (site hdl dp un gd env outer) (getAttr (.ref bn) (Str.ofString "data") true) Q E s := by
  with_reducible refine BenchIn.opn hb fun db h1 t1 t0 h2 t2 h3 t3 nn hb1 hb2 => ?_
  k_steps
  exact ret _ _
end
end
local macro_rules | `(tactic| walk_at "getAttr ref") => `(tactic| (k_here; (with_reducible show wpAny _ _ (getAttr (Value.ref _) (Str.ofString "shelf") true) _ _ _); k_dflt (apply bench_shelf; (case hb => with_reducible assumption); walk_at "mine std"; intros); (try k_sweep)))
local macro_rules | `(tactic| walk_at "getAttr ref") => `(tactic| (k_here; (with_reducible show wpAny _ _ (getAttr (Value.ref _) (Str.ofString "data") true) _ _ _); k_dflt (apply bench_data; (case hb => with_reducible assumption); walk_at "mine std"; intros); (try k_sweep)))
theorem offNst : True := by
  w_top off
  exact trivial
section
section
variable {M : Model} {A : Around} {E : Value → Shared → Prop} {s : Shared} {h₀ : Heap} {L a c P : Addr} {m mg mb : Str → Option Value} {cn : Str} {cs : Scope} {ccd : Value} {cl : List (Str × Addr)} {news : Led}
  {p : Program} {loose : List Str} {mean : ExcName → Option Value} {name qual : Str} {params : Arguments} {body : List Stmt} {ebody : Expr} {scope : Scope} {ps : Array Value} {pos : Pos} {firstLine : Nat} {clos : List (Str × Addr)}
/-- a def made in a body, the ledger abstract -/
theorem nest_M {Q : Value → Shared → Prop} (F : Fr h₀ L s.heap m) (N : News h₀ L s.heap news) (T : Top p loose mean mg mb h₀) (C : CodeHd h₀ c P) (hcd : ccd = .ref c) (hm : (P, tabObj ps) ∈ news) (ht : TriplesOk ps.toList) (hnf : codeAmong pos ps.toList = none)
    (hcl : closureFor scope (envX cn cs L a ccd cl) = pure clos)
    (h : ∀ f c' oc ctv doc h' tk l', Fr h₀ L h' m → News h₀ L h' l' → (f, fnMade name qual params body scope clos doc ((mg "__name__").getD .none) c' ctv) ∈ l' → (c', oc) ∈ l' → IsCode' oc qual →
      (P, tabObj (ps ++ #[rawInt pos.line, rawInt pos.col, .ref c'])) ∈ l' → SubX P news l' → Q (.ref f) { s with heap := h', toks := tk }) :
    wpAny M A (makeFunction name qual params (.stmts body) scope (envX cn cs L a ccd cl) [] [] [] pos firstLine) Q E s :=
  nest_K F (front N hm) T C hcd (.head but_off) ht hnf hcl fun f c' oc vs t ctv doc h' tk F' N' d1 d2 _ _ =>
    h f c' oc ctv doc h' tk _ F' N' (.head _) (.tail _ (.head _)) ⟨vs, t, d1, d2⟩ (.tail _ (.tail _ (.head _))) fun q hq hn => .tail _ (.tail _ (.tail _ (mem_but hq hn)))
/-- a lambda, the ledger abstract -/
theorem lam_M {Q : Value → Shared → Prop} (F : Fr h₀ L s.heap m) (N : News h₀ L s.heap news) (T : Top p loose mean mg mb h₀) (C : CodeHd h₀ c P) (hcd : ccd = .ref c) (hm : (P, tabObj ps) ∈ news) (ht : TriplesOk ps.toList) (hnf : codeAmong pos ps.toList = none)
    (hcl : closureFor scope (envX cn cs L a ccd cl) = pure clos)
    (h : ∀ f c' oc ctv h' tk l', Fr h₀ L h' m → News h₀ L h' l' → (f, kla_obj name qual params ebody scope clos ((mg "__name__").getD .none) c' ctv) ∈ l' → (c', oc) ∈ l' → IsCode' oc qual →
      (P, tabObj (ps ++ #[rawInt pos.line, rawInt pos.col, .ref c'])) ∈ l' → SubX P news l' → Q (.ref f) { s with heap := h', toks := tk }) :
    wpAny M A (makeFunction name qual params (.expr ebody) scope (envX cn cs L a ccd cl) [] [] [] pos firstLine) Q E s :=
  kla_nest F (front N hm) T C hcd (.head but_off) ht hnf hcl fun f c' oc vs t ctv h' tk F' N' d1 d2 _ _ =>
    h f c' oc ctv h' tk _ F' N' (.head _) (.tail _ (.head _)) ⟨vs, t, d1, d2⟩ (.tail _ (.tail _ (.head _))) fun q hq hn => .tail _ (.tail _ (.tail _ (mem_but hq hn)))
end
/-- what stands of the law's objects behind `before` -/
def Std (pg : Program) (w : World) (l : Led) (d0 : Array UInt8) (nb : Addr) (its : List Value) (k : Nat) (bn sh tr ta : Addr) (T : Tab) (bv : Value) (D : Dat) : Prop :=
  (nb, W.listOf its.toArray k) ∈ l ∧ BenchIn l bn sh d0 ∧ ShelfIn pg w l sh ta tr ∧ TabIn pg w l ta T ∧ DatIn l bv D
section
variable {pg : Program} {w : World} {l l' : Led} {d0 : Array UInt8} {nb : Addr} {its : List Value} {ns : List Int} {k : Nat} {bn sh tr ta x : Addr} {T : Tab} {bv : Value} {D : Dat}
theorem Std.sub (h : Std pg w l d0 nb its k bn sh tr ta T bv D) (e : Sub l l') : Std pg w l' d0 nb its k bn sh tr ta T bv D :=
  ⟨e _ h.1, h.2.1.sub e, h.2.2.1.sub e, h.2.2.2.1.sub e, DatIn.mono e h.2.2.2.2⟩
theorem Std.subT (h : Std pg w l d0 nb its k bn sh tr ta T bv D) (hi : IntsAre its ns) (hf : flatD D = true) (e : SubT l l') : Std pg w l' d0 nb its k bn sh tr ta T bv D :=
  ⟨e _ h.1 (notT_ints hi), h.2.1.subR e.r, h.2.2.1.subT e, h.2.2.2.1.subT e, dat_subR e.r h.2.2.2.2 hf⟩
theorem Std.subC (h : Std pg w l d0 nb its k bn sh tr ta T bv D) (hf : flatD D = true) (e : SubC l l') : Std pg w l' d0 nb its k bn sh tr ta T bv D :=
  ⟨e _ h.1 notC_list, h.2.1.subR e.r, h.2.2.1.subC e, h.2.2.2.1.subC e, dat_subR e.r h.2.2.2.2 hf⟩
theorem Std.subF (h : Std pg w l d0 nb its k bn sh tr ta T bv D) (hf : flatD D = true) (e : SubF l l') : Std pg w l' d0 nb its k bn sh tr ta T bv D :=
  ⟨e _ h.1 notF_list, h.2.1.subR e.p.r, h.2.2.1.subP e.p, h.2.2.2.1.subF e, dat_subR e.p.r h.2.2.2.2 hf⟩
theorem Std.subI (h : Std pg w l d0 nb its k bn sh tr ta T bv D) (hf : flatD D = true) (e : SubI x l l') (hn : ta ≠ x) : Std pg w l' d0 nb its k bn sh tr ta T bv D :=
  ⟨e _ h.1 (.inr notInt_list), h.2.1.subI e, h.2.2.1.subI e, h.2.2.2.1.subI e hn, dat_subR e.p.r h.2.2.2.2 hf⟩
end
theorem FlT.at {B h₀ h g₂ : Heap} {l : List Env} {env : Env} {e T L : Addr} {fl : Value} {m : Str → Option Value} {news : Led} (hB : h₀.StaysIn B) (hl : ∀ q ∈ news, B.get? q.1 = some q.2 ∧ h₀.get? q.1 = none) (F : Fr h₀ L g₂ m) (hf : env.frame = some L)
    (R : FlT B (env :: l) e T fl h) (u : g₂.UpToSlots h) : Fr h₀ L h m ∧ ∃ oe vs, News h₀ L h ((e, oe) :: news) ∧ oe.cls = .ref 59 ∧ oe.data = .fields vs ∧ vs[2]? = some .none := by
  obtain ⟨k1, k2, k3, k4, ⟨_, ⟨L', _, hf', hn', hg', hd'⟩, _⟩, ⟨oe, vs, he, hc, hd, h1, h2⟩, _⟩ := R
  obtain rfl : L = L' := Option.some.inj (hf.symm.trans hf')
  refine ⟨F.of_stays (fun b o q => k1 b o (hB b o q)) u, oe, vs, fun p hp => ?_, hc, hd, h2⟩
  rcases List.mem_cons.mp hp with rfl | hp
  · refine ⟨he, fun z => ?_, fresh_of_stays hB k2⟩
    simp only at z
    subst z
    rw [he] at hg'
    cases hg'
    exact hd' _ hd
  · exact ⟨k1 _ _ (hl p hp).1, (fun z => by have := (hl p hp).1; rw [z, hn'] at this; cases this), (hl p hp).2⟩
section
variable {prog : Program} {w : World} {A : Around} {E : Value → Shared → Prop} {s' : Shared} {h₀ g₂ : Heap} {outer : List Env} {env : Env} {L e : Addr} {m : Str → Option Value} {news : Led} {Q : Flow → Shared → Prop} {t : PySem.Expr} {b₀ : Stmt} {suite : List Stmt} {pos : Pos} {rest : List ExceptHandler}
/-- an exception of class 59 caught by its class -/
theorem caught_F (X : (hd.heap_1 w.params).In h₀) (F : Fr h₀ L g₂ m) (hsm : g₂.UpToSlots s'.heap) (R : FlyF h₀ (env :: outer) e news s'.heap) (hA : A.frames = some (env :: outer)) (hf : env.frame = some L)
    (hev : ∀ h' (E₁ : Value → Shared → Prop), Fr h₀ L h' m → News h₀ L h' news → wpAny (model prog w) (A.mark (some (.ref e))) (eval t env) (fun c s₁ => c = .ref 59 ∧ ∃ tk, s₁ = { s' with heap := h', toks := tk }) E₁ { s' with heap := h' })
    (k : ∀ h' oe vs tk, Fr h₀ L h' m → News h₀ L h' ((e, oe) :: news) → oe.data = .fields vs → vs[2]? = some .none →
      wpAny (model prog w) (A.mark (some (.ref e))) (execs (b₀ :: suite) env) Q (notedBy (model prog w) (A.mark (some (.ref e))) env (cameBackBy (model prog w) A env E)) { s' with heap := h', toks := tk }) :
    wpAny (model prog w) A (noteFrame (.ref e) env) (fun _ s₂ => wpAny (model prog w) A (setFlight (.ref e) none) (fun _ s₃ => wpAny (model prog w) A (handleBy (.ref e) env (.ExceptHandler (some t) none (b₀ :: suite) pos :: rest)) Q E s₃) E s₂) E s' := by
  obtain ⟨B, T, hB, hl, R⟩ := R
  refine flt_note2 hA hf R fun h₁ T₁ R₁ u₁ => ?_
  refine flt_flight (fr := none) R₁ fun h₂ R₂ u₂ => ?_
  obtain ⟨F₂, oe, vs, N₂, hc, hd, h2⟩ := FlT.at hB hl F hf R₂ (hsm.trans (u₁.trans u₂))
  refine wpAny_handleBy_cons (codeAny_handlers_test (wpAny_mono (hev h₂ _ F₂ fun p hp => N₂ p (.tail _ hp)) (fun c s₁ hc₁ => ?_) fun _ _ x => x)) (by intro q; cases q)
  obtain ⟨rfl, tk, rfl⟩ := hc₁
  obtain ⟨nm, q, N, bs, hdct, sn, sub, ab, col, dd, k0, k1, k2, k3, k5, hC⟩ := fault_cls X
  refine wpAny_excMatches_sub_self (F₂.keep _ _ hC) (N₂ _ (.head _)).1 hc (by decide) ?_
  refine codeAny_handlers_suite (flt_flight (s := { s' with heap := h₂, toks := tk }) (fr := none) R₂ fun h₃ R₃ u₃ => ?_)
  obtain ⟨F₃, oe', vs', N₃, _, hd', h2'⟩ := FlT.at hB hl F hf R₃ (hsm.trans (u₁.trans (u₂.trans u₃)))
  exact k h₃ oe' vs' tk F₃ N₃ hd' h2'
end
section
variable {prog : Program} {w : World} {A : Around} {E : Value → Shared → Prop} {s : Shared} {h₀ : Heap} {L a b : Addr} {news : Led} {xs : List Value} {ns : List Int} {n k : Nat} {Q : Value → Shared → Prop}
/-- a list of ints against the empty list -/
theorem ne_nil_f (h0 : ns = []) (N : News h₀ L s.heap news) (ma : (a, W.listOf xs.toArray n) ∈ news) (mb : (b, W.listOf ([] : List Value).toArray k) ∈ news) (hi : IntsAre xs ns) (hu : A.units + 64 < cLine) (h : Q (.bool false) s) :
    wpAny (model prog w) A (compareOp .NotEq (.ref a) (.ref b)) Q E s :=
  ke_ne_ints (ledList N ma) (ledList N mb) hi .nil hu (by rw [h0]; exact h)
theorem ne_nil_t (h0 : ns ≠ []) (N : News h₀ L s.heap news) (ma : (a, W.listOf xs.toArray n) ∈ news) (mb : (b, W.listOf ([] : List Value).toArray k) ∈ news) (hi : IntsAre xs ns) (hu : A.units + 64 < cLine) (h : Q (.bool true) s) :
    wpAny (model prog w) A (compareOp .NotEq (.ref a) (.ref b)) Q E s :=
  ke_ne_ints (ledList N ma) (ledList N mb) hi .nil hu (by rw [decide_eq_false h0]; exact h)
end
theorem getD_mem {ns : List Int} {k : Nat} (h : k < ns.length) : ns.getD k 0 ∈ ns := by
  rw [List.getD_eq_getElem?_getD, List.getElem?_eq_getElem h]
  exact List.getElem_mem h
theorem notF_func {oc : Value} {od : Option Addr} {fd : FuncData} {sl : Array (Option Value)} : ¬ IsFields (⟨oc, od, .func fd, sl⟩ : Obj) := fun ⟨_, e, _⟩ => by cases e
/-- the grown bench -/
def Fsh (pg : Program) (w : World) (l : Led) (d0 : Array UInt8) (fb fs ft ftr : Addr) (T : Tab) : Prop := BenchIn l fb fs d0 ∧ ShelfIn pg w l fs ft ftr ∧ TabIn pg w l ft T
section
variable {pg : Program} {w : World} {l l' : Led} {d0 : Array UInt8} {fb fs ft ftr x : Addr} {T : Tab}
theorem Fsh.sub (h : Fsh pg w l d0 fb fs ft ftr T) (e : Sub l l') : Fsh pg w l' d0 fb fs ft ftr T := ⟨h.1.sub e, h.2.1.sub e, h.2.2.sub e⟩
theorem Fsh.subC (h : Fsh pg w l d0 fb fs ft ftr T) (e : SubC l l') : Fsh pg w l' d0 fb fs ft ftr T := ⟨h.1.subR e.r, h.2.1.subC e, h.2.2.subC e⟩
theorem Fsh.subF (h : Fsh pg w l d0 fb fs ft ftr T) (e : SubF l l') : Fsh pg w l' d0 fb fs ft ftr T := ⟨h.1.subR e.p.r, h.2.1.subP e.p, h.2.2.subF e⟩
theorem Fsh.subI (h : Fsh pg w l d0 fb fs ft ftr T) (e : SubI x l l') (hn : ft ≠ x) : Fsh pg w l' d0 fb fs ft ftr T := ⟨h.1.subI e, h.2.1.subI e, h.2.2.subI e hn⟩
end
theorem TabIn.lt {pg : Program} {w : World} {l : Led} {tb x : Addr} {T : Tab} (h : TabIn pg w l tb T) (hx : ∀ p ∈ l, p.1 ≠ x) : tb ≠ x := by
  obtain ⟨⟨o, kvs, a, _⟩, _⟩ := h
  exact hx _ a
/-- the law's own entries -/
theorem dent_lst {l : Led} {t1 t2 t3 : Addr} {g n : Int} {tg tn s1 s2 : Tok} {k1 k2 k3 : Nat} (m1 : (t1, tupOf [.int g tg, .ref t2] k1) ∈ l) (m2 : (t2, tupOf [.str (Str.ofString "array") s1, .ref t3] k2) ∈ l) (m3 : (t3, tupOf [.str (Str.ofString "int") s2, .int n tn] k3) ∈ l) : DEntIn l (.ref t1) ⟨g, .lst n⟩ :=
  ⟨t1, tg, .ref t2, k1, rfl, m1, .tuple m2 (.cons (.str _ _) (.cons (.tuple m3 (.cons (.str _ _) (.cons (.int _ _) .nil))) .nil))⟩
theorem dent_cat {l : Led} {t1 t2 t3 t4 : Addr} {g : Int} {tg s1 s2 s3 s4 : Tok} {k1 k2 k3 k4 : Nat} (m1 : (t1, tupOf [.int g tg, .ref t2] k1) ∈ l) (m2 : (t2, tupOf [.str (Str.ofString "dict") s1, .ref t3] k2) ∈ l) (m3 : (t3, tupOf [.str (Str.ofString "Type") s2, .ref t4] k3) ∈ l) (m4 : (t4, tupOf [.str (Str.ofString "name") s3, .str (Str.ofString "Catalog") s4] k4) ∈ l) : DEntIn l (.ref t1) ⟨g, .cat⟩ :=
  ⟨t1, tg, .ref t2, k1, rfl, m1, .tuple m2 (.cons (.str _ _) (.cons (.tuple m3 (.cons (.str _ _) (.cons (.tuple m4 (.cons (.str _ _) (.cons (.str _ _) .nil))) .nil))) .nil))⟩
theorem dtab_method {prog : Program} {w : World} {A : Around} {E : Value → Shared → Prop} {s : Shared} {h₀ : Heap} {L : Addr} {news : Led} {tb : Addr} {T : Tab} {name : Str} {id : String} {pl : Sem Bool} {Q : Value × List Value → Shared → Prop} (slot : Slot "dict" name id) (ty : typeOf (.builtin id) = pure (.type "method_descriptor")) (N : News h₀ L s.heap news) (ht : DTabIn prog w news tb T) (h : Q (.builtin id, [.ref tb]) s) :
    wpAny (model prog w) A (getMethod (.ref tb) name pl) Q E s := by
  obtain ⟨⟨od, kvs, hm, ho, hes⟩, lo⟩ := ht
  exact kob_method slot ty N hm ho h
theorem sub3 {l : Led} {a b c : Addr × Obj} : Sub l (a :: b :: c :: l) := Sub.rfl'.cons.cons.cons
theorem free_step {T : Tab} {b : Int} {e : Ent} : free T b ≤ free (tset T (free T b) e) b := by
  have h1 := free_ge (T := tset T (free T b) e) (b := b)
  have h2 := free_none (T := tset T (free T b) e) (b := b)
  rw [look_tset] at h2
  by_cases q : free (tset T (free T b) e) b = free T b
  · omega
  · rw [if_neg q] at h2
    by_cases z : free (tset T (free T b) e) b < free T b
    · exact absurd h2 (free_least _ h1 z)
    · omega
theorem adds_keep {T : Tab} {b j : Int} (h : look T j ≠ none) : ∀ {k : Nat}, look (adds T b k) j ≠ none
  | 0 => h
  | k + 1 => by
    show look (tset (adds T b k) (free (adds T b k) b) _) j ≠ none
    rw [look_tset]
    split
    · simp
    · exact adds_keep h
theorem drow_open {kvs : List (Int × Value)} {Ta : Tab} {vs : List Value} {ns : List Int} {i : Nat} {v : Value} {news : Led} (hes : DEntsIn news kvs Ta) (hi : IntsAre vs ns) (hp : ns.Perm (kvs.map (·.1))) (hP : vs.toArray[i]? = some v) :
    ∃ n t tup tg e x k, v = .int n t ∧ ns[i]? = some n ∧ look Ta n = some e ∧ valueAt kvs n = some (.ref tup) ∧ (tup, tupOf [.int e.gen tg, x] k) ∈ news ∧ DatIn news x e.val.dat := by
  have hP' : vs[i]? = some v := by simpa using hP
  have hlt : i < ns.length := by rw [← hi.length]; exact (List.getElem?_eq_some_iff.mp hP').1
  obtain ⟨t, hx⟩ := hi.get i ns[i] (by simp [hlt])
  rw [hx] at hP'
  cases hP'
  have hn : ns[i] ∈ Ta.map (·.1) := by
    rw [← hes.keys]
    exact hp.mem_iff.mp (List.getElem_mem hlt)
  obtain ⟨e, he⟩ := look_mem hn
  obtain ⟨v', hv', tup, tg, x, k, rfl, hm, hval⟩ := hes.at he
  exact ⟨ns[i], t, tup, tg, e, x, k, rfl, by simp [hlt], he, hv', hm, hval⟩
theorem datAll_snoc {l : Led} {v : Value} {d : Dat} (h : DatIn l v d) : ∀ {vs : List Value} {ds : List Dat}, DatAll l vs ds → DatAll l (vs ++ [v]) (ds ++ [d])
  | _, _, .nil => .cons h .nil
  | _, _, .cons a b => .cons a (datAll_snoc h b)
theorem datAll_len {l : Led} : ∀ {vs : List Value} {ds : List Dat}, DatAll l vs ds → vs.length = ds.length
  | _, _, .nil => rfl
  | _, _, .cons _ b => congrArg (· + 1) (datAll_len b)
theorem told_open {l : Led} {v : Value} {T : Tab} {ns : List Int} (h : DatIn l v (toldDat T ns)) : ∃ a r t k, v = .ref a ∧ (a, tupOf [r, t] k) ∈ l ∧ DatIn l r (.tuple (ns.map (rowOf T))) ∧ DatIn l t trDat := by
  unfold toldDat at h
  cases h with
  | tuple hm hd =>
    cases hd with
    | cons a b =>
      cases b with
      | cons c d =>
        cases d
        exact ⟨_, _, _, _, rfl, hm, a, c⟩
theorem code_apart {pos : Pos} {ln co : Nat} {c : Value} (h : ln ≠ pos.line) : codeAmong pos (#[] ++ #[rawInt ln, rawInt co, c] : Array Value).toList = none := by
  have e : ((ln : Int) == (pos.line : Int)) = false := beq_false_of_ne fun z => h (Int.ofNat.inj z)
  simp [codeAmong, rawInt, e]
end
local macro_rules | `(tactic| walk_at "compareOp NotEq ref ref") => `(tactic| refine halt ?_)
local macro_rules | `(tactic| walk_at "compareOp NotEq ref ref") => `(tactic| (k_here; k_dflt (first
  | (refine' ne_nil_f ?h0 ?N ?ma ?mb ?hi ?hu ?_; (case h0 => with_reducible assumption); (case N => k_asm); (case mb => k_mem); (case ma => k_mem); (case hi => with_reducible assumption); (case hu => k_room); k_whole)
  | (refine' ne_nil_t ?h0 ?N ?ma ?mb ?hi ?hu ?_; (case h0 => with_reducible assumption); (case N => k_asm); (case mb => k_mem); (case ma => k_mem); (case hi => with_reducible assumption); (case hu => k_room); k_whole))))
theorem offLaw1 : True := by
  w_top off
  exact trivial
section
local macro_rules | `(tactic| ktr_rel) => `(tactic| tbr_iter (ValIn.lst, "102"))
theorem sub5 {l : Led} {a b c d e : Addr × Obj} : Sub l (a :: b :: c :: d :: e :: l) := Sub.rfl'.cons.cons.cons.cons.cons
theorem sub7 {l : Led} {a b c d e f g : Addr × Obj} : Sub l (a :: b :: c :: d :: e :: f :: g :: l) := sub5.cons.cons
theorem cells0 {h₀ h : Heap} {L : Addr} {l : Led} (N : News h₀ L h l) (c : Cells l L none none none none none) : ∃ l, News h₀ L h l ∧ Cells l L none none none none none := ⟨l, N, c⟩
local macro_rules | `(tactic| k_in) => `(tactic| first | k_in_fast | assumption | exact Frag.In.keeps (by k_asm) (Fr.keep (by k_asm)))
def Hid (P : Prop) : Prop := P
theorem Hid.of {P : Prop} (h : P) : Hid P := h
theorem Hid.out {P : Prop} (h : Hid P) : P := h
local macro_rules | `(tactic| walk_at "callWith ref") => `(tactic| (k_here; k_dflt (first
  | (refine' callWith_K ?k1 ?k2 ?_; (case k1 => k_asm); (case k2 => k_is); k_whole))))
local macro_rules | `(tactic| walk_at "call ref") => `(tactic| ((with_reducible show wpAny _ _ (call (Value.ref 410) [_, _, _]) _ _ _); refine halt ?_))
local macro_rules | `(tactic| walk_at "call ref") => `(tactic| ((with_reducible show wpAny _ _ (call (Value.ref 367) [_, _]) _ _ _); refine halt ?_))
local macro_rules | `(tactic| walk_at "call ref") => `(tactic| ((with_reducible show wpAny _ _ (call (Prod.fst _) _) _ _ _); dsimp only [List.nil_append, List.cons_append]))
local macro_rules | `(tactic| walk_at "mine free") => `(tactic| k_dflt (refine' nameX_F ?N ?c ?m ?d ?_ ?a ?b; (case a => rfl); (case b => rfl); (case N => k_asm); (case c => rfl); (case m => first | with_reducible assumption | exact SubI.mem (by with_reducible assumption) (by ((repeat (first | with_reducible assumption | with_reducible exact mem_head | with_reducible refine mem_tail ?_)); done)) (.inr (notInt_cell (by with_reducible assumption)))); (case d => with_reducible assumption); k_whole))
local macro_rules | `(tactic| walk_at "eval Name") => `(tactic| ((with_reducible show wpAny _ (Around.deeper _ _) (eval (Expr.Name (Str.ofString "many") _) (envX _ _ _ _ _ _)) _ _ _); walk_at "mine free"))
local macro_rules | `(tactic| walk_at "eval Name") => `(tactic| ((with_reducible show wpAny _ (Around.deeper _ _) (eval (Expr.Name (Str.ofString "turned_one") _) (envX _ _ _ _ _ _)) _ _ _); walk_at "mine free"))
local macro_rules | `(tactic| walk_at "eval Name") => `(tactic| ((with_reducible show wpAny _ (Around.deeper _ _) (eval (Expr.Name (Str.ofString "gone") _) (envX _ _ _ _ _ _)) _ _ _); walk_at "mine free"))
local macro_rules | `(tactic| k_mem) => `(tactic| exact SubI.mem (by with_reducible assumption) (by ((repeat (first | with_reducible assumption | with_reducible exact mem_head | with_reducible refine mem_tail ?_)); done)) (.inr (by with_reducible first | exact notInt_inst | exact notInt_dictOf | exact notInt_list | exact notInt_tup | exact notInt_func)))
local macro_rules | `(tactic| k_mem) => `(tactic| ((repeat (first | with_reducible assumption | with_reducible exact mem_head | with_reducible refine mem_tail ?_)); done))
local macro_rules | `(tactic| walk_at "mine dsub") => `(tactic| tbr_iter (DTabIn.sub, "103 205"))
local macro_rules | `(tactic| walk_at "mine dent") => `(tactic| tbr_iter (dent_lst, "102 202 302"))
local macro_rules | `(tactic| walk_at "eval Dict") => `(tactic| (k_search (eval (Expr.Dict _ [Expr.Tuple [Expr.Constant _ _ _, Expr.Tuple _ _ _] _ _] _) _); tbr_iter (kdn_int, "106 201 301 421 506 606 714 815 0/502")))
local macro_rules | `(tactic| walk_at "setItem ref int") => `(tactic| (tbr_iter (dtab_set, "101 201 318 424 512 0/10006")))
local macro_rules | `(tactic| walk_at "compareOp In int ref") => `(tactic| (tbr_iter (dtab_in, "101 218 303 0/0"); (try simp only [Option.isSome_some, Option.isSome_none])))
local macro_rules | `(tactic| walk_at "getMethod ref") => `(tactic| (k_search (getMethod (Value.ref _) (Str.ofString "pop") _); tbr_iter (dtab_method PySem.F.slot_dict_pop PySem.F.type_dict_pop, "101 218 0/0")))
local macro_rules | `(tactic| walk_at "call builtin:dict.pop") => `(tactic| (k_search (call (Value.builtin "dict.pop") [Value.ref _, Value.int _ _]); tbr_iter (dtab_pop, "101 201 318 403 503 0/10007")))
local macro_rules | `(tactic| walk_at "eval Lambda") => `(tactic| refine halt ?_)
local macro_rules | `(tactic| walk_at "mine here") => `(tactic| (repeat (first | exact mem_head | refine mem_tail ?_)))
set_option maxHeartbeats 2000000 in
theorem law1 : PySem.Challenge.rw_og0170_01.Holds := by
  refine hd ?_
  k_go0
  rename World => w
  rename Shared => s1
  rename Fr _ _ _ _ => F0
  rename News _ _ _ _ => N0
  rename Below _ _ _ _ => B0
  rename Top topProg _ _ _ _ _ => T0
  rename Frag.In _ _ => X0
  rename Heap.IsList _ _ _ => hsc
  rename IntsAre _ _ => hints
  rename ¬ _ < _ => hle
  rename_i o5 o4 o3 o2 o1 d5 d4 d3 d2 d1 cx l0
  replace d1 : o1.data = .cell none := by
    rw [d1]
    kernel_rfl!
  replace d2 : o2.data = .cell none := by
    rw [d2]
    kernel_rfl!
  replace d3 : o3.data = .cell none := by
    rw [d3]
    kernel_rfl!
  replace d4 : o4.data = .cell none := by
    rw [d4]
    kernel_rfl!
  replace d5 : o5.data = .cell none := by
    rw [d5]
    kernel_rfl!
  refine wpAny_mono (Q := fun f s' => f = .ret (.bool true) ∧ ∃ m l xs, At s1 (ghostOf s1.heap [(421, 419)]) s1.heap.objs.size m l s' ∧ (419, tabObj xs) ∈ l) (E := fun _ _ => False) ?walk ?close (fun _ _ h => h.elim)
  case close =>
    rintro f s' ⟨rfl, m, l, xs, ⟨h, tk, dr, rfl, F, N⟩, hm⟩
    refine ⟨?_, ⟨GrownAt.of N hm, trivial⟩⟩
    refine goodW_bool F (by assumption) (raisesW_false ?_) ?_
    · wrow_none_raised
    · wrow_post
  try (rename Ground _ _ _ _ _ _ _ => x; clear x)
  try (rename Hook.says _ _ _ => x; clear x)
  try (rename Flt.MathXP _ _ _ => x; clear x)
  try (rename LooseAre _ _ _ => x; clear x)
  try (rename Top vw _ _ _ _ _ => x; clear x)
  try (rename Tables _ _ _ _ => x; clear x)
  try (rename TopE _ _ _ _ => x; clear x)
  try (rename TopW _ _ _ => x; clear x)
  try (rename TabsAt _ _ => x; clear x)
  try (rename Heap.CodeRec _ _ _ => x; clear x)
  try (rename Shape.has _ _ = _ => x; clear x)
  try (rename PyData.layableAll0 _ = _ => x; clear x)
  try (rename PyData.layable0 _ = _ => x; clear x)
  try (rename WShape.hasAll _ _ _ = _ => x; clear x)
  try (rename WData.layableAll _ = _ => x; clear x)
  try (rename Heap.IsList s1.heap _ _ => x; clear x)
  try (rename ReadsAll _ _ _ _ => x; clear x)
  try (rename Well _ _ _ _ => x; clear x)
  try (rename Reads _ _ _ _ => x; clear x)
  try (rename ReadsAllW _ _ _ _ _ _ => x; clear x)
  try (rename Dflts _ _ _ _ _ _ => x; clear x)
  try (rename CellsAre _ _ _ => x; clear x)
  try (rename Ground _ _ _ _ _ _ _ _ => x; clear x)
  clear hT8
  obtain ⟨mean, mg, mb, T0⟩ : ∃ a b c, Top topProg _ a b c _ := ⟨_, _, _, T0⟩
  generalize ghostOf s1.heap [(421, 419)] = g0 at *
  generalize hL : s1.heap.objs.size = L at *
  generalize PySem.Challenge.rw_og0170_01.row.prog = pg at *
  generalize looseW vw [Str.ofString "PaperError", Str.ofString "told_objects"] ++ _ ++ _ ++ _ = lo at *
  obtain ⟨l, N, hc⟩ := cells0 N0 ⟨⟨_, by walk_at "mine here", d1⟩, ⟨_, by walk_at "mine here", d2⟩, ⟨_, by walk_at "mine here", d3⟩, ⟨_, by walk_at "mine here", d4⟩, ⟨_, by walk_at "mine here", d5⟩, by walk_at "mine here"⟩
  clear N0 d1 d2 d3 d4 d5 o1 o2 o3 o4 o5
  with_reducible refine CellsX.opn hc fun c1 m1 d1 c2 m2 d2 c3 m3 d3 c4 m4 d4 c5 m5 d5 mx => ?_
  rename CodeHd _ _ _ => hcd0
  have hcd := Hid.of hcd0
  clear hcd0
  change wpAny _ (site none (callerA.depth + 1) (callerA.units + 3) callerA.guards _ []) _ _ _ _
  have hdp : callerA.depth + 1 + 300 < recursionLimit := by decide
  have hun : callerA.units + 3 + 3000 < cLine := by decide
  generalize callerA.depth + 1 = dp at *
  generalize callerA.units + 3 = un at *
  generalize callerA.guards = gd at *
  with_reducible refine fin_cut ?_
  intro Zf hZf
  with_reducible refine exec_cut (s1 := s1) (g0 := g0) (L := L) (fun m l => Ex2 fun tp cl => C2 (TapeIn l tp cl 0) (Cells l L (some (.ref tp)) none none none none)) ?_ ?_
  · intro Z hZ
    all_goals (try k_fold)
    k_steps
    · rename Fr _ _ _ _ => F9
      rename News _ _ _ _ => N9
      rename SubX _ _ _ => X9
      rename Obj.data _ = Data.cell (some (.ref _)) => d9
      rename IntsAre _ (List.take 40 _) => hi9
      rename 0 < _ => hp9
      rename _ < _ ∧ _ < _ ∧ AllLt _ _ => q1
      rename _ < _ ∧ AllLt _ _ => q0
      refine ⟨rfl, hZ _ _ _ (At.mk F9 N9 rfl rfl) ⟨_, _, ⟨_, _, _, _, _, X9 _ (.head _) (Nat.ne_of_gt (lt_of_all q1.2.2 _ m1)), X9 _ (.tail _ (.head _)) (Nat.ne_of_gt (lt_of_all q0.2 _ m1)), hi9, fun e => ?_, ?_⟩, (hc.subT (Sub.t (Sub.rfl'.cons.cons.cons))).tape X9 ⟨_, .head _, d9⟩ l0⟩⟩
      · rw [e] at hp9; exact absurd hp9 (by decide)
      · rw [List.length_take]; omega
    · rename Fr _ _ _ _ => F9
      rename News _ _ _ _ => N9
      rename SubX _ _ _ => X9
      rename Obj.data _ = Data.cell (some (.ref _)) => d9
      rename _ < _ ∧ _ < _ ∧ _ < _ ∧ AllLt _ _ => q2
      rename _ < _ ∧ _ < _ ∧ AllLt _ _ => q1
      refine ⟨rfl, hZ _ _ _ (At.mk F9 N9 rfl rfl) ⟨_, _, ⟨_, _, _, [5], _, X9 _ (.head _) (Nat.ne_of_gt (lt_of_all q2.2.2.2 _ m1)), X9 _ (.tail _ (.head _)) (Nat.ne_of_gt (lt_of_all q1.2.2 _ m1)), .cons _ _ .nil, List.cons_ne_nil _ _, by decide⟩, (hc.subT (Sub.t (Sub.rfl'.cons.cons.cons.cons))).tape X9 ⟨_, .head _, d9⟩ l0⟩⟩
  clear F0 N hc m1 m2 m3 m4 m5 d1 d2 d3 d4 d5 c1 c2 c3 c4 c5 mx
  rintro m l h tk dr F1 N1 ⟨tp, cl, ht, hc⟩
  with_reducible refine CellsX.opn hc fun c1 m1 d1 c2 m2 d2 c3 m3 d3 c4 m4 d4 c5 m5 d5 mx => ?_
  with_reducible refine exec_cut (s1 := s1) (g0 := g0) (L := L) (fun m l => Ex7 fun tp cl at_ nb its ns k => C11 (TapeIn l tp cl at_) (Cells l L (some (.ref tp)) none none none none) (0 ≤ at_) (at_ ≤ 20) (m (Str.ofString "numbers") = some (.ref nb)) ((nb, W.listOf its.toArray k) ∈ l) (IntsAre its ns) (ns.Pairwise (· ≤ ·)) (ns.Nodup) ((∀ n ∈ ns, 2 ≤ n ∧ n ≤ 15)) (ns.length ≤ 6)) ?_ ?_
  · intro Z hZ
    all_goals (try k_fold)
    k_steps
    refine' listComp_RX F1 rfl ?hclos ?hcell ?hkind ?hnames ?hx ?h ?hs
    case hclos => with_unfolding_all rfl
    case hcell => decide
    case hkind => with_unfolding_all rfl
    case hnames => decide
    case hx => with_unfolding_all rfl
    case hs => intro _; with_unfolding_all rfl
    k_steps
    rename IsRange _ _ _ _ _ _ _ _ => R2
    rename SubT _ _ => T2
    rename TapeIn _ _ _ _ => ht2
    rename Fr _ _ _ _ => F2
    rename News _ _ _ _ => N2
    rename _ < 7 => r7
    rename 0 ≤ _ => r0
    rename_i r0' _ _ _ l2 _ _ _ _ _ _ _ _ _
    refine ⟨_, 0, r0', r0'.toNat, l2, fun i ys l' => SubT l2 l' ∧ TapeIn l' tp cl (1 + (i : Int)) ∧ ∃ ns, IntsAre ys ns ∧ ns.length = i ∧ ∀ n ∈ ns, 2 ≤ n ∧ n ≤ 15, rfl, ⟨⟨_, _, _, R2⟩, small_one (by omega) (by omega) (by omega) (by omega), by rw [rangeSize_nat]; omega, F2, N2, by rw [sizeLine_eq]; omega⟩, ⟨Sub.rfl'.t, by rw [show (1 : Int) + ((0 : Nat) : Int) = 0 + 1 by decide]; exact ht2, [], .nil, rfl, fun _ h => nomatch h⟩, fun g => ?turn, ?done⟩
    case turn =>
      rintro i v ys l3 I oI C oC D m₂ h tk E' hlt ⟨t, rfl⟩ ⟨e, ht3, ns, hi, hl, hb⟩ off hC hx F3 N3
      obtain ⟨⟨ot, mt⟩, oc, mc⟩ := ht3.at
      have ot' := off _ mt
      have oc' := off _ mc
      k_steps
      rename Fr _ _ _ _ => F4
      rename News _ _ _ _ => N4
      rename SubT _ _ => T4
      rename SubX _ _ _ => X4
      rename TapeIn _ _ _ _ => ht4
      rename _ < 14 => r14
      refine ⟨_, _, _, rfl, F4, N4, X4 _ (.head _) (Ne.symm ot'.1), X4 _ (.tail _ (.head _)) (Ne.symm ot'.2.1), X4 _ (.tail _ (.tail _ (.head _))) (Ne.symm ot'.2.2), fun l' k => ⟨fun p hp hn => ?_, ?_, _, ints_snoc hi, by simp [hl], fun n hn => ?_⟩⟩
      · have z := e p hp hn
        have y := off p z
        exact k p (T4 p (.tail _ (.tail _ (.tail _ z))) hn) y.1 y.2.1 y.2.2
      · have := ht4.off3 k ot' oc'
        rw [show 1 + ((i + 1 : Nat) : Int) = 1 + (i : Int) + 1 by omega]
        exact this
      · rcases List.mem_append.mp hn with q | q
        · exact hb n q
        · rw [List.mem_singleton.mp q]
          omega
    case done =>
      rintro D h tk ys l3 ⟨e, ht3, ns, hi, hl, hb⟩ F3 N3 off3
      k_steps
      rename Fr _ _ _ _ => F9
      rename News _ _ _ _ => N9
      rename SetI _ _ _ _ _ _ => I9
      rename List.Nodup _ => nd9
      rename ∀ x, x ∈ keysI _ ↔ _ => me9
      rename List.Perm _ (keysI _) => hp9
      rename List.Pairwise _ _ => hs9
      rename IntsAre _ _ => hi9
      rename Array.size _ ≤ _ => sz9
      have hk : (keysI _).length = _ := hp9.length_eq.symm
      refine ⟨rfl, hZ _ _ _ (At.mk F9 N9 rfl rfl) ⟨tp, cl, 1 + (r0'.toNat : Int), _, _, _, _, ht3.sub (Sub.rfl'.cons.cons.cons), hc.subT (T2.trans (e.trans (Sub.t Sub.rfl'.cons.cons.cons))), by omega, by omega, rfl, .head _, hi9, hs9, hp9.nodup_iff.mpr nd9, fun n hn => hb n ((me9 n).mp (hp9.mem_iff.mp hn)), ?_⟩⟩
      rw [← hk]
      simp only [keysI, List.length_map, Array.length_toList]
      omega
  clear N1 F1 ht m1 m2 m3 m4 m5 d1 d2 d3 d4 d5 mx
  rintro m l h tk dr F1 N1 ⟨tp, cl, at_, nb, its, ns, k, ht, hc, ha0, ha1, hnb, mnb, hi, hso, hnd, hbd, hlen⟩
  with_reducible refine CellsX.opn hc fun c1 m1 d1 c2 m2 d2 c3 m3 d3 c4 m4 d4 c5 m5 d5 mx => ?_
  with_reducible refine exec_cut (s1 := s1) (g0 := g0) (L := L) (fun m l => Ex5 fun at_ by' my tb tm => C9 (TapeIn l tp cl at_) (Cells l L (some (.ref tp)) none none (some (.int (my : Nat) tm)) none) (0 ≤ at_) (at_ ≤ 22) (m (Str.ofString "numbers") = some (.ref nb)) ((nb, W.listOf its.toArray k) ∈ l) (m (Str.ofString "beyond") = some (.int (1 + (by' : Nat)) tb)) (by' < 20) (my < 5)) ?_ ?_
  · intro Z hZ
    all_goals (try k_fold)
    k_steps
    rename_i x1 t1 _ _ n1 p1 q1 T1 X1 H1 x2 t2 _ _ n2 p2 q2 T2 X2 H2 D9 _ l9 _ _ _ o9 F9 N9 dd9 S9 C9
    obtain ⟨b9, rfl⟩ := Int.eq_ofNat_of_zero_le p1
    obtain ⟨y9, rfl⟩ := Int.eq_ofNat_of_zero_le p2
    have T9 := fun o => T1.trans (T2.trans (Sub.t (Sub.one (a := D9) (o := o))))
    exact ⟨rfl, hZ _ _ _ (At.mk F9 N9 rfl rfl) ⟨at_ + 1 + 1, b9, y9, _, _, (H2.sub Sub.one).subC C9, (hc.subT (T9 _)).many S9 ⟨o9, .head _, dd9⟩ l0, by omega, by omega, hnb, C9 _ (T9 _ _ mnb (notT_ints hi)) notC_list, rfl, by omega, by omega⟩⟩
  clear N1 F1 ht hc m1 m2 m3 m4 m5 d1 d2 d3 d4 d5 mx mnb hnb
  rintro m l h tk dr F1 N1 ⟨at_, by', my, tb, tm, ht, hc, ha0, ha1, hnb, mnb, hbe, hby, hmy⟩
  with_reducible refine CellsX.opn hc fun c1 m1 d1 c2 m2 d2 c3 m3 d3 c4 m4 d4 c5 m5 d5 mx => ?_
  with_reducible refine exec_cut (s1 := s1) (g0 := g0) (L := L) (fun m l => Ex1 fun ta => C7 (TapeIn l tp cl at_) (Cells l L (some (.ref tp)) none none (some (.int (my : Nat) tm)) none) (m (Str.ofString "numbers") = some (.ref nb)) ((nb, W.listOf its.toArray k) ∈ l) (m (Str.ofString "beyond") = some (.int (1 + (by' : Nat)) tb)) (m (Str.ofString "table") = some (.ref ta)) (TabIn pg w l ta [(1, ⟨0, .cat⟩)])) ?_ ?_
  · intro Z hZ
    all_goals (try k_fold)
    k_steps
    rename_i dT _ _ _ lo1 _ dS _ _ lo0 _ _ nm _ _ _ _ _ _ _ _ _ _ _ _ _ _ _ _ oS hdS D _ _ _ oT hdT _ F9 N9
    refine ⟨rfl, hZ _ _ _ (At.mk F9 N9 rfl rfl) ⟨dT, ht.sub sub5, hc.sub sub5, hnb, sub5 _ mnb, hbe, rfl, ⟨⟨oT, _, (by walk_at "mine here"), hdT, .cons ⟨_, _, _, _, rfl, (by walk_at "mine here"), .cat (by walk_at "mine here") hdS lo0 (.name (by walk_at "mine here") (by walk_at "mine here"))⟩ .nil⟩, lo1⟩⟩⟩
  clear N1 F1 ht hc m1 m2 m3 m4 m5 d1 d2 d3 d4 d5 mx mnb hnb hbe
  rintro m l h tk dr F1 N1 ⟨ta, ht, hc, hnb, mnb, hbe, hta, hT⟩
  with_reducible refine CellsX.opn hc fun c1 m1 d1 c2 m2 d2 c3 m3 d3 c4 m4 d4 c5 m5 d5 mx => ?_
  with_reducible refine exec_cut (s1 := s1) (g0 := g0) (L := L) (fun m l => Ex1 fun ta => C7 (TapeIn l tp cl at_) (Cells l L (some (.ref tp)) none none (some (.int (my : Nat) tm)) none) (m (Str.ofString "numbers") = some (.ref nb)) ((nb, W.listOf its.toArray k) ∈ l) (m (Str.ofString "beyond") = some (.int (1 + (by' : Nat)) tb)) (m (Str.ofString "table") = some (.ref ta)) (TabIn pg w l ta (baseT ns))) ?_ ?_
  · intro Z hZ
    all_goals (try k_fold)
    refine' for_list F1 rfl rfl rfl ?h
    k_steps
    refine ⟨nb, its.toArray, k, l, m, fun i m₁ l₁ => TapeIn l₁ tp cl at_ ∧ Cells l₁ L (some (.ref tp)) none none (some (.int (my : Nat) tm)) none ∧ m₁ (Str.ofString "numbers") = some (.ref nb) ∧ m₁ (Str.ofString "beyond") = some (.int (1 + (by' : Nat)) tb) ∧ m₁ (Str.ofString "table") = some (.ref ta) ∧ TabIn pg w l₁ ta (baseT (ns.take i)), rfl, ⟨F1, N1, mnb⟩, ⟨ht, hc, hnb, hbe, hta, hT⟩, fun g => ?turn, ?done⟩
    case turn =>
      clear F1 N1 ht hc hnb mnb hbe hta hT m1 m2 m3 m4 m5 mx
      rintro i v m₁ l₁ I oI h tk hlt hP ⟨ht, hc, hnb, hbe, hta, hT⟩ hS off hoF F5 N5
      obtain ⟨n, t, rfl, hni⟩ := ints_at hi hP
      have hz : (baseT (ns.take i)).length < 64 := Nat.lt_of_le_of_lt baseT_len (by rw [List.length_take]; omega)
      k_steps
      rename Fr _ _ _ _ => F6
      rename News _ _ _ _ => N6
      rename TabIn _ _ _ ta (tset _ _ _) => T6
      rename SubI _ _ _ => S6
      rw [← baseT_snoc, ← take_snoc hni] at T6
      have S7 := (Sub.i (a := ta) (Sub.cons (p := _) (Sub.cons (p := _) Sub.rfl'))).trans S6
      exact .go ta F6 N6 off hoF S7 fun l' e5 f5 => ⟨e5 _ hS (.inr notInt_list), ht.subI e5, hc.subI e5, hnb, hbe, hta, T6.subF f5⟩
    case done =>
      clear F1 N1 ht hc hnb mnb hbe hta hT m1 m2 m3 m4 m5 mx
      rintro h' tk m' l4 F5 N5 hS ⟨ht, hc, hnb, hbe, hta, hT⟩
      rw [List.size_toArray, hi.length, List.take_length] at hT
      exact ⟨rfl, hZ _ _ _ (At.mk F5 N5 rfl rfl) ⟨ta, ht, hc, hnb, hS, hbe, hta, hT⟩⟩
  clear N1 F1 ht hc m1 m2 m3 m4 m5 d1 d2 d3 d4 d5 mx mnb hnb hbe hta hT
  rintro m l h tk dr F1 N1 ⟨ta, ht, hc, hnb, mnb, hbe, hta, hT⟩
  with_reducible refine CellsX.opn hc fun c1 m1 d1 c2 m2 d2 c3 m3 d3 c4 m4 d4 c5 m5 d5 mx => ?_
  with_reducible refine exec_cut (s1 := s1) (g0 := g0) (L := L) (fun m l => Ex3 fun bn sh tr => C9 (TapeIn l tp cl at_) (Cells l L (some (.ref tp)) none none (some (.int (my : Nat) tm)) none) (m (Str.ofString "numbers") = some (.ref nb)) ((nb, W.listOf its.toArray k) ∈ l) (m (Str.ofString "beyond") = some (.int (1 + (by' : Nat)) tb)) (m (Str.ofString "bench") = some (.ref bn)) (BenchIn l bn sh #[120]) (ShelfIn pg w l sh ta tr) (TabIn pg w l ta (baseT ns))) ?_ ?_
  · intro Z hZ
    all_goals (try k_fold)
    k_steps
    rename Fr g0 L _ _ => F9
    rename News g0 L _ _ => N9
    rename Obj.IsDictOf (PySem.strKind _ _) _ _ => hdS
    rename (_ == sysModules) = _ => loS
    refine ⟨rfl, hZ _ _ _ (At.mk F9 N9 rfl rfl) ⟨_, _, _, ht.sub sub7, hc.sub sub7, hnb, sub7 _ mnb, hbe, rfl, ⟨_, _, _, _, _, _, _, _, _, .head _, .tail _ (.head _)⟩, ⟨⟨_, _, _, _, _, _, .tail _ (.tail _ (.head _)), .tail _ (.tail _ (.tail _ (.head _)))⟩, _, _, (by walk_at "mine here"), hdS, loS, .ref (by walk_at "mine here") (by walk_at "mine here")⟩, hT.sub sub7⟩⟩
  clear N1 F1 ht hc m1 m2 m3 m4 m5 d1 d2 d3 d4 d5 mx mnb hnb hbe hta hT
  rintro m l h tk dr F1 N1 ⟨bn, sh, tr, ht, hc, hnb, mnb, hbe, hbn, hb, hs, hT⟩
  with_reducible refine CellsX.opn hc fun c1 m1 d1 c2 m2 d2 c3 m3 d3 c4 m4 d4 c5 m5 d5 mx => ?_
  obtain ⟨d0, hd0⟩ : ∃ d0 : Array UInt8, d0 = #[120] := ⟨_, rfl⟩
  rw [← hd0] at hb
  have hbl : (baseT ns).length < 64 := Nat.lt_of_le_of_lt baseT_len (by omega)
  with_reducible refine exec_cut (s1 := s1) (g0 := g0) (L := L) (fun m l => Ex2 fun bv ks => C9 (TapeIn l tp cl at_) (Cells l L (some (.ref tp)) none none (some (.int (my : Nat) tm)) none) (Std pg w l d0 nb its k bn sh tr ta (baseT ns) bv (toldDat (baseT ns) ks)) (m (Str.ofString "numbers") = some (.ref nb)) (m (Str.ofString "beyond") = some (.int (1 + (by' : Nat)) tb)) (m (Str.ofString "bench") = some (.ref bn)) (m (Str.ofString "before") = some bv) (ks.Perm ((baseT ns).map (·.1))) (ks.Pairwise (· ≤ ·))) ?_ ?_
  · intro Z hZ
    all_goals (try k_fold)
    with_reducible refine BenchIn.opn hb fun db h1 t1 t0 h2 t2 h3 t3 nn hb1 hb2 => ?_
    with_reducible refine ShelfIn.opn hs fun ds u1 u2 u3 u4 n2 hi1 hi2 otr rf htr hot lotr hrf => ?_
    k_steps
    rename Fr g0 L _ _ => F9
    rename News g0 L _ _ => N9
    rename NewDat _ _ _ _ => D9
    rename List.Perm _ _ => P9
    rename List.Pairwise _ (_ : List Int) => O9
    have S9 := D9.1
    exact ⟨rfl, hZ _ _ _ (At.mk F9 N9 rfl rfl) ⟨_, _, ht.sub S9, hc.sub S9, ⟨S9 _ mnb, hb.sub S9, hs.sub S9, hT.sub S9, D9.dat⟩, hnb, hbe, hbn, rfl, P9, O9⟩⟩
  clear N1 F1 ht hc m1 m2 m3 m4 m5 d1 d2 d3 d4 d5 mx mnb hnb hbe hbn hb hs hT
  rintro m l h tk dr F1 N1 ⟨bv, ks, ht, hc, hst, hnb, hbe, hbn, hbv, hks, hkso⟩
  have hD : flatD (toldDat (baseT ns) ks) = true := told_flat _ _
  generalize hDe : toldDat (baseT ns) ks = D at *
  with_reducible refine CellsX.opn hc fun c1 m1 d1 c2 m2 d2 c3 m3 d3 c4 m4 d4 c5 m5 d5 mx => ?_
  with_reducible refine exec_cut (s1 := s1) (g0 := g0) (L := L) (fun m l => Ex3 fun at' go tg => C10 (TapeIn l tp cl at') (Cells l L (some (.ref tp)) none (some (.int go tg)) (some (.int (my : Nat) tm)) none) (Std pg w l d0 nb its k bn sh tr ta (baseT ns) bv D) (m (Str.ofString "numbers") = some (.ref nb)) (m (Str.ofString "beyond") = some (.int (1 + (by' : Nat)) tb)) (m (Str.ofString "bench") = some (.ref bn)) (m (Str.ofString "before") = some bv) ((go = 0 ∨ go ∈ ns)) (0 ≤ at') (at' ≤ 24)) ?_ ?_
  · intro Z hZ
    have mnb := hst.1
    all_goals (try k_fold)
    by_cases hns : ns = []
    · k_steps
      rename_i D1 _ q1 _ o9 F9 N9 e9 S9 C9
      refine ⟨trivial, hZ _ _ _ (At.mk F9 N9 rfl rfl) ⟨_, _, _, (ht.sub Sub.one).subC C9, (hc.sub Sub.one).gone S9 ⟨o9, .head _, e9⟩ l0, (hst.sub Sub.one).subC hD C9, hnb, hbe, hbn, hbv, .inl rfl, by omega, by omega⟩⟩
    · have hpos : 0 < ns.length := List.length_pos_iff.mpr hns
      k_steps
      · rename_i D1 _ q1 x1 _ _ _ n1 x1a x1b T1 X1 H1 x1c x2 _ _ _ n2 x2a x2b T2 X2 H2 t9 _ o9 F9 N9 e9 S9 C9
        have T9 := (Sub.t Sub.one).trans (T1.trans T2)
        refine ⟨trivial, hZ _ _ _ (At.mk F9 N9 rfl rfl) ⟨_, _, _, H2.subC C9, (hc.subT T9).gone S9 ⟨o9, .head _, e9⟩ l0, (hst.subT hi hD T9).subC hD C9, hnb, hbe, hbn, hbv, .inr (getD_mem (by omega)), by omega, by omega⟩⟩
      · rename_i D1 _ q1 x1 _ _ _ n1 x1a x1b T1 X1 H1 x1c _ o9 F9 N9 e9 S9 C9
        have T9 := (Sub.t Sub.one).trans T1
        refine ⟨trivial, hZ _ _ _ (At.mk F9 N9 rfl rfl) ⟨_, _, _, H1.subC C9, (hc.subT T9).gone S9 ⟨o9, .head _, e9⟩ l0, (hst.subT hi hD T9).subC hD C9, hnb, hbe, hbn, hbv, .inl rfl, by omega, by omega⟩⟩
  clear N1 F1 ht hc m1 m2 m3 m4 m5 d1 d2 d3 d4 d5 mx hnb hbe hbn hbv hst ha0 ha1
  rintro m l h tk dr F1 N1 ⟨at_, go, tg, ht, hc, hst, hnb, hbe, hbn, hbv, hgo, ha0, ha1⟩
  with_reducible refine CellsX.opn hc fun c1 m1 d1 c2 m2 d2 c3 m3 d3 c4 m4 d4 c5 m5 d5 mx => ?_
  with_reducible refine exec_cut (s1 := s1) (g0 := g0) (L := L) (fun m l => Ex3 fun at' tu tt => C10 (TapeIn l tp cl at') (Cells l L (some (.ref tp)) none (some (.int go tg)) (some (.int (my : Nat) tm)) (some (.int tu tt))) (Std pg w l d0 nb its k bn sh tr ta (baseT ns) bv D) (m (Str.ofString "numbers") = some (.ref nb)) (m (Str.ofString "beyond") = some (.int (1 + (by' : Nat)) tb)) (m (Str.ofString "bench") = some (.ref bn)) (m (Str.ofString "before") = some bv) ((tu = 0 ∨ tu ∈ ns)) (0 ≤ at') (at' ≤ 26)) ?_ ?_
  · intro Z hZ
    have mnb := hst.1
    all_goals (try k_fold)
    by_cases hns : ns = []
    · k_steps
      rename_i D1 _ q1 _ o9 F9 N9 e9 S9 C9
      refine ⟨trivial, hZ _ _ _ (At.mk F9 N9 rfl rfl) ⟨_, _, _, (ht.sub Sub.one).subC C9, (hc.sub Sub.one).turned S9 ⟨o9, .head _, e9⟩ l0, (hst.sub Sub.one).subC hD C9, hnb, hbe, hbn, hbv, .inl rfl, by omega, by omega⟩⟩
    · have hpos : 0 < ns.length := List.length_pos_iff.mpr hns
      k_steps
      · rename_i D1 _ q1 x1 _ _ _ n1 x1a x1b T1 X1 H1 x1c x2 _ _ _ n2 x2a x2b T2 X2 H2 t9 _ o9 F9 N9 e9 S9 C9
        have T9 := (Sub.t Sub.one).trans (T1.trans T2)
        refine ⟨trivial, hZ _ _ _ (At.mk F9 N9 rfl rfl) ⟨_, _, _, H2.subC C9, (hc.subT T9).turned S9 ⟨o9, .head _, e9⟩ l0, (hst.subT hi hD T9).subC hD C9, hnb, hbe, hbn, hbv, .inr (getD_mem (by omega)), by omega, by omega⟩⟩
      · rename_i D1 _ q1 x1 _ _ _ n1 x1a x1b T1 X1 H1 x1c _ o9 F9 N9 e9 S9 C9
        have T9 := (Sub.t Sub.one).trans T1
        refine ⟨trivial, hZ _ _ _ (At.mk F9 N9 rfl rfl) ⟨_, _, _, H1.subC C9, (hc.subT T9).turned S9 ⟨o9, .head _, e9⟩ l0, (hst.subT hi hD T9).subC hD C9, hnb, hbe, hbn, hbv, .inl rfl, by omega, by omega⟩⟩
  clear N1 F1 ht hc m1 m2 m3 m4 m5 d1 d2 d3 d4 d5 mx hnb hbe hbn hbv hst ha0 ha1 at_
  rintro m l h tk dr F1 N1 ⟨at_, tu, tt, ht, hc, hst, hnb, hbe, hbn, hbv, htu, ha0, ha1⟩
  with_reducible refine CellsX.opn hc fun c1 m1 d1 c2 m2 d2 c3 m3 d3 c4 m4 d4 c5 m5 d5 mx => ?_
  with_reducible refine exec_cut (s1 := s1) (g0 := g0) (L := L) (fun m l => Ex7 fun ch xs P oc od fd sl => C13 (CellsX xs l L (some (.ref tp)) none (some (.int go tg)) (some (.int (my : Nat) tm)) (some (.int tu tt))) (TriplesOk xs.toList) ((∀ q t, xs[1]? ≠ some (.str q t))) ((∀ pos : Pos, pos.line ≠ 232 → codeAmong pos xs.toList = none)) (Std pg w l d0 nb its k bn sh tr ta (baseT ns) bv D) (m (Str.ofString "numbers") = some (.ref nb)) (m (Str.ofString "beyond") = some (.int (1 + (by' : Nat)) tb)) (m (Str.ofString "bench") = some (.ref bn)) (m (Str.ofString "before") = some bv) (m (Str.ofString "change") = some (.ref ch)) ((ch, (⟨oc, od, .func fd, sl⟩ : Obj)) ∈ l) (P l) (ChangeOK pg topProg w mean mg mb lo ch P (fillT (baseT ns) (gapsN (baseT ns) by')) (turnT (adds (fillT (baseT ns) (gapsN (baseT ns) by')) 1 my) tu go))) ?_ ?_
  · intro Z hZ
    have hcd0 := hcd.out
    all_goals (try k_fold)
    refine nestDef_K rfl rfl rfl ?_
    refine nest_M F1 N1 T0 hcd0 rfl mx True.intro rfl rfl fun ch c' oc ctv doc h2 tk2 l2 F2 N2 mf mc hco mt S2 => ?_
    have SF := subF_tab N1 mx (fun q t => by simp) S2
    have hc2 := hc.tab S2 mt l0
    have hst2 := hst.subF hD SF
    clear N1 F1 ht hc m1 m2 m3 m4 m5 d1 d2 d3 d4 d5 mx hst SF S2 hcd0
    obtain ⟨vs, t1, hd1, hv1⟩ := id hco
    generalize hfo : fnMade _ _ _ _ _ _ _ _ _ _ = fo at mf
    have hch : ChangeOK pg topProg w mean mg mb lo ch (fun l' => (ch, fo) ∈ l' ∧ (c', oc) ∈ l' ∧ CellIn l' (L + 1 + 1 + 1) (some (.int go tg)) ∧ CellIn l' (L + 1 + 1 + 1 + 1) (some (.int (my : Nat) tm)) ∧ CellIn l' (L + 1 + 1 + 1 + 1 + 1) (some (.int tu tt))) (fillT (baseT ns) (gapsN (baseT ns) by')) (turnT (adds (fillT (baseT ns) (gapsN (baseT ns) by')) 1 my) tu go) := by
      generalize hT1 : fillT (baseT ns) (gapsN (baseT ns) by') = T1
      have hT1l : T1.length ≤ 30 := by
        rw [← hT1]
        have a1 := fillT_len (gs := gapsN (baseT ns) by') (T := baseT ns)
        have a2 := gapsN_len (T := baseT ns) (n := by')
        have a3 := baseT_len (ns := ns)
        omega
      clear hst2 hc2 N2 F2 mc mt hnb hbe hbn hbv
      intro A₀ base h₀ outer env L' m' news s Q E dp' un' gd' B F X N T hf hk hd hu ⟨l₀, ⟨p1, p2, ⟨o3, p3, q3⟩, ⟨o4, p4, q4⟩, ⟨o5, p5, q5⟩⟩, e⟩ sh' tb' tr' hs ht ret
      rw [← hfo] at p1
      replace p1 := e _ p1 notInt_func notF_func
      replace p2 := e _ p2 (notInt_code hco) (notF_code hco)
      replace p3 := e _ p3 (notInt_cell q3) (notF_cell q3)
      replace p4 := e _ p4 (notInt_cell q4) (notF_cell q4)
      replace p5 := e _ p5 (notInt_cell q5) (notF_cell q5)
      clear e
      refine wpAny_call ?_
      refine code_nest (binds := [(Str.ofString "shelf", .ref sh')]) B F X N T rfl hf hk p1 (codeRec_news N p2 hd1 hv1) (by show dp' < _; omega) (BindsTo.of_eq rfl) (locs rfl) ?_ rfl rfl rfl (by decide)
      intro g' L'' h'' FG' F' N' B' X' T'
      all_goals (try dsimp only)
      all_goals (try k_fold)
      k_steps
      refine' for_range F' rfl rfl rfl ?h
      k_steps
      rename Fr g' L'' _ _ => F4
      rename News g' L'' _ _ => N4
      rename IsRange _ _ _ _ _ _ _ _ => R4
      refine ⟨_, 0, my, 1, _, _, _, my, news, _, fun i m₁ l₁ => SubI tb' news l₁ ∧ m₁ (Str.ofString "shelf") = some (.ref sh') ∧ TabIn pg w l₁ tb' (adds T1 1 i), rfl, ⟨R4, small_one (by omega) (by omega) (by omega) (by omega), by rw [rangeSize_nat]; omega, F4, N4⟩, ⟨Sub.rfl'.i, rfl, ht⟩, fun g => ?turn, ?done⟩
      case turn =>
        clear F4 N4 R4
        rintro i v m₁ l₁ I oI h tk hi ⟨t, hv⟩ ⟨e, hse, hT⟩ _ off hoF F3 N3
        simp only [Int.mul_one, Int.zero_add] at hv
        subst hv
        have z : (adds T1 1 i).length < 64 := Nat.lt_of_le_of_lt adds_len (by omega)
        have hs3 := hs.subI e
        with_reducible refine ShelfIn.opn1 hs3 fun ds g1 u1 g2 u2 kk hi1 hi2 => ?_
        k_steps
        rename Fr g' L'' _ _ => F4
        rename News g' L'' _ _ => N4
        refine add_spec (f := free (adds T1 1 i) 1) B' F4 X' N4 T' rfl rfl (by show dp' + 1 + 40 < _; omega) (by show un' + 3 + 400 < _; omega) free_ge free_none free_least (hs3.sub Sub.rfl'.cons.cons) (hT.sub Sub.rfl'.cons.cons) z (.lst (.head _)) fun r h' tk' n' F5 N5 S5 T5 => ?_
        clear F4 N4
        k_steps
        rename Fr g' L'' _ _ => F6
        rename News g' L'' _ _ => N6
        exact .go tb' F6 N6 off hoF ((Sub.i Sub.one).trans S5) fun l' e5 f5 => ⟨trivial, e.trans e5, hse, T5.subF f5⟩
      case done =>
        clear F4 N4 R4
        rintro h' tk m' l' F3 N3 ⟨e, hse, hT⟩
        have hs3 := hs.subI e
        with_reducible refine ShelfIn.opn1 hs3 fun ds g1 u1 g2 u2 kk hi1 hi2 => ?_
        have z1 : (adds T1 1 my).length < 64 := Nat.lt_of_le_of_lt adds_len (by omega)
        have z2 : (tset (adds T1 1 my) tu ⟨5, .lst 0⟩).length < 64 := Nat.lt_of_le_of_lt tset_len (by have := adds_len (T := T1) (b := 1) (k := my); omega)
        have p3' := e _ p3 (.inr (notInt_cell q3))
        have p5' := e _ p5 (.inr (notInt_cell q5))
        clear p3 p5 p1 p2 p4 q4 mf
        rcases htu with rfl | htu
        · rcases hgo with rfl | hgo
          · k_steps
            exact ret _ _ _ _ (by k_asm) (by k_asm) e (by rw [show turnT (adds T1 1 my) 0 0 = adds T1 1 my by simp [turnT]]; exact hT)
          · have go0 : 0 < go := by have := hbd _ hgo; omega
            k_steps
            rename SubI tb' l' _ => S9
            rename TabIn _ _ _ tb' (tdel _ _) => T9
            exact ret _ _ _ _ (by k_asm) (by k_asm) (e.trans S9) (by rw [show turnT (adds T1 1 my) 0 go = tdel (adds T1 1 my) go by simp [turnT, go0]]; exact T9)
        · have tu0 : 0 < tu := by have := hbd _ htu; omega
          rcases hgo with rfl | hgo
          · k_steps
            rename SubI tb' (_ :: _) _ => S9
            rename TabIn _ _ _ tb' (tset _ tu _) => T9
            exact ret _ _ _ _ (by k_asm) (by k_asm) (e.trans ((Sub.i Sub.one).trans S9)) (by rw [show turnT (adds T1 1 my) tu 0 = tset (adds T1 1 my) tu ⟨5, .lst 0⟩ by simp [turnT, tu0]]; exact T9)
          · have go0 : 0 < go := by have := hbd _ hgo; omega
            k_steps
            rename SubI tb' _ _ => S9
            rename SubI tb' (_ :: _) _ => S8
            rename TabIn _ _ _ tb' (tdel _ _) => T9
            exact ret _ _ _ _ (by k_asm) (by k_asm) (e.trans ((Sub.i Sub.one).trans (S8.trans S9))) (by rw [show turnT (adds T1 1 my) tu go = tdel (tset (adds T1 1 my) tu ⟨5, .lst 0⟩) go by simp [turnT, tu0, go0]]; exact T9)
    k_steps
    rename Fr g0 L _ _ => F9
    rename News g0 L _ _ => N9
    rw [← hfo] at mf hch
    exact ⟨rfl, hZ _ _ _ (At.mk F9 N9 rfl rfl) ⟨ch, _, _, _, _, _, _, hc2, by simp [TriplesOk, rawInt], fun q t => by simp [rawInt], fun pos hp => code_apart (fun z => hp z.symm), hst2, hnb, hbe, hbn, hbv, rfl, mf, ⟨mf, mc, hc2.2.2.1, hc2.2.2.2.1, hc2.2.2.2.2.1⟩, hch⟩⟩
  clear N1 F1 ht hc m1 m2 m3 m4 m5 d1 d2 d3 d4 d5 mx hnb hbe hbn hbv hst ha0 ha1 at_
  rintro m l h tk dr F1 N1 ⟨ch, xs, P, oc, od, fd, sl, hc, hxs, hxs2, hxs3, hst, hnb, hbe, hbn, hbv, hcg, mf, hP, hch⟩
  with_reducible refine CellsX.opn hc fun c1 m1 d1 c2 m2 d2 c3 m3 d3 c4 m4 d4 c5 m5 d5 mx => ?_
  have hb1 : look (baseT ns) 1 = some ⟨0, .cat⟩ := baseT_one fun n hn => by have := hbd n hn; omega
  have htu1 : 0 < tu → look (baseT ns) tu ≠ none := fun h => by
    rcases htu with rfl | q
    · omega
    · exact baseT_look q
  have hgo1 : 0 < go → look (baseT ns) go ≠ none := fun h => by
    rcases hgo with rfl | q
    · omega
    · exact baseT_look q
  have htu2 : 0 < tu → tu ≠ 1 := fun h => by
    rcases htu with rfl | q
    · omega
    · have := hbd _ q; omega
  have hgo2 : 0 < go → go ≠ 1 := fun h => by
    rcases hgo with rfl | q
    · omega
    · have := hbd _ q; omega
  have hlk := fun j => grown_looks (n := by') (k := my) htu1 hgo1 j
  have hr1 : look (dropT (turnT (adds (fillT (baseT ns) (gapsN (baseT ns) by')) 1 my) tu go) (gapsN (baseT ns) by')) 1 = some ⟨0, .cat⟩ := by
    rw [hlk, turnT_one htu2 hgo2, adds_one hb1]
  have hl2 : (turnT (adds (fillT (baseT ns) (gapsN (baseT ns) by')) 1 my) tu go).length < 60 := by
    have a1 := fillT_len (gs := gapsN (baseT ns) by') (T := baseT ns)
    have a2 := gapsN_len (T := baseT ns) (n := by')
    have a3 := baseT_len (ns := ns)
    have a4 := adds_len (T := fillT (baseT ns) (gapsN (baseT ns) by')) (b := 1) (k := my)
    have a5 := turnT_len (T := adds (fillT (baseT ns) (gapsN (baseT ns) by')) 1 my) (tu := tu) (go := go)
    omega
  generalize hT2 : turnT (adds (fillT (baseT ns) (gapsN (baseT ns) by')) 1 my) tu go = T2 at *
  with_reducible refine exec_cut (s1 := s1) (g0 := g0) (L := L) (fun m l => Ex4 fun fb fs ft ftr => C8 (CellsX xs l L (some (.ref tp)) none (some (.int go tg)) (some (.int (my : Nat) tm)) (some (.int tu tt))) (Std pg w l d0 nb its k bn sh tr ta (baseT ns) bv D) (m (Str.ofString "numbers") = some (.ref nb)) (m (Str.ofString "beyond") = some (.int (1 + (by' : Nat)) tb)) (m (Str.ofString "bench") = some (.ref bn)) (m (Str.ofString "before") = some bv) (m (Str.ofString "fresh") = some (.ref fb)) (Fsh pg w l d0 fb fs ft ftr (dropT T2 (gapsN (baseT ns) by')))) ?_ ?_
  · intro Z hZ
    all_goals (try k_fold)
    obtain ⟨hN, hb, hs, hT, hDa⟩ := id hst
    k_steps
    refine grown_both B0 F1 X0 N1 T0 rfl rfl (by omega) (by omega) hb hs hT (by have := baseT_len (ns := ns); omega) (by omega) mf ⟨l, hP, Sub.rfl'.p⟩ hch (by omega) (.inl hr1) (fun _ bn' sh' tb' tr' h' tk' news' F2 N2 S2 hb' hs' hT' => ?_) (fun hn => by rw [hr1] at hn; cases hn)
    k_steps
    rename Fr g0 L _ _ => F9
    rename News g0 L _ _ => N9
    exact ⟨rfl, hZ _ _ _ (At.mk F9 N9 rfl rfl) ⟨_, _, _, _, hc.sub S2, hst.sub S2, hnb, hbe, hbn, hbv, rfl, ⟨hb', hs', hT'⟩⟩⟩
  clear N1 F1 hc m1 m2 m3 m4 m5 d1 d2 d3 d4 d5 mx hnb hbe hbn hbv hst hcg mf hP hch
  rintro m l h tk dr F1 N1 ⟨fb, fs, ft, ftr, hc, hst, hnb, hbe, hbn, hbv, hfr, hfs⟩
  generalize hT3 : dropT T2 (gapsN (baseT ns) by') = T3 at *
  with_reducible refine CellsX.opn hc fun c1 m1 d1 c2 m2 d2 c3 m3 d3 c4 m4 d4 c5 m5 d5 mx => ?_
  with_reducible refine exec_cut (s1 := s1) (g0 := g0) (L := L) (fun m l => Ex1 fun du => C11 (CellsX xs l L (some (.ref tp)) (some (.ref du)) (some (.int go tg)) (some (.int (my : Nat) tm)) (some (.int tu tt))) (Std pg w l d0 nb its k bn sh tr ta (baseT ns) bv D) (Fsh pg w l d0 fb fs ft ftr T3) (m (Str.ofString "numbers") = some (.ref nb)) (m (Str.ofString "beyond") = some (.int (1 + (by' : Nat)) tb)) (m (Str.ofString "bench") = some (.ref bn)) (m (Str.ofString "before") = some bv) (m (Str.ofString "fresh") = some (.ref fb)) (DTabIn pg w l du [(1, ⟨0, .cat⟩)]) (ta ≠ du) (ft ≠ du)) ?_ ?_
  · intro Z hZ
    all_goals (try k_fold)
    k_steps
    rename_i dd _ _ qa lo9 _ D1 _ q1 D2 _ q2 D3 _ q3 D4 _ q4 _ o5 hd5 _ o9 F9 N9 e9 S9 C9
    exact ⟨rfl, hZ _ _ _ (At.mk F9 N9 rfl rfl) ⟨dd, (hc.sub sub5).due S9 ⟨o9, .head _, e9⟩ l0, (hst.sub sub5).subC hD C9, (hfs.sub sub5).subC C9, hnb, hbe, hbn, hbv, hfr, DTabIn.subC ⟨⟨o5, _, .tail _ (.tail _ (.tail _ (.tail _ (.head _)))), hd5, .cons (dent_cat (.head _) (.tail _ (.head _)) (.tail _ (.tail _ (.head _))) (.tail _ (.tail _ (.tail _ (.head _))))) .nil⟩, lo9⟩ C9, hst.2.2.2.1.lt fun p hp => Nat.ne_of_lt (qa p hp), hfs.2.2.lt fun p hp => Nat.ne_of_lt (qa p hp)⟩⟩
  clear N1 F1 hc m1 m2 m3 m4 m5 d1 d2 d3 d4 d5 mx hnb hbe hbn hbv hst hfr hfs
  rintro m l h tk dr F1 N1 ⟨du, hc, hst, hfs, hnb, hbe, hbn, hbv, hfr, hdu, hne1, hne2⟩
  with_reducible refine CellsX.opn hc fun c1 m1 d1 c2 m2 d2 c3 m3 d3 c4 m4 d4 c5 m5 d5 mx => ?_
  with_reducible refine exec_cut (s1 := s1) (g0 := g0) (L := L) (fun m l => C9 (CellsX xs l L (some (.ref tp)) (some (.ref du)) (some (.int go tg)) (some (.int (my : Nat) tm)) (some (.int tu tt))) (Std pg w l d0 nb its k bn sh tr ta (baseT ns) bv D) (Fsh pg w l d0 fb fs ft ftr T3) (m (Str.ofString "numbers") = some (.ref nb)) (m (Str.ofString "beyond") = some (.int (1 + (by' : Nat)) tb)) (m (Str.ofString "bench") = some (.ref bn)) (m (Str.ofString "before") = some bv) (m (Str.ofString "fresh") = some (.ref fb)) (DTabIn pg w l du (baseT ns))) ?_ ?_
  · intro Z hZ
    all_goals (try k_fold)
    refine' for_list F1 rfl rfl rfl ?h
    k_steps
    refine ⟨nb, its.toArray, k, l, m, fun i m₁ l₁ => CellsX xs l₁ L (some (.ref tp)) (some (.ref du)) (some (.int go tg)) (some (.int (my : Nat) tm)) (some (.int tu tt)) ∧ Std pg w l₁ d0 nb its k bn sh tr ta (baseT ns) bv D ∧ Fsh pg w l₁ d0 fb fs ft ftr T3 ∧ m₁ (Str.ofString "numbers") = some (.ref nb) ∧ m₁ (Str.ofString "beyond") = some (.int (1 + (by' : Nat)) tb) ∧ m₁ (Str.ofString "bench") = some (.ref bn) ∧ m₁ (Str.ofString "before") = some bv ∧ m₁ (Str.ofString "fresh") = some (.ref fb) ∧ DTabIn pg w l₁ du (baseT (ns.take i)), rfl, ⟨F1, N1, hst.1⟩, ⟨hc, hst, hfs, hnb, hbe, hbn, hbv, hfr, hdu⟩, fun g => ?turn, ?done⟩
    case turn =>
      clear F1 N1 hc hst hfs hnb hbe hbn hbv hfr hdu m1 m2 m3 m4 m5 mx d1 d2 d3 d4 d5
      rintro i v m₁ l₁ I oI h tk hlt hP ⟨hc, hst, hfs, hnb, hbe, hbn, hbv, hfr, hdu⟩ hS off hoF F5 N5
      obtain ⟨n, t, rfl, hni⟩ := ints_at hi hP
      have hz : (baseT (ns.take i)).length < 64 := Nat.lt_of_le_of_lt baseT_len (by rw [List.length_take]; omega)
      with_reducible refine CellsX.opn hc fun c1 m1 d1 c2 m2 d2 c3 m3 d3 c4 m4 d4 c5 m5 d5 mx => ?_
      k_steps
      rename Fr g0 _ _ _ => F6
      rename News g0 _ _ _ => N6
      rename SubI du _ _ => S6
      rename DTabIn _ _ _ _ (tset _ _ _) => T6
      rw [← baseT_snoc, ← take_snoc hni] at T6
      exact .go du F6 N6 off hoF ((Sub.i sub3).trans S6) fun l' e5 f5 => ⟨e5 _ hS (.inr notInt_list), hc.subI e5, hst.subI hD e5 hne1, hfs.subI e5 hne2, hnb, hbe, hbn, hbv, hfr, T6.subF f5⟩
    case done =>
      clear F1 N1 hc hst hfs hnb hbe hbn hbv hfr hdu m1 m2 m3 m4 m5 mx
      rintro h' tk m' l4 F5 N5 hS ⟨hc, hst, hfs, hnb, hbe, hbn, hbv, hfr, hdu⟩
      rw [List.size_toArray, hi.length, List.take_length] at hdu
      exact ⟨rfl, hZ _ _ _ (At.mk F5 N5 rfl rfl) ⟨hc, hst, hfs, hnb, hbe, hbn, hbv, hfr, hdu⟩⟩
  clear F1 N1 hc hst hfs hnb hbe hbn hbv hfr hdu m1 m2 m3 m4 m5 mx d1 d2 d3 d4 d5
  rintro m l h tk dr F1 N1 ⟨hc, hst, hfs, hnb, hbe, hbn, hbv, hfr, hdu⟩
  with_reducible refine exec_cut (s1 := s1) (g0 := g0) (L := L) (fun m l => C10 (CellsX xs l L (some (.ref tp)) (some (.ref du)) (some (.int go tg)) (some (.int (my : Nat) tm)) (some (.int tu tt))) (Std pg w l d0 nb its k bn sh tr ta (baseT ns) bv D) (Fsh pg w l d0 fb fs ft ftr T3) (m (Str.ofString "numbers") = some (.ref nb)) (m (Str.ofString "beyond") = some (.int (1 + (by' : Nat)) tb)) (m (Str.ofString "bench") = some (.ref bn)) (m (Str.ofString "before") = some bv) (m (Str.ofString "fresh") = some (.ref fb)) (DTabIn pg w l du (baseT ns)) (m (Str.ofString "place") = some (.int (1 + (by' : Nat)) tb))) ?_ ?_
  · intro Z hZ
    all_goals (try k_fold)
    k_steps
    rename Fr g0 L _ _ => F9
    rename News g0 L _ _ => N9
    exact ⟨rfl, hZ _ _ _ (At.mk F9 N9 rfl rfl) ⟨hc, hst, hfs, hnb, hbe, hbn, hbv, hfr, hdu, rfl⟩⟩
  clear F1 N1 hc hst hfs hnb hbe hbn hbv hfr hdu
  rintro m l h tk dr F1 N1 ⟨hc, hst, hfs, hnb, hbe, hbn, hbv, hfr, hdu, hpl⟩
  with_reducible refine CellsX.opn hc fun c1 m1 d1 c2 m2 d2 c3 m3 d3 c4 m4 d4 c5 m5 d5 mx => ?_
  have hbl7 : (baseT ns).length ≤ 7 := by have := baseT_len (ns := ns); omega
  with_reducible refine exec_cut (s1 := s1) (g0 := g0) (L := L) (fun m l => C9 (CellsX xs l L (some (.ref tp)) (some (.ref du)) (some (.int go tg)) (some (.int (my : Nat) tm)) (some (.int tu tt))) (Std pg w l d0 nb its k bn sh tr ta (baseT ns) bv D) (Fsh pg w l d0 fb fs ft ftr T3) (m (Str.ofString "numbers") = some (.ref nb)) (m (Str.ofString "beyond") = some (.int (1 + (by' : Nat)) tb)) (m (Str.ofString "bench") = some (.ref bn)) (m (Str.ofString "before") = some bv) (m (Str.ofString "fresh") = some (.ref fb)) (DTabIn pg w l du (adds (baseT ns) (1 + (by' : Int)) my))) ?_ ?_
  · intro Z hZ
    all_goals (try k_fold)
    refine' for_range F1 rfl rfl rfl ?h
    k_steps
    rename IsRange _ _ _ _ _ _ _ _ => R4
    rename Fr g0 _ _ _ => F4
    rename News g0 _ _ _ => N4
    refine ⟨_, 0, my, 1, _, _, _, my, l, _, fun i m₁ l₁ => CellsX xs l₁ L (some (.ref tp)) (some (.ref du)) (some (.int go tg)) (some (.int (my : Nat) tm)) (some (.int tu tt)) ∧ Std pg w l₁ d0 nb its k bn sh tr ta (baseT ns) bv D ∧ Fsh pg w l₁ d0 fb fs ft ftr T3 ∧ m₁ (Str.ofString "numbers") = some (.ref nb) ∧ m₁ (Str.ofString "beyond") = some (.int (1 + (by' : Nat)) tb) ∧ m₁ (Str.ofString "bench") = some (.ref bn) ∧ m₁ (Str.ofString "before") = some bv ∧ m₁ (Str.ofString "fresh") = some (.ref fb) ∧ DTabIn pg w l₁ du (adds (baseT ns) (1 + (by' : Int)) i) ∧ ∃ k t, m₁ (Str.ofString "place") = some (.int k t) ∧ 1 + (by' : Int) ≤ k ∧ k ≤ free (adds (baseT ns) (1 + (by' : Int)) i) (1 + (by' : Int)), rfl, ⟨R4, small_one (by omega) (by omega) (by omega) (by omega), by rw [rangeSize_nat]; omega, F4, N4⟩, ⟨hc, hst, hfs, hnb, hbe, hbn, hbv, hfr, hdu, _, _, hpl, Int.le_refl _, free_ge⟩, fun g => ?turn, ?done⟩
    case turn =>
      clear F4 N4 R4 hpl hc hst hfs hnb hbe hbn hbv hfr hdu m1 m2 m3 m4 m5 mx d1 d2 d3 d4 d5
      rintro i v m₁ l₁ I oI h tk hi ⟨t, hv⟩ ⟨hc, hst, hfs, hnb, hbe, hbn, hbv, hfr, hdu, k0, t0, hpl, hk1, hk2⟩ _ off hoF F3 N3
      simp only [Int.mul_one, Int.zero_add] at hv
      subst hv
      with_reducible refine CellsX.opn hc fun c1 m1 d1 c2 m2 d2 c3 m3 d3 c4 m4 d4 c5 m5 d5 mx => ?_
      have hzz : (adds (baseT ns) (1 + (by' : Int)) i).length < 64 := Nat.lt_of_le_of_lt adds_len (by omega)
      have hstep := free_step (T := adds (baseT ns) (1 + (by' : Int)) i) (b := 1 + (by' : Int)) (e := ⟨0, .lst (100 + (i : Int))⟩)
      have hff := free_none (T := adds (baseT ns) (1 + (by' : Int)) i) (b := 1 + (by' : Int))
      have hfj := free_least (T := adds (baseT ns) (1 + (by' : Int)) i) (b := 1 + (by' : Int))
      have hadd : adds (baseT ns) (1 + (by' : Int)) (i + 1) = tset (adds (baseT ns) (1 + (by' : Int)) i) (free (adds (baseT ns) (1 + (by' : Int)) i) (1 + (by' : Int))) ⟨0, .lst (100 + (i : Int))⟩ := rfl
      generalize adds (baseT ns) (1 + (by' : Int)) i = Ti at *
      generalize free Ti (1 + (by' : Int)) = f at *
      k_steps
      refine While_inv (fun n m₂ l₂ => l₂ = (I, oI) :: l₁ ∧ (∀ y, y ≠ Str.ofString "place" → m₂ y = if y = Str.ofString "spot" then some (.int (i : Int) t) else m₁ y) ∧ ∃ k t, m₂ (Str.ofString "place") = some (.int k t) ∧ 1 + (by' : Int) ≤ k ∧ k ≤ f ∧ n = (f - k).toNat) F3 N3 ⟨rfl, fun _ _ => rfl, k0, t0, hpl, hk1, hk2, rfl⟩ ?_
      clear F3 N3
      rintro n m₂ l₂ h₂ tk₂ F3 N3 ⟨rfl, hm2, kk, tk3, hpl2, hk3, hk4, rfl⟩
      have hsp : m₂ (Str.ofString "spot") = some (.int (i : Int) t) := (hm2 _ (by decide)).trans rfl
      by_cases hkk : kk = f
      · subst hkk
        k_steps
        rename Fr g0 _ _ _ => F6
        rename News g0 _ _ _ => N6
        rename SubI du _ _ => S6
        rename DTabIn _ _ _ _ (tset _ _ _) => T6
        rw [← hadd] at T6 hstep
        have hm3 : ∀ {y : Str} {v : Option Value}, y ≠ Str.ofString "place" → y ≠ Str.ofString "spot" → m₁ y = v → m₂ y = v := fun p q e => (hm2 _ p).trans ((if_neg q).trans e)
        exact .go du F6 N6 off hoF ((Sub.i sub3).trans S6) fun l' e5 f5 => ⟨trivial, hc.subI e5, hst.subI hD e5 hne1, hfs.subI e5 hne2, hm3 (by decide) (by decide) hnb, hm3 (by decide) (by decide) hbe, hm3 (by decide) (by decide) hbn, hm3 (by decide) (by decide) hbv, hm3 (by decide) (by decide) hfr, T6.subF f5, kk, tk3, hpl2, hk3, hstep⟩
      · obtain ⟨e, he⟩ := Option.ne_none_iff_exists'.mp (hfj kk hk3 (by omega))
        k_steps
        rename Fr g0 _ _ _ => F6
        rename News g0 _ _ _ => N6
        exact .intro F6 N6 (n' := (f - (kk + 1)).toNat) (by omega) ⟨rfl, fun y hy => (if_neg hy).trans (hm2 y hy), kk + 1, _, rfl, by omega, by omega, rfl⟩
    case done =>
      clear F4 N4 R4 hpl hc hst hfs hnb hbe hbn hbv hfr hdu m1 m2 m3 m4 m5 mx d1 d2 d3 d4 d5
      rintro h' tk m' l4 F5 N5 ⟨hc, hst, hfs, hnb, hbe, hbn, hbv, hfr, hdu, _⟩
      exact ⟨rfl, hZ _ _ _ (At.mk F5 N5 rfl rfl) ⟨hc, hst, hfs, hnb, hbe, hbn, hbv, hfr, hdu⟩⟩
  clear F1 N1 hc hst hfs hnb hbe hbn hbv hfr hdu hpl m1 m2 m3 m4 m5 mx d1 d2 d3 d4 d5
  rintro m l h tk dr F1 N1 ⟨hc, hst, hfs, hnb, hbe, hbn, hbv, hfr, hdu⟩
  with_reducible refine CellsX.opn hc fun c1 m1 d1 c2 m2 d2 c3 m3 d3 c4 m4 d4 c5 m5 d5 mx => ?_
  have hTl : (adds (baseT ns) (1 + (by' : Int)) my).length ≤ 20 := by have := adds_len (T := baseT ns) (b := 1 + (by' : Int)) (k := my); omega
  with_reducible refine exec_cut (s1 := s1) (g0 := g0) (L := L) (fun m l => C9 (CellsX xs l L (some (.ref tp)) (some (.ref du)) (some (.int go tg)) (some (.int (my : Nat) tm)) (some (.int tu tt))) (Std pg w l d0 nb its k bn sh tr ta (baseT ns) bv D) (Fsh pg w l d0 fb fs ft ftr T3) (m (Str.ofString "numbers") = some (.ref nb)) (m (Str.ofString "beyond") = some (.int (1 + (by' : Nat)) tb)) (m (Str.ofString "bench") = some (.ref bn)) (m (Str.ofString "before") = some bv) (m (Str.ofString "fresh") = some (.ref fb)) (DTabIn pg w l du (if 0 < tu then tset (adds (baseT ns) (1 + (by' : Int)) my) tu ⟨5, .lst 0⟩ else adds (baseT ns) (1 + (by' : Int)) my))) ?_ ?_
  · intro Z hZ
    all_goals (try k_fold)
    have hz : (adds (baseT ns) (1 + (by' : Int)) my).length < 64 := by omega
    rcases htu with rfl | htu
    · k_steps
      exact ⟨rfl, hZ _ _ _ (At.mk F1 N1 rfl rfl) ⟨hc, hst, hfs, hnb, hbe, hbn, hbv, hfr, hdu⟩⟩
    · have tu0 : 0 < tu := by have := hbd _ htu; omega
      k_steps
      rename Fr g0 _ _ _ => F6
      rename News g0 _ _ _ => N6
      rename SubI du _ _ => S6
      rename DTabIn _ _ _ _ (tset _ _ _) => T6
      have e5 := (Sub.i (a := du) sub3).trans S6
      exact ⟨rfl, hZ _ _ _ (At.mk F6 N6 rfl rfl) ⟨hc.subI e5, hst.subI hD e5 hne1, hfs.subI e5 hne2, hnb, hbe, hbn, hbv, hfr, by rw [if_pos tu0]; exact T6⟩⟩
  clear F1 N1 hc hst hfs hnb hbe hbn hbv hfr hdu m1 m2 m3 m4 m5 mx d1 d2 d3 d4 d5
  rintro m l h tk dr F1 N1 ⟨hc, hst, hfs, hnb, hbe, hbn, hbv, hfr, hdu⟩
  with_reducible refine CellsX.opn hc fun c1 m1 d1 c2 m2 d2 c3 m3 d3 c4 m4 d4 c5 m5 d5 mx => ?_
  with_reducible refine exec_cut (s1 := s1) (g0 := g0) (L := L) (fun m l => C9 (CellsX xs l L (some (.ref tp)) (some (.ref du)) (some (.int go tg)) (some (.int (my : Nat) tm)) (some (.int tu tt))) (Std pg w l d0 nb its k bn sh tr ta (baseT ns) bv D) (Fsh pg w l d0 fb fs ft ftr T3) (m (Str.ofString "numbers") = some (.ref nb)) (m (Str.ofString "beyond") = some (.int (1 + (by' : Nat)) tb)) (m (Str.ofString "bench") = some (.ref bn)) (m (Str.ofString "before") = some bv) (m (Str.ofString "fresh") = some (.ref fb)) (DTabIn pg w l du (turnT (adds (baseT ns) (1 + (by' : Int)) my) tu go))) ?_ ?_
  · intro Z hZ
    all_goals (try k_fold)
    have hlm : 0 < go → ∃ e, look (if 0 < tu then tset (adds (baseT ns) (1 + (by' : Int)) my) tu ⟨5, .lst 0⟩ else adds (baseT ns) (1 + (by' : Int)) my) go = some e := fun h => Option.ne_none_iff_exists'.mp (by
      have z := adds_keep (b := 1 + (by' : Int)) (k := my) (hgo1 h)
      split
      · rw [look_tset]
        split
        · simp
        · exact z
      · exact z)
    have hTm : (if 0 < tu then tset (adds (baseT ns) (1 + (by' : Int)) my) tu ⟨5, .lst 0⟩ else adds (baseT ns) (1 + (by' : Int)) my).length < 64 := by
      split
      · exact Nat.lt_of_le_of_lt tset_len (by omega)
      · omega
    have htt : turnT (adds (baseT ns) (1 + (by' : Int)) my) tu go = if 0 < go then tdel (if 0 < tu then tset (adds (baseT ns) (1 + (by' : Int)) my) tu ⟨5, .lst 0⟩ else adds (baseT ns) (1 + (by' : Int)) my) go else (if 0 < tu then tset (adds (baseT ns) (1 + (by' : Int)) my) tu ⟨5, .lst 0⟩ else adds (baseT ns) (1 + (by' : Int)) my) := rfl
    obtain ⟨Tm, hTmE⟩ : ∃ Tm, Tm = (if 0 < tu then tset (adds (baseT ns) (1 + (by' : Int)) my) tu ⟨5, .lst 0⟩ else adds (baseT ns) (1 + (by' : Int)) my) := ⟨_, rfl⟩
    rw [← hTmE] at hlm hTm htt hdu
    clear hTmE
    rcases hgo with rfl | hgo
    · k_steps
      exact ⟨rfl, hZ _ _ _ (At.mk F1 N1 rfl rfl) ⟨hc, hst, hfs, hnb, hbe, hbn, hbv, hfr, by rw [htt]; exact hdu⟩⟩
    · have go0 : 0 < go := by have := hbd _ hgo; omega
      obtain ⟨e, he⟩ := hlm go0
      k_steps
      rename Fr g0 _ _ _ => F6
      rename News g0 _ _ _ => N6
      rename SubI du _ _ => S6
      rename DTabIn _ _ _ _ (tdel _ _) => T6
      exact ⟨rfl, hZ _ _ _ (At.mk F6 N6 rfl rfl) ⟨hc.subI S6, hst.subI hD S6 hne1, hfs.subI S6 hne2, hnb, hbe, hbn, hbv, hfr, by rw [htt, if_pos go0]; exact T6⟩⟩
  clear F1 N1 hc hst hfs hnb hbe hbn hbv hfr hdu m1 m2 m3 m4 m5 mx d1 d2 d3 d4 d5
  rintro m l h tk dr F1 N1 ⟨hc, hst, hfs, hnb, hbe, hbn, hbv, hfr, hdu⟩
  with_reducible refine CellsX.opn hc fun c1 m1 d1 c2 m2 d2 c3 m3 d3 c4 m4 d4 c5 m5 d5 mx => ?_
  have hTfl : (turnT (adds (baseT ns) (1 + (by' : Int)) my) tu go).length < 64 := by have := turnT_len (T := adds (baseT ns) (1 + (by' : Int)) my) (tu := tu) (go := go); omega
  obtain ⟨Tf, hTf⟩ : ∃ Tf, Tf = turnT (adds (baseT ns) (1 + (by' : Int)) my) tu go := ⟨_, rfl⟩
  rw [← hTf] at hdu hTfl
  replace hlk : ∀ j, look T3 j = look Tf j := fun j => (hlk j).trans (by rw [hTf])
  with_reducible refine exec_cut (s1 := s1) (g0 := g0) (L := L) (fun m l => Ex2 fun (rv : Addr) (kf : List Int) => C12 (CellsX xs l L (some (.ref tp)) (some (.ref du)) (some (.int go tg)) (some (.int (my : Nat) tm)) (some (.int tu tt))) (Std pg w l d0 nb its k bn sh tr ta (baseT ns) bv D) (Fsh pg w l d0 fb fs ft ftr T3) (m (Str.ofString "bench") = some (.ref bn)) (m (Str.ofString "before") = some bv) (m (Str.ofString "fresh") = some (.ref fb)) (m (Str.ofString "rows") = some (.ref rv)) (DatIn l (.ref rv) (.tuple (kf.map (rowOf Tf)))) (kf.Perm (Tf.map (·.1))) (kf.Pairwise (· ≤ ·)) (TNodup Tf) (m (Str.ofString "beyond") = some (.int (1 + (by' : Nat)) tb))) ?_ ?_
  · intro Z hZ
    all_goals (try k_fold)
    have hnd := hdu.nodup
    obtain ⟨⟨od, kvs, hdm, hdo, hes⟩, hdlo⟩ := id hdu
    have hlen : kvs.length < 64 := by rw [hes.length]; exact hTfl
    k_steps
    refine' listComp_H F1 ?hclos ?hcell ?hkind ?hnames ?hx ?h ?hs
    case hclos => with_unfolding_all rfl
    case hcell => decide
    case hkind => with_unfolding_all rfl
    case hnames => decide
    case hx => with_unfolding_all rfl
    case hs => intro _; with_unfolding_all rfl
    k_steps
    rename_i D1 h2 tk2 e1 vs kf hi1 hp1 hs1 F3 N3 q1
    refine ⟨D1, vs.toArray, e1, _, fun i ys l' => Sub ((D1, W.listOf vs.toArray e1) :: l) l' ∧ DatAll l' ys ((kf.map (rowOf Tf)).take i), rfl, ⟨F3, N3, .head _, HIn.none, by rw [List.size_toArray, hi1.length, hp1.length_eq, List.length_map]; exact fits64 hlen⟩, ⟨Sub.rfl', .nil⟩, fun g => ?turn, ?done⟩
    case turn =>
      clear F3 N3
      intro i v ys l1 I oI C oC D2 m₂ h3 tk3 E' hP hJ hS hC hx F4 N4
      obtain ⟨e, hJ⟩ := hJ
      obtain ⟨n, t, tup, tg, en, x, kk, rfl, hni, hlk2, hva, htup, hval⟩ := drow_open hes hi1 hp1 hP
      have m2' := e _ (.tail _ m2)
      have hdm' := e _ (.tail _ hdm)
      have htup' := e _ (.tail _ htup)
      k_steps
      rename_i D9 h9 F9 N9 q9
      refine turn_own F9 N9 Sub.one fun l' nn own => ⟨e.trans nn, ?_⟩
      rw [take_row hni hlk2]
      refine datAll_snoc (.tuple (own _ (.head _) fun q hq => ?_) (.cons (.int _ _) (.cons (.int _ _) (.cons (DatIn.mono (fun p hp => nn _ (e _ (.tail _ hp))) hval) .nil)))) (DatAll.mono nn hJ)
      rcases List.mem_cons.mp hq with rfl | hq
      · exact Nat.ne_of_lt q9.1
      rcases List.mem_cons.mp hq with rfl | hq
      · exact Nat.ne_of_lt q9.2.1
      rcases List.mem_cons.mp hq with rfl | hq
      · exact Nat.ne_of_lt q9.2.2.1
      exact Nat.ne_of_lt (lt_of_all q9.2.2.2 _ hq)
    case done =>
      clear F3 N3
      intro D2 h3 tk3 ys l' hJ F4 N4 l2
      obtain ⟨e, hJ⟩ := hJ
      have hy : ys.length < 64 := by
        have z1 := datAll_len hJ
        have z2 := hi1.length
        have z3 := hp1.length_eq
        simp only [List.length_take, List.length_map, List.size_toArray] at z1 z3
        omega
      k_steps
      rename_i D9 _ q9 _ F9 N9
      rw [List.take_of_length_le (by simp only [List.length_map, List.size_toArray, hi1.length]; omega)] at hJ
      have S9 : Sub l ((D9, tupOf ys 0) :: (D2, LCg.lst ys) :: l') := fun p hp => .tail _ (.tail _ (e _ (.tail _ hp)))
      exact ⟨rfl, hZ _ _ _ (At.mk F9 N9 rfl rfl) ⟨D9, kf, hc.sub S9, hst.sub S9, hfs.sub S9, hbn, hbv, hfr, rfl, .tuple (.head _) (DatAll.mono (fun p hp => .tail _ (.tail _ hp)) hJ), by rw [← hes.keys]; exact hp1, hs1, hnd, hbe⟩⟩
  clear F1 N1 hc hst hfs hnb hbe hbn hbv hfr hdu m1 m2 m3 m4 m5 mx d1 d2 d3 d4 d5
  rintro m l h tk dr F1 N1 ⟨rv, kf, hc, hst, hfs, hbn, hbv, hfr, hrv, hrD, hkp, hks2, hnd, hbe⟩
  with_reducible refine exec_cut (s1 := s1) (g0 := g0) (L := L) (fun m l => C5 (CellsX xs l L (some (.ref tp)) (some (.ref du)) (some (.int go tg)) (some (.int (my : Nat) tm)) (some (.int tu tt))) (Std pg w l d0 nb its k bn sh tr ta (baseT ns) bv D) (m (Str.ofString "bench") = some (.ref bn)) (m (Str.ofString "before") = some bv) (m (Str.ofString "beyond") = some (.int (1 + (by' : Nat)) tb))) ?_ ?_
  · intro Z hZ
    all_goals (try k_fold)
    obtain ⟨hN, hb, hs, hT, hDa⟩ := id hst
    obtain ⟨hfb, hfsh, hfT⟩ := id hfs
    have hT3l : T3.length < 64 := by rw [← hT3]; exact Nat.lt_of_le_of_lt dropT_len (by omega)
    obtain ⟨ba, r0, t0, kb, rfl, mba, hr0, ht0⟩ := told_open (by rw [hDe]; exact hDa)
    with_reducible refine BenchIn.opn hb fun db h1 t1 t0' h2 t2 h3 t3 nn hb1 hb2 => ?_
    with_reducible refine ShelfIn.opn hs fun ds u1 u2 u3 u4 n2 hi1 hi2 otr rf htr hot lotr hrf => ?_
    with_reducible refine BenchIn.opn hfb fun db' h1' t1' t0'' h2' t2' h3' t3' nn' hb1' hb2' => ?_
    with_reducible refine ShelfIn.opn hfsh fun ds' u1' u2' u3' u4' n2' hi1' hi2' otr' rf' htr' hot' lotr' hrf' => ?_
    iterate 11 walk1
    rename NewDat _ _ _ _ => N9
    rename List.Perm _ _ => P9
    rename List.Pairwise _ (_ : List Int) => O9
    have S9 := N9.1
    have hD1 := N9.dat
    obtain ⟨ra, ra0, rat, rak, rfl, mra, _, _⟩ := told_open hD1
    have E9 := keys_uniq hlk P9 hkp O9 hks2 hfT.nodup hnd
    have mba' := S9 _ mba
    have hrD' := DatIn.mono S9 hrD
    have ht0' := DatIn.mono S9 ht0
    have q1 := S9 _ hb1
    have q2 := S9 _ hb2
    have q3 := S9 _ hi1
    have q4 := S9 _ hi2
    have q5 := S9 _ hb1'
    have q6 := S9 _ hb2'
    have q7 := hs.sub S9
    have q8 := hT.sub S9
    have q9 := hb.sub S9
    have q10 := hfb.sub S9
    have hc9 := hc.sub S9
    have hst9 := hst.sub S9
    clear hb1 hb2 hi1 hi2 hb1' hb2' hi1' hi2' hs hT hb hfb hfsh hfT hfs hot lotr hrf hot' lotr' hrf' htr htr' ht0 hr0 hrD mba hc hst hN hDa N9
    k_steps
    rename Fr g0 L _ _ => F5
    rename News g0 L _ _ => N5
    refine ne_dat N5 hD1 Sub.one (by rw [toldDat, E9.2]; exact .tuple (.head _) (.cons (DatIn.mono (fun p hp => .tail _ hp) hrD') (.cons (DatIn.mono (fun p hp => .tail _ hp) ht0') .nil))) Sub.rfl' (told_ok _ _) (by show un + 64 < _; omega) ?_
    k_steps
    rename NewDat _ _ _ _ => N10
    rename List.Perm _ (List.map _ (baseT ns)) => P10
    rename List.Pairwise _ (_ : List Int) => O10
    rename Fr g0 L _ _ => F6
    rename News g0 L _ _ => N6
    have S10 := (Sub.one).trans N10.1
    have hD10 := N10.dat
    rw [(told_uniq (fun _ => rfl) P10 hks O10 hkso q8.nodup q8.nodup).trans hDe] at hD10
    refine ne_dat N6 hD10 Sub.rfl' hst9.2.2.2.2 S10 (by rw [← hDe]; exact told_ok _ _) (by show un + 64 < _; omega) ?_
    have z5 := S10 _ q5
    have z6 := S10 _ q6
    have z10 := q10.sub S10
    have hc10 := hc9.sub S10
    have hst10 := hst9.sub S10
    clear q1 q2 q3 q4 q5 q6 q7 q9 q10 hc9 hst9 mba' hrD' ht0' hD1 mra N10 hD10 S9 S10
    subst hd0
    k_steps
    exact ⟨rfl, hZ _ _ _ (At.mk F6 N6 rfl rfl) ⟨hc10, hst10, hbn, hbv, hbe⟩⟩
  clear F1 N1 hc hst hfs hbn hbv hfr hrv hrD hbe
  rintro m l h tk dr F1 N1 ⟨hc, hst, hbn, hbv, hbe⟩
  with_reducible refine CellsX.opn hc fun c1 m1 d1 c2 m2 d2 c3 m3 d3 c4 m4 d4 c5 m5 d5 mx => ?_
  · all_goals (try k_fold)
    have hcd0 := hcd.out
    refine wpAny_execs_cons (wpAny_Try_except ?_)
    k_steps
    refine kla_eval rfl ?_
    refine lam_M F1 N1 T0 hcd0 rfl mx hxs (hxs3 _ (by decide)) rfl fun ch c' oc ctv h2 tk2 l2 F2 N2 mf mc hco mt S2 => ?_
    have SF := subF_tab N1 mx hxs2 S2
    have hc2 := hc.tab S2 mt l0
    have hst2 := hst.subF hD SF
    clear N1 F1 hc m1 m2 m3 m4 m5 d1 d2 d3 d4 d5 mx hst SF S2 hcd0
    obtain ⟨vs, t1, hd1, hv1⟩ := id hco
    generalize hfo : kla_obj _ _ _ _ _ _ _ _ _ = fo at mf
    have hT1l : (fillT (baseT ns) (gapsN (baseT ns) by')).length ≤ 30 := by
      have a1 := fillT_len (gs := gapsN (baseT ns) by') (T := baseT ns)
      have a2 := gapsN_len (T := baseT ns) (n := by')
      have a3 := baseT_len (ns := ns)
      omega
    have hch : ChangeOK pg topProg w mean mg mb lo ch (fun l' => (ch, fo) ∈ l' ∧ (c', oc) ∈ l') (fillT (baseT ns) (gapsN (baseT ns) by')) (tdel (fillT (baseT ns) (gapsN (baseT ns) by')) 1) := by
      clear hst2 hc2 N2 F2 mc mt hbe hbn hbv
      intro A₀ base h₀ outer env L' m' news s Q E dp' un' gd' B F X N T hf hk hd hu ⟨l₀, ⟨p1, p2⟩, e⟩ sh' tb' tr' hs ht ret
      rw [← hfo] at p1
      replace p1 := e _ p1 notInt_func notF_func
      replace p2 := e _ p2 (notInt_code hco) (notF_code hco)
      clear e
      with_reducible refine ShelfIn.opn1 hs fun ds g1 u1 g2 u2 kk hi1 hi2 => ?_
      have hz : (fillT (baseT ns) (gapsN (baseT ns) by')).length < 64 := by omega
      refine wpAny_call ?_
      refine kla_code (binds := [(Str.ofString "shelf", .ref sh')]) B F X N T rfl hf hk p1 (codeRec_news N p2 hd1 hv1) (by show dp' < _; omega) rfl (locs rfl) ?_ rfl rfl rfl (by decide)
      intro g' L'' h'' FG' F' N' B' X' T'
      all_goals (try dsimp only)
      all_goals (try k_fold)
      clear p1 p2 mf
      k_steps
      rename SubI tb' news _ => S9
      rename TabIn _ _ _ tb' (tdel _ _) => T9
      exact ret _ _ _ _ (by k_asm) (by k_asm) S9 T9
    rw [← hfo] at mf hch
    obtain ⟨hN, hb, hs, hT, hDa⟩ := id hst2
    have hg1 : (1 : Int) ∉ gapsN (baseT ns) by' := fun q => by
      have := (mem_gaps.mp q).2.2
      rw [hb1] at this
      cases this
    have hr0 : look (dropT (tdel (fillT (baseT ns) (gapsN (baseT ns) by')) 1) (gapsN (baseT ns) by')) 1 = none := by
      rw [look_dropT, if_neg hg1, look_tdel, if_pos rfl]
    k_steps
    refine grown_both B0 F2 X0 N2 T0 rfl rfl (by omega) (by omega) hb hs hT (by have := baseT_len (ns := ns); omega) (by omega) mf ⟨l2, ⟨mf, mc⟩, Sub.rfl'.p⟩ hch (Nat.lt_of_le_of_lt tdel_len (by omega)) (.inr hr0) (fun hn => by rw [hr0] at hn; cases hn) (fun _ e3 g3 h3 tk3 F3 U3 R3 => ?_)
    refine caught_F X0 F3 U3 R3 rfl rfl (fun h' E₁ F4 N4 => ?_) (fun h4 oe vs4 tk4 F4 N4 hv4 hv42 => ?_)
    · k_steps
    · have hH : HIn (some (.ref e3)) ((e3, oe) :: l2) := .inr ⟨e3, oe, vs4, rfl, .head _, hv4, hv42⟩
      have q7 := hs.sub (Sub.one (a := e3) (o := oe))
      have q8 := hT.sub (Sub.one (a := e3) (o := oe))
      with_reducible refine BenchIn.opn hb fun db h1 t1' t0' h2' t2' h3' t3' nn hb1' hb2' => ?_
      with_reducible refine ShelfIn.opn1 hs fun ds u1 u2 u3 u4 n2 hi1 hi2 => ?_
      clear hch mf F2 N2 R3 U3 F3 hs hT mc
      k_steps
      rename NewDat _ _ _ _ => N10
      rename List.Perm _ (List.map _ (baseT ns)) => P10
      rename List.Pairwise _ (_ : List Int) => O10
      rename Fr g0 L _ _ => F6
      rename News g0 L _ _ => N6
      have hD10 := N10.dat
      rw [(told_uniq (fun _ => rfl) P10 hks O10 hkso q8.nodup q8.nodup).trans hDe] at hD10
      refine eq_dat N6 hD10 Sub.rfl' hDa (Sub.one.trans N10.1) (by rw [← hDe]; exact told_ok _ _) (by show un + 64 < _; omega) ?_
      exact ⟨rfl, hZf _ _ _ (At.mk F6 N6 rfl rfl) ⟨_, N10.1 _ (.tail _ hc2.2.2.2.2.2)⟩⟩
end
end Mine
theorem PySem.Challenge.cw_og0170_01_holds : PySem.Challenge.rw_og0170_01.Holds := by
  exact Mine.law1
