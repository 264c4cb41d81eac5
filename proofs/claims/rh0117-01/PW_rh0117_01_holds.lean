import PyProof.Rows.All
import Wide.All
import OpenK.AllK
import Wide.FinOn
import PySem.Challenge.RW_rh0117_01
open PySem PySem.Spec PySem.Calls PySem.W PyProof.Rows
set_option Elab.async false
set_option maxRecDepth 100000
set_option maxHeartbeats 80000000
set_option linter.unusedVariables false
set_option genSizeOf false
set_option compiler.extract_closed false
namespace Mine
def topRunT (tb : String → Option Builtin) (p : Program) (w : World) (n₀ : Nat) (ann : Option Value) : Nat → SharedT → Thread → Option SharedT
  | 0, _, _ => none
  | n + 1, s, t => match through t with
    | true => some s
    | false => match stepOk n₀ ann t with
      | false => none
      | true => match stepT (denote tb) p w s t with
        | some (s', t') => topRunT tb p w n₀ ann n s' t'
        | none => none
theorem topRunT_of {tb : String → Option Builtin} {p : Program} {w : World} {n₀ : Nat} {ann : Option Value} : ∀ {n : Nat} {s r : SharedT} {t : Thread}, topRunT tb p w n₀ ann n s t = some r → topRun tb p w n₀ ann n s.abs t = some r.abs
  | 0, _, _, _, h => by cases h
  | n + 1, s, r, t, h => by
    unfold topRunT at h
    unfold topRun
    cases he : through t with
    | true => rw [he] at h; cases h; rfl
    | false =>
      rw [he] at h
      cases hk : stepOk n₀ ann t with
      | false => rw [hk] at h; cases h
      | true =>
        rw [hk] at h
        cases hs : stepT (denote tb) p w s t with
        | none => rw [hs] at h; cases h
        | some x => obtain ⟨s₂, t₂⟩ := x; rw [hs] at h; dsimp only; rw [stepT_spec hs]; exact topRunT_of h
noncomputable def topRunQ (tb : String → Option Builtin) (p : Program) (w : World) (n₀ : Nat) (ann : Option Value) : Nat → SharedT → Thread → Option SharedT
  | 0, _, _ => none
  | n + 1, s, t => match through t with
    | true => some s
    | false => match PySem.W.Fast.tw6613529449190102663 n₀ ann t with
      | false => none
      | true => match PySem.W.Fast.tw10156331382660048174 (PySem.W.Fast.tw11892475500146522536 tb) p w s t with
        | some (s', t') => topRunQ tb p w n₀ ann n s' t'
        | none => none
theorem topRunQ_eq {tb : String → Option Builtin} {p : Program} {w : World} {n₀ : Nat} {ann : Option Value} : ∀ {n : Nat} {s : SharedT} {t : Thread}, topRunT tb p w n₀ ann n s t = topRunQ tb p w n₀ ann n s t
  | 0, _, _ => rfl
  | n + 1, s, t => by
    unfold topRunT topRunQ
    rw [← PySem.W.Fast.te6613529449190102663, ← PySem.W.Fast.te10156331382660048174, ← PySem.W.Fast.te11892475500146522536]
    cases through t with
    | true => rfl
    | false =>
      cases stepOk n₀ ann t with
      | false => rfl
      | true =>
        cases stepT (denote tb) p w s t with
        | none => rfl
        | some x => obtain ⟨s', t'⟩ := x; exact topRunQ_eq
local macro_rules | `(tactic| o_head $_) => `(tactic| assumption)
def treeOf : Nat → BT → List Obj → BT
  | _, t, [] => t
  | i, t, o :: l => treeOf (i + 1) (t.ins i o) l
theorem left_tree {p q : Program} {loose : List Str} {Xt : Shared → Bool} {α : Type} {Yf : Shared → α} {Ya : World → α} {N : Nat} {g0 : Bool} {T : Params → BT} {n : Nat} {life : Life} {M : Nat}
    (e : opening p = plainProg p.main.scope.names) (hN : Nat.ble 600 N = true) (f : ∀ s, fenceModules? p s = some s) (ht : ∀ P, absHeap (T P) n life = boot_heap P) (size : ∀ P, (boot_heap P).isNs mainGlobals = true) (le : Nat.ble M N = true)
    (run1 : ∀ w : World, (fun os => (topRunQ PySem.W.Fast.tw14364793385576792824 p w n ((boot_heap w.params).nsMap mainGlobals "__annotations__") M ⟨T w.params, n, life, #[], boot_drawn, boot_toks, os⟩ (topStub p)).map fun s =>
        (staticsOk (importedModules p.main.body) (boot_heap w.params) s.abs.heap && namesBound p s.abs.heap && gensDone s.abs && laidKept (boot_heap w.params) s.abs.heap, Yf s.abs)) = fun _ => some (true, Ya w))
    (run2 : ∀ w : World, (fun os => (topRunQ PySem.W.Fast.tw14364793385576792824 p w n ((boot_heap w.params).nsMap mainGlobals "__annotations__") M ⟨T w.params, n, life, #[], boot_drawn, boot_toks, os⟩ (topStub p)).map fun s =>
        @Prod.rec _ _ (fun _ => _) (fun a _ => a) (PySem.W.Fast.tw4187177175401517315 q loose (importedModules p.main.body) Xt g0 s.abs)) = fun _ => some (@Prod.rec _ _ (fun _ => _) (fun a _ => a) (openGood q loose)))
    (run3 : ∀ w : World, (fun os => (topRunQ PySem.W.Fast.tw14364793385576792824 p w n ((boot_heap w.params).nsMap mainGlobals "__annotations__") M ⟨T w.params, n, life, #[], boot_drawn, boot_toks, os⟩ (topStub p)).map fun s =>
        @Prod.rec _ _ (fun _ => _) (fun _ b => b) (PySem.W.Fast.tw4187177175401517315 q loose (importedModules p.main.body) Xt g0 s.abs)) = fun _ => some (@Prod.rec _ _ (fun _ => _) (fun _ b => b) (openGood q loose))) :
    LeftO p q loose Xt Yf Ya N g0 := fun w => by
  obtain ⟨⟨h, gs, d, k, os⟩, e1, e'⟩ := Option.map_eq_some_iff.mp (boot_open e hN f w)
  obtain ⟨rfl, rfl, rfl, rfl⟩ : h = boot_heap w.params ∧ gs = #[] ∧ d = boot_drawn ∧ k = boot_toks := by simpa using e'
  obtain ⟨r, hr, hv⟩ := Option.map_eq_some_iff.mp (congrFun (run1 w) os)
  obtain ⟨r2, hr2, hv2⟩ := Option.map_eq_some_iff.mp (congrFun (run2 w) os)
  obtain ⟨r3, hr3, hv3⟩ := Option.map_eq_some_iff.mp (congrFun (run3 w) os)
  obtain rfl : r2 = r := Option.some.inj (hr2.symm.trans hr)
  obtain rfl : r3 = r2 := Option.some.inj (hr3.symm.trans hr)
  clear hr2 hr3
  have hvs : PySem.W.Fast.tw4187177175401517315 q loose (importedModules p.main.body) Xt g0 r3.abs = openGood q loose :=
    Prod.ext hv2 hv3
  rw [← PySem.W.Fast.te14364793385576792824, ← topRunQ_eq] at hr
  have hr := topRunT_of hr
  unfold SharedT.abs at hr
  dsimp only at hr
  rw [ht] at hr
  have hsz : (boot_heap w.params).objs.size = n := by rw [← ht, absHeap_size]
  have r1 := topRun_mono (N - M) _ _ _ _ hr
  rw [show M + (N - M) = N by have := Nat.le_of_ble_eq_true le; omega] at r1
  rw [← PySem.W.Fast.te4187177175401517315] at hvs
  obtain ⟨l1, l3⟩ : _ ∧ _ := by simpa only [Prod.mk.injEq] using hv
  have t : topFrom treeTable p w N ⟨boot_heap w.params, #[], boot_drawn, boot_toks, os⟩ = some r3.abs := by
    unfold topFrom
    dsimp only
    rw [size, hsz]
    show ((topRun treeTable p w n ((boot_heap w.params).nsMap mainGlobals "__annotations__") N ⟨boot_heap w.params, #[], boot_drawn, boot_toks, os⟩ (topStub p)).bind fun s₁ => match staticsOk (importedModules p.main.body) (boot_heap w.params) s₁.heap && namesBound p s₁.heap && gensDone s₁ && laidKept (boot_heap w.params) s₁.heap with | true => some s₁ | false => none) = _
    rw [r1]
    show (match staticsOk (importedModules p.main.body) (boot_heap w.params) r3.abs.heap && namesBound p r3.abs.heap && gensDone r3.abs && laidKept (boot_heap w.params) r3.abs.heap with | true => some r3.abs | false => none) = _
    rw [l1]
  unfold openEnds
  rw [e1]
  show (topFrom treeTable p w N _).map _ = _
  rw [t]
  exact congrArg some (Prod.ext hvs l3)
theorem layK (h : PySem.Challenge.rw_rh0117_01.row.Holds) : PySem.Challenge.rw_rh0117_01.row.Holds := by
  k_head
noncomputable def hdas : List Nat := [2, 3, 15, 22, 24, 25, 27, 28, 29, 30, 31, 32, 35, 42, 43, 44, 47, 49, 50, 52, 53, 61, 63, 64, 66, 67, 68, 70, 71, 73, 74, 75, 77, 78, 80, 81, 82, 84, 85, 87, 88, 89, 90, 91, 92, 93, 96, 98, 99, 101, 102, 103, 105, 106, 108, 109, 110, 112, 113, 115, 116, 117, 119, 120, 122, 123, 124, 126, 127, 129, 130, 131, 133, 134, 136, 137, 138, 140, 141, 143, 144, 145, 147, 148, 150, 151, 152, 154, 155, 157, 158, 159, 161, 162, 164, 165, 166, 168, 169, 171, 172, 173, 175, 176, 178, 179, 180, 182, 183, 185, 186, 187, 189, 190, 192, 193, 194, 196, 197, 199, 200, 201, 203, 204, 206, 207, 215, 217, 218, 220, 221, 222, 223, 224, 225, 226, 236, 237, 239, 240, 242, 243, 244, 245, 246, 247, 248, 258, 260, 261, 263, 264, 265, 266, 267, 268, 269, 279, 281, 282, 284, 285, 286, 287, 288, 289, 290, 293, 296, 297, 305, 307, 308, 310, 311, 312, 313, 314, 315, 316, 319, 321, 322, 324, 325, 326, 328, 329, 331, 332, 333, 335, 336, 338, 339, 340, 342, 343, 345, 346, 347, 350, 351, 352, 354, 355, 357, 358, 359, 361, 362, 364, 365, 366, 368, 369, 371, 372, 373, 375, 376, 378, 379, 380, 382, 383, 385, 386, 387, 389, 390, 392, 393, 394, 396, 397, 399, 400, 401, 403, 404, 406, 407, 408, 411, 412]
noncomputable def hdloose : List Str := [Str.ofString "label_place_machineops", Str.ofString "do_setlabel_machineops", Str.ofString "label_place_plainstmt", Str.ofString "do_setlabel_plainstmt"]
noncomputable def hdq : Program := view PySem.Challenge.pw_rh0117_01 [1, 2, 4, 5, 6, 7, 8, 9, 11, 12, 13, 14, 15, 16, 17, 18, 19, 20, 21, 22, 23, 24, 25, 26, 28, 30, 32, 33, 35, 37, 39, 40, 41, 43, 44, 45, 46, 47, 48, 50, 51, 52, 53, 54, 55, 56, 57, 59, 60, 61]
theorem hdas_eq : ∀ P, hdas = (layK.heap_1 P).map (·.1) := fun P => by kernel_rfl
noncomputable def hdT (P : Params) : BT := treeOf 0 .nil (boot_heap P).objs.toList
theorem hd_t : ∀ P, absHeap (hdT P) 11 {} = boot_heap P := fun P => by kernel_rfl
theorem hd_size : ∀ P, (boot_heap P).isNs mainGlobals = true := fun P => by kernel_rfl
theorem hd_opening : opening PySem.Challenge.pw_rh0117_01 = plainProg PySem.Challenge.pw_rh0117_01.main.scope.names := by kernel_rfl
theorem hd_fence : ∀ s, fenceModules? PySem.Challenge.pw_rh0117_01 s = some s := fun s => by kernel_rfl
theorem hd_run1 : ∀ w : World, (fun os => (topRunQ PySem.W.Fast.tw14364793385576792824 PySem.Challenge.pw_rh0117_01 w 11 ((boot_heap w.params).nsMap mainGlobals "__annotations__") 3300 ⟨hdT w.params, 11, {}, #[], boot_drawn, boot_toks, os⟩ (topStub PySem.Challenge.pw_rh0117_01)).map fun s =>
        (staticsOk (importedModules PySem.Challenge.pw_rh0117_01.main.body) (boot_heap w.params) s.abs.heap && namesBound PySem.Challenge.pw_rh0117_01 s.abs.heap && gensDone s.abs && laidKept (boot_heap w.params) s.abs.heap, (kmHook layK.heap_1 hdas hdas_eq [409]).obs s.abs)) = fun _ => some (true, (kmHook layK.heap_1 hdas hdas_eq [409]).val w) := fun w => by kernel_rfl
theorem hd_run2 : ∀ w : World, (fun os => (topRunQ PySem.W.Fast.tw14364793385576792824 PySem.Challenge.pw_rh0117_01 w 11 ((boot_heap w.params).nsMap mainGlobals "__annotations__") 3300 ⟨hdT w.params, 11, {}, #[], boot_drawn, boot_toks, os⟩ (topStub PySem.Challenge.pw_rh0117_01)).map fun s => @Prod.rec _ _ (fun _ => _) (fun a _ => a) (PySem.W.Fast.tw4187177175401517315 hdq hdloose (importedModules PySem.Challenge.pw_rh0117_01.main.body) (fun s => xlAt hdq [] s && recOk (RowW.records PySem.Challenge.rw_rh0117_01.row.toRowW) s) true s.abs)) = fun _ => some (@Prod.rec _ _ (fun _ => _) (fun a _ => a) (openGood hdq hdloose)) := fun w => by kernel_rfl
theorem hd_run3 : ∀ w : World, (fun os => (topRunQ PySem.W.Fast.tw14364793385576792824 PySem.Challenge.pw_rh0117_01 w 11 ((boot_heap w.params).nsMap mainGlobals "__annotations__") 3300 ⟨hdT w.params, 11, {}, #[], boot_drawn, boot_toks, os⟩ (topStub PySem.Challenge.pw_rh0117_01)).map fun s => @Prod.rec _ _ (fun _ => _) (fun _ b => b) (PySem.W.Fast.tw4187177175401517315 hdq hdloose (importedModules PySem.Challenge.pw_rh0117_01.main.body) (fun s => xlAt hdq [] s && recOk (RowW.records PySem.Challenge.rw_rh0117_01.row.toRowW) s) true s.abs)) = fun _ => some (@Prod.rec _ _ (fun _ => _) (fun _ b => b) (openGood hdq hdloose)) := fun w => by kernel_rfl
theorem hd_said : PySem.Challenge.rw_rh0117_01.wellSaid = true := (congrFun PySem.W.Fast.te9446332074065402090 _).trans (by kernel_rfl)
theorem hd_ok : (chainsOk hdq && opensWell PySem.Challenge.rw_rh0117_01.row.prog && (frees PySem.Challenge.rw_rh0117_01.row.toRowW && PySem.Challenge.rw_rh0117_01.row.within.isEmpty)) = true := by decide +kernel
theorem hd_bare : PySem.Challenge.rw_rh0117_01.row.prog.bare := ⟨rfl, rfl, rfl, rfl, rfl, by decide +kernel⟩
theorem hd_prom : PySem.Challenge.rw_rh0117_01.row.toRowW.promised := by w_witness2
theorem hd_left : LeftO PySem.Challenge.pw_rh0117_01 hdq hdloose (fun s => xlAt hdq [] s && recOk (RowW.records PySem.Challenge.rw_rh0117_01.row.toRowW) s) (kmHook layK.heap_1 hdas hdas_eq [409]).obs (kmHook layK.heap_1 hdas hdas_eq [409]).val 6418 :=
  left_tree (T := hdT) (n := 11) (life := {}) (M := 3300) hd_opening (by decide) hd_fence hd_t hd_size (by decide) hd_run1 hd_run2 hd_run3
theorem ne_ltN {a b : Nat} (h : a < b) : a ≠ b := Nat.ne_of_lt h
theorem ne_gtN {a b : Nat} (h : b < a) : a ≠ b := Nat.ne_of_gt h
theorem lt_via {a b c : Nat} (k : b < c) (h : a < b) : a < c := Nat.lt_trans h k
theorem ex_to {α : Type} {p : α → Prop} {q : Prop} (h : ∃ x, p x) (k : ∀ x, p x → q) : q := h.elim k
theorem lt_add1 {a b : Nat} (h : a < b) : a < b + 1 := Nat.lt_succ_of_lt h
theorem mem_hd {α : Type} {a : α} {l : List α} : a ∈ a :: l := .head _
theorem lt_new {x : Addr} {o : Obj} {D : Nat} {l : List (Addr × Obj)} (h : ∀ p ∈ l, p.1 < D) (hm : (x, o) ∈ l) : @LT.lt Nat _ x D := h _ hm
theorem lt_conj {x a c : Nat} {r : Prop} (h : a < c ∧ r) (k : a < c ∧ r → x < c) : x < c := k h
section
abbrev PG : Program := PySem.Challenge.rw_rh0117_01.row.toRowW.prog
def E0 : Heap := { objs := #[] }
theorem E0_get (a : Addr) : E0.get? a = none := Heap.get?_none_of_le (Nat.zero_le _)
/-- what every callee may lean on: the program's own objects stand in the ground G; the stack's frames are l -/
structure Here (w : World) (A : Around) (G : Heap) (p : Program) (lo : List Str) (mean : ExcName → Option Value) (mg mb : Str → Option Value) (l : List Env) (k : Nat) : Prop where
  kin : (layK.heap_1 w.params).In G
  top : Top p lo mean mg mb G
  room : A.depth + 2 * k < 900
  units : A.units + 5 * k < 9000
  hand : A.handled = none
  stack : A.frames = some l
  base : ∃ B, (layK.heap_1 w.params).In B ∧ Top p lo mean mg mb B ∧ B.StaysIn G ∧ B.objs.size ≤ G.objs.size ∧ G.FunFrames B l
theorem funs_E0 {h B : Heap} : ∀ {l : List Env}, h.FunFrames B l → h.FunFrames E0 l
  | [], _ => trivial
  | _ :: _, x => ⟨x.1, x.2.1.imp fun _ y => y.imp fun _ z => ⟨z.1, E0_get _, z.2.2⟩, funs_E0 x.2.2⟩
structure Gr (G h : Heap) : Prop where
  stay : G.StaysIn h
  size : G.objs.size ≤ h.objs.size
def Off (M : List Addr) (h h' : Heap) : Prop := (∀ b o, b ∉ M → h.get? b = some o → h'.get? b = some o) ∧ h.objs.size ≤ h'.objs.size
theorem Gr.refl {h : Heap} : Gr h h := ⟨fun _ _ e => e, Nat.le_refl _⟩
theorem Gr.trans {a b c : Heap} (x : Gr a b) (y : Gr b c) : Gr a c := ⟨fun b o e => y.stay b o (x.stay b o e), Nat.le_trans x.size y.size⟩
theorem Here.keeps {w : World} {A : Around} {G g : Heap} {p : Program} {lo : List Str} {mean : ExcName → Option Value} {mg mb : Str → Option Value} {l : List Env} {k : Nat} (H : Here w A G p lo mean mg mb l k) (x : Gr G g) : Here w A g p lo mean mg mb l k := ⟨H.kin.keeps x.stay, H.top.keeps x.stay, H.room, H.units, H.hand, H.stack, H.base.imp fun _ z => ⟨z.1, z.2.1, fun b o e => x.stay b o (z.2.2.1 b o e), Nat.le_trans z.2.2.2.1 x.size, z.2.2.2.2.of_keeps fun b o e _ => ⟨o, x.stay b o e, rfl⟩⟩⟩
theorem Here.funs {w : World} {A : Around} {G : Heap} {p : Program} {lo : List Str} {mean : ExcName → Option Value} {mg mb : Str → Option Value} {l : List Env} {k : Nat} (H : Here w A G p lo mean mg mb l k) : G.FunFrames E0 l := let ⟨_, z⟩ := H.base; funs_E0 z.2.2.2.2
theorem Here.less {w : World} {A : Around} {G : Heap} {p : Program} {lo : List Str} {mean : ExcName → Option Value} {mg mb : Str → Option Value} {l : List Env} {k : Nat} (H : Here w A G p lo mean mg mb l k) {j : Nat} (hj : j ≤ k) : Here w A G p lo mean mg mb l j := ⟨H.kin, H.top, by have := H.room; omega, by have := H.units; omega, H.hand, H.stack, H.base⟩
theorem Off.refl {h : Heap} {M : List Addr} : Off M h h := ⟨fun _ _ _ e => e, Nat.le_refl _⟩
theorem Off.trans {M : List Addr} {a b c : Heap} (x : Off M a b) (y : Off M b c) : Off M a c := ⟨fun b o n e => y.1 b o n (x.1 b o n e), Nat.le_trans x.2 y.2⟩
theorem Off.gr {h h' : Heap} (x : Off [] h h') : Gr h h' := ⟨fun b o e => x.1 b o List.not_mem_nil e, x.2⟩
theorem Gr.hide {G h : Heap} {M : List Addr} (x : Gr G h) (hM : ∀ a ∈ M, G.get? a = none) : Gr G (hideAll h M) :=
  ⟨fun b o e => hideAll_get _ (x.stay b o e) (fun q => by rw [hM b q] at e; cases e), by rw [hideAll_size]; exact x.size⟩
/-- the entry into a def of the program -/
theorem enterK {w : World} {A : Around} {G : Heap} {p : Program} {lo : List Str} {mean : ExcName → Option Value} {mg mb : Str → Option Value} {l : List Env} {k : Nat} {s : Shared} {R : Result → Shared → Prop} {name qual : Str} {params : Arguments} {body : List Stmt} {scope : Scope} {dV kV doc pm cdv ct oc : Value} {an od : Option Addr} {osl : Array (Option Value)} {f : Addr} {args : Args} {binds : List (Str × Value)}
    (H : Here w A G p lo mean mg mb l (k + 1)) (hG : Gr G s.heap) (M : List Addr) (hM : ∀ a ∈ M, G.get? a = none)
    (ho : (layK.heap_1 w.params).lookup f = some ⟨oc, od, .func (fnOf name qual params body scope dV kV doc pm an cdv ct), osl⟩) (hcd : codeIn (layK.heap_1 w.params) cdv qual = true)
    (hbind : BindsTo s (fnOf name qual params body scope dV kV doc pm an cdv ct) args binds) (hloc : ∀ y ∈ binds, scope.names.lookup y.1 = some .local)
    (h : ∀ g L' h₁, Fr g L' h₁ (fun y => binds.reverse.lookup y) → Gr s.heap h₁ → Gr G g → (∀ b o, b ∉ M → s.heap.get? b = some o → g.get? b = some o) → (∀ a ∈ M, g.get? a = none) → s.heap.get? L' = none → Here w A g p lo mean mg mb l (k + 1) → (layK.heap_1 w.params).In g → Top p lo mean mg mb g →
      wpAny (model PG w) (A.deeper (envOf qual scope L' f cdv)) (execs body (envOf qual scope L' f cdv))
        (fun fl s' => R (.ok (.ret (match fl with | .ret v => v | _ => .none))) s')
        (fun e s' => wpAny (model PG w) (A.deeper (envOf qual scope L' f cdv)) (leaving (envOf qual scope L' f cdv) e) (fun _ s'' => R (.error e) s'') (fun e' s'' => R (.error e') s'') s')
        { s with heap := h₁, toks := s.toks + binds.length })
    (hcell : ∀ x ∈ scope.names, x.2 ≠ .cell) (hco : scope.isCoroutine = false) (hgen : scope.isGenerator = false) (hk : scope.kind = .function) :
    codeAny (model PG w) A (.call (.ref f) args) R s := by
  have hroom : A.depth < recursionLimit := by have := H.room; show A.depth < 1000; omega
  refine codeAny_call_def (fd := fnOf name qual params body scope dV kV doc pm an cdv ct) (body := body) (binds := binds) hroom (hG.stay _ _ (H.kin _ _ ho)) rfl (H.top.nolimit.keeps hG.stay) (codeRec_of (H.kin.keeps hG.stay) hcd) rfl hbind hcell hloc (fun h₁ hns hk₁ => ?_) hco hgen hk
  have hg : Gr G (hideAll s.heap M) := hG.hide hM
  have hs1 : s.heap.objs.size ≤ h₁.objs.size := Nat.le_of_lt hns.lt
  refine h (hideAll s.heap M) s.heap.objs.size h₁ ⟨hns, fun b o e => hk₁ b o (of_hideAll _ e), Nat.le_of_eq (hideAll_size _ _)⟩ ⟨hk₁, hs1⟩ hg (fun b o n e => hideAll_get _ e n) (fun a ha => hideAll_none _ ha) ?_ ?_ (H.kin.keeps hg.stay) (H.top.keeps hg.stay)
  · cases q : s.heap.get? s.heap.objs.size with
    | none => rfl
    | some o => exact absurd (Heap.lt_size q) (Nat.lt_irrefl _)
  · exact H.keeps hg
/-- the same, for what the callee calls: its own frame stands on top -/
theorem Here.call {w : World} {A : Around} {g h : Heap} {p : Program} {lo : List Str} {mean : ExcName → Option Value} {mg mb : Str → Option Value} {l : List Env} {k : Nat} {L : Addr} {m : Str → Option Value} {env : Env} (H : Here w A g p lo mean mg mb l (k + 1)) (F : Fr g L h m) (hf : env.frame = some L) (hk : env.scope.kind ≠ .module) (M : List Addr) (hM : ∀ a ∈ M, g.get? a = none) (hL : L ∉ M) :
    Here w (A.deeper env) (hideAll h M) p lo mean mg mb (env :: l) k := by
  have hg : Gr g (hideAll h M) := Gr.hide ⟨F.keep, Nat.le_trans F.above (Nat.le_of_lt F.ns.lt)⟩ hM
  obtain ⟨B, b1, b2, b3, b4, b5⟩ := H.base
  refine ⟨H.kin.keeps hg.stay, H.top.keeps hg.stay, ?_, ?_, H.hand, Around.frames_deeper H.stack, B, b1, b2, fun b o e => hg.stay b o (b3 b o e), Nat.le_trans b4 hg.size, hk, ?_, b5.of_keeps fun b o e _ => ⟨o, hg.stay b o e, rfl⟩⟩
  · show A.depth + 1 + 2 * k < 900; have := H.room; omega
  · show A.units + 3 + 5 * k < 9000; have := H.units; omega
  · obtain ⟨o, es, ep, ho, hd, _⟩ := F.ns
    exact ⟨L, o, hf, Heap.get?_none_of_le (Nat.le_trans b4 F.above), hideAll_get _ ho hL, fun vs q => by rw [hd] at q; cases q⟩
end
section
abbrev frs (l : List Env) : List Addr := l.filterMap (·.frame)
/-- what of h stands in h': all but X; the dict of a frame in l may have other slots -/
structure Kept (l : List Env) (X : List Addr) (h h' : Heap) : Prop where
  same : ∀ b o, h.get? b = some o → b ∉ X → b ∉ frs l → h'.get? b = some o
  slot : ∀ b o, h.get? b = some o → b ∉ X → ∃ sl, h'.get? b = some { o with slots := sl }
  size : h.objs.size ≤ h'.objs.size
/-- the fault object: its class, its dict with the text, its newest traceback entry with its flight -/
structure ExcOn (h : Heap) (e d T : Addr) (x : Str) (fl : Value) : Prop where
  ex : ∃ oe vs oT ts tx, h.get? e = some oe ∧ oe.cls = .ref 44 ∧ oe.dict = some d ∧ oe.data = .fields vs ∧ vs[1]? = some (.ref T) ∧ T ≠ e ∧ h.get? T = some oT ∧ oT.data = .fields ts ∧ ts[3]? = some fl ∧
    h.Ns d (fun y => if y = "text" then some (.str x tx) else none)
structure ExcNew (h : Heap) (e d : Addr) (x : Str) : Prop where
  ex : ∃ oe vs tx, h.get? e = some oe ∧ oe.cls = .ref 44 ∧ oe.dict = some d ∧ oe.data = .fields vs ∧ vs[1]? = some .none ∧ h.Ns d (fun y => if y = "text" then some (.str x tx) else none)
theorem Kept.trans {l : List Env} {X : List Addr} {a b c : Heap} (x : Kept l X a b) (y : Kept l X b c) : Kept l X a c :=
  ⟨fun p o e n m => y.same p o (x.same p o e n m) n m, fun p o e n => by
    obtain ⟨s1, h1⟩ := x.slot p o e n
    obtain ⟨s2, h2⟩ := y.slot p _ h1 n
    exact ⟨s2, h2⟩, Nat.le_trans x.size y.size⟩
theorem Kept.mono {l l' : List Env} {X X' : List Addr} {h h' : Heap} (x : Kept l X h h') (hl : ∀ b, b ∈ frs l → b ∈ frs l') (hX : ∀ b, b ∈ X → b ∈ X') : Kept l' X' h h' :=
  ⟨fun p o e n m => x.same p o e (fun q => n (hX _ q)) (fun q => m (hl _ q)), fun p o e n => x.slot p o e (fun q => n (hX _ q)), x.size⟩
/-- addresses that h does not know may be struck out of X -/
theorem Kept.strike {l : List Env} {X : List Addr} {h h' : Heap} (x : Kept l X h h') (hX : ∀ b ∈ X, h.get? b = none) : Kept l [] h h' :=
  ⟨fun p o e _ m => x.same p o e (fun q => by rw [hX _ q] at e; cases e) m, fun p o e _ => x.slot p o e (fun q => by rw [hX _ q] at e; cases e), x.size⟩
theorem Kept.of_gr {l : List Env} {X : List Addr} {h h' : Heap} (x : Gr h h') : Kept l X h h' := ⟨fun b o e _ _ => x.stay b o e, fun b o e _ => ⟨o.slots, x.stay b o e⟩, x.size⟩
theorem Kept.pre {l : List Env} {X : List Addr} {a b c : Heap} (x : Gr a b) (y : Kept l X b c) : Kept l X a c := (Kept.of_gr x).trans y
theorem Kept.ns {l : List Env} {X : List Addr} {h h' : Heap} {a : Addr} {m : Str → Option Value} (x : Kept l X h h') (hn : h.Ns a m) (ha : a ∉ X) : h'.Ns a m := by
  obtain ⟨o, es, ep, ho, hd, r⟩ := hn
  obtain ⟨sl, hs⟩ := x.slot a o ho ha
  exact ⟨_, es, ep, hs, hd, r⟩
theorem Kept.fun {l k : List Env} {X : List Addr} {h h' B : Heap} (x : Kept l X h h') (hX : ∀ b ∈ X, ∀ o, h.get? b = some o → ∃ vs, o.data = .fields vs) (F : h.FunFrames B k) : h'.FunFrames B k :=
  F.of_keeps fun b o e hn => by
    obtain ⟨sl, hs⟩ := x.slot b o e (fun q => by obtain ⟨vs, hv⟩ := hX b q o e; exact hn vs hv)
    exact ⟨_, hs, rfl⟩
theorem dict_mapFields (o : Obj) (f : Array Value → Array Value) : (o.mapFields f).dict = o.dict := by
  obtain ⟨c, d, dt, sl⟩ := o; cases dt <;> rfl
theorem entry_put {M : Model} {A : Around} {E : Value → Shared → Prop} {s : Shared} {env : Env} {outer : List Env} {L e : Addr} {oe : Obj} {vs : Array Value} {head : Value} {hadNext : Bool} {Q : Unit → Shared → Prop} (hfr : A.frames = some (env :: outer)) (hl : s.heap.FunFrames E0 (env :: outer)) (hf : env.frame = some L)
    (he : s.heap.get? e = some oe) (hd : oe.data = .fields vs) (hsz : 1 < vs.size)
    (h : ∀ h' T oT ts, Kept (env :: outer) [e] s.heap h' → s.heap.get? T = none → T ≠ e → h'.get? e = some (oe.mapFields (·.setIfInBounds 1 (.ref T))) → h'.get? T = some oT → oT.data = .fields ts → ts[3]? = some (rawInt L) → Q () { s with heap := h' }) :
    wpAny M A (do let a ← frameOf env; let pl ← entryPlaceOf L hadNext; let b ← EntryCells.newEntry head a .none (rawInt L) .none pl; setField (.ref e) 1 b) Q E s := by
  have hene : e ∉ frs (env :: outer) := fun hm => by
    obtain ⟨_, o, ho, hnf⟩ := hl.mem hm
    rw [he] at ho; injection ho with ho; subst ho; exact hnf vs hd
  refine wpAny_bind (wpAny_frameOf_fun hfr hl hf fun h₁ hs₁ => ?_)
  refine wpAny_bind (wpAny_entryPlaceOf fun pl hpl => ?_)
  unfold EntryCells.newEntry newFields
  refine wpAny_bind (wpAny_newObj_type ?_ (hpl.sizeOk5 _ _ _ _ _))
  have he₁ : h₁.get? e = some oe := (hs₁.2.1 e hene).trans he
  have he₂ := Heap.get?_push_of_some (h := h₁) { cls := .type "traceback", dict := none, data := .fields ([head, .ref L, .none, rawInt L, .none] ++ (if pl.isEmpty then List.replicate 6 Value.none else pl)).toArray } he₁
  refine wpAny_setField he₂ hd hsz ?_
  have hTe : h₁.objs.size ≠ e := Nat.ne_of_gt (Heap.lt_size he₁)
  have hd₃ := Obj.data_mapFields hd (·.setIfInBounds 1 (Value.ref h₁.objs.size))
  have he₃ := Heap.get?_update_self (Obj.mapFields (·.setIfInBounds 1 (Value.ref h₁.objs.size))) he₂ (Obj.isFreed_of_fields hd₃)
  have hT₃ := (Heap.get?_update_other (h₁.push { cls := .type "traceback", dict := none, data := .fields ([head, .ref L, .none, rawInt L, .none] ++ (if pl.isEmpty then List.replicate 6 Value.none else pl)).toArray })
    (Obj.mapFields (·.setIfInBounds 1 (Value.ref h₁.objs.size))) (Ne.symm hTe)).trans (Heap.get?_push_size h₁ rfl)
  have keep : ∀ b o, b ≠ e → h₁.get? b = some o →
      ((h₁.push { cls := .type "traceback", dict := none, data := .fields ([head, .ref L, .none, rawInt L, .none] ++ (if pl.isEmpty then List.replicate 6 Value.none else pl)).toArray }).update e (Obj.mapFields (·.setIfInBounds 1 (Value.ref h₁.objs.size)))).get? b = some o :=
    fun b o hbe hb => by
      rw [Heap.get?_update_other _ _ (Ne.symm hbe)]
      exact Heap.get?_push_of_some _ hb
  refine h _ h₁.objs.size _ _ ⟨fun b o hb hx hn => keep b o (fun q => hx (by rw [q]; exact .head _)) ((hs₁.2.1 b hn).trans hb), fun b o hb hx => ?_, ?_⟩ ?_ hTe he₃ hT₃ rfl ?_
  · obtain ⟨sl, hsl⟩ := hs₁.2.2 b o hb
    exact ⟨sl, keep b _ (fun q => hx (by rw [q]; exact .head _)) hsl⟩
  · rw [Heap.size_after_update, Heap.size_push, hs₁.1]; exact Nat.le_succ _
  · exact Heap.get?_none_of_le (by rw [hs₁.1]; exact Nat.le_refl _)
  · first | (simp; done) | (rcases hpl with rfl | ⟨_, _, _, _, _, _, _, rfl⟩ <;> simp)
theorem note_first {M : Model} {A : Around} {E : Value → Shared → Prop} {s : Shared} {env : Env} {outer : List Env} {L e : Addr} {Q : Unit → Shared → Prop} {d : Addr} {x : Str} (hfr : A.frames = some (env :: outer)) (hl : s.heap.FunFrames E0 (env :: outer)) (hf : env.frame = some L) (X : ExcNew s.heap e d x)
    (h : ∀ h' T, Kept (env :: outer) [e] s.heap h' → s.heap.get? T = none → ExcOn h' e d T x (rawInt L) → Q () { s with heap := h' }) : wpAny M A (noteFrame (.ref e) env) Q E s := by
  obtain ⟨oe, vs, tx, he, hc, hdd, hd, h1, hn⟩ := X
  unfold noteFrame
  simp only [hf]
  refine wpAny_bind (wpAny_field he hd h1 ?_)
  rw [if_neg (by decide)]
  refine entry_put hfr hl hf he hd (Array.getElem?_eq_some_iff.mp h1).1 fun h' T oT ts hk hT hTe he' hoT hts h3 => h h' T hk hT ?_
  have hde : d ≠ e := fun q => by obtain ⟨o, es, ep, ho, hdt, _⟩ := hn; rw [q, he] at ho; cases ho; rw [hd] at hdt; cases hdt
  exact ⟨_, _, oT, ts, tx, he', (Obj.cls_mapFields _ _).trans hc, (dict_mapFields _ _).trans hdd, Obj.data_mapFields hd _, by
    have := (Array.getElem?_eq_some_iff.mp h1).1
    simp [this], hTe, hoT, hts, h3, hk.ns hn (by simp [hde])⟩
theorem note_next {M : Model} {A : Around} {E : Value → Shared → Prop} {s : Shared} {env : Env} {outer : List Env} {L e : Addr} {Q : Unit → Shared → Prop} {d T : Addr} {x : Str} (hfr : A.frames = some (env :: outer)) (hl : s.heap.FunFrames E0 (env :: outer)) (hf : env.frame = some L) (X : ExcOn s.heap e d T x .none)
    (h : ∀ h' T', Kept (env :: outer) [e, T] s.heap h' → s.heap.get? T' = none → ExcOn h' e d T' x (rawInt L) → Q () { s with heap := h' }) : wpAny M A (noteFrame (.ref e) env) Q E s := by
  obtain ⟨oe, vs, oT, ts, tx, he, hc, hdd, hd, h1, hTe, hoT, hts, h3, hn⟩ := X
  unfold noteFrame
  simp only [hf]
  refine wpAny_bind (wpAny_field he hd h1 ?_)
  rw [if_pos (show (Value.ref T != Value.none) = true from by simp)]
  refine wpAny_bind (wpAny_field hoT hts h3 ?_)
  rw [if_neg (show ¬ ((Value.none == rawInt L) = true) from by simp [rawInt])]
  refine wpAny_bind (wpAny_setField hoT hts (Array.getElem?_eq_some_iff.mp h3).1 ?_)
  have other : ∀ b, b ≠ T → (s.heap.update T (Obj.mapFields (·.setIfInBounds 3 Value.none))).get? b = s.heap.get? b := fun b hb => Heap.get?_update_other _ _ (Ne.symm hb)
  have noRecord : ∀ b o, s.heap.get? b = some o → (∀ vs, o.data ≠ .fields vs) → b ≠ T := fun b o hb hnf q => by
    rw [q, hoT] at hb; injection hb with hb; subst hb; exact hnf ts hts
  have hde : d ≠ e := fun q => by obtain ⟨o, es, ep, ho, hdt, _⟩ := hn; rw [q, he] at ho; cases ho; rw [hd] at hdt; cases hdt
  have hdT : d ≠ T := fun q => by obtain ⟨o, es, ep, ho, hdt, _⟩ := hn; rw [q, hoT] at ho; cases ho; rw [hts] at hdt; cases hdt
  refine entry_put hfr (hl.of_keeps fun b o hb hnf => ⟨o, (other b (noRecord b o hb hnf)).trans hb, rfl⟩) hf ((other e (Ne.symm hTe)).trans he) hd (Array.getElem?_eq_some_iff.mp h1).1
    fun h' T' oT' ts' hk hT' hTe' he' hoT' hts' h3' => h h' T' ?_ ?_ ?_
  · refine ⟨fun b o hb hx hm => hk.same b o ((other b fun q => hx (by simp [q])).trans hb) (fun q => hx (by simp at q; simp [q])) hm, fun b o hb hx => hk.slot b o ((other b fun q => hx (by simp [q])).trans hb) (fun q => hx (by simp at q; simp [q])), ?_⟩
    have := hk.size
    rw [Heap.size_after_update] at this
    exact this
  · rw [← hT']
    exact (other T' fun q => by
      rw [q] at hT'
      have z := Heap.get?_update_self (Obj.mapFields (·.setIfInBounds 3 Value.none)) hoT (Obj.isFreed_of_fields (Obj.data_mapFields hts _))
      rw [z] at hT'; cases hT').symm
  · have hn' : (s.heap.update T (Obj.mapFields (·.setIfInBounds 3 Value.none))).Ns d _ := let ⟨o, es, ep, ho, r⟩ := hn; ⟨o, es, ep, (other d hdT).trans ho, r⟩
    exact ⟨_, _, oT', ts', tx, he', (Obj.cls_mapFields _ _).trans hc, (dict_mapFields _ _).trans hdd, Obj.data_mapFields hd _, by
      have := (Array.getElem?_eq_some_iff.mp h1).1
      simp [this], hTe', hoT', hts', h3', hk.ns hn' (by simp [hde])⟩
theorem flight_off {M : Model} {A : Around} {E : Value → Shared → Prop} {s : Shared} {e : Addr} {Q : Unit → Shared → Prop} {d T : Addr} {x : Str} {fl : Value} (X : ExcOn s.heap e d T x fl) (h : ∀ h', Kept [] [T] s.heap h' → ExcOn h' e d T x .none → Q () { s with heap := h' }) : wpAny M A (setFlight (.ref e) none) Q E s := by
  obtain ⟨oe, vs, oT, ts, tx, he, hc, hdd, hd, h1, hTe, hoT, hts, h3, hn⟩ := X
  have hsz3 : 3 < ts.size := (Array.getElem?_eq_some_iff.mp h3).1
  have other : ∀ b, b ≠ T → (s.heap.update T (Obj.mapFields (·.setIfInBounds 3 Value.none))).get? b = s.heap.get? b := fun b hb => Heap.get?_update_other _ _ (Ne.symm hb)
  have hdT : d ≠ T := fun q => by obtain ⟨o, es, ep, ho, hdt, _⟩ := hn; rw [q, hoT] at ho; cases ho; rw [hts] at hdt; cases hdt
  refine wpAny_setFlight_none he hd h1 hoT hts hsz3 (h _ ⟨fun b o hb hx _ => (other b fun q => hx (by simp [q])).trans hb, fun b o hb hx => ⟨o.slots, (other b fun q => hx (by simp [q])).trans hb⟩, by rw [Heap.size_after_update]; exact Nat.le_refl _⟩ ?_)
  exact ⟨oe, vs, _, _, tx, (other e (Ne.symm hTe)).trans he, hc, hdd, hd, h1, hTe, Heap.get?_update_self _ hoT (Obj.isFreed_of_fields (Obj.data_mapFields hts _)), Obj.data_mapFields hts _, by simp [hsz3], let ⟨o, es, ep, ho, r⟩ := hn; ⟨o, es, ep, (other d hdT).trans ho, r⟩⟩
/-- the fault flies: seen from the heap h that stood at the call -/
structure Flew (l : List Env) (h h' : Heap) (e : Addr) (x : Str) : Prop where
  kept : Kept l [] h h'
  on : ∃ d T, ExcOn h' e d T x .none ∧ h.get? e = none ∧ h.get? d = none ∧ h.get? T = none
theorem Flew.pre {l : List Env} {a b c : Heap} {e : Addr} {x : Str} (g : Gr a b) (y : Flew l b c e x) : Flew l a c e x := by
  obtain ⟨k, d, T, X, he, hd, hT⟩ := y
  have no : ∀ p, b.get? p = none → a.get? p = none := fun p hp => by
    cases q : a.get? p with
    | none => rfl
    | some o => have := g.stay p o q; rw [hp] at this; cases this
  exact ⟨k.pre g, d, T, X, no _ he, no _ hd, no _ hT⟩
theorem none_of {a b : Heap} (g : Gr a b) {p : Addr} (hp : b.get? p = none) : a.get? p = none := by
  cases q : a.get? p with
  | none => rfl
  | some o => have := g.stay p o q; rw [hp] at this; cases this
theorem frs_cons {env : Env} {outer : List Env} {L : Addr} (hf : env.frame = some L) : frs (env :: outer) = L :: frs outer := by simp [frs, hf]
/-- a fresh fault leaves the def that raised it: h stood at the call, h₁ when the fault was made -/
theorem leave_new {M : Model} {A : Around} {E : Value → Shared → Prop} {s : Shared} {env : Env} {outer : List Env} {L e : Addr} {h : Heap} {x : Str} {Q : Unit → Shared → Prop} {d : Addr} (hfr : A.frames = some (env :: outer)) (hl : s.heap.FunFrames E0 (env :: outer)) (hf : env.frame = some L) (hL : h.get? L = none) (g : Gr h s.heap) (X : ExcNew s.heap e d x)
    (he : h.get? e = none) (hd : h.get? d = none) (q : ∀ h', Flew outer h h' e x → Q () { s with heap := h' }) : wpAny M A (leaving env (.ref e)) Q E s := by
  unfold leaving
  refine wpAny_bind (note_first hfr hl hf X fun h' T hk hT hX => ?_)
  refine flight_off hX fun h'' hk' hX' => q h'' ⟨?_, d, T, hX', he, hd, none_of g hT⟩
  have k1 : Kept (env :: outer) [e, T] h h'' := ((hk.mono (fun _ z => z) (fun b z => by simp at z; simp [z])).trans (hk'.mono (fun b z => by simp [frs] at z) (fun b z => by simp at z; simp [z]))).pre g
  have k2 := k1.strike (fun b hb => by simp at hb; rcases hb with rfl | rfl; exact he; exact none_of g hT)
  exact ⟨fun b o ho n m => k2.same b o ho n (by rw [frs_cons hf]; intro z; rcases List.mem_cons.mp z with rfl | z; (rw [hL] at ho; cases ho); exact m z), k2.slot, k2.size⟩
end
section
def heardText (x : Str) : Str := if x = Str.ofString "storage" then Str.ofString "storage" else Str.ofString "fault"
def TextOut (x : Str) (h6 : Heap) (s : Shared) (f : Flow) (s' : Shared) : Prop := ∃ tk tk', f = Flow.ret (.str (heardText x) tk) ∧ s' = { s with heap := h6, toks := tk' }
mutual
theorem cls44_made {w : World} {h : Heap} {M : Model} (X : (layK.heap_1 w.params).In h) : Looks M h (Bind.madeBy (.ref 44)) (some "Exception.__new__") := by
  intro A Q E s k q
  have hC := k _ _ (X 44 _ (by k_is))
  unfold Bind.madeBy mroOf classData
  repeat lk
  exact q
theorem cls44_base {w : World} {h : Heap} {M : Model} (X : (layK.heap_1 w.params).In h) : Looks M h (Bind.staticBase (.ref 44)) (.ref 44) := by
  intro A Q E s k q
  have hC := k _ _ (X 44 _ (by k_is))
  have made := cls44_made (M := M) (X.keeps k)
  unfold Bind.staticBase mroOf classData
  obtain ⟨hh, g, d, t, os⟩ := s
  repeat lk
  exact q
theorem fault_call {w : World} {A : Around} {R : Result → Shared → Prop} {h : Heap} {g : Array GenState} {d : Drawn} {t : Nat} {os : OsState} {x : Str} {tx : Tok} (X : (layK.heap_1 w.params).In h)
    (hq : ∀ h' e, Gr h h' → h.get? e = none → (∃ tp, h'.get? e = some { cls := .ref 44, data := .fields #[.ref tp, .none, .none, .none, .bool false, .none] }) → codeAny (model PG w) (A.under (.builtin "type.__call__" ⟨[.ref 44, .str x tx], []⟩)) (.call (.ref 28) ⟨[.ref e, .str x tx], []⟩)
        (fun r s' => match r with | .ok (.ret v) => v = .none ∧ R (.ok (.ret (.ref e))) s' | .ok _ => False | .error e => R (.error e) s') ⟨h', g, d, t, os⟩) :
    codeAny (model PG w) A (.call (.ref 44) ⟨[.str x tx], []⟩) R ⟨h, g, d, t, os⟩ := by
  have hC := X 44 _ (by k_is)
  have call : Looks (model PG w) h (specialOf (.ref 44) "__call__") (some (.builtin "type.__call__")) := looks_specialIn X (by k_is)
  have typ : Looks (model PG w) h (isInstance (.ref 44) (.type "type")) true := looks_instIn X (by k_is)
  refine codeAny_of_tree ?_
  show wpAny _ _ (callAny (.ref 44) _) _ _ _
  refine nd_load hC ?_
  show wpAny _ _ (callAny.viaDunder (.ref 44) _) _ _ _
  unfold callAny.viaDunder
  refine wpAny_bind (call.at ?_)
  dsimp only
  rw [tc_bind]
  refine wpAny_bind (wpAny_pure (wpAny_bind (wpAny_pure ?_)))
  refine wpAny_pure (a := Fin.again (.call (.builtin "type.__call__") ⟨[.ref 44, .str x tx], []⟩)) (And.intro rfl ?_)
  refine codeAny_call_builtin_at (Code.quiet_builtin _ (by decide +kernel)) entry_typeCall (check_slot tc_kind tc_split typ (tc_args _ _ _) ?_)
  have made := cls44_made (M := model PG w) X
  have base := cls44_base (M := model PG w) X
  have hm : Looks (model PG w) h (mroOf (.ref 44)) _ := ((Looks.ld (part := none) hC).andThen .now).andThen .now
  unfold Builtin.«type.__call__»
  repeat (first | with_reducible refine wpAny_call ?_ | lk)
  have F := PySem.F.excBase_Exception
  have hB : Looks (model PG w) h (isSubtype (.ref 44) (.type "Exception")) true := looks_subIn X (by k_is)
  have hAt : Looks (model PG w) h (isSubtype (.ref 44) (.type "AttributeError")) false := looks_subIn X (by k_is)
  have hNm : Looks (model PG w) h (isSubtype (.ref 44) (.type "NameError")) false := looks_subIn X (by k_is)
  refine codeAny_call_builtin_code (Code.quiet_builtin _ F.quiet) ?_
  have hstar := F.noStar
  simp only [checkBuiltinCall, F.newKind, F.newSplit, F.newRow]
  repeat (first | simp only [bne_self_eq_false, Bool.false_eq_true, if_false] | lk)
  have hends := F.ends
  refine codeAny_builtinAt F.entry ?_
  unfold Builtin.«BaseException.__new__»
  refine PySem.wpAt_bind ?_
  show PySem.wpAt _ _ _ (stack >>= _) _ _ _
  refine PySem.wpAt_bind (PySem.wpAt_stack fun p below => PySem.wpAt_of_wpAny ?_)
  wp_walk
  refine PySem.wpAt_of_wpAny ?_
  rw [F.owner]
  repeat (first | simp only [bne_self_eq_false, Bool.false_eq_true, if_false] | lk)
  have e9 : (#[Value.ref h.objs.size, .none, .none, .none, .bool false, .none] ++ (List.replicate 0 (rawInt 0)).toArray : Array Value) = #[.ref h.objs.size, .none, .none, .none, .bool false, .none] := rfl
  rw [e9]
  have k2 : ∀ b o, h.get? b = some o → ((h.push { cls := .type "tuple", data := .seq #[.str x tx] }).push { cls := .ref 44, data := .fields #[.ref h.objs.size, .none, .none, .none, .bool false, .none] }).get? b = some o :=
    fun b o e => Heap.get?_push_of_some _ (Heap.get?_push_of_some _ e)
  have hC2 := k2 _ _ hC
  have hx : ((h.push { cls := .type "tuple", data := .seq #[.str x tx] }).push { cls := .ref 44, data := .fields #[.ref h.objs.size, .none, .none, .none, .bool false, .none] }).get? (h.objs.size + 1) = some { cls := .ref 44, data := .fields #[.ref h.objs.size, .none, .none, .none, .bool false, .none] } := by heap_get
  have X2 := X.keeps k2
  have t1 : Looks (model PG w) ((h.push { cls := .type "tuple", data := .seq #[.str x tx] }).push { cls := .ref 44, data := .fields #[.ref h.objs.size, .none, .none, .none, .bool false, .none] }) (typeOf (.ref (h.objs.size + 1))) (.ref 44) := (Looks.ld hx).andThen .now
  have s1 : Looks (model PG w) ((h.push { cls := .type "tuple", data := .seq #[.str x tx] }).push { cls := .ref 44, data := .fields #[.ref h.objs.size, .none, .none, .none, .bool false, .none] }) (isSubtype (.ref 44) (.ref 44)) true := looks_subIn X2 (by k_is)
  have i1 : Looks (model PG w) ((h.push { cls := .type "tuple", data := .seq #[.str x tx] }).push { cls := .ref 44, data := .fields #[.ref h.objs.size, .none, .none, .none, .bool false, .none] }) (typeLookup (.ref 44) "__init__") (some (.ref 28)) := looks_findIn X2 (by k_is)
  have b1 := bind_fn (M := model PG w) X2 (f := 28) (.ref (h.objs.size + 1)) (by k_is)
  rw [Heap.size_push]
  repeat ((fail_if_success (with_reducible show wpAny _ _ (isInstance _ _) _ _ _)); lk)
  refine Looks.at (t := isInstance (.ref (h.objs.size + 1)) (.ref 44)) (t1.andThen (f := fun t => isSubtype t (.ref 44)) s1) ?_
  repeat ((fail_if_success (with_reducible show wpAny _ _ (callSpecial? _ _ _) _ _ _)); lk)
  unfold callSpecial? specialOf
  repeat (first | with_reducible refine wpAny_call ?_ | lk)
  refine codeAny_mono (hq _ (h.objs.size + 1) ⟨k2, by simp only [Heap.size_push]; omega⟩ (Heap.get?_none_of_le (Nat.le_succ _)) ⟨_, hx⟩) fun r s' z => ?_
  rcases r with e | (v | _ | _ | _) <;> first | exact z | exact z.elim | skip
  obtain ⟨rfl, z⟩ := z
  exact wpAny_pure (wpAny_pure z)
theorem meta_exception : typeOf (.type "Exception") = pure (.type "type") := by kernel_rfl
theorem exc_init_call {w : World} {A : Around} {s : Shared} {E : Value → Shared → Prop} {e tp : Addr} {x : Str} {tx : Tok} {Q : Value → Shared → Prop} (X : (layK.heap_1 w.params).In s.heap) (he : s.heap.get? e = some { cls := .ref 44, data := .fields #[.ref tp, .none, .none, .none, .bool false, .none] })
    (hq : ∀ h' tp', (∀ b o, b ≠ e → s.heap.get? b = some o → h'.get? b = some o) → s.heap.objs.size ≤ h'.objs.size → h'.get? e = some { cls := .ref 44, data := .fields #[.ref tp', .none, .none, .none, .bool false, .none] } → Q .none { s with heap := h' }) :
    wpAny (model PG w) A (call (.builtin "Exception.__init__") [.ref e, .str x tx] []) Q E s := by
  have F := PySem.F.excBase_Exception
  have t1 : Looks (model PG w) s.heap (typeOf (.ref e)) (.ref 44) := (Looks.ld he).andThen .now
  have hB : Looks (model PG w) s.heap (isSubtype (.ref 44) (.type "Exception")) true := looks_subIn X (by k_is)
  have ii : Looks (model PG w) s.heap (isInstance (.ref e) (.type "Exception")) true := t1.andThen (f := fun t => isSubtype t (.type "Exception")) hB
  have hC := X 44 _ (by k_is)
  obtain ⟨hh, g, d, t, os⟩ := s
  refine wpAny_call (codeAny_call_builtin F.init.plain F.initEntry ?_)
  have hstar := F.noStar
  simp only [checkBuiltinCall, F.initKind, F.initSplit, F.initRow]
  repeat lk
  have he2 : (hh.push { cls := .type "tuple", data := .seq #[.str x tx] }).get? e = _ := Heap.get?_push_of_some _ he
  repeat ((fail_if_success (with_reducible show wpAny _ _ (setField _ _ _) _ _ _)); lk)
  refine wpAny_setField he2 rfl (Nat.zero_lt_succ _) ?_
  repeat lk
  refine hq _ hh.objs.size (fun b o n z => ?_) ?_ ?_
  · exact (Heap.get?_update_other _ _ (Ne.symm n)).trans (Heap.get?_push_of_some _ z)
  · rw [Heap.size_after_update, Heap.size_push]; exact Nat.le_succ _
  · exact Heap.get?_update_self _ he2 rfl
theorem nd_update {A : Around} {s : Shared} {α : Type} {M : Model} {E : Value → Shared → Prop} {Q : α → Shared → Prop} {a : Addr} {q : Option Value} {f : Obj → Obj} {k : Unit → Sem α} {o : Obj} (ho : s.heap.get? a = some o) (h : wpAny M A (k ()) Q E { s with heap := s.heap.update a f }) :
    wpAny M A (.update a q f k) Q E s := fun Γ p hΓ => by
  rw [Sem.wp_update]
  exact ⟨by rw [ho]; rfl, h Γ p hΓ⟩
theorem exc_set_text {w : World} {A : Around} {s : Shared} {E : Value → Shared → Prop} {e tp : Addr} {v : Value} {Q : Unit → Shared → Prop} (X : (layK.heap_1 w.params).In s.heap) (he : s.heap.get? e = some { cls := .ref 44, data := .fields #[.ref tp, .none, .none, .none, .bool false, .none] })
    (hq : ∀ h' tk d, (∀ b o, b ≠ e → s.heap.get? b = some o → h'.get? b = some o) → s.heap.objs.size ≤ h'.objs.size → s.heap.get? d = none → h'.get? e = some { cls := .ref 44, dict := some d, data := .fields #[.ref tp, .none, .none, .none, .bool false, .none] } →
      h'.Ns d (fun y => if y = "text" then some v else none) → Q () { s with heap := h', toks := tk }) :
    wpAny (model PG w) A (setAttr (.ref e) "text" v) Q E s := by
  have t1 : Looks (model PG w) s.heap (typeOf (.ref e)) (.ref 44) := (Looks.ld he).andThen .now
  have hS : Looks (model PG w) s.heap (typeLookup (.ref 44) "__setattr__") _ := looks_findIn X (by k_is)
  have hT : Looks (model PG w) s.heap (typeLookup (.ref 44) "text") _ := looks_findIn X (by k_is)
  have hC := X 44 _ (by k_is)
  obtain ⟨hh, g, d, t, os⟩ := s
  unfold setAttr
  repeat (first | with_reducible refine wpAny_call ?_ | lk)
  have SF := PySem.F.store_object
  have hO : Looks (model PG w) hh (isSubtype (.ref 44) (.type "object")) true := looks_subIn X (by k_is)
  have sub : Looks (model PG w) hh (isInstance (.ref e) (.type "object")) true := t1.andThen (f := fun t => isSubtype t (.type "object")) hO
  refine codeAny_call_builtin SF.slot.plain SF.entry (@check_slot (model PG w) _ _ ⟨hh, g, d, t + 1, os⟩ "object.__setattr__" "object" "__setattr__" (.ref e) [.str (Str.ofString "text") t, v] [] _ SF.kind SF.split sub (SF.args (.ref e) (.str (Str.ofString "text") t) v) ?_)
  show wpAny _ _ (Builtin.«object.__setattr__» ⟨[.ref e, .str (Str.ofString "text") t, v], []⟩) _ _ _
  rw [osa_eq]
  repeat lk
  have hne : hh.objs.size ≠ e := Nat.ne_of_gt (Heap.lt_size he)
  have he2 : (hh.push { cls := .type "dict", data := .dict #[] }).get? e = _ := Heap.get?_push_of_some _ he
  have he3 : ((hh.push { cls := .type "dict", data := .dict #[] }).update e (fun o => { cls := o.cls, dict := some hh.objs.size, data := o.data, slots := o.slots })).get? e = _ := Heap.get?_update_self _ he2 rfl
  have hd3 : ((hh.push { cls := .type "dict", data := .dict #[] }).update e (fun o => { cls := o.cls, dict := some hh.objs.size, data := o.data, slots := o.slots })).get? hh.objs.size = _ := (Heap.get?_update_other _ _ (Ne.symm hne)).trans (Heap.get?_push_size hh rfl)
  refine nd_update he2 ?_
  repeat lk
  generalize (if (Str.ofString "text").cps.isEmpty = true then (0 : Int) else reduceHash ((model PG w).w.params.strHash (Str.ofString "text").cps)) = H
  have hp : Obj.putName (Str.ofString "text") H (Value.str (Str.ofString "text") (t + 1)) v ⟨.type "dict", none, .dict #[] 0, #[]⟩ = dictOf [⟨H, Value.str (Str.ofString "text") (t + 1), v⟩] 1 := putName_dict _ _ _ _ [] 0
  refine nd_update hd3 ?_
  have hd4 : (((hh.push { cls := .type "dict", data := .dict #[] }).update e (fun o => { cls := o.cls, dict := some hh.objs.size, data := o.data, slots := o.slots })).update hh.objs.size (Obj.putName (Str.ofString "text") H (Value.str (Str.ofString "text") (t + 1)) v)).get? hh.objs.size = some (dictOf [⟨H, Value.str (Str.ofString "text") (t + 1), v⟩] 1) := by
    rw [← hp]
    exact Heap.get?_update_self _ hd3 (by rw [hp]; rfl)
  repeat ((fail_if_success (with_reducible show wpAny _ _ (lookBehind _ _) _ _ _)); lk)
  refine wpAny_lookBehind hd4 (pastItsLine_dict (by rw [sizeLine_eq]; exact Nat.le_of_ble_eq_true rfl)) ?_
  repeat lk
  refine hq _ _ hh.objs.size (fun b o n z => ?_) ?_ (Heap.get?_none_of_le (Nat.le_refl _)) ?_ ?_
  · have nb : hh.objs.size ≠ b := Nat.ne_of_gt (Heap.lt_size z)
    exact (Heap.get?_update_other _ _ nb).trans ((Heap.get?_update_other _ _ (Ne.symm n)).trans (Heap.get?_push_of_some _ z))
  · rw [Heap.size_after_update, Heap.size_after_update, Heap.size_push]; exact Nat.le_succ _
  · exact (Heap.get?_update_other _ _ hne).trans he3
  · refine ⟨_, _, _, hd4, rfl, ?_, ?_⟩
    · intro en hen
      have : en = ⟨H, Value.str (Str.ofString "text") (t + 1), v⟩ := by simpa using hen
      subst this
      exact ⟨_, _, rfl⟩
    · intro name
      by_cases hname : name = Str.ofString "text"
      · subst hname
        simp [nsFind, findBy, Value.isStr]
      · have : ¬ (Str.ofString "text" = name) := fun q => hname q.symm
        simp [nsFind, findBy, Value.isStr, this, hname]
theorem fr_off {g h h' : Heap} {L : Addr} {m : Str → Option Value} (M : List Addr) (F : Fr g L h m) (x : ∀ b o, b ∉ M → h.get? b = some o → h'.get? b = some o) (hM : ∀ a ∈ M, g.get? a = none) (hL : L ∉ M) : Fr g L h' m := by
  obtain ⟨o, es, ep, ho, r⟩ := F.ns
  exact ⟨⟨o, es, ep, x L o hL ho, r⟩, fun b o e => x b o (fun q => by rw [hM b q] at e; cases e) (F.keep b o e), F.above⟩
theorem fault_init {w : World} {A : Around} {G : Heap} {p : Program} {lo : List Str} {mean : ExcName → Option Value} {mg mb : Str → Option Value} {l : List Env} {k : Nat} {s : Shared} {R : Result → Shared → Prop} {e tp : Addr} {x : Str} {tx : Tok} (H : Here w A G p lo mean mg mb l (k + 1)) (hG : Gr G s.heap) (he : s.heap.get? e = some { cls := .ref 44, data := .fields #[.ref tp, .none, .none, .none, .bool false, .none] }) (hn : G.get? e = none)
    (hq : ∀ h' tk d, (∀ b o, b ≠ e → s.heap.get? b = some o → h'.get? b = some o) → s.heap.objs.size ≤ h'.objs.size → s.heap.get? d = none → (∃ tp, h'.get? e = some { cls := .ref 44, dict := some d, data := .fields #[.ref tp, .none, .none, .none, .bool false, .none] }) → h'.Ns d (fun y => if y = "text" then some (.str x tx) else none) → R (.ok (.ret .none)) { s with heap := h', toks := tk }) :
    codeAny (model PG w) A (.call (.ref 28) ⟨[.ref e, .str x tx], []⟩) R s := by
  (refine' enterK (M := [e]) ?Hz8 ?Gz8 ?hMz8 ?hoz8 ?hcdz8 ?hbz8 ?hlz8 ?_ ?c1z8 ?c2z8 ?c3z8 ?c4z8; (case Hz8 => exact H); (case Gz8 => exact hG); (case hoz8 => k_dflt k_is); (case hcdz8 => k_dflt k_is); (case hbz8 => exact BindsTo.of_eq rfl); (case hlz8 => exact locs rfl); (case c1z8 => decide); (case c2z8 => exact rfl); (case c3z8 => exact rfl); (case c4z8 => exact rfl))
  · intro a ha; rw [List.mem_singleton.mp ha]; exact hn
  intro g L h F hs hGg hoff hM hL H' KX T
  have N : News g L h [] := News.nil
  have he1 := hs.stay _ _ he
  k_steps
  refine' method_type ?Fz8 ?Xz8 meta_exception (by decide +kernel) ?ez8 ?hz8 ?_
  case Fz8 => exact F
  case Xz8 => exact KX
  case ez8 => k_dflt k_is
  case hz8 => k_handed
  k_steps
  have hLe : L ≠ e := fun q => by rw [q, he] at hL; cases hL
  refine exc_init_call (KX.keeps F.keep) he1 fun h2 tp2 o2 z2 he2 => ?_
  have F2 : Fr g L h2 _ := fr_off [e] F (fun b o n q => o2 b o (fun z => n (by rw [z]; exact .head _)) q) hM (by simpa using hLe)
  clear F
  have N2 : News g L h2 [] := News.nil
  k_steps
  refine exc_set_text (KX.keeps F2.keep) he2 fun h3 tk3 d3 o3 z3 hd3 he3 n3 => ?_
  dsimp only
  k_steps
  refine hq _ _ d3 (fun b o n q => o3 b o n (o2 b o n (hs.stay b o q))) (Nat.le_trans hs.size (Nat.le_trans z2 z3)) ?_ ⟨_, he3⟩ n3
  cases q : s.heap.get? d3 with
  | none => rfl
  | some o => exact absurd (o2 d3 o (fun z => by rw [z] at hd3; rw [hd3] at he2; cases he2) (hs.stay _ _ q)) (by rw [hd3]; intro z; cases z)
theorem Here.under {w : World} {A : Around} {G : Heap} {p : Program} {lo : List Str} {mean : ExcName → Option Value} {mg mb : Str → Option Value} {l : List Env} {k : Nat} {c : Code} (H : Here w A G p lo mean mg mb l (k + 1)) (hw : c.weight ≤ 2) (hu : c.cUnits ≤ 5) (he : c.envs = []) : Here w (A.under c) G p lo mean mg mb l k := by
  refine ⟨H.kin, H.top, ?_, ?_, H.hand, ?_, H.base⟩
  · show A.depth + c.weight + 2 * k < 900; have := H.room; omega
  · show A.units + c.cUnits + 5 * k < 9000; have := H.units; omega
  · show pushEnvs c.envs A.frames = some l
    rw [he]; exact H.stack
theorem new_fault {w : World} {A : Around} {G : Heap} {p : Program} {lo : List Str} {mean : ExcName → Option Value} {mg mb : Str → Option Value} {l : List Env} {k : Nat} {s : Shared} {E : Value → Shared → Prop} {x : Str} {tx : Tok} {Q : Value → Shared → Prop} (H : Here w A G p lo mean mg mb l (k + 2)) (hG : Gr G s.heap)
    (q : ∀ h' tk e d, Gr s.heap h' → s.heap.get? e = none → s.heap.get? d = none → (∃ tp, h'.get? e = some { cls := .ref 44, dict := some d, data := .fields #[.ref tp, .none, .none, .none, .bool false, .none] }) → h'.Ns d (fun y => if y = "text" then some (.str x tx) else none) → Q (.ref e) { s with heap := h', toks := tk }) :
    wpAny (model PG w) A (call (.ref 44) [.str x tx] []) Q E s := by
  obtain ⟨hh, g, d, t, os⟩ := s
  refine wpAny_call (fault_call (H.kin.keeps hG.stay) fun h1 e g1 ne1 ⟨tp, he1⟩ => ?_)
  have ne0 : G.get? e = none := none_of hG ne1
  have H1 : Here w (A.under (.builtin "type.__call__" ⟨[.ref 44, .str x tx], []⟩)) G p lo mean mg mb l (k + 1) := H.under (Nat.le_of_ble_eq_true (by kernel_rfl)) (Nat.le_of_ble_eq_true (by kernel_rfl)) (by kernel_rfl)
  refine fault_init (s := ⟨h1, g, d, t, os⟩) H1 (hG.trans g1) he1 ne0 fun h2 tk d2 o2 z2 nd2 he2 n2 => ?_
  refine ⟨rfl, q h2 tk e d2 ⟨fun b o z => o2 b o (fun z' => by rw [z', ne1] at z; cases z) (g1.stay b o z), Nat.le_trans g1.size z2⟩ ne1 (none_of g1 nd2) he2 n2⟩
theorem gr_of_fr {s : Shared} {g : Heap} {L : Addr} {m : Str → Option Value} (F : Fr g L s.heap m) : Gr g s.heap := ⟨F.keep, Nat.le_trans F.above (Nat.le_of_lt F.ns.lt)⟩
theorem eval_fault {w : World} {A : Around} {p : Program} {lo : List Str} {mean : ExcName → Option Value} {mg mb : Str → Option Value} {l : List Env} {k : Nat} {s : Shared} {E : Value → Shared → Prop} {g : Heap} {L a : Addr} {cn txt : Str} {cs : Scope} {ccd : Value} {ck : Nat} {np cp cpos : Pos} {m : Str → Option Value} {Q : Value → Shared → Prop}
    (H : Here w A g p lo mean mg mb l (k + 3)) (F : Fr g L s.heap m) (hk : cs.kind = .function) (hx : (envOf cn cs L a ccd).kindOf "RunFault" = some .globalImplicit)
    (q : ∀ h' tk tx e d, Gr s.heap h' → s.heap.get? e = none → s.heap.get? d = none → (∃ tp, h'.get? e = some { cls := .ref 44, dict := some d, data := .fields #[.ref tp, .none, .none, .none, .bool false, .none] }) → h'.Ns d (fun y => if y = "text" then some (.str txt tx) else none) → Q (.ref e) { s with heap := h', toks := tk }) :
    wpAny (model PG w) (A.deeper (envOf cn cs L a ccd)) (eval (.Call (.Name "RunFault" np) [.Constant (.str txt) ck cp] [] cpos) (envOf cn cs L a ccd)) Q E s := by
  have KX := H.kin
  have T := H.top
  have N : News g L s.heap [] := News.nil
  k_steps
  refine name_K F KX (topRead_of T) (v := .ref 44) (by k_is) ?_ hk hx (by decide)
  k_steps
  refine new_fault (k := k) (H.call F rfl (by show cs.kind ≠ _; rw [hk]; decide) [] (fun _ z => nomatch z) List.not_mem_nil) Gr.refl ?_
  intro h' tk e d g1 ne nd he hn
  exact q h' tk _ e d g1 ne nd he hn
theorem raise_fault {w : World} {A : Around} {p : Program} {lo : List Str} {mean : ExcName → Option Value} {mg mb : Str → Option Value} {l : List Env} {k : Nat} {s : Shared} {E : Value → Shared → Prop} {g h0 : Heap} {L a : Addr} {cn txt : Str} {cs : Scope} {ccd : Value} {ck : Nat} {np cp cpos pos : Pos} {m : Str → Option Value} {Q : Flow → Shared → Prop} {E' : Value → Shared → Prop}
    (H : Here w A g p lo mean mg mb l (k + 3)) (F : Fr g L s.heap m) (hL : h0.get? L = none) (g0 : Gr h0 s.heap) (hk : cs.kind = .function) (hx : (envOf cn cs L a ccd).kindOf "RunFault" = some .globalImplicit)
    (q : ∀ h' tk e, Flew l h0 h' e txt → E (.ref e) { s with heap := h', toks := tk }) :
    wpAny (model PG w) (A.deeper (envOf cn cs L a ccd)) (exec (.Raise (some (.Call (.Name "RunFault" np) [.Constant (.str txt) ck cp] [] cpos)) none pos) (envOf cn cs L a ccd)) Q
      (fun e s' => wpAny (model PG w) (A.deeper (envOf cn cs L a ccd)) (leaving (envOf cn cs L a ccd) e) (fun _ s'' => E e s'') E' s') s := by
  rw [arm_exec_Raise]
  refine wpAny_bind (wpAny_standAt ?_)
  show wpAny _ _ (raiseStmt _ (some (do let v ← eval (.Call (.Name "RunFault" np) [.Constant (.str txt) ck cp] [] cpos) (envOf cn cs L a ccd); standAt pos; pure v)) none) _ _ _
  unfold raiseStmt
  refine wpAny_bind (wpAny_bind (eval_fault H F hk hx fun h1 tk tx e d g1 ne nd ⟨tp, he⟩ hn => wpAny_bind (wpAny_standAt (wpAny_pure ?_))))
  have X1 := H.kin.keeps (gr_of_fr F |>.trans g1).stay
  have hC := X1 44 _ (by k_is)
  have t1 : Looks (model PG w) h1 (typeOf (.ref e)) (.ref 44) := (Looks.ld he).andThen .now
  have tt : Looks (model PG w) h1 (typeOf (.ref 44)) (.type "type") := looks_typeIn X1 (by k_is)
  have b1 : Looks (model PG w) h1 (isSubtype (.ref 44) (.type "BaseException")) true := looks_subIn X1 (by k_is)
  have i1 : Looks (model PG w) h1 (isInstance (.ref e) (.type "BaseException")) true := t1.andThen (f := fun t => isSubtype t (.type "BaseException")) b1
  have hhand : (A.deeper (envOf cn cs L a ccd)).handled = none := H.hand
  obtain ⟨hh, gg, dd, tk0, os⟩ := s
  repeat ((fail_if_success (with_reducible show wpAny _ _ (raiseNew _) _ _ _)); lk)
  refine wpAny_raiseNew_none hhand ?_
  have hf : (envOf cn cs L a ccd).frame = some L := rfl
  have hL1 : (∃ o, h1.get? L = some o ∧ ∀ vs, o.data ≠ .fields vs) := by
    obtain ⟨o, es, ep, ho, hd, _⟩ := F.ns
    exact ⟨o, g1.stay _ _ ho, fun vs z => by rw [hd] at z; cases z⟩
  obtain ⟨oL, hoL, hdL⟩ := hL1
  refine leave_new (h := h0) (Around.frames_deeper H.stack) ⟨by show cs.kind ≠ _; rw [hk]; decide, ⟨L, oL, hf, E0_get _, hoL, hdL⟩, H.funs.of_keeps fun b o z _ => ⟨o, (gr_of_fr F |>.trans g1).stay b o z, rfl⟩⟩ hf hL (g0.trans g1) ⟨⟨_, _, tx, he, rfl, rfl, rfl, rfl, hn⟩⟩ (none_of g0 ne) (none_of g0 nd) ?_
  intro h' X
  exact q h' _ e X
theorem exc_get_text {w : World} {A : Around} {s : Shared} {E : Value → Shared → Prop} {e d T : Addr} {x : Str} {fl : Value} {Q : Value → Shared → Prop} (X : (layK.heap_1 w.params).In s.heap) (Y : ExcOn s.heap e d T x fl)
    (q : ∀ tx tk, Q (.str x tx) { s with toks := tk }) : wpAny (model PG w) A (getAttr (.ref e) "text" true) Q E s := by
  obtain ⟨oe, vs, oT, ts, tx, he, hc, hdd, hd, h1, hTe, hoT, hts, h3, hn⟩ := Y
  obtain ⟨oc, od, dt, sl⟩ := oe
  dsimp only at hc hdd hd
  subst hc hdd hd
  have t1 : Looks (model PG w) s.heap (typeOf (.ref e)) (.ref 44) := (Looks.ld he).andThen .now
  have hT : Looks (model PG w) s.heap (typeLookup (.ref 44) "text") _ := looks_findIn X (by k_is)
  have hG : Looks (model PG w) s.heap (typeLookup (.ref 44) "__getattribute__") _ := looks_findIn X (by k_is)
  have hA : Looks (model PG w) s.heap (typeLookup (.ref 44) "__getattr__") _ := looks_findIn X (by k_is)
  have hC := X 44 _ (by k_is)
  obtain ⟨hh, g, dd, t, os⟩ := s
  unfold getAttr
  repeat (first | with_reducible refine wpAny_call ?_ | with_reducible refine wpAny_attempt ?_ | lk)
  have hB : Looks (model PG w) hh (isSubtype (.ref 44) (.type "BaseException")) true := looks_subIn X (by k_is)
  have ii : Looks (model PG w) hh (isInstance (.ref e) (.type "BaseException")) true := t1.andThen (f := fun t => isSubtype t (.type "BaseException")) hB
  refine codeAny_call_builtin (by decide +kernel) PySem.F.entry_bexc_ga (@check_slot (model PG w) _ _ ⟨hh, g, dd, t + 1, os⟩ "BaseException.__getattribute__" "BaseException" "__getattribute__" (.ref e) [.str (Str.ofString "text") t] [] _ (by decide +kernel) (by decide +kernel) ii (PySem.F.args_bexc_ga _ _) ?_)
  show wpAny _ _ (Builtin.«object.__getattribute__» ⟨[.ref e, .str (Str.ofString "text") t], []⟩) _ _ _
  unfold Builtin.«object.__getattribute__»
  repeat ((fail_if_success (with_reducible show wpAny _ _ (nsGet _ _) _ _ _)); lk)
  show wpAny _ _ (nsGet d (Str.ofString "text")) _ _ _
  refine wpAny_nsGet hn ?_
  rw [if_pos rfl]
  repeat lk
  exact q tx (t + 1)
theorem keeps_fn {M : Model} {h : Heap} {d : Addr} {oc : Value} {od : Option Addr} {fd : FuncData} {sl : Array (Option Value)} (ho : h.get? d = some ⟨oc, od, .func fd, sl⟩) : ∃ k, (k = Keeper.frame ∨ k = Keeper.machine ∨ k = Keeper.boundFrame) ∧ Looks M h (keeperOf (.ref d)) k :=
  ⟨.frame, .inl rfl, (Looks.ld (part := none) ho).andThen .now⟩
theorem call0_fn {w : World} {A : Around} {s : Shared} {E : Value → Shared → Prop} {env : Env} {pos : Pos} {d : Addr} {oc : Value} {od : Option Addr} {fd : FuncData} {sl : Array (Option Value)} {Q : Value → Shared → Prop} (ho : s.heap.get? d = some ⟨oc, od, .func fd, sl⟩) (h : wpAny (model PG w) A (call (.ref d) [] []) Q E s) :
    wpAny (model PG w) A (callWith pos (.ref d) [] (backTo pos (starEach [] env)) []) Q E s :=
  callWith_of (P := fun h => h.get? d = some ⟨oc, od, .func fd, sl⟩) rfl (fun _ z => keeps_fn z) (evalArgs_nil3 ⟨ho, h⟩)
theorem heard_spec {w : World} {A : Around} {G : Heap} {p : Program} {lo : List Str} {mean : ExcName → Option Value} {mg mb : Str → Option Value} {l : List Env} {k : Nat} {s : Shared} {E : Value → Shared → Prop} {M : List Addr} {d : Addr} {oc : Value} {od : Option Addr} {fd : FuncData} {sl : Array (Option Value)} {P : Value → Heap → Prop} {B : Str → Prop} {Q : Value → Shared → Prop}
    (H : Here w A G p lo mean mg mb l (k + 2)) (hG : Gr G s.heap) (hM : ∀ a ∈ M, G.get? a = none) (hME : ∀ a ∈ M, ∃ o, s.heap.get? a = some o) (hdd : s.heap.get? d = some ⟨oc, od, .func fd, sl⟩)
    (hD : ∀ A1 G1 l1 h1 tk1 (Q1 : Value → Shared → Prop) (E1 : Value → Shared → Prop), Here w A1 G1 p lo mean mg mb l1 k → Gr G1 h1 → (∀ b o, b ∉ M → h1.get? b = some o → G1.get? b = some o) → (∀ a ∈ M, G1.get? a = none) → Gr s.heap h1 →
      (∀ v h2 tk2, Off M h1 h2 → P v h2 → Q1 v { s with heap := h2, toks := tk2 }) → (∀ e x h2 tk2, B x → Flew l1 h1 h2 e x → E1 (.ref e) { s with heap := h2, toks := tk2 }) →
      wpAny (model PG w) A1 (call (.ref d) [] []) Q1 E1 { s with heap := h1, toks := tk1 })
    (q : ∀ v h' tk, Off M s.heap h' → P v h' → Q v { s with heap := h', toks := tk })
    (qb : ∀ x h' tk tk', B x → Kept l [] s.heap h' → Q (.str (heardText x) tk) { s with heap := h', toks := tk' }) :
    wpAny (model PG w) A (call (.ref 407) [.ref d] []) Q E s := by
  refine wpAny_call ?_
  (refine' enterK (M := M) ?Hz17 ?Gz17 ?hMz17 ?hoz17 ?hcdz17 ?hbz17 ?hlz17 ?_ ?c1z17 ?c2z17 ?c3z17 ?c4z17; (case Hz17 => exact H); (case Gz17 => exact hG); (case hoz17 => k_dflt k_is); (case hcdz17 => k_dflt k_is); (case hbz17 => exact BindsTo.of_eq rfl); (case hlz17 => exact locs rfl); (case c1z17 => decide); (case c2z17 => exact rfl); (case c3z17 => exact rfl); (case c4z17 => exact rfl))
  · exact hM
  intro g L h F hs hGg hoff hMg hL H' KX T
  have N : News g L h [] := News.nil
  have hLM : L ∉ M := fun z => by
    obtain ⟨o, ho⟩ := hME L z
    rw [hL] at ho; cases ho
  k_steps
  refine call0_fn (hs.stay _ _ hdd) ?_
  refine hD _ (hideAll h M) _ h _ _ _ ((H'.call F rfl ?f2z17 M hMg hLM).less (Nat.le_succ k)) ?g1z17 (fun b o n z => hideAll_get _ z n) (fun a ha => hideAll_none _ ha) hs ?_ ?_
  case f2z17 => exact fun z => by cases z
  case g1z17 => exact ⟨fun b o z => of_hideAll _ z, by rw [hideAll_size]; exact Nat.le_refl _⟩
  · intro v h2 tk2 o2 p2
    exact q v h2 tk2 ⟨fun b o n z => o2.1 b o n (hs.stay b o z), Nat.le_trans hs.size o2.2⟩ p2
  · intro e x h2 tk2 hB X
    obtain ⟨k2, dx, T, X, ne, nd, nT⟩ := X
    obtain ⟨B0, KB, TB, sB, zB, fB⟩ := H'.base
    have hgh : Gr g h := ⟨F.keep, Nat.le_trans F.above (Nat.le_of_lt F.ns.lt)⟩
    have nBL : B0.get? L = none := by
      cases z : B0.get? L with
      | none => rfl
      | some o' => exact absurd (Nat.lt_of_lt_of_le (Heap.lt_size z) (Nat.le_trans zB F.above)) (Nat.lt_irrefl _)
    obtain ⟨oL, esL, epL, hoL, hdL, hrL⟩ := id F.ns
    have fh : ∀ env : Env, env.scope.kind ≠ .module → env.frame = some L → h.FunFrames B0 (env :: l) := fun env e1 e2 =>
      ⟨e1, ⟨L, oL, e2, nBL, hoL, fun vs z => by rw [hdL] at z; cases z⟩, fB.of_keeps fun b o z _ => ⟨o, hgh.stay b o z, rfl⟩⟩
    have hfr := fun env : Env => Around.frames_deeper (env := env) H'.stack
    show wpAny _ _ (noteFrame (.ref e) _) _ _ _
    refine note_next (hfr _) (funs_E0 (k2.fun (fun b z => nomatch z) (fh _ (fun z => by cases z) rfl))) rfl X fun h3 T' k3 nT' X3 => ?_
    refine flight_off X3 fun h4 k4 X4 => ?_
    have nT0 : h.get? T' = none := by
      cases z : h.get? T' with
      | none => rfl
      | some o => obtain ⟨sl, hs'⟩ := k2.slot T' o z List.not_mem_nil; rw [show h2.get? T' = none from nT'] at hs'; cases hs'
    have k24 : Kept (envOf (Str.ofString "_law_heard") { kind := ScopeKind.function, names := [(Str.ofString "deed", NameKind.local), (Str.ofString "fault", NameKind.local), (Str.ofString "RunFault", NameKind.globalImplicit)], isGenerator := false, isCoroutine := false } L 407 (Value.ref 406) :: l) [] h h4 :=
      (((k2.mono (fun _ z => z) (fun b z => nomatch z)).trans (k3.mono (fun _ z => z) (fun b (z : b ∈ [e, T]) => (show b ∈ [e, T, T'] by simp at z; rcases z with rfl | rfl <;> simp)))).trans (k4.mono (fun b z => by simp [frs] at z) (fun b z => by simp at z; simp [z]))).strike
        (fun b hb => by simp at hb; rcases hb with rfl | rfl | rfl; exact ne; exact nT; exact nT0)
    have F4 : Fr B0 L h4 _ := ⟨k24.ns F.ns List.not_mem_nil, fun b o z => k24.same b o (hgh.stay b o (sB b o z)) List.not_mem_nil (fun hm => by
      have := ((fh _ (fun z => by cases z) rfl).mem hm).1
      rw [z] at this; cases this), Nat.le_trans zB F.above⟩
    have hC4 := (KB.keeps F4.keep) 44 _ (by k_is)
    refine wpAny_handleBy_cons (codeAny_handlers_test (name_K F4 KB (topRead_of TB) (v := .ref 44) (by k_is) ?_ rfl rfl (by decide))) (by intro q; cases q)
    obtain ⟨oe, vs, oT, ts, tx, he, hc, _⟩ := id X4.ex
    refine wpAny_excMatches_sub_self hC4 he hc (by decide +kernel) ?_
    show codeAny _ _ (.handlers (.ref e) [.ExceptHandler none (some (Str.ofString "fault")) _ _] _) _ _
    refine codeAny_handlers_suite_as ?_
    refine flight_off X4 fun h5 k5 X5 => ?_
    have neL : e ≠ L := fun z => by rw [z, hoL] at ne; cases ne
    have ndL : dx ≠ L := fun z => by rw [z, hoL] at nd; cases nd
    have nTL : T' ≠ L := fun z => by rw [z, hoL] at nT0; cases nT0
    have F5 : Fr B0 L h5 _ := ⟨k5.ns F4.ns (by simp [Ne.symm nTL]), fun b o z => k5.same b o (F4.keep b o z) (fun q => by
      simp at q; subst q
      have := F4.keep _ _ z
      have z2 := hgh.stay _ _ (sB _ _ z)
      rw [nT0] at z2; cases z2) (by simp [frs]), F4.above⟩
    refine wpAny_storeName_local rfl F5.ns (fun h6 n6 s6 => ?_) rfl
    have F6 : Fr B0 L h6 _ := F5.set n6 s6
    have X6 : ExcOn h6 e dx T' x .none := by
      obtain ⟨oe, vs, oT, ts, tx, he, hc, hdd, hd, h1, hTe, hoT, hts, h3, hn⟩ := X5
      exact ⟨oe, vs, oT, ts, tx, (s6.2 e neL).trans he, hc, hdd, hd, h1, hTe, (s6.2 T' nTL).trans hoT, hts, h3, hn.sameBut s6 ndL⟩
    have N6 : News B0 L h6 [] := News.nil
    clear F hGg hoff hMg F4 F5 N KX
    refine wpAny_mono (Q := TextOut x h6 s) (E := fun _ _ => False) ?_ (fun f s' z => ?_) (fun _ _ z => z.elim)
    · k_steps
      refine exc_get_text (KB.keeps F6.keep) X6 (fun tx6 tk6 => ?_)
      k_steps
      all_goals (rename_i a; refine ⟨_, _, congrArg (fun y => Flow.ret (.str y _)) ?_, rfl⟩)
      · exact (if_pos (eq_of_beq a)).symm
      · exact (if_neg (fun z => by rw [z] at a; simp at a)).symm
    · obtain ⟨tk, tk', rfl, rfl⟩ := z
      dsimp only
      refine wpAny_nameGoes_keeps rfl F6.ns rfl fun h7 v n7 s7 => ?_
      refine qb x h7 tk _ hB ?_
      have nb : ∀ b o, s.heap.get? b = some o → b ≠ L ∧ b ≠ T' := fun b o z => ⟨fun q => by (rw [q, hL] at z; cases z), fun q => by (rw [q] at z; have := hs.stay _ _ z; rw [nT0] at this; cases this)⟩
      refine ⟨fun b o z _ m => ?_, fun b o z _ => ?_, ?_⟩
      · refine (s7.2 b (nb b o z).1).trans ((s6.2 b (nb b o z).1).trans (k5.same b o (k24.same b o (hs.stay b o z) List.not_mem_nil ?_) (by simp [(nb b o z).2]) (by simp [frs])))
        rw [frs_cons (L := L) rfl]
        intro q
        rcases List.mem_cons.mp q with q | q
        · exact (nb b o z).1 q
        · exact m q
      · obtain ⟨sl1, e1⟩ := k24.slot b o (hs.stay b o z) List.not_mem_nil
        obtain ⟨sl2, e2⟩ := k5.slot b _ e1 (by simp [(nb b o z).2])
        exact ⟨sl2, (s7.2 b (nb b o z).1).trans ((s6.2 b (nb b o z).1).trans e2)⟩
      · exact Nat.le_trans hs.size (Nat.le_trans k24.size (Nat.le_trans k5.size (by rw [s7.1, s6.1]; exact Nat.le_refl _)))
theorem need_spec {w : World} {A : Around} {G : Heap} {p : Program} {lo : List Str} {mean : ExcName → Option Value} {mg mb : Str → Option Value} {l : List Env} {k : Nat} {s : Shared} {E Q : Value → Shared → Prop} {nl : Addr} {us : List Value} {a c : Int} {ta tb : Tok} (H : Here w A G p lo mean mg mb l (k + 3)) (hG : Gr G s.heap) (hl : s.heap.IsList nl us.toArray) (h0 : 0 ≤ a) (hc : c = 1) (h2 : us.length < 100)
    (qo : a + 1 ≤ us.length → ∀ h' tk, Gr s.heap h' → Q .none { s with heap := h', toks := tk })
    (qb : ¬ (a + 1 ≤ us.length) → ∀ e h' tk, Flew l s.heap h' e (Str.ofString "storage") → E (.ref e) { s with heap := h', toks := tk }) :
    wpAny (model PG w) A (call (.ref 102) [.ref nl, .int a ta, .int c tb] []) Q E s := by
  refine wpAny_call ?_
  (refine' enterK (M := []) ?Hz18 ?Gz18 ?hMz18 ?hoz18 ?hcdz18 ?hbz18 ?hlz18 ?_ ?c1z18 ?c2z18 ?c3z18 ?c4z18; (case Hz18 => exact H); (case Gz18 => exact hG); (case hoz18 => k_dflt k_is); (case hcdz18 => k_dflt k_is); (case hbz18 => exact BindsTo.of_eq rfl); (case hlz18 => exact locs rfl); (case c1z18 => decide); (case c2z18 => exact rfl); (case c3z18 => exact rfl); (case c4z18 => exact rfl))
  · intro _ h; cases h
  intro g L h F hs hGg hoff hM hL H' KX T
  have hl' : h.IsList nl us.toArray := stays_list hs.stay hl
  have N : News g L h [] := News.nil
  k_steps
  refine len_list hl' (by rw [List.size_toArray]; omega) ?_
  rw [List.size_toArray]
  k_steps
  · refine raise_fault H' F hL hs rfl rfl ?_
    intro h' tk e X
    exact qb (by omega) e h' tk X
  · exact qo (by omega) h _ hs
end
end
section
theorem fr_gr {g h : Heap} {L : Addr} {m : Str → Option Value} (F : Fr g L h m) : Gr g h := ⟨F.keep, Nat.le_trans F.above (Nat.le_of_lt F.ns.lt)⟩
theorem fr_on {g h h' : Heap} {L : Addr} {m : Str → Option Value} (F : Fr g L h m) (x : Gr h h') : Fr g L h' m := ⟨by obtain ⟨o, es, ep, ho, r⟩ := F.ns; exact ⟨o, es, ep, x.stay _ _ ho, r⟩, fun b o z => x.stay b o (F.keep b o z), F.above⟩
theorem news_on {g h h' : Heap} {L : Addr} {news : List (Addr × Obj)} (N : News g L h news) (x : Gr h h') : News g L h' news := fun q hq => ⟨x.stay _ _ (N q hq).1, (N q hq).2⟩
theorem here_of {w : World} {A : Around} {g base : Heap} {p : Program} {lo : List Str} {mean : ExcName → Option Value} {mg mb : Str → Option Value} {l : List Env} {k : Nat} (B : Below A base l g) (KB : (layK.heap_1 w.params).In base) (TB : Top p lo mean mg mb base) (X : (layK.heap_1 w.params).In g) (T : Top p lo mean mg mb g) (hz : base.objs.size ≤ g.objs.size)
    (hr : A.depth + 2 * k < 900) (hu : A.units + 5 * k < 9000) (hh : A.handled = none) : Here w A g p lo mean mg mb l k := ⟨X, T, hr, hu, hh, B.stack, base, KB, TB, B.stays, hz, B.frames⟩
/-- the fault flies through the frames l; h1 stood at the deed's start -/
structure Fly (l : List Env) (h h' : Heap) (e : Addr) (x : Str) : Prop where
  flew : Flew l h h' e x
  funs : h'.FunFrames E0 l
theorem fly_of {A : Around} {g h' h1 base : Heap} {outer : List Env} {s : Shared} {L : Addr} {m : Str → Option Value} {env : Env} {e : Addr} {x : Str} (B : Below A base outer g) (F : Fr g L s.heap m) (hf : env.frame = some L) (hk : env.scope.kind = .function) (g1 : Gr h1 s.heap) (X : Flew (env :: outer) s.heap h' e x) : Fly (env :: outer) h1 h' e x :=
  ⟨X.pre g1, X.kept.fun (fun _ z => nomatch z) (funs_E0 (pushX B F hf hk).frames)⟩
theorem leaves_funs {A : Around} {h : Heap} {outer : List Env} {s : Shared} {E : Value → Shared → Prop} {L : Addr} {env : Env} {e : Addr} {x : Str} {M : Model} {Q : Unit → Shared → Prop} {h₁ : Heap} (hfr : A.frames = some (env :: outer)) (hl : s.heap.FunFrames E0 (env :: outer)) (hf : env.frame = some L) (hL : h.get? L = none) (g : Gr h h₁) (X : Flew (env :: outer) h₁ s.heap e x)
    (q : ∀ h', Fly outer h h' e x → Q () { s with heap := h' }) : wpAny M A (leaving env (.ref e)) Q E s := by
  obtain ⟨hk0, d, T, X, he, hd, hT⟩ := X
  unfold leaving
  refine wpAny_bind (note_next hfr hl hf X fun h' T' hk hT' hX => ?_)
  have hT0 : h.get? T' = none := by
    cases z : h.get? T' with
    | none => rfl
    | some o =>
      obtain ⟨sl, hs⟩ := hk0.slot T' o (g.stay _ _ z) List.not_mem_nil
      rw [hT'] at hs; cases hs
  refine flight_off hX fun h'' hk' hX' => q h'' ⟨⟨?_, d, T', hX', none_of g he, none_of g hd, hT0⟩, ?_⟩
  · have k1 : Kept (env :: outer) [e, T, T'] h h'' := (((hk0.mono (fun _ z => z) (fun b z => by simp at z)).trans (hk.mono (fun _ z => z) (fun b z => by simp at z; rcases z with rfl | rfl <;> simp))).trans (hk'.mono (fun b z => by simp [frs] at z) (fun b z => by simp at z; simp [z]))).pre g
    have k2 := k1.strike (fun b hb => by simp at hb; rcases hb with rfl | rfl | rfl; exact none_of g he; exact none_of g hT; exact hT0)
    exact ⟨fun b o ho n m => k2.same b o ho n (by rw [frs_cons hf]; intro z; rcases List.mem_cons.mp z with rfl | z; (rw [hL] at ho; cases ho); exact m z), k2.slot, k2.size⟩
  · obtain ⟨oe, vs, oT, ts, tx, he', hc, hdd, hd', h1, hTe, hoT, hts, h3, hn⟩ := X
    have f1 : h'.FunFrames E0 (env :: outer) := hk.fun (fun b z => by
      simp at z; rcases z with rfl | rfl
      · exact fun o ho => ⟨vs, by rw [he'] at ho; cases ho; exact hd'⟩
      · exact fun o ho => ⟨ts, by rw [hoT] at ho; cases ho; exact hts⟩) hl
    obtain ⟨oe2, vs2, oT2, ts2, tx2, _, _, _, _, _, _, hoT2, hts2, _⟩ := hX
    exact (hk'.fun (fun b z => by simp at z; subst z; exact fun o ho => ⟨ts2, by rw [hoT2] at ho; cases ho; exact hts2⟩) f1).2.2
theorem fly_up {A : Around} {h : Heap} {outer : List Env} {s : Shared} {E : Value → Shared → Prop} {L : Addr} {env : Env} {e : Addr} {x : Str} {M : Model} {Q : Unit → Shared → Prop} (hfr : A.frames = some (env :: outer)) (hf : env.frame = some L) (hL : h.objs.size ≤ L) (X : Fly (env :: outer) h s.heap e x)
    (q : ∀ h', Fly outer h h' e x → Q () { s with heap := h' }) : wpAny M A (leaving env (.ref e)) Q E s :=
  leaves_funs hfr X.funs hf (Heap.get?_none_of_le hL) Gr.refl X.flew q
theorem gr_back {g h h1 : Heap} {news0 : List (Addr × Obj)} (N1 : ∀ q ∈ news0, h1.get? q.1 = some q.2) (hoff : ∀ b o, b ∉ news0.map (·.1) → h1.get? b = some o → g.get? b = some o) (hz : h1.objs.size ≤ g.objs.size)
    (hg : Gr g h) (hn : ∀ q ∈ news0, h.get? q.1 = some q.2) : Gr h1 h := by
  refine ⟨fun b o z => ?_, Nat.le_trans hz hg.size⟩
  by_cases hb : b ∈ news0.map (·.1)
  · obtain ⟨q, hq, rfl⟩ := List.mem_map.mp hb
    rw [N1 q hq] at z; cases z; exact hn q hq
  · exact hg.stay b o (hoff b o hb z)
/-- the entry into a def or lambda that the heap holds -/
theorem enterX {w : World} {A : Around} {G : Heap} {p : Program} {lo : List Str} {mean : ExcName → Option Value} {mg mb : Str → Option Value} {l : List Env} {k : Nat} {s : Shared} {news : List (Addr × Obj)} {R : Result → Shared → Prop} {name qual : Str} {params : Arguments} {body : List Stmt} {scope : Scope} {cl : List (Str × Addr)} {dV kV doc pm cdv ct : Value} {an : Option Addr} {fo : Obj} {f : Addr} {args : Args} {binds : List (Str × Value)}
    (H : Here w A G p lo mean mg mb l (k + 1)) (hG : Gr G s.heap) (hN : ∀ q ∈ news, s.heap.get? q.1 = some q.2) (hM : ∀ q ∈ news, G.get? q.1 = none)
    (ho : s.heap.get? f = some fo) (hdat : fo.data = .func (fnX name qual params body scope cl dV kV doc pm an cdv ct)) (hcd : s.heap.CodeRec cdv qual)
    (hbind : BindsTo s (fnX name qual params body scope cl dV kV doc pm an cdv ct) args binds) (hloc : ∀ y ∈ binds, scope.names.lookup y.1 = some .local)
    (h : ∀ g L' h₁ base, Fr g L' h₁ (fun y => binds.reverse.lookup y) → News g L' h₁ news → Below A base l g → (layK.heap_1 w.params).In base → Top p lo mean mg mb base → base.objs.size ≤ g.objs.size → (layK.heap_1 w.params).In g → Top p lo mean mg mb g →
      (∀ b o, b ∉ news.map (·.1) → s.heap.get? b = some o → g.get? b = some o) → s.heap.objs.size ≤ g.objs.size →
      wpAny (model PG w) (A.deeper (envX qual scope L' f cdv cl)) (execs body (envX qual scope L' f cdv cl))
        (fun fl s' => R (.ok (.ret (match fl with | .ret v => v | _ => .none))) s')
        (fun e s' => wpAny (model PG w) (A.deeper (envX qual scope L' f cdv cl)) (leaving (envX qual scope L' f cdv cl) e) (fun _ s'' => R (.error e) s'') (fun e' s'' => R (.error e') s'') s')
        { s with heap := h₁, toks := s.toks + binds.length })
    (hcell : ∀ x ∈ scope.names, x.2 ≠ .cell) (hco : scope.isCoroutine = false) (hgen : scope.isGenerator = false) (hk : scope.kind = .function) :
    codeAny (model PG w) A (.call (.ref f) args) R s := by
  have hroom : A.depth < recursionLimit := by have := H.room; show A.depth < 1000; omega
  have hM' : ∀ a ∈ news.map (·.1), G.get? a = none := fun a ha => by obtain ⟨q, hq, rfl⟩ := List.mem_map.mp ha; exact hM q hq
  have hg : Gr G (hideAll s.heap (news.map (·.1))) := hG.hide hM'
  have H' := H.keeps hg
  obtain ⟨B0, b1, b2, b3, b4, b5⟩ := H'.base
  refine codeAny_call_def (fd := fnX name qual params body scope cl dV kV doc pm an cdv ct) (body := body) (binds := binds) hroom ho hdat (H.top.nolimit.keeps hG.stay) hcd rfl hbind hcell hloc (fun h₁ hns hk₁ => ?_) hco hgen hk
  exact h (hideAll s.heap (news.map (·.1))) s.heap.objs.size h₁ B0 ⟨hns, fun b o e => hk₁ b o (of_hideAll _ e), Nat.le_of_eq (hideAll_size _ _)⟩
    (fun q hq => ⟨hk₁ _ _ (hN q hq), Nat.ne_of_lt (Heap.lt_size (hN q hq)), hideAll_none _ (List.mem_map_of_mem hq)⟩) ⟨H'.stack, b3, b5⟩ b1 b2 b4 H'.kin H'.top
    (fun b o n e => hideAll_get _ e n) (Nat.le_of_eq (hideAll_size _ _).symm)
/-- the program's need_units, called from a walked body -/
theorem need_K {w : World} {A : Around} {g h1 base : Heap} {p : Program} {lo : List Str} {mean : ExcName → Option Value} {mg mb : Str → Option Value} {l : List Env} {s : Shared} {E Q : Value → Shared → Prop} {L : Addr} {m : Str → Option Value} {env : Env} {nl : Addr} {us : List Value} {a c : Int} {ta tb : Tok} {news : List (Addr × Obj)} (B : Below A base l g) (KB : (layK.heap_1 w.params).In base) (TB : Top p lo mean mg mb base) (X : (layK.heap_1 w.params).In g) (T : Top p lo mean mg mb g) (F : Fr g L s.heap m) (N : News g L s.heap news)
    (hf : env.frame = some L) (hk : env.scope.kind = .function) (hl : s.heap.IsList nl us.toArray) (h0 : 0 ≤ a) (hc : c = 1) (h2 : us.length < 100)
    (hz : base.objs.size ≤ g.objs.size) (hr : A.depth + 8 < 900) (hu : A.units + 20 < 9000) (hh : A.handled = none) (g1 : Gr h1 s.heap)
    (qo : a + 1 ≤ us.length → ∀ h' tk, Fr g L h' m → News g L h' news → Gr s.heap h' → Q .none { s with heap := h', toks := tk })
    (qb : ¬ (a + 1 ≤ us.length) → ∀ e h' tk, Fly (env :: l) h1 h' e (Str.ofString "storage") → E (.ref e) { s with heap := h', toks := tk }) :
    wpAny (model PG w) (A.deeper env) (call (.ref 102) [.ref nl, .int a ta, .int c tb] []) Q E s :=
  need_spec ((here_of (k := 4) B KB TB X T hz hr hu hh).call F hf (by rw [hk]; decide) [] (fun _ z => nomatch z) List.not_mem_nil) Gr.refl hl h0 hc h2
    (fun q h' tk x => qo q h' tk (fr_on F x) (news_on N x) x) (fun q e h' tk x => qb q e h' tk (fly_of B F hf hk g1 x))
/-- raise RunFault(text) in a walked body -/
theorem raise_K {w : World} {A : Around} {g h1 base : Heap} {p : Program} {lo : List Str} {mean : ExcName → Option Value} {mg mb : Str → Option Value} {l : List Env} {s : Shared} {E : Value → Shared → Prop} {L : Addr} {m : Str → Option Value} {a : Addr} {cn txt : Str} {cs : Scope} {ccd : Value} {ck : Nat} {np cp cpos pos : Pos} {Q : Flow → Shared → Prop} {E' : Value → Shared → Prop}
    (B : Below A base l g) (KB : (layK.heap_1 w.params).In base) (TB : Top p lo mean mg mb base) (X : (layK.heap_1 w.params).In g) (T : Top p lo mean mg mb g) (F : Fr g L s.heap m) (hL : h1.objs.size ≤ L) (hk : cs.kind = .function) (hx : (envOf cn cs L a ccd).kindOf "RunFault" = some .globalImplicit)
    (hz : base.objs.size ≤ g.objs.size) (hr : A.depth + 8 < 900) (hu : A.units + 20 < 9000) (hh : A.handled = none) (g1 : Gr h1 s.heap)
    (q : ∀ h' tk e, Fly l h1 h' e txt → E (.ref e) { s with heap := h', toks := tk }) :
    wpAny (model PG w) (A.deeper (envOf cn cs L a ccd)) (exec (.Raise (some (.Call (.Name "RunFault" np) [.Constant (.str txt) ck cp] [] cpos)) none pos) (envOf cn cs L a ccd)) Q
      (fun e s' => wpAny (model PG w) (A.deeper (envOf cn cs L a ccd)) (leaving (envOf cn cs L a ccd) e) (fun _ s'' => E e s'') E' s') s := by
  have FF : (hideAll s.heap [L]).FunFrames E0 l := by
    have nL : ∀ b ∈ frs l, b ≠ L := fun b hb z => by
      obtain ⟨_, o, ho, _⟩ := B.frames.mem hb
      exact absurd (Nat.lt_of_lt_of_le (Heap.lt_size (z ▸ ho)) F.above) (Nat.lt_irrefl _)
    have FE : g.FunFrames E0 l := funs_E0 B.frames
    exact funFrames_hideAll (FE.of_keeps fun b o z _ => ⟨o, F.keep b o z, rfl⟩) fun env' he b hb hf' => by
      rw [List.mem_singleton.mp hb] at hf'
      exact nL L (List.mem_filterMap.mpr ⟨env', he, hf'⟩) rfl
  have g0 : Gr (hideAll s.heap [L]) s.heap := ⟨fun b o z => of_hideAll _ z, Nat.le_of_eq (hideAll_size _ _)⟩
  refine raise_fault (h0 := hideAll s.heap [L]) (here_of (k := 3) B KB TB X T hz (by omega) (by omega) hh) F (hideAll_none _ (.head _)) g0 hk hx fun h' tk e Y => q h' tk e ⟨Y.pre ⟨fun b o z => hideAll_get _ (g1.stay b o z) (fun u => ?_), by rw [hideAll_size]; exact g1.size⟩, Y.kept.fun (fun _ z => nomatch z) FF⟩
  rw [List.mem_singleton.mp u] at z
  exact absurd (Nat.lt_of_lt_of_le (Heap.lt_size z) hL) (Nat.lt_irrefl _)
end
section
abbrev tupOf (vs : List Value) (n : Nat) : Obj := { cls := .type "tuple", data := .seq vs.toArray n }
/-- what a unit of the storage holds: nothing, a number, a label -/
inductive Cel where
  | no | num (x : Int) | lab (x : Int)
def CelIs (v : Value) (r : Addr) (or : Obj) : Cel → Prop
  | .no => v = .none
  | .num x => v = .ref r ∧ ∃ ta tb n, or = tupOf [.int 0 ta, .int x tb] n
  | .lab x => v = .ref r ∧ ∃ ta tb n, or = tupOf [.int 7 ta, .int x tb] n
/-- the entry into a lambda that the heap holds -/
theorem enterE {w : World} {A : Around} {G : Heap} {p : Program} {lo : List Str} {mean : ExcName → Option Value} {mg mb : Str → Option Value} {l : List Env} {k : Nat} {s : Shared} {news : List (Addr × Obj)} {R : Result → Shared → Prop} {name qual : Str} {params : Arguments} {body : Expr} {scope : Scope} {cl : List (Str × Addr)} {pm cdv ct : Value} {fo : Obj} {f : Addr} {args : Args} {binds : List (Str × Value)}
    (H : Here w A G p lo mean mg mb l (k + 1)) (hG : Gr G s.heap) (hN : ∀ q ∈ news, s.heap.get? q.1 = some q.2) (hM : ∀ q ∈ news, G.get? q.1 = none)
    (ho : s.heap.get? f = some fo) (hdat : fo.data = .func (kla_fn name qual params body scope cl pm cdv ct)) (hcd : s.heap.CodeRec cdv qual)
    (hbind : bindArgs (kla_fn name qual params body scope cl pm cdv ct) args = pure binds) (hloc : ∀ y ∈ binds, scope.names.lookup y.1 = some .local)
    (h : ∀ g L' h₁ base, Fr g L' h₁ (fun y => binds.reverse.lookup y) → News g L' h₁ news → Below A base l g → (layK.heap_1 w.params).In base → Top p lo mean mg mb base → base.objs.size ≤ g.objs.size → (layK.heap_1 w.params).In g → Top p lo mean mg mb g →
      (∀ b o, b ∉ news.map (·.1) → s.heap.get? b = some o → g.get? b = some o) → s.heap.objs.size ≤ g.objs.size →
      wpAny (model PG w) (A.deeper (envX qual scope L' f cdv cl)) (eval body (envX qual scope L' f cdv cl))
        (fun v s' => R (.ok (.ret v)) s')
        (fun e s' => wpAny (model PG w) (A.deeper (envX qual scope L' f cdv cl)) (leaving (envX qual scope L' f cdv cl) e) (fun _ s'' => R (.error e) s'') (fun e' s'' => R (.error e') s'') s')
        { s with heap := h₁, toks := s.toks + binds.length })
    (hcell : ∀ x ∈ scope.names, x.2 ≠ .cell) (hco : scope.isCoroutine = false) (hgen : scope.isGenerator = false) (hk : scope.kind = .function) :
    codeAny (model PG w) A (.call (.ref f) args) R s := by
  have hroom : A.depth < recursionLimit := by have := H.room; show A.depth < 1000; omega
  have hM' : ∀ a ∈ news.map (·.1), G.get? a = none := fun a ha => by obtain ⟨q, hq, rfl⟩ := List.mem_map.mp ha; exact hM q hq
  have hg : Gr G (hideAll s.heap (news.map (·.1))) := hG.hide hM'
  have H' := H.keeps hg
  obtain ⟨B0, b1, b2, b3, b4, b5⟩ := H'.base
  refine kla_callFunE hroom ho hdat hco hgen rfl hcd ?_
  rw [hbind]
  refine wpAny_pure (wpAny_newFunctionEnv hcell hloc (fun h₁ hns hsb => ⟨(H.top.nolimit.keeps hG.stay).fresh _ hsb, ?_⟩) hk)
  show codeAny _ _ (.expr body (envX qual scope s.heap.objs.size f cdv cl)) _ _
  have hk₁ : ∀ b o, s.heap.get? b = some o → h₁.get? b = some o := fun b o e => hsb.extBut b o (Nat.ne_of_lt (Heap.lt_size e)) (Heap.get?_push_of_some _ e)
  exact kla_codeExpr (h (hideAll s.heap (news.map (·.1))) s.heap.objs.size h₁ B0 ⟨hns, fun b o e => hk₁ b o (of_hideAll _ e), Nat.le_of_eq (hideAll_size _ _)⟩
    (fun q hq => ⟨hk₁ _ _ (hN q hq), Nat.ne_of_lt (Heap.lt_size (hN q hq)), hideAll_none _ (List.mem_map_of_mem hq)⟩) ⟨H'.stack, b3, b5⟩ b1 b2 b4 H'.kin H'.top
    (fun b o n e => hideAll_get _ e n) (Nat.le_of_eq (hideAll_size _ _).symm))
theorem fr_size {g h : Heap} {L : Addr} {m : Str → Option Value} (F : Fr g L h m) : g.objs.size ≤ h.objs.size := (fr_gr F).size
theorem news_at {g h : Heap} {L : Addr} {news : List (Addr × Obj)} {q : Addr × Obj} (N : News g L h news) (hq : q ∈ news) : h.get? q.1 = some q.2 := (N q hq).1
theorem set_K {w : World} {A : Around} {g : Heap} {s : Shared} {E : Value → Shared → Prop} {L : Addr} {m : Str → Option Value} {nl nn : Nat} {od : Option Addr} {sl : Array (Option Value)} {us : List Value} {a : Int} {t : Tok} {v : Value} {front rest : List (Addr × Obj)} {Q : Unit → Shared → Prop} (F : Fr g L s.heap m) (N : News g L s.heap (front ++ (nl, ⟨.type "list", od, .seq us.toArray nn, sl⟩) :: rest))
    (h0 : 0 ≤ a) (hlt : a < us.length) (hlen : us.length < 10) (hf : ∀ q ∈ front, q.1 ≠ nl) (hr : ∀ q ∈ rest, q.1 ≠ nl)
    (q : ∀ h' od' n' sl', Fr g L h' m → News g L h' (front ++ (nl, ⟨.type "list", od', .seq (us.set a.toNat v).toArray n', sl'⟩) :: rest) → Q () { s with heap := h' }) : wpAny (model PG w) A (setItem (.ref nl) (.int a t) v) Q E s := by
  have hm : (nl, ⟨.type "list", od, .seq us.toArray nn, sl⟩) ∈ front ++ (nl, ⟨.type "list", od, .seq us.toArray nn, sl⟩) :: rest := List.mem_append_right _ (.head _)
  have z := N _ hm
  refine wpAny_setItem_list (News.isList N hm) h0 (by omega) (by simp; omega) fun h' hl hsb => ?_
  obtain ⟨⟨c, od', dt, sl'⟩, ho, hc, n', hdt⟩ := hl
  dsimp only at hc hdt
  subst hc hdt
  refine q h' od' n' sl' ⟨F.ns.sameBut hsb (Ne.symm z.2.1), fun b o e => (hsb.2 b (fun q => by rw [q, z.2.2] at e; cases e)).trans (F.keep b o e), F.above⟩ fun p hp => ?_
  rcases List.mem_append.mp hp with hp | hp
  · exact ⟨(hsb.2 _ (hf p hp)).trans (N p (List.mem_append_left _ hp)).1, (N p (List.mem_append_left _ hp)).2⟩
  rcases List.mem_cons.mp hp with rfl | hp
  · exact ⟨by simpa using ho, z.2⟩
  · exact ⟨(hsb.2 _ (hr p hp)).trans (N p (List.mem_append_right _ (.tail _ hp))).1, (N p (List.mem_append_right _ (.tail _ hp))).2⟩
theorem fresh_of {g h : Heap} {ns : List (Addr × Obj)} {r : Addr} (hoff : ∀ b o, b ∉ ns.map (·.1) → h.get? b = some o → g.get? b = some o) (hlt : ∀ q ∈ ns, q.1 < r) (hg : g.get? r = none) : h.get? r = none := by
  cases z : h.get? r with
  | none => rfl
  | some o =>
    rw [hoff r o (fun y => by obtain ⟨q, hq, e⟩ := List.mem_map.mp y; exact absurd (hlt q hq) (by rw [← e]; exact Nat.lt_irrefl _)) z] at hg
    cases hg
theorem news_new {g h : Heap} {L : Addr} {news : List (Addr × Obj)} {q : Addr × Obj} (N : News g L h news) (hq : q ∈ news) : g.get? q.1 = none := (N q hq).2.2
theorem range_inv {w : World} {A : Around} {g : Heap} {s : Shared} {E : Value → Shared → Prop} {news : List (Addr × Obj)} {env : Env} {r : Addr} {a₀ b₀ : Int} {t₀ u₀ v₀ : Tok} {n : Nat} {m₀ : Str → Option Value} {x : Str} {body : List Stmt} {Q : Flow → Shared → Prop} (J : Nat → (Str → Option Value) → List (Addr × Obj) → Prop)
    (hh : A.handled = none) (hr : IsRange s.heap r a₀ b₀ 1 t₀ u₀ v₀) (hsmall : Builtin.Range.small a₀ b₀ 1 = true) (hsz : Builtin.Range.rangeSize a₀ b₀ 1 = (n : Int)) (F : Fr g env.locals s.heap m₀) (N : News g env.locals s.heap news) (hj : J 0 m₀ news)
    (turn : ∀ i t m₁ nx h tk own, i < n → OwnOff own (nx.map (·.1)) → J i m₁ nx → Fr g env.locals h (fun y => if y = x then some (.int (a₀ + (i : Nat)) t) else m₁ y) → News g env.locals h (nx ++ own) →
      wpAny (model PG w) A (execs body env) (InvPostG g env.locals (J (i + 1)) own { s with heap := h, toks := tk } Q) E { s with heap := h, toks := tk })
    (done : ∀ m₁ nx h tk, J n m₁ nx → Fr g env.locals h m₁ → News g env.locals h nx → Q .next { s with heap := h, toks := tk }) :
    wpAny (model PG w) A (pyIter (.ref r)) (fun it s₂ => LoopAtV PG w A g env x body Q E it s₂) E s := by
  refine wpAny_pyIter_range hr hsmall ?_
  have W : Walks PG w A s.heap.objs.size [s.heap.objs.size] [s.heap.objs.size] n (fun i v => i < n ∧ ∃ t, v = .int (a₀ + i * 1) t)
      (fun i h => IsRangeIter h s.heap.objs.size (a₀ + (i : Nat) * 1) ((n : Int) - (i : Nat)) 1) := (Walks.range hh _ a₀ 1 n).bound
  refine kdr_loop J W (fun _ h => h) (fun _ h => h) ?_ ?_ ?_ ?_ (by show IsRangeIter _ _ _ _ _; rw [hsz]; simpa using Heap.get?_push_size _ rfl) (F.push _) (fun p hp => ⟨Heap.get?_push_of_some _ (N p hp).1, (N p hp).2⟩) hj ?_ ?_
  · intro i h hi b hb
    rw [List.mem_singleton.mp hb]
    exact ⟨_, hi⟩
  · intro hm
    exact absurd F.ns.lt ((List.mem_singleton.mp hm) ▸ Nat.lt_irrefl _)
  · intro b hb
    rw [List.mem_singleton.mp hb]
    exact next_is_new F
  · intro p hp hI
    exact absurd (Heap.lt_size (N p hp).1) ((List.mem_singleton.mp hI) ▸ Nat.lt_irrefl _)
  · rintro i v m₁ nx h tk own hi ⟨_, t, rfl⟩ hoff hJ F₁ N₁
    have e1 : a₀ + (i : Int) * 1 = a₀ + (i : Int) := by omega
    rw [e1] at F₁
    exact turn i t m₁ nx h tk own hi hoff hJ F₁ N₁
  · intro m₁ nx h tk hJ F₁ N₁
    exact done m₁ nx h tk hJ F₁ N₁
theorem range_one {w : World} {A : Around} {g : Heap} {s : Shared} {E : Value → Shared → Prop} {news : List (Addr × Obj)} {env : Env} {r : Addr} {a₀ b₀ : Int} {t₀ u₀ v₀ : Tok} {m₀ : Str → Option Value} {x : Str} {body : List Stmt} {Q : Flow → Shared → Prop} (P : List (Addr × Obj) → Prop)
    (hh : A.handled = none) (hr : IsRange s.heap r a₀ b₀ 1 t₀ u₀ v₀) (hb : b₀ = a₀ + 1) (h0 : 0 ≤ a₀) (h1 : a₀ < 100) (F : Fr g env.locals s.heap m₀) (N : News g env.locals s.heap news)
    (turn : ∀ t h tk own, OwnOff own (news.map (·.1)) → Fr g env.locals h (fun y => if y = x then some (.int a₀ t) else m₀ y) → News g env.locals h (news ++ own) →
      wpAny (model PG w) A (execs body env) (InvPostG g env.locals (fun _ nx => P nx) own { s with heap := h, toks := tk } Q) E { s with heap := h, toks := tk })
    (done : ∀ m₁ nx h tk, P nx → Fr g env.locals h m₁ → News g env.locals h nx → Q .next { s with heap := h, toks := tk }) :
    wpAny (model PG w) A (pyIter (.ref r)) (fun it s₂ => LoopAtV PG w A g env x body Q E it s₂) E s := by
  subst hb
  refine range_inv (n := 1) (fun i m nx => (i = 0 ∧ m = m₀ ∧ nx = news) ∨ (i = 1 ∧ P nx)) hh hr ?_ ?_ F N (.inl ⟨rfl, rfl, rfl⟩) (fun i t m₁ nx h tk own hi ho hj F' N' => ?_) (fun m₁ nx h tk hj F' N' => ?_)
  · exact small_one (by omega) (by omega) (by omega) (by omega)
  · unfold Builtin.Range.rangeSize; rw [if_pos (by decide), if_pos (by omega)]; simp; omega
  · rcases hj with ⟨rfl, rfl, rfl⟩ | ⟨rfl, _⟩
    · have e : a₀ + ((0 : Nat) : Int) = a₀ := by omega
      rw [e] at F'
      refine wpAny_mono (turn t h tk own ho F' N') (fun f s₂ p => ?_) fun _ _ e => e
      have fin : InvEndG g env.locals (fun _ nx => P nx) own { s with heap := h, toks := tk } s₂ → InvEndG g env.locals (fun m nx => (0 + 1 = 0 ∧ m = m₁ ∧ nx = nx) ∨ (0 + 1 = 1 ∧ P nx)) own { s with heap := h, toks := tk } s₂ := fun ⟨h', tk, m', news', nx, e, a, b, c, d, f, g⟩ => ⟨h', tk, m', news', nx, e, a, b, c, d, f, .inr ⟨rfl, g⟩⟩
      cases f with
      | ret v => exact p
      | brk => exact p
      | next => obtain ⟨h', tk, m', news', nx, e, a, b, c, d, f, g⟩ := p; exact ⟨h', tk, m', news', nx, e, a, b, c, d, f, .inr ⟨rfl, g⟩⟩
      | cont => obtain ⟨h', tk, m', news', nx, e, a, b, c, d, f, g⟩ := p; exact ⟨h', tk, m', news', nx, e, a, b, c, d, f, .inr ⟨rfl, g⟩⟩
    · omega
  · rcases hj with ⟨h, _⟩ | ⟨_, hp⟩
    · cases h
    · exact done m₁ nx h tk hp F' N'
theorem one_mem {w : World} {A : Around} {g : Heap} {s : Shared} {E Q : Value → Shared → Prop} {L : Addr} {m : Str → Option Value} {news : List (Addr × Obj)} {C one d1 mem : Addr} {es : List DictEntry} {n : Nat} (hC : C = 314 ∨ C = 267) (F : Fr g L s.heap m) (X : (layK.heap_1 w.params).In g) (N : News g L s.heap news) (h1 : (one, instObj C d1) ∈ news) (h2 : (d1, dictOf es n) ∈ news)
    (hl : getL "memory" es = some (some (.ref mem))) (q : Q (.ref mem) { s with toks := s.toks + 1 }) : wpAny (model PG w) A (getAttr (.ref one) "memory" true) Q E s := by
  rcases hC with rfl | rfl <;> exact get_own F X (InstAt.of_news N h1 h2) (by k_is) (by k_is) (by k_is) (by k_is) hl rfl q
end
section
local macro_rules | `(tactic| walk_at "eval Name") => `(tactic| (k_here; k_dflt (refine' nameX_F ?N ?c ?m ?d ?_ ?a ?b; (case a => rfl); (case b => rfl); (case N => k_asm); (case c => rfl); (case m => k_mem); (case d => k_asm); k_whole)))
local macro_rules | `(tactic| k_get) => `(tactic| assumption)
local macro_rules | `(tactic| k_room) => `(tactic| ((try simp only [depth_under_make, depth_under_kw, depth_in1, depth_deeper, depth_caller]); simp only [recursionLimit]; (try dsimp only [Around.deeper, Around.in1]); omega))
local macro_rules | `(tactic| walk_at "m le2") => `(tactic| first | assumption | (refine Nat.le_trans ?_ (fr_size (by assumption)); walk_at "m le2"))
local macro_rules | `(tactic| walk_at "m le") => `(tactic| (refine Nat.le_trans ?_ (Fr.above (by assumption)); walk_at "m le2"))
local macro_rules | `(tactic| walk_at "m gr2") => `(tactic| first | exact Gr.refl | (refine Gr.trans ?_ (fr_gr (by assumption)); walk_at "m gr2"))
local macro_rules | `(tactic| walk_at "m tl") => `(tactic| first | assumption | (refine List.Mem.tail _ ?_; walk_at "m tl"))
set_option hygiene false in
local macro_rules | `(tactic| walk_at "m gr") => `(tactic| (refine gr_back hN hoff hsz (by walk_at "m gr2") (fun q hq => ?_); refine news_at (by assumption) ?_; walk_at "m tl"))
local macro_rules | `(tactic| walk_at "m room") => `(tactic| ((try simp only [depth_deeper]); (try dsimp only [Around.deeper]); omega))
local macro_rules | `(tactic| walk_at "leaving ref") => `(tactic| ((with_reducible rename Fly _ _ _ _ _ => fX); refine' fly_up ?fr ?fl ?hL fX ?_; (case fr => exact rfl); (case fl => exact rfl); (case hL => walk_at "m le"); clear fX; intro h' X'))
local macro_rules | `(tactic| walk_at "exec Raise some none") => `(tactic| (k_dflt (refine' raise_K (by k_asm) (by k_asm) (by k_asm) (by k_asm) (by k_asm) (by k_asm) ?hL ?k ?x ?hz ?hr ?hu ?hh ?g1 (fun h' tk' e' X' => ?_); (case g1 => walk_at "m gr"); (case hL => walk_at "m le"); (case k => exact rfl); (case x => exact rfl); (case hz => walk_at "m le2"); (case hr => walk_at "m room"); (case hu => walk_at "m room"); (case hh => exact rfl))))
local macro_rules | `(tactic| walk_at "call builtin:len") => `(tactic| (k_here; (with_reducible show wpAny _ _ (call (Value.builtin "len") [Value.ref _]) _ _ _); k_dflt (refine' len_list (News.isList (by k_asm) (by k_mem)) ?z ?_; (case z => (rw [List.size_toArray]; omega))); rw [List.size_toArray]))
local macro_rules | `(tactic| walk_at "call ref") => `(tactic| ((with_reducible show wpAny _ _ (call (Value.ref 102) _ _) _ _ _); k_dflt (refine' need_K (by k_asm) (by k_asm) (by k_asm) (by k_asm) (by k_asm) (by k_asm) (by k_asm) ?f ?k ?hl ?h0 ?hc ?h2 ?hz ?hr ?hu ?hh ?g1 (fun hq' h' tk' F' N' g1' => ?_) (fun hq' e' h' tk' X' => ?_); (case f => exact rfl); (case k => exact rfl); (case hl => exact News.isList (by k_asm) (by k_mem)); (case h0 => omega); (case hc => exact rfl); (case h2 => omega); (case hz => walk_at "m le2"); (case hr => walk_at "m room"); (case hu => walk_at "m room"); (case hh => exact rfl); (case g1 => walk_at "m gr")); all_goals (try k_sweep)))
local macro_rules | `(tactic| walk_at "m lt") => `(tactic| first | exact List.forall_mem_nil _ | (refine' List.forall_mem_cons.mpr ⟨?a, ?b⟩; (case a => ((refine ltN ?_; (try dsimp only)); first | walk_at "m cj" | omega)); (case b => walk_at "m lt")))
local macro_rules | `(tactic| walk_at "exec For Tuple Subscript cons nil") => `(tactic| (k_here; (rename Fr _ _ _ _ => lF'); (with_unfolding_all refine' For_turns lF' ?_; k_whole)))
set_option hygiene false in
local macro_rules | `(tactic| walk_at "m cj1") => `(tactic| (refine lt_conj (by with_reducible assumption) ?_; intro hC; first | with_reducible exact hC.1 | with_reducible exact hC.2.1 | with_reducible exact hC.2.2.1 | with_reducible exact hC.2.2.2.1 | with_reducible exact hC.2.2.2.2.1 | with_reducible exact hC.2.2.2.2.2.1 | with_reducible exact hC.2.2.2.2.2.2.1 | with_reducible exact hC.2.2.2.2.2.2.2.1 | with_reducible exact hC.2.2.2.2.2.2.2.2.1 | with_reducible exact hC.2.2.2.2.2.2.2.2.2.1 | with_reducible exact hC.2.2.2.2.2.2.2.2.2.2.1 | with_reducible exact hC.2.2.2.2.2.2.2.2.2.2.2.1 | with_reducible exact hC.2.2.2.2.2.2.2.2.2.2.2.2.1 | with_reducible exact hC.2.2.2.2.2.2.2.2.2.2.2.2.2.1 | with_reducible exact hC.2.2.2.2.2.2.2.2.2.2.2.2.2.2.1 | with_reducible exact hC.2.2.2.2.2.2.2.2.2.2.2.2.2.2.2.1))
local macro_rules | `(tactic| walk_at "m cj") => `(tactic| first | with_reducible assumption | walk_at "m cj1" | (refine lt_via (by with_reducible assumption) ?_; first | with_reducible assumption | walk_at "m cj1"))
local macro_rules | `(tactic| k_ne) => `(tactic| ((try dsimp only); first | (refine ne_gtN ?_; walk_at "m cj"; done) | (refine ne_ltN ?_; walk_at "m cj"; done) | (refine neN ?_; omega)))
local macro_rules | `(tactic| walk_at "m all") => `(tactic| first | exact List.forall_mem_nil _ | with_reducible assumption | (refine' List.forall_mem_cons.mpr ⟨?a, ?b⟩; (case a => k_ne); (case b => walk_at "m all")))
local macro_rules | `(tactic| k_all) => `(tactic| walk_at "m all")
local macro_rules | `(tactic| k_lt $h) => `(tactic| (replace $h := allLt_of $h; dsimp only [AllLt] at $h:ident))
mutual
theorem deed_load {w : World} {A : Around} {G : Heap} {p : Program} {lo : List Str} {mean : ExcName → Option Value} {mg mb : Str → Option Value} {l : List Env} {k : Nat} {s : Shared} {E Q : Value → Shared → Prop} {qual : Str} {pm ct : Value} {c' d mem dm nl ch pl em : Addr} {n2 n3 n4 : Nat} {x1 x2 : Int} {t1 t2 u1 u2 u3 : Tok} {a : Int} {us : List Value} {od : Option Addr} {sl : Array (Option Value)} {cOne cPl one d1 r C : Addr} {oOne oPl or : Obj} {es : List DictEntry} {n : Nat} {v : Value} {p1 p2 p4 : Pos} {i1 i2 i3 i4 i5 i6 : Nat} {c : Cel} {ns : List (Addr × Obj)}
    (hn : ns = [(nl, ⟨.type "list", od, .seq us.toArray n3, sl⟩), (cOne, oOne), (cPl, oPl), (one, instObj C d1), (d1, dictOf es n), (mem, instObj 91 dm), (dm, dictOf [⟨x1, .str (Str.ofString "numeric") t1, .ref nl⟩, ⟨x2, .str (Str.ofString "characters") t2, .ref ch⟩] n2), (pl, tupOf [.int 0 u1, .int a u2, .int 0 u3, .ref em] n4), (r, or)])
    (H : Here w A G p lo mean mg mb l (k + 20)) (hG : Gr G s.heap) (hN : ∀ q ∈ ns, s.heap.get? q.1 = some q.2) (hM : ∀ q ∈ ns, G.get? q.1 = none)
    (hC : C = 314 ∨ C = 267) (hOne : oOne.data = .cell (some (.ref one))) (hPl : oPl.data = .cell (some (.ref pl))) (hmem : getL "memory" es = some (some (.ref mem))) (hv : a < us.length → us[a.toNat]? = some v) (hc : CelIs v r or c)
    (ho : s.heap.get? d = some (kla_obj "<lambda>" qual { posonlyargs := [], args := [], vararg := none, kwonlyargs := [], kw_defaults := [], kwarg := none, defaults := [] }
      (.Call (.Attribute (.Attribute (.Name (Str.ofString "one") p1) (Str.ofString "memory") p2) (Str.ofString "load") ⟨i1, i2, 313, i3⟩) [.Name (Str.ofString "place") p4] [] ⟨313, i4, i5, i6⟩)
      { kind := .function, names := [(Str.ofString "one", .free), (Str.ofString "place", .free)], isGenerator := false, isCoroutine := false } [(Str.ofString "place", cPl), (Str.ofString "one", cOne)] pm c' ct))
    (hcd : s.heap.CodeRec (.ref c') qual)
    (h0 : 0 ≤ a) (hlen : us.length < 10)
    (qo : ∀ x t h' tk, a < us.length → c = .num x → Off (ns.map (·.1)) s.heap h' → (∀ q ∈ ns, h'.get? q.1 = some q.2) → Q (.int x t) { s with heap := h', toks := tk })
    (qb : ∀ x e h' tk, (¬ a < us.length ∧ x = Str.ofString "storage") ∨ (a < us.length ∧ x = Str.ofString "undefined" ∧ ∀ y, c ≠ .num y) → Flew l s.heap h' e x → E (.ref e) { s with heap := h', toks := tk }) :
    wpAny (model PG w) A (call (.ref d) [] []) Q E s := by
  subst hn
  have hst := H.stack
  have hroom := H.room
  have hunits := H.units
  have hhand := H.hand
  obtain ⟨A1, A2, A3, A4, A5⟩ := A
  dsimp only at hst hroom hunits hhand
  subst hst hhand
  refine wpAny_call ?_
  refine enterE (k := k + 19) H hG hN hM ho rfl hcd rfl (locs rfl) ?_ (by decide) rfl rfl rfl
  intro g L h base F N B KB TB hz KX T hoff hsz
  k_steps
  refine one_mem hC F KX N (by k_mem) (by k_mem) hmem ?_
  repeat' ((fail_if_success (with_reducible show wpAny _ _ (subscriptTail _ _ (Value.ref nl) _) _ _ _)); (first | (k_unfold; (try dsimp only)) | (k_end; wrow_close) | walk1 | (dsimp only; walk1) | (leave1; walk_say "STEP leave1"; try dsimp only) | fail "no step"))
  · refine item_list (News.isList (by k_asm) (by k_mem)) h0 (by omega) (x := v) (by simpa using hv (by omega)) ?_
    rcases c with _ | x | x
    · obtain rfl := hc
      k_steps
      exact qb _ _ _ _ (.inr ⟨by omega, rfl, fun _ z => by cases z⟩) (Fly.flew (by assumption))
    · obtain ⟨rfl, ta, tb, n5, rfl⟩ := hc
      k_steps
      refine qo x _ _ _ (by omega) rfl ⟨fun b o n z => Gr.stay (by walk_at "m gr2") b o (hoff b o n z), Nat.le_trans hsz (Gr.size (by walk_at "m gr2"))⟩ (fun q hq => news_at (by assumption) ?_)
      walk_at "m tl"
    · obtain ⟨rfl, ta, tb, n5, rfl⟩ := hc
      k_steps
      exact qb _ _ _ _ (.inr ⟨by omega, rfl, fun _ z => by cases z⟩) (Fly.flew (by assumption))
  · exact qb _ _ _ _ (.inl ⟨by omega, rfl⟩) (Fly.flew (by assumption))
theorem deed_store {w : World} {A : Around} {G : Heap} {p : Program} {lo : List Str} {mean : ExcName → Option Value} {mg mb : Str → Option Value} {l : List Env} {k : Nat} {s : Shared} {E Q : Value → Shared → Prop} {qual : Str} {pm ct : Value} {c' d mem dm nl ch pl em : Addr} {n2 n3 n4 : Nat} {x1 x2 : Int} {t1 t2 u1 u2 u3 : Tok} {a : Int} {us : List Value} {od : Option Addr} {sl : Array (Option Value)} {cLab cOne cPl one d1 C z : Addr} {oLab oOne oPl oz : Obj} {es : List DictEntry} {n : Nat} {lb : Int} {tl : Tok} {p1 p2 p4 p5 : Pos} {i1 i2 i3 i4 i5 i6 : Nat} {ns : List (Addr × Obj)}
    (hn : ns = [(nl, ⟨.type "list", od, .seq us.toArray n3, sl⟩), (cLab, oLab), (cOne, oOne), (cPl, oPl), (one, instObj C d1), (d1, dictOf es n), (mem, instObj 91 dm), (dm, dictOf [⟨x1, .str (Str.ofString "numeric") t1, .ref nl⟩, ⟨x2, .str (Str.ofString "characters") t2, .ref ch⟩] n2), (pl, tupOf [.int 0 u1, .int a u2, .int 0 u3, .ref em] n4), (z, oz)])
    (H : Here w A G p lo mean mg mb l (k + 20)) (hG : Gr G s.heap) (hN : ∀ q ∈ ns, s.heap.get? q.1 = some q.2) (hM : ∀ q ∈ ns, G.get? q.1 = none)
    (hC : C = 314 ∨ C = 267) (hLab : oLab.data = .cell (some (.int lb tl))) (hOne : oOne.data = .cell (some (.ref one))) (hPl : oPl.data = .cell (some (.ref pl))) (hmem : getL "memory" es = some (some (.ref mem))) (hne : ∀ q ∈ ns.tail, q.1 ≠ nl)
    (ho : s.heap.get? d = some (kla_obj "<lambda>" qual { posonlyargs := [], args := [], vararg := none, kwonlyargs := [], kw_defaults := [], kwarg := none, defaults := [] }
      (.Call (.Attribute (.Attribute (.Name (Str.ofString "one") p1) (Str.ofString "memory") p2) (Str.ofString "store") ⟨i1, i2, 300, i3⟩) [.Name (Str.ofString "place") p4, .Name (Str.ofString "label") p5] [] ⟨300, i4, i5, i6⟩)
      { kind := .function, names := [(Str.ofString "label", .free), (Str.ofString "one", .free), (Str.ofString "place", .free)], isGenerator := false, isCoroutine := false } [(Str.ofString "place", cPl), (Str.ofString "one", cOne), (Str.ofString "label", cLab)] pm c' ct))
    (hcd : s.heap.CodeRec (.ref c') qual)
    (h0 : 0 ≤ a) (hlen : us.length < 10)
    (qo : ∀ r' od' n' sl' t t' m' h' tk, a < us.length → Off (ns.map (·.1)) s.heap h' → (∀ q ∈ ns.tail, h'.get? q.1 = some q.2) → h'.get? nl = some ⟨.type "list", od', .seq (us.set a.toNat (.ref r')).toArray n', sl'⟩ → h'.get? r' = some (tupOf [.int 0 t, .int lb t'] m') → s.heap.get? r' = none → (∀ q ∈ ns, q.1 < r') → Q .none { s with heap := h', toks := tk })
    (qb : ∀ x e h' tk, ¬ a < us.length → x = Str.ofString "storage" → Flew l s.heap h' e x → E (.ref e) { s with heap := h', toks := tk }) :
    wpAny (model PG w) A (call (.ref d) [] []) Q E s := by
  subst hn
  have hst := H.stack
  have hroom := H.room
  have hunits := H.units
  have hhand := H.hand
  obtain ⟨A1, A2, A3, A4, A5⟩ := A
  dsimp only at hst hroom hunits hhand
  subst hst hhand
  refine wpAny_call ?_
  refine enterE (k := k + 19) H hG hN hM ho rfl hcd rfl (locs rfl) ?_ (by decide) rfl rfl rfl
  intro g L h base F N B KB TB hz KX T hoff hsz
  k_steps
  refine one_mem hC F KX N (by k_mem) (by k_mem) hmem ?_
  k_steps
  · refine set_K (front := [(_, _)]) (by k_asm) (by k_asm) h0 (by omega) hlen (by k_all) hne fun h2 od2 n2 sl2 F2 N2 => ?_
    dsimp only [List.append, HAppend.hAppend, Append.append] at N2
    k_steps
    refine' qo _ _ _ _ _ _ _ _ _ (by omega) ⟨fun b o n z => Gr.stay (by walk_at "m gr2") b o (hoff b o n z), Nat.le_trans hsz (Gr.size (by walk_at "m gr2"))⟩ (fun q hq => news_at (by assumption) (by walk_at "m tl")) ?l ?t ?f ?lt 
    (case l => exact news_at (q := (nl, ⟨_, _, _, _⟩)) (by k_asm) (by k_mem))
    (case t => exact news_at (q := (_, _)) (by k_asm) (by k_mem))
    (case f => exact fresh_of hoff (by walk_at "m lt") (news_new (g := g) (L := L) (q := (_, _)) (by k_asm) (by k_mem)))
    (case lt => walk_at "m lt")
  · exact qb _ _ _ _ (by omega) rfl (Fly.flew (by assumption))
theorem deed_undef {w : World} {A : Around} {G : Heap} {p : Program} {lo : List Str} {mean : ExcName → Option Value} {mg mb : Str → Option Value} {l : List Env} {k : Nat} {s : Shared} {E Q : Value → Shared → Prop} {qual : Str} {pm ct : Value} {c' d mem dm nl ch pl em : Addr} {n2 n3 n4 : Nat} {x1 x2 : Int} {t1 t2 u1 u2 u3 : Tok} {a : Int} {us : List Value} {od : Option Addr} {sl : Array (Option Value)} {cOne cPl one d1 C : Addr} {oOne oPl : Obj} {es : List DictEntry} {n n6 : Nat} {p1 p2 p4 : Pos} {i1 i2 i3 i4 i5 i6 : Nat} {ns : List (Addr × Obj)}
    (hn : ns = [(nl, ⟨.type "list", od, .seq us.toArray n3, sl⟩), (cOne, oOne), (cPl, oPl), (one, instObj C d1), (d1, dictOf es n), (mem, instObj 91 dm), (dm, dictOf [⟨x1, .str (Str.ofString "numeric") t1, .ref nl⟩, ⟨x2, .str (Str.ofString "characters") t2, .ref ch⟩] n2), (pl, tupOf [.int 0 u1, .int a u2, .int 0 u3, .ref em] n4), (em, tupOf [] n6)])
    (H : Here w A G p lo mean mg mb l (k + 20)) (hG : Gr G s.heap) (hN : ∀ q ∈ ns, s.heap.get? q.1 = some q.2) (hM : ∀ q ∈ ns, G.get? q.1 = none)
    (hC : C = 314 ∨ C = 267) (hOne : oOne.data = .cell (some (.ref one))) (hPl : oPl.data = .cell (some (.ref pl))) (hmem : getL "memory" es = some (some (.ref mem))) (hne : ∀ q ∈ ns.tail, q.1 ≠ nl)
    (ho : s.heap.get? d = some (kla_obj "<lambda>" qual { posonlyargs := [], args := [], vararg := none, kwonlyargs := [], kw_defaults := [], kwarg := none, defaults := [] }
      (.Call (.Attribute (.Attribute (.Name (Str.ofString "one") p1) (Str.ofString "memory") p2) (Str.ofString "undefine") ⟨i1, i2, 305, i3⟩) [.Name (Str.ofString "place") p4] [] ⟨305, i4, i5, i6⟩)
      { kind := .function, names := [(Str.ofString "one", .free), (Str.ofString "place", .free)], isGenerator := false, isCoroutine := false } [(Str.ofString "place", cPl), (Str.ofString "one", cOne)] pm c' ct))
    (hcd : s.heap.CodeRec (.ref c') qual)
    (h0 : 0 ≤ a) (hlen : us.length < 10)
    (qo : ∀ od' n' sl' h' tk, a < us.length → Off (ns.map (·.1)) s.heap h' → (∀ q ∈ ns.tail, h'.get? q.1 = some q.2) → h'.get? nl = some ⟨.type "list", od', .seq (us.set a.toNat .none).toArray n', sl'⟩ → Q .none { s with heap := h', toks := tk })
    (qb : ∀ x e h' tk, ¬ a < us.length → x = Str.ofString "storage" → Flew l s.heap h' e x → E (.ref e) { s with heap := h', toks := tk }) :
    wpAny (model PG w) A (call (.ref d) [] []) Q E s := by
  subst hn
  have hst := H.stack
  have hroom := H.room
  have hunits := H.units
  have hhand := H.hand
  obtain ⟨A1, A2, A3, A4, A5⟩ := A
  dsimp only at hst hroom hunits hhand
  subst hst hhand
  refine wpAny_call ?_
  refine enterE (k := k + 19) H hG hN hM ho rfl hcd rfl (locs rfl) ?_ (by decide) rfl rfl rfl
  intro g L h base F N B KB TB hz KX T hoff hsz
  k_steps
  refine one_mem hC F KX N (by k_mem) (by k_mem) hmem ?_
  repeat' ((fail_if_success ((with_reducible show wpAny _ _ (pyIter _) _ _ _); (with_reducible rename IsRange _ _ _ _ _ _ _ _ => hR))); (first | (k_unfold; (try dsimp only)) | (k_end; wrow_close) | walk1 | (dsimp only; walk1) | (leave1; walk_say "STEP leave1"; try dsimp only) | fail "no step"))
  · exact qb _ _ _ _ (by omega) rfl (Fly.flew (by assumption))
  · refine range_one (fun nx => ∃ od' n' sl', ∀ q ∈ ((nl, ⟨.type "list", od', .seq (us.set a.toNat .none).toArray n', sl'⟩) :: [(cOne, oOne), (cPl, oPl), (one, instObj C d1), (d1, dictOf es n), (mem, instObj 91 dm), (dm, dictOf [⟨x1, .str (Str.ofString "numeric") t1, .ref nl⟩, ⟨x2, .str (Str.ofString "characters") t2, .ref ch⟩] n2), (pl, tupOf [.int 0 u1, .int a u2, .int 0 u3, .ref em] n4), (em, tupOf [] n6)]), q ∈ nx) rfl (by assumption) (by omega) h0 (by omega) (by k_asm) (by k_asm) (fun t h3 tk3 own ho3 F3 N3 => ?_) (fun m4 nx h4 tk4 hj F4 N4 => ?_)
    · k_steps
      refine set_K (front := [(_, _)]) (by k_asm) (by k_asm) h0 (by omega) hlen (by k_all) (fun q hq => (List.mem_append.mp hq).elim (hne q) (fun z => ho3 q z nl (by simp))) fun h2 od9 n9 sl9 F2 N2 => ?_
      dsimp only
      walk1
      exact ⟨h2, tk3, _, _, (nl, ⟨.type "list", od9, .seq (us.set a.toNat .none).toArray n9, sl9⟩) :: _, rfl, F2, N2, fun q hq => .tail _ ((List.mem_cons.mp hq).elim (fun z => z ▸ .head _) (fun z => .tail _ (List.mem_append_left _ z))),
        fun q hq => .tail _ (.tail _ (List.mem_append_right _ hq)), fun q hq b hb => ho3 q hq b (.tail _ hb), ⟨od9, n9, sl9, fun q hq => hq⟩⟩
    · obtain ⟨od9, n9, sl9, hP⟩ := hj
      have N5 : News _ _ _ _ := fun q hq => N4 q (hP q hq)
      clear N4
      k_steps
      refine' qo _ _ _ _ _ (by omega) ⟨fun b o n z => Gr.stay (by walk_at "m gr2") b o (hoff b o n z), Nat.le_trans hsz (Gr.size (by walk_at "m gr2"))⟩ (fun q hq => news_at (by assumption) (by walk_at "m tl")) ?l
      (case l => exact news_at (q := (nl, ⟨_, _, _, _⟩)) (by k_asm) (by k_mem))
theorem deed_setp {w : World} {A : Around} {G : Heap} {p : Program} {lo : List Str} {mean : ExcName → Option Value} {mg mb : Str → Option Value} {l : List Env} {k : Nat} {s : Shared} {E Q : Value → Shared → Prop} {qual : Str} {pm ct : Value} {c' d mem dm nl ch pl em : Addr} {n2 n3 n4 : Nat} {x1 x2 : Int} {t1 t2 u1 u2 u3 : Tok} {a : Int} {us : List Value} {od : Option Addr} {sl : Array (Option Value)} {cLab cRun run d1 fr z : Addr} {oLab oRun oF oz : Obj} {es : List DictEntry} {n ck1 ck2 ck3 ck4 ck5 : Nat} {lb : Int} {tl : Tok} {p1 p2 p3 p4 p5 p6 p7 p8 p9 q1 q2 q3 : Pos} {ns : List (Addr × Obj)}
    (hn : ns = [(nl, ⟨.type "list", od, .seq us.toArray n3, sl⟩), (cLab, oLab), (cRun, oRun), (run, instObj 314 d1), (d1, dictOf es n), (fr, oF), (mem, instObj 91 dm), (dm, dictOf [⟨x1, .str (Str.ofString "numeric") t1, .ref nl⟩, ⟨x2, .str (Str.ofString "characters") t2, .ref ch⟩] n2), (pl, tupOf [.int 0 u1, .int a u2, .int 0 u3, .ref em] n4), (z, oz)])
    (H : Here w A G p lo mean mg mb l (k + 20)) (hG : Gr G s.heap) (hN : ∀ q ∈ ns, s.heap.get? q.1 = some q.2) (hM : ∀ q ∈ ns, G.get? q.1 = none)
    (hLab : oLab.data = .cell (some (.int lb tl))) (hRun : oRun.data = .cell (some (.ref run))) (hmem : getL "memory" es = some (some (.ref mem))) (hfr : getL "frame" es = some (some (.ref fr))) (hFd : oF.IsDictOf (strKind PG w) [(Str.ofString "K", .ref pl)]) (hlo : (fr == sysModules) = false) (hne : ∀ q ∈ ns.tail, q.1 ≠ nl)
    (ho : s.heap.get? d = some (kla_obj "<lambda>" qual { posonlyargs := [], args := [], vararg := none, kwonlyargs := [], kw_defaults := [], kwarg := none, defaults := [] }
      (.Call (.Subscript (.Call (.Name (Str.ofString "assign_statements") p1) [] [] p2) (.Constant (.str (Str.ofString "setlabel")) ck1 p3) p4) [.Name (Str.ofString "run") p5, .Constant .none ck2 p6, .Constant (.int 4) ck3 p7, .Tuple [.Constant (.str (Str.ofString "setlabel")) ck4 p8, .Name (Str.ofString "label") p9, .Constant (.str (Str.ofString "K")) ck5 q1] 0 q2] [] q3)
      { kind := .function, names := [(Str.ofString "label", .free), (Str.ofString "run", .free), (Str.ofString "assign_statements", .globalImplicit)], isGenerator := false, isCoroutine := false } [(Str.ofString "run", cRun), (Str.ofString "label", cLab)] pm c' ct))
    (hcd : s.heap.CodeRec (.ref c') qual)
    (h0 : 0 ≤ a) (hlen : us.length < 10)
    (qo : ∀ r' od' n' sl' t t' m' h' tk, a < us.length → Off (ns.map (·.1)) s.heap h' → (∀ q ∈ ns.tail, h'.get? q.1 = some q.2) → h'.get? nl = some ⟨.type "list", od', .seq (us.set a.toNat (.ref r')).toArray n', sl'⟩ → h'.get? r' = some (tupOf [.int 7 t, .int lb t'] m') → s.heap.get? r' = none → (∀ q ∈ ns, q.1 < r') → ∀ t'', Q (.int 5 t'') { s with heap := h', toks := tk })
    (qb : ∀ x e h' tk, ¬ a < us.length → x = Str.ofString "storage" → Flew l s.heap h' e x → E (.ref e) { s with heap := h', toks := tk }) :
    wpAny (model PG w) A (call (.ref d) [] []) Q E s := by
  subst hn
  have hst := H.stack
  have hroom := H.room
  have hunits := H.units
  have hhand := H.hand
  obtain ⟨A1, A2, A3, A4, A5⟩ := A
  dsimp only at hst hroom hunits hhand
  subst hst hhand
  refine wpAny_call ?_
  refine enterE (k := k + 19) H hG hN hM ho rfl hcd rfl (locs rfl) ?_ (by decide) rfl rfl rfl
  intro g L h base F N B KB TB hz KX T hoff hsz
  k_steps
  · refine set_K (front := [(_, _), (_, _), (_, _)]) (by k_asm) (by k_asm) h0 (by omega) hlen (by k_all) hne fun h2 od2 n2 sl2 F2 N2 => ?_
    dsimp only [List.append, HAppend.hAppend, Append.append] at N2
    k_steps
    refine' qo _ _ _ _ _ _ _ _ _ (by omega) ⟨fun b o n z => Gr.stay (by walk_at "m gr2") b o (hoff b o n z), Nat.le_trans hsz (Gr.size (by walk_at "m gr2"))⟩ (fun q hq => news_at (by assumption) (by walk_at "m tl")) ?l ?t ?f ?lt _
    (case l => exact news_at (q := (nl, ⟨_, _, _, _⟩)) (by k_asm) (by k_mem))
    (case t => exact news_at (q := (_, _)) (by k_asm) (by k_mem))
    (case f => exact fresh_of hoff (by walk_at "m lt") (news_new (g := g) (L := L) (q := (_, _)) (by k_asm) (by k_mem)))
    (case lt => walk_at "m lt")
  · exact qb _ _ _ _ (by omega) rfl (Fly.flew (by assumption))
theorem deed_setm {w : World} {A : Around} {G : Heap} {p : Program} {lo : List Str} {mean : ExcName → Option Value} {mg mb : Str → Option Value} {l : List Env} {k : Nat} {s : Shared} {E Q : Value → Shared → Prop} {qual : Str} {pm ct : Value} {c' d mem dm nl ch pl em : Addr} {n2 n3 n4 : Nat} {x1 x2 : Int} {t1 t2 u1 u2 u3 : Tok} {a : Int} {us : List Value} {od : Option Addr} {sl : Array (Option Value)} {cCall cLab cMac call1 dc rg mac d1 z : Addr} {oCall oLab oMac oz : Obj} {es ec : List DictEntry} {n nc n7 ck1 ck2 : Nat} {lb : Int} {tl : Tok} {p1 p2 p3 p4 p5 p6 p7 p8 : Pos} {ns : List (Addr × Obj)}
    (hn : ns = [(nl, ⟨.type "list", od, .seq us.toArray n3, sl⟩), (cCall, oCall), (cLab, oLab), (cMac, oMac), (call1, instObj 288 dc), (dc, dictOf ec nc), (rg, listOf #[.ref pl] n7), (mac, instObj 267 d1), (d1, dictOf es n), (mem, instObj 91 dm), (dm, dictOf [⟨x1, .str (Str.ofString "numeric") t1, .ref nl⟩, ⟨x2, .str (Str.ofString "characters") t2, .ref ch⟩] n2), (pl, tupOf [.int 0 u1, .int a u2, .int 0 u3, .ref em] n4), (z, oz)])
    (H : Here w A G p lo mean mg mb l (k + 20)) (hG : Gr G s.heap) (hN : ∀ q ∈ ns, s.heap.get? q.1 = some q.2) (hM : ∀ q ∈ ns, G.get? q.1 = none)
    (hLab : oLab.data = .cell (some (.int lb tl))) (hCall : oCall.data = .cell (some (.ref call1))) (hrg : getL "registers" ec = some (some (.ref rg))) (hMac : oMac.data = .cell (some (.ref mac))) (hmem : getL "memory" es = some (some (.ref mem))) (hne : ∀ q ∈ ns.tail, q.1 ≠ nl)
    (ho : s.heap.get? d = some (kla_obj "<lambda>" qual { posonlyargs := [], args := [], vararg := none, kwonlyargs := [], kw_defaults := [], kwarg := none, defaults := [] }
      (.Call (.Name (Str.ofString "do_setlabel_machineops") p1) [.Name (Str.ofString "machine") p2, .Name (Str.ofString "call") p3, .Tuple [.Constant (.str (Str.ofString "setlabel")) ck1 p4, .Constant (.int 0) ck2 p5, .Name (Str.ofString "label") p6] 0 p7] [] p8)
      { kind := .function, names := [(Str.ofString "call", .free), (Str.ofString "label", .free), (Str.ofString "machine", .free), (Str.ofString "do_setlabel_machineops", .globalImplicit)], isGenerator := false, isCoroutine := false } [(Str.ofString "machine", cMac), (Str.ofString "label", cLab), (Str.ofString "call", cCall)] pm c' ct))
    (hcd : s.heap.CodeRec (.ref c') qual)
    (h0 : 0 ≤ a) (hlen : us.length < 10)
    (qo : ∀ r' od' n' sl' t t' m' h' tk, a < us.length → Off (ns.map (·.1)) s.heap h' → (∀ q ∈ ns.tail, h'.get? q.1 = some q.2) → h'.get? nl = some ⟨.type "list", od', .seq (us.set a.toNat (.ref r')).toArray n', sl'⟩ → h'.get? r' = some (tupOf [.int 7 t, .int lb t'] m') → s.heap.get? r' = none → (∀ q ∈ ns, q.1 < r') → Q .none { s with heap := h', toks := tk })
    (qb : ∀ x e h' tk, ¬ a < us.length → x = Str.ofString "storage" → Flew l s.heap h' e x → E (.ref e) { s with heap := h', toks := tk }) :
    wpAny (model PG w) A (call (.ref d) [] []) Q E s := by
  subst hn
  have hst := H.stack
  have hroom := H.room
  have hunits := H.units
  have hhand := H.hand
  obtain ⟨A1, A2, A3, A4, A5⟩ := A
  dsimp only at hst hroom hunits hhand
  subst hst hhand
  refine wpAny_call ?_
  refine enterE (k := k + 19) H hG hN hM ho rfl hcd rfl (locs rfl) ?_ (by decide) rfl rfl rfl
  intro g L h base F N B KB TB hz KX T hoff hsz
  k_steps
  · refine set_K (front := [(_, _), (_, _)]) (by k_asm) (by k_asm) h0 (by omega) hlen (by k_all) hne fun h2 od2 n2 sl2 F2 N2 => ?_
    dsimp only [List.append, HAppend.hAppend, Append.append] at N2
    k_steps
    refine' qo _ _ _ _ _ _ _ _ _ (by omega) ⟨fun b o n z => Gr.stay (by walk_at "m gr2") b o (hoff b o n z), Nat.le_trans hsz (Gr.size (by walk_at "m gr2"))⟩ (fun q hq => news_at (by assumption) (by walk_at "m tl")) ?l ?t ?f ?lt 
    (case l => exact news_at (q := (nl, ⟨_, _, _, _⟩)) (by k_asm) (by k_mem))
    (case t => exact news_at (q := (_, _)) (by k_asm) (by k_mem))
    (case f => exact fresh_of hoff (by walk_at "m lt") (news_new (g := g) (L := L) (q := (_, _)) (by k_asm) (by k_mem)))
    (case lt => walk_at "m lt")
  · exact qb _ _ _ _ (by omega) rfl (Fly.flew (by assumption))
theorem deed_askp {w : World} {A : Around} {G : Heap} {p : Program} {lo : List Str} {mean : ExcName → Option Value} {mg mb : Str → Option Value} {l : List Env} {k : Nat} {s : Shared} {E Q : Value → Shared → Prop} {qual : Str} {doc pm ct : Value} {c' d mem dm nl ch pl em : Addr} {n2 n3 n4 : Nat} {x1 x2 : Int} {t1 t2 u1 u2 u3 : Tok} {a : Int} {us : List Value} {od : Option Addr} {sl : Array (Option Value)} {cRun run d1 fr r : Addr} {oRun oF or : Obj} {es : List DictEntry} {n ck1 : Nat} {v : Value} {p1 p2 p3 p4 p5 : Pos} {c : Cel} {ns : List (Addr × Obj)}
    (hn : ns = [(nl, ⟨.type "list", od, .seq us.toArray n3, sl⟩), (cRun, oRun), (run, instObj 314 d1), (d1, dictOf es n), (fr, oF), (mem, instObj 91 dm), (dm, dictOf [⟨x1, .str (Str.ofString "numeric") t1, .ref nl⟩, ⟨x2, .str (Str.ofString "characters") t2, .ref ch⟩] n2), (pl, tupOf [.int 0 u1, .int a u2, .int 0 u3, .ref em] n4), (r, or)])
    (H : Here w A G p lo mean mg mb l (k + 20)) (hG : Gr G s.heap) (hN : ∀ q ∈ ns, s.heap.get? q.1 = some q.2) (hM : ∀ q ∈ ns, G.get? q.1 = none)
    (hRun : oRun.data = .cell (some (.ref run))) (hmem : getL "memory" es = some (some (.ref mem))) (hfr : getL "frame" es = some (some (.ref fr))) (hFd : oF.IsDictOf (strKind PG w) [(Str.ofString "K", .ref pl)]) (hlo : (fr == sysModules) = false) (hv : a < us.length → us[a.toNat]? = some v) (hc : CelIs v r or c)
    (ho : s.heap.get? d = some (fnMade (Str.ofString "asked_plainly") qual { posonlyargs := [], args := [], vararg := none, kwonlyargs := [], kw_defaults := [], kwarg := none, defaults := [] }
      [.Return (some (.Call (.Name (Str.ofString "label_in") p1) [.Name (Str.ofString "run") p2, .Constant (.str (Str.ofString "K")) ck1 p3] [] p4)) p5]
      { kind := .function, names := [(Str.ofString "run", .free), (Str.ofString "label_in", .globalImplicit)], isGenerator := false, isCoroutine := false } [(Str.ofString "run", cRun)] doc pm c' ct))
    (hcd : s.heap.CodeRec (.ref c') qual)
    (h0 : 0 ≤ a) (hlen : us.length < 10)
    (qo : ∀ x t h' tk, a < us.length → c = .lab x → Off (ns.map (·.1)) s.heap h' → (∀ q ∈ ns, h'.get? q.1 = some q.2) → Q (.int x t) { s with heap := h', toks := tk })
    (qb : ∀ x e h' tk, (¬ a < us.length ∧ x = Str.ofString "storage") ∨ (a < us.length ∧ x = Str.ofString "label" ∧ ∀ y, c ≠ .lab y) → Flew l s.heap h' e x → E (.ref e) { s with heap := h', toks := tk }) :
    wpAny (model PG w) A (call (.ref d) [] []) Q E s := by
  subst hn
  have hst := H.stack
  have hroom := H.room
  have hunits := H.units
  have hhand := H.hand
  obtain ⟨A1, A2, A3, A4, A5⟩ := A
  dsimp only at hst hroom hunits hhand
  subst hst hhand
  refine wpAny_call ?_
  refine enterX (k := k + 19) H hG hN hM ho rfl hcd (BindsTo.of_eq rfl) (locs rfl) ?_ (by decide) rfl rfl rfl
  intro g L h base F N B KB TB hz KX T hoff hsz
  repeat' ((fail_if_success (with_reducible show wpAny _ _ (subscriptTail _ _ (Value.ref nl) _) _ _ _)); (first | (k_unfold; (try dsimp only)) | (k_end; wrow_close) | walk1 | (dsimp only; walk1) | (leave1; walk_say "STEP leave1"; try dsimp only) | fail "no step"))
  · refine kba_turn (value' := PySem.Expr.Name (PySem.Str.ofString "_") ⟨0, 0, 0, 0⟩) (fun _ => rfl) ?_
    refine item_list (News.isList (by k_asm) (by k_mem)) h0 (by omega) (x := v) (by simpa using hv (by omega)) ?_
    rcases c with _ | x | x
    · obtain rfl := hc
      k_steps
      exact qb _ _ _ _ (.inr ⟨by omega, rfl, fun _ z => by cases z⟩) (Fly.flew (by assumption))
    · obtain ⟨rfl, ta, tb, n5, rfl⟩ := hc
      k_steps
      exact qb _ _ _ _ (.inr ⟨by omega, rfl, fun _ z => by cases z⟩) (Fly.flew (by assumption))
    · obtain ⟨rfl, ta, tb, n5, rfl⟩ := hc
      k_steps
      refine qo x _ _ _ (by omega) rfl ⟨fun b o n z => Gr.stay (by walk_at "m gr2") b o (hoff b o n z), Nat.le_trans hsz (Gr.size (by walk_at "m gr2"))⟩ (fun q hq => news_at (by assumption) ?_)
      walk_at "m tl"
  · exact qb _ _ _ _ (.inl ⟨by omega, rfl⟩) (Fly.flew (by assumption))
theorem deed_askm {w : World} {A : Around} {G : Heap} {p : Program} {lo : List Str} {mean : ExcName → Option Value} {mg mb : Str → Option Value} {l : List Env} {k : Nat} {s : Shared} {E Q : Value → Shared → Prop} {qual : Str} {doc pm ct : Value} {c' d mem dm nl ch pl em : Addr} {n2 n3 n4 : Nat} {x1 x2 : Int} {t1 t2 u1 u2 u3 : Tok} {a : Int} {us : List Value} {od : Option Addr} {sl : Array (Option Value)} {cCall cGo cMac call1 dc rg mac d1 r gl g1 g2 : Addr} {oCall oGo oMac or : Obj} {es ec : List DictEntry} {n nc n7 n8 n9 n10 ck1 ck2 : Nat} {v : Value} {v1 v2 v3 v4 : Tok} {p1 p2 p3 p4 p5 p6 p7 p8 p9 : Pos} {c : Cel} {ns : List (Addr × Obj)}
    (hn : ns = [(nl, ⟨.type "list", od, .seq us.toArray n3, sl⟩), (cCall, oCall), (cGo, oGo), (cMac, oMac), (call1, instObj 288 dc), (dc, dictOf ec nc), (rg, listOf #[.ref pl] n7), (mac, instObj 267 d1), (d1, dictOf es n), (mem, instObj 91 dm), (dm, dictOf [⟨x1, .str (Str.ofString "numeric") t1, .ref nl⟩, ⟨x2, .str (Str.ofString "characters") t2, .ref ch⟩] n2), (pl, tupOf [.int 0 u1, .int a u2, .int 0 u3, .ref em] n4), (gl, listOf #[.ref g1, .ref g2] n8), (g1, tupOf [.int 10 v1, .int 7 v2] n9), (g2, tupOf [.int 20 v3, .int 9 v4] n10), (r, or)])
    (H : Here w A G p lo mean mg mb l (k + 20)) (hG : Gr G s.heap) (hN : ∀ q ∈ ns, s.heap.get? q.1 = some q.2) (hM : ∀ q ∈ ns, G.get? q.1 = none)
    (hCall : oCall.data = .cell (some (.ref call1))) (hrg : getL "registers" ec = some (some (.ref rg))) (hGo : oGo.data = .cell (some (.ref gl))) (hMac : oMac.data = .cell (some (.ref mac))) (hmem : getL "memory" es = some (some (.ref mem))) (hv : a < us.length → us[a.toNat]? = some v) (hc : CelIs v r or c)
    (ho : s.heap.get? d = some (fnMade (Str.ofString "asked_of_machine") qual { posonlyargs := [], args := [], vararg := none, kwonlyargs := [], kw_defaults := [], kwarg := none, defaults := [] }
      [.Return (some (.Call (.Name (Str.ofString "do_agoto") p1) [.Name (Str.ofString "machine") p2, .Name (Str.ofString "call") p3, .Tuple [.Constant (.str (Str.ofString "agoto")) ck1 p4, .Constant (.int 0) ck2 p5, .Name (Str.ofString "goals") p6] 0 p7] [] p8)) p9]
      { kind := .function, names := [(Str.ofString "call", .free), (Str.ofString "goals", .free), (Str.ofString "machine", .free), (Str.ofString "do_agoto", .globalImplicit)], isGenerator := false, isCoroutine := false } [(Str.ofString "machine", cMac), (Str.ofString "goals", cGo), (Str.ofString "call", cCall)] doc pm c' ct))
    (hcd : s.heap.CodeRec (.ref c') qual)
    (h0 : 0 ≤ a) (hlen : us.length < 10)
    (qo : ∀ x y t h' tk, a < us.length → c = .lab x → (x = 10 ∧ y = 7 ∨ x = 20 ∧ y = 9) → Off (ns.map (·.1)) s.heap h' → (∀ q ∈ ns, h'.get? q.1 = some q.2) → Q (.int y t) { s with heap := h', toks := tk })
    (qb : ∀ x e h' tk, (¬ a < us.length ∧ x = Str.ofString "storage") ∨ (a < us.length ∧ (x = Str.ofString "no label is assigned" ∧ (∀ y, c ≠ .lab y) ∨ x = Str.ofString "the assigned label isn't listed" ∧ ∃ y, c = .lab y ∧ y ≠ 10 ∧ y ≠ 20)) → Flew l s.heap h' e x → E (.ref e) { s with heap := h', toks := tk }) :
    wpAny (model PG w) A (call (.ref d) [] []) Q E s := by
  subst hn
  have hst := H.stack
  have hroom := H.room
  have hunits := H.units
  have hhand := H.hand
  obtain ⟨A1, A2, A3, A4, A5⟩ := A
  dsimp only at hst hroom hunits hhand
  subst hst hhand
  refine wpAny_call ?_
  refine enterX (k := k + 19) H hG hN hM ho rfl hcd (BindsTo.of_eq rfl) (locs rfl) ?_ (by decide) rfl rfl rfl
  intro g L h base F N B KB TB hz KX T hoff hsz
  repeat' ((fail_if_success (with_reducible show wpAny _ _ (subscriptTail _ _ (Value.ref nl) _) _ _ _)); (first | (k_unfold; (try dsimp only)) | (k_end; wrow_close) | walk1 | (dsimp only; walk1) | (leave1; walk_say "STEP leave1"; try dsimp only) | fail "no step"))
  · refine kba_turn (value' := PySem.Expr.Name (PySem.Str.ofString "_") ⟨0, 0, 0, 0⟩) (fun _ => rfl) ?_
    refine item_list (News.isList (by k_asm) (by k_mem)) h0 (by omega) (x := v) (by simpa using hv (by omega)) ?_
    rcases c with _ | x | x
    · obtain rfl := hc
      k_steps
      exact qb _ _ _ _ (.inr ⟨by omega, .inl ⟨rfl, fun _ z => by cases z⟩⟩) (Fly.flew (by assumption))
    · obtain ⟨rfl, ta, tb, n5, rfl⟩ := hc
      k_steps
      exact qb _ _ _ _ (.inr ⟨by omega, .inl ⟨rfl, fun _ z => by cases z⟩⟩) (Fly.flew (by assumption))
    · obtain ⟨rfl, ta, tb, n5, rfl⟩ := hc
      k_steps
      · refine qo x _ _ _ _ (by omega) rfl (.inl ⟨by omega, rfl⟩) ⟨fun b o n z => Gr.stay (by walk_at "m gr2") b o (hoff b o n z), Nat.le_trans hsz (Gr.size (by walk_at "m gr2"))⟩ (fun q hq => news_at (by assumption) ?_)
        walk_at "m tl"
      · refine qo x _ _ _ _ (by omega) rfl (.inr ⟨by omega, rfl⟩) ⟨fun b o n z => Gr.stay (by walk_at "m gr2") b o (hoff b o n z), Nat.le_trans hsz (Gr.size (by walk_at "m gr2"))⟩ (fun q hq => news_at (by assumption) ?_)
        walk_at "m tl"
      · exact qb _ _ _ _ (.inr ⟨by omega, .inr ⟨rfl, x, rfl, by omega, by omega⟩⟩) (Fly.flew (by assumption))
  · exact qb _ _ _ _ (.inl ⟨by omega, rfl⟩) (Fly.flew (by assumption))
end
section
local macro_rules | `(tactic| walk_at "call ref") => `(tactic| (k_dflt (refine' need_K (by k_asm) (by k_asm) (by k_asm) (by k_asm) (by k_asm) (by k_asm) (by k_asm) ?f ?k ?hl ?h0 ?hc ?h2 ?hz ?hr ?hu ?hh ?g1 (fun hq' h' tk' F' N' g1' => ?_) (fun hq' e' h' tk' X' => ?_); (case f => exact rfl); (case k => exact rfl); (case hl => exact News.isList (by k_asm) (by k_mem)); (case h0 => omega); (case hc => exact rfl); (case h2 => omega); (case hz => walk_at "m le2"); (case hr => walk_at "m room"); (case hu => walk_at "m room"); (case hh => exact rfl); (case g1 => walk_at "m gr")); all_goals (try k_sweep)))
local macro_rules | `(tactic| walk_at "m none") => `(tactic| skip)
mutual
theorem nip_spec {w : World} {A : Around} {G : Heap} {p : Program} {lo : List Str} {mean : ExcName → Option Value} {mg mb : Str → Option Value} {l : List Env} {k : Nat} {s : Shared} {E Q : Value → Shared → Prop} {tn sc : Addr} {vs : List Value} {is : List Int} {c many : Int} {tc tm : Tok} {n1 n2 : Nat} {ns : List (Addr × Obj)} (hn : ns = [(tn, listOf #[.ref sc, .int c tc] n1), (sc, listOf vs.toArray n2)])
    (H : Here w A G p lo mean mg mb l (k + 20)) (hG : Gr G s.heap) (hN : ∀ q ∈ ns, s.heap.get? q.1 = some q.2) (hM : ∀ q ∈ ns, G.get? q.1 = none) (hi : IntsAre vs is) (hlen : is.length ≤ 20) (hc : 0 ≤ c) (hm : 0 < many) (hm2 : many < 100) (hne : sc ≠ tn)
    (q : ∀ r t tc' h' tk, 0 ≤ r → r < many → Off (ns.map (·.1)) s.heap h' → h'.get? tn = some (listOf #[.ref sc, .int (c + 1) tc'] n1) → h'.get? sc = some (listOf vs.toArray n2) → Q (.int r t) { s with heap := h', toks := tk }) :
    wpAny (model PG w) A (call (.ref 400) [.ref tn, .int many tm] []) Q E s := by
  subst hn
  have hst := H.stack
  have hroom := H.room
  have hunits := H.units
  have hhand := H.hand
  obtain ⟨A1, A2, A3, A4, A5⟩ := A
  dsimp only at hst hroom hunits hhand
  subst hst hhand
  refine wpAny_call ?_
  refine enterX (k := k + 19) (cl := []) H hG hN hM (hG.stay _ _ (H.kin 400 _ (by k_dflt k_is))) rfl (codeRec_of (H.kin.keeps hG.stay) (by k_dflt k_is)) (BindsTo.of_eq rfl) (locs rfl) ?_ (by decide) rfl rfl rfl
  intro g L h base F N B KB TB hz KX T hoff hsz
  k_steps
  · refine' q _ _ _ _ _ (fmod_lo _ hm) (fmod_hi _ hm) ⟨fun b o n z => Gr.stay (by walk_at "m gr2") b o (hoff b o n z), Nat.le_trans hsz (Gr.size (by walk_at "m gr2"))⟩ ?a ?b
    (case a => exact news_at (q := (tn, listOf _ _)) (by k_asm) (by k_mem))
    (case b => exact news_at (q := (sc, listOf _ _)) (by k_asm) (by k_mem))
  · refine' q _ _ _ _ _ (Int.le_refl 0) hm ⟨fun b o n z => Gr.stay (by walk_at "m gr2") b o (hoff b o n z), Nat.le_trans hsz (Gr.size (by walk_at "m gr2"))⟩ ?a ?b
    (case a => exact news_at (q := (tn, listOf _ _)) (by k_asm) (by k_mem))
    (case b => exact news_at (q := (sc, listOf _ _)) (by k_asm) (by k_mem))
end
end
section
theorem among_eq {p q : Pos} (h1 : p.line = q.line) (h2 : p.col = q.col) (l : List Value) : codeAmong p l = codeAmong q l := by
  fun_induction codeAmong p l with
  | case1 a t b u x rest h => simp [codeAmong, ← h1, ← h2, h]
  | case2 a t b u x rest h ih => simp only [codeAmong]; rw [← h1, ← h2, if_neg h]; exact ih
  | case3 l h => 
    unfold codeAmong
    split
    · exact absurd rfl (h _ _ _ _ _ _)
    · rfl
theorem among_snoc_ne {p : Pos} {a b : Nat} {c : Value} (h : ¬ (a = p.line ∧ b = p.col)) (l : List Value) (ht : TriplesOk l) : codeAmong p (l ++ [rawInt a, rawInt b, c]) = codeAmong p l := by
  fun_induction TriplesOk l with
  | case1 =>
    simp only [List.nil_append, codeAmong, rawInt]
    rw [if_neg (by simp only [Bool.and_eq_true, beq_iff_eq]; omega)]
  | case2 a' t b' u x rest ih =>
    simp only [List.cons_append, codeAmong]
    split
    · rfl
    · exact ih ht
  | case3 l h1 h2 => exact ht.elim
def CodeEnt (z : Addr) (qual : Str) (cv : Value) (k : Addr × Obj) : Prop := cv = .ref k.1 ∧ z ≤ k.1 ∧ ∃ vs t, k.2.data = .fields vs ∧ vs[1]? = some (.str qual t)
def lawPs : List (Nat × Nat) := [(287, 8), (290, 8), (294, 0), (295, 0), (300, 0), (305, 0), (313, 0)]
def upd (k : Nat → Addr × Obj) (n : Nat) (x : Addr × Obj) : Nat → Addr × Obj := fun i => if i = n then x else k i
/-- the code table of the law: what it holds at the seven places is what stands in k -/
structure TabOk (z : Addr) (qu : Nat → Str) (ps : Array Value) (k : Nat → Addr × Obj) : Prop where
  tri : TriplesOk ps.toList
  hit : ∀ lc ∈ lawPs, ∀ cv, codeAmong ⟨lc.1, lc.2, 0, 0⟩ ps.toList = some cv → CodeEnt z (qu lc.1) cv (k lc.1)
theorem TabOk.nil {z : Addr} {qu : Nat → Str} {k : Nat → Addr × Obj} : TabOk z qu #[] k := ⟨trivial, fun _ _ cv h => by simp [codeAmong] at h⟩
theorem TabOk.same {z : Addr} {qu : Nat → Str} {ps : Array Value} {k k' : Nat → Addr × Obj} (T : TabOk z qu ps k) (h : ∀ lc ∈ lawPs, k lc.1 = k' lc.1) : TabOk z qu ps k' := ⟨T.tri, fun lc hl cv hc => h lc hl ▸ T.hit lc hl cv hc⟩
theorem lawPs_inj : ∀ a ∈ lawPs, ∀ b ∈ lawPs, a.1 = b.1 → a = b := by decide
theorem TabOk.add {z : Addr} {qu : Nat → Str} {ps : Array Value} {k : Nat → Addr × Obj} {c' : Addr} {oc : Obj} {line col : Nat} (T : TabOk z qu ps k) (hp : (line, col) ∈ lawPs) (hn : codeAmong ⟨line, col, 0, 0⟩ ps.toList = none) (hz : z ≤ c')
    (hc : ∃ vs t, oc.data = .fields vs ∧ vs[1]? = some (.str (qu line) t)) : TabOk z qu (ps ++ #[rawInt line, rawInt col, .ref c']) (upd k line (c', oc)) := by
  have e : (ps ++ #[rawInt line, rawInt col, .ref c']).toList = ps.toList ++ [rawInt line, rawInt col, .ref c'] := by simp
  refine ⟨by rw [e]; exact TriplesOk_snoc _ _ _ _ T.tri, fun lc hl cv h => ?_⟩
  rw [e] at h
  by_cases hq : lc.1 = line
  · have := lawPs_inj lc hl _ hp hq
    subst this
    have z2 := codeAmong_snoc (pos := ⟨line, col, 0, 0⟩) (c := .ref c') _ T.tri hn
    dsimp only at z2 h
    rw [z2] at h
    cases h
    simp only [upd, if_true]
    exact ⟨rfl, hz, hc⟩
  · rw [among_snoc_ne (by dsimp only; omega) _ T.tri] at h
    simp only [upd, if_neg hq]
    exact T.hit lc hl cv h
theorem main_ne {g : Heap} {p : Program} {lo : List Str} {mean : ExcName → Option Value} {mg mb : Str → Option Value} {s : Shared} {L P : Addr} {m : Str → Option Value} {news : List (Addr × Obj)} {ps : Array Value} (F : Fr g L s.heap m) (N : News g L s.heap news) (T : Top p lo mean mg mb g) (hm : (P, tabObj ps) ∈ news) : mainGlobals ≠ P ∧ s.heap.BuiltinsAt mg P := by
  have hm := N _ hm
  have hgs := T.g.keeps F.keep
  obtain ⟨bm, ob, b1, b2, b3, b4, b5, b6⟩ := T.bmain
  refine ⟨fun q => ?_, bm, ob, b1, b2, fun q => ?_, fun q => ?_, F.keep _ _ b3, b4, b5, b6⟩
  · obtain ⟨o, es, ep, e, hd, _⟩ := hgs
    rw [q, hm.1] at e; cases e; cases hd
  · obtain ⟨o, es, ep, e, hd, _⟩ := T.g
    rw [q, e] at b3; cases b3; rw [hd] at b6; cases b6
  · have e := F.keep _ _ b3
    rw [q, hm.1] at e; cases e; cases b4
theorem made_news {g : Heap} {s : Shared} {L P : Addr} {m : Str → Option Value} {news : List (Addr × Obj)} {gf : Obj → List (Addr × Obj)} {ps : Array Value} {h' : Heap} {c' : Addr} {oc of : Obj} {ps' : Array Value} (F : Fr g L s.heap m) (N : News g L s.heap news) (U : UpdF P (tabObj ps) news gf) (hx : Heap.ExtBut P s.heap h') (hge : s.heap.objs.size ≤ c') (hlt : c' < h'.objs.size) (hoc : h'.get? c' = some oc) (htb : h'.get? P = some (tabObj ps')) (hof : of.isFreed = false) :
    Fr g L (h'.push of) m ∧ News g L (h'.push of) ((h'.objs.size, of) :: (c', oc) :: gf (tabObj ps')) := by
  obtain ⟨own, rest, rfl, hgr, h1, h2⟩ := U.split
  have hm := N (P, tabObj ps) (List.mem_append_right _ (.head _))
  have hLs : L < s.heap.objs.size := F.ns.lt
  have hLc : L < c' := Nat.lt_of_lt_of_le hLs hge
  have old : ∀ b o, g.get? b = some o → h'.get? b = some o := fun b o e => hx b o (fun q => by rw [q, hm.2.2] at e; cases e) (F.keep b o e)
  have fresh : ∀ b, L < b → g.get? b = none := fun b hb => Heap.get?_none_of_le (Nat.le_trans F.above (Nat.le_of_lt hb))
  refine ⟨⟨(F.ns.extBut hx hm.2.1.symm).push _, fun b o e => Heap.get?_push_of_some _ (old b o e), F.above⟩, fun q hq => ?_⟩
  rcases List.mem_cons.mp hq with rfl | hq
  · exact ⟨Heap.get?_push_size _ hof, Nat.ne_of_gt (Nat.lt_trans hLc hlt), fresh _ (Nat.lt_trans hLc hlt)⟩
  rcases List.mem_cons.mp hq with rfl | hq
  · exact ⟨Heap.get?_push_of_some _ hoc, Nat.ne_of_gt hLc, fresh _ hLc⟩
  rw [hgr] at hq
  rcases List.mem_append.mp hq with hq | hq
  · have n := N q (List.mem_append_left _ hq)
    exact ⟨Heap.get?_push_of_some _ (hx _ _ (h1 q hq) n.1), n.2⟩
  rcases List.mem_cons.mp hq with rfl | hq
  · exact ⟨Heap.get?_push_of_some _ htb, hm.2⟩
  · have n := N q (List.mem_append_right _ (.tail _ hq))
    exact ⟨Heap.get?_push_of_some _ (hx _ _ (h2 q hq) n.1), n.2⟩
theorem upd_mem {P : Addr} {news : List (Addr × Obj)} {gf : Obj → List (Addr × Obj)} {ps : Array Value} (U : UpdF P (tabObj ps) news gf) : (P, tabObj ps) ∈ news ∧ gf (tabObj ps) = news := by
  obtain ⟨own, rest, rfl, hgr, h1, h2⟩ := U.split
  exact ⟨List.mem_append_right _ (.head _), hgr _⟩
theorem hit_news {g : Heap} {s : Shared} {L : Addr} {m : Str → Option Value} {news : List (Addr × Obj)} {h' : Heap} {of : Obj} {c' : Addr} {oc : Obj} (F : Fr g L s.heap m) (N : News g L s.heap news) (hk : ∀ b o, s.heap.get? b = some o → h'.get? b = some o) (hsz : s.heap.objs.size ≤ h'.objs.size) (hof : of.isFreed = false) (hc : (c', oc) ∈ news) :
    Fr g L (h'.push of) m ∧ News g L (h'.push of) ((h'.objs.size, of) :: (c', oc) :: news) := by
  have hLs : L < h'.objs.size := Nat.lt_of_lt_of_le F.ns.lt hsz
  refine ⟨⟨(F.ns.keeps hk).push _, fun b o e => Heap.get?_push_of_some _ (hk b o (F.keep b o e)), F.above⟩, fun q hq => ?_⟩
  rcases List.mem_cons.mp hq with rfl | hq
  · exact ⟨Heap.get?_push_size _ hof, Nat.ne_of_gt hLs, Heap.get?_none_of_le (Nat.le_trans F.above (Nat.le_of_lt hLs))⟩
  have hq : q ∈ news := (List.mem_cons.mp hq).elim (fun z => z ▸ hc) id
  exact ⟨Heap.get?_push_of_some _ (hk _ _ (N q hq).1), (N q hq).2⟩
theorem lam_any {A : Around} {g : Heap} {p : Program} {lo : List Str} {mean : ExcName → Option Value} {mg mb : Str → Option Value} {s : Shared} {E Q : Value → Shared → Prop} {L c P z : Addr} {m : Str → Option Value} {news : List (Addr × Obj)} {env : Env} {gf : Obj → List (Addr × Obj)} {M : Model} {name qual : Str} {params : Arguments} {scope : Scope} {ps : Array Value} {pos : Pos} {firstLine : Nat} {clos : List (Str × Addr)} {qu : Nat → Str} {k : Nat → Addr × Obj} {oz : Obj} {body : Expr} (hg : env.globals = mainGlobals) (hcd : env.code = .ref c) (F : Fr g L s.heap m) (N : News g L s.heap news) (T : Top p lo mean mg mb g) (C : CodeHd g c P) (U : UpdF P (tabObj ps) news gf) (TO : TabOk z qu ps k)
    (hk : k pos.line ∈ news) (hp : (pos.line, pos.col) ∈ lawPs) (hz : (z, oz) ∈ news) (hq : qual = qu pos.line) (hcl : closureFor scope env = pure clos)
    (q : ∀ f c' oc ctv ps' h' tk, Fr g L h' m → News g L h' ((f, kla_obj name qual params body scope clos ((mg "__name__").getD .none) c' ctv) :: (c', oc) :: gf (tabObj ps')) → (∃ vs t, oc.data = .fields vs ∧ vs[1]? = some (.str qual t)) → z ≤ c' → ((c', oc) = k pos.line ∨ ∀ q ∈ news, q.1 < c') → (∀ q ∈ news, q.1 < f) → c' < f →
      TabOk z qu ps' (upd k pos.line (c', oc)) → Q (.ref f) { s with heap := h', toks := tk }) :
    wpAny M A (makeFunction name qual params (.expr body) scope env [] [] [] pos firstLine) Q E s := by
  obtain ⟨hm, hgf⟩ := upd_mem U
  obtain ⟨hgP, hb⟩ := main_ne F N T hm
  have hgs := T.g.keeps F.keep
  have ea := among_eq (p := pos) (q := ⟨pos.line, pos.col, 0, 0⟩) rfl rfl ps.toList
  cases hc : codeAmong pos ps.toList with
  | none =>
    refine kla_makeFunction (mg := mg) hcl hg hgs hcd (C.keeps F.keep) (N _ hm).1 TO.tri hc hgP hb fun c' ctv h' tk hx hge hlt hrec htb => ?_
    obtain ⟨c₂, oc, vs, t, e2, hoc, hd, hv⟩ := hrec
    cases e2
    obtain ⟨F', N'⟩ := made_news F N U hx hge hlt hoc htb (of := kla_obj name qual params body scope clos ((mg "__name__").getD .none) c' ctv) rfl
    have hzc : z ≤ c' := Nat.le_trans (Nat.le_of_lt (Heap.lt_size (N _ hz).1)) hge
    refine q _ c' oc ctv _ _ tk F' N' ⟨vs, t, hd, hv⟩ hzc (.inr fun p hp => Nat.lt_of_lt_of_le (Heap.lt_size (N p hp).1) hge) (fun p hp => Nat.lt_of_lt_of_le (Heap.lt_size (N p hp).1) (Nat.le_trans hge (Nat.le_of_lt hlt))) hlt (TO.add hp (ea ▸ hc) hzc ⟨vs, t, hd, hq ▸ hv⟩)
  | some cv =>
    obtain ⟨e1, e2, vs, t, e3, e4⟩ := TO.hit _ hp cv (ea ▸ hc)
    subst e1
    refine kla_makeFunctionHit (mg := mg) hcl hg hgs hcd (C.keeps F.keep) (N _ hm).1 TO.tri hc hb fun ctv h' tk hk' hsz => ?_
    obtain ⟨F', N'⟩ := hit_news F N hk' hsz (of := kla_obj name qual params body scope clos ((mg "__name__").getD .none) (k pos.line).1 ctv) rfl (c' := (k pos.line).1) (oc := (k pos.line).2) hk
    have hf : ∀ p ∈ news, p.1 < h'.objs.size := fun p hp => Nat.lt_of_lt_of_le (Heap.lt_size (N p hp).1) hsz
    exact q _ (k pos.line).1 (k pos.line).2 ctv ps _ tk F' (hgf.symm ▸ N') ⟨vs, t, e3, hq ▸ e4⟩ e2 (.inl rfl) hf (hf _ hk) (TO.same fun lc hl => by simp only [upd]; split <;> simp_all)
theorem def_any {A : Around} {g : Heap} {p : Program} {lo : List Str} {mean : ExcName → Option Value} {mg mb : Str → Option Value} {s : Shared} {E Q : Value → Shared → Prop} {L c P z : Addr} {m : Str → Option Value} {news : List (Addr × Obj)} {env : Env} {gf : Obj → List (Addr × Obj)} {M : Model} {name qual : Str} {params : Arguments} {scope : Scope} {ps : Array Value} {pos : Pos} {firstLine : Nat} {clos : List (Str × Addr)} {qu : Nat → Str} {k : Nat → Addr × Obj} {oz : Obj} {body : List Stmt} (hg : env.globals = mainGlobals) (hcd : env.code = .ref c) (F : Fr g L s.heap m) (N : News g L s.heap news) (T : Top p lo mean mg mb g) (C : CodeHd g c P) (U : UpdF P (tabObj ps) news gf) (TO : TabOk z qu ps k)
    (hk : k pos.line ∈ news) (hp : (pos.line, pos.col) ∈ lawPs) (hz : (z, oz) ∈ news) (hq : qual = qu pos.line) (hcl : closureFor scope env = pure clos)
    (q : ∀ f c' oc ctv doc ps' h' tk, Fr g L h' m → News g L h' ((f, fnMade name qual params body scope clos doc ((mg "__name__").getD .none) c' ctv) :: (c', oc) :: gf (tabObj ps')) → (∃ vs t, oc.data = .fields vs ∧ vs[1]? = some (.str qual t)) → z ≤ c' → ((c', oc) = k pos.line ∨ ∀ q ∈ news, q.1 < c') → (∀ q ∈ news, q.1 < f) → c' < f →
      TabOk z qu ps' (upd k pos.line (c', oc)) → Q (.ref f) { s with heap := h', toks := tk }) :
    wpAny M A (makeFunction name qual params (.stmts body) scope env [] [] [] pos firstLine) Q E s := by
  obtain ⟨hm, hgf⟩ := upd_mem U
  obtain ⟨hgP, hb⟩ := main_ne F N T hm
  have hgs := T.g.keeps F.keep
  have ea := among_eq (p := pos) (q := ⟨pos.line, pos.col, 0, 0⟩) rfl rfl ps.toList
  cases hc : codeAmong pos ps.toList with
  | none =>
    refine makeFunction_K (mg := mg) hcl hg hgs hcd (C.keeps F.keep) (N _ hm).1 TO.tri hc hgP hb fun c' ctv doc h' tk hx hge hlt hrec htb => ?_
    obtain ⟨c₂, oc, vs, t, e2, hoc, hd, hv⟩ := hrec
    cases e2
    obtain ⟨F', N'⟩ := made_news F N U hx hge hlt hoc htb (of := fnMade name qual params body scope clos doc ((mg "__name__").getD .none) c' ctv) rfl
    have hzc : z ≤ c' := Nat.le_trans (Nat.le_of_lt (Heap.lt_size (N _ hz).1)) hge
    refine q _ c' oc ctv doc _ _ tk F' N' ⟨vs, t, hd, hv⟩ hzc (.inr fun p hp => Nat.lt_of_lt_of_le (Heap.lt_size (N p hp).1) hge) (fun p hp => Nat.lt_of_lt_of_le (Heap.lt_size (N p hp).1) (Nat.le_trans hge (Nat.le_of_lt hlt))) hlt (TO.add hp (ea ▸ hc) hzc ⟨vs, t, hd, hq ▸ hv⟩)
  | some cv =>
    obtain ⟨e1, e2, vs, t, e3, e4⟩ := TO.hit _ hp cv (ea ▸ hc)
    subst e1
    refine makeFunction_hit (mg := mg) hcl hg hgs hcd (C.keeps F.keep) (N _ hm).1 TO.tri hc hb fun ctv doc h' tk hk' hsz => ?_
    obtain ⟨F', N'⟩ := hit_news F N hk' hsz (of := fnMade name qual params body scope clos doc ((mg "__name__").getD .none) (k pos.line).1 ctv) rfl (c' := (k pos.line).1) (oc := (k pos.line).2) hk
    have hf : ∀ p ∈ news, p.1 < h'.objs.size := fun p hp => Nat.lt_of_lt_of_le (Heap.lt_size (N p hp).1) hsz
    exact q _ (k pos.line).1 (k pos.line).2 ctv doc ps _ tk F' (hgf.symm ▸ N') ⟨vs, t, e3, hq ▸ e4⟩ e2 (.inl rfl) hf (hf _ hk) (TO.same fun lc hl => by simp only [upd]; split <;> simp_all)
end
section
/-- what a call at the law's level leans on -/
structure At (w : World) (A : Around) (base g : Heap) (p : Program) (lo : List Str) (mean : ExcName → Option Value) (mg mb : Str → Option Value) (L : Addr) (env : Env) : Prop where
  below : Below A base [] g
  kb : (layK.heap_1 w.params).In base
  tb : Top p lo mean mg mb base
  kin : (layK.heap_1 w.params).In g
  top : Top p lo mean mg mb g
  size : base.objs.size ≤ g.objs.size
  room : A.depth + 60 < 900
  units : A.units + 200 < 9000
  hand : A.handled = none
  frame : env.frame = some L
  kind : env.scope.kind = .function
theorem At.here {w : World} {A : Around} {g base : Heap} {p : Program} {lo : List Str} {mean : ExcName → Option Value} {mg mb : Str → Option Value} {s : Shared} {L : Addr} {m : Str → Option Value} {news : List (Addr × Obj)} {env : Env} {k : Nat} (a : At w A base g p lo mean mg mb L env) (hk : k ≤ 25) (F : Fr g L s.heap m) (N : News g L s.heap news) (M : List Addr) (hM : ∀ b ∈ M, b ∈ news.map (·.1)) :
    Here w (A.deeper env) (hideAll s.heap M) p lo mean mg mb [env] k ∧ (∀ b ∈ M, (hideAll s.heap M).get? b = none) ∧ Gr (hideAll s.heap M) s.heap := by
  have hg : ∀ b ∈ M, g.get? b = none ∧ b ≠ L := fun b hb => by
    obtain ⟨q, hq, rfl⟩ := List.mem_map.mp (hM b hb)
    exact ⟨(N q hq).2.2, (N q hq).2.1⟩
  exact ⟨(here_of (k := k + 1) a.below a.kb a.tb a.kin a.top a.size (by have := a.room; omega) (by have := a.units; omega) a.hand).call F a.frame (by rw [a.kind]; decide) M (fun b hb => (hg b hb).1) (fun z => (hg L z).2 rfl),
    fun b hb => hideAll_none _ hb, ⟨fun b o z => of_hideAll _ z, Nat.le_of_eq (hideAll_size _ _)⟩⟩
theorem nip_K {w : World} {A : Around} {g base : Heap} {p : Program} {lo : List Str} {mean : ExcName → Option Value} {mg mb : Str → Option Value} {s : Shared} {E Q : Value → Shared → Prop} {L : Addr} {m : Str → Option Value} {news : List (Addr × Obj)} {env : Env} {gf : Obj → List (Addr × Obj)} {tn sc : Addr} {vs : List Value} {is : List Int} {c many : Int} {tc tm : Tok} {n1 n2 : Nat} (a : At w A base g p lo mean mg mb L env) (F : Fr g L s.heap m) (N : News g L s.heap news) (U : UpdF tn (listOf #[.ref sc, .int c tc] n1) news gf)
    (hsc : (sc, listOf vs.toArray n2) ∈ news) (hne : sc ≠ tn) (hi : IntsAre vs is) (hlen : is.length ≤ 20) (hc : 0 ≤ c) (hm : 0 < many) (hm2 : many < 100)
    (q : ∀ r t tc' h' tk, 0 ≤ r → r < many → Fr g L h' m → News g L h' (gf (listOf #[.ref sc, .int (c + 1) tc'] n1)) → Q (.int r t) { s with heap := h', toks := tk }) :
    wpAny (model PG w) (A.deeper env) (call (.ref 400) [.ref tn, .int many tm] []) Q E s := by
  obtain ⟨own, rest, rfl, hgr, h1, h2⟩ := U.split
  have ht : (tn, listOf #[.ref sc, .int c tc] n1) ∈ own ++ (tn, listOf #[.ref sc, .int c tc] n1) :: rest := List.mem_append_right _ (.head _)
  obtain ⟨H, hM, hG⟩ := a.here (k := 20) (by omega) F N [tn, sc] (fun b hb => by
    simp only [List.mem_cons, List.not_mem_nil, or_false] at hb
    rcases hb with rfl | rfl
    · exact List.mem_map_of_mem (f := (·.1)) ht
    · exact List.mem_map_of_mem (f := (·.1)) hsc)
  refine nip_spec (k := 0) (n1 := n1) (n2 := n2) (tc := tc) rfl H hG ?_ ?_ hi hlen hc hm hm2 hne fun r t tc' h' tk h0 hr o e1 e2 => q r t tc' h' tk h0 hr ?_ ?_
  · intro q hq
    simp only [List.mem_cons, List.not_mem_nil, or_false] at hq
    rcases hq with rfl | rfl
    · exact (N _ ht).1
    · exact (N _ hsc).1
  · intro q hq
    refine hM _ ?_
    simp only [List.mem_cons, List.not_mem_nil, or_false] at hq
    rcases hq with rfl | rfl <;> simp
  · obtain ⟨oL, es, ep, hL, r⟩ := F.ns
    refine ⟨⟨oL, es, ep, o.1 L oL (fun z => ?_) hL, r⟩, fun b ob z => o.1 b ob (fun y => ?_) (F.keep b ob z), F.above⟩
    · simp only [List.map_cons, List.map_nil, List.mem_cons, List.not_mem_nil, or_false] at z
      rcases z with z | z
      · exact (N _ ht).2.1 z.symm
      · exact (N _ hsc).2.1 z.symm
    · simp only [List.map_cons, List.map_nil, List.mem_cons, List.not_mem_nil, or_false] at y
      rcases y with rfl | rfl
      · rw [(N _ ht).2.2] at z; cases z
      · rw [(N _ hsc).2.2] at z; cases z
  · rw [hgr]
    have keep : ∀ p ∈ own ++ (tn, listOf #[.ref sc, .int c tc] n1) :: rest, p.1 ≠ tn → h'.get? p.1 = some p.2 := fun p hp hn => by
      by_cases hs : p.1 = sc
      · have e := (N p hp).1
        rw [hs, (N _ hsc).1] at e
        rw [hs, e2, e]
      · refine o.1 _ _ (fun y => ?_) (N p hp).1
        simp only [List.map_cons, List.map_nil, List.mem_cons, List.not_mem_nil, or_false] at y
        exact y.elim hn hs
    intro p hp
    rcases List.mem_append.mp hp with hp | hp
    · exact ⟨keep p (List.mem_append_left _ hp) (h1 p hp), (N p (List.mem_append_left _ hp)).2⟩
    rcases List.mem_cons.mp hp with rfl | hp
    · exact ⟨e1, (N _ ht).2⟩
    · exact ⟨keep p (List.mem_append_right _ (.tail _ hp)) (h2 p hp), (N p (List.mem_append_right _ (.tail _ hp))).2⟩
/-- the ledger behind a deed that read only -/
theorem news_read {g : Heap} {s : Shared} {L : Addr} {news ns : List (Addr × Obj)} {h' : Heap} {M : List Addr} (N : News g L s.heap news) (hns : ∀ q ∈ ns, q ∈ news) (o : Off (ns.map (·.1)) s.heap h') (hk : ∀ q ∈ ns, h'.get? q.1 = some q.2) : News g L h' news := fun p hp => by
  refine ⟨?_, (N p hp).2⟩
  by_cases hq : p.1 ∈ ns.map (·.1)
  · obtain ⟨t, ht, e⟩ := List.mem_map.mp hq
    have := (N t (hns t ht)).1
    rw [e, (N p hp).1] at this
    rw [← e, hk t ht]; exact this.symm
  · exact o.1 _ _ hq (N p hp).1
theorem fr_mut {g : Heap} {s : Shared} {L : Addr} {m : Str → Option Value} {news ns : List (Addr × Obj)} {h' : Heap} (F : Fr g L s.heap m) (N : News g L s.heap news) (hns : ∀ q ∈ ns, q ∈ news) (o : Off (ns.map (·.1)) s.heap h') : Fr g L h' m := by
  obtain ⟨oL, es, ep, hL, r⟩ := F.ns
  refine ⟨⟨oL, es, ep, o.1 L oL (fun z => ?_) hL, r⟩, fun b ob z => o.1 b ob (fun y => ?_) (F.keep b ob z), F.above⟩
  · obtain ⟨t, ht, e⟩ := List.mem_map.mp z
    exact (N t (hns t ht)).2.1 e
  · obtain ⟨t, ht, rfl⟩ := List.mem_map.mp y
    rw [(N t (hns t ht)).2.2] at z; cases z
/-- the ledger behind a deed that wrote the list nl -/
theorem news_wrote {g : Heap} {s : Shared} {L nl : Addr} {news : List (Addr × Obj)} {old new : Obj} {gf : Obj → List (Addr × Obj)} {h' : Heap} {tl : List (Addr × Obj)} (N : News g L s.heap news) (hns : ∀ q ∈ (nl, old) :: tl, q ∈ news) (U : UpdF nl old news gf) (o : Off (((nl, old) :: tl).map (·.1)) s.heap h') (hk : ∀ q ∈ tl, h'.get? q.1 = some q.2) (hl : h'.get? nl = some new) : News g L h' (gf new) := by
  obtain ⟨own, rest, rfl, hgr, h1, h2⟩ := U.split
  have keep : ∀ p ∈ own ++ (nl, old) :: rest, p.1 ≠ nl → h'.get? p.1 = some p.2 := fun p hp hn => by
    by_cases hq : p.1 ∈ ((nl, old) :: tl).map (·.1)
    · obtain ⟨t, ht, e⟩ := List.mem_map.mp hq
      have := (N t (hns t ht)).1
      rw [e, (N p hp).1] at this
      rcases List.mem_cons.mp ht with rfl | ht
      · exact absurd e.symm hn
      · rw [← e, hk t ht]; exact this.symm
    · exact o.1 _ _ hq (N p hp).1
  rw [hgr]
  intro p hp
  rcases List.mem_append.mp hp with hp | hp
  · exact ⟨keep p (List.mem_append_left _ hp) (h1 p hp), (N p (List.mem_append_left _ hp)).2⟩
  rcases List.mem_cons.mp hp with rfl | hp
  · exact ⟨hl, (N (nl, old) (List.mem_append_right _ (.head _))).2⟩
  · exact ⟨keep p (List.mem_append_right _ (.tail _ hp)) (h2 p hp), (N p (List.mem_append_right _ (.tail _ hp))).2⟩
theorem news_put {g : Heap} {s : Shared} {L : Addr} {m : Str → Option Value} {h' : Heap} {r : Addr} {o : Obj} {nw : List (Addr × Obj)} (F : Fr g L s.heap m) (N : News g L h' nw) (h : h'.get? r = some o) (hn : s.heap.get? r = none) : News g L h' ((r, o) :: nw) := fun p hp => by
  rcases List.mem_cons.mp hp with rfl | hp
  · refine ⟨h, fun z => ?_, ?_⟩
    · obtain ⟨oL, es, ep, hL, _⟩ := F.ns
      dsimp only at z
      rw [z, hL] at hn; cases hn
    · dsimp only
      cases z : g.get? r with
      | none => rfl
      | some o' => rw [F.keep _ _ z] at hn; cases hn
  · exact N p hp
theorem heard_K {w : World} {A : Around} {g base : Heap} {p : Program} {lo : List Str} {mean : ExcName → Option Value} {mg mb : Str → Option Value} {s : Shared} {E Q : Value → Shared → Prop} {L : Addr} {m : Str → Option Value} {news ns : List (Addr × Obj)} {env : Env} {d : Addr} {oc : Value} {od : Option Addr} {fd : FuncData} {sl : Array (Option Value)} {P : Value → Heap → Prop} {Bd : Str → Prop} (a : At w A base g p lo mean mg mb L env) (F : Fr g L s.heap m) (N : News g L s.heap news)
    (hns : ∀ q ∈ ns, q ∈ news) (hdd : (d, ⟨oc, od, .func fd, sl⟩) ∈ news)
    (hD : ∀ A1 G1 l1 h1 tk1 (Q1 : Value → Shared → Prop) (E1 : Value → Shared → Prop), Here w A1 G1 p lo mean mg mb l1 20 → Gr G1 h1 → (∀ q ∈ ns, h1.get? q.1 = some q.2) → (∀ q ∈ ns, G1.get? q.1 = none) → Gr s.heap h1 →
      (∀ v h2 tk2, Off (ns.map (·.1)) h1 h2 → P v h2 → Q1 v { s with heap := h2, toks := tk2 }) → (∀ e x h2 tk2, Bd x → Flew l1 h1 h2 e x → E1 (.ref e) { s with heap := h2, toks := tk2 }) →
      wpAny (model PG w) A1 (call (.ref d) [] []) Q1 E1 { s with heap := h1, toks := tk1 })
    (q : ∀ v h' tk, Fr g L h' m → Off (ns.map (·.1)) s.heap h' → P v h' → Q v { s with heap := h', toks := tk })
    (qb : ∀ x h' tk tk', Bd x → Fr g L h' m → News g L h' news → Q (.str (heardText x) tk) { s with heap := h', toks := tk' }) :
    wpAny (model PG w) (A.deeper env) (call (.ref 407) [.ref d] []) Q E s := by
  obtain ⟨H, hM, hG⟩ := a.here (k := 22) (by omega) F N (ns.map (·.1)) (fun b hb => by
    obtain ⟨t, ht, rfl⟩ := List.mem_map.mp hb
    exact List.mem_map_of_mem (f := (·.1)) (hns t ht))
  refine heard_spec (k := 20) (M := ns.map (·.1)) (P := P) (B := Bd) H hG hM (fun b hb => ?_) (N _ hdd).1 ?_ ?_ ?_
  · obtain ⟨t, ht, rfl⟩ := List.mem_map.mp hb
    exact ⟨_, (N t (hns t ht)).1⟩
  · intro A1 G1 l1 h1 tk1 Q1 E1 H1 hG1 hof hN1 hs ok bad
    exact hD A1 G1 l1 h1 tk1 Q1 E1 H1 hG1 (fun t ht => hs.stay _ _ (N t (hns t ht)).1) (fun t ht => hN1 _ (List.mem_map_of_mem (f := (·.1)) ht)) hs ok bad
  · intro v h' tk o pv
    exact q v h' tk (fr_mut F N hns o) o pv
  · intro x h' tk tk' hb kp
    have hL : ∀ b, b ∈ frs [env] → b = L := fun b hb => by
      rw [frs_cons a.frame] at hb
      simpa [frs] using hb
    refine qb x h' tk tk' hb ⟨kp.ns F.ns List.not_mem_nil, fun b o z => kp.same b o (F.keep b o z) List.not_mem_nil (fun y => ?_), F.above⟩ (fun t ht => ⟨kp.same _ _ (N t ht).1 List.not_mem_nil (fun y => (N t ht).2.1 (hL _ y)), (N t ht).2⟩)
    rw [hL b y] at z
    exact absurd (Nat.lt_of_lt_of_le (Heap.lt_size z) F.above) (Nat.lt_irrefl _)
end
section
mutual
theorem hk_store {w : World} {A : Around} {g base : Heap} {p : Program} {lo : List Str} {mean : ExcName → Option Value} {mg mb : Str → Option Value} {s : Shared} {E Q : Value → Shared → Prop} {L : Addr} {m : Str → Option Value} {news : List (Addr × Obj)} {env : Env} {gf : Obj → List (Addr × Obj)} {qual : Str} {pm ct : Value} {c' d mem dm nl ch pl em : Addr} {n2 n3 n4 : Nat} {x1 x2 : Int} {t1 t2 u1 u2 u3 : Tok} {a : Int} {us : List Value} {od : Option Addr} {sl : Array (Option Value)} {cLab cOne cPl one d1 C z : Addr} {oLab oOne oPl oz : Obj} {es : List DictEntry} {n : Nat} {lb : Int} {tl : Tok} {p1 p2 p4 p5 : Pos} {i1 i2 i3 i4 i5 i6 : Nat} {oc : Obj} {ns : List (Addr × Obj)}
    (hn : ns = [(nl, ⟨.type "list", od, .seq us.toArray n3, sl⟩), (cLab, oLab), (cOne, oOne), (cPl, oPl), (one, instObj C d1), (d1, dictOf es n), (mem, instObj 91 dm), (dm, dictOf [⟨x1, .str (Str.ofString "numeric") t1, .ref nl⟩, ⟨x2, .str (Str.ofString "characters") t2, .ref ch⟩] n2), (pl, tupOf [.int 0 u1, .int a u2, .int 0 u3, .ref em] n4), (z, oz)])
    (ta : At w A base g p lo mean mg mb L env) (F : Fr g L s.heap m) (N : News g L s.heap news) (hns : ∀ q ∈ ns, q ∈ news) (U : UpdF nl ⟨.type "list", od, .seq us.toArray n3, sl⟩ news gf) 
    (hC : C = 314 ∨ C = 267) (hLab : oLab.data = .cell (some (.int lb tl))) (hOne : oOne.data = .cell (some (.ref one))) (hPl : oPl.data = .cell (some (.ref pl))) (hmem : getL "memory" es = some (some (.ref mem))) (hne : ∀ q ∈ ns.tail, q.1 ≠ nl)
    (ho : (d, (kla_obj "<lambda>" qual { posonlyargs := [], args := [], vararg := none, kwonlyargs := [], kw_defaults := [], kwarg := none, defaults := [] }
      (.Call (.Attribute (.Attribute (.Name (Str.ofString "one") p1) (Str.ofString "memory") p2) (Str.ofString "store") ⟨i1, i2, 300, i3⟩) [.Name (Str.ofString "place") p4, .Name (Str.ofString "label") p5] [] ⟨300, i4, i5, i6⟩)
      { kind := .function, names := [(Str.ofString "label", .free), (Str.ofString "one", .free), (Str.ofString "place", .free)], isGenerator := false, isCoroutine := false } [(Str.ofString "place", cPl), (Str.ofString "one", cOne), (Str.ofString "label", cLab)] pm c' ct)) ∈ news) (hce : (c', oc) ∈ news) (hcode : ∃ vs t, oc.data = .fields vs ∧ vs[1]? = some (.str qual t))
    (h0 : 0 ≤ a) (hlen : us.length < 10)
    (qo : a < us.length → ∀ r' od' n' sl' t t' m' h' tk, z < r' → Fr g L h' m → News g L h' ((r', tupOf [.int 0 t, .int lb t'] m') :: gf ⟨.type "list", od', .seq (us.set a.toNat (.ref r')).toArray n', sl'⟩) → Q .none { s with heap := h', toks := tk })
    (qb : ¬ a < us.length → ∀ h' tk tk', Fr g L h' m → News g L h' news → Q (.str (Str.ofString "storage") tk) { s with heap := h', toks := tk' }) :
    wpAny (model PG w) (A.deeper env) (call (.ref 407) [.ref d] []) Q E s := by
  subst hn
  refine heard_K ta F N hns ho (P := fun v h2 => a < us.length ∧ v = .none ∧ ∃ r' od' n' sl' t t' m', (∀ q ∈ List.tail [(nl, ⟨.type "list", od, .seq us.toArray n3, sl⟩), (cLab, oLab), (cOne, oOne), (cPl, oPl), (one, instObj C d1), (d1, dictOf es n), (mem, instObj 91 dm), (dm, dictOf [⟨x1, .str (Str.ofString "numeric") t1, .ref nl⟩, ⟨x2, .str (Str.ofString "characters") t2, .ref ch⟩] n2), (pl, tupOf [.int 0 u1, .int a u2, .int 0 u3, .ref em] n4), (z, oz)], h2.get? q.1 = some q.2) ∧ h2.get? nl = some ⟨.type "list", od', .seq (us.set a.toNat (.ref r')).toArray n', sl'⟩ ∧ h2.get? r' = some (tupOf [.int 0 t, .int lb t'] m') ∧ s.heap.get? r' = none ∧ z < r') (Bd := fun x => ¬ a < us.length ∧ x = Str.ofString "storage") (fun A1 G1 l1 h1 tk1 Q1 E1 H1 hG1 hN1 hM1 hs good bad => ?_) ?_ ?_
  · have hcd : h1.CodeRec (.ref c') qual := by
      obtain ⟨vs, t, e1, e2⟩ := hcode
      exact ⟨c', oc, vs, t, rfl, hs.stay _ _ (N _ hce).1, e1, e2⟩
    refine deed_store (k := 0) (s := { s with heap := h1, toks := tk1 }) (hn := rfl) (H := H1) (hG := hG1) (hN := hN1) (hM := hM1) (hC := hC) (hLab := hLab) (hOne := hOne) (hPl := hPl) (hmem := hmem) (hne := hne) (ho := hs.stay _ _ (N _ ho).1) (hcd := hcd) (h0 := h0) (hlen := hlen) (qo := ?_) (qb := ?_)
    · intro r' od' n' sl' t t' m' h' tk hlt o hk hl ht hn hlt2 ; exact good _ _ _ o ⟨hlt, rfl, r', od', n', sl', t, t', m', hk, hl, ht, none_of hs hn, hlt2 (z, oz) (by simp)⟩
    · intro x e h' tk hx he X; exact bad _ _ _ _ ⟨hx, he⟩ X
  · rintro v h' tk F' o ⟨hlt, rfl, r', od', n', sl', t, t', m', hk, hl, ht, hn, hz⟩; exact qo hlt r' od' n' sl' t t' m' h' tk hz F' (news_put F (news_wrote N hns U o hk hl) ht hn)
  · rintro x h' tk tk' ⟨hx, rfl⟩ F' N'; exact qb hx h' tk tk' F' N'
theorem hk_setm {w : World} {A : Around} {g base : Heap} {p : Program} {lo : List Str} {mean : ExcName → Option Value} {mg mb : Str → Option Value} {s : Shared} {E Q : Value → Shared → Prop} {L : Addr} {m : Str → Option Value} {news : List (Addr × Obj)} {env : Env} {gf : Obj → List (Addr × Obj)} {qual : Str} {pm ct : Value} {c' d mem dm nl ch pl em : Addr} {n2 n3 n4 : Nat} {x1 x2 : Int} {t1 t2 u1 u2 u3 : Tok} {a : Int} {us : List Value} {od : Option Addr} {sl : Array (Option Value)} {cCall cLab cMac call1 dc rg mac d1 z : Addr} {oCall oLab oMac oz : Obj} {es ec : List DictEntry} {n nc n7 ck1 ck2 : Nat} {lb : Int} {tl : Tok} {p1 p2 p3 p4 p5 p6 p7 p8 : Pos} {oc : Obj} {ns : List (Addr × Obj)}
    (hn : ns = [(nl, ⟨.type "list", od, .seq us.toArray n3, sl⟩), (cCall, oCall), (cLab, oLab), (cMac, oMac), (call1, instObj 288 dc), (dc, dictOf ec nc), (rg, listOf #[.ref pl] n7), (mac, instObj 267 d1), (d1, dictOf es n), (mem, instObj 91 dm), (dm, dictOf [⟨x1, .str (Str.ofString "numeric") t1, .ref nl⟩, ⟨x2, .str (Str.ofString "characters") t2, .ref ch⟩] n2), (pl, tupOf [.int 0 u1, .int a u2, .int 0 u3, .ref em] n4), (z, oz)])
    (ta : At w A base g p lo mean mg mb L env) (F : Fr g L s.heap m) (N : News g L s.heap news) (hns : ∀ q ∈ ns, q ∈ news) (U : UpdF nl ⟨.type "list", od, .seq us.toArray n3, sl⟩ news gf) 
    (hLab : oLab.data = .cell (some (.int lb tl))) (hCall : oCall.data = .cell (some (.ref call1))) (hrg : getL "registers" ec = some (some (.ref rg))) (hMac : oMac.data = .cell (some (.ref mac))) (hmem : getL "memory" es = some (some (.ref mem))) (hne : ∀ q ∈ ns.tail, q.1 ≠ nl)
    (ho : (d, (kla_obj "<lambda>" qual { posonlyargs := [], args := [], vararg := none, kwonlyargs := [], kw_defaults := [], kwarg := none, defaults := [] }
      (.Call (.Name (Str.ofString "do_setlabel_machineops") p1) [.Name (Str.ofString "machine") p2, .Name (Str.ofString "call") p3, .Tuple [.Constant (.str (Str.ofString "setlabel")) ck1 p4, .Constant (.int 0) ck2 p5, .Name (Str.ofString "label") p6] 0 p7] [] p8)
      { kind := .function, names := [(Str.ofString "call", .free), (Str.ofString "label", .free), (Str.ofString "machine", .free), (Str.ofString "do_setlabel_machineops", .globalImplicit)], isGenerator := false, isCoroutine := false } [(Str.ofString "machine", cMac), (Str.ofString "label", cLab), (Str.ofString "call", cCall)] pm c' ct)) ∈ news) (hce : (c', oc) ∈ news) (hcode : ∃ vs t, oc.data = .fields vs ∧ vs[1]? = some (.str qual t))
    (h0 : 0 ≤ a) (hlen : us.length < 10)
    (qo : a < us.length → ∀ r' od' n' sl' t t' m' h' tk, z < r' → Fr g L h' m → News g L h' ((r', tupOf [.int 7 t, .int lb t'] m') :: gf ⟨.type "list", od', .seq (us.set a.toNat (.ref r')).toArray n', sl'⟩) → Q .none { s with heap := h', toks := tk })
    (qb : ¬ a < us.length → ∀ h' tk tk', Fr g L h' m → News g L h' news → Q (.str (Str.ofString "storage") tk) { s with heap := h', toks := tk' }) :
    wpAny (model PG w) (A.deeper env) (call (.ref 407) [.ref d] []) Q E s := by
  subst hn
  refine heard_K ta F N hns ho (P := fun v h2 => a < us.length ∧ v = .none ∧ ∃ r' od' n' sl' t t' m', (∀ q ∈ List.tail [(nl, ⟨.type "list", od, .seq us.toArray n3, sl⟩), (cCall, oCall), (cLab, oLab), (cMac, oMac), (call1, instObj 288 dc), (dc, dictOf ec nc), (rg, listOf #[.ref pl] n7), (mac, instObj 267 d1), (d1, dictOf es n), (mem, instObj 91 dm), (dm, dictOf [⟨x1, .str (Str.ofString "numeric") t1, .ref nl⟩, ⟨x2, .str (Str.ofString "characters") t2, .ref ch⟩] n2), (pl, tupOf [.int 0 u1, .int a u2, .int 0 u3, .ref em] n4), (z, oz)], h2.get? q.1 = some q.2) ∧ h2.get? nl = some ⟨.type "list", od', .seq (us.set a.toNat (.ref r')).toArray n', sl'⟩ ∧ h2.get? r' = some (tupOf [.int 7 t, .int lb t'] m') ∧ s.heap.get? r' = none ∧ z < r') (Bd := fun x => ¬ a < us.length ∧ x = Str.ofString "storage") (fun A1 G1 l1 h1 tk1 Q1 E1 H1 hG1 hN1 hM1 hs good bad => ?_) ?_ ?_
  · have hcd : h1.CodeRec (.ref c') qual := by
      obtain ⟨vs, t, e1, e2⟩ := hcode
      exact ⟨c', oc, vs, t, rfl, hs.stay _ _ (N _ hce).1, e1, e2⟩
    refine deed_setm (k := 0) (s := { s with heap := h1, toks := tk1 }) (hn := rfl) (H := H1) (hG := hG1) (hN := hN1) (hM := hM1) (hLab := hLab) (hCall := hCall) (hrg := hrg) (hMac := hMac) (hmem := hmem) (hne := hne) (ho := hs.stay _ _ (N _ ho).1) (hcd := hcd) (h0 := h0) (hlen := hlen) (qo := ?_) (qb := ?_)
    · intro r' od' n' sl' t t' m' h' tk hlt o hk hl ht hn hlt2 ; exact good _ _ _ o ⟨hlt, rfl, r', od', n', sl', t, t', m', hk, hl, ht, none_of hs hn, hlt2 (z, oz) (by simp)⟩
    · intro x e h' tk hx he X; exact bad _ _ _ _ ⟨hx, he⟩ X
  · rintro v h' tk F' o ⟨hlt, rfl, r', od', n', sl', t, t', m', hk, hl, ht, hn, hz⟩; exact qo hlt r' od' n' sl' t t' m' h' tk hz F' (news_put F (news_wrote N hns U o hk hl) ht hn)
  · rintro x h' tk tk' ⟨hx, rfl⟩ F' N'; exact qb hx h' tk tk' F' N'
theorem hk_setp {w : World} {A : Around} {g base : Heap} {p : Program} {lo : List Str} {mean : ExcName → Option Value} {mg mb : Str → Option Value} {s : Shared} {E Q : Value → Shared → Prop} {L : Addr} {m : Str → Option Value} {news : List (Addr × Obj)} {env : Env} {gf : Obj → List (Addr × Obj)} {qual : Str} {pm ct : Value} {c' d mem dm nl ch pl em : Addr} {n2 n3 n4 : Nat} {x1 x2 : Int} {t1 t2 u1 u2 u3 : Tok} {a : Int} {us : List Value} {od : Option Addr} {sl : Array (Option Value)} {cLab cRun run d1 fr z : Addr} {oLab oRun oF oz : Obj} {es : List DictEntry} {n ck1 ck2 ck3 ck4 ck5 : Nat} {lb : Int} {tl : Tok} {p1 p2 p3 p4 p5 p6 p7 p8 p9 q1 q2 q3 : Pos} {oc : Obj} {ns : List (Addr × Obj)}
    (hn : ns = [(nl, ⟨.type "list", od, .seq us.toArray n3, sl⟩), (cLab, oLab), (cRun, oRun), (run, instObj 314 d1), (d1, dictOf es n), (fr, oF), (mem, instObj 91 dm), (dm, dictOf [⟨x1, .str (Str.ofString "numeric") t1, .ref nl⟩, ⟨x2, .str (Str.ofString "characters") t2, .ref ch⟩] n2), (pl, tupOf [.int 0 u1, .int a u2, .int 0 u3, .ref em] n4), (z, oz)])
    (ta : At w A base g p lo mean mg mb L env) (F : Fr g L s.heap m) (N : News g L s.heap news) (hns : ∀ q ∈ ns, q ∈ news) (U : UpdF nl ⟨.type "list", od, .seq us.toArray n3, sl⟩ news gf) 
    (hLab : oLab.data = .cell (some (.int lb tl))) (hRun : oRun.data = .cell (some (.ref run))) (hmem : getL "memory" es = some (some (.ref mem))) (hfr : getL "frame" es = some (some (.ref fr))) (hFd : oF.IsDictOf (strKind PG w) [(Str.ofString "K", .ref pl)]) (hlo : (fr == sysModules) = false) (hne : ∀ q ∈ ns.tail, q.1 ≠ nl)
    (ho : (d, (kla_obj "<lambda>" qual { posonlyargs := [], args := [], vararg := none, kwonlyargs := [], kw_defaults := [], kwarg := none, defaults := [] }
      (.Call (.Subscript (.Call (.Name (Str.ofString "assign_statements") p1) [] [] p2) (.Constant (.str (Str.ofString "setlabel")) ck1 p3) p4) [.Name (Str.ofString "run") p5, .Constant .none ck2 p6, .Constant (.int 4) ck3 p7, .Tuple [.Constant (.str (Str.ofString "setlabel")) ck4 p8, .Name (Str.ofString "label") p9, .Constant (.str (Str.ofString "K")) ck5 q1] 0 q2] [] q3)
      { kind := .function, names := [(Str.ofString "label", .free), (Str.ofString "run", .free), (Str.ofString "assign_statements", .globalImplicit)], isGenerator := false, isCoroutine := false } [(Str.ofString "run", cRun), (Str.ofString "label", cLab)] pm c' ct)) ∈ news) (hce : (c', oc) ∈ news) (hcode : ∃ vs t, oc.data = .fields vs ∧ vs[1]? = some (.str qual t))
    (h0 : 0 ≤ a) (hlen : us.length < 10)
    (qo : a < us.length → ∀ t5 r' od' n' sl' t t' m' h' tk, z < r' → Fr g L h' m → News g L h' ((r', tupOf [.int 7 t, .int lb t'] m') :: gf ⟨.type "list", od', .seq (us.set a.toNat (.ref r')).toArray n', sl'⟩) → Q (.int 5 t5) { s with heap := h', toks := tk })
    (qb : ¬ a < us.length → ∀ h' tk tk', Fr g L h' m → News g L h' news → Q (.str (Str.ofString "storage") tk) { s with heap := h', toks := tk' }) :
    wpAny (model PG w) (A.deeper env) (call (.ref 407) [.ref d] []) Q E s := by
  subst hn
  refine heard_K ta F N hns ho (P := fun v h2 => a < us.length ∧ (∃ t5, v = .int 5 t5) ∧ ∃ r' od' n' sl' t t' m', (∀ q ∈ List.tail [(nl, ⟨.type "list", od, .seq us.toArray n3, sl⟩), (cLab, oLab), (cRun, oRun), (run, instObj 314 d1), (d1, dictOf es n), (fr, oF), (mem, instObj 91 dm), (dm, dictOf [⟨x1, .str (Str.ofString "numeric") t1, .ref nl⟩, ⟨x2, .str (Str.ofString "characters") t2, .ref ch⟩] n2), (pl, tupOf [.int 0 u1, .int a u2, .int 0 u3, .ref em] n4), (z, oz)], h2.get? q.1 = some q.2) ∧ h2.get? nl = some ⟨.type "list", od', .seq (us.set a.toNat (.ref r')).toArray n', sl'⟩ ∧ h2.get? r' = some (tupOf [.int 7 t, .int lb t'] m') ∧ s.heap.get? r' = none ∧ z < r') (Bd := fun x => ¬ a < us.length ∧ x = Str.ofString "storage") (fun A1 G1 l1 h1 tk1 Q1 E1 H1 hG1 hN1 hM1 hs good bad => ?_) ?_ ?_
  · have hcd : h1.CodeRec (.ref c') qual := by
      obtain ⟨vs, t, e1, e2⟩ := hcode
      exact ⟨c', oc, vs, t, rfl, hs.stay _ _ (N _ hce).1, e1, e2⟩
    refine deed_setp (k := 0) (s := { s with heap := h1, toks := tk1 }) (hn := rfl) (H := H1) (hG := hG1) (hN := hN1) (hM := hM1) (hLab := hLab) (hRun := hRun) (hmem := hmem) (hfr := hfr) (hFd := hFd) (hlo := hlo) (hne := hne) (ho := hs.stay _ _ (N _ ho).1) (hcd := hcd) (h0 := h0) (hlen := hlen) (qo := ?_) (qb := ?_)
    · intro r' od' n' sl' t t' m' h' tk hlt o hk hl ht hn hlt2 t5; exact good _ _ _ o ⟨hlt, ⟨_, rfl⟩, r', od', n', sl', t, t', m', hk, hl, ht, none_of hs hn, hlt2 (z, oz) (by simp)⟩
    · intro x e h' tk hx he X; exact bad _ _ _ _ ⟨hx, he⟩ X
  · rintro v h' tk F' o ⟨hlt, ⟨t5, rfl⟩, r', od', n', sl', t, t', m', hk, hl, ht, hn, hz⟩; exact qo hlt t5 r' od' n' sl' t t' m' h' tk hz F' (news_put F (news_wrote N hns U o hk hl) ht hn)
  · rintro x h' tk tk' ⟨hx, rfl⟩ F' N'; exact qb hx h' tk tk' F' N'
theorem hk_undef {w : World} {A : Around} {g base : Heap} {p : Program} {lo : List Str} {mean : ExcName → Option Value} {mg mb : Str → Option Value} {s : Shared} {E Q : Value → Shared → Prop} {L : Addr} {m : Str → Option Value} {news : List (Addr × Obj)} {env : Env} {gf : Obj → List (Addr × Obj)} {qual : Str} {pm ct : Value} {c' d mem dm nl ch pl em : Addr} {n2 n3 n4 : Nat} {x1 x2 : Int} {t1 t2 u1 u2 u3 : Tok} {a : Int} {us : List Value} {od : Option Addr} {sl : Array (Option Value)} {cOne cPl one d1 C : Addr} {oOne oPl : Obj} {es : List DictEntry} {n n6 : Nat} {p1 p2 p4 : Pos} {i1 i2 i3 i4 i5 i6 : Nat} {oc : Obj} {ns : List (Addr × Obj)}
    (hn : ns = [(nl, ⟨.type "list", od, .seq us.toArray n3, sl⟩), (cOne, oOne), (cPl, oPl), (one, instObj C d1), (d1, dictOf es n), (mem, instObj 91 dm), (dm, dictOf [⟨x1, .str (Str.ofString "numeric") t1, .ref nl⟩, ⟨x2, .str (Str.ofString "characters") t2, .ref ch⟩] n2), (pl, tupOf [.int 0 u1, .int a u2, .int 0 u3, .ref em] n4), (em, tupOf [] n6)])
    (ta : At w A base g p lo mean mg mb L env) (F : Fr g L s.heap m) (N : News g L s.heap news) (hns : ∀ q ∈ ns, q ∈ news) (U : UpdF nl ⟨.type "list", od, .seq us.toArray n3, sl⟩ news gf) 
    (hC : C = 314 ∨ C = 267) (hOne : oOne.data = .cell (some (.ref one))) (hPl : oPl.data = .cell (some (.ref pl))) (hmem : getL "memory" es = some (some (.ref mem))) (hne : ∀ q ∈ ns.tail, q.1 ≠ nl)
    (ho : (d, (kla_obj "<lambda>" qual { posonlyargs := [], args := [], vararg := none, kwonlyargs := [], kw_defaults := [], kwarg := none, defaults := [] }
      (.Call (.Attribute (.Attribute (.Name (Str.ofString "one") p1) (Str.ofString "memory") p2) (Str.ofString "undefine") ⟨i1, i2, 305, i3⟩) [.Name (Str.ofString "place") p4] [] ⟨305, i4, i5, i6⟩)
      { kind := .function, names := [(Str.ofString "one", .free), (Str.ofString "place", .free)], isGenerator := false, isCoroutine := false } [(Str.ofString "place", cPl), (Str.ofString "one", cOne)] pm c' ct)) ∈ news) (hce : (c', oc) ∈ news) (hcode : ∃ vs t, oc.data = .fields vs ∧ vs[1]? = some (.str qual t))
    (h0 : 0 ≤ a) (hlen : us.length < 10)
    (qo : a < us.length → ∀ od' n' sl' h' tk, Fr g L h' m → News g L h' (gf ⟨.type "list", od', .seq (us.set a.toNat .none).toArray n', sl'⟩) → Q .none { s with heap := h', toks := tk })
    (qb : ¬ a < us.length → ∀ h' tk tk', Fr g L h' m → News g L h' news → Q (.str (Str.ofString "storage") tk) { s with heap := h', toks := tk' }) :
    wpAny (model PG w) (A.deeper env) (call (.ref 407) [.ref d] []) Q E s := by
  subst hn
  refine heard_K ta F N hns ho (P := fun v h2 => a < us.length ∧ v = .none ∧ ∃ od' n' sl', (∀ q ∈ List.tail [(nl, ⟨.type "list", od, .seq us.toArray n3, sl⟩), (cOne, oOne), (cPl, oPl), (one, instObj C d1), (d1, dictOf es n), (mem, instObj 91 dm), (dm, dictOf [⟨x1, .str (Str.ofString "numeric") t1, .ref nl⟩, ⟨x2, .str (Str.ofString "characters") t2, .ref ch⟩] n2), (pl, tupOf [.int 0 u1, .int a u2, .int 0 u3, .ref em] n4), (em, tupOf [] n6)], h2.get? q.1 = some q.2) ∧ h2.get? nl = some ⟨.type "list", od', .seq (us.set a.toNat .none).toArray n', sl'⟩) (Bd := fun x => ¬ a < us.length ∧ x = Str.ofString "storage") (fun A1 G1 l1 h1 tk1 Q1 E1 H1 hG1 hN1 hM1 hs good bad => ?_) ?_ ?_
  · have hcd : h1.CodeRec (.ref c') qual := by
      obtain ⟨vs, t, e1, e2⟩ := hcode
      exact ⟨c', oc, vs, t, rfl, hs.stay _ _ (N _ hce).1, e1, e2⟩
    refine deed_undef (k := 0) (s := { s with heap := h1, toks := tk1 }) (hn := rfl) (H := H1) (hG := hG1) (hN := hN1) (hM := hM1) (hC := hC) (hOne := hOne) (hPl := hPl) (hmem := hmem) (hne := hne) (ho := hs.stay _ _ (N _ ho).1) (hcd := hcd) (h0 := h0) (hlen := hlen) (qo := ?_) (qb := ?_)
    · intro od' n' sl' h' tk hlt o hk hl; exact good _ _ _ o ⟨hlt, rfl, od', n', sl', hk, hl⟩
    · intro x e h' tk hx he X; exact bad _ _ _ _ ⟨hx, he⟩ X
  · rintro v h' tk F' o ⟨hlt, rfl, od', n', sl', hk, hl⟩; exact qo hlt od' n' sl' h' tk F' (news_wrote N hns U o hk hl)
  · rintro x h' tk tk' ⟨hx, rfl⟩ F' N'; exact qb hx h' tk tk' F' N'
theorem hk_load {w : World} {A : Around} {g base : Heap} {p : Program} {lo : List Str} {mean : ExcName → Option Value} {mg mb : Str → Option Value} {s : Shared} {E Q : Value → Shared → Prop} {L : Addr} {m : Str → Option Value} {news : List (Addr × Obj)} {env : Env} {qual : Str} {pm ct : Value} {c' d mem dm nl ch pl em : Addr} {n2 n3 n4 : Nat} {x1 x2 : Int} {t1 t2 u1 u2 u3 : Tok} {a : Int} {us : List Value} {od : Option Addr} {sl : Array (Option Value)} {cOne cPl one d1 r C : Addr} {oOne oPl or : Obj} {es : List DictEntry} {n : Nat} {v : Value} {p1 p2 p4 : Pos} {i1 i2 i3 i4 i5 i6 : Nat} {c : Cel} {oc : Obj} {ns : List (Addr × Obj)}
    (hn : ns = [(nl, ⟨.type "list", od, .seq us.toArray n3, sl⟩), (cOne, oOne), (cPl, oPl), (one, instObj C d1), (d1, dictOf es n), (mem, instObj 91 dm), (dm, dictOf [⟨x1, .str (Str.ofString "numeric") t1, .ref nl⟩, ⟨x2, .str (Str.ofString "characters") t2, .ref ch⟩] n2), (pl, tupOf [.int 0 u1, .int a u2, .int 0 u3, .ref em] n4), (r, or)])
    (ta : At w A base g p lo mean mg mb L env) (F : Fr g L s.heap m) (N : News g L s.heap news) (hns : ∀ q ∈ ns, q ∈ news) 
    (hC : C = 314 ∨ C = 267) (hOne : oOne.data = .cell (some (.ref one))) (hPl : oPl.data = .cell (some (.ref pl))) (hmem : getL "memory" es = some (some (.ref mem))) (hv : a < us.length → us[a.toNat]? = some v) (hc : CelIs v r or c)
    (ho : (d, (kla_obj "<lambda>" qual { posonlyargs := [], args := [], vararg := none, kwonlyargs := [], kw_defaults := [], kwarg := none, defaults := [] }
      (.Call (.Attribute (.Attribute (.Name (Str.ofString "one") p1) (Str.ofString "memory") p2) (Str.ofString "load") ⟨i1, i2, 313, i3⟩) [.Name (Str.ofString "place") p4] [] ⟨313, i4, i5, i6⟩)
      { kind := .function, names := [(Str.ofString "one", .free), (Str.ofString "place", .free)], isGenerator := false, isCoroutine := false } [(Str.ofString "place", cPl), (Str.ofString "one", cOne)] pm c' ct)) ∈ news) (hce : (c', oc) ∈ news) (hcode : ∃ vs t, oc.data = .fields vs ∧ vs[1]? = some (.str qual t))
    (h0 : 0 ≤ a) (hlen : us.length < 10)
    (qo : a < us.length → ∀ x t h' tk, c = .num x → Fr g L h' m → News g L h' news → Q (.int x t) { s with heap := h', toks := tk })
    (qb : ¬ a < us.length → ∀ h' tk tk', Fr g L h' m → News g L h' news → Q (.str (Str.ofString "storage") tk) { s with heap := h', toks := tk' })
    (qf : a < us.length → (∀ y, c ≠ .num y) → ∀ h' tk tk', Fr g L h' m → News g L h' news → Q (.str (Str.ofString "fault") tk) { s with heap := h', toks := tk' }) :
    wpAny (model PG w) (A.deeper env) (call (.ref 407) [.ref d] []) Q E s := by
  subst hn
  refine heard_K ta F N hns ho (P := fun v h2 => a < us.length ∧ ∃ x t, c = .num x ∧ v = .int x t ∧ ∀ q ∈ [(nl, ⟨.type "list", od, .seq us.toArray n3, sl⟩), (cOne, oOne), (cPl, oPl), (one, instObj C d1), (d1, dictOf es n), (mem, instObj 91 dm), (dm, dictOf [⟨x1, .str (Str.ofString "numeric") t1, .ref nl⟩, ⟨x2, .str (Str.ofString "characters") t2, .ref ch⟩] n2), (pl, tupOf [.int 0 u1, .int a u2, .int 0 u3, .ref em] n4), (r, or)], h2.get? q.1 = some q.2) (Bd := fun x => (¬ a < us.length ∧ x = Str.ofString "storage") ∨ (a < us.length ∧ x = Str.ofString "undefined" ∧ ∀ y, c ≠ .num y)) (fun A1 G1 l1 h1 tk1 Q1 E1 H1 hG1 hN1 hM1 hs good bad => ?_) ?_ ?_
  · have hcd : h1.CodeRec (.ref c') qual := by
      obtain ⟨vs, t, e1, e2⟩ := hcode
      exact ⟨c', oc, vs, t, rfl, hs.stay _ _ (N _ hce).1, e1, e2⟩
    refine deed_load (k := 0) (s := { s with heap := h1, toks := tk1 }) (hn := rfl) (H := H1) (hG := hG1) (hN := hN1) (hM := hM1) (hC := hC) (hOne := hOne) (hPl := hPl) (hmem := hmem) (hv := hv) (hc := hc) (ho := hs.stay _ _ (N _ ho).1) (hcd := hcd) (h0 := h0) (hlen := hlen) (qo := ?_) (qb := ?_)
    · intro x t h' tk hlt hc o hk; exact good _ _ _ o ⟨hlt, x, t, hc, rfl, hk⟩
    · intro x e h' tk hx X; exact bad _ _ _ _ hx X
  · rintro v h' tk F' o ⟨hlt, x, t, hc, rfl, hk⟩; exact qo hlt x t h' tk hc F' (news_read (M := []) N hns o hk)
  · rintro x h' tk tk' (⟨hx, rfl⟩ | ⟨hx, rfl, hy⟩) F' N'
    · exact qb hx h' tk tk' F' N'
    · exact qf hx hy h' tk tk' F' N'
theorem hk_askp {w : World} {A : Around} {g base : Heap} {p : Program} {lo : List Str} {mean : ExcName → Option Value} {mg mb : Str → Option Value} {s : Shared} {E Q : Value → Shared → Prop} {L : Addr} {m : Str → Option Value} {news : List (Addr × Obj)} {env : Env} {qual : Str} {doc pm ct : Value} {c' d mem dm nl ch pl em : Addr} {n2 n3 n4 : Nat} {x1 x2 : Int} {t1 t2 u1 u2 u3 : Tok} {a : Int} {us : List Value} {od : Option Addr} {sl : Array (Option Value)} {cRun run d1 fr r : Addr} {oRun oF or : Obj} {es : List DictEntry} {n ck1 : Nat} {v : Value} {p1 p2 p3 p4 p5 : Pos} {c : Cel} {oc : Obj} {ns : List (Addr × Obj)}
    (hn : ns = [(nl, ⟨.type "list", od, .seq us.toArray n3, sl⟩), (cRun, oRun), (run, instObj 314 d1), (d1, dictOf es n), (fr, oF), (mem, instObj 91 dm), (dm, dictOf [⟨x1, .str (Str.ofString "numeric") t1, .ref nl⟩, ⟨x2, .str (Str.ofString "characters") t2, .ref ch⟩] n2), (pl, tupOf [.int 0 u1, .int a u2, .int 0 u3, .ref em] n4), (r, or)])
    (ta : At w A base g p lo mean mg mb L env) (F : Fr g L s.heap m) (N : News g L s.heap news) (hns : ∀ q ∈ ns, q ∈ news) 
    (hRun : oRun.data = .cell (some (.ref run))) (hmem : getL "memory" es = some (some (.ref mem))) (hfr : getL "frame" es = some (some (.ref fr))) (hFd : oF.IsDictOf (strKind PG w) [(Str.ofString "K", .ref pl)]) (hlo : (fr == sysModules) = false) (hv : a < us.length → us[a.toNat]? = some v) (hc : CelIs v r or c)
    (ho : (d, (fnMade (Str.ofString "asked_plainly") qual { posonlyargs := [], args := [], vararg := none, kwonlyargs := [], kw_defaults := [], kwarg := none, defaults := [] }
      [.Return (some (.Call (.Name (Str.ofString "label_in") p1) [.Name (Str.ofString "run") p2, .Constant (.str (Str.ofString "K")) ck1 p3] [] p4)) p5]
      { kind := .function, names := [(Str.ofString "run", .free), (Str.ofString "label_in", .globalImplicit)], isGenerator := false, isCoroutine := false } [(Str.ofString "run", cRun)] doc pm c' ct)) ∈ news) (hce : (c', oc) ∈ news) (hcode : ∃ vs t, oc.data = .fields vs ∧ vs[1]? = some (.str qual t))
    (h0 : 0 ≤ a) (hlen : us.length < 10)
    (qo : a < us.length → ∀ x t h' tk, c = .lab x → Fr g L h' m → News g L h' news → Q (.int x t) { s with heap := h', toks := tk })
    (qb : ¬ a < us.length → ∀ h' tk tk', Fr g L h' m → News g L h' news → Q (.str (Str.ofString "storage") tk) { s with heap := h', toks := tk' })
    (qf : a < us.length → (∀ y, c ≠ .lab y) → ∀ h' tk tk', Fr g L h' m → News g L h' news → Q (.str (Str.ofString "fault") tk) { s with heap := h', toks := tk' }) :
    wpAny (model PG w) (A.deeper env) (call (.ref 407) [.ref d] []) Q E s := by
  subst hn
  refine heard_K ta F N hns ho (P := fun v h2 => a < us.length ∧ ∃ x t, c = .lab x ∧ v = .int x t ∧ ∀ q ∈ [(nl, ⟨.type "list", od, .seq us.toArray n3, sl⟩), (cRun, oRun), (run, instObj 314 d1), (d1, dictOf es n), (fr, oF), (mem, instObj 91 dm), (dm, dictOf [⟨x1, .str (Str.ofString "numeric") t1, .ref nl⟩, ⟨x2, .str (Str.ofString "characters") t2, .ref ch⟩] n2), (pl, tupOf [.int 0 u1, .int a u2, .int 0 u3, .ref em] n4), (r, or)], h2.get? q.1 = some q.2) (Bd := fun x => (¬ a < us.length ∧ x = Str.ofString "storage") ∨ (a < us.length ∧ x = Str.ofString "label" ∧ ∀ y, c ≠ .lab y)) (fun A1 G1 l1 h1 tk1 Q1 E1 H1 hG1 hN1 hM1 hs good bad => ?_) ?_ ?_
  · have hcd : h1.CodeRec (.ref c') qual := by
      obtain ⟨vs, t, e1, e2⟩ := hcode
      exact ⟨c', oc, vs, t, rfl, hs.stay _ _ (N _ hce).1, e1, e2⟩
    refine deed_askp (k := 0) (s := { s with heap := h1, toks := tk1 }) (hn := rfl) (H := H1) (hG := hG1) (hN := hN1) (hM := hM1) (hRun := hRun) (hmem := hmem) (hfr := hfr) (hFd := hFd) (hlo := hlo) (hv := hv) (hc := hc) (ho := hs.stay _ _ (N _ ho).1) (hcd := hcd) (h0 := h0) (hlen := hlen) (qo := ?_) (qb := ?_)
    · intro x t h' tk hlt hc o hk; exact good _ _ _ o ⟨hlt, x, t, hc, rfl, hk⟩
    · intro x e h' tk hx X; exact bad _ _ _ _ hx X
  · rintro v h' tk F' o ⟨hlt, x, t, hc, rfl, hk⟩; exact qo hlt x t h' tk hc F' (news_read (M := []) N hns o hk)
  · rintro x h' tk tk' (⟨hx, rfl⟩ | ⟨hx, rfl, hy⟩) F' N'
    · exact qb hx h' tk tk' F' N'
    · exact qf hx hy h' tk tk' F' N'
theorem hk_askm {w : World} {A : Around} {g base : Heap} {p : Program} {lo : List Str} {mean : ExcName → Option Value} {mg mb : Str → Option Value} {s : Shared} {E Q : Value → Shared → Prop} {L : Addr} {m : Str → Option Value} {news : List (Addr × Obj)} {env : Env} {qual : Str} {doc pm ct : Value} {c' d mem dm nl ch pl em : Addr} {n2 n3 n4 : Nat} {x1 x2 : Int} {t1 t2 u1 u2 u3 : Tok} {a : Int} {us : List Value} {od : Option Addr} {sl : Array (Option Value)} {cCall cGo cMac call1 dc rg mac d1 r gl g1 g2 : Addr} {oCall oGo oMac or : Obj} {es ec : List DictEntry} {n nc n7 n8 n9 n10 ck1 ck2 : Nat} {v : Value} {v1 v2 v3 v4 : Tok} {p1 p2 p3 p4 p5 p6 p7 p8 p9 : Pos} {c : Cel} {oc : Obj} {ns : List (Addr × Obj)}
    (hn : ns = [(nl, ⟨.type "list", od, .seq us.toArray n3, sl⟩), (cCall, oCall), (cGo, oGo), (cMac, oMac), (call1, instObj 288 dc), (dc, dictOf ec nc), (rg, listOf #[.ref pl] n7), (mac, instObj 267 d1), (d1, dictOf es n), (mem, instObj 91 dm), (dm, dictOf [⟨x1, .str (Str.ofString "numeric") t1, .ref nl⟩, ⟨x2, .str (Str.ofString "characters") t2, .ref ch⟩] n2), (pl, tupOf [.int 0 u1, .int a u2, .int 0 u3, .ref em] n4), (gl, listOf #[.ref g1, .ref g2] n8), (g1, tupOf [.int 10 v1, .int 7 v2] n9), (g2, tupOf [.int 20 v3, .int 9 v4] n10), (r, or)])
    (ta : At w A base g p lo mean mg mb L env) (F : Fr g L s.heap m) (N : News g L s.heap news) (hns : ∀ q ∈ ns, q ∈ news) 
    (hCall : oCall.data = .cell (some (.ref call1))) (hrg : getL "registers" ec = some (some (.ref rg))) (hGo : oGo.data = .cell (some (.ref gl))) (hMac : oMac.data = .cell (some (.ref mac))) (hmem : getL "memory" es = some (some (.ref mem))) (hv : a < us.length → us[a.toNat]? = some v) (hc : CelIs v r or c)
    (ho : (d, (fnMade (Str.ofString "asked_of_machine") qual { posonlyargs := [], args := [], vararg := none, kwonlyargs := [], kw_defaults := [], kwarg := none, defaults := [] }
      [.Return (some (.Call (.Name (Str.ofString "do_agoto") p1) [.Name (Str.ofString "machine") p2, .Name (Str.ofString "call") p3, .Tuple [.Constant (.str (Str.ofString "agoto")) ck1 p4, .Constant (.int 0) ck2 p5, .Name (Str.ofString "goals") p6] 0 p7] [] p8)) p9]
      { kind := .function, names := [(Str.ofString "call", .free), (Str.ofString "goals", .free), (Str.ofString "machine", .free), (Str.ofString "do_agoto", .globalImplicit)], isGenerator := false, isCoroutine := false } [(Str.ofString "machine", cMac), (Str.ofString "goals", cGo), (Str.ofString "call", cCall)] doc pm c' ct)) ∈ news) (hce : (c', oc) ∈ news) (hcode : ∃ vs t, oc.data = .fields vs ∧ vs[1]? = some (.str qual t))
    (h0 : 0 ≤ a) (hlen : us.length < 10)
    (qo : a < us.length → ∀ x y t h' tk, c = .lab x → (x = 10 ∧ y = 7 ∨ x = 20 ∧ y = 9) → Fr g L h' m → News g L h' news → Q (.int y t) { s with heap := h', toks := tk })
    (qb : ¬ a < us.length → ∀ h' tk tk', Fr g L h' m → News g L h' news → Q (.str (Str.ofString "storage") tk) { s with heap := h', toks := tk' })
    (qf : a < us.length → ((∀ y, c ≠ .lab y) ∨ ∃ y, c = .lab y ∧ y ≠ 10 ∧ y ≠ 20) → ∀ h' tk tk', Fr g L h' m → News g L h' news → Q (.str (Str.ofString "fault") tk) { s with heap := h', toks := tk' }) :
    wpAny (model PG w) (A.deeper env) (call (.ref 407) [.ref d] []) Q E s := by
  subst hn
  refine heard_K ta F N hns ho (P := fun v h2 => a < us.length ∧ ∃ x y t, c = .lab x ∧ (x = 10 ∧ y = 7 ∨ x = 20 ∧ y = 9) ∧ v = .int y t ∧ ∀ q ∈ [(nl, ⟨.type "list", od, .seq us.toArray n3, sl⟩), (cCall, oCall), (cGo, oGo), (cMac, oMac), (call1, instObj 288 dc), (dc, dictOf ec nc), (rg, listOf #[.ref pl] n7), (mac, instObj 267 d1), (d1, dictOf es n), (mem, instObj 91 dm), (dm, dictOf [⟨x1, .str (Str.ofString "numeric") t1, .ref nl⟩, ⟨x2, .str (Str.ofString "characters") t2, .ref ch⟩] n2), (pl, tupOf [.int 0 u1, .int a u2, .int 0 u3, .ref em] n4), (gl, listOf #[.ref g1, .ref g2] n8), (g1, tupOf [.int 10 v1, .int 7 v2] n9), (g2, tupOf [.int 20 v3, .int 9 v4] n10), (r, or)], h2.get? q.1 = some q.2) (Bd := fun x => (¬ a < us.length ∧ x = Str.ofString "storage") ∨ (a < us.length ∧ (x = Str.ofString "no label is assigned" ∧ (∀ y, c ≠ .lab y) ∨ x = Str.ofString "the assigned label isn't listed" ∧ ∃ y, c = .lab y ∧ y ≠ 10 ∧ y ≠ 20))) (fun A1 G1 l1 h1 tk1 Q1 E1 H1 hG1 hN1 hM1 hs good bad => ?_) ?_ ?_
  · have hcd : h1.CodeRec (.ref c') qual := by
      obtain ⟨vs, t, e1, e2⟩ := hcode
      exact ⟨c', oc, vs, t, rfl, hs.stay _ _ (N _ hce).1, e1, e2⟩
    refine deed_askm (k := 0) (s := { s with heap := h1, toks := tk1 }) (hn := rfl) (H := H1) (hG := hG1) (hN := hN1) (hM := hM1) (hCall := hCall) (hrg := hrg) (hGo := hGo) (hMac := hMac) (hmem := hmem) (hv := hv) (hc := hc) (ho := hs.stay _ _ (N _ ho).1) (hcd := hcd) (h0 := h0) (hlen := hlen) (qo := ?_) (qb := ?_)
    · intro x y t h' tk hlt hc hy o hk; exact good _ _ _ o ⟨hlt, x, y, t, hc, hy, rfl, hk⟩
    · intro x e h' tk hx X; exact bad _ _ _ _ hx X
  · rintro v h' tk F' o ⟨hlt, x, y, t, hc, hy, rfl, hk⟩; exact qo hlt x y t h' tk hc hy F' (news_read (M := []) N hns o hk)
  · rintro x h' tk tk' (⟨hx, rfl⟩ | ⟨hx, ⟨rfl, hy⟩ | ⟨rfl, hy⟩⟩) F' N'
    · exact qb hx h' tk tk' F' N'
    · exact qf hx (.inl hy) h' tk tk' F' N'
    · exact qf hx (.inr hy) h' tk tk' F' N'
end
end
section
theorem apart_of {a I c : Addr} {l : List (Addr × Obj)} (h : ∀ p ∈ l, p.1 < I ∨ c < p.1) (h1 : I ≤ a) (h2 : a ≤ c) : ∀ p ∈ l, p.1 ≠ a := fun p hp e => by
  rcases h p hp with h | h
  · exact absurd (Nat.lt_of_lt_of_le (e ▸ h) h1) (Nat.lt_irrefl _)
  · exact absurd (Nat.lt_of_lt_of_le (e ▸ h) h2) (Nat.lt_irrefl _)
theorem fr_same {g : Heap} {L : Addr} {m : Str → Option Value} {h h' : Heap} {d : Addr} (F : Fr g L h m) (hs : Heap.SameBut d h h') (h1 : d ≠ L) (h2 : g.get? d = none) : Fr g L h' m :=
  ⟨F.ns.sameBut hs (Ne.symm h1), fun b o e => (hs.2 b (fun q => by rw [q, h2] at e; cases e)).trans (F.keep b o e), F.above⟩
end
section
theorem at_law {w : World} {g : Heap} {p : Program} {lo : List Str} {mean : ExcName → Option Value} {mg mb : Str → Option Value} {L : Addr} {env : Env} (K : Below callerA g [] g) (X : (layK.heap_1 w.params).In g) (T : Top p lo mean mg mb g) (hf : env.frame = some L) (hk : env.scope.kind = .function) : At w callerA g g p lo mean mg mb L env :=
  ⟨K, X, T, X, T, Nat.le_refl _, by decide, by decide, rfl, hf, hk⟩
theorem with_at {w : World} {g : Heap} {p : Program} {lo : List Str} {mean : ExcName → Option Value} {mg mb : Str → Option Value} {s : Shared} {E : Value → Shared → Prop} {L : Addr} {m : Str → Option Value} {env : Env} {α : Type} {c : Sem α} {Q : α → Shared → Prop} (K : Below callerA g [] g) (X : (layK.heap_1 w.params).In g) (T : Top p lo mean mg mb g) (F : Fr g L s.heap m) (hf : env.frame = some L) (hk : env.scope.kind = .function)
    (h : At w callerA g g p lo mean mg mb L env → wpAny (model PG w) (callerA.deeper env) c Q E s) : wpAny (model PG w) (callerA.deeper env) c Q E s := h (at_law K X T hf hk)
end
section
theorem rep_eq (k : Nat) (v : Value) : List.foldl (fun x1 x2 => x1 ++ x2) #[] (List.replicate (if (#[v] : Array Value).isEmpty = true then 0 else k) #[v]) = (List.replicate k v).toArray := by
  rw [listMul_foldl_if]
  congr 1
  induction k with
  | zero => rfl
  | succ k ih => rw [List.replicate_succ, List.flatten_cons, ih]; rfl
theorem one_mul {w : World} {A : Around} {g : Heap} {s : Shared} {E Q : Value → Shared → Prop} {L : Addr} {m : Str → Option Value} {news : List (Addr × Obj)} {l : Addr} {k0 : Nat} {v : Value} {x : Int} {u : Tok} (F : Fr g L s.heap m) (N : News g L s.heap news) (hm : (l, listOf #[v] k0) ∈ news) (h0 : 0 ≤ x) (h1 : x < 100)
    (q : ∀ D h', (∀ p ∈ news, p.1 < D) → Fr g L h' m → News g L h' ((D, listOf (List.replicate x.toNat v).toArray 0) :: news) → Q (.ref D) { s with heap := h' }) :
    wpAny (model PG w) A (binaryOp .Mult (.ref l) (.int x u)) Q E s := by
  refine mul_list (items := #[v]) F N (N _ hm).1 (by omega) (by omega) (by simp; omega) fun h' F' N' => ?_
  rw [rep_eq] at N'
  exact q _ h' (fun p hp => Heap.lt_size (N p hp).1) F' N'
end
section
local macro_rules | `(tactic| walk_at "binaryOp Mult ref int") => `(tactic| (k_dflt (refine' one_mul (by k_asm) (by k_asm) ?m ?h0 ?h1 (fun D' h' l1 F' N' => ?_); (case m => k_mem); (case h0 => omega); (case h1 => omega)); (k_lt l1); (try k_sweep)))
/-- back from an __init__: the caller's ledger, and what the callee's ledger holds of new objects -/
theorem out_new {g : Heap} {L : Addr} {m : Str → Option Value} {h h' g2 : Heap} {L2 : Addr} {m2 : Str → Option Value} {ns news nw lst : List (Addr × Obj)} (F1 : Fr g L h m) (N1 : News g L h (ns ++ news)) (hap : ∀ q ∈ news, q.1 ∉ ns.map (·.1))
    (hoff : ∀ b o, b ∉ ns.map (·.1) → h.get? b = some o → g2.get? b = some o) (Fc : Fr g2 L2 h' m2) (Nc : News g2 L2 h' lst) (hs : ∀ q ∈ nw, q ∈ lst) : Fr g L h' m ∧ News g L h' (nw ++ news) := by
  have hM : ∀ b, b ∈ ns.map (·.1) → g.get? b = none ∧ b ≠ L := fun b hb => by
    obtain ⟨q, hq, rfl⟩ := List.mem_map.mp hb
    exact ⟨(N1 q (List.mem_append_left _ hq)).2.2, (N1 q (List.mem_append_left _ hq)).2.1⟩
  have go : ∀ b o, b ∉ ns.map (·.1) → h.get? b = some o → h'.get? b = some o := fun b o n z => Fc.keep b o (hoff b o n z)
  refine ⟨⟨?_, fun b o z => go b o (fun y => by rw [(hM b y).1] at z; cases z) (F1.keep b o z), F1.above⟩, fun q hq => ?_⟩
  · obtain ⟨oL, es, ep, hL, r⟩ := F1.ns
    exact ⟨oL, es, ep, go L oL (fun y => (hM L y).2 rfl) hL, r⟩
  rcases List.mem_append.mp hq with hq | hq
  · have n1 := Nc q (hs q hq)
    have hh : ∀ o, h.get? q.1 = some o → q.1 ∈ ns.map (·.1) := fun o z => by
      by_cases y : q.1 ∈ ns.map (·.1)
      · exact y
      · have := hoff _ _ y z
        rw [n1.2.2] at this; cases this
    refine ⟨n1.1, fun z => ?_, ?_⟩
    · obtain ⟨oL, es, ep, hL, r⟩ := F1.ns
      exact (hM _ (hh oL (z ▸ hL))).2 z
    · cases z : g.get? q.1 with
      | none => rfl
      | some o => have := (hM _ (hh o (F1.keep _ _ z))).1; rw [z] at this; cases this
  · have n1 := N1 q (List.mem_append_right _ hq)
    exact ⟨go _ _ (hap q hq) n1.1, n1.2⟩
/-- as out_new; of the caller's ledger some entries (kn) were lent to the callee, too, and come back as they were -/
theorem out_new2 {g : Heap} {L : Addr} {m : Str → Option Value} {h h' g2 : Heap} {L2 : Addr} {m2 : Str → Option Value} {ns kn news nw lst : List (Addr × Obj)} (F1 : Fr g L h m) (N1 : News g L h (ns ++ news)) (hkn : ∀ q ∈ kn, q ∈ news) (hap : ∀ q ∈ news, q.1 ∉ ns.map (·.1))
    (hoff : ∀ b o, b ∉ (ns ++ kn).map (·.1) → h.get? b = some o → g2.get? b = some o) (Fc : Fr g2 L2 h' m2) (Nc : News g2 L2 h' lst) (hs : ∀ q ∈ nw, q ∈ lst) (hk : ∀ q ∈ kn, q ∈ lst) : Fr g L h' m ∧ News g L h' (nw ++ news) := by
  have N2 : News g L h ((ns ++ kn) ++ news) := fun q hq => by
    rcases List.mem_append.mp hq with hq | hq
    · rcases List.mem_append.mp hq with hq | hq
      · exact N1 q (List.mem_append_left _ hq)
      · exact N1 q (List.mem_append_right _ (hkn q hq))
    · exact N1 q (List.mem_append_right _ hq)
  have N3 : News g L h ((ns ++ kn) ++ news.filter fun q => q.1 ∉ kn.map (·.1)) := fun q hq => (List.mem_append.mp hq).elim (fun z => N2 q (List.mem_append_left _ z)) fun z => N2 q (List.mem_append_right _ (List.mem_filter.mp z).1)
  obtain ⟨F', N'⟩ := out_new (nw := nw ++ kn) F1 N3 (fun q hq y => by
    obtain ⟨q1, q2⟩ := List.mem_filter.mp hq
    rw [List.map_append] at y
    rcases List.mem_append.mp y with y | y
    · exact hap q q1 y
    · simp only [decide_eq_true_eq] at q2; exact q2 y) hoff Fc Nc (fun q hq => (List.mem_append.mp hq).elim (hs q) (hk q))
  refine ⟨F', fun q hq => ?_⟩
  rcases List.mem_append.mp hq with hq | hq
  · exact N' q (List.mem_append_left _ (List.mem_append_left _ hq))
  by_cases y : q.1 ∈ kn.map (·.1)
  · obtain ⟨t, ht, e⟩ := List.mem_map.mp y
    have a1 := (N1 t (List.mem_append_right _ (hkn t ht))).1
    have a2 := (N1 q (List.mem_append_right _ hq)).1
    rw [e, a2] at a1
    have : q = t := Prod.ext e.symm (Option.some.inj a1)
    exact this ▸ N' t (List.mem_append_left _ (List.mem_append_right _ ht))
  · exact N' q (List.mem_append_right _ (List.mem_filter.mpr ⟨hq, by simpa using y⟩))
section
theorem isStr_one {v : Value} {a b : Str} (h : v.isStr a = true) (hb : a ≠ b) : v.isStr b = false := by
  cases v with
  | str s t =>
    have e : s = a := by simpa [Value.isStr] using h
    subst e
    simpa [Value.isStr] using hb
  | _ => simp [Value.isStr] at h
theorem put_find {name y : Str} {hs : Int} {t : Tok} {v : Value} (hy : name ≠ y) : ∀ es : List DictEntry, (putL name hs (.str name t) v es).find? (fun e => e.key.isStr y) = es.find? (fun e => e.key.isStr y)
  | [] => by
    have : (Value.str name t).isStr y = false := isStr_one (a := name) (by simp [Value.isStr]) hy
    simp only [putL, List.find?_cons, this, List.find?_nil]
  | e :: r => by
    unfold putL
    split
    · next h =>
      have := isStr_one h hy
      simp only [List.find?_cons, this]
    · simp only [List.find?_cons, put_find hy r]
theorem put_ref {name : Str} {hs : Int} {t : Tok} {v : Value} : ∀ es : List DictEntry, (putL name hs (.str name t) v es).any (·.refKey) = es.any (·.refKey)
  | [] => rfl
  | e :: r => by
    unfold putL
    split
    · rfl
    · simp only [List.any_cons, put_ref r]
theorem put_len {name : Str} {hs : Int} {k v : Value} : ∀ es : List DictEntry, (putL name hs k v es).length ≤ es.length + 1
  | [] => Nat.le_refl _
  | e :: r => by
    unfold putL
    split
    · simp
    · simp only [List.length_cons]; exact Nat.succ_le_succ (put_len r)
theorem put_self {name : Str} {hs : Int} {t : Tok} {v : Value} : ∀ es : List DictEntry, ∃ e, (putL name hs (.str name t) v es).find? (fun e => e.key.isStr name) = some e ∧ e.val = v
  | [] => ⟨⟨hs, .str name t, v⟩, by simp [putL, Value.isStr], rfl⟩
  | e :: r => by
    unfold putL
    split
    · next h => exact ⟨⟨e.hash, e.key, v⟩, by simp [h], rfl⟩
    · next h =>
      obtain ⟨x, h1, h2⟩ := put_self (name := name) (hs := hs) (t := t) (v := v) r
      exact ⟨x, by simp only [List.find?_cons]; rw [show e.key.isStr name = false by simpa using h]; exact h1, h2⟩
theorem get_put_ne {name y : Str} {hs : Int} {t : Tok} {v : Value} {es : List DictEntry} (hy : name ≠ y) : getL y (putL name hs (.str name t) v es) = getL y es := by
  unfold getL
  rw [put_find hy, put_ref]
theorem get_put {name : Str} {hs : Int} {t : Tok} {v : Value} {es : List DictEntry} : getL name (putL name hs (.str name t) v es) = some (some v) := by
  obtain ⟨e, h1, h2⟩ := put_self (name := name) (hs := hs) (t := t) (v := v) es
  unfold getL
  rw [h1, ← h2]
theorem get_some {name : Str} {es : List DictEntry} (h : es.any (·.refKey) = false) : (getL name es).isSome = true := by
  unfold getL
  split
  · rfl
  · rw [h]; rfl
theorem updF_upd {d : Addr} {o : Obj} : ∀ {l : List (Addr × Obj)} {g : Obj → List (Addr × Obj)}, UpdF d o l g → ∀ o', Upd d o o' l (g o')
  | _, _, .head h, _ => .head h
  | _, _, .tail h r, o' => .tail h (updF_upd r o')
theorem set_keep {prog : Program} {w : World} {A : Around} {E : Value → Shared → Prop} {s : Shared} {K : Frag} {C L x dx : Addr} {h₀ : Heap} {m : Str → Option Value} {news : List (Addr × Obj)} {gf : Obj → List (Addr × Obj)} {ox : Obj} {es : List DictEntry} {n k : Nat} {name : Str} {v : Value} {Q : Unit → Shared → Prop} (F : Fr h₀ L s.heap m) (X₀ : K.In h₀) (N : News h₀ L s.heap news) (I : InstAt s.heap x ox C (some (dictOf es n))) (hd : ox.dict = some dx)
    (hs : findIn K (.ref C) "__setattr__" = some (some (.builtin "object.__setattr__"))) (hp : plainOver K C = true) (ht : takerIn K C name = some none) (hh : hasDictIn K C = true) (g : es.any (·.refKey) = false) (hz : es.length ≤ k) (hk : k < 900)
    (U : UpdF dx (dictOf es n) news gf)
    (h : ∀ es' n' h' tk, es'.any (·.refKey) = false → es'.length ≤ k + 1 → getL name es' = some (some v) → (∀ y, name ≠ y → getL y es' = getL y es) → Fr h₀ L h' m → News h₀ L h' (gf (dictOf es' n')) → Q () { s with heap := h', toks := tk }) :
    wpAny (model prog w) A (setAttr (.ref x) name v) Q E s :=
  set_dict F X₀ N I hd hs hp ht hh (get_some g) rfl (updF_upd U _) (Nat.le_trans (put_len _) (by omega)) fun h' F' N' =>
    h _ _ _ _ ((put_ref _).trans g) (Nat.le_trans (put_len _) (by omega)) get_put (fun y hy => get_put_ne hy) F' N'
theorem news_drop {g h : Heap} {L D x C dx : Addr} {oD o : Obj} (N : News g L h [(D, oD), (x, instObj C dx), (dx, o)]) : News g L h [(x, instObj C dx), (dx, o)] := fun p hp => N p (.tail _ hp)
end
mutual
theorem new_memory {w : World} {A : Around} {g base : Heap} {p : Program} {lo : List Str} {mean : ExcName → Option Value} {mg mb : Str → Option Value} {s : Shared} {E Q : Value → Shared → Prop} {L : Addr} {m : Str → Option Value} {news : List (Addr × Obj)} {env : Env} {n : Int} {tn t0 : Tok} (a : At w A base g p lo mean mg mb L env) (F : Fr g L s.heap m) (N : News g L s.heap news) (h0 : 0 ≤ n) (h1 : n < 100)
    (q : ∀ mem dm nl ch x1 x2 t1 t2 n2 h' tk, (∀ p ∈ news, p.1 < dm) → dm < mem → mem < nl → Fr g L h' m →
      News g L h' ((mem, instObj 91 dm) :: (dm, dictOf [⟨x1, .str (Str.ofString "numeric") t1, .ref nl⟩, ⟨x2, .str (Str.ofString "characters") t2, .ref ch⟩] n2) :: (nl, listOf (List.replicate n.toNat .none).toArray 0) :: news) → Q (.ref mem) { s with heap := h', toks := tk }) :
    wpAny (model PG w) (A.deeper env) (call (.ref 91) [.int n tn, .int 0 t0] []) Q E s := by
  refine wpAny_call (make_K (fI := 67) F N (a.kin.keeps F.keep) (by k_dflt k_is) (by k_dflt k_is) (by k_dflt k_is) fun x dx h' F1 N1 l1 l2 => ?_)
  obtain ⟨H, hM, hG⟩ := a.here (k := 21) (s := { s with heap := h' }) (by omega) F1 N1 [x, dx] (fun b hb => by
    simp only [List.mem_cons, List.not_mem_nil, or_false] at hb
    rcases hb with rfl | rfl <;> simp)
  have H2 := H.under (k := 20) (c := .builtin "type.__call__" ⟨[.ref 91, .int n tn, .int 0 t0], []⟩) (Nat.le_of_ble_eq_true (by kernel_rfl)) (Nat.le_of_ble_eq_true (by kernel_rfl)) (by kernel_rfl)
  refine enterX (k := 19) (cl := []) (news := [(x, instObj 91 dx), (dx, dictOf [] 0)]) H2 hG (fun q hq => N1.get (by simp only [List.mem_cons, List.not_mem_nil, or_false] at hq; rcases hq with rfl | rfl <;> simp [emptyDict])) (fun q hq => hM _ (by simp only [List.mem_cons, List.not_mem_nil, or_false] at hq; rcases hq with rfl | rfl <;> simp)) (hG.stay _ _ (H.kin 67 _ (by k_dflt k_is))) rfl (codeRec_of (H.kin.keeps hG.stay) (by k_dflt k_is)) (BindsTo.of_eq rfl) (locs rfl) ?_ (by decide) rfl rfl rfl
  intro g2 L2 h2 base2 F2 N2 B KB TB hz KX T hoff hsz
  replace l2 := ltN l2
  k_steps
  have hap : ∀ q ∈ news, q.1 ∉ [(x, instObj 91 dx), (dx, dictOf [] 0)].map (·.1) := fun q hq y => by
    simp only [List.map_cons, List.map_nil, List.mem_cons, List.not_mem_nil, or_false] at y
    have := l1 q hq
    rcases y with y | y
    · rw [y] at this; exact absurd (Nat.lt_trans l2 this) (Nat.lt_irrefl _)
    · rw [y] at this; exact absurd this (Nat.lt_irrefl _)
  refine ⟨rfl, ?_⟩
  obtain ⟨F9, N9⟩ := out_new (ns := [(x, instObj 91 dx), (dx, dictOf [] 0)]) (nw := [(x, instObj 91 dx), (dx, dictOf [⟨_, .str _ _, .ref _⟩, ⟨_, .str _ _, .ref _⟩] _), (_, listOf (List.replicate n.toNat .none).toArray 0)]) F1 N1 hap hoff (by assumption) (by assumption) (by
    refine List.forall_mem_cons.mpr ⟨by k_mem, List.forall_mem_cons.mpr ⟨by k_mem, List.forall_mem_cons.mpr ⟨by k_mem, fun _ z => nomatch z⟩⟩⟩)
  refine q _ _ _ _ _ _ _ _ _ _ _ l1 l2 (ltN ?_) F9 N9
  omega
theorem new_code {w : World} {A : Around} {g base : Heap} {p : Program} {lo : List Str} {mean : ExcName → Option Value} {mg mb : Str → Option Value} {s : Shared} {E Q : Value → Shared → Prop} {L : Addr} {m : Str → Option Value} {news : List (Addr × Obj)} {env : Env} {v0 v1 v2 v3 : Value} (a : At w A base g p lo mean mg mb L env) (F : Fr g L s.heap m) (N : News g L s.heap news)
    (q : ∀ ob dm x0 t0 x1 t1 x2 t2 x3 t3 y0 y2 y3 n2 h' tk, (∀ p ∈ news, p.1 < dm) → dm < ob → Fr g L h' m → News g L h' ((ob, instObj 224 dm) :: (dm, dictOf [⟨x0, .str (Str.ofString "ops") t0, y0⟩, ⟨x1, .str (Str.ofString "registers") t1, v1⟩, ⟨x2, .str (Str.ofString "entries") t2, y2⟩, ⟨x3, .str (Str.ofString "formats") t3, y3⟩] n2) :: news) → Q (.ref ob) { s with heap := h', toks := tk }) :
    wpAny (model PG w) (A.deeper env) (call (.ref 224) [v0, v1, v2, v3] []) Q E s := by
  refine wpAny_call (make_K (fI := 221) F N (a.kin.keeps F.keep) (by k_dflt k_is) (by k_dflt k_is) (by k_dflt k_is) fun x dx h' F1 N1 l1 l2 => ?_)
  obtain ⟨H, hM, hG⟩ := a.here (k := 21) (s := { s with heap := h' }) (by omega) F1 N1 [x, dx] (fun b hb => by
    simp only [List.mem_cons, List.not_mem_nil, or_false] at hb
    rcases hb with rfl | rfl <;> simp)
  have H2 := H.under (k := 20) (c := .builtin "type.__call__" ⟨.ref 224 :: [v0, v1, v2, v3], []⟩) (Nat.le_of_ble_eq_true (by kernel_rfl)) (Nat.le_of_ble_eq_true (by kernel_rfl)) (by kernel_rfl)
  refine enterX (k := 19) (cl := []) (news := [(x, instObj 224 dx), (dx, dictOf [] 0)]) H2 hG (fun q hq => N1.get (by simp only [List.mem_cons, List.not_mem_nil, or_false] at hq; rcases hq with rfl | rfl <;> simp [emptyDict])) (fun q hq => hM _ (by simp only [List.mem_cons, List.not_mem_nil, or_false] at hq; rcases hq with rfl | rfl <;> simp)) (hG.stay _ _ (H.kin 221 _ (by k_dflt k_is))) rfl (codeRec_of (H.kin.keeps hG.stay) (by k_dflt k_is)) (BindsTo.of_eq rfl) (locs rfl) ?_ (by decide) rfl rfl rfl
  intro g2 L2 h2 base2 F2 N2 B KB TB hz KX T hoff hsz
  replace l2 := ltN l2
  k_steps
  have hap : ∀ q ∈ news, q.1 ∉ [(x, instObj 224 dx), (dx, dictOf [] 0)].map (·.1) := fun q hq y => by
    simp only [List.map_cons, List.map_nil, List.mem_cons, List.not_mem_nil, or_false] at y
    have := l1 q hq
    rcases y with y | y
    · rw [y] at this; exact absurd (Nat.lt_trans l2 this) (Nat.lt_irrefl _)
    · rw [y] at this; exact absurd this (Nat.lt_irrefl _)
  refine ⟨rfl, ?_⟩
  obtain ⟨F9, N9⟩ := out_new (ns := [(x, instObj 224 dx), (dx, dictOf [] 0)]) (nw := [(x, instObj 224 dx), (dx, dictOf [⟨_, .str _ _, _⟩, ⟨_, .str _ _, _⟩, ⟨_, .str _ _, _⟩, ⟨_, .str _ _, _⟩] _)]) F1 N1 hap hoff (by assumption) (by assumption) (by
    refine List.forall_mem_cons.mpr ⟨by k_mem, List.forall_mem_cons.mpr ⟨by k_mem, fun _ z => nomatch z⟩⟩)
  exact q _ _ _ _ _ _ _ _ _ _ _ _ _ _ _ _ l1 l2 F9 N9
theorem new_limits {w : World} {A : Around} {g base : Heap} {p : Program} {lo : List Str} {mean : ExcName → Option Value} {mg mb : Str → Option Value} {s : Shared} {E Q : Value → Shared → Prop} {L : Addr} {m : Str → Option Value} {news : List (Addr × Obj)} {env : Env} (a : At w A base g p lo mean mg mb L env) (F : Fr g L s.heap m) (N : News g L s.heap news)
    (q : ∀ ob dm x0 t0 x1 t1 x2 t2 x3 t3 x4 t4 x5 t5 x6 t6 x7 t7 y0 y1 y2 y3 y4 y5 y6 y7 n2 h' tk, (∀ p ∈ news, p.1 < dm) → dm < ob → Fr g L h' m → News g L h' ((ob, instObj 246 dm) :: (dm, dictOf [⟨x0, .str (Str.ofString "width") t0, y0⟩, ⟨x1, .str (Str.ofString "real_digits") t1, y1⟩, ⟨x2, .str (Str.ofString "double_digits") t2, y2⟩, ⟨x3, .str (Str.ofString "top_exponent") t3, y3⟩, ⟨x4, .str (Str.ofString "steps") t4, y4⟩, ⟨x5, .str (Str.ofString "continuations") t5, y5⟩, ⟨x6, .str (Str.ofString "columns") t6, y6⟩, ⟨x7, .str (Str.ofString "depth") t7, y7⟩] n2) :: news) → Q (.ref ob) { s with heap := h', toks := tk }) :
    wpAny (model PG w) (A.deeper env) (call (.ref 246) [] []) Q E s := by
  refine wpAny_call (make_K (fI := 243) F N (a.kin.keeps F.keep) (by k_dflt k_is) (by k_dflt k_is) (by k_dflt k_is) fun x dx h' F1 N1 l1 l2 => ?_)
  obtain ⟨H, hM, hG⟩ := a.here (k := 21) (s := { s with heap := h' }) (by omega) F1 N1 [x, dx] (fun b hb => by
    simp only [List.mem_cons, List.not_mem_nil, or_false] at hb
    rcases hb with rfl | rfl <;> simp)
  have H2 := H.under (k := 20) (c := .builtin "type.__call__" ⟨.ref 246 :: [], []⟩) (Nat.le_of_ble_eq_true (by kernel_rfl)) (Nat.le_of_ble_eq_true (by kernel_rfl)) (by kernel_rfl)
  refine enterX (k := 19) (cl := []) (news := [(x, instObj 246 dx), (dx, dictOf [] 0)]) H2 hG (fun q hq => N1.get (by simp only [List.mem_cons, List.not_mem_nil, or_false] at hq; rcases hq with rfl | rfl <;> simp [emptyDict])) (fun q hq => hM _ (by simp only [List.mem_cons, List.not_mem_nil, or_false] at hq; rcases hq with rfl | rfl <;> simp)) (hG.stay _ _ (H.kin 243 _ (by k_dflt k_is))) rfl (codeRec_of (H.kin.keeps hG.stay) (by k_dflt k_is)) (binds_K (H.kin.keeps hG.stay) rfl (by k_dflt k_is) rfl rfl rfl) (locs rfl) ?_ (by decide) rfl rfl rfl
  intro g2 L2 h2 base2 F2 N2 B KB TB hz KX T hoff hsz
  replace l2 := ltN l2
  k_steps
  have hap : ∀ q ∈ news, q.1 ∉ [(x, instObj 246 dx), (dx, dictOf [] 0)].map (·.1) := fun q hq y => by
    simp only [List.map_cons, List.map_nil, List.mem_cons, List.not_mem_nil, or_false] at y
    have := l1 q hq
    rcases y with y | y
    · rw [y] at this; exact absurd (Nat.lt_trans l2 this) (Nat.lt_irrefl _)
    · rw [y] at this; exact absurd this (Nat.lt_irrefl _)
  refine ⟨rfl, ?_⟩
  obtain ⟨F9, N9⟩ := out_new (ns := [(x, instObj 246 dx), (dx, dictOf [] 0)]) (nw := [(x, instObj 246 dx), (dx, dictOf [⟨_, .str _ _, _⟩, ⟨_, .str _ _, _⟩, ⟨_, .str _ _, _⟩, ⟨_, .str _ _, _⟩, ⟨_, .str _ _, _⟩, ⟨_, .str _ _, _⟩, ⟨_, .str _ _, _⟩, ⟨_, .str _ _, _⟩] _)]) F1 N1 hap hoff (by assumption) (by assumption) (by
    refine List.forall_mem_cons.mpr ⟨by k_mem, List.forall_mem_cons.mpr ⟨by k_mem, fun _ z => nomatch z⟩⟩)
  exact q _ _ _ _ _ _ _ _ _ _ _ _ _ _ _ _ _ _ _ _ _ _ _ _ _ _ _ _ _ l1 l2 F9 N9
theorem new_call {w : World} {A : Around} {g base : Heap} {p : Program} {lo : List Str} {mean : ExcName → Option Value} {mg mb : Str → Option Value} {s : Shared} {E Q : Value → Shared → Prop} {L : Addr} {m : Str → Option Value} {news : List (Addr × Obj)} {env : Env} {v1 o0 o2 o3 : Value} {cd dcd : Addr} {e0 e1 e2 e3 : Int} {f0 f1 f2 f3 fr : Tok} {n3 : Nat} (a : At w A base g p lo mean mg mb L env) (F : Fr g L s.heap m) (N : News g L s.heap news) (hcd : ∀ q ∈ [(cd, instObj 224 dcd), (dcd, dictOf [⟨e0, .str (Str.ofString "ops") f0, o0⟩, ⟨e1, .str (Str.ofString "registers") f1, .int 1 fr⟩, ⟨e2, .str (Str.ofString "entries") f2, o2⟩, ⟨e3, .str (Str.ofString "formats") f3, o3⟩] n3)], q ∈ news)
    (q : ∀ ob dm rg x0 t0 x1 t1 x2 t2 x3 t3 x4 t4 y3 y4 n2 h' tk, (∀ p ∈ news, p.1 < dm) → dm < ob → ob < rg → Fr g L h' m → News g L h' ((ob, instObj 288 dm) :: (dm, dictOf [⟨x0, .str (Str.ofString "code") t0, (.ref cd)⟩, ⟨x1, .str (Str.ofString "frame") t1, v1⟩, ⟨x2, .str (Str.ofString "registers") t2, (.ref rg)⟩, ⟨x3, .str (Str.ofString "cells") t3, y3⟩, ⟨x4, .str (Str.ofString "temps") t4, y4⟩] n2) :: (rg, listOf (List.replicate (1 : Int).toNat .none).toArray 0) :: news) → Q (.ref ob) { s with heap := h', toks := tk }) :
    wpAny (model PG w) (A.deeper env) (call (.ref 288) [.ref cd, v1] []) Q E s := by
  refine wpAny_call (make_K (fI := 285) F N (a.kin.keeps F.keep) (by k_dflt k_is) (by k_dflt k_is) (by k_dflt k_is) fun x dx h' F1 N1 l1 l2 => ?_)
  have hc1 := List.forall_mem_cons.mp hcd
  have hc2 := hc1.2 _ (.head _)
  have hc1 := hc1.1
  have r1 := l1 _ hc1
  have r2 := l1 _ hc2
  obtain ⟨H, hM, hG⟩ := a.here (k := 21) (s := { s with heap := h' }) (by omega) F1 N1 [x, dx, cd, dcd] (fun b hb => by
    simp only [List.mem_cons, List.not_mem_nil, or_false] at hb
    rcases hb with rfl | rfl | rfl | rfl
    · simp
    · simp
    · exact .tail _ (.tail _ (List.mem_map_of_mem (f := (·.1)) hc1))
    · exact .tail _ (.tail _ (List.mem_map_of_mem (f := (·.1)) hc2)))
  have H2 := H.under (k := 20) (c := .builtin "type.__call__" ⟨.ref 288 :: [.ref cd, v1], []⟩) (Nat.le_of_ble_eq_true (by kernel_rfl)) (Nat.le_of_ble_eq_true (by kernel_rfl)) (by kernel_rfl)
  refine enterX (k := 19) (cl := []) (news := [(x, instObj 288 dx), (dx, dictOf [] 0), (cd, instObj 224 dcd), (dcd, dictOf [⟨e0, .str (Str.ofString "ops") f0, o0⟩, ⟨e1, .str (Str.ofString "registers") f1, .int 1 fr⟩, ⟨e2, .str (Str.ofString "entries") f2, o2⟩, ⟨e3, .str (Str.ofString "formats") f3, o3⟩] n3)]) H2 hG (fun q hq => N1.get (by
    simp only [List.mem_cons, List.not_mem_nil, or_false] at hq
    rcases hq with rfl | rfl | rfl | rfl
    · exact .head _
    · exact .tail _ (.head _)
    · exact .tail _ (.tail _ hc1)
    · exact .tail _ (.tail _ hc2))) (fun q hq => hM _ (by simp only [List.mem_cons, List.not_mem_nil, or_false] at hq; rcases hq with rfl | rfl | rfl | rfl <;> simp)) (hG.stay _ _ (H.kin 285 _ (by k_dflt k_is))) rfl (codeRec_of (H.kin.keeps hG.stay) (by k_dflt k_is)) (BindsTo.of_eq rfl) (locs rfl) ?_ (by decide) rfl rfl rfl
  intro g2 L2 h2 base2 F2 N2 B KB TB hz KX T hoff hsz
  replace l2 := ltN l2
  replace r1 := ltN r1
  replace r2 := ltN r2
  dsimp only at r1 r2
  k_steps
  have hap : ∀ q ∈ news, q.1 ∉ [(x, instObj 288 dx), (dx, dictOf [] 0)].map (·.1) := fun q hq y => by
    simp only [List.map_cons, List.map_nil, List.mem_cons, List.not_mem_nil, or_false] at y
    have := l1 q hq
    rcases y with y | y
    · rw [y] at this; exact absurd (Nat.lt_trans l2 this) (Nat.lt_irrefl _)
    · rw [y] at this; exact absurd this (Nat.lt_irrefl _)
  refine ⟨rfl, ?_⟩
  obtain ⟨F9, N9⟩ := out_new2 (ns := [(x, instObj 288 dx), (dx, dictOf [] 0)]) (kn := [(cd, instObj 224 dcd), (dcd, dictOf [⟨e0, .str (Str.ofString "ops") f0, o0⟩, ⟨e1, .str (Str.ofString "registers") f1, .int 1 fr⟩, ⟨e2, .str (Str.ofString "entries") f2, o2⟩, ⟨e3, .str (Str.ofString "formats") f3, o3⟩] n3)]) (nw := [(x, instObj 288 dx), (dx, dictOf [⟨_, .str _ _, _⟩, ⟨_, .str _ _, _⟩, ⟨_, .str _ _, .ref _⟩, ⟨_, .str _ _, _⟩, ⟨_, .str _ _, _⟩] _), (_, listOf (List.replicate (1 : Int).toNat .none).toArray 0)]) F1 N1 hcd hap hoff (by assumption) (by assumption) (by
    refine List.forall_mem_cons.mpr ⟨by k_mem, List.forall_mem_cons.mpr ⟨by k_mem, List.forall_mem_cons.mpr ⟨by k_mem, fun _ z => nomatch z⟩⟩⟩) (by
    refine List.forall_mem_cons.mpr ⟨by k_mem, List.forall_mem_cons.mpr ⟨by k_mem, fun _ z => nomatch z⟩⟩)
  refine q _ _ _ _ _ _ _ _ _ _ _ _ _ _ _ _ _ _ l1 l2 (ltN ?_) F9 N9
  omega
end
section
set_option hygiene false in
local macro_rules | `(tactic| walk_at "setAttr ref") => `(tactic| (k_here; k_dflt (refine' set_keep (k := _) ?k1 ?k2 ?k3 ?k4 ?k5 ?k6 ?k7 ?k8 ?k9 ?k10 ?k11 ?k12 ?k13 ?_; (case k1 => k_asm); (case k2 => k_asm); (case k3 => k_asm); (case k4 => k_inst); (case k5 => exact rfl); (case k6 => k_is); (case k7 => k_is); (case k8 => k_is); (case k9 => k_is); (case k10 => first | with_reducible assumption | exact rfl); (case k11 => first | with_reducible assumption | exact Nat.le_refl _); (case k12 => exact Nat.le_of_ble_eq_true rfl); (case k13 => k_updF); k_whole; intro es' n' h' tk' g' z' e' q' F' N'; (first | (replace hm := (q' _ (by decide)).trans hm) | (have hm := e')); (clear e' q'); (try dsimp only at N'); (try replace N' := news_drop N'); (try k_sweep))))
mutual
theorem new_machine {w : World} {A : Around} {g base : Heap} {p : Program} {lo : List Str} {mean : ExcName → Option Value} {mg mb : Str → Option Value} {s : Shared} {E Q : Value → Shared → Prop} {L : Addr} {m : Str → Option Value} {news : List (Addr × Obj)} {env : Env} {v0 v1 v2 v3 : Value} (a : At w A base g p lo mean mg mb L env) (F : Fr g L s.heap m) (N : News g L s.heap news)
    (q : ∀ ob dm es n2 h' tk, es.any (·.refKey) = false → es.length ≤ 17 → getL "memory" es = some (some v0) → (∀ p ∈ news, p.1 < dm) → dm < ob → Fr g L h' m → News g L h' ((ob, instObj 267 dm) :: (dm, dictOf es n2) :: news) → Q (.ref ob) { s with heap := h', toks := tk }) :
    wpAny (model PG w) (A.deeper env) (call (.ref 267) [v0, v1, v2, v3] []) Q E s := by
  refine wpAny_call (make_K (fI := 264) F N (a.kin.keeps F.keep) (by k_dflt k_is) (by k_dflt k_is) (by k_dflt k_is) fun x dx h' F1 N1 l1 l2 => ?_)
  obtain ⟨H, hM, hG⟩ := a.here (k := 21) (s := { s with heap := h' }) (by omega) F1 N1 [x, dx] (fun b hb => by
    simp only [List.mem_cons, List.not_mem_nil, or_false] at hb
    rcases hb with rfl | rfl <;> simp)
  have H2 := H.under (k := 20) (c := .builtin "type.__call__" ⟨.ref 267 :: [v0, v1, v2, v3], []⟩) (Nat.le_of_ble_eq_true (by kernel_rfl)) (Nat.le_of_ble_eq_true (by kernel_rfl)) (by kernel_rfl)
  refine enterX (k := 19) (cl := []) (news := [(x, instObj 267 dx), (dx, dictOf [] 0)]) H2 hG (fun q hq => N1.get (by simp only [List.mem_cons, List.not_mem_nil, or_false] at hq; rcases hq with rfl | rfl <;> simp [emptyDict])) (fun q hq => hM _ (by simp only [List.mem_cons, List.not_mem_nil, or_false] at hq; rcases hq with rfl | rfl <;> simp)) (hG.stay _ _ (H.kin 264 _ (by k_dflt k_is))) rfl (codeRec_of (H.kin.keeps hG.stay) (by k_dflt k_is)) (BindsTo.of_eq rfl) (locs rfl) ?_ (by decide) rfl rfl rfl
  intro g2 L2 h2 base2 F2 N2 B KB TB hz KX T hoff hsz
  replace l2 := ltN l2
  k_steps
  have hap : ∀ q ∈ news, q.1 ∉ [(x, instObj 267 dx), (dx, dictOf [] 0)].map (·.1) := fun q hq y => by
    simp only [List.map_cons, List.map_nil, List.mem_cons, List.not_mem_nil, or_false] at y
    have := l1 q hq
    rcases y with y | y
    · rw [y] at this; exact absurd (Nat.lt_trans l2 this) (Nat.lt_irrefl _)
    · rw [y] at this; exact absurd this (Nat.lt_irrefl _)
  refine ⟨rfl, ?_⟩
  obtain ⟨F9, N9⟩ := out_new (ns := [(x, instObj 267 dx), (dx, dictOf [] 0)]) (nw := [(x, instObj 267 dx), (dx, dictOf _ _)]) F1 N1 hap hoff (by assumption) (by assumption) (by
    refine List.forall_mem_cons.mpr ⟨by k_mem, List.forall_mem_cons.mpr ⟨by k_mem, fun _ z => nomatch z⟩⟩)
  exact q _ _ _ _ _ _ (by assumption) (Nat.le_trans (by assumption) (Nat.le_of_ble_eq_true rfl)) hm l1 l2 F9 N9
theorem new_run {w : World} {A : Around} {g base : Heap} {p : Program} {lo : List Str} {mean : ExcName → Option Value} {mg mb : Str → Option Value} {s : Shared} {E Q : Value → Shared → Prop} {L : Addr} {m : Str → Option Value} {news : List (Addr × Obj)} {env : Env} {v0 v1 v2 v3 v4 v5 : Value} (a : At w A base g p lo mean mg mb L env) (F : Fr g L s.heap m) (N : News g L s.heap news)
    (q : ∀ ob dm es n2 h' tk, es.any (·.refKey) = false → es.length ≤ 17 → getL "memory" es = some (some v0) → (∀ p ∈ news, p.1 < dm) → dm < ob → Fr g L h' m → News g L h' ((ob, instObj 314 dm) :: (dm, dictOf es n2) :: news) → Q (.ref ob) { s with heap := h', toks := tk }) :
    wpAny (model PG w) (A.deeper env) (call (.ref 314) [v0, v1, v2, v3, v4, v5] []) Q E s := by
  refine wpAny_call (make_K (fI := 311) F N (a.kin.keeps F.keep) (by k_dflt k_is) (by k_dflt k_is) (by k_dflt k_is) fun x dx h' F1 N1 l1 l2 => ?_)
  obtain ⟨H, hM, hG⟩ := a.here (k := 21) (s := { s with heap := h' }) (by omega) F1 N1 [x, dx] (fun b hb => by
    simp only [List.mem_cons, List.not_mem_nil, or_false] at hb
    rcases hb with rfl | rfl <;> simp)
  have H2 := H.under (k := 20) (c := .builtin "type.__call__" ⟨.ref 314 :: [v0, v1, v2, v3, v4, v5], []⟩) (Nat.le_of_ble_eq_true (by kernel_rfl)) (Nat.le_of_ble_eq_true (by kernel_rfl)) (by kernel_rfl)
  refine enterX (k := 19) (cl := []) (news := [(x, instObj 314 dx), (dx, dictOf [] 0)]) H2 hG (fun q hq => N1.get (by simp only [List.mem_cons, List.not_mem_nil, or_false] at hq; rcases hq with rfl | rfl <;> simp [emptyDict])) (fun q hq => hM _ (by simp only [List.mem_cons, List.not_mem_nil, or_false] at hq; rcases hq with rfl | rfl <;> simp)) (hG.stay _ _ (H.kin 311 _ (by k_dflt k_is))) rfl (codeRec_of (H.kin.keeps hG.stay) (by k_dflt k_is)) (BindsTo.of_eq rfl) (locs rfl) ?_ (by decide) rfl rfl rfl
  intro g2 L2 h2 base2 F2 N2 B KB TB hz KX T hoff hsz
  replace l2 := ltN l2
  k_steps
  have hap : ∀ q ∈ news, q.1 ∉ [(x, instObj 314 dx), (dx, dictOf [] 0)].map (·.1) := fun q hq y => by
    simp only [List.map_cons, List.map_nil, List.mem_cons, List.not_mem_nil, or_false] at y
    have := l1 q hq
    rcases y with y | y
    · rw [y] at this; exact absurd (Nat.lt_trans l2 this) (Nat.lt_irrefl _)
    · rw [y] at this; exact absurd this (Nat.lt_irrefl _)
  refine ⟨rfl, ?_⟩
  obtain ⟨F9, N9⟩ := out_new (ns := [(x, instObj 314 dx), (dx, dictOf [] 0)]) (nw := [(x, instObj 314 dx), (dx, dictOf _ _)]) F1 N1 hap hoff (by assumption) (by assumption) (by
    refine List.forall_mem_cons.mpr ⟨by k_mem, List.forall_mem_cons.mpr ⟨by k_mem, fun _ z => nomatch z⟩⟩)
  exact q _ _ _ _ _ _ (by assumption) (Nat.le_trans (by assumption) (Nat.le_of_ble_eq_true rfl)) hm l1 l2 F9 N9
end
end
end
end
section
/-- a turn's end, the iterator (I, oI) kept beside -/
def TurnEnd (g : Heap) (L : Addr) (J : (Str → Option Value) → List (Addr × Obj) → Prop) (I : Addr) (oI : Obj) (s₁ : Shared) (s₂ : Shared) : Prop :=
  ∃ h' tk m' nx, s₂ = { s₁ with heap := h', toks := tk } ∧ Fr g L h' m' ∧ News g L h' ((I, oI) :: nx) ∧ (∀ p ∈ nx, p.1 ≠ I) ∧ J m' nx
def TurnPost (g : Heap) (L : Addr) (J : (Str → Option Value) → List (Addr × Obj) → Prop) (I : Addr) (oI : Obj) (s₁ : Shared) (f : Flow) (s₂ : Shared) : Prop :=
  match f with
  | .next => TurnEnd g L J I oI s₁ s₂
  | _ => False
theorem range_inv2 {w : World} {A : Around} {g : Heap} {s : Shared} {E : Value → Shared → Prop} {news : List (Addr × Obj)} {env : Env} {r : Addr} {a₀ b₀ : Int} {t₀ u₀ v₀ : Tok} {n : Nat} {m₀ : Str → Option Value} {x : Str} {body : List Stmt} {Q : Flow → Shared → Prop} (J : Nat → (Str → Option Value) → List (Addr × Obj) → Prop)
    (hh : A.handled = none) (hr : IsRange s.heap r a₀ b₀ 1 t₀ u₀ v₀) (hsmall : Builtin.Range.small a₀ b₀ 1 = true) (hsz : Builtin.Range.rangeSize a₀ b₀ 1 = (n : Int)) (F : Fr g env.locals s.heap m₀) (N : News g env.locals s.heap news) (hj : J 0 m₀ news)
    (turn : ∀ i t m₁ nx h tk I oI, i < n → (∀ p ∈ news, p.1 < I) → (∀ p ∈ nx, p.1 ≠ I) → J i m₁ nx → Fr g env.locals h (fun y => if y = x then some (.int (a₀ + (i : Nat)) t) else m₁ y) → News g env.locals h ((I, oI) :: nx) →
      wpAny (model PG w) A (execs body env) (TurnPost g env.locals (J (i + 1)) I oI { s with heap := h, toks := tk }) E { s with heap := h, toks := tk })
    (done : ∀ m₁ nx h tk, J n m₁ nx → Fr g env.locals h m₁ → News g env.locals h nx → Q .next { s with heap := h, toks := tk }) :
    wpAny (model PG w) A (pyIter (.ref r)) (fun it s₂ => LoopAtV PG w A g env x body Q E it s₂) E s := by
  refine wpAny_pyIter_range hr hsmall ?_
  have lt : ∀ p ∈ news, p.1 < s.heap.objs.size := fun p hp => Heap.lt_size (N p hp).1
  have fI : g.get? s.heap.objs.size = none := next_is_new F
  have fL : env.locals ≠ s.heap.objs.size := Nat.ne_of_lt F.ns.lt
  have W : Walks PG w A s.heap.objs.size [s.heap.objs.size] [s.heap.objs.size] n (fun i v => i < n ∧ ∃ t, v = .int (a₀ + i * 1) t)
      (fun i h => IsRangeIter h s.heap.objs.size (a₀ + (i : Nat) * 1) ((n : Int) - (i : Nat)) 1) := (Walks.range hh _ a₀ 1 n).bound
  refine ⟨s.heap.objs.size, _, _, n, _, _, m₀, news, J, rfl, W, fun z => fL (List.mem_singleton.mp z), fun b hb => (List.mem_singleton.mp hb) ▸ fI, fun p hp hb => absurd (lt p hp) ((List.mem_singleton.mp hb) ▸ Nat.lt_irrefl _),
    (by show IsRangeIter _ _ _ _ _; rw [hsz]; simpa using Heap.get?_push_size _ rfl), F.push _, (fun p hp => ⟨Heap.get?_push_of_some _ (N p hp).1, (N p hp).2⟩), hj, ?_, ?_⟩
  · rintro i v m₁ nx s₁ own ⟨h1, tk1, rfl⟩ hi ⟨_, t, rfl⟩ hJ hoff hown x1 hmem hst F₁ N₁
    obtain ⟨oI, hoI⟩ : ∃ oI, h1.get? s.heap.objs.size = some oI := ⟨_, hst⟩
    have hIown : (s.heap.objs.size, oI) ∈ own := hmem _ (List.mem_singleton.mpr rfl) fI _ hoI
    have hall : ∀ p ∈ own, p = (s.heap.objs.size, oI) := fun p hp => by
      have e := List.mem_singleton.mp (hown p hp)
      have := (N₁ p (List.mem_append_left _ hp)).1
      rw [e, hoI] at this
      exact Prod.ext e (Option.some.inj this).symm
    have hne : ∀ p ∈ nx, p.1 ≠ s.heap.objs.size := fun p hp e => hoff p hp (List.mem_singleton.mpr e)
    have e1 : a₀ + (i : Int) * 1 = a₀ + (i : Int) := by omega
    rw [e1] at F₁
    refine wpAny_mono (turn i t m₁ nx h1 tk1 s.heap.objs.size oI hi lt hne hJ F₁ (fun p hp => (List.mem_cons.mp hp).elim (fun z => z ▸ N₁ _ (List.mem_append_left _ hIown)) (fun z => N₁ p (List.mem_append_right _ z)))) (fun f s₂ p => ?_) fun _ _ e => e
    cases f with
    | next =>
      obtain ⟨h', tk', m', nx', e, F', N', hn, hJ'⟩ := p
      refine .next ⟨rfl, h', tk', m', nx', e, F', fun q hq => ?_, fun q hq z => hn q hq (List.mem_singleton.mp z), hJ'⟩
      rcases List.mem_append.mp hq with hq | hq
      · rw [hall q hq]; exact N' _ (.head _)
      · exact N' q (.tail _ hq)
    | ret v => exact p.elim
    | brk => exact p.elim
    | cont => exact p.elim
  · rintro h' tk m' nx F' N' _ hJ
    exact done m' nx h' tk hJ F' N'
end
section
theorem mem_upd {a : Addr} {o : Obj} {news : List (Addr × Obj)} {gf : Obj → List (Addr × Obj)} (U : UpdF a o news gf) : (a, o) ∈ news := by
  obtain ⟨own, rest, rfl, _⟩ := U.split
  exact List.mem_append_right _ (.head _)
set_option genInjectivity false in
/-- one of the two, the plain run (314) or the machine (267): its objects -/
structure Side where
  (C one d1 mem dm nl ch : Nat) (es : List DictEntry) (n n2 : Nat) (x1 x2 : Int) (t1 t2 : Tok)
structure SideOk (L : Addr) (S : Side) (T : List (Addr × Obj)) : Prop where
  one : (S.one, instObj S.C S.d1) ∈ T
  d1 : (S.d1, dictOf S.es S.n) ∈ T
  mem : (S.mem, instObj 91 S.dm) ∈ T
  dm : (S.dm, dictOf [⟨S.x1, .str (Str.ofString "numeric") S.t1, .ref S.nl⟩, ⟨S.x2, .str (Str.ofString "characters") S.t2, .ref S.ch⟩] S.n2) ∈ T
  hm : getL "memory" S.es = some (some (.ref S.mem))
  ne : ∀ q ∈ T, q.1 ≠ S.nl
  lab : L + 1 + 1 + 1 ≠ S.nl
set_option genInjectivity false in
structure Dat where
  (tin sc pl em gl g1 g2 call1 dc rg fr z : Addr) (M R : Side)
  (oCall oGo oMac oPl oRun oF oz : Obj) (vs : List Value) (is : List Int) (n1 n2 n4 n6 n7 n8 n9 n10 nc : Nat) (ec : List DictEntry)
  (a sz : Int) (u1 u2 u3 v1 v2 v3 v4 tA tS : Tok)
structure Fix (w : World) (L : Addr) (d : Dat) (T : List (Addr × Obj)) : Prop where
  sc : (d.sc, listOf d.vs.toArray d.n2) ∈ T
  hints : IntsAre d.vs d.is
  hlen : d.is.length ≤ 20
  cCall : (L + 1, d.oCall) ∈ T
  dCall : d.oCall.data = .cell (some (.ref d.call1))
  cGo : (L + 1 + 1, d.oGo) ∈ T
  dGo : d.oGo.data = .cell (some (.ref d.gl))
  cMac : (L + 1 + 1 + 1 + 1, d.oMac) ∈ T
  dMac : d.oMac.data = .cell (some (.ref d.M.one))
  cPl : (L + 1 + 1 + 1 + 1 + 1, d.oPl) ∈ T
  dPl : d.oPl.data = .cell (some (.ref d.pl))
  cRun : (L + 1 + 1 + 1 + 1 + 1 + 1, d.oRun) ∈ T
  dRun : d.oRun.data = .cell (some (.ref d.R.one))
  pl : (d.pl, tupOf [.int 0 d.u1, .int d.a d.u2, .int 0 d.u3, .ref d.em] d.n4) ∈ T
  em : (d.em, tupOf [] d.n6) ∈ T
  gl : (d.gl, listOf #[.ref d.g1, .ref d.g2] d.n8) ∈ T
  g1 : (d.g1, tupOf [.int 10 d.v1, .int 7 d.v2] d.n9) ∈ T
  g2 : (d.g2, tupOf [.int 20 d.v3, .int 9 d.v4] d.n10) ∈ T
  call1 : (d.call1, instObj 288 d.dc) ∈ T
  dc : (d.dc, dictOf d.ec d.nc) ∈ T
  hrg : getL "registers" d.ec = some (some (.ref d.rg))
  rg : (d.rg, listOf #[.ref d.pl] d.n7) ∈ T
  M : SideOk L d.M T
  R : SideOk L d.R T
  CM : d.M.C = 267
  CR : d.R.C = 314
  hfr : getL "frame" d.R.es = some (some (.ref d.fr))
  fr : (d.fr, d.oF) ∈ T
  hFd : d.oF.IsDictOf (strKind PG w) [(Str.ofString "K", .ref d.pl)]
  hlo : (d.fr == sysModules) = false
  z : (d.z, d.oz) ∈ T
  k1 : 409 < L
  k2 : L + 1 + 1 + 1 + 1 + 1 + 1 < d.tin
  k3 : d.tin < d.M.nl
  k4 : d.M.nl < d.R.nl
  k5 : d.R.nl < d.z
  apart : ∀ q ∈ T, q.1 ≠ 409 ∧ q.1 ≠ d.tin ∧ q.1 ≠ L + 1 + 1 + 1 ∧ q.1 ≠ d.M.nl ∧ q.1 ≠ d.R.nl
  a0 : 0 ≤ d.a
  a1 : d.a < 8
  s0 : 1 ≤ d.sz
  s1 : d.sz < 6
theorem Fix.more {w : World} {L : Addr} {d : Dat} {T T' : List (Addr × Obj)} (f : Fix w L d T) (h : ∀ q ∈ T, q ∈ T') (ha : ∀ q ∈ T', q.1 ≠ 409 ∧ q.1 ≠ d.tin ∧ q.1 ≠ L + 1 + 1 + 1 ∧ q.1 ≠ d.M.nl ∧ q.1 ≠ d.R.nl) : Fix w L d T' :=
  { f with
    sc := h _ f.sc, cCall := h _ f.cCall, cGo := h _ f.cGo, cMac := h _ f.cMac, cPl := h _ f.cPl, cRun := h _ f.cRun, pl := h _ f.pl, em := h _ f.em, gl := h _ f.gl, g1 := h _ f.g1, g2 := h _ f.g2, call1 := h _ f.call1, dc := h _ f.dc, rg := h _ f.rg, fr := h _ f.fr, z := h _ f.z
    M := { one := h _ f.M.one, d1 := h _ f.M.d1, mem := h _ f.M.mem, dm := h _ f.M.dm, hm := f.M.hm, ne := fun q hq => (ha q hq).2.2.2.1, lab := f.M.lab }
    R := { one := h _ f.R.one, d1 := h _ f.R.d1, mem := h _ f.R.mem, dm := h _ f.R.dm, hm := f.R.hm, ne := fun q hq => (ha q hq).2.2.2.2, lab := f.R.lab }
    apart := ha }
theorem w_setp {w : World} {A : Around} {g base : Heap} {p : Program} {lo : List Str} {mean : ExcName → Option Value} {mg mb : Str → Option Value} {s : Shared} {E Q : Value → Shared → Prop} {L : Addr} {m : Str → Option Value} {news T : List (Addr × Obj)} {env : Env} {gf : Obj → List (Addr × Obj)} {d : Dat} {us : List Value} {n3 : Nat} {od : Option Addr} {sl : Array (Option Value)} {qual : Str} {pm ct : Value} {c' fn : Addr} {oc oLab : Obj} {lb : Int} {tl : Tok} {I : Addr} {oI : Obj} {p1 p2 p3 p4 p5 p6 p7 p8 p9 q1 q2 q3 : Pos} {ck1 ck2 ck3 ck4 ck5 : Nat} (f : Fix w L d T) (ta : At w A base g p lo mean mg mb L env) (F : Fr g L s.heap m) (N : News g L s.heap news) (hT : ∀ q ∈ T, q ∈ news) (hlb : (L + 1 + 1 + 1, oLab) ∈ news) (hLab : oLab.data = .cell (some (.int lb tl))) (hI : (I, oI) ∈ news) (hIne : I ≠ d.R.nl) (U : UpdF d.R.nl ⟨.type "list", od, .seq us.toArray n3, sl⟩ news gf) (ho : (fn, (kla_obj "<lambda>" qual { posonlyargs := [], args := [], vararg := none, kwonlyargs := [], kw_defaults := [], kwarg := none, defaults := [] }
      (.Call (.Subscript (.Call (.Name (Str.ofString "assign_statements") p1) [] [] p2) (.Constant (.str (Str.ofString "setlabel")) ck1 p3) p4) [.Name (Str.ofString "run") p5, .Constant .none ck2 p6, .Constant (.int 4) ck3 p7, .Tuple [.Constant (.str (Str.ofString "setlabel")) ck4 p8, .Name (Str.ofString "label") p9, .Constant (.str (Str.ofString "K")) ck5 q1] 0 q2] [] q3)
      { kind := .function, names := [(Str.ofString "label", .free), (Str.ofString "run", .free), (Str.ofString "assign_statements", .globalImplicit)], isGenerator := false, isCoroutine := false } [(Str.ofString "run", L + 1 + 1 + 1 + 1 + 1 + 1), (Str.ofString "label", L + 1 + 1 + 1)] pm c' ct)) ∈ news) (hce : (c', oc) ∈ news) (hcode : ∃ vs t, oc.data = .fields vs ∧ vs[1]? = some (.str qual t)) (hlen : us.length < 10)
    (qo : d.a < us.length → ∀ t5 r' od' n' sl' t t' m' h' tk, I < r' → Fr g L h' m → News g L h' ((r', tupOf [.int 7 t, .int lb t'] m') :: gf ⟨.type "list", od', .seq (us.set d.a.toNat (.ref r')).toArray n', sl'⟩) → Q (.int 5 t5) { s with heap := h', toks := tk })
    (qb : ¬ d.a < us.length → ∀ h' tk tk', Fr g L h' m → News g L h' news → Q (.str (Str.ofString "storage") tk) { s with heap := h', toks := tk' }) :
    wpAny (model PG w) (A.deeper env) (call (.ref 407) [.ref fn] []) Q E s :=
  hk_setp (hn := rfl) (ta := ta) (F := F) (N := N) (hns := List.forall_mem_cons.mpr ⟨mem_upd U, List.forall_mem_cons.mpr ⟨hlb, List.forall_mem_cons.mpr ⟨hT _ f.cRun, List.forall_mem_cons.mpr ⟨hT _ (f.CR ▸ f.R.one), List.forall_mem_cons.mpr ⟨hT _ f.R.d1, List.forall_mem_cons.mpr ⟨hT _ f.fr, List.forall_mem_cons.mpr ⟨hT _ f.R.mem, List.forall_mem_cons.mpr ⟨hT _ f.R.dm, List.forall_mem_cons.mpr ⟨hT _ f.pl, List.forall_mem_cons.mpr ⟨hI, List.forall_mem_nil _⟩⟩⟩⟩⟩⟩⟩⟩⟩⟩) (ho := ho) (hce := hce) (hcode := hcode) (h0 := f.a0) (hlen := hlen) (U := U) (hne := List.forall_mem_cons.mpr ⟨f.R.lab, List.forall_mem_cons.mpr ⟨f.R.ne _ f.cRun, List.forall_mem_cons.mpr ⟨f.R.ne _ (f.CR ▸ f.R.one), List.forall_mem_cons.mpr ⟨f.R.ne _ f.R.d1, List.forall_mem_cons.mpr ⟨f.R.ne _ f.fr, List.forall_mem_cons.mpr ⟨f.R.ne _ f.R.mem, List.forall_mem_cons.mpr ⟨f.R.ne _ f.R.dm, List.forall_mem_cons.mpr ⟨f.R.ne _ f.pl, List.forall_mem_cons.mpr ⟨hIne, List.forall_mem_nil _⟩⟩⟩⟩⟩⟩⟩⟩⟩) (hLab := hLab) (hRun := f.dRun) (hmem := f.R.hm) (hfr := f.hfr) (hFd := f.hFd) (hlo := f.hlo) (qo := qo) (qb := qb)
theorem w_setm {w : World} {A : Around} {g base : Heap} {p : Program} {lo : List Str} {mean : ExcName → Option Value} {mg mb : Str → Option Value} {s : Shared} {E Q : Value → Shared → Prop} {L : Addr} {m : Str → Option Value} {news T : List (Addr × Obj)} {env : Env} {gf : Obj → List (Addr × Obj)} {d : Dat} {us : List Value} {n3 : Nat} {od : Option Addr} {sl : Array (Option Value)} {qual : Str} {pm ct : Value} {c' fn : Addr} {oc oLab : Obj} {lb : Int} {tl : Tok} {I : Addr} {oI : Obj} {p1 p2 p3 p4 p5 p6 p7 p8 : Pos} {ck1 ck2 : Nat} (f : Fix w L d T) (ta : At w A base g p lo mean mg mb L env) (F : Fr g L s.heap m) (N : News g L s.heap news) (hT : ∀ q ∈ T, q ∈ news) (hlb : (L + 1 + 1 + 1, oLab) ∈ news) (hLab : oLab.data = .cell (some (.int lb tl))) (hI : (I, oI) ∈ news) (hIne : I ≠ d.M.nl) (U : UpdF d.M.nl ⟨.type "list", od, .seq us.toArray n3, sl⟩ news gf) (ho : (fn, (kla_obj "<lambda>" qual { posonlyargs := [], args := [], vararg := none, kwonlyargs := [], kw_defaults := [], kwarg := none, defaults := [] }
      (.Call (.Name (Str.ofString "do_setlabel_machineops") p1) [.Name (Str.ofString "machine") p2, .Name (Str.ofString "call") p3, .Tuple [.Constant (.str (Str.ofString "setlabel")) ck1 p4, .Constant (.int 0) ck2 p5, .Name (Str.ofString "label") p6] 0 p7] [] p8)
      { kind := .function, names := [(Str.ofString "call", .free), (Str.ofString "label", .free), (Str.ofString "machine", .free), (Str.ofString "do_setlabel_machineops", .globalImplicit)], isGenerator := false, isCoroutine := false } [(Str.ofString "machine", L + 1 + 1 + 1 + 1), (Str.ofString "label", L + 1 + 1 + 1), (Str.ofString "call", L + 1)] pm c' ct)) ∈ news) (hce : (c', oc) ∈ news) (hcode : ∃ vs t, oc.data = .fields vs ∧ vs[1]? = some (.str qual t)) (hlen : us.length < 10)
    (qo : d.a < us.length → ∀ r' od' n' sl' t t' m' h' tk, I < r' → Fr g L h' m → News g L h' ((r', tupOf [.int 7 t, .int lb t'] m') :: gf ⟨.type "list", od', .seq (us.set d.a.toNat (.ref r')).toArray n', sl'⟩) → Q .none { s with heap := h', toks := tk })
    (qb : ¬ d.a < us.length → ∀ h' tk tk', Fr g L h' m → News g L h' news → Q (.str (Str.ofString "storage") tk) { s with heap := h', toks := tk' }) :
    wpAny (model PG w) (A.deeper env) (call (.ref 407) [.ref fn] []) Q E s :=
  hk_setm (hn := rfl) (ta := ta) (F := F) (N := N) (hns := List.forall_mem_cons.mpr ⟨mem_upd U, List.forall_mem_cons.mpr ⟨hT _ f.cCall, List.forall_mem_cons.mpr ⟨hlb, List.forall_mem_cons.mpr ⟨hT _ f.cMac, List.forall_mem_cons.mpr ⟨hT _ f.call1, List.forall_mem_cons.mpr ⟨hT _ f.dc, List.forall_mem_cons.mpr ⟨hT _ f.rg, List.forall_mem_cons.mpr ⟨hT _ (f.CM ▸ f.M.one), List.forall_mem_cons.mpr ⟨hT _ f.M.d1, List.forall_mem_cons.mpr ⟨hT _ f.M.mem, List.forall_mem_cons.mpr ⟨hT _ f.M.dm, List.forall_mem_cons.mpr ⟨hT _ f.pl, List.forall_mem_cons.mpr ⟨hI, List.forall_mem_nil _⟩⟩⟩⟩⟩⟩⟩⟩⟩⟩⟩⟩⟩) (ho := ho) (hce := hce) (hcode := hcode) (h0 := f.a0) (hlen := hlen) (U := U) (hne := List.forall_mem_cons.mpr ⟨f.M.ne _ f.cCall, List.forall_mem_cons.mpr ⟨f.M.lab, List.forall_mem_cons.mpr ⟨f.M.ne _ f.cMac, List.forall_mem_cons.mpr ⟨f.M.ne _ f.call1, List.forall_mem_cons.mpr ⟨f.M.ne _ f.dc, List.forall_mem_cons.mpr ⟨f.M.ne _ f.rg, List.forall_mem_cons.mpr ⟨f.M.ne _ (f.CM ▸ f.M.one), List.forall_mem_cons.mpr ⟨f.M.ne _ f.M.d1, List.forall_mem_cons.mpr ⟨f.M.ne _ f.M.mem, List.forall_mem_cons.mpr ⟨f.M.ne _ f.M.dm, List.forall_mem_cons.mpr ⟨f.M.ne _ f.pl, List.forall_mem_cons.mpr ⟨hIne, List.forall_mem_nil _⟩⟩⟩⟩⟩⟩⟩⟩⟩⟩⟩⟩) (hLab := hLab) (hCall := f.dCall) (hrg := f.hrg) (hMac := f.dMac) (hmem := f.M.hm) (qo := qo) (qb := qb)
theorem w_store {w : World} {A : Around} {g base : Heap} {p : Program} {lo : List Str} {mean : ExcName → Option Value} {mg mb : Str → Option Value} {s : Shared} {E Q : Value → Shared → Prop} {L : Addr} {m : Str → Option Value} {news T : List (Addr × Obj)} {env : Env} {gf : Obj → List (Addr × Obj)} {d : Dat} {us : List Value} {n3 : Nat} {od : Option Addr} {sl : Array (Option Value)} {qual : Str} {pm ct : Value} {c' fn : Addr} {oc oLab : Obj} {lb : Int} {tl : Tok} {S : Side} {cOne I : Addr} {oI oOne : Obj} {p1 p2 p4 p5 : Pos} {i1 i2 i3 i4 i5 i6 : Nat} (f : Fix w L d T) (so : SideOk L S T) (hC : S.C = 314 ∨ S.C = 267) (ta : At w A base g p lo mean mg mb L env) (F : Fr g L s.heap m) (N : News g L s.heap news) (hT : ∀ q ∈ T, q ∈ news) (hlb : (L + 1 + 1 + 1, oLab) ∈ news) (hLab : oLab.data = .cell (some (.int lb tl))) (hI : (I, oI) ∈ news) (hIne : I ≠ S.nl) (hone : (cOne, oOne) ∈ news) (hOne : oOne.data = .cell (some (.ref S.one))) (hone1 : cOne ≠ S.nl) (U : UpdF S.nl ⟨.type "list", od, .seq us.toArray n3, sl⟩ news gf) (ho : (fn, (kla_obj "<lambda>" qual { posonlyargs := [], args := [], vararg := none, kwonlyargs := [], kw_defaults := [], kwarg := none, defaults := [] }
      (.Call (.Attribute (.Attribute (.Name (Str.ofString "one") p1) (Str.ofString "memory") p2) (Str.ofString "store") ⟨i1, i2, 300, i3⟩) [.Name (Str.ofString "place") p4, .Name (Str.ofString "label") p5] [] ⟨300, i4, i5, i6⟩)
      { kind := .function, names := [(Str.ofString "label", .free), (Str.ofString "one", .free), (Str.ofString "place", .free)], isGenerator := false, isCoroutine := false } [(Str.ofString "place", L + 1 + 1 + 1 + 1 + 1), (Str.ofString "one", cOne), (Str.ofString "label", L + 1 + 1 + 1)] pm c' ct)) ∈ news) (hce : (c', oc) ∈ news) (hcode : ∃ vs t, oc.data = .fields vs ∧ vs[1]? = some (.str qual t)) (hlen : us.length < 10)
    (qo : d.a < us.length → ∀ r' od' n' sl' t t' m' h' tk, I < r' → Fr g L h' m → News g L h' ((r', tupOf [.int 0 t, .int lb t'] m') :: gf ⟨.type "list", od', .seq (us.set d.a.toNat (.ref r')).toArray n', sl'⟩) → Q .none { s with heap := h', toks := tk })
    (qb : ¬ d.a < us.length → ∀ h' tk tk', Fr g L h' m → News g L h' news → Q (.str (Str.ofString "storage") tk) { s with heap := h', toks := tk' }) :
    wpAny (model PG w) (A.deeper env) (call (.ref 407) [.ref fn] []) Q E s :=
  hk_store (hn := rfl) (ta := ta) (F := F) (N := N) (hns := List.forall_mem_cons.mpr ⟨mem_upd U, List.forall_mem_cons.mpr ⟨hlb, List.forall_mem_cons.mpr ⟨hone, List.forall_mem_cons.mpr ⟨hT _ f.cPl, List.forall_mem_cons.mpr ⟨hT _ so.one, List.forall_mem_cons.mpr ⟨hT _ so.d1, List.forall_mem_cons.mpr ⟨hT _ so.mem, List.forall_mem_cons.mpr ⟨hT _ so.dm, List.forall_mem_cons.mpr ⟨hT _ f.pl, List.forall_mem_cons.mpr ⟨hI, List.forall_mem_nil _⟩⟩⟩⟩⟩⟩⟩⟩⟩⟩) (ho := ho) (hce := hce) (hcode := hcode) (h0 := f.a0) (hlen := hlen) (U := U) (hne := List.forall_mem_cons.mpr ⟨so.lab, List.forall_mem_cons.mpr ⟨hone1, List.forall_mem_cons.mpr ⟨so.ne _ f.cPl, List.forall_mem_cons.mpr ⟨so.ne _ so.one, List.forall_mem_cons.mpr ⟨so.ne _ so.d1, List.forall_mem_cons.mpr ⟨so.ne _ so.mem, List.forall_mem_cons.mpr ⟨so.ne _ so.dm, List.forall_mem_cons.mpr ⟨so.ne _ f.pl, List.forall_mem_cons.mpr ⟨hIne, List.forall_mem_nil _⟩⟩⟩⟩⟩⟩⟩⟩⟩) (hC := hC) (hLab := hLab) (hOne := hOne) (hPl := f.dPl) (hmem := so.hm) (qo := qo) (qb := qb)
theorem w_undef {w : World} {A : Around} {g base : Heap} {p : Program} {lo : List Str} {mean : ExcName → Option Value} {mg mb : Str → Option Value} {s : Shared} {E Q : Value → Shared → Prop} {L : Addr} {m : Str → Option Value} {news T : List (Addr × Obj)} {env : Env} {gf : Obj → List (Addr × Obj)} {d : Dat} {us : List Value} {n3 : Nat} {od : Option Addr} {sl : Array (Option Value)} {qual : Str} {pm ct : Value} {c' fn : Addr} {oc : Obj} {S : Side} {cOne : Addr} {oOne : Obj} {p1 p2 p4 : Pos} {i1 i2 i3 i4 i5 i6 : Nat} (f : Fix w L d T) (so : SideOk L S T) (hC : S.C = 314 ∨ S.C = 267) (ta : At w A base g p lo mean mg mb L env) (F : Fr g L s.heap m) (N : News g L s.heap news) (hT : ∀ q ∈ T, q ∈ news) (hone : (cOne, oOne) ∈ news) (hOne : oOne.data = .cell (some (.ref S.one))) (hone1 : cOne ≠ S.nl) (U : UpdF S.nl ⟨.type "list", od, .seq us.toArray n3, sl⟩ news gf) (ho : (fn, (kla_obj "<lambda>" qual { posonlyargs := [], args := [], vararg := none, kwonlyargs := [], kw_defaults := [], kwarg := none, defaults := [] }
      (.Call (.Attribute (.Attribute (.Name (Str.ofString "one") p1) (Str.ofString "memory") p2) (Str.ofString "undefine") ⟨i1, i2, 305, i3⟩) [.Name (Str.ofString "place") p4] [] ⟨305, i4, i5, i6⟩)
      { kind := .function, names := [(Str.ofString "one", .free), (Str.ofString "place", .free)], isGenerator := false, isCoroutine := false } [(Str.ofString "place", L + 1 + 1 + 1 + 1 + 1), (Str.ofString "one", cOne)] pm c' ct)) ∈ news) (hce : (c', oc) ∈ news) (hcode : ∃ vs t, oc.data = .fields vs ∧ vs[1]? = some (.str qual t)) (hlen : us.length < 10)
    (qo : d.a < us.length → ∀ od' n' sl' h' tk, Fr g L h' m → News g L h' (gf ⟨.type "list", od', .seq (us.set d.a.toNat .none).toArray n', sl'⟩) → Q .none { s with heap := h', toks := tk })
    (qb : ¬ d.a < us.length → ∀ h' tk tk', Fr g L h' m → News g L h' news → Q (.str (Str.ofString "storage") tk) { s with heap := h', toks := tk' }) :
    wpAny (model PG w) (A.deeper env) (call (.ref 407) [.ref fn] []) Q E s :=
  hk_undef (hn := rfl) (ta := ta) (F := F) (N := N) (hns := List.forall_mem_cons.mpr ⟨mem_upd U, List.forall_mem_cons.mpr ⟨hone, List.forall_mem_cons.mpr ⟨hT _ f.cPl, List.forall_mem_cons.mpr ⟨hT _ so.one, List.forall_mem_cons.mpr ⟨hT _ so.d1, List.forall_mem_cons.mpr ⟨hT _ so.mem, List.forall_mem_cons.mpr ⟨hT _ so.dm, List.forall_mem_cons.mpr ⟨hT _ f.pl, List.forall_mem_cons.mpr ⟨hT _ f.em, List.forall_mem_nil _⟩⟩⟩⟩⟩⟩⟩⟩⟩) (ho := ho) (hce := hce) (hcode := hcode) (h0 := f.a0) (hlen := hlen) (U := U) (hne := List.forall_mem_cons.mpr ⟨hone1, List.forall_mem_cons.mpr ⟨so.ne _ f.cPl, List.forall_mem_cons.mpr ⟨so.ne _ so.one, List.forall_mem_cons.mpr ⟨so.ne _ so.d1, List.forall_mem_cons.mpr ⟨so.ne _ so.mem, List.forall_mem_cons.mpr ⟨so.ne _ so.dm, List.forall_mem_cons.mpr ⟨so.ne _ f.pl, List.forall_mem_cons.mpr ⟨so.ne _ f.em, List.forall_mem_nil _⟩⟩⟩⟩⟩⟩⟩⟩) (hC := hC) (hOne := hOne) (hPl := f.dPl) (hmem := so.hm) (qo := qo) (qb := qb)
theorem w_load {w : World} {A : Around} {g base : Heap} {p : Program} {lo : List Str} {mean : ExcName → Option Value} {mg mb : Str → Option Value} {s : Shared} {E Q : Value → Shared → Prop} {L : Addr} {m : Str → Option Value} {news T : List (Addr × Obj)} {env : Env} {d : Dat} {us : List Value} {n3 : Nat} {od : Option Addr} {sl : Array (Option Value)} {qual : Str} {pm ct : Value} {c' fn : Addr} {oc : Obj} {S : Side} {cOne r : Addr} {oOne or : Obj} {v : Value} {c : Cel} {p1 p2 p4 : Pos} {i1 i2 i3 i4 i5 i6 : Nat} (f : Fix w L d T) (so : SideOk L S T) (hC : S.C = 314 ∨ S.C = 267) (ta : At w A base g p lo mean mg mb L env) (F : Fr g L s.heap m) (N : News g L s.heap news) (hT : ∀ q ∈ T, q ∈ news) (hone : (cOne, oOne) ∈ news) (hOne : oOne.data = .cell (some (.ref S.one))) (hnl : (S.nl, ⟨.type "list", od, .seq us.toArray n3, sl⟩) ∈ news) (hr : (r, or) ∈ news) (hv : d.a < us.length → us[d.a.toNat]? = some v) (hc : CelIs v r or c) (ho : (fn, (kla_obj "<lambda>" qual { posonlyargs := [], args := [], vararg := none, kwonlyargs := [], kw_defaults := [], kwarg := none, defaults := [] }
      (.Call (.Attribute (.Attribute (.Name (Str.ofString "one") p1) (Str.ofString "memory") p2) (Str.ofString "load") ⟨i1, i2, 313, i3⟩) [.Name (Str.ofString "place") p4] [] ⟨313, i4, i5, i6⟩)
      { kind := .function, names := [(Str.ofString "one", .free), (Str.ofString "place", .free)], isGenerator := false, isCoroutine := false } [(Str.ofString "place", L + 1 + 1 + 1 + 1 + 1), (Str.ofString "one", cOne)] pm c' ct)) ∈ news) (hce : (c', oc) ∈ news) (hcode : ∃ vs t, oc.data = .fields vs ∧ vs[1]? = some (.str qual t)) (hlen : us.length < 10)
    (qo : d.a < us.length → ∀ x t h' tk, c = .num x → Fr g L h' m → News g L h' news → Q (.int x t) { s with heap := h', toks := tk })
    (qb : ¬ d.a < us.length → ∀ h' tk tk', Fr g L h' m → News g L h' news → Q (.str (Str.ofString "storage") tk) { s with heap := h', toks := tk' })
    (qf : d.a < us.length → (∀ y, c ≠ .num y) → ∀ h' tk tk', Fr g L h' m → News g L h' news → Q (.str (Str.ofString "fault") tk) { s with heap := h', toks := tk' }) :
    wpAny (model PG w) (A.deeper env) (call (.ref 407) [.ref fn] []) Q E s :=
  hk_load (hn := rfl) (ta := ta) (F := F) (N := N) (hns := List.forall_mem_cons.mpr ⟨hnl, List.forall_mem_cons.mpr ⟨hone, List.forall_mem_cons.mpr ⟨hT _ f.cPl, List.forall_mem_cons.mpr ⟨hT _ so.one, List.forall_mem_cons.mpr ⟨hT _ so.d1, List.forall_mem_cons.mpr ⟨hT _ so.mem, List.forall_mem_cons.mpr ⟨hT _ so.dm, List.forall_mem_cons.mpr ⟨hT _ f.pl, List.forall_mem_cons.mpr ⟨hr, List.forall_mem_nil _⟩⟩⟩⟩⟩⟩⟩⟩⟩) (ho := ho) (hce := hce) (hcode := hcode) (h0 := f.a0) (hlen := hlen) (hC := hC) (hOne := hOne) (hPl := f.dPl) (hmem := so.hm) (hv := hv) (hc := hc) (qo := qo) (qb := qb) (qf := qf)
theorem w_askp {w : World} {A : Around} {g base : Heap} {p : Program} {lo : List Str} {mean : ExcName → Option Value} {mg mb : Str → Option Value} {s : Shared} {E Q : Value → Shared → Prop} {L : Addr} {m : Str → Option Value} {news T : List (Addr × Obj)} {env : Env} {d : Dat} {us : List Value} {n3 : Nat} {od : Option Addr} {sl : Array (Option Value)} {qual : Str} {pm ct : Value} {c' fn : Addr} {oc : Obj} {r : Addr} {or : Obj} {v : Value} {c : Cel} {p1 p2 p3 p4 p5 : Pos} {ck1 : Nat} {doc : Value} (f : Fix w L d T) (ta : At w A base g p lo mean mg mb L env) (F : Fr g L s.heap m) (N : News g L s.heap news) (hT : ∀ q ∈ T, q ∈ news) (hnl : (d.R.nl, ⟨.type "list", od, .seq us.toArray n3, sl⟩) ∈ news) (hr : (r, or) ∈ news) (hv : d.a < us.length → us[d.a.toNat]? = some v) (hc : CelIs v r or c) (ho : (fn, (fnMade (Str.ofString "asked_plainly") qual { posonlyargs := [], args := [], vararg := none, kwonlyargs := [], kw_defaults := [], kwarg := none, defaults := [] }
      [.Return (some (.Call (.Name (Str.ofString "label_in") p1) [.Name (Str.ofString "run") p2, .Constant (.str (Str.ofString "K")) ck1 p3] [] p4)) p5]
      { kind := .function, names := [(Str.ofString "run", .free), (Str.ofString "label_in", .globalImplicit)], isGenerator := false, isCoroutine := false } [(Str.ofString "run", L + 1 + 1 + 1 + 1 + 1 + 1)] doc pm c' ct)) ∈ news) (hce : (c', oc) ∈ news) (hcode : ∃ vs t, oc.data = .fields vs ∧ vs[1]? = some (.str qual t)) (hlen : us.length < 10)
    (qo : d.a < us.length → ∀ x t h' tk, c = .lab x → Fr g L h' m → News g L h' news → Q (.int x t) { s with heap := h', toks := tk })
    (qb : ¬ d.a < us.length → ∀ h' tk tk', Fr g L h' m → News g L h' news → Q (.str (Str.ofString "storage") tk) { s with heap := h', toks := tk' })
    (qf : d.a < us.length → (∀ y, c ≠ .lab y) → ∀ h' tk tk', Fr g L h' m → News g L h' news → Q (.str (Str.ofString "fault") tk) { s with heap := h', toks := tk' }) :
    wpAny (model PG w) (A.deeper env) (call (.ref 407) [.ref fn] []) Q E s :=
  hk_askp (hn := rfl) (ta := ta) (F := F) (N := N) (hns := List.forall_mem_cons.mpr ⟨hnl, List.forall_mem_cons.mpr ⟨hT _ f.cRun, List.forall_mem_cons.mpr ⟨hT _ (f.CR ▸ f.R.one), List.forall_mem_cons.mpr ⟨hT _ f.R.d1, List.forall_mem_cons.mpr ⟨hT _ f.fr, List.forall_mem_cons.mpr ⟨hT _ f.R.mem, List.forall_mem_cons.mpr ⟨hT _ f.R.dm, List.forall_mem_cons.mpr ⟨hT _ f.pl, List.forall_mem_cons.mpr ⟨hr, List.forall_mem_nil _⟩⟩⟩⟩⟩⟩⟩⟩⟩) (ho := ho) (hce := hce) (hcode := hcode) (h0 := f.a0) (hlen := hlen) (hRun := f.dRun) (hmem := f.R.hm) (hfr := f.hfr) (hFd := f.hFd) (hlo := f.hlo) (hv := hv) (hc := hc) (qo := qo) (qb := qb) (qf := qf)
theorem w_askm {w : World} {A : Around} {g base : Heap} {p : Program} {lo : List Str} {mean : ExcName → Option Value} {mg mb : Str → Option Value} {s : Shared} {E Q : Value → Shared → Prop} {L : Addr} {m : Str → Option Value} {news T : List (Addr × Obj)} {env : Env} {d : Dat} {us : List Value} {n3 : Nat} {od : Option Addr} {sl : Array (Option Value)} {qual : Str} {pm ct : Value} {c' fn : Addr} {oc : Obj} {r : Addr} {or : Obj} {v : Value} {c : Cel} {p1 p2 p3 p4 p5 p6 p7 p8 p9 : Pos} {ck1 ck2 : Nat} {doc : Value} (f : Fix w L d T) (ta : At w A base g p lo mean mg mb L env) (F : Fr g L s.heap m) (N : News g L s.heap news) (hT : ∀ q ∈ T, q ∈ news) (hnl : (d.M.nl, ⟨.type "list", od, .seq us.toArray n3, sl⟩) ∈ news) (hr : (r, or) ∈ news) (hv : d.a < us.length → us[d.a.toNat]? = some v) (hc : CelIs v r or c) (ho : (fn, (fnMade (Str.ofString "asked_of_machine") qual { posonlyargs := [], args := [], vararg := none, kwonlyargs := [], kw_defaults := [], kwarg := none, defaults := [] }
      [.Return (some (.Call (.Name (Str.ofString "do_agoto") p1) [.Name (Str.ofString "machine") p2, .Name (Str.ofString "call") p3, .Tuple [.Constant (.str (Str.ofString "agoto")) ck1 p4, .Constant (.int 0) ck2 p5, .Name (Str.ofString "goals") p6] 0 p7] [] p8)) p9]
      { kind := .function, names := [(Str.ofString "call", .free), (Str.ofString "goals", .free), (Str.ofString "machine", .free), (Str.ofString "do_agoto", .globalImplicit)], isGenerator := false, isCoroutine := false } [(Str.ofString "machine", L + 1 + 1 + 1 + 1), (Str.ofString "goals", L + 1 + 1), (Str.ofString "call", L + 1)] doc pm c' ct)) ∈ news) (hce : (c', oc) ∈ news) (hcode : ∃ vs t, oc.data = .fields vs ∧ vs[1]? = some (.str qual t)) (hlen : us.length < 10)
    (qo : d.a < us.length → ∀ x y t h' tk, c = .lab x → (x = 10 ∧ y = 7 ∨ x = 20 ∧ y = 9) → Fr g L h' m → News g L h' news → Q (.int y t) { s with heap := h', toks := tk })
    (qb : ¬ d.a < us.length → ∀ h' tk tk', Fr g L h' m → News g L h' news → Q (.str (Str.ofString "storage") tk) { s with heap := h', toks := tk' })
    (qf : d.a < us.length → ((∀ y, c ≠ .lab y) ∨ ∃ y, c = .lab y ∧ y ≠ 10 ∧ y ≠ 20) → ∀ h' tk tk', Fr g L h' m → News g L h' news → Q (.str (Str.ofString "fault") tk) { s with heap := h', toks := tk' }) :
    wpAny (model PG w) (A.deeper env) (call (.ref 407) [.ref fn] []) Q E s :=
  hk_askm (hn := rfl) (ta := ta) (F := F) (N := N) (hns := List.forall_mem_cons.mpr ⟨hnl, List.forall_mem_cons.mpr ⟨hT _ f.cCall, List.forall_mem_cons.mpr ⟨hT _ f.cGo, List.forall_mem_cons.mpr ⟨hT _ f.cMac, List.forall_mem_cons.mpr ⟨hT _ f.call1, List.forall_mem_cons.mpr ⟨hT _ f.dc, List.forall_mem_cons.mpr ⟨hT _ f.rg, List.forall_mem_cons.mpr ⟨hT _ (f.CM ▸ f.M.one), List.forall_mem_cons.mpr ⟨hT _ f.M.d1, List.forall_mem_cons.mpr ⟨hT _ f.M.mem, List.forall_mem_cons.mpr ⟨hT _ f.M.dm, List.forall_mem_cons.mpr ⟨hT _ f.pl, List.forall_mem_cons.mpr ⟨hT _ f.gl, List.forall_mem_cons.mpr ⟨hT _ f.g1, List.forall_mem_cons.mpr ⟨hT _ f.g2, List.forall_mem_cons.mpr ⟨hr, List.forall_mem_nil _⟩⟩⟩⟩⟩⟩⟩⟩⟩⟩⟩⟩⟩⟩⟩⟩) (ho := ho) (hce := hce) (hcode := hcode) (h0 := f.a0) (hlen := hlen) (hCall := f.dCall) (hrg := f.hrg) (hGo := f.dGo) (hMac := f.dMac) (hmem := f.M.hm) (hv := hv) (hc := hc) (qo := qo) (qb := qb) (qf := qf)
def AskP (L fn : Addr) (T : List (Addr × Obj)) : Prop := ∃ (p1 p2 p3 p4 p5 : Pos) (ck1 : Nat) (qual : Str) (doc pm ct : Value) (c' : Addr) (oc : Obj), (fn, (fnMade (Str.ofString "asked_plainly") qual { posonlyargs := [], args := [], vararg := none, kwonlyargs := [], kw_defaults := [], kwarg := none, defaults := [] }
      [.Return (some (.Call (.Name (Str.ofString "label_in") p1) [.Name (Str.ofString "run") p2, .Constant (.str (Str.ofString "K")) ck1 p3] [] p4)) p5]
      { kind := .function, names := [(Str.ofString "run", .free), (Str.ofString "label_in", .globalImplicit)], isGenerator := false, isCoroutine := false } [(Str.ofString "run", L + 1 + 1 + 1 + 1 + 1 + 1)] doc pm c' ct)) ∈ T ∧ (c', oc) ∈ T ∧ ∃ vs t, oc.data = .fields vs ∧ vs[1]? = some (.str qual t)
def AskM (L fn : Addr) (T : List (Addr × Obj)) : Prop := ∃ (p1 p2 p3 p4 p5 p6 p7 p8 p9 : Pos) (ck1 ck2 : Nat) (qual : Str) (doc pm ct : Value) (c' : Addr) (oc : Obj), (fn, (fnMade (Str.ofString "asked_of_machine") qual { posonlyargs := [], args := [], vararg := none, kwonlyargs := [], kw_defaults := [], kwarg := none, defaults := [] }
      [.Return (some (.Call (.Name (Str.ofString "do_agoto") p1) [.Name (Str.ofString "machine") p2, .Name (Str.ofString "call") p3, .Tuple [.Constant (.str (Str.ofString "agoto")) ck1 p4, .Constant (.int 0) ck2 p5, .Name (Str.ofString "goals") p6] 0 p7] [] p8)) p9]
      { kind := .function, names := [(Str.ofString "call", .free), (Str.ofString "goals", .free), (Str.ofString "machine", .free), (Str.ofString "do_agoto", .globalImplicit)], isGenerator := false, isCoroutine := false } [(Str.ofString "machine", L + 1 + 1 + 1 + 1), (Str.ofString "goals", L + 1 + 1), (Str.ofString "call", L + 1)] doc pm c' ct)) ∈ T ∧ (c', oc) ∈ T ∧ ∃ vs t, oc.data = .fields vs ∧ vs[1]? = some (.str qual t)
end
section
theorem leNN {a b : Nat} (h : a ≤ b) : a ≤ b := h
theorem od1 {w : World} {L : Addr} {d : Dat} {T : List (Addr × Obj)} (f : Fix w L d T) : @Ne Nat (409) (d.tin) := by
  have h1 := ltN f.k1; have h2 := ltN f.k2; have h3 := ltN f.k3; have h4 := ltN f.k4; have h5 := ltN f.k5
  refine neN ?_; omega
theorem od2 {w : World} {L : Addr} {d : Dat} {T : List (Addr × Obj)} (f : Fix w L d T) : @Ne Nat (409) (L + 1 + 1 + 1) := by
  have h1 := ltN f.k1; have h2 := ltN f.k2; have h3 := ltN f.k3; have h4 := ltN f.k4; have h5 := ltN f.k5
  refine neN ?_; omega
theorem od3 {w : World} {L : Addr} {d : Dat} {T : List (Addr × Obj)} (f : Fix w L d T) : @Ne Nat (409) (d.M.nl) := by
  have h1 := ltN f.k1; have h2 := ltN f.k2; have h3 := ltN f.k3; have h4 := ltN f.k4; have h5 := ltN f.k5
  refine neN ?_; omega
theorem od4 {w : World} {L : Addr} {d : Dat} {T : List (Addr × Obj)} (f : Fix w L d T) : @Ne Nat (409) (d.R.nl) := by
  have h1 := ltN f.k1; have h2 := ltN f.k2; have h3 := ltN f.k3; have h4 := ltN f.k4; have h5 := ltN f.k5
  refine neN ?_; omega
theorem od5 {w : World} {L : Addr} {d : Dat} {T : List (Addr × Obj)} (f : Fix w L d T) : @Ne Nat (d.tin) (L + 1 + 1 + 1) := by
  have h1 := ltN f.k1; have h2 := ltN f.k2; have h3 := ltN f.k3; have h4 := ltN f.k4; have h5 := ltN f.k5
  refine neN ?_; omega
theorem od6 {w : World} {L : Addr} {d : Dat} {T : List (Addr × Obj)} (f : Fix w L d T) : @Ne Nat (d.tin) (d.M.nl) := by
  have h1 := ltN f.k1; have h2 := ltN f.k2; have h3 := ltN f.k3; have h4 := ltN f.k4; have h5 := ltN f.k5
  refine neN ?_; omega
theorem od7 {w : World} {L : Addr} {d : Dat} {T : List (Addr × Obj)} (f : Fix w L d T) : @Ne Nat (d.tin) (d.R.nl) := by
  have h1 := ltN f.k1; have h2 := ltN f.k2; have h3 := ltN f.k3; have h4 := ltN f.k4; have h5 := ltN f.k5
  refine neN ?_; omega
theorem od8 {w : World} {L : Addr} {d : Dat} {T : List (Addr × Obj)} (f : Fix w L d T) : @Ne Nat (L + 1 + 1 + 1) (d.M.nl) := by
  have h1 := ltN f.k1; have h2 := ltN f.k2; have h3 := ltN f.k3; have h4 := ltN f.k4; have h5 := ltN f.k5
  refine neN ?_; omega
theorem od9 {w : World} {L : Addr} {d : Dat} {T : List (Addr × Obj)} (f : Fix w L d T) : @Ne Nat (L + 1 + 1 + 1) (d.R.nl) := by
  have h1 := ltN f.k1; have h2 := ltN f.k2; have h3 := ltN f.k3; have h4 := ltN f.k4; have h5 := ltN f.k5
  refine neN ?_; omega
theorem od10 {w : World} {L : Addr} {d : Dat} {T : List (Addr × Obj)} (f : Fix w L d T) : @Ne Nat (d.M.nl) (d.R.nl) := by
  have h1 := ltN f.k1; have h2 := ltN f.k2; have h3 := ltN f.k3; have h4 := ltN f.k4; have h5 := ltN f.k5
  refine neN ?_; omega
theorem nz1 {w : World} {L : Addr} {d : Dat} {T : List (Addr × Obj)} {c : Nat} (f : Fix w L d T) (h : d.z ≤ c) : @Ne Nat c (409) := by
  have h0 := leNN h
  have h1 := ltN f.k1; have h2 := ltN f.k2; have h3 := ltN f.k3; have h4 := ltN f.k4; have h5 := ltN f.k5
  refine neN ?_; omega
theorem nI1 {w : World} {L : Addr} {d : Dat} {T : List (Addr × Obj)} {c : Nat} (f : Fix w L d T) (h : d.z < c) : @Ne Nat c (409) := nz1 f (Nat.le_of_lt h)
theorem nz2 {w : World} {L : Addr} {d : Dat} {T : List (Addr × Obj)} {c : Nat} (f : Fix w L d T) (h : d.z ≤ c) : @Ne Nat c (d.tin) := by
  have h0 := leNN h
  have h1 := ltN f.k1; have h2 := ltN f.k2; have h3 := ltN f.k3; have h4 := ltN f.k4; have h5 := ltN f.k5
  refine neN ?_; omega
theorem nI2 {w : World} {L : Addr} {d : Dat} {T : List (Addr × Obj)} {c : Nat} (f : Fix w L d T) (h : d.z < c) : @Ne Nat c (d.tin) := nz2 f (Nat.le_of_lt h)
theorem nz3 {w : World} {L : Addr} {d : Dat} {T : List (Addr × Obj)} {c : Nat} (f : Fix w L d T) (h : d.z ≤ c) : @Ne Nat c (L + 1 + 1 + 1) := by
  have h0 := leNN h
  have h1 := ltN f.k1; have h2 := ltN f.k2; have h3 := ltN f.k3; have h4 := ltN f.k4; have h5 := ltN f.k5
  refine neN ?_; omega
theorem nI3 {w : World} {L : Addr} {d : Dat} {T : List (Addr × Obj)} {c : Nat} (f : Fix w L d T) (h : d.z < c) : @Ne Nat c (L + 1 + 1 + 1) := nz3 f (Nat.le_of_lt h)
theorem nz4 {w : World} {L : Addr} {d : Dat} {T : List (Addr × Obj)} {c : Nat} (f : Fix w L d T) (h : d.z ≤ c) : @Ne Nat c (d.M.nl) := by
  have h0 := leNN h
  have h1 := ltN f.k1; have h2 := ltN f.k2; have h3 := ltN f.k3; have h4 := ltN f.k4; have h5 := ltN f.k5
  refine neN ?_; omega
theorem nI4 {w : World} {L : Addr} {d : Dat} {T : List (Addr × Obj)} {c : Nat} (f : Fix w L d T) (h : d.z < c) : @Ne Nat c (d.M.nl) := nz4 f (Nat.le_of_lt h)
theorem nz5 {w : World} {L : Addr} {d : Dat} {T : List (Addr × Obj)} {c : Nat} (f : Fix w L d T) (h : d.z ≤ c) : @Ne Nat c (d.R.nl) := by
  have h0 := leNN h
  have h1 := ltN f.k1; have h2 := ltN f.k2; have h3 := ltN f.k3; have h4 := ltN f.k4; have h5 := ltN f.k5
  refine neN ?_; omega
theorem nI5 {w : World} {L : Addr} {d : Dat} {T : List (Addr × Obj)} {c : Nat} (f : Fix w L d T) (h : d.z < c) : @Ne Nat c (d.R.nl) := nz5 f (Nat.le_of_lt h)
theorem lz1 {w : World} {L : Addr} {d : Dat} {T : List (Addr × Obj)} {c : Nat} (f : Fix w L d T) (h : d.z < c) : @LT.lt Nat _ (409) c := by
  have h0 := ltN h
  have h1 := ltN f.k1; have h2 := ltN f.k2; have h3 := ltN f.k3; have h4 := ltN f.k4; have h5 := ltN f.k5
  refine ltN ?_; omega
theorem lz2 {w : World} {L : Addr} {d : Dat} {T : List (Addr × Obj)} {c : Nat} (f : Fix w L d T) (h : d.z < c) : @LT.lt Nat _ (d.tin) c := by
  have h0 := ltN h
  have h1 := ltN f.k1; have h2 := ltN f.k2; have h3 := ltN f.k3; have h4 := ltN f.k4; have h5 := ltN f.k5
  refine ltN ?_; omega
theorem lz3 {w : World} {L : Addr} {d : Dat} {T : List (Addr × Obj)} {c : Nat} (f : Fix w L d T) (h : d.z < c) : @LT.lt Nat _ (L + 1 + 1 + 1) c := by
  have h0 := ltN h
  have h1 := ltN f.k1; have h2 := ltN f.k2; have h3 := ltN f.k3; have h4 := ltN f.k4; have h5 := ltN f.k5
  refine ltN ?_; omega
theorem lz4 {w : World} {L : Addr} {d : Dat} {T : List (Addr × Obj)} {c : Nat} (f : Fix w L d T) (h : d.z < c) : @LT.lt Nat _ (d.M.nl) c := by
  have h0 := ltN h
  have h1 := ltN f.k1; have h2 := ltN f.k2; have h3 := ltN f.k3; have h4 := ltN f.k4; have h5 := ltN f.k5
  refine ltN ?_; omega
theorem lz5 {w : World} {L : Addr} {d : Dat} {T : List (Addr × Obj)} {c : Nat} (f : Fix w L d T) (h : d.z < c) : @LT.lt Nat _ (d.R.nl) c := by
  have h0 := ltN h
  have h1 := ltN f.k1; have h2 := ltN f.k2; have h3 := ltN f.k3; have h4 := ltN f.k4; have h5 := ltN f.k5
  refine ltN ?_; omega
end
section
theorem mem_tail' {α : Type} {a b : α} {l : List α} (h : a ∈ l) : a ∈ b :: l := List.Mem.tail _ h
def lawStmts : List Stmt := match PySem.Challenge.rw_rh0117_01.prog.main.body.getLast? with
  | some (.FunctionDef _ _ body _ _ _ _ _ _ _) => body
  | _ => []
def lawScope : Scope := match PySem.Challenge.rw_rh0117_01.prog.main.body.getLast? with
  | some (.FunctionDef _ _ _ _ _ _ sc _ _ _) => sc
  | _ => {kind := .function, names := [], isGenerator := false, isCoroutine := false}
def forBody : List Stmt := match lawStmts.drop 9 with
  | .For _ _ b _ _ :: _ => b
  | _ => []
def lawQu (n : Nat) : Str := if n = 287 then "law.<locals>.asked_plainly" else if n = 290 then "law.<locals>.asked_of_machine" else "law.<locals>.<lambda>"
def lawEnv (fa L : Addr) : Env := envOfC (Str.ofString "law") lawScope L fa (.ref 411)
def MM (d : Dat) (hv : Value) (m0 : Str → Option Value) : Str → Option Value := fun y => if y = "tin" then some (.ref d.tin) else if y = "size" then some (.int d.sz d.tS) else if y = "address" then some (.int d.a d.tA) else if y = "held" then some hv else m0 y
theorem MM_pin {d : Dat} {hv : Value} {m : Str → Option Value} (h1 : m "tin" = some (.ref d.tin)) (h2 : m "size" = some (.int d.sz d.tS)) (h3 : m "address" = some (.int d.a d.tA)) (h4 : m "held" = some hv) : m = MM d hv m := by
  funext y
  unfold MM
  split
  · next e => rw [e, h1]
  split
  · next e => rw [e, h2]
  split
  · next e => rw [e, h3]
  split
  · next e => rw [e, h4]
  rfl
def MW (d : Dat) (hv : Value) (r : Int) (tr : Tok) (fp fm : Addr) (m0 : Str → Option Value) : Str → Option Value := fun y => if y = "way" then some (.int r tr) else if y = "asked_plainly" then some (.ref fp) else if y = "asked_of_machine" then some (.ref fm) else MM d hv m0 y
theorem MW_pin {d : Dat} {hv : Value} {r : Int} {tr : Tok} {fp fm : Addr} {m : Str → Option Value} (h1 : m "tin" = some (.ref d.tin)) (h2 : m "size" = some (.int d.sz d.tS)) (h3 : m "address" = some (.int d.a d.tA)) (h4 : m "held" = some hv)
    (h5 : m "way" = some (.int r tr)) (h6 : m "asked_plainly" = some (.ref fp)) (h7 : m "asked_of_machine" = some (.ref fm)) : m = MW d hv r tr fp fm m := by
  funext y
  unfold MW
  split
  · next e => rw [e, h5]
  split
  · next e => rw [e, h6]
  split
  · next e => rw [e, h7]
  exact congrFun (MM_pin h1 h2 h3 h4) y
theorem lb_of {r : Int} (h0 : 0 ≤ r) (h1 : r < 3) : ([10, 20, 30] : List Int).getD r.toNat 0 = 10 ∨ ([10, 20, 30] : List Int).getD r.toNat 0 = 20 ∨ ([10, 20, 30] : List Int).getD r.toNat 0 = 30 := by
  have : r = 0 ∨ r = 1 ∨ r = 2 := by omega
  rcases this with rfl | rfl | rfl
  · exact .inl rfl
  · exact .inr (.inl rfl)
  · exact .inr (.inr rfl)
theorem leN {a b : Nat} (h : a ≤ b) : a ≤ b := h
theorem news_sub {g h : Heap} {L : Addr} {a b : List (Addr × Obj)} (N : News g L h a) (hs : ∀ q ∈ b, q ∈ a) : News g L h b := fun q hq => N q (hs q hq)
theorem hk_two {T : List (Addr × Obj)} {k : Nat → Addr × Obj} {x1 x2 : Addr × Obj} (h : ∀ lc ∈ lawPs, k lc.1 ∈ T) {n1 n2 : Nat} (h1 : x1 ∈ T) (h2 : x2 ∈ T) : ∀ lc ∈ lawPs, (upd (upd k n1 x1) n2 x2) lc.1 ∈ T := fun lc hl => by
  simp only [upd]
  split
  · exact h2
  split
  · exact h1
  exact h lc hl
theorem perm_pre {g h : Heap} {L : Addr} {a b c e x y i t1 t2 t3 t4 t5 : Addr × Obj} {T : List (Addr × Obj)} (N : News g L h (a :: b :: c :: e :: x :: y :: i :: t1 :: t2 :: t3 :: t4 :: t5 :: T)) : News g L h (i :: t1 :: t2 :: t3 :: t4 :: t5 :: a :: b :: c :: e :: T) := by
  refine news_sub N fun q hq => ?_
  simp only [List.mem_cons] at hq ⊢
  grind
theorem code_ne {c' I : Addr} {oc oI : Obj} {x : Addr × Obj} {news T : List (Addr × Obj)} (y : (c', oc) = x ∨ ∀ q ∈ news, q.1 < c') (hx : x ∈ T) (hT : ∀ q ∈ T, q.1 ≠ I) (hI : (I, oI) ∈ news) : c' ≠ I := by
  rcases y with y | y
  · exact hT (c', oc) (y ▸ hx)
  · exact Nat.ne_of_gt (y _ hI)
/-- two flat values that are equal -/
inductive Same : Value → Value → Prop
  | int (x : Int) (t u : Tok) : Same (.int x t) (.int x u)
  | sto (t u : Tok) : Same (.str (Str.ofString "storage") t) (.str (Str.ofString "storage") u)
  | fau (t u : Tok) : Same (.str (Str.ofString "fault") t) (.str (Str.ofString "fault") u)
  | none : Same .none .none
theorem ok_sto : PyData.strOk (Str.ofString "storage") = true := by decide +kernel
theorem ok_fau : PyData.strOk (Str.ofString "fault") = true := by decide +kernel
theorem Same.carried {v u : Value} (x : Same v u) : ∃ dt, Carried v dt ∧ Carried u dt ∧ (∀ y, SeqAt.shaped (.list [y]) = true → SeqAt.shaped (.list [dt, y]) = true) ∧ SeqAt.shaped (.list [dt]) = true ∧ PyData.eqv dt dt = true := by
  cases x with
  | int x t u => exact ⟨.int x, .int _ _, .int _ _, fun y hy => by simpa [SeqAt.shaped, PyData.canLay0, PyData.canLayAll0, PyData.depth, PyData.depthAll] using hy, rfl, by simp [PyData.eqv]⟩
  | sto t u => exact ⟨.str _, .str _ _, .str _ _, fun y hy => by simpa [SeqAt.shaped, PyData.canLay0, PyData.canLayAll0, PyData.depth, PyData.depthAll, ok_sto] using hy, by simp [SeqAt.shaped, PyData.canLay0, PyData.canLayAll0, PyData.depth, PyData.depthAll, ok_sto], by simp [PyData.eqv]⟩
  | fau t u => exact ⟨.str _, .str _ _, .str _ _, fun y hy => by simpa [SeqAt.shaped, PyData.canLay0, PyData.canLayAll0, PyData.depth, PyData.depthAll, ok_fau] using hy, by simp [SeqAt.shaped, PyData.canLay0, PyData.canLayAll0, PyData.depth, PyData.depthAll, ok_fau], by simp [PyData.eqv]⟩
  | none => exact ⟨.none, .none, .none, fun y hy => by simpa [SeqAt.shaped, PyData.canLay0, PyData.canLayAll0, PyData.depth, PyData.depthAll] using hy, rfl, by simp [PyData.eqv]⟩
theorem ne_two {w : World} {A : Around} {g : Heap} {s : Shared} {E : Value → Shared → Prop} {Q : Value → Shared → Prop} {L a b : Addr} {news : List (Addr × Obj)} {v1 v2 u1 u2 : Value} {n1 n2 : Nat} (N : News g L s.heap news) (ha : (a, W.listOf #[v1, v2] n1) ∈ news) (hb : (b, W.listOf #[u1, u2] n2) ∈ news)
    (h1 : Same v1 u1) (h2 : Same v2 u2) (hu : A.units + 64 < cLine) (q : Q (.bool false) s) : wpAny (model PG w) A (compareOp .NotEq (.ref a) (.ref b)) Q E s := by
  obtain ⟨x1, a1, b1, c1, d1, e1⟩ := h1.carried
  obtain ⟨x2, a2, b2, c2, d2, e2⟩ := h2.carried
  refine ne_dataH (da := .list [x1, x2]) (db := .list [x1, x2]) (reads_newData (ys := [v1, v2]) (News.isList N ha) (.cons a1 (.cons a2 .nil))) (reads_newData (ys := [u1, u2]) (News.isList N hb) (.cons b1 (.cons b2 .nil))) (c1 _ d2) (c1 _ d2) hu ?_
  simpa [PyData.eqv, PyData.eqvAll, e1, e2] using q
theorem fr_MW {g h : Heap} {L : Addr} {d : Dat} {hv : Value} {r : Int} {tr : Tok} {fp fm : Addr} {m : Str → Option Value} (F : Fr g L h m) (h1 : m "tin" = some (.ref d.tin)) (h2 : m "size" = some (.int d.sz d.tS)) (h3 : m "address" = some (.int d.a d.tA)) (h4 : m "held" = some hv)
    (h5 : m "way" = some (.int r tr)) (h6 : m "asked_plainly" = some (.ref fp)) (h7 : m "asked_of_machine" = some (.ref fm)) : Fr g L h (MW d hv r tr fp fm m) := MW_pin h1 h2 h3 h4 h5 h6 h7 ▸ F
def MH (d : Dat) (hv : Value) (hl dl : Addr) (m0 : Str → Option Value) : Str → Option Value := fun y => if y = "heard" then some (.ref hl) else if y = "due" then some (.ref dl) else MM d hv m0 y
theorem fr_MH {g h : Heap} {L : Addr} {d : Dat} {hv : Value} {hl dl : Addr} {m : Str → Option Value} (F : Fr g L h m) (h1 : m "tin" = some (.ref d.tin)) (h2 : m "size" = some (.int d.sz d.tS)) (h3 : m "address" = some (.int d.a d.tA)) (h4 : m "held" = some hv)
    (h5 : m "heard" = some (.ref hl)) (h6 : m "due" = some (.ref dl)) : Fr g L h (fun (y : Str) => if y = "heard" then some (.ref hl) else if y = "due" then some (.ref dl) else MM d hv m y) := by
  have : m = fun (y : Str) => if y = "heard" then some (.ref hl) else if y = "due" then some (.ref dl) else MM d hv m y := by
    funext y
    split
    · next e => rw [e, h5]
    split
    · next e => rw [e, h6]
    exact congrFun (MM_pin h1 h2 h3 h4) y
  exact this ▸ F
theorem perm_any {g h : Heap} {L : Addr} {front T : List (Addr × Obj)} {i t1 t2 t3 t4 t5 : Addr × Obj} (N : News g L h (front ++ i :: t1 :: t2 :: t3 :: t4 :: t5 :: T)) : News g L h (i :: t1 :: t2 :: t3 :: t4 :: t5 :: (front ++ T)) := by
  refine news_sub N fun q hq => ?_
  simp only [List.mem_cons, List.mem_append] at hq ⊢
  grind
theorem hk_one {T : List (Addr × Obj)} {k : Nat → Addr × Obj} {x1 : Addr × Obj} (h : ∀ lc ∈ lawPs, k lc.1 ∈ T) {n1 : Nat} (h1 : x1 ∈ T) : ∀ lc ∈ lawPs, (upd k n1 x1) lc.1 ∈ T := fun lc hl => by
  simp only [upd]
  split
  · exact h1
  exact h lc hl
end
section
/-- what one of the two holds at the place -/
structure Con (d : Dat) (T : List (Addr × Obj)) (us : List Value) (c : Cel) : Prop where
  len : us.length = d.sz.toNat
  is : ∃ v r or, (r, or) ∈ T ∧ CelIs v r or c ∧ (d.a < us.length → us[d.a.toNat]? = some v)
/-- what the law's name held tells of it -/
inductive Held (d : Dat) : Value → Cel → Prop
  | no : Held d .none .no
  | lab (x : Int) (t : Tok) (h : x = 10 ∨ x = 20 ∨ x = 30) (hl : d.a < d.sz) : Held d (.int x t) (.lab x)
  | num (x : Int) (t : Tok) (h : x = 10 ∨ x = 20 ∨ x = 30) (hl : d.a < d.sz) : Held d (.int (-x) t) (.num x)
abbrev lstO (od : Option Addr) (us : List Value) (n : Nat) (sl : Array (Option Value)) : Obj := ⟨.type "list", od, .seq us.toArray n, sl⟩
/-- the state between the turns -/
def Jt (w : World) (L : Addr) (d : Dat) (m : Str → Option Value) (nx : List (Addr × Obj)) : Prop :=
  ∃ (T : List (Addr × Obj)) (ps : Array Value) (kk : Nat → Addr × Obj) (cnt : Int) (tc : Tok) (oLab : Obj) (lv : Option Value) (odM odR : Option Addr) (usM usR : List Value) (nM nR : Nat) (slM slR : Array (Option Value)) (hv : Value) (c : Cel),
    nx = (409, tabObj ps) :: (d.tin, listOf #[.ref d.sc, .int cnt tc] d.n1) :: (L + 1 + 1 + 1, oLab) :: (d.M.nl, lstO odM usM nM slM) :: (d.R.nl, lstO odR usR nR slR) :: T ∧
    m "tin" = some (.ref d.tin) ∧ m "size" = some (.int d.sz d.tS) ∧ m "address" = some (.int d.a d.tA) ∧ m "held" = some hv ∧
    Fix w L d T ∧ (∀ lc ∈ lawPs, kk lc.1 ∈ T) ∧ TabOk d.z lawQu ps kk ∧ 0 ≤ cnt ∧ oLab.data = .cell lv ∧ Con d T usM c ∧ Con d T usR c ∧ Held d hv c
theorem Con.more {d : Dat} {T T' : List (Addr × Obj)} {us : List Value} {c : Cel} (x : Con d T us c) (h : ∀ q ∈ T, q ∈ T') : Con d T' us c := by
  obtain ⟨l, v, r, or, a, b, e⟩ := x
  exact ⟨l, v, r, or, h _ a, b, e⟩
theorem con_set {d : Dat} {T T' : List (Addr × Obj)} {us : List Value} {c0 c : Cel} {r : Addr} {or : Obj} (x : Con d T us c0) (hr : (r, or) ∈ T') (hc : CelIs (.ref r) r or c) (h0 : 0 ≤ d.a) : Con d T' (us.set d.a.toNat (.ref r)) c :=
  ⟨by rw [List.length_set]; exact x.len, .ref r, r, or, hr, hc, fun h => by
    rw [List.length_set] at h
    rw [List.getElem?_set_self (by omega)]⟩
theorem con_undef {d : Dat} {T T' : List (Addr × Obj)} {us : List Value} {c0 : Cel} {r : Addr} {or : Obj} (x : Con d T us c0) (hr : (r, or) ∈ T') (h0 : 0 ≤ d.a) : Con d T' (us.set d.a.toNat .none) .no :=
  ⟨by rw [List.length_set]; exact x.len, .none, r, or, hr, rfl, fun h => by
    rw [List.length_set] at h
    rw [List.getElem?_set_self (by omega)]⟩
theorem held_no {d : Dat} {hv : Value} {c : Cel} (h : ¬ d.a < d.sz) (x : Held d hv c) : hv = .none ∧ c = .no := by
  cases x with
  | no => exact ⟨rfl, rfl⟩
  | lab x t _ hl => exact absurd hl h
  | num x t _ hl => exact absurd hl h
inductive AskPV (lt : Prop) : Cel → Value → Prop
  | sto (c : Cel) (t : Tok) (h : ¬ lt) : AskPV lt c (.str (Str.ofString "storage") t)
  | ok (x : Int) (t : Tok) (h : lt) : AskPV lt (.lab x) (.int x t)
  | no (t : Tok) (h : lt) : AskPV lt .no (.str (Str.ofString "fault") t)
  | num (x : Int) (t : Tok) (h : lt) : AskPV lt (.num x) (.str (Str.ofString "fault") t)
inductive AskMV (lt : Prop) : Cel → Value → Prop
  | sto (c : Cel) (t : Tok) (h : ¬ lt) : AskMV lt c (.str (Str.ofString "storage") t)
  | ok1 (t : Tok) (h : lt) : AskMV lt (.lab 10) (.int 7 t)
  | ok2 (t : Tok) (h : lt) : AskMV lt (.lab 20) (.int 9 t)
  | lab (x : Int) (t : Tok) (h : lt) (h1 : x ≠ 10) (h2 : x ≠ 20) : AskMV lt (.lab x) (.str (Str.ofString "fault") t)
  | no (t : Tok) (h : lt) : AskMV lt .no (.str (Str.ofString "fault") t)
  | num (x : Int) (t : Tok) (h : lt) : AskMV lt (.num x) (.str (Str.ofString "fault") t)
inductive LoadV (lt : Prop) : Cel → Value → Prop
  | sto (c : Cel) (t : Tok) (h : ¬ lt) : LoadV lt c (.str (Str.ofString "storage") t)
  | ok (x : Int) (t : Tok) (h : lt) : LoadV lt (.num x) (.int x t)
  | no (t : Tok) (h : lt) : LoadV lt .no (.str (Str.ofString "fault") t)
  | lab (x : Int) (t : Tok) (h : lt) : LoadV lt (.lab x) (.str (Str.ofString "fault") t)
theorem Con.lt {T : List (Addr × Obj)} {d : Dat} {us : List Value} {c : Cel} (x : Con d T us c) (s0 : 1 ≤ d.sz) : d.a < us.length ↔ d.a < d.sz := by have := x.len; omega
theorem v_askp {w : World} {A : Around} {g base : Heap} {p : Program} {lo : List Str} {mean : ExcName → Option Value} {mg mb : Str → Option Value} {s : Shared} {E Q : Value → Shared → Prop} {L : Addr} {m : Str → Option Value} {news T : List (Addr × Obj)} {env : Env} {d : Dat} {us : List Value} {n3 : Nat} {od : Option Addr} {sl : Array (Option Value)} {fn : Addr} {c : Cel} (f : Fix w L d T) (ta : At w A base g p lo mean mg mb L env) (F : Fr g L s.heap m) (N : News g L s.heap news) (hT : ∀ q ∈ T, q ∈ news) (aP : AskP L fn T) (cR : Con d T us c) (hnl : (d.R.nl, lstO od us n3 sl) ∈ news)
    (q : ∀ v h' tk, AskPV (d.a < d.sz) c v → Fr g L h' m → News g L h' news → Q v { s with heap := h', toks := tk }) :
    wpAny (model PG w) (A.deeper env) (call (.ref 407) [.ref fn] []) Q E s := by
  obtain ⟨_, _, _, _, _, _, _, _, _, _, _, _, a1, a2, a3⟩ := aP
  have hlt := cR.lt f.s0
  have hl := cR.len
  have s1 := f.s1
  obtain ⟨_, v, r, or, b1, b2, b3⟩ := cR
  refine w_askp (f := f) (ta := ta) (F := F) (N := N) (hT := hT) (hnl := hnl) (hr := hT _ b1) (hv := b3) (hc := b2) (ho := hT _ a1) (hce := hT _ a2) (hcode := a3) (hlen := by omega) (qo := fun hq x t h' tk e F' N' => ?_) (qb := fun hq h' tk tk' F' N' => ?_) (qf := fun hq hy h' tk tk' F' N' => ?_)
  · subst e; exact q _ _ _ (.ok _ _ (hlt.mp hq)) F' N'
  · exact q _ _ _ (.sto _ _ (fun z => hq (hlt.mpr z))) F' N'
  · cases c with
    | no => exact q _ _ _ (.no _ (hlt.mp hq)) F' N'
    | num x => exact q _ _ _ (.num _ _ (hlt.mp hq)) F' N'
    | lab x => exact absurd rfl (hy x)
theorem v_askm {w : World} {A : Around} {g base : Heap} {p : Program} {lo : List Str} {mean : ExcName → Option Value} {mg mb : Str → Option Value} {s : Shared} {E Q : Value → Shared → Prop} {L : Addr} {m : Str → Option Value} {news T : List (Addr × Obj)} {env : Env} {d : Dat} {us : List Value} {n3 : Nat} {od : Option Addr} {sl : Array (Option Value)} {fn : Addr} {c : Cel} (f : Fix w L d T) (ta : At w A base g p lo mean mg mb L env) (F : Fr g L s.heap m) (N : News g L s.heap news) (hT : ∀ q ∈ T, q ∈ news) (aM : AskM L fn T) (cM : Con d T us c) (hnl : (d.M.nl, lstO od us n3 sl) ∈ news)
    (q : ∀ v h' tk, AskMV (d.a < d.sz) c v → Fr g L h' m → News g L h' news → Q v { s with heap := h', toks := tk }) :
    wpAny (model PG w) (A.deeper env) (call (.ref 407) [.ref fn] []) Q E s := by
  obtain ⟨_, _, _, _, _, _, _, _, _, _, _, _, _, _, _, _, _, a1, a2, a3⟩ := aM
  have hlt := cM.lt f.s0
  have hl := cM.len
  have s1 := f.s1
  obtain ⟨_, v, r, or, b1, b2, b3⟩ := cM
  refine w_askm (f := f) (ta := ta) (F := F) (N := N) (hT := hT) (hnl := hnl) (hr := hT _ b1) (hv := b3) (hc := b2) (ho := hT _ a1) (hce := hT _ a2) (hcode := a3) (hlen := by omega) (qo := fun hq x y t h' tk e hy F' N' => ?_) (qb := fun hq h' tk tk' F' N' => ?_) (qf := fun hq hy h' tk tk' F' N' => ?_)
  · subst e
    rcases hy with ⟨rfl, rfl⟩ | ⟨rfl, rfl⟩
    · exact q _ _ _ (.ok1 _ (hlt.mp hq)) F' N'
    · exact q _ _ _ (.ok2 _ (hlt.mp hq)) F' N'
  · exact q _ _ _ (.sto _ _ (fun z => hq (hlt.mpr z))) F' N'
  · cases c with
    | no => exact q _ _ _ (.no _ (hlt.mp hq)) F' N'
    | num x => exact q _ _ _ (.num _ _ (hlt.mp hq)) F' N'
    | lab x =>
      rcases hy with hy | ⟨y, e, h1, h2⟩
      · exact absurd rfl (hy x)
      · cases e; exact q _ _ _ (.lab _ _ (hlt.mp hq) h1 h2) F' N'
theorem AskPV.at_no {lt : Prop} {v : Value} (x : AskPV lt Cel.no v) (h : lt) : ∃ t, v = .str (Str.ofString "fault") t := by
  generalize hc : Cel.no = c at x
  cases x <;> simp_all
theorem AskPV.bad {lt : Prop} {v : Value} {c : Cel} (x : AskPV lt c v) (h : ¬ lt) : ∃ t, v = .str (Str.ofString "storage") t := by
  cases x <;> first | exact ⟨_, rfl⟩ | contradiction
theorem AskMV.at_no {lt : Prop} {v : Value} (x : AskMV lt Cel.no v) (h : lt) : ∃ t, v = .str (Str.ofString "fault") t := by
  generalize hc : Cel.no = c at x
  cases x <;> simp_all
theorem AskMV.bad {lt : Prop} {v : Value} {c : Cel} (x : AskMV lt c v) (h : ¬ lt) : ∃ t, v = .str (Str.ofString "storage") t := by
  cases x <;> first | exact ⟨_, rfl⟩ | contradiction
theorem LoadV.at_no {lt : Prop} {v : Value} (x : LoadV lt Cel.no v) (h : lt) : ∃ t, v = .str (Str.ofString "fault") t := by
  generalize hc : Cel.no = c at x
  cases x <;> simp_all
theorem LoadV.bad {lt : Prop} {v : Value} {c : Cel} (x : LoadV lt c v) (h : ¬ lt) : ∃ t, v = .str (Str.ofString "storage") t := by
  cases x <;> first | exact ⟨_, rfl⟩ | contradiction
theorem AskPV.at_num {lt : Prop} {v : Value} {y : Int} (x : AskPV lt (Cel.num y) v) (h : lt) : ∃ t, v = .str (Str.ofString "fault") t := by
  generalize hc : (Cel.num y) = c at x
  cases x <;> simp_all
theorem AskMV.at_num {lt : Prop} {v : Value} {y : Int} (x : AskMV lt (Cel.num y) v) (h : lt) : ∃ t, v = .str (Str.ofString "fault") t := by
  generalize hc : (Cel.num y) = c at x
  cases x <;> simp_all
theorem LoadV.at_num {lt : Prop} {v : Value} {y : Int} (x : LoadV lt (Cel.num y) v) (h : lt) : ∃ t, v = .int y t := by
  generalize hc : (Cel.num y) = c at x
  cases x <;> simp_all
theorem AskPV.at_lab {lt : Prop} {v : Value} {y : Int} (x : AskPV lt (Cel.lab y) v) (h : lt) : ∃ t, v = .int y t := by
  generalize hc : (Cel.lab y) = c at x
  cases x <;> simp_all
theorem LoadV.at_lab {lt : Prop} {v : Value} {y : Int} (x : LoadV lt (Cel.lab y) v) (h : lt) : ∃ t, v = .str (Str.ofString "fault") t := by
  generalize hc : (Cel.lab y) = c at x
  cases x <;> simp_all
theorem AskMV.at_10 {lt : Prop} {v : Value} (x : AskMV lt (Cel.lab 10) v) (h : lt) : ∃ t, v = .int 7 t := by
  generalize hc : (Cel.lab 10) = c at x
  cases x <;> simp_all
theorem AskMV.at_20 {lt : Prop} {v : Value} (x : AskMV lt (Cel.lab 20) v) (h : lt) : ∃ t, v = .int 9 t := by
  generalize hc : (Cel.lab 20) = c at x
  cases x <;> simp_all
theorem AskMV.at_30 {lt : Prop} {v : Value} (x : AskMV lt (Cel.lab 30) v) (h : lt) : ∃ t, v = .str (Str.ofString "fault") t := by
  generalize hc : (Cel.lab 30) = c at x
  cases x <;> simp_all
def wayBody : Nat → List Stmt → List Stmt
  | 0, .If _ b _ _ :: _ => b
  | 0, l => l
  | n + 1, .If _ _ o _ :: _ => wayBody n o
  | _, _ => []
def compElt (k : Nat) : Expr := match wayBody k (forBody.drop 3) with
  | .Assign _ (.ListComp e _ _ _) _ :: _ => e
  | _ => .Constant .none 0 ⟨0, 0, 0, 0⟩
def compScope (k : Nat) : Scope := match wayBody k (forBody.drop 3) with
  | .Assign _ (.ListComp _ _ sc _) _ :: _ => sc
  | _ => {kind := .function, names := [], isGenerator := false, isCoroutine := false}
/-- the ledger of a turn, canonical -/
def CRel (w : World) (L : Addr) (d : Dat) (I : Addr) (oI : Obj) (cnt : Int) (tc : Tok) (oLab : Obj) (T0 : List (Addr × Obj)) (cR cM : Cel) (nw : List (Addr × Obj)) : Prop :=
  ∃ (T : List (Addr × Obj)) (ps : Array Value) (kk : Nat → Addr × Obj) (odM odR : Option Addr) (usM usR : List Value) (nM nR : Nat) (slM slR : Array (Option Value)),
    nw = (I, oI) :: (409, tabObj ps) :: (d.tin, listOf #[.ref d.sc, .int cnt tc] d.n1) :: (L + 1 + 1 + 1, oLab) :: (d.M.nl, lstO odM usM nM slM) :: (d.R.nl, lstO odR usR nR slR) :: T ∧
    Fix w L d T ∧ (∀ q ∈ T0, q ∈ T) ∧ (∀ q ∈ T, q.1 ≠ I) ∧ (∀ lc ∈ lawPs, kk lc.1 ∈ T) ∧ TabOk d.z lawQu ps kk ∧ Con d T usM cM ∧ Con d T usR cR
inductive PutV (lt : Prop) : Value → Prop
  | sto (t : Tok) (h : ¬ lt) : PutV lt (.str (Str.ofString "storage") t)
  | ok (h : lt) : PutV lt .none
theorem PutV.bad {lt : Prop} {v : Value} (x : PutV lt v) (h : ¬ lt) : ∃ t, v = .str (Str.ofString "storage") t := by
  cases x <;> first | exact ⟨_, rfl⟩ | contradiction
theorem PutV.good {lt : Prop} {v : Value} (x : PutV lt v) (h : lt) : v = .none := by
  cases x <;> first | rfl | contradiction
theorem orN {a b c d : Nat} (h : a < b ∨ c < d) : a < b ∨ c < d := h
theorem code_lt {c' I cc : Addr} {oc oO : Obj} {x : Addr × Obj} {news T : List (Addr × Obj)} (y : (c', oc) = x ∨ ∀ q ∈ news, q.1 < c') (hx : x ∈ T) (hT : ∀ q ∈ T, q.1 < I ∨ cc < q.1) (hI : (cc, oO) ∈ news) : c' < I ∨ cc < c' := by
  rcases y with y | y
  · exact hT (c', oc) (y ▸ hx)
  · exact .inr (y _ hI)
theorem v_load {w : World} {A : Around} {g base : Heap} {p : Program} {lo : List Str} {mean : ExcName → Option Value} {mg mb : Str → Option Value} {s : Shared} {E Q : Value → Shared → Prop} {L : Addr} {m : Str → Option Value} {news T : List (Addr × Obj)} {env : Env} {d : Dat} {us : List Value} {n3 : Nat} {od : Option Addr} {sl : Array (Option Value)} {fn : Addr} {c : Cel} {S : Side} {qual : Str} {pm ct : Value} {c' : Addr} {oc : Obj} {cOne : Addr} {oOne : Obj} {p1 p2 p4 : Pos} {i1 i2 i3 i4 i5 i6 : Nat} (f : Fix w L d T) (so : SideOk L S T) (hC : S.C = 314 ∨ S.C = 267) (ta : At w A base g p lo mean mg mb L env) (F : Fr g L s.heap m) (N : News g L s.heap news) (hT : ∀ q ∈ T, q ∈ news) (hone : (cOne, oOne) ∈ news) (hOne : oOne.data = .cell (some (.ref S.one))) (co : Con d T us c) (hnl : (S.nl, lstO od us n3 sl) ∈ news)
    (ho : (fn, (kla_obj "<lambda>" qual { posonlyargs := [], args := [], vararg := none, kwonlyargs := [], kw_defaults := [], kwarg := none, defaults := [] }
      (.Call (.Attribute (.Attribute (.Name (Str.ofString "one") p1) (Str.ofString "memory") p2) (Str.ofString "load") ⟨i1, i2, 313, i3⟩) [.Name (Str.ofString "place") p4] [] ⟨313, i4, i5, i6⟩)
      { kind := .function, names := [(Str.ofString "one", .free), (Str.ofString "place", .free)], isGenerator := false, isCoroutine := false } [(Str.ofString "place", L + 1 + 1 + 1 + 1 + 1), (Str.ofString "one", cOne)] pm c' ct)) ∈ news) (hce : (c', oc) ∈ news) (hcode : ∃ vs t, oc.data = .fields vs ∧ vs[1]? = some (.str qual t)) 
    (q : ∀ v h' tk, LoadV (d.a < d.sz) c v → Fr g L h' m → News g L h' news → Q v { s with heap := h', toks := tk }) :
    wpAny (model PG w) (A.deeper env) (call (.ref 407) [.ref fn] []) Q E s := by
  have hlt := co.lt f.s0
  have hl := co.len
  have s1 := f.s1
  obtain ⟨_, v, r, or, b1, b2, b3⟩ := co
  refine w_load (f := f) (so := so) (hC := hC) (ta := ta) (F := F) (N := N) (hT := hT) (hone := hone) (hOne := hOne) (hnl := hnl) (hr := hT _ b1) (hv := b3) (hc := b2) (ho := ho) (hce := hce) (hcode := hcode) (hlen := by omega) (qo := fun hq x t h' tk e F' N' => ?_) (qb := fun hq h' tk tk' F' N' => ?_) (qf := fun hq hy h' tk tk' F' N' => ?_)
  · subst e; exact q _ _ _ (.ok _ _ (hlt.mp hq)) F' N'
  · exact q _ _ _ (.sto _ _ (fun z => hq (hlt.mpr z))) F' N'
  · cases c with
    | no => exact q _ _ _ (.no _ (hlt.mp hq)) F' N'
    | lab x => exact q _ _ _ (.lab _ _ (hlt.mp hq)) F' N'
    | num x => exact absurd rfl (hy x)
theorem perm_c {g h : Heap} {L : Addr} {front T : List (Addr × Obj)} {c1 c2 c3 c4 i t1 t2 t3 t4 t5 : Addr × Obj} (N : News g L h (front ++ c1 :: c2 :: c3 :: c4 :: i :: t1 :: t2 :: t3 :: t4 :: t5 :: T)) : News g L h (c1 :: c2 :: c3 :: c4 :: i :: t1 :: t2 :: t3 :: t4 :: t5 :: (front ++ T)) := by
  refine news_sub N fun q hq => ?_
  simp only [List.mem_cons, List.mem_append] at hq ⊢
  grind
end
section
/-- a list made of two items, the name of the turn captured by what the items make -/
theorem comp2u {w : World} {A : Around} {g : Heap} {s : Shared} {E : Value → Shared → Prop} {L : Addr} {m : Str → Option Value} {news : List (Addr × Obj)} {env : Env} {x y : Str} {py : Pos} {Q0 : Flow → Shared → Prop} {elt iter : Expr} {px pos : Pos} {scope : Scope} {cl : List (Str × Addr)} {a1 a2 T : Addr} {nT : Nat} {R1 : Value → List (Addr × Obj) → Prop} {R2 : Value → Value → List (Addr × Obj) → Prop}
    (hL : env.locals = L) (hy : env.kindOf y = some .local) (hpp : (env.scope.kind == .class || (env.scope.kind == .module && env.locals != env.globals)) = false) (hA : A.handled = none) (F : Fr g L s.heap m) (N : News g L s.heap news) (hT : (T, tupOf [.ref a1, .ref a2] nT) ∈ news)
    (hk : scope.kind = .function) (hx : ∀ C c, (compEnvC scope ((x, c) :: cl) C env).kindOf x = some .cell) (hcf : ∀ k, cellsFrom k scope.names cl = (x, k) :: cl) (hpc : ∀ h, pushCells h scope.names = h.push { cls := .type "cell", data := .cell none })
    (step1 : ∀ I D C c oI oD oC oO h tk (Q1 : Value → Shared → Prop) (E1 : Value → Shared → Prop), I < D → D < C → C < c → (∀ p ∈ news, p.1 < I) → oO.data = .cell (some (.ref a1)) → Fr g L h m → News g L h ((c, oO) :: (I, oI) :: (D, oD) :: (C, oC) :: news) →
      (∀ v news' h' tk', R1 v news' → (∀ p ∈ news', p.1 < I ∨ c < p.1) → (T, tupOf [.ref a1, .ref a2] nT) ∈ news' → Fr g L h' m → News g L h' ((c, oO) :: (I, oI) :: (D, oD) :: (C, oC) :: news') → Q1 v { s with heap := h', toks := tk' }) →
      wpAny (model PG w) A (eval elt (compEnvC scope ((x, c) :: cl) C env)) Q1 E1 { s with heap := h, toks := tk })
    (step2 : ∀ v1 news1, R1 v1 news1 → ∀ I D C c oI oD oC oO h tk (Q1 : Value → Shared → Prop) (E1 : Value → Shared → Prop), I < D → D < C → C < c → (∀ p ∈ news, p.1 < I) → (∀ p ∈ news1, p.1 < I ∨ c < p.1) → oO.data = .cell (some (.ref a2)) → Fr g L h m → News g L h ((c, oO) :: (I, oI) :: (D, oD) :: (C, oC) :: news1) →
      (∀ v news' h' tk', R2 v1 v news' → (∀ p ∈ news', p.1 < I ∨ c < p.1) → (T, tupOf [.ref a1, .ref a2] nT) ∈ news' → Fr g L h' m → News g L h' ((c, oO) :: (I, oI) :: (D, oD) :: (C, oC) :: news') → Q1 v { s with heap := h', toks := tk' }) →
      wpAny (model PG w) A (eval elt (compEnvC scope ((x, c) :: cl) C env)) Q1 E1 { s with heap := h, toks := tk })
    (q : ∀ v1 v2 news2 D nD h tk, R2 v1 v2 news2 → (∀ p ∈ news2, p.1 ≠ D) → (∀ p ∈ news, p.1 < D) → Fr g L h (fun z => if z = y then some (.ref D) else m z) → News g L h ((D, listOf #[v1, v2] nD) :: news2) → Q0 .next { s with heap := h, toks := tk }) :
    wpAny (model PG w) A (pyIter (.ref T)) (fun it s₂ => wpAny (model PG w) A (newList []) (fun acc s₃ =>
      wpAny (model PG w) A (newFunctionEnv scope env.globals cl [] env.qual none .none (some env)) (fun cenv s₄ =>
        codeAny (model PG w) A (.compStart (.ListComp elt [⟨.Name x px, iter, [], 0⟩] scope pos) 0 it acc { cenv with scope := relabel scope env }) (compPost (model PG w) A E (some (assign (.Name y py) env)) (fun _ s' => Q0 .next s') acc cenv.locals) s₄) E s₃) E s₂) E s := by
  refine wpAny_pyIter_tuple (items := #[.ref a1, .ref a2]) ⟨_, (N _ hT).1, rfl, nT, rfl⟩ ?_
  have F1 := F.push { cls := .type "tuple_iterator", data := .fields #[.ref T, .int 0 0] }
  have N1 := N.push F { cls := .type "tuple_iterator", data := .fields #[.ref T, .int 0 0] }
  have lt1 : ∀ p ∈ news, p.1 < s.heap.objs.size := fun p hp => Heap.lt_size (N p hp).1
  generalize hI : s.heap.objs.size = I at F1 N1 lt1 ⊢
  generalize hH1 : s.heap.push { cls := .type "tuple_iterator", data := .fields #[.ref T, .int 0 0] } = H1 at F1 N1 ⊢
  have z1 : H1.objs.size = I + 1 := by rw [← hH1, Heap.size_push, hI]
  refine newList_K F1 N1 (fun D H2 F2 N2 lt2 => ?_) (by decide)
  have hID : I < D := lt2 _ (.head _)
  unfold newFunctionEnv
  refine wpAny_bind (wpAny_alloc ?_)
  refine wpAny_bind (wpAny_layCells _ (fun name kind cells => by cases hkc : kind == NameKind.cell <;> simp [hkc]) _ _ _ _ ?_)
  rw [hcf, hpc]
  refine wpAny_bind (wpAny_pure (wpAny_pure ?_))
  show codeAny (model PG w) A (.compStart _ 0 (.ref I) (.ref D) (compEnvC scope ((x, (H2.push { cls := .type "dict", data := .dict #[] }).objs.size) :: cl) H2.objs.size env)) (compPost (model PG w) A E (some (assign (.Name y py) env)) (fun _ s' => Q0 .next s') (.ref D) H2.objs.size) { s with heap := (H2.push { cls := .type "dict", data := .dict #[] }).push { cls := .type "cell", data := .cell none } }
  have F3 := F2.push { cls := .type "dict", data := .dict #[] }
  have N3 := N2.push F2 { cls := .type "dict", data := .dict #[] }
  have hDC : D < H2.objs.size := Heap.lt_size (N2 _ (.head _)).1
  generalize hC : H2.objs.size = C at F3 N3 hDC ⊢
  generalize hH3 : H2.push { cls := .type "dict", data := .dict #[] } = H3 at F3 N3 ⊢
  have z3 : H3.objs.size = C + 1 := by rw [← hH3, Heap.size_push, hC]
  have F4 := F3.push { cls := .type "cell", data := .cell none }
  have N4 := N3.push F3 { cls := .type "cell", data := .cell none }
  have hCc : C < H3.objs.size := by rw [z3]; exact Nat.lt_succ_self _
  generalize hc : H3.objs.size = c at F4 N4 hCc ⊢
  generalize hH4 : H3.push { cls := .type "cell", data := .cell none } = H4 at F4 N4 ⊢
  have e3 : ({ s with heap := H3 } : Shared).heap.objs.size = c := hc
  -- the state between the turns
  let St : Nat → Shared → Prop := fun n s' => ∃ h tk oI oO oC its nD nw, s' = { s with heap := h, toks := tk } ∧ Fr g L h m ∧ oI.cls = .type "tuple_iterator" ∧ oI.data = .fields #[.ref T, .int ((2 - n : Nat) : Int) 0] ∧ (∃ v, oO.data = .cell v) ∧ oC = ({ cls := .type "dict", data := .dict #[] } : Obj) ∧
    News g L h ((c, oO) :: (I, oI) :: (D, listOf its nD) :: (C, oC) :: nw) ∧ (T, tupOf [.ref a1, .ref a2] nT) ∈ nw ∧ (∀ p ∈ nw, p.1 < I ∨ c < p.1) ∧
    ((n = 2 ∧ its = #[] ∧ nw = news) ∨ (n = 1 ∧ ∃ v1, its = #[v1] ∧ R1 v1 nw) ∨ (n = 0 ∧ ∃ v1 v2, its = #[v1, v2] ∧ R2 v1 v2 nw))
  have swap : ∀ {h oO oI lD oC nw}, News g L h ((c, oO) :: (C, oC) :: (D, lD) :: (I, oI) :: nw) → News g L h ((c, oO) :: (I, oI) :: (D, lD) :: (C, oC) :: nw) := fun N p hp => N p (by
    simp only [List.mem_cons] at hp ⊢
    rcases hp with h | h | h | h | h <;> simp [h])
  have start : ∀ s', s' = { s with heap := H4 } → codeAny (model PG w) A (.compLoop (.ListComp elt [⟨.Name x px, iter, [], 0⟩] scope pos) 0 (.ref I) (.ref D) (compEnvC scope ((x, c) :: cl) C env)) (compPost (model PG w) A E (some (assign (.Name y py) env)) (fun _ s' => Q0 .next s') (.ref D) C) s' := by
    rintro s' rfl
    refine codeAny_compLoop_list St ?_ 2 ⟨H4, s.toks, _, _, _, #[], 0, news, rfl, F4, rfl, rfl, ⟨_, rfl⟩, rfl, swap N4, hT, fun p hp => .inl (lt1 p hp), .inl ⟨rfl, rfl, rfl⟩⟩
    rintro n s' ⟨h, tk, oI, oO, oC, its, nD, nw, rfl, F', hI1, hI2, ⟨vO, hO⟩, rfl, N', hT', hap, hst⟩
    have hTI : h.IsTuple T #[.ref a1, .ref a2] := ⟨_, (N' _ (.tail _ (.tail _ (.tail _ (.tail _ hT'))))).1, rfl, nT, rfl⟩
    have hII : h.IsTupleIter I T (2 - n) := ⟨oI, (N' (I, oI) (.tail _ (.head _))).1, hI1, hI2⟩
    have hIc : I < c := Nat.lt_trans hID (Nat.lt_trans hDC hCc)
    have hDc : D < c := Nat.lt_trans hDC hCc
    have neIc : I ≠ c := Nat.ne_of_lt hIc
    have neID : I ≠ D := Nat.ne_of_lt hID
    have neIC : I ≠ C := Nat.ne_of_lt (Nat.lt_trans hID hDC)
    have neDC : D ≠ C := Nat.ne_of_lt hDC
    have neDc : D ≠ c := Nat.ne_of_lt hDc
    have neCc : C ≠ c := Nat.ne_of_lt hCc
    rcases hst with ⟨rfl, rfl, rfl⟩ | ⟨rfl, v1, rfl, hr1⟩ | ⟨rfl, v1, v2, rfl, hr2⟩
    · refine wpAny_pyNext_tuple_item hII hTI (x := .ref a1) rfl fun h1 hit1 hs1 => ?_
      obtain ⟨oI1, hgI1, hcI1, hdI1⟩ := hit1
      have N1' : News g L h1 ((c, oO) :: (I, oI1) :: (D, _) :: (C, _) :: nw) := News.setAt (own := [(c, oO)]) N' (by simp only [List.mem_singleton, forall_eq]; exact neIc.symm) (by
        intro p hp
        simp only [List.mem_cons] at hp
        rcases hp with rfl | rfl | hp
        · exact neID.symm
        · exact neIC.symm
        · exact apart_of hap (Nat.le_refl _) (Nat.le_of_lt hIc) p hp) hs1 hgI1
      have F1' := fr_same F' hs1 (N' (I, oI) (.tail _ (.head _))).2.1 (N' (I, oI) (.tail _ (.head _))).2.2
      dsimp only
      refine wpAny_assign_Name (wpAny_storeName_cell (c := c) hk (hx C c) (by show List.lookup x ((x, c) :: cl) = some c; simp) ⟨oO, (N1' _ (.head _)).1, hO⟩ fun h2 hv2 hs2 => ?_)
      obtain ⟨oO2, hgO2, hdO2⟩ := hv2
      have N2' : News g L h2 ((c, oO2) :: (I, oI1) :: (D, _) :: (C, _) :: nw) := News.setAt (own := []) N1' (fun _ z => nomatch z) (by
        intro p hp
        simp only [List.mem_cons] at hp
        rcases hp with rfl | rfl | rfl | hp
        · exact neIc
        · exact neDc
        · exact neCc
        · exact apart_of hap (Nat.le_of_lt hIc) (Nat.le_refl _) p hp) hs2 hgO2
      have F2' := fr_same F1' hs2 (N' (c, oO) (.head _)).2.1 (N' (c, oO) (.head _)).2.2
      refine step1 I D C c oI1 _ _ oO2 h2 tk _ _ hID hDC hCc lt1 hdO2 F2' N2' (fun v nw' h3 tk3 r1 ap hT3 F3 N3 => ?_)
      refine append_K F3 N3 (Upd.tail (Ne.symm neDc) (Upd.tail neID (Upd.head (by
        intro p hp
        simp only [List.mem_cons] at hp
        rcases hp with rfl | hp
        · exact neDC.symm
        · exact apart_of ap (Nat.le_of_lt hID) (Nat.le_of_lt hDc) p hp)))) (fun h4 F4 N4 => ?_) (by first | exact Nat.zero_le _ | (show 1 ≤ sizeLine; decide))
      exact ⟨1, by decide, h4, tk3, oI1, oO2, _, _, _, nw', rfl, F4, hcI1, hdI1, ⟨_, hdO2⟩, rfl, N4, hT3, ap, .inr (.inl ⟨rfl, v, rfl, r1⟩)⟩
    · refine wpAny_pyNext_tuple_item hII hTI (x := .ref a2) rfl fun h1 hit1 hs1 => ?_
      obtain ⟨oI1, hgI1, hcI1, hdI1⟩ := hit1
      have N1' : News g L h1 ((c, oO) :: (I, oI1) :: (D, _) :: (C, _) :: nw) := News.setAt (own := [(c, oO)]) N' (by simp only [List.mem_singleton, forall_eq]; exact neIc.symm) (by
        intro p hp
        simp only [List.mem_cons] at hp
        rcases hp with rfl | rfl | hp
        · exact neID.symm
        · exact neIC.symm
        · exact apart_of hap (Nat.le_refl _) (Nat.le_of_lt hIc) p hp) hs1 hgI1
      have F1' := fr_same F' hs1 (N' (I, oI) (.tail _ (.head _))).2.1 (N' (I, oI) (.tail _ (.head _))).2.2
      dsimp only
      refine wpAny_assign_Name (wpAny_storeName_cell (c := c) hk (hx C c) (by show List.lookup x ((x, c) :: cl) = some c; simp) ⟨oO, (N1' _ (.head _)).1, hO⟩ fun h2 hv2 hs2 => ?_)
      obtain ⟨oO2, hgO2, hdO2⟩ := hv2
      have N2' : News g L h2 ((c, oO2) :: (I, oI1) :: (D, _) :: (C, _) :: nw) := News.setAt (own := []) N1' (fun _ z => nomatch z) (by
        intro p hp
        simp only [List.mem_cons] at hp
        rcases hp with rfl | rfl | rfl | hp
        · exact neIc
        · exact neDc
        · exact neCc
        · exact apart_of hap (Nat.le_of_lt hIc) (Nat.le_refl _) p hp) hs2 hgO2
      have F2' := fr_same F1' hs2 (N' (c, oO) (.head _)).2.1 (N' (c, oO) (.head _)).2.2
      refine step2 v1 nw hr1 I D C c oI1 _ _ oO2 h2 tk _ _ hID hDC hCc lt1 hap hdO2 F2' N2' (fun v nw' h3 tk3 r1 ap hT3 F3 N3 => ?_)
      refine append_K F3 N3 (Upd.tail (Ne.symm neDc) (Upd.tail neID (Upd.head (by
        intro p hp
        simp only [List.mem_cons] at hp
        rcases hp with rfl | hp
        · exact neDC.symm
        · exact apart_of ap (Nat.le_of_lt hID) (Nat.le_of_lt hDc) p hp)))) (fun h4 F4 N4 => ?_) (by first | exact Nat.zero_le _ | (show 1 ≤ sizeLine; decide))
      exact ⟨0, by decide, h4, tk3, oI1, oO2, _, _, _, nw', rfl, F4, hcI1, hdI1, ⟨_, hdO2⟩, rfl, N4, hT3, ap, .inr (.inr ⟨rfl, v1, v, rfl, r1⟩)⟩
    · refine wpAny_pyNext_tuple_end hA hII hTI rfl fun h1 hx1 => ?_
      have up : ∀ p ∈ (D, listOf #[v1, v2] nD) :: (C, { cls := .type "dict", data := .dict #[] }) :: nw, h1.get? p.1 = some p.2 := fun p hp => by
        have hp' := N' p (.tail _ (.tail _ hp))
        refine hx1 _ _ ?_ hp'.1
        simp only [List.mem_cons] at hp
        rcases hp with rfl | rfl | hp
        · exact neID.symm
        · exact neIC.symm
        · exact apart_of hap (Nat.le_refl _) (Nat.le_of_lt hIc) p hp
      have nIL : I ≠ L := (N' (I, _) (.tail _ (.head _))).2.1
      have F1 : Fr g L h1 m := by
        refine ⟨?_, fun b o z => (hx1 b o (fun y => ?_) (F'.keep b o z)), F'.above⟩
        · obtain ⟨oL, es, ep, hL', r⟩ := F'.ns
          exact ⟨oL, es, ep, hx1 L oL (fun y => nIL y.symm) hL', r⟩
        · have := (N' (I, _) (.tail _ (.head _))).2.2
          rw [y] at z; rw [z] at this; cases this
      subst hL
      show wpAny _ _ (assign (.Name y py) env (.ref D)) _ _ _
      refine wpAny_assign_Name (wpAny_storeName_local hy F1.ns (fun h2 hn2 hs2 => ?_) hpp)
      have upL : ∀ p ∈ (D, listOf #[v1, v2] nD) :: (C, ({ cls := .type "dict", data := .dict #[] } : Obj)) :: nw, p.1 ≠ env.locals := fun p hp => (N' p (.tail _ (.tail _ hp))).2.1
      have up2 : ∀ p ∈ (D, listOf #[v1, v2] nD) :: (C, { cls := .type "dict", data := .dict #[] }) :: nw, h2.get? p.1 = some p.2 := fun p hp => (hs2.2 _ (upL p hp)).trans (up p hp)
      have F2 : Fr g env.locals h2 (fun z => if z = y then some (.ref D) else m z) := ⟨hn2, fun b o z => (hs2.2 b (fun e => by
        rw [e] at z
        have := Heap.lt_size z
        exact absurd (Nat.lt_of_lt_of_le this F1.above) (Nat.lt_irrefl _))).trans (F1.keep b o z), F1.above⟩
      refine ⟨fun _ => none, ?_, fun h5 hs5 => ?_⟩
      · obtain ⟨o, es, ep, ho, hd', r⟩ := Heap.Ns.new E0 (.type "dict")
        rw [Heap.get?_push_size _ rfl] at ho
        cases ho
        exact ⟨_, es, ep, up2 _ (.tail _ (.head _)), hd', r⟩
      · have upC : ∀ p ∈ nw, p.1 ≠ C := apart_of hap (Nat.le_of_lt (Nat.lt_trans hID hDC)) (Nat.le_of_lt hCc)
        have nC := N' (C, _) (.tail _ (.tail _ (.tail _ (.head _))))
        refine q v1 v2 nw D nD h5 _ hr2 (apart_of hap (Nat.le_of_lt hID) (Nat.le_of_lt hDc)) (fun p hp => Nat.lt_trans (lt1 p hp) hID) (fr_same F2 hs5 nC.2.1 nC.2.2) ?_
        intro p hp
        rcases List.mem_cons.mp hp with rfl | hp
        · exact ⟨(hs5.2 D neDC).trans (up2 _ (.head _)), (N' (D, _) (.tail _ (.tail _ (.head _)))).2⟩
        · exact ⟨(hs5.2 _ (upC p hp)).trans (up2 _ (.tail _ (.tail _ hp))), (N' p (.tail _ (.tail _ (.tail _ (.tail _ hp))))).2⟩
  refine codeAny_compStart_list (start _ rfl) (wpAny_pyIter_tupleiter (i := 0) (t := T) ⟨_, (swap N4 (I, _) (.tail _ (.head _))).1, rfl, rfl⟩ (start _ rfl))
theorem assign_comp {w : World} {A : Around} {s : Shared} {E : Value → Shared → Prop} {env : Env} {x y : Str} {elt iter : Expr} {px py pos spos : Pos} {scope : Scope} {cl : List (Str × Addr)} {Q : Flow → Shared → Prop}
    (hsw : swapsWith (.ListComp elt [⟨.Name x px, iter, [], 0⟩] scope pos) (some (.Name y py)) spos.line env = pure true)
    (hclos : closureFor scope env = pure cl) (hkind : scope.kind = .function) (hnames : ∀ z ∈ scope.names, z.2 = .local → scope.names.lookup z.1 = some .local) (hs : ∀ x, foldedSetIterable iter env x = pure x)
    (h : wpAny (model PG w) A (eval iter env) (fun xv s₁ => wpAny (model PG w) A (pyIter xv) (fun it s₂ => wpAny (model PG w) A (newList []) (fun acc s₃ =>
      wpAny (model PG w) A (newFunctionEnv scope env.globals cl [] env.qual none .none (some env)) (fun cenv s₄ =>
        codeAny (model PG w) A (.compStart (.ListComp elt [⟨.Name x px, iter, [], 0⟩] scope pos) 0 it acc { cenv with scope := relabel scope env }) (compPost (model PG w) A E (some (assign (.Name y py) env)) (fun _ s' => Q .next s') acc cenv.locals) s₄) E s₃) E s₂) E s₁) E s) :
    wpAny (model PG w) A (exec (.Assign [.Name y py] (.ListComp elt [⟨.Name x px, iter, [], 0⟩] scope pos) spos) env) Q E s := by
  rw [exec_Assign_Name_used _ _ _ _ hsw]
  refine wpAny_bind (wpAny_standAt (wpAny_bind ?_))
  show wpAny _ A (do let _ ← comprehension (.ListComp elt [⟨.Name x px, iter, [], 0⟩] scope pos) scope env _ (newList []) false (eval iter env) (some (assign (.Name y py) env))) _ _ s
  exact wpAny_bind (wpAny_mono (wpAny_comprehension_free (use := some (assign (.Name y py) env)) (Q := fun _ s' => Q .next s') rfl hs hclos hkind hnames h) (fun _ s' hq => wpAny_pure (wpAny_pure hq)) fun _ _ e => e)
end
section
local macro_rules | `(tactic| walk_at "m mem") => `(tactic| first | exact List.Mem.head _ | with_reducible assumption | (refine' mem_tail' ?_; walk_at "m mem"))
local macro_rules | `(tactic| k_mem) => `(tactic| walk_at "m mem")
local macro_rules | `(tactic| walk_at "m all") => `(tactic| first | exact List.forall_mem_nil _ | with_reducible assumption | (refine' List.forall_mem_cons.mpr ⟨?a, ?b⟩; (case a => k_ne); (case b => walk_at "m all")))
local macro_rules | `(tactic| k_all) => `(tactic| walk_at "m all")
local macro_rules | `(tactic| walk_at "m sub") => `(tactic| first | exact fun _ h => h | (refine fun q hq => mem_tail' ?_; revert q; walk_at "m sub"))
set_option hygiene false in
local macro_rules | `(tactic| walk_at "call ref") => `(tactic| ((with_reducible show wpAny _ _ (call (Value.ref 400) _ _) _ _ _); k_dflt (refine' nip_K taL (by k_asm) (by k_asm) ?U ?sc ?ne hIs ?len ?c ?mm ?m2 (fun r' t' tc' h' tk' hr0 hr1 F' N' => ?_); (case U => k_updF); (case sc => k_mem); (case ne => k_ne); (case len => omega); (case c => omega); (case mm => decide); (case m2 => decide)); (try dsimp only at N'); (try k_sweep)))
local macro_rules | `(tactic| walk_at "m subset") => `(tactic| first | exact List.forall_mem_nil _ | (refine List.forall_mem_cons.mpr ⟨by k_mem, ?_⟩; walk_at "m subset") | walk_at "m sub")
set_option hygiene false in
local macro_rules | `(tactic| walk_at "m hk") => `(tactic| first | exact hkk (287, 8) (by decide) | exact hkk (290, 8) (by decide) | exact hkk (294, 0) (by decide) | exact hkk (295, 0) (by decide) | exact hkk (300, 0) (by decide) | exact hkk (305, 0) (by decide) | exact hkk (313, 0) (by decide) | (refine' mem_tail' ?_; walk_at "m hk"))
set_option hygiene false in
local macro_rules | `(tactic| walk_at "exec FunctionDef") => `(tactic| (k_here; k_dflt (refine' nestDef_K ?d0 ?k0 ?a0 ?_; (case d0 => exact rfl); (case k0 => exact rfl); (case a0 => exact rfl)); k_dflt (refine' def_any rfl rfl (by k_asm) (by k_asm) (by k_asm) (by k_asm) ?U TO ?hk ?hp ?hz ?hq rfl (fun f' c' oc' ct' dc' ps' h' tk' F' N' hcd' z' y' l1 l2 TO => ?_); (case U => k_updF); (case hk => walk_at "m hk"); (case hp => decide); (case hz => k_mem); (case hq => rfl)); k_dflt ((try dsimp only at N'); (k_lt l1); (k_lt2 l2); (replace z' := leN z'); (try have y2' := orN (code_lt y' (by walk_at "m hk") hTb hcc)); (replace y' := code_ne y' (by walk_at "m hk") hTI (by k_mem)); (try k_sweep))))
set_option hygiene false in
local macro_rules | `(tactic| walk_at "eval Lambda") => `(tactic| (k_here; k_dflt (refine' kla_eval ?d0 ?_; (case d0 => exact rfl)); k_dflt (refine' lam_any rfl rfl (by k_asm) (by k_asm) (by k_asm) (by k_asm) ?U TO ?hk ?hp ?hz ?hq rfl (fun f' c' oc' ct' ps' h' tk' F' N' hcd' z' y' l1 l2 TO => ?_); (case U => k_updF); (case hk => walk_at "m hk"); (case hp => decide); (case hz => k_mem); (case hq => rfl)); k_dflt ((try dsimp only at N'); (k_lt l1); (k_lt2 l2); (replace z' := leN z'); (try have y2' := orN (code_lt y' (by walk_at "m hk") hTb hcc)); (replace y' := code_ne y' (by walk_at "m hk") hTI (by k_mem)); (try k_sweep))))
local macro_rules | `(tactic| k_get) => `(tactic| assumption)
local macro_rules | `(tactic| walk_at "call builtin:len") => `(tactic| (k_here; (with_reducible show wpAny _ _ (call (Value.builtin "len") [Value.ref _]) _ _ _); k_dflt (refine' len_list (News.isList (by k_asm) (by k_mem)) ?z ?_; (case z => (rw [List.size_toArray]; omega))); rw [List.size_toArray]))
local macro_rules | `(tactic| walk_at "compareOp NotEq ref ref") => `(tactic| (k_here; (with_reducible show wpAny _ _ (compareOp CmpOp.NotEq (Value.ref _) (Value.ref _)) _ _ _); k_dflt (refine' ne_two (by k_asm) ?a ?b ?c ?d (by ke_room) ?_; (case a => k_mem); (case b => k_mem); (case c => first | with_reducible assumption | constructor); (case d => first | with_reducible assumption | constructor))))
local macro_rules | `(tactic| walk_at "callWith ref") => `(tactic| (k_here; k_dflt (first | (refine' callWith_K ?k1 ?k2 ?_; (case k1 => with_reducible assumption); (case k2 => k_is); k_whole) | (refine' callWith_K0 ?k1 ?k2 ?_; (case k1 => k_in); (case k2 => k_is); k_whole))))
set_option hygiene false in
local macro_rules | `(tactic| walk_at "m cj1") => `(tactic| (refine lt_conj (by with_reducible assumption) ?_; intro hC; first | with_reducible exact hC.1 | with_reducible exact hC.2.1 | with_reducible exact hC.2.2.1 | with_reducible exact hC.2.2.2.1 | with_reducible exact hC.2.2.2.2.1 | with_reducible exact hC.2.2.2.2.2.1 | with_reducible exact hC.2.2.2.2.2.2.1 | with_reducible exact hC.2.2.2.2.2.2.2.1 | with_reducible exact hC.2.2.2.2.2.2.2.2.1 | with_reducible exact hC.2.2.2.2.2.2.2.2.2.1 | with_reducible exact hC.2.2.2.2.2.2.2.2.2.2.1 | with_reducible exact hC.2.2.2.2.2.2.2.2.2.2.2.1 | with_reducible exact hC.2.2.2.2.2.2.2.2.2.2.2.2.1 | with_reducible exact hC.2.2.2.2.2.2.2.2.2.2.2.2.2.1 | with_reducible exact hC.2.2.2.2.2.2.2.2.2.2.2.2.2.2.1 | with_reducible exact hC.2.2.2.2.2.2.2.2.2.2.2.2.2.2.2.1))
local macro_rules | `(tactic| walk_at "m cj") => `(tactic| first | with_reducible assumption | walk_at "m cj1" | (refine lt_via (by with_reducible assumption) ?_; first | with_reducible assumption | walk_at "m cj1"))
set_option hygiene false in
local macro_rules | `(tactic| walk_at "m od") => `(tactic| with_reducible (first | exact od1 f | exact od2 f | exact od3 f | exact od4 f | exact od5 f | exact od6 f | exact od7 f | exact od8 f | exact od9 f | exact od10 f | exact nz1 f (by assumption) | exact nz2 f (by assumption) | exact nz3 f (by assumption) | exact nz4 f (by assumption) | exact nz5 f (by assumption) | exact nI1 f (by assumption) | exact nI2 f (by assumption) | exact nI3 f (by assumption) | exact nI4 f (by assumption) | exact nI5 f (by assumption)))
local macro_rules | `(tactic| k_ne) => `(tactic| ((try dsimp only); first | with_reducible assumption | (refine ne_gtN ?_; walk_at "m cj"; done) | (refine ne_ltN ?_; walk_at "m cj"; done) | walk_at "m od" | (refine Ne.symm ?_; walk_at "m od") | (refine neN ?_; omega)))
local macro_rules | `(tactic| k_lt $h) => `(tactic| (replace $h := allLt_of $h; dsimp only [AllLt] at $h:ident))
set_option hygiene false in
local macro_rules | `(tactic| walk_at "m or") => `(tactic| ((try dsimp only); first | exact .inl (by with_reducible assumption) | (refine .inl ?_; with_reducible (first | exact lz1 f (by assumption) | exact lz2 f (by assumption) | exact lz3 f (by assumption) | exact lz4 f (by assumption) | exact lz5 f (by assumption))) | (refine .inr ?_; walk_at "m cj") | (refine orN ?_; omega)))
set_option hygiene false in
local macro_rules | `(tactic| dict_open $h:ident) => `(tactic| ((dsimp only [datumOf, Option.getD] at $h:ident); first | ((replace $h := PyProof.V.Flat.int_inv $h); refine ex_to $h (fun tf' ef' => ?_); clear $h; subst ef') | ((replace $h := PyProof.V.Flat.str_inv $h); refine ex_to $h (fun tf' ef' => ?_); clear $h; subst ef')))
local macro_rules | `(tactic| walk_at "subscriptTail") => `(tactic| (k_here; (with_reducible show wpAny _ _ (subscriptTail _ _ (Value.ref _) (Value.int _ _)) _ _ _); kmn_open; (with_unfolding_all (refine' item_anyT ?k1 ?k2 ?k3 ?k4 ?k5 ?_; (case k1 => exact News.isTup (by k_asm) (by k_mem)); (case k2 => l_ints); (case k3 => l_idx); (case k4 => l_idx); (case k5 => l_idx); k_whole)); intro _))
set_option hygiene false in
local macro_rules | `(tactic| walk_at "call ref") => `(tactic| ((with_reducible show wpAny _ _ (call (Value.ref 407) _ _) _ _ _); k_dflt (first | (refine' w_store (f := f) (ta := taL) (F := by k_asm) (N := by k_asm) (hT := ?hT) (so := fS1) (hC := ?hC) (hlb := ?hlb) (hLab := ?hLab) (I := cc) (oI := oO) (hI := ?hI) (hIne := ?hIne) (hone := ?hone) (hOne := hO) (hone1 := ?hone1) (U := ?U) (ho := ?ho) (hce := ?hce) (hcode := ?hcode) (hlen := ?hlen) (qo := fun hq r' od' n' sl' t' t2' m' h' tk' l1 F' N' => ?_) (qb := fun hq h' tk' tk2' F' N' => ?_); (case ho => k_mem); (case U => k_updF); (case hT => walk_at "m sub"); (case hce => k_mem); (case hcode => assumption); (case hlen => first | omega | (rw [List.length_set]; omega)); (case hC => first | exact .inl f.CR | exact .inr f.CM); (case hlb => k_mem); (case hLab => k_asm); (case hI => k_mem); (case hIne => k_ne); (case hone => k_mem); (case hone1 => k_ne))); (all_goals (try dsimp only at N')); (all_goals (try k_lt2 l1)); (all_goals (try (exfalso; omega))); (all_goals (try k_sweep))))
set_option hygiene false in
local macro_rules | `(tactic| walk_at "call ref") => `(tactic| ((with_reducible show wpAny _ _ (call (Value.ref 407) _ _) _ _ _); k_dflt (first | (refine' w_undef (f := f) (ta := taL) (F := by k_asm) (N := by k_asm) (hT := ?hT) (so := fS2) (hC := ?hC) (hone := ?hone) (hOne := hO) (hone1 := ?hone1) (U := ?U) (ho := ?ho) (hce := ?hce) (hcode := ?hcode) (hlen := ?hlen) (qo := fun hq od' n' sl' h' tk' F' N' => ?_) (qb := fun hq h' tk' tk2' F' N' => ?_); (case ho => k_mem); (case U => k_updF); (case hT => walk_at "m sub"); (case hce => k_mem); (case hcode => assumption); (case hlen => first | omega | (rw [List.length_set]; omega)); (case hC => first | exact .inl f.CR | exact .inr f.CM); (case hone => k_mem); (case hone1 => k_ne))); (all_goals (try dsimp only at N')); (all_goals (try k_lt2 l1)); (all_goals (try (exfalso; omega))); (all_goals (try k_sweep))))
set_option hygiene false in
local macro_rules | `(tactic| walk_at "call ref") => `(tactic| ((with_reducible show wpAny _ _ (call (Value.ref 407) _ _) _ _ _); k_dflt (first | (refine' v_load (f := f) (ta := taL) (F := by k_asm) (N := by k_asm) (hT := ?hT) (so := fS4) (hC := ?hC) (hone := ?hone) (hOne := hO) (co := cS) (hnl := ?hnl) (ho := ?ho) (hce := ?hce) (hcode := ?hcode) (q := fun v' h' tk' hv' F' N' => ?_); (case ho => k_mem); (case hC => first | exact .inl f.CR | exact .inr f.CM); (case hone => k_mem); (case hnl => k_mem); (case hT => walk_at "m sub"); (case hce => k_mem); (case hcode => assumption))); (all_goals (try dsimp only at N')); (all_goals (try k_lt2 l1)); (all_goals (try (exfalso; omega))); (all_goals (try k_sweep))))
set_option hygiene false in
local macro_rules | `(tactic| walk_at "call ref") => `(tactic| ((with_reducible show wpAny _ _ (call (Value.ref 407) _ _) _ _ _); (fail_if_success (fail_if_success (have zz := mkWay0))); k_dflt (first | (refine' w_setp (f := f) (ta := taL) (F := by k_asm) (N := by k_asm) (hT := ?hT) (hlb := ?hlb) (hLab := ?hLab) (hI := ?hI) (hIne := ?hIne) (U := ?U) (ho := ?ho) (hce := ?hce) (hcode := ?hcode) (hlen := ?hlen) (qo := fun hq t5' r' od' n' sl' t' t2' m' h' tk' l1 F' N' => ?_) (qb := fun hq h' tk' tk2' F' N' => ?_); (case ho => k_mem); (case U => k_updF); (case hT => walk_at "m sub"); (case hce => k_mem); (case hcode => assumption); (case hlen => first | omega | (rw [List.length_set]; omega)); (case hlb => k_mem); (case hLab => k_asm); (case hI => k_mem); (case hIne => k_ne)) | (refine' w_setm (f := f) (ta := taL) (F := by k_asm) (N := by k_asm) (hT := ?hT) (hlb := ?hlb) (hLab := ?hLab) (hI := ?hI) (hIne := ?hIne) (U := ?U) (ho := ?ho) (hce := ?hce) (hcode := ?hcode) (hlen := ?hlen) (qo := fun hq r' od' n' sl' t' t2' m' h' tk' l1 F' N' => ?_) (qb := fun hq h' tk' tk2' F' N' => ?_); (case ho => k_mem); (case U => k_updF); (case hT => walk_at "m sub"); (case hce => k_mem); (case hcode => assumption); (case hlen => first | omega | (rw [List.length_set]; omega)); (case hlb => k_mem); (case hLab => k_asm); (case hI => k_mem); (case hIne => k_ne))); (all_goals (try dsimp only at N')); (all_goals (try k_lt2 l1)); (all_goals (try (exfalso; omega))); (all_goals (try k_sweep))))
set_option hygiene false in
local macro_rules | `(tactic| walk_at "call ref") => `(tactic| ((with_reducible show wpAny _ _ (call (Value.ref 407) _ _) _ _ _); k_dflt (first | (refine' v_askp (f := f) (ta := taL) (F := by k_asm) (N := by k_asm) (hT := ?hT) (aP := aP) (cR := cR) (hnl := ?hnl) (q := fun v1' h' tk' hv1 F' N' => ?_); (case hnl => k_mem); (case hT => walk_at "m sub")) | (refine' v_askm (f := f) (ta := taL) (F := by k_asm) (N := by k_asm) (hT := ?hT) (aM := aM) (cM := cM) (hnl := ?hnl) (q := fun v2' h' tk' hv2 F' N' => ?_); (case hnl => k_mem); (case hT => walk_at "m sub"))); (all_goals (try dsimp only at N')); (all_goals (try k_lt2 l1)); (all_goals (try (exfalso; omega))); (all_goals (try k_sweep))))
local macro_rules | `(tactic| walk_at "binaryOp Mult ref int") => `(tactic| (k_dflt (refine' one_mul (by k_asm) (by k_asm) ?m ?h0 ?h1 (fun D' h' l1 F' N' => ?_); (case m => k_mem); (case h0 => omega); (case h1 => omega)); (k_lt l1); (try simp only [Int.reduceToNat, List.replicate_succ, List.replicate_zero] at N'); (try k_sweep)))
mutual
theorem t_pre {w : World} {fa : Addr} {g : Heap} {p : Program} {lo : List Str} {mean : ExcName → Option Value} {mg mb : Str → Option Value} {s : Shared} {E : Value → Shared → Prop} {Q : Flow → Shared → Prop} {L I : Addr} {T : List (Addr × Obj)} {d : Dat} {oLab oI : Obj} {ps : Array Value} {kk : Nat → Addr × Obj} {hv : Value} {m0 : Str → Option Value} {cnt : Int} {tc : Tok} {lv : Option Value} {odM odR : Option Addr} {usM usR : List Value} {nM nR : Nat} {slM slR : Array (Option Value)} {i : Int} {ti : Tok} (f : Fix w L d T) (C : CodeHd g 411 409) (B : Below callerA g [] g) (X : (layK.heap_1 w.params).In g) (TG : Top p lo mean mg mb g) (taL : At w callerA g g p lo mean mg mb L (lawEnv fa L)) (hTI : ∀ q ∈ T, q.1 ≠ I) (hzI : d.z < I)
    (hkk : ∀ lc ∈ lawPs, kk lc.1 ∈ T) (TO : TabOk d.z lawQu ps kk) (hc : 0 ≤ cnt) (hi : 0 ≤ i) (hlab : oLab.data = .cell lv)
    (F : Fr g L s.heap (fun y => if y = "turn" then some (.int i ti) else MM d hv m0 y)) (N : News g L s.heap ((I, oI) :: (409, tabObj ps) :: (d.tin, listOf #[.ref d.sc, .int cnt tc] d.n1) :: (L + 1 + 1 + 1, oLab) :: (d.M.nl, lstO odM usM nM slM) :: (d.R.nl, lstO odR usR nR slR) :: T))
    (q : ∀ r tr lb tl fp fm T' ps' kk' cnt' tc' oLab' m' h' tk', Fr g L h' (MW d hv r tr fp fm m') → News g L h' ((I, oI) :: (409, tabObj ps') :: (d.tin, listOf #[.ref d.sc, .int cnt' tc'] d.n1) :: (L + 1 + 1 + 1, oLab') :: (d.M.nl, lstO odM usM nM slM) :: (d.R.nl, lstO odR usR nR slR) :: T') →
      TabOk d.z lawQu ps' kk' → oLab'.data = .cell (some (.int lb tl)) → 0 ≤ r → r < 5 → (lb = 10 ∨ lb = 20 ∨ lb = 30) → 0 ≤ cnt' → Fix w L d T' → (∀ q ∈ T, q ∈ T') → (∀ q ∈ T', q.1 ≠ I) → (∀ lc ∈ lawPs, kk' lc.1 ∈ T') → AskP L fp T' → AskM L fm T' →
      wpAny (model PG w) (callerA.deeper (lawEnv fa L)) (execs (forBody.drop 3) (lawEnv fa L)) Q E { s with heap := h', toks := tk' }) :
    wpAny (model PG w) (callerA.deeper (lawEnv fa L)) (execs forBody (lawEnv fa L)) Q E s := by
  have hA1 : ∀ q ∈ T, q.1 ≠ 409 := fun q hq => (f.apart q hq).1
  have hA2 : ∀ q ∈ T, q.1 ≠ d.tin := fun q hq => (f.apart q hq).2.1
  have hA3 : ∀ q ∈ T, q.1 ≠ L + 1 + 1 + 1 := fun q hq => (f.apart q hq).2.2.1
  have hA4 : ∀ q ∈ T, q.1 ≠ d.M.nl := fun q hq => (f.apart q hq).2.2.2.1
  have hA5 : ∀ q ∈ T, q.1 ≠ d.R.nl := fun q hq => (f.apart q hq).2.2.2.2
  have hMz := f.z
  have k1 := ltN f.k1
  have k2 := ltN f.k2
  have k3 := ltN f.k3
  have k4 := ltN f.k4
  have k5 := ltN f.k5
  replace hzI := ltN hzI
  have hM1 := f.sc
  have hNe1 := hA2 _ hM1
  have hIs := f.hints
  have hLen := f.hlen
  dsimp only at hNe1
  unfold lawEnv at taL ⊢
  revert q
  generalize hr : forBody.drop 3 = rest
  with_unfolding_all (conv at hr => lhs; whnf)
  subst hr
  intro q
  unfold lawEnv at q
  generalize hs : lawScope = sc at *
  with_unfolding_all (conv at hs => lhs; whnf)
  subst hs
  generalize hb : forBody = b
  with_unfolding_all (conv at hb => lhs; whnf)
  subst hb
  repeat' ((fail_if_success (with_reducible show wpAny _ _ (execs (Stmt.If _ _ _ _ :: _) _) _ _ _)); (first | (k_unfold; (try dsimp only)) | (k_end; wrow_close) | walk1 | (dsimp only; walk1) | (leave1; walk_say "STEP leave1"; try dsimp only) | fail "no step"))
  all_goals (
    dsimp only
    have N2 := perm_pre (by with_reducible assumption)
    refine q _ _ _ _ _ _ _ _ _ _ _ _ _ _ _ (fr_MW (by with_reducible assumption) rfl rfl rfl rfl rfl rfl rfl) N2 TO (by with_reducible assumption) ?r0 ?r1 (lb_of (by assumption) (by assumption)) ?c0 ?fx (fun q hq => mem_tail' (mem_tail' (mem_tail' (mem_tail' hq)))) ?ti ?kx
      ⟨_, _, _, _, _, _, _, _, _, _, _, _, List.Mem.tail _ (List.Mem.tail _ (List.Mem.head _)), List.Mem.tail _ (List.Mem.tail _ (List.Mem.tail _ (List.Mem.head _))), by with_reducible assumption⟩ ⟨_, _, _, _, _, _, _, _, _, _, _, _, _, _, _, _, _, List.Mem.head _, List.Mem.tail _ (List.Mem.head _), by with_reducible assumption⟩
    (case r0 => omega)
    (case r1 => omega)
    (case c0 => omega)
    (case kx => exact hk_two (fun lc hl => mem_tail' (mem_tail' (mem_tail' (mem_tail' (hkk lc hl))))) (List.Mem.tail _ (List.Mem.tail _ (List.Mem.tail _ (List.Mem.head _)))) (List.Mem.tail _ (List.Mem.head _)))
    (case ti =>
      (repeat refine List.forall_mem_cons.mpr ⟨by k_ne, ?_⟩)
      exact hTI)
    (case fx =>
      refine Fix.more f (fun q hq => mem_tail' (mem_tail' (mem_tail' (mem_tail' hq)))) ?_
      (repeat refine List.forall_mem_cons.mpr ⟨⟨by k_ne, by k_ne, by k_ne, by k_ne, by k_ne⟩, ?_⟩)
      exact f.apart))
theorem t_suf {w : World} {fa : Addr} {g : Heap} {p : Program} {lo : List Str} {mean : ExcName → Option Value} {mg mb : Str → Option Value} {s : Shared} {E : Value → Shared → Prop} {L I : Addr} {T : List (Addr × Obj)} {d : Dat} {oLab oI : Obj} {ps : Array Value} {kk : Nat → Addr × Obj} {hv : Value} {m0 : Str → Option Value} {cnt : Int} {tc : Tok} {lv : Option Value} {odM odR : Option Addr} {usM usR : List Value} {nM nR : Nat} {slM slR : Array (Option Value)} {c : Cel} {hl dl : Addr} {v1 v2 u1 u2 : Value} {n1 n2 : Nat} {s0 : Shared} (f : Fix w L d T) (C : CodeHd g 411 409) (B : Below callerA g [] g) (X : (layK.heap_1 w.params).In g) (TG : Top p lo mean mg mb g) (taL : At w callerA g g p lo mean mg mb L (lawEnv fa L)) (hTI : ∀ q ∈ T, q.1 ≠ I) (hzI : d.z < I)
    (hkk : ∀ lc ∈ lawPs, kk lc.1 ∈ T) (TO : TabOk d.z lawQu ps kk) (hc : 0 ≤ cnt) (hlab : oLab.data = .cell lv)
    (F : Fr g L s.heap (fun y => if y = "heard" then some (.ref hl) else if y = "due" then some (.ref dl) else MM d hv m0 y)) (N : News g L s.heap ((I, oI) :: (409, tabObj ps) :: (d.tin, listOf #[.ref d.sc, .int cnt tc] d.n1) :: (L + 1 + 1 + 1, oLab) :: (d.M.nl, lstO odM usM nM slM) :: (d.R.nl, lstO odR usR nR slR) :: T))
    (hhl : (hl, listOf #[v1, v2] n1) ∈ T) (hdl : (dl, listOf #[u1, u2] n2) ∈ T)
    (h1 : d.a < d.sz → Same v1 u1 ∧ Same v2 u2) (h2 : ¬ d.a < d.sz → (∃ t, v1 = .str "storage" t) ∧ (∃ t, v2 = .str "storage" t) ∧ c = .no) (hH : d.a < d.sz → Held d hv c) (cM : Con d T usM c) (cR : Con d T usR c) (hs0 : ∃ h tk, s = { s0 with heap := h, toks := tk }) :
    wpAny (model PG w) (callerA.deeper (lawEnv fa L)) (execs (forBody.drop 4) (lawEnv fa L)) (TurnPost g L (Jt w L d) I oI s0) E s := by
  obtain ⟨h0, tk0, rfl⟩ := hs0
  have hA1 : ∀ q ∈ T, q.1 ≠ 409 := fun q hq => (f.apart q hq).1
  have hA2 : ∀ q ∈ T, q.1 ≠ d.tin := fun q hq => (f.apart q hq).2.1
  have hA3 : ∀ q ∈ T, q.1 ≠ L + 1 + 1 + 1 := fun q hq => (f.apart q hq).2.2.1
  have hA4 : ∀ q ∈ T, q.1 ≠ d.M.nl := fun q hq => (f.apart q hq).2.2.2.1
  have hA5 : ∀ q ∈ T, q.1 ≠ d.R.nl := fun q hq => (f.apart q hq).2.2.2.2
  have hMz := f.z
  have k1 := ltN f.k1
  have k2 := ltN f.k2
  have k3 := ltN f.k3
  have k4 := ltN f.k4
  have k5 := ltN f.k5
  replace hzI := ltN hzI
  have hMr := f.cRun
  have hDr := f.dRun
  have hMm := f.cMac
  have hDm := f.dMac
  have hR1 := f.R.one
  rw [f.CR] at hR1
  have hR2 := f.R.d1
  have hR3 := f.R.mem
  have hR4 := f.R.dm
  have hR5 := f.R.hm
  have hQ1 := f.M.one
  rw [f.CM] at hQ1
  have hQ2 := f.M.d1
  have hQ3 := f.M.mem
  have hQ4 := f.M.dm
  have hQ5 := f.M.hm
  have e1 := cM.len
  have e2 := cR.len
  have s0' := f.s0
  have s1' := f.s1
  unfold lawEnv at taL ⊢
  generalize hs : lawScope = sc at *
  with_unfolding_all (conv at hs => lhs; whnf)
  subst hs
  generalize hb : forBody.drop 4 = b
  with_unfolding_all (conv at hb => lhs; whnf)
  subst hb
  by_cases hlt : d.a < d.sz
  · obtain ⟨hS1, hS2⟩ := h1 hlt
    repeat' ((first | (k_unfold; (try dsimp only)) | (k_end; wrow_close) | walk1 | (dsimp only; walk1) | (leave1; walk_say "STEP leave1"; try dsimp only) | fail "no step"))
    all_goals (first | (exfalso; omega) | skip)
    all_goals (
      have N2 : News g L _ ((I, oI) :: (409, tabObj ps) :: (d.tin, listOf #[.ref d.sc, .int cnt tc] d.n1) :: (L + 1 + 1 + 1, oLab) :: (d.M.nl, lstO odM usM nM slM) :: (d.R.nl, lstO odR usR nR slR) :: T) := news_sub (by with_reducible assumption) (by walk_at "m subset")
      refine ⟨_, _, _, _, rfl, by with_reducible assumption, N2, ?_, T, ps, kk, cnt, tc, oLab, lv, odM, odR, usM, usR, nM, nR, slM, slR, _, _, rfl, rfl, rfl, rfl, rfl, f, hkk, TO, hc, hlab, cM, cR, hH hlt⟩
      exact List.forall_mem_cons.mpr ⟨by k_ne, List.forall_mem_cons.mpr ⟨by k_ne, List.forall_mem_cons.mpr ⟨by k_ne, List.forall_mem_cons.mpr ⟨by k_ne, List.forall_mem_cons.mpr ⟨by k_ne, hTI⟩⟩⟩⟩⟩)
  · obtain ⟨⟨t1, rfl⟩, ⟨t2, rfl⟩, rfl⟩ := h2 hlt
    repeat' ((first | (k_unfold; (try dsimp only)) | (k_end; wrow_close) | walk1 | (dsimp only; walk1) | (leave1; walk_say "STEP leave1"; try dsimp only) | fail "no step"))
    all_goals (first | (exfalso; omega) | skip)
    all_goals (
      have N2 : News g L _ ((I, oI) :: (409, tabObj ps) :: (d.tin, listOf #[.ref d.sc, .int cnt tc] d.n1) :: (L + 1 + 1 + 1, oLab) :: (d.M.nl, lstO odM usM nM slM) :: (d.R.nl, lstO odR usR nR slR) :: T) := news_sub (by with_reducible assumption) (by walk_at "m subset")
      refine ⟨_, _, _, _, rfl, by with_reducible assumption, N2, ?_, T, ps, kk, cnt, tc, oLab, lv, odM, odR, usM, usR, nM, nR, slM, slR, _, _, rfl, rfl, rfl, rfl, rfl, f, hkk, TO, hc, hlab, cM, cR, .no⟩
      exact List.forall_mem_cons.mpr ⟨by k_ne, List.forall_mem_cons.mpr ⟨by k_ne, List.forall_mem_cons.mpr ⟨by k_ne, List.forall_mem_cons.mpr ⟨by k_ne, List.forall_mem_cons.mpr ⟨by k_ne, hTI⟩⟩⟩⟩⟩)
theorem st1R {w : World} {fa : Addr} {g : Heap} {p : Program} {lo : List Str} {mean : ExcName → Option Value} {mg mb : Str → Option Value} {s : Shared} {L I : Addr} {T : List (Addr × Obj)} {d : Dat} {oLab oI : Obj} {ps : Array Value} {kk : Nat → Addr × Obj} {cnt : Int} {tc : Tok} {odM odR : Option Addr} {usM usR : List Value} {nM nR : Nat} {slM slR : Array (Option Value)} {lb : Int} {tl : Tok} {Ic Dc Cc cc : Addr} {oIc oDc oCc oO : Obj} {Q1 E1 : Value → Shared → Prop} {m : Str → Option Value} {cRR cMM : Cel} {T0 : List (Addr × Obj)} (f : Fix w L d T) (C : CodeHd g 411 409) (B : Below callerA g [] g) (X : (layK.heap_1 w.params).In g) (TG : Top p lo mean mg mb g) (taL : At w callerA g g p lo mean mg mb L (lawEnv fa L)) (hTI : ∀ q ∈ T, q.1 ≠ I) (hzI : d.z < I) (hI0 : I < Ic) (hD1 : Ic < Dc) (hD2 : Dc < Cc) (hD3 : Cc < cc)
    (hkk : ∀ lc ∈ lawPs, kk lc.1 ∈ T) (TO : TabOk d.z lawQu ps kk) (hlab : oLab.data = .cell (some (.int lb tl))) (hT0 : ∀ q ∈ T0, q ∈ T)
    (hb : ∀ q ∈ ((I, oI) :: (409, tabObj ps) :: (d.tin, listOf #[.ref d.sc, .int cnt tc] d.n1) :: (L + 1 + 1 + 1, oLab) :: (d.M.nl, lstO odM usM nM slM) :: (d.R.nl, lstO odR usR nR slR) :: T), q.1 < Ic ∨ cc < q.1) (hO : oO.data = .cell (some (.ref d.R.one)))
    (F : Fr g L s.heap m) (N : News g L s.heap ((cc, oO) :: (Ic, oIc) :: (Dc, oDc) :: (Cc, oCc) :: ((I, oI) :: (409, tabObj ps) :: (d.tin, listOf #[.ref d.sc, .int cnt tc] d.n1) :: (L + 1 + 1 + 1, oLab) :: (d.M.nl, lstO odM usM nM slM) :: (d.R.nl, lstO odR usR nR slR) :: T)))
    (cM : Con d T usM cMM) (cR : Con d T usR cRR)
    (q : ∀ v c1 nw h' tk', PutV (d.a < d.sz) v ∧ (d.a < d.sz → c1 = .num lb) ∧ (¬ d.a < d.sz → c1 = cRR) → CRel w L d I oI cnt tc oLab T0 c1 cMM nw → (∀ q ∈ nw, q.1 < Ic ∨ cc < q.1) → Fr g L h' m → News g L h' ((cc, oO) :: (Ic, oIc) :: (Dc, oDc) :: (Cc, oCc) :: nw) → Q1 v { s with heap := h', toks := tk' }) :
    wpAny (model PG w) (callerA.deeper (lawEnv fa L)) (eval (compElt 1) (compEnvC (compScope 1) (("one", cc) :: [("place", L + 1 + 1 + 1 + 1 + 1), ("label", L + 1 + 1 + 1)]) Cc (lawEnv fa L))) Q1 E1 s := by
  have hA1 : ∀ q ∈ T, q.1 ≠ 409 := fun q hq => (f.apart q hq).1
  have hA2 : ∀ q ∈ T, q.1 ≠ d.tin := fun q hq => (f.apart q hq).2.1
  have hA3 : ∀ q ∈ T, q.1 ≠ L + 1 + 1 + 1 := fun q hq => (f.apart q hq).2.2.1
  have hA4 : ∀ q ∈ T, q.1 ≠ d.M.nl := fun q hq => (f.apart q hq).2.2.2.1
  have hA5 : ∀ q ∈ T, q.1 ≠ d.R.nl := fun q hq => (f.apart q hq).2.2.2.2
  have hMz := f.z
  have fS1 := f.R
  have k1 := ltN f.k1
  have k2 := ltN f.k2
  have k3 := ltN f.k3
  have k4 := ltN f.k4
  have k5 := ltN f.k5
  replace hzI := ltN hzI
  have e1 := cM.len
  have e2 := cR.len
  have s0' := f.s0
  have s1' := f.s1
  have a0' := f.a0
  replace hI0 := ltN hI0
  replace hD1 := ltN hD1
  replace hD2 := ltN hD2
  replace hD3 := ltN hD3
  have hz1 := lt_via hI0 hzI
  have hz2 := lt_via hD1 hz1
  have hz3 := lt_via hD2 hz2
  have hz4 := lt_via hD3 hz3
  have hcc : (cc, oO) ∈ ((cc, oO) :: (Ic, oIc) :: (Dc, oDc) :: (Cc, oCc) :: ((I, oI) :: (409, tabObj ps) :: (d.tin, listOf #[.ref d.sc, .int cnt tc] d.n1) :: (L + 1 + 1 + 1, oLab) :: (d.M.nl, lstO odM usM nM slM) :: (d.R.nl, lstO odR usR nR slR) :: T)) := .head _
  have hTb : ∀ q ∈ T, q.1 < Ic ∨ cc < q.1 := fun q hq => hb q (by refine mem_tail' (mem_tail' (mem_tail' (mem_tail' (mem_tail' (mem_tail' hq))))))
  unfold lawEnv at taL ⊢
  generalize hs : lawScope = sc at taL ⊢
  with_unfolding_all (conv at hs => lhs; whnf)
  subst hs
  generalize hs : compScope 1 = sc
  with_unfolding_all (conv at hs => lhs; whnf)
  subst hs
  generalize hs : compElt 1 = sc
  with_unfolding_all (conv at hs => lhs; whnf)
  subst hs
  repeat' ((fail_if_success (with_reducible show wpAny _ _ (execs [Stmt.If _ _ _ _, _] _) _ _ _)); (first | (k_unfold; (try dsimp only)) | (k_end; wrow_close) | walk1 | (dsimp only; walk1) | (leave1; walk_say "STEP leave1"; try dsimp only) | fail "no step"))
  ·
    dsimp only
    have N2 := perm_c (front := [_, _, _]) (c1 := (cc, oO)) (c2 := (Ic, oIc)) (by assumption)
    dsimp only [List.cons_append, List.nil_append] at N2
    refine' q _ _ _ _ _ ⟨.ok ((cR.lt s0').mp hq), fun _ => rfl, fun h => absurd ((cR.lt s0').mp hq) h⟩ ⟨_, _, _, _, _, _, _, _, _, _, _, rfl, ?fx, ?t0, ?ti, ?kx, TO, ?cM, ?cR⟩ ?hb (by with_reducible assumption) N2
    (case fx =>
      refine Fix.more f (by walk_at "m sub") ?_
      (repeat refine List.forall_mem_cons.mpr ⟨⟨by k_ne, by k_ne, by k_ne, by k_ne, by k_ne⟩, ?_⟩)
      exact f.apart)
    (case t0 => exact fun q hq => (by walk_at "m sub" : ∀ q ∈ T, q ∈ _) _ (hT0 q hq))
    (case ti =>
      (repeat refine List.forall_mem_cons.mpr ⟨by k_ne, ?_⟩)
      exact hTI)
    (case kx => exact hk_one (fun lc hl => (by walk_at "m sub" : ∀ q ∈ T, q ∈ _) _ (hkk lc hl)) (by k_mem))
    (case cM => exact Con.more cM (by walk_at "m sub"))
    (case cR => exact con_set cR (by k_mem) ⟨rfl, _, _, _, rfl⟩ a0')
    (case hb =>
      (repeat refine List.forall_mem_cons.mpr ⟨by walk_at "m or", ?_⟩)
      exact hTb)
  ·
    dsimp only
    have N2 := perm_c (front := [_, _]) (c1 := (cc, oO)) (c2 := (Ic, oIc)) (by assumption)
    dsimp only [List.cons_append, List.nil_append] at N2
    refine' q _ _ _ _ _ ⟨.sto _ (fun z => hq ((cR.lt s0').mpr z)), fun h => absurd ((cR.lt s0').mpr h) hq, fun _ => rfl⟩ ⟨_, _, _, _, _, _, _, _, _, _, _, rfl, ?fx, ?t0, ?ti, ?kx, TO, ?cM, ?cR⟩ ?hb (by with_reducible assumption) N2
    (case fx =>
      refine Fix.more f (by walk_at "m sub") ?_
      (repeat refine List.forall_mem_cons.mpr ⟨⟨by k_ne, by k_ne, by k_ne, by k_ne, by k_ne⟩, ?_⟩)
      exact f.apart)
    (case t0 => exact fun q hq => (by walk_at "m sub" : ∀ q ∈ T, q ∈ _) _ (hT0 q hq))
    (case ti =>
      (repeat refine List.forall_mem_cons.mpr ⟨by k_ne, ?_⟩)
      exact hTI)
    (case kx => exact hk_one (fun lc hl => (by walk_at "m sub" : ∀ q ∈ T, q ∈ _) _ (hkk lc hl)) (by k_mem))
    (case cM => exact Con.more cM (by walk_at "m sub"))
    (case cR => exact Con.more cR (by walk_at "m sub"))
    (case hb =>
      (repeat refine List.forall_mem_cons.mpr ⟨by walk_at "m or", ?_⟩)
      exact hTb)
theorem st1M {w : World} {fa : Addr} {g : Heap} {p : Program} {lo : List Str} {mean : ExcName → Option Value} {mg mb : Str → Option Value} {s : Shared} {L I : Addr} {T : List (Addr × Obj)} {d : Dat} {oLab oI : Obj} {ps : Array Value} {kk : Nat → Addr × Obj} {cnt : Int} {tc : Tok} {odM odR : Option Addr} {usM usR : List Value} {nM nR : Nat} {slM slR : Array (Option Value)} {lb : Int} {tl : Tok} {Ic Dc Cc cc : Addr} {oIc oDc oCc oO : Obj} {Q1 E1 : Value → Shared → Prop} {m : Str → Option Value} {cRR cMM : Cel} {T0 : List (Addr × Obj)} (f : Fix w L d T) (C : CodeHd g 411 409) (B : Below callerA g [] g) (X : (layK.heap_1 w.params).In g) (TG : Top p lo mean mg mb g) (taL : At w callerA g g p lo mean mg mb L (lawEnv fa L)) (hTI : ∀ q ∈ T, q.1 ≠ I) (hzI : d.z < I) (hI0 : I < Ic) (hD1 : Ic < Dc) (hD2 : Dc < Cc) (hD3 : Cc < cc)
    (hkk : ∀ lc ∈ lawPs, kk lc.1 ∈ T) (TO : TabOk d.z lawQu ps kk) (hlab : oLab.data = .cell (some (.int lb tl))) (hT0 : ∀ q ∈ T0, q ∈ T)
    (hb : ∀ q ∈ ((I, oI) :: (409, tabObj ps) :: (d.tin, listOf #[.ref d.sc, .int cnt tc] d.n1) :: (L + 1 + 1 + 1, oLab) :: (d.M.nl, lstO odM usM nM slM) :: (d.R.nl, lstO odR usR nR slR) :: T), q.1 < Ic ∨ cc < q.1) (hO : oO.data = .cell (some (.ref d.M.one)))
    (F : Fr g L s.heap m) (N : News g L s.heap ((cc, oO) :: (Ic, oIc) :: (Dc, oDc) :: (Cc, oCc) :: ((I, oI) :: (409, tabObj ps) :: (d.tin, listOf #[.ref d.sc, .int cnt tc] d.n1) :: (L + 1 + 1 + 1, oLab) :: (d.M.nl, lstO odM usM nM slM) :: (d.R.nl, lstO odR usR nR slR) :: T)))
    (cM : Con d T usM cMM) (cR : Con d T usR cRR)
    (q : ∀ v c1 nw h' tk', PutV (d.a < d.sz) v ∧ (d.a < d.sz → c1 = .num lb) ∧ (¬ d.a < d.sz → c1 = cMM) → CRel w L d I oI cnt tc oLab T0 cRR c1 nw → (∀ q ∈ nw, q.1 < Ic ∨ cc < q.1) → Fr g L h' m → News g L h' ((cc, oO) :: (Ic, oIc) :: (Dc, oDc) :: (Cc, oCc) :: nw) → Q1 v { s with heap := h', toks := tk' }) :
    wpAny (model PG w) (callerA.deeper (lawEnv fa L)) (eval (compElt 1) (compEnvC (compScope 1) (("one", cc) :: [("place", L + 1 + 1 + 1 + 1 + 1), ("label", L + 1 + 1 + 1)]) Cc (lawEnv fa L))) Q1 E1 s := by
  have hA1 : ∀ q ∈ T, q.1 ≠ 409 := fun q hq => (f.apart q hq).1
  have hA2 : ∀ q ∈ T, q.1 ≠ d.tin := fun q hq => (f.apart q hq).2.1
  have hA3 : ∀ q ∈ T, q.1 ≠ L + 1 + 1 + 1 := fun q hq => (f.apart q hq).2.2.1
  have hA4 : ∀ q ∈ T, q.1 ≠ d.M.nl := fun q hq => (f.apart q hq).2.2.2.1
  have hA5 : ∀ q ∈ T, q.1 ≠ d.R.nl := fun q hq => (f.apart q hq).2.2.2.2
  have hMz := f.z
  have fS1 := f.M
  have k1 := ltN f.k1
  have k2 := ltN f.k2
  have k3 := ltN f.k3
  have k4 := ltN f.k4
  have k5 := ltN f.k5
  replace hzI := ltN hzI
  have e1 := cM.len
  have e2 := cR.len
  have s0' := f.s0
  have s1' := f.s1
  have a0' := f.a0
  replace hI0 := ltN hI0
  replace hD1 := ltN hD1
  replace hD2 := ltN hD2
  replace hD3 := ltN hD3
  have hz1 := lt_via hI0 hzI
  have hz2 := lt_via hD1 hz1
  have hz3 := lt_via hD2 hz2
  have hz4 := lt_via hD3 hz3
  have hcc : (cc, oO) ∈ ((cc, oO) :: (Ic, oIc) :: (Dc, oDc) :: (Cc, oCc) :: ((I, oI) :: (409, tabObj ps) :: (d.tin, listOf #[.ref d.sc, .int cnt tc] d.n1) :: (L + 1 + 1 + 1, oLab) :: (d.M.nl, lstO odM usM nM slM) :: (d.R.nl, lstO odR usR nR slR) :: T)) := .head _
  have hTb : ∀ q ∈ T, q.1 < Ic ∨ cc < q.1 := fun q hq => hb q (by refine mem_tail' (mem_tail' (mem_tail' (mem_tail' (mem_tail' (mem_tail' hq))))))
  unfold lawEnv at taL ⊢
  generalize hs : lawScope = sc at taL ⊢
  with_unfolding_all (conv at hs => lhs; whnf)
  subst hs
  generalize hs : compScope 1 = sc
  with_unfolding_all (conv at hs => lhs; whnf)
  subst hs
  generalize hs : compElt 1 = sc
  with_unfolding_all (conv at hs => lhs; whnf)
  subst hs
  repeat' ((fail_if_success (with_reducible show wpAny _ _ (execs [Stmt.If _ _ _ _, _] _) _ _ _)); (first | (k_unfold; (try dsimp only)) | (k_end; wrow_close) | walk1 | (dsimp only; walk1) | (leave1; walk_say "STEP leave1"; try dsimp only) | fail "no step"))
  ·
    dsimp only
    have N2 := perm_c (front := [_, _, _]) (c1 := (cc, oO)) (c2 := (Ic, oIc)) (by assumption)
    dsimp only [List.cons_append, List.nil_append] at N2
    refine' q _ _ _ _ _ ⟨.ok ((cM.lt s0').mp hq), fun _ => rfl, fun h => absurd ((cM.lt s0').mp hq) h⟩ ⟨_, _, _, _, _, _, _, _, _, _, _, rfl, ?fx, ?t0, ?ti, ?kx, TO, ?cM, ?cR⟩ ?hb (by with_reducible assumption) N2
    (case fx =>
      refine Fix.more f (by walk_at "m sub") ?_
      (repeat refine List.forall_mem_cons.mpr ⟨⟨by k_ne, by k_ne, by k_ne, by k_ne, by k_ne⟩, ?_⟩)
      exact f.apart)
    (case t0 => exact fun q hq => (by walk_at "m sub" : ∀ q ∈ T, q ∈ _) _ (hT0 q hq))
    (case ti =>
      (repeat refine List.forall_mem_cons.mpr ⟨by k_ne, ?_⟩)
      exact hTI)
    (case kx => exact hk_one (fun lc hl => (by walk_at "m sub" : ∀ q ∈ T, q ∈ _) _ (hkk lc hl)) (by k_mem))
    (case cM => exact con_set cM (by k_mem) ⟨rfl, _, _, _, rfl⟩ a0')
    (case cR => exact Con.more cR (by walk_at "m sub"))
    (case hb =>
      (repeat refine List.forall_mem_cons.mpr ⟨by walk_at "m or", ?_⟩)
      exact hTb)
  ·
    dsimp only
    have N2 := perm_c (front := [_, _]) (c1 := (cc, oO)) (c2 := (Ic, oIc)) (by assumption)
    dsimp only [List.cons_append, List.nil_append] at N2
    refine' q _ _ _ _ _ ⟨.sto _ (fun z => hq ((cM.lt s0').mpr z)), fun h => absurd ((cM.lt s0').mpr h) hq, fun _ => rfl⟩ ⟨_, _, _, _, _, _, _, _, _, _, _, rfl, ?fx, ?t0, ?ti, ?kx, TO, ?cM, ?cR⟩ ?hb (by with_reducible assumption) N2
    (case fx =>
      refine Fix.more f (by walk_at "m sub") ?_
      (repeat refine List.forall_mem_cons.mpr ⟨⟨by k_ne, by k_ne, by k_ne, by k_ne, by k_ne⟩, ?_⟩)
      exact f.apart)
    (case t0 => exact fun q hq => (by walk_at "m sub" : ∀ q ∈ T, q ∈ _) _ (hT0 q hq))
    (case ti =>
      (repeat refine List.forall_mem_cons.mpr ⟨by k_ne, ?_⟩)
      exact hTI)
    (case kx => exact hk_one (fun lc hl => (by walk_at "m sub" : ∀ q ∈ T, q ∈ _) _ (hkk lc hl)) (by k_mem))
    (case cM => exact Con.more cM (by walk_at "m sub"))
    (case cR => exact Con.more cR (by walk_at "m sub"))
    (case hb =>
      (repeat refine List.forall_mem_cons.mpr ⟨by walk_at "m or", ?_⟩)
      exact hTb)
theorem cs1_kind : (compScope 1).kind = .function := by
  generalize hs : compScope 1 = sc
  with_unfolding_all (conv at hs => lhs; whnf)
  subst hs
  rfl
theorem cs1_x {fa : Addr} (L C c : Addr) : (compEnvC (compScope 1) (("one", c) :: [("place", L + 1 + 1 + 1 + 1 + 1), ("label", L + 1 + 1 + 1)]) C (lawEnv fa L)).kindOf "one" = some .cell := by
  generalize hs : compScope 1 = sc
  with_unfolding_all (conv at hs => lhs; whnf)
  subst hs
  unfold lawEnv
  generalize hs : lawScope = sc
  with_unfolding_all (conv at hs => lhs; whnf)
  subst hs
  rfl
theorem cs1_y {fa : Addr} (L : Addr) : (lawEnv fa L).kindOf "heard" = some .local := by
  unfold lawEnv
  generalize hs : lawScope = sc
  with_unfolding_all (conv at hs => lhs; whnf)
  subst hs
  rfl
theorem cs1_p {fa : Addr} (L : Addr) : ((lawEnv fa L).scope.kind == .class || ((lawEnv fa L).scope.kind == .module && (lawEnv fa L).locals != (lawEnv fa L).globals)) = false := by
  unfold lawEnv
  generalize hs : lawScope = sc
  with_unfolding_all (conv at hs => lhs; whnf)
  subst hs
  rfl
theorem cs1_cells (L k : Addr) : cellsFrom k (compScope 1).names [("place", L + 1 + 1 + 1 + 1 + 1), ("label", L + 1 + 1 + 1)] = (Str.ofString "one", k) :: [("place", L + 1 + 1 + 1 + 1 + 1), ("label", L + 1 + 1 + 1)] := by
  generalize hs : compScope 1 = sc
  with_unfolding_all (conv at hs => lhs; whnf)
  subst hs
  rfl
theorem cs1_push (h : Heap) : pushCells h (compScope 1).names = h.push { cls := .type "cell", data := .cell none } := by
  generalize hs : compScope 1 = sc
  with_unfolding_all (conv at hs => lhs; whnf)
  subst hs
  rfl
theorem cw1 {w : World} {fa : Addr} {g : Heap} {p : Program} {lo : List Str} {mean : ExcName → Option Value} {mg mb : Str → Option Value} {s : Shared} {L I : Addr} {T : List (Addr × Obj)} {d : Dat} {oLab oI : Obj} {ps : Array Value} {kk : Nat → Addr × Obj} {cnt : Int} {tc : Tok} {odM odR : Option Addr} {usM usR : List Value} {nM nR : Nat} {slM slR : Array (Option Value)} {lb : Int} {tl : Tok} {m : Str → Option Value} {cRR : Cel} {Tt : Addr} {nT : Nat} {iter : Expr} {px pos py : Pos} {Qn : Shared → Prop} {E : Value → Shared → Prop} (f : Fix w L d T) (C : CodeHd g 411 409) (B : Below callerA g [] g) (X : (layK.heap_1 w.params).In g) (TG : Top p lo mean mg mb g) (taL : At w callerA g g p lo mean mg mb L (lawEnv fa L)) (hTI : ∀ q ∈ T, q.1 ≠ I) (hzI : d.z < I)
    (hkk : ∀ lc ∈ lawPs, kk lc.1 ∈ T) (TO : TabOk d.z lawQu ps kk) (hlab : oLab.data = .cell (some (.int lb tl)))
    (F : Fr g L s.heap m) (N : News g L s.heap ((I, oI) :: (409, tabObj ps) :: (d.tin, listOf #[.ref d.sc, .int cnt tc] d.n1) :: (L + 1 + 1 + 1, oLab) :: (d.M.nl, lstO odM usM nM slM) :: (d.R.nl, lstO odR usR nR slR) :: T)) (hTt : (Tt, tupOf [.ref d.R.one, .ref d.M.one] nT) ∈ T)
    (cM : Con d T usM cRR) (cR : Con d T usR cRR)
    (q : ∀ v1 v2 c1 c2 nw D nD h tk, PutV (d.a < d.sz) v1 → PutV (d.a < d.sz) v2 → ((d.a < d.sz → c1 = .num lb) ∧ (¬ d.a < d.sz → c1 = cRR)) → ((d.a < d.sz → c2 = .num lb) ∧ (¬ d.a < d.sz → c2 = cRR)) → CRel w L d I oI cnt tc oLab T c1 c2 nw → (∀ p ∈ nw, p.1 ≠ D) → I < D → Fr g L h (fun z => if z = "heard" then some (.ref D) else m z) → News g L h ((D, listOf #[v1, v2] nD) :: nw) → Qn { s with heap := h, toks := tk }) :
    wpAny (model PG w) (callerA.deeper (lawEnv fa L)) (pyIter (.ref Tt)) (fun it s₂ => wpAny (model PG w) (callerA.deeper (lawEnv fa L)) (newList []) (fun acc s₃ =>
      wpAny (model PG w) (callerA.deeper (lawEnv fa L)) (newFunctionEnv (compScope 1) (lawEnv fa L).globals [("place", L + 1 + 1 + 1 + 1 + 1), ("label", L + 1 + 1 + 1)] [] (lawEnv fa L).qual none .none (some (lawEnv fa L))) (fun cenv s₄ =>
        codeAny (model PG w) (callerA.deeper (lawEnv fa L)) (.compStart (.ListComp (compElt 1) [⟨.Name "one" px, iter, [], 0⟩] (compScope 1) pos) 0 it acc { cenv with scope := relabel (compScope 1) (lawEnv fa L) }) (compPost (model PG w) (callerA.deeper (lawEnv fa L)) E (some (assign (.Name "heard" py) (lawEnv fa L))) (fun _ s' => Qn s') acc cenv.locals) s₄) E s₃) E s₂) E s := by
  refine comp2u (Q0 := fun _ s' => Qn s') (env := lawEnv fa L) (y := "heard") (x := "one") (elt := compElt 1) (scope := compScope 1) (cl := [("place", L + 1 + 1 + 1 + 1 + 1), ("label", L + 1 + 1 + 1)]) (R1 := fun v nw => PutV (d.a < d.sz) v ∧ ∃ c1, ((d.a < d.sz → c1 = .num lb) ∧ (¬ d.a < d.sz → c1 = cRR)) ∧ CRel w L d I oI cnt tc oLab T c1 cRR nw) (R2 := fun v1 v nw => PutV (d.a < d.sz) v1 ∧ PutV (d.a < d.sz) v ∧ ∃ c1 c2, ((d.a < d.sz → c1 = .num lb) ∧ (¬ d.a < d.sz → c1 = cRR)) ∧ ((d.a < d.sz → c2 = .num lb) ∧ (¬ d.a < d.sz → c2 = cRR)) ∧ CRel w L d I oI cnt tc oLab T c1 c2 nw)
    rfl (cs1_y L) (cs1_p L) rfl F N (mem_tail' (mem_tail' (mem_tail' (mem_tail' (mem_tail' (mem_tail' hTt)))))) cs1_kind (cs1_x L) (cs1_cells L) cs1_push ?_ ?_ ?_
  · intro Ic Dc Cc cc oIc oDc oCc oO h tk Q1 E1 l1 l2 l3 lb' hO F3 N3 cont
    refine st1R (s := { s with heap := h, toks := tk }) f C B X TG taL hTI hzI (lb' (I, oI) (.head _)) l1 l2 l3 hkk TO hlab (fun q hq => hq) (fun q hq => .inl (lb' q hq)) hO F3 N3 cM cR (fun v c1 nw h' tk' hw hC hb F4 N4 => ?_)
    obtain ⟨hw1, hw2, hw3⟩ := hw
    refine cont v nw h' tk' ⟨hw1, c1, ⟨hw2, hw3⟩, hC⟩ hb ?_ F4 N4
    obtain ⟨T3, _, _, _, _, _, _, _, _, _, _, rfl, _, sub, _⟩ := hC
    exact mem_tail' (mem_tail' (mem_tail' (mem_tail' (mem_tail' (mem_tail' (sub _ hTt))))))
  · rintro v1 news1 ⟨hv1, c1, hp1, T3, ps3, kk3, odM3, odR3, usM3, usR3, nM3, nR3, slM3, slR3, rfl, f3, sub3, hTI3, hkk3, TO3, cM3, cR3⟩ Ic Dc Cc cc oIc oDc oCc oO h tk Q1 E1 l1 l2 l3 lb' lb2 hO F3 N3 cont
    refine st1M (s := { s with heap := h, toks := tk }) (T0 := T) f3 C B X TG taL hTI3 hzI (lb' (I, oI) (.head _)) l1 l2 l3 hkk3 TO3 hlab sub3 lb2 hO F3 N3 cM3 cR3 (fun v c2 nw h' tk' hw hC hb F4 N4 => ?_)
    obtain ⟨hw1, hw2, hw3⟩ := hw
    refine cont v nw h' tk' ⟨hv1, hw1, c1, c2, hp1, ⟨hw2, hw3⟩, hC⟩ hb ?_ F4 N4
    obtain ⟨T4, _, _, _, _, _, _, _, _, _, _, rfl, _, sub, _⟩ := hC
    exact mem_tail' (mem_tail' (mem_tail' (mem_tail' (mem_tail' (mem_tail' (sub _ hTt))))))
  · rintro v1 v2 nw D nD h tk ⟨hv1, hv2, c1, c2, p1, p2, hC⟩ hne hlt F4 N4
    exact q v1 v2 c1 c2 nw D nD h tk hv1 hv2 p1 p2 hC hne (hlt (I, oI) (.head _)) F4 N4
theorem st2R {w : World} {fa : Addr} {g : Heap} {p : Program} {lo : List Str} {mean : ExcName → Option Value} {mg mb : Str → Option Value} {s : Shared} {L I : Addr} {T : List (Addr × Obj)} {d : Dat} {oLab oI : Obj} {ps : Array Value} {kk : Nat → Addr × Obj} {cnt : Int} {tc : Tok} {odM odR : Option Addr} {usM usR : List Value} {nM nR : Nat} {slM slR : Array (Option Value)} {lb : Int} {tl : Tok} {Ic Dc Cc cc : Addr} {oIc oDc oCc oO : Obj} {Q1 E1 : Value → Shared → Prop} {m : Str → Option Value} {cRR cMM : Cel} {T0 : List (Addr × Obj)} (f : Fix w L d T) (C : CodeHd g 411 409) (B : Below callerA g [] g) (X : (layK.heap_1 w.params).In g) (TG : Top p lo mean mg mb g) (taL : At w callerA g g p lo mean mg mb L (lawEnv fa L)) (hTI : ∀ q ∈ T, q.1 ≠ I) (hzI : d.z < I) (hI0 : I < Ic) (hD1 : Ic < Dc) (hD2 : Dc < Cc) (hD3 : Cc < cc)
    (hkk : ∀ lc ∈ lawPs, kk lc.1 ∈ T) (TO : TabOk d.z lawQu ps kk) (hlab : oLab.data = .cell (some (.int lb tl))) (hT0 : ∀ q ∈ T0, q ∈ T)
    (hb : ∀ q ∈ ((I, oI) :: (409, tabObj ps) :: (d.tin, listOf #[.ref d.sc, .int cnt tc] d.n1) :: (L + 1 + 1 + 1, oLab) :: (d.M.nl, lstO odM usM nM slM) :: (d.R.nl, lstO odR usR nR slR) :: T), q.1 < Ic ∨ cc < q.1) (hO : oO.data = .cell (some (.ref d.R.one)))
    (F : Fr g L s.heap m) (N : News g L s.heap ((cc, oO) :: (Ic, oIc) :: (Dc, oDc) :: (Cc, oCc) :: ((I, oI) :: (409, tabObj ps) :: (d.tin, listOf #[.ref d.sc, .int cnt tc] d.n1) :: (L + 1 + 1 + 1, oLab) :: (d.M.nl, lstO odM usM nM slM) :: (d.R.nl, lstO odR usR nR slR) :: T)))
    (cM : Con d T usM cMM) (cR : Con d T usR cRR)
    (q : ∀ v c1 nw h' tk', PutV (d.a < d.sz) v ∧ (d.a < d.sz → c1 = .no) ∧ (¬ d.a < d.sz → c1 = cRR) → CRel w L d I oI cnt tc oLab T0 c1 cMM nw → (∀ q ∈ nw, q.1 < Ic ∨ cc < q.1) → Fr g L h' m → News g L h' ((cc, oO) :: (Ic, oIc) :: (Dc, oDc) :: (Cc, oCc) :: nw) → Q1 v { s with heap := h', toks := tk' }) :
    wpAny (model PG w) (callerA.deeper (lawEnv fa L)) (eval (compElt 2) (compEnvC (compScope 2) (("one", cc) :: [("place", L + 1 + 1 + 1 + 1 + 1)]) Cc (lawEnv fa L))) Q1 E1 s := by
  have hA1 : ∀ q ∈ T, q.1 ≠ 409 := fun q hq => (f.apart q hq).1
  have hA2 : ∀ q ∈ T, q.1 ≠ d.tin := fun q hq => (f.apart q hq).2.1
  have hA3 : ∀ q ∈ T, q.1 ≠ L + 1 + 1 + 1 := fun q hq => (f.apart q hq).2.2.1
  have hA4 : ∀ q ∈ T, q.1 ≠ d.M.nl := fun q hq => (f.apart q hq).2.2.2.1
  have hA5 : ∀ q ∈ T, q.1 ≠ d.R.nl := fun q hq => (f.apart q hq).2.2.2.2
  have hMz := f.z
  have fS2 := f.R
  have k1 := ltN f.k1
  have k2 := ltN f.k2
  have k3 := ltN f.k3
  have k4 := ltN f.k4
  have k5 := ltN f.k5
  replace hzI := ltN hzI
  have e1 := cM.len
  have e2 := cR.len
  have s0' := f.s0
  have s1' := f.s1
  have a0' := f.a0
  replace hI0 := ltN hI0
  replace hD1 := ltN hD1
  replace hD2 := ltN hD2
  replace hD3 := ltN hD3
  have hz1 := lt_via hI0 hzI
  have hz2 := lt_via hD1 hz1
  have hz3 := lt_via hD2 hz2
  have hz4 := lt_via hD3 hz3
  have hcc : (cc, oO) ∈ ((cc, oO) :: (Ic, oIc) :: (Dc, oDc) :: (Cc, oCc) :: ((I, oI) :: (409, tabObj ps) :: (d.tin, listOf #[.ref d.sc, .int cnt tc] d.n1) :: (L + 1 + 1 + 1, oLab) :: (d.M.nl, lstO odM usM nM slM) :: (d.R.nl, lstO odR usR nR slR) :: T)) := .head _
  have hTb : ∀ q ∈ T, q.1 < Ic ∨ cc < q.1 := fun q hq => hb q (by refine mem_tail' (mem_tail' (mem_tail' (mem_tail' (mem_tail' (mem_tail' hq))))))
  unfold lawEnv at taL ⊢
  generalize hs : lawScope = sc at taL ⊢
  with_unfolding_all (conv at hs => lhs; whnf)
  subst hs
  generalize hs : compScope 2 = sc
  with_unfolding_all (conv at hs => lhs; whnf)
  subst hs
  generalize hs : compElt 2 = sc
  with_unfolding_all (conv at hs => lhs; whnf)
  subst hs
  repeat' ((fail_if_success (with_reducible show wpAny _ _ (execs [Stmt.If _ _ _ _, _] _) _ _ _)); (first | (k_unfold; (try dsimp only)) | (k_end; wrow_close) | walk1 | (dsimp only; walk1) | (leave1; walk_say "STEP leave1"; try dsimp only) | fail "no step"))
  ·
    dsimp only
    have N2 := perm_c (front := [_, _]) (c1 := (cc, oO)) (c2 := (Ic, oIc)) (by assumption)
    dsimp only [List.cons_append, List.nil_append] at N2
    refine' q _ _ _ _ _ ⟨.ok ((cR.lt s0').mp hq), fun _ => rfl, fun h => absurd ((cR.lt s0').mp hq) h⟩ ⟨_, _, _, _, _, _, _, _, _, _, _, rfl, ?fx, ?t0, ?ti, ?kx, TO, ?cM, ?cR⟩ ?hb (by with_reducible assumption) N2
    (case fx =>
      refine Fix.more f (by walk_at "m sub") ?_
      (repeat refine List.forall_mem_cons.mpr ⟨⟨by k_ne, by k_ne, by k_ne, by k_ne, by k_ne⟩, ?_⟩)
      exact f.apart)
    (case t0 => exact fun q hq => (by walk_at "m sub" : ∀ q ∈ T, q ∈ _) _ (hT0 q hq))
    (case ti =>
      (repeat refine List.forall_mem_cons.mpr ⟨by k_ne, ?_⟩)
      exact hTI)
    (case kx => exact hk_one (fun lc hl => (by walk_at "m sub" : ∀ q ∈ T, q ∈ _) _ (hkk lc hl)) (by k_mem))
    (case cM => exact Con.more cM (by walk_at "m sub"))
    (case cR => exact con_undef cR (r := d.z) (or := d.oz) (by k_mem) a0')
    (case hb =>
      (repeat refine List.forall_mem_cons.mpr ⟨by walk_at "m or", ?_⟩)
      exact hTb)
  ·
    dsimp only
    have N2 := perm_c (front := [_, _]) (c1 := (cc, oO)) (c2 := (Ic, oIc)) (by assumption)
    dsimp only [List.cons_append, List.nil_append] at N2
    refine' q _ _ _ _ _ ⟨.sto _ (fun z => hq ((cR.lt s0').mpr z)), fun h => absurd ((cR.lt s0').mpr h) hq, fun _ => rfl⟩ ⟨_, _, _, _, _, _, _, _, _, _, _, rfl, ?fx, ?t0, ?ti, ?kx, TO, ?cM, ?cR⟩ ?hb (by with_reducible assumption) N2
    (case fx =>
      refine Fix.more f (by walk_at "m sub") ?_
      (repeat refine List.forall_mem_cons.mpr ⟨⟨by k_ne, by k_ne, by k_ne, by k_ne, by k_ne⟩, ?_⟩)
      exact f.apart)
    (case t0 => exact fun q hq => (by walk_at "m sub" : ∀ q ∈ T, q ∈ _) _ (hT0 q hq))
    (case ti =>
      (repeat refine List.forall_mem_cons.mpr ⟨by k_ne, ?_⟩)
      exact hTI)
    (case kx => exact hk_one (fun lc hl => (by walk_at "m sub" : ∀ q ∈ T, q ∈ _) _ (hkk lc hl)) (by k_mem))
    (case cM => exact Con.more cM (by walk_at "m sub"))
    (case cR => exact Con.more cR (by walk_at "m sub"))
    (case hb =>
      (repeat refine List.forall_mem_cons.mpr ⟨by walk_at "m or", ?_⟩)
      exact hTb)
theorem st2M {w : World} {fa : Addr} {g : Heap} {p : Program} {lo : List Str} {mean : ExcName → Option Value} {mg mb : Str → Option Value} {s : Shared} {L I : Addr} {T : List (Addr × Obj)} {d : Dat} {oLab oI : Obj} {ps : Array Value} {kk : Nat → Addr × Obj} {cnt : Int} {tc : Tok} {odM odR : Option Addr} {usM usR : List Value} {nM nR : Nat} {slM slR : Array (Option Value)} {lb : Int} {tl : Tok} {Ic Dc Cc cc : Addr} {oIc oDc oCc oO : Obj} {Q1 E1 : Value → Shared → Prop} {m : Str → Option Value} {cRR cMM : Cel} {T0 : List (Addr × Obj)} (f : Fix w L d T) (C : CodeHd g 411 409) (B : Below callerA g [] g) (X : (layK.heap_1 w.params).In g) (TG : Top p lo mean mg mb g) (taL : At w callerA g g p lo mean mg mb L (lawEnv fa L)) (hTI : ∀ q ∈ T, q.1 ≠ I) (hzI : d.z < I) (hI0 : I < Ic) (hD1 : Ic < Dc) (hD2 : Dc < Cc) (hD3 : Cc < cc)
    (hkk : ∀ lc ∈ lawPs, kk lc.1 ∈ T) (TO : TabOk d.z lawQu ps kk) (hlab : oLab.data = .cell (some (.int lb tl))) (hT0 : ∀ q ∈ T0, q ∈ T)
    (hb : ∀ q ∈ ((I, oI) :: (409, tabObj ps) :: (d.tin, listOf #[.ref d.sc, .int cnt tc] d.n1) :: (L + 1 + 1 + 1, oLab) :: (d.M.nl, lstO odM usM nM slM) :: (d.R.nl, lstO odR usR nR slR) :: T), q.1 < Ic ∨ cc < q.1) (hO : oO.data = .cell (some (.ref d.M.one)))
    (F : Fr g L s.heap m) (N : News g L s.heap ((cc, oO) :: (Ic, oIc) :: (Dc, oDc) :: (Cc, oCc) :: ((I, oI) :: (409, tabObj ps) :: (d.tin, listOf #[.ref d.sc, .int cnt tc] d.n1) :: (L + 1 + 1 + 1, oLab) :: (d.M.nl, lstO odM usM nM slM) :: (d.R.nl, lstO odR usR nR slR) :: T)))
    (cM : Con d T usM cMM) (cR : Con d T usR cRR)
    (q : ∀ v c1 nw h' tk', PutV (d.a < d.sz) v ∧ (d.a < d.sz → c1 = .no) ∧ (¬ d.a < d.sz → c1 = cMM) → CRel w L d I oI cnt tc oLab T0 cRR c1 nw → (∀ q ∈ nw, q.1 < Ic ∨ cc < q.1) → Fr g L h' m → News g L h' ((cc, oO) :: (Ic, oIc) :: (Dc, oDc) :: (Cc, oCc) :: nw) → Q1 v { s with heap := h', toks := tk' }) :
    wpAny (model PG w) (callerA.deeper (lawEnv fa L)) (eval (compElt 2) (compEnvC (compScope 2) (("one", cc) :: [("place", L + 1 + 1 + 1 + 1 + 1)]) Cc (lawEnv fa L))) Q1 E1 s := by
  have hA1 : ∀ q ∈ T, q.1 ≠ 409 := fun q hq => (f.apart q hq).1
  have hA2 : ∀ q ∈ T, q.1 ≠ d.tin := fun q hq => (f.apart q hq).2.1
  have hA3 : ∀ q ∈ T, q.1 ≠ L + 1 + 1 + 1 := fun q hq => (f.apart q hq).2.2.1
  have hA4 : ∀ q ∈ T, q.1 ≠ d.M.nl := fun q hq => (f.apart q hq).2.2.2.1
  have hA5 : ∀ q ∈ T, q.1 ≠ d.R.nl := fun q hq => (f.apart q hq).2.2.2.2
  have hMz := f.z
  have fS2 := f.M
  have k1 := ltN f.k1
  have k2 := ltN f.k2
  have k3 := ltN f.k3
  have k4 := ltN f.k4
  have k5 := ltN f.k5
  replace hzI := ltN hzI
  have e1 := cM.len
  have e2 := cR.len
  have s0' := f.s0
  have s1' := f.s1
  have a0' := f.a0
  replace hI0 := ltN hI0
  replace hD1 := ltN hD1
  replace hD2 := ltN hD2
  replace hD3 := ltN hD3
  have hz1 := lt_via hI0 hzI
  have hz2 := lt_via hD1 hz1
  have hz3 := lt_via hD2 hz2
  have hz4 := lt_via hD3 hz3
  have hcc : (cc, oO) ∈ ((cc, oO) :: (Ic, oIc) :: (Dc, oDc) :: (Cc, oCc) :: ((I, oI) :: (409, tabObj ps) :: (d.tin, listOf #[.ref d.sc, .int cnt tc] d.n1) :: (L + 1 + 1 + 1, oLab) :: (d.M.nl, lstO odM usM nM slM) :: (d.R.nl, lstO odR usR nR slR) :: T)) := .head _
  have hTb : ∀ q ∈ T, q.1 < Ic ∨ cc < q.1 := fun q hq => hb q (by refine mem_tail' (mem_tail' (mem_tail' (mem_tail' (mem_tail' (mem_tail' hq))))))
  unfold lawEnv at taL ⊢
  generalize hs : lawScope = sc at taL ⊢
  with_unfolding_all (conv at hs => lhs; whnf)
  subst hs
  generalize hs : compScope 2 = sc
  with_unfolding_all (conv at hs => lhs; whnf)
  subst hs
  generalize hs : compElt 2 = sc
  with_unfolding_all (conv at hs => lhs; whnf)
  subst hs
  repeat' ((fail_if_success (with_reducible show wpAny _ _ (execs [Stmt.If _ _ _ _, _] _) _ _ _)); (first | (k_unfold; (try dsimp only)) | (k_end; wrow_close) | walk1 | (dsimp only; walk1) | (leave1; walk_say "STEP leave1"; try dsimp only) | fail "no step"))
  ·
    dsimp only
    have N2 := perm_c (front := [_, _]) (c1 := (cc, oO)) (c2 := (Ic, oIc)) (by assumption)
    dsimp only [List.cons_append, List.nil_append] at N2
    refine' q _ _ _ _ _ ⟨.ok ((cM.lt s0').mp hq), fun _ => rfl, fun h => absurd ((cM.lt s0').mp hq) h⟩ ⟨_, _, _, _, _, _, _, _, _, _, _, rfl, ?fx, ?t0, ?ti, ?kx, TO, ?cM, ?cR⟩ ?hb (by with_reducible assumption) N2
    (case fx =>
      refine Fix.more f (by walk_at "m sub") ?_
      (repeat refine List.forall_mem_cons.mpr ⟨⟨by k_ne, by k_ne, by k_ne, by k_ne, by k_ne⟩, ?_⟩)
      exact f.apart)
    (case t0 => exact fun q hq => (by walk_at "m sub" : ∀ q ∈ T, q ∈ _) _ (hT0 q hq))
    (case ti =>
      (repeat refine List.forall_mem_cons.mpr ⟨by k_ne, ?_⟩)
      exact hTI)
    (case kx => exact hk_one (fun lc hl => (by walk_at "m sub" : ∀ q ∈ T, q ∈ _) _ (hkk lc hl)) (by k_mem))
    (case cM => exact con_undef cM (r := d.z) (or := d.oz) (by k_mem) a0')
    (case cR => exact Con.more cR (by walk_at "m sub"))
    (case hb =>
      (repeat refine List.forall_mem_cons.mpr ⟨by walk_at "m or", ?_⟩)
      exact hTb)
  ·
    dsimp only
    have N2 := perm_c (front := [_, _]) (c1 := (cc, oO)) (c2 := (Ic, oIc)) (by assumption)
    dsimp only [List.cons_append, List.nil_append] at N2
    refine' q _ _ _ _ _ ⟨.sto _ (fun z => hq ((cM.lt s0').mpr z)), fun h => absurd ((cM.lt s0').mpr h) hq, fun _ => rfl⟩ ⟨_, _, _, _, _, _, _, _, _, _, _, rfl, ?fx, ?t0, ?ti, ?kx, TO, ?cM, ?cR⟩ ?hb (by with_reducible assumption) N2
    (case fx =>
      refine Fix.more f (by walk_at "m sub") ?_
      (repeat refine List.forall_mem_cons.mpr ⟨⟨by k_ne, by k_ne, by k_ne, by k_ne, by k_ne⟩, ?_⟩)
      exact f.apart)
    (case t0 => exact fun q hq => (by walk_at "m sub" : ∀ q ∈ T, q ∈ _) _ (hT0 q hq))
    (case ti =>
      (repeat refine List.forall_mem_cons.mpr ⟨by k_ne, ?_⟩)
      exact hTI)
    (case kx => exact hk_one (fun lc hl => (by walk_at "m sub" : ∀ q ∈ T, q ∈ _) _ (hkk lc hl)) (by k_mem))
    (case cM => exact Con.more cM (by walk_at "m sub"))
    (case cR => exact Con.more cR (by walk_at "m sub"))
    (case hb =>
      (repeat refine List.forall_mem_cons.mpr ⟨by walk_at "m or", ?_⟩)
      exact hTb)
theorem cs2_kind : (compScope 2).kind = .function := by
  generalize hs : compScope 2 = sc
  with_unfolding_all (conv at hs => lhs; whnf)
  subst hs
  rfl
theorem cs2_x {fa : Addr} (L C c : Addr) : (compEnvC (compScope 2) (("one", c) :: [("place", L + 1 + 1 + 1 + 1 + 1)]) C (lawEnv fa L)).kindOf "one" = some .cell := by
  generalize hs : compScope 2 = sc
  with_unfolding_all (conv at hs => lhs; whnf)
  subst hs
  unfold lawEnv
  generalize hs : lawScope = sc
  with_unfolding_all (conv at hs => lhs; whnf)
  subst hs
  rfl
theorem cs2_y {fa : Addr} (L : Addr) : (lawEnv fa L).kindOf "heard" = some .local := by
  unfold lawEnv
  generalize hs : lawScope = sc
  with_unfolding_all (conv at hs => lhs; whnf)
  subst hs
  rfl
theorem cs2_p {fa : Addr} (L : Addr) : ((lawEnv fa L).scope.kind == .class || ((lawEnv fa L).scope.kind == .module && (lawEnv fa L).locals != (lawEnv fa L).globals)) = false := by
  unfold lawEnv
  generalize hs : lawScope = sc
  with_unfolding_all (conv at hs => lhs; whnf)
  subst hs
  rfl
theorem cs2_cells (L k : Addr) : cellsFrom k (compScope 2).names [("place", L + 1 + 1 + 1 + 1 + 1)] = (Str.ofString "one", k) :: [("place", L + 1 + 1 + 1 + 1 + 1)] := by
  generalize hs : compScope 2 = sc
  with_unfolding_all (conv at hs => lhs; whnf)
  subst hs
  rfl
theorem cs2_push (h : Heap) : pushCells h (compScope 2).names = h.push { cls := .type "cell", data := .cell none } := by
  generalize hs : compScope 2 = sc
  with_unfolding_all (conv at hs => lhs; whnf)
  subst hs
  rfl
theorem cw2 {w : World} {fa : Addr} {g : Heap} {p : Program} {lo : List Str} {mean : ExcName → Option Value} {mg mb : Str → Option Value} {s : Shared} {L I : Addr} {T : List (Addr × Obj)} {d : Dat} {oLab oI : Obj} {ps : Array Value} {kk : Nat → Addr × Obj} {cnt : Int} {tc : Tok} {odM odR : Option Addr} {usM usR : List Value} {nM nR : Nat} {slM slR : Array (Option Value)} {lb : Int} {tl : Tok} {m : Str → Option Value} {cRR : Cel} {Tt : Addr} {nT : Nat} {iter : Expr} {px pos py : Pos} {Qn : Shared → Prop} {E : Value → Shared → Prop} (f : Fix w L d T) (C : CodeHd g 411 409) (B : Below callerA g [] g) (X : (layK.heap_1 w.params).In g) (TG : Top p lo mean mg mb g) (taL : At w callerA g g p lo mean mg mb L (lawEnv fa L)) (hTI : ∀ q ∈ T, q.1 ≠ I) (hzI : d.z < I)
    (hkk : ∀ lc ∈ lawPs, kk lc.1 ∈ T) (TO : TabOk d.z lawQu ps kk) (hlab : oLab.data = .cell (some (.int lb tl)))
    (F : Fr g L s.heap m) (N : News g L s.heap ((I, oI) :: (409, tabObj ps) :: (d.tin, listOf #[.ref d.sc, .int cnt tc] d.n1) :: (L + 1 + 1 + 1, oLab) :: (d.M.nl, lstO odM usM nM slM) :: (d.R.nl, lstO odR usR nR slR) :: T)) (hTt : (Tt, tupOf [.ref d.R.one, .ref d.M.one] nT) ∈ T)
    (cM : Con d T usM cRR) (cR : Con d T usR cRR)
    (q : ∀ v1 v2 c1 c2 nw D nD h tk, PutV (d.a < d.sz) v1 → PutV (d.a < d.sz) v2 → ((d.a < d.sz → c1 = .no) ∧ (¬ d.a < d.sz → c1 = cRR)) → ((d.a < d.sz → c2 = .no) ∧ (¬ d.a < d.sz → c2 = cRR)) → CRel w L d I oI cnt tc oLab T c1 c2 nw → (∀ p ∈ nw, p.1 ≠ D) → I < D → Fr g L h (fun z => if z = "heard" then some (.ref D) else m z) → News g L h ((D, listOf #[v1, v2] nD) :: nw) → Qn { s with heap := h, toks := tk }) :
    wpAny (model PG w) (callerA.deeper (lawEnv fa L)) (pyIter (.ref Tt)) (fun it s₂ => wpAny (model PG w) (callerA.deeper (lawEnv fa L)) (newList []) (fun acc s₃ =>
      wpAny (model PG w) (callerA.deeper (lawEnv fa L)) (newFunctionEnv (compScope 2) (lawEnv fa L).globals [("place", L + 1 + 1 + 1 + 1 + 1)] [] (lawEnv fa L).qual none .none (some (lawEnv fa L))) (fun cenv s₄ =>
        codeAny (model PG w) (callerA.deeper (lawEnv fa L)) (.compStart (.ListComp (compElt 2) [⟨.Name "one" px, iter, [], 0⟩] (compScope 2) pos) 0 it acc { cenv with scope := relabel (compScope 2) (lawEnv fa L) }) (compPost (model PG w) (callerA.deeper (lawEnv fa L)) E (some (assign (.Name "heard" py) (lawEnv fa L))) (fun _ s' => Qn s') acc cenv.locals) s₄) E s₃) E s₂) E s := by
  refine comp2u (Q0 := fun _ s' => Qn s') (env := lawEnv fa L) (y := "heard") (x := "one") (elt := compElt 2) (scope := compScope 2) (cl := [("place", L + 1 + 1 + 1 + 1 + 1)]) (R1 := fun v nw => PutV (d.a < d.sz) v ∧ ∃ c1, ((d.a < d.sz → c1 = .no) ∧ (¬ d.a < d.sz → c1 = cRR)) ∧ CRel w L d I oI cnt tc oLab T c1 cRR nw) (R2 := fun v1 v nw => PutV (d.a < d.sz) v1 ∧ PutV (d.a < d.sz) v ∧ ∃ c1 c2, ((d.a < d.sz → c1 = .no) ∧ (¬ d.a < d.sz → c1 = cRR)) ∧ ((d.a < d.sz → c2 = .no) ∧ (¬ d.a < d.sz → c2 = cRR)) ∧ CRel w L d I oI cnt tc oLab T c1 c2 nw)
    rfl (cs2_y L) (cs2_p L) rfl F N (mem_tail' (mem_tail' (mem_tail' (mem_tail' (mem_tail' (mem_tail' hTt)))))) cs2_kind (cs2_x L) (cs2_cells L) cs2_push ?_ ?_ ?_
  · intro Ic Dc Cc cc oIc oDc oCc oO h tk Q1 E1 l1 l2 l3 lb' hO F3 N3 cont
    refine st2R (s := { s with heap := h, toks := tk }) f C B X TG taL hTI hzI (lb' (I, oI) (.head _)) l1 l2 l3 hkk TO hlab (fun q hq => hq) (fun q hq => .inl (lb' q hq)) hO F3 N3 cM cR (fun v c1 nw h' tk' hw hC hb F4 N4 => ?_)
    obtain ⟨hw1, hw2, hw3⟩ := hw
    refine cont v nw h' tk' ⟨hw1, c1, ⟨hw2, hw3⟩, hC⟩ hb ?_ F4 N4
    obtain ⟨T3, _, _, _, _, _, _, _, _, _, _, rfl, _, sub, _⟩ := hC
    exact mem_tail' (mem_tail' (mem_tail' (mem_tail' (mem_tail' (mem_tail' (sub _ hTt))))))
  · rintro v1 news1 ⟨hv1, c1, hp1, T3, ps3, kk3, odM3, odR3, usM3, usR3, nM3, nR3, slM3, slR3, rfl, f3, sub3, hTI3, hkk3, TO3, cM3, cR3⟩ Ic Dc Cc cc oIc oDc oCc oO h tk Q1 E1 l1 l2 l3 lb' lb2 hO F3 N3 cont
    refine st2M (s := { s with heap := h, toks := tk }) (T0 := T) f3 C B X TG taL hTI3 hzI (lb' (I, oI) (.head _)) l1 l2 l3 hkk3 TO3 hlab sub3 lb2 hO F3 N3 cM3 cR3 (fun v c2 nw h' tk' hw hC hb F4 N4 => ?_)
    obtain ⟨hw1, hw2, hw3⟩ := hw
    refine cont v nw h' tk' ⟨hv1, hw1, c1, c2, hp1, ⟨hw2, hw3⟩, hC⟩ hb ?_ F4 N4
    obtain ⟨T4, _, _, _, _, _, _, _, _, _, _, rfl, _, sub, _⟩ := hC
    exact mem_tail' (mem_tail' (mem_tail' (mem_tail' (mem_tail' (mem_tail' (sub _ hTt))))))
  · rintro v1 v2 nw D nD h tk ⟨hv1, hv2, c1, c2, p1, p2, hC⟩ hne hlt F4 N4
    exact q v1 v2 c1 c2 nw D nD h tk hv1 hv2 p1 p2 hC hne (hlt (I, oI) (.head _)) F4 N4
theorem st4R {w : World} {fa : Addr} {g : Heap} {p : Program} {lo : List Str} {mean : ExcName → Option Value} {mg mb : Str → Option Value} {s : Shared} {L I : Addr} {T : List (Addr × Obj)} {d : Dat} {oLab oI : Obj} {ps : Array Value} {kk : Nat → Addr × Obj} {cnt : Int} {tc : Tok} {odM odR : Option Addr} {usM usR : List Value} {nM nR : Nat} {slM slR : Array (Option Value)} {lb : Int} {tl : Tok} {Ic Dc Cc cc : Addr} {oIc oDc oCc oO : Obj} {Q1 E1 : Value → Shared → Prop} {m : Str → Option Value} {cRR cMM : Cel} {T0 : List (Addr × Obj)} (f : Fix w L d T) (C : CodeHd g 411 409) (B : Below callerA g [] g) (X : (layK.heap_1 w.params).In g) (TG : Top p lo mean mg mb g) (taL : At w callerA g g p lo mean mg mb L (lawEnv fa L)) (hTI : ∀ q ∈ T, q.1 ≠ I) (hzI : d.z < I) (hI0 : I < Ic) (hD1 : Ic < Dc) (hD2 : Dc < Cc) (hD3 : Cc < cc)
    (hkk : ∀ lc ∈ lawPs, kk lc.1 ∈ T) (TO : TabOk d.z lawQu ps kk) (hlab : oLab.data = .cell (some (.int lb tl))) (hT0 : ∀ q ∈ T0, q ∈ T)
    (hb : ∀ q ∈ ((I, oI) :: (409, tabObj ps) :: (d.tin, listOf #[.ref d.sc, .int cnt tc] d.n1) :: (L + 1 + 1 + 1, oLab) :: (d.M.nl, lstO odM usM nM slM) :: (d.R.nl, lstO odR usR nR slR) :: T), q.1 < Ic ∨ cc < q.1) (hO : oO.data = .cell (some (.ref d.R.one)))
    (F : Fr g L s.heap m) (N : News g L s.heap ((cc, oO) :: (Ic, oIc) :: (Dc, oDc) :: (Cc, oCc) :: ((I, oI) :: (409, tabObj ps) :: (d.tin, listOf #[.ref d.sc, .int cnt tc] d.n1) :: (L + 1 + 1 + 1, oLab) :: (d.M.nl, lstO odM usM nM slM) :: (d.R.nl, lstO odR usR nR slR) :: T)))
    (cM : Con d T usM cMM) (cR : Con d T usR cRR)
    (q : ∀ v c1 nw h' tk', LoadV (d.a < d.sz) cRR v ∧ c1 = cRR → CRel w L d I oI cnt tc oLab T0 c1 cMM nw → (∀ q ∈ nw, q.1 < Ic ∨ cc < q.1) → Fr g L h' m → News g L h' ((cc, oO) :: (Ic, oIc) :: (Dc, oDc) :: (Cc, oCc) :: nw) → Q1 v { s with heap := h', toks := tk' }) :
    wpAny (model PG w) (callerA.deeper (lawEnv fa L)) (eval (compElt 4) (compEnvC (compScope 4) (("one", cc) :: [("place", L + 1 + 1 + 1 + 1 + 1)]) Cc (lawEnv fa L))) Q1 E1 s := by
  have hA1 : ∀ q ∈ T, q.1 ≠ 409 := fun q hq => (f.apart q hq).1
  have hA2 : ∀ q ∈ T, q.1 ≠ d.tin := fun q hq => (f.apart q hq).2.1
  have hA3 : ∀ q ∈ T, q.1 ≠ L + 1 + 1 + 1 := fun q hq => (f.apart q hq).2.2.1
  have hA4 : ∀ q ∈ T, q.1 ≠ d.M.nl := fun q hq => (f.apart q hq).2.2.2.1
  have hA5 : ∀ q ∈ T, q.1 ≠ d.R.nl := fun q hq => (f.apart q hq).2.2.2.2
  have hMz := f.z
  have fS4 := f.R
  have cS := cR
  have k1 := ltN f.k1
  have k2 := ltN f.k2
  have k3 := ltN f.k3
  have k4 := ltN f.k4
  have k5 := ltN f.k5
  replace hzI := ltN hzI
  have e1 := cM.len
  have e2 := cR.len
  have s0' := f.s0
  have s1' := f.s1
  have a0' := f.a0
  replace hI0 := ltN hI0
  replace hD1 := ltN hD1
  replace hD2 := ltN hD2
  replace hD3 := ltN hD3
  have hz1 := lt_via hI0 hzI
  have hz2 := lt_via hD1 hz1
  have hz3 := lt_via hD2 hz2
  have hz4 := lt_via hD3 hz3
  have hcc : (cc, oO) ∈ ((cc, oO) :: (Ic, oIc) :: (Dc, oDc) :: (Cc, oCc) :: ((I, oI) :: (409, tabObj ps) :: (d.tin, listOf #[.ref d.sc, .int cnt tc] d.n1) :: (L + 1 + 1 + 1, oLab) :: (d.M.nl, lstO odM usM nM slM) :: (d.R.nl, lstO odR usR nR slR) :: T)) := .head _
  have hTb : ∀ q ∈ T, q.1 < Ic ∨ cc < q.1 := fun q hq => hb q (by refine mem_tail' (mem_tail' (mem_tail' (mem_tail' (mem_tail' (mem_tail' hq))))))
  unfold lawEnv at taL ⊢
  generalize hs : lawScope = sc at taL ⊢
  with_unfolding_all (conv at hs => lhs; whnf)
  subst hs
  generalize hs : compScope 4 = sc
  with_unfolding_all (conv at hs => lhs; whnf)
  subst hs
  generalize hs : compElt 4 = sc
  with_unfolding_all (conv at hs => lhs; whnf)
  subst hs
  repeat' ((fail_if_success (with_reducible show wpAny _ _ (execs [Stmt.If _ _ _ _, _] _) _ _ _)); (first | (k_unfold; (try dsimp only)) | (k_end; wrow_close) | walk1 | (dsimp only; walk1) | (leave1; walk_say "STEP leave1"; try dsimp only) | fail "no step"))
  ·
    dsimp only
    have N2 := perm_c (front := [_, _]) (c1 := (cc, oO)) (c2 := (Ic, oIc)) (by assumption)
    dsimp only [List.cons_append, List.nil_append] at N2
    refine' q _ _ _ _ _ ⟨hv', rfl⟩ ⟨_, _, _, _, _, _, _, _, _, _, _, rfl, ?fx, ?t0, ?ti, ?kx, TO, ?cM, ?cR⟩ ?hb (by with_reducible assumption) N2
    (case fx =>
      refine Fix.more f (by walk_at "m sub") ?_
      (repeat refine List.forall_mem_cons.mpr ⟨⟨by k_ne, by k_ne, by k_ne, by k_ne, by k_ne⟩, ?_⟩)
      exact f.apart)
    (case t0 => exact fun q hq => (by walk_at "m sub" : ∀ q ∈ T, q ∈ _) _ (hT0 q hq))
    (case ti =>
      (repeat refine List.forall_mem_cons.mpr ⟨by k_ne, ?_⟩)
      exact hTI)
    (case kx => exact hk_one (fun lc hl => (by walk_at "m sub" : ∀ q ∈ T, q ∈ _) _ (hkk lc hl)) (by k_mem))
    (case cM => exact Con.more cM (by walk_at "m sub"))
    (case cR => exact Con.more cR (by walk_at "m sub"))
    (case hb =>
      (repeat refine List.forall_mem_cons.mpr ⟨by walk_at "m or", ?_⟩)
      exact hTb)
theorem st4M {w : World} {fa : Addr} {g : Heap} {p : Program} {lo : List Str} {mean : ExcName → Option Value} {mg mb : Str → Option Value} {s : Shared} {L I : Addr} {T : List (Addr × Obj)} {d : Dat} {oLab oI : Obj} {ps : Array Value} {kk : Nat → Addr × Obj} {cnt : Int} {tc : Tok} {odM odR : Option Addr} {usM usR : List Value} {nM nR : Nat} {slM slR : Array (Option Value)} {lb : Int} {tl : Tok} {Ic Dc Cc cc : Addr} {oIc oDc oCc oO : Obj} {Q1 E1 : Value → Shared → Prop} {m : Str → Option Value} {cRR cMM : Cel} {T0 : List (Addr × Obj)} (f : Fix w L d T) (C : CodeHd g 411 409) (B : Below callerA g [] g) (X : (layK.heap_1 w.params).In g) (TG : Top p lo mean mg mb g) (taL : At w callerA g g p lo mean mg mb L (lawEnv fa L)) (hTI : ∀ q ∈ T, q.1 ≠ I) (hzI : d.z < I) (hI0 : I < Ic) (hD1 : Ic < Dc) (hD2 : Dc < Cc) (hD3 : Cc < cc)
    (hkk : ∀ lc ∈ lawPs, kk lc.1 ∈ T) (TO : TabOk d.z lawQu ps kk) (hlab : oLab.data = .cell (some (.int lb tl))) (hT0 : ∀ q ∈ T0, q ∈ T)
    (hb : ∀ q ∈ ((I, oI) :: (409, tabObj ps) :: (d.tin, listOf #[.ref d.sc, .int cnt tc] d.n1) :: (L + 1 + 1 + 1, oLab) :: (d.M.nl, lstO odM usM nM slM) :: (d.R.nl, lstO odR usR nR slR) :: T), q.1 < Ic ∨ cc < q.1) (hO : oO.data = .cell (some (.ref d.M.one)))
    (F : Fr g L s.heap m) (N : News g L s.heap ((cc, oO) :: (Ic, oIc) :: (Dc, oDc) :: (Cc, oCc) :: ((I, oI) :: (409, tabObj ps) :: (d.tin, listOf #[.ref d.sc, .int cnt tc] d.n1) :: (L + 1 + 1 + 1, oLab) :: (d.M.nl, lstO odM usM nM slM) :: (d.R.nl, lstO odR usR nR slR) :: T)))
    (cM : Con d T usM cMM) (cR : Con d T usR cRR)
    (q : ∀ v c1 nw h' tk', LoadV (d.a < d.sz) cMM v ∧ c1 = cMM → CRel w L d I oI cnt tc oLab T0 cRR c1 nw → (∀ q ∈ nw, q.1 < Ic ∨ cc < q.1) → Fr g L h' m → News g L h' ((cc, oO) :: (Ic, oIc) :: (Dc, oDc) :: (Cc, oCc) :: nw) → Q1 v { s with heap := h', toks := tk' }) :
    wpAny (model PG w) (callerA.deeper (lawEnv fa L)) (eval (compElt 4) (compEnvC (compScope 4) (("one", cc) :: [("place", L + 1 + 1 + 1 + 1 + 1)]) Cc (lawEnv fa L))) Q1 E1 s := by
  have hA1 : ∀ q ∈ T, q.1 ≠ 409 := fun q hq => (f.apart q hq).1
  have hA2 : ∀ q ∈ T, q.1 ≠ d.tin := fun q hq => (f.apart q hq).2.1
  have hA3 : ∀ q ∈ T, q.1 ≠ L + 1 + 1 + 1 := fun q hq => (f.apart q hq).2.2.1
  have hA4 : ∀ q ∈ T, q.1 ≠ d.M.nl := fun q hq => (f.apart q hq).2.2.2.1
  have hA5 : ∀ q ∈ T, q.1 ≠ d.R.nl := fun q hq => (f.apart q hq).2.2.2.2
  have hMz := f.z
  have fS4 := f.M
  have cS := cM
  have k1 := ltN f.k1
  have k2 := ltN f.k2
  have k3 := ltN f.k3
  have k4 := ltN f.k4
  have k5 := ltN f.k5
  replace hzI := ltN hzI
  have e1 := cM.len
  have e2 := cR.len
  have s0' := f.s0
  have s1' := f.s1
  have a0' := f.a0
  replace hI0 := ltN hI0
  replace hD1 := ltN hD1
  replace hD2 := ltN hD2
  replace hD3 := ltN hD3
  have hz1 := lt_via hI0 hzI
  have hz2 := lt_via hD1 hz1
  have hz3 := lt_via hD2 hz2
  have hz4 := lt_via hD3 hz3
  have hcc : (cc, oO) ∈ ((cc, oO) :: (Ic, oIc) :: (Dc, oDc) :: (Cc, oCc) :: ((I, oI) :: (409, tabObj ps) :: (d.tin, listOf #[.ref d.sc, .int cnt tc] d.n1) :: (L + 1 + 1 + 1, oLab) :: (d.M.nl, lstO odM usM nM slM) :: (d.R.nl, lstO odR usR nR slR) :: T)) := .head _
  have hTb : ∀ q ∈ T, q.1 < Ic ∨ cc < q.1 := fun q hq => hb q (by refine mem_tail' (mem_tail' (mem_tail' (mem_tail' (mem_tail' (mem_tail' hq))))))
  unfold lawEnv at taL ⊢
  generalize hs : lawScope = sc at taL ⊢
  with_unfolding_all (conv at hs => lhs; whnf)
  subst hs
  generalize hs : compScope 4 = sc
  with_unfolding_all (conv at hs => lhs; whnf)
  subst hs
  generalize hs : compElt 4 = sc
  with_unfolding_all (conv at hs => lhs; whnf)
  subst hs
  repeat' ((fail_if_success (with_reducible show wpAny _ _ (execs [Stmt.If _ _ _ _, _] _) _ _ _)); (first | (k_unfold; (try dsimp only)) | (k_end; wrow_close) | walk1 | (dsimp only; walk1) | (leave1; walk_say "STEP leave1"; try dsimp only) | fail "no step"))
  ·
    dsimp only
    have N2 := perm_c (front := [_, _]) (c1 := (cc, oO)) (c2 := (Ic, oIc)) (by assumption)
    dsimp only [List.cons_append, List.nil_append] at N2
    refine' q _ _ _ _ _ ⟨hv', rfl⟩ ⟨_, _, _, _, _, _, _, _, _, _, _, rfl, ?fx, ?t0, ?ti, ?kx, TO, ?cM, ?cR⟩ ?hb (by with_reducible assumption) N2
    (case fx =>
      refine Fix.more f (by walk_at "m sub") ?_
      (repeat refine List.forall_mem_cons.mpr ⟨⟨by k_ne, by k_ne, by k_ne, by k_ne, by k_ne⟩, ?_⟩)
      exact f.apart)
    (case t0 => exact fun q hq => (by walk_at "m sub" : ∀ q ∈ T, q ∈ _) _ (hT0 q hq))
    (case ti =>
      (repeat refine List.forall_mem_cons.mpr ⟨by k_ne, ?_⟩)
      exact hTI)
    (case kx => exact hk_one (fun lc hl => (by walk_at "m sub" : ∀ q ∈ T, q ∈ _) _ (hkk lc hl)) (by k_mem))
    (case cM => exact Con.more cM (by walk_at "m sub"))
    (case cR => exact Con.more cR (by walk_at "m sub"))
    (case hb =>
      (repeat refine List.forall_mem_cons.mpr ⟨by walk_at "m or", ?_⟩)
      exact hTb)
theorem cs4_kind : (compScope 4).kind = .function := by
  generalize hs : compScope 4 = sc
  with_unfolding_all (conv at hs => lhs; whnf)
  subst hs
  rfl
theorem cs4_x {fa : Addr} (L C c : Addr) : (compEnvC (compScope 4) (("one", c) :: [("place", L + 1 + 1 + 1 + 1 + 1)]) C (lawEnv fa L)).kindOf "one" = some .cell := by
  generalize hs : compScope 4 = sc
  with_unfolding_all (conv at hs => lhs; whnf)
  subst hs
  unfold lawEnv
  generalize hs : lawScope = sc
  with_unfolding_all (conv at hs => lhs; whnf)
  subst hs
  rfl
theorem cs4_y {fa : Addr} (L : Addr) : (lawEnv fa L).kindOf "heard" = some .local := by
  unfold lawEnv
  generalize hs : lawScope = sc
  with_unfolding_all (conv at hs => lhs; whnf)
  subst hs
  rfl
theorem cs4_p {fa : Addr} (L : Addr) : ((lawEnv fa L).scope.kind == .class || ((lawEnv fa L).scope.kind == .module && (lawEnv fa L).locals != (lawEnv fa L).globals)) = false := by
  unfold lawEnv
  generalize hs : lawScope = sc
  with_unfolding_all (conv at hs => lhs; whnf)
  subst hs
  rfl
theorem cs4_cells (L k : Addr) : cellsFrom k (compScope 4).names [("place", L + 1 + 1 + 1 + 1 + 1)] = (Str.ofString "one", k) :: [("place", L + 1 + 1 + 1 + 1 + 1)] := by
  generalize hs : compScope 4 = sc
  with_unfolding_all (conv at hs => lhs; whnf)
  subst hs
  rfl
theorem cs4_push (h : Heap) : pushCells h (compScope 4).names = h.push { cls := .type "cell", data := .cell none } := by
  generalize hs : compScope 4 = sc
  with_unfolding_all (conv at hs => lhs; whnf)
  subst hs
  rfl
theorem cw4 {w : World} {fa : Addr} {g : Heap} {p : Program} {lo : List Str} {mean : ExcName → Option Value} {mg mb : Str → Option Value} {s : Shared} {L I : Addr} {T : List (Addr × Obj)} {d : Dat} {oLab oI : Obj} {ps : Array Value} {kk : Nat → Addr × Obj} {cnt : Int} {tc : Tok} {odM odR : Option Addr} {usM usR : List Value} {nM nR : Nat} {slM slR : Array (Option Value)} {lb : Int} {tl : Tok} {m : Str → Option Value} {cRR : Cel} {Tt : Addr} {nT : Nat} {iter : Expr} {px pos py : Pos} {Qn : Shared → Prop} {E : Value → Shared → Prop} (f : Fix w L d T) (C : CodeHd g 411 409) (B : Below callerA g [] g) (X : (layK.heap_1 w.params).In g) (TG : Top p lo mean mg mb g) (taL : At w callerA g g p lo mean mg mb L (lawEnv fa L)) (hTI : ∀ q ∈ T, q.1 ≠ I) (hzI : d.z < I)
    (hkk : ∀ lc ∈ lawPs, kk lc.1 ∈ T) (TO : TabOk d.z lawQu ps kk) (hlab : oLab.data = .cell (some (.int lb tl)))
    (F : Fr g L s.heap m) (N : News g L s.heap ((I, oI) :: (409, tabObj ps) :: (d.tin, listOf #[.ref d.sc, .int cnt tc] d.n1) :: (L + 1 + 1 + 1, oLab) :: (d.M.nl, lstO odM usM nM slM) :: (d.R.nl, lstO odR usR nR slR) :: T)) (hTt : (Tt, tupOf [.ref d.R.one, .ref d.M.one] nT) ∈ T)
    (cM : Con d T usM cRR) (cR : Con d T usR cRR)
    (q : ∀ v1 v2 c1 c2 nw D nD h tk, LoadV (d.a < d.sz) cRR v1 → LoadV (d.a < d.sz) cRR v2 → (c1 = cRR) → (c2 = cRR) → CRel w L d I oI cnt tc oLab T c1 c2 nw → (∀ p ∈ nw, p.1 ≠ D) → I < D → Fr g L h (fun z => if z = "heard" then some (.ref D) else m z) → News g L h ((D, listOf #[v1, v2] nD) :: nw) → Qn { s with heap := h, toks := tk }) :
    wpAny (model PG w) (callerA.deeper (lawEnv fa L)) (pyIter (.ref Tt)) (fun it s₂ => wpAny (model PG w) (callerA.deeper (lawEnv fa L)) (newList []) (fun acc s₃ =>
      wpAny (model PG w) (callerA.deeper (lawEnv fa L)) (newFunctionEnv (compScope 4) (lawEnv fa L).globals [("place", L + 1 + 1 + 1 + 1 + 1)] [] (lawEnv fa L).qual none .none (some (lawEnv fa L))) (fun cenv s₄ =>
        codeAny (model PG w) (callerA.deeper (lawEnv fa L)) (.compStart (.ListComp (compElt 4) [⟨.Name "one" px, iter, [], 0⟩] (compScope 4) pos) 0 it acc { cenv with scope := relabel (compScope 4) (lawEnv fa L) }) (compPost (model PG w) (callerA.deeper (lawEnv fa L)) E (some (assign (.Name "heard" py) (lawEnv fa L))) (fun _ s' => Qn s') acc cenv.locals) s₄) E s₃) E s₂) E s := by
  refine comp2u (Q0 := fun _ s' => Qn s') (env := lawEnv fa L) (y := "heard") (x := "one") (elt := compElt 4) (scope := compScope 4) (cl := [("place", L + 1 + 1 + 1 + 1 + 1)]) (R1 := fun v nw => LoadV (d.a < d.sz) cRR v ∧ ∃ c1, (c1 = cRR) ∧ CRel w L d I oI cnt tc oLab T c1 cRR nw) (R2 := fun v1 v nw => LoadV (d.a < d.sz) cRR v1 ∧ LoadV (d.a < d.sz) cRR v ∧ ∃ c1 c2, (c1 = cRR) ∧ (c2 = cRR) ∧ CRel w L d I oI cnt tc oLab T c1 c2 nw)
    rfl (cs4_y L) (cs4_p L) rfl F N (mem_tail' (mem_tail' (mem_tail' (mem_tail' (mem_tail' (mem_tail' hTt)))))) cs4_kind (cs4_x L) (cs4_cells L) cs4_push ?_ ?_ ?_
  · intro Ic Dc Cc cc oIc oDc oCc oO h tk Q1 E1 l1 l2 l3 lb' hO F3 N3 cont
    refine st4R (s := { s with heap := h, toks := tk }) f C B X TG taL hTI hzI (lb' (I, oI) (.head _)) l1 l2 l3 hkk TO hlab (fun q hq => hq) (fun q hq => .inl (lb' q hq)) hO F3 N3 cM cR (fun v c1 nw h' tk' hw hC hb F4 N4 => ?_)
    obtain ⟨hw1, hw2⟩ := hw
    refine cont v nw h' tk' ⟨hw1, c1, hw2, hC⟩ hb ?_ F4 N4
    obtain ⟨T3, _, _, _, _, _, _, _, _, _, _, rfl, _, sub, _⟩ := hC
    exact mem_tail' (mem_tail' (mem_tail' (mem_tail' (mem_tail' (mem_tail' (sub _ hTt))))))
  · rintro v1 news1 ⟨hv1, c1, hp1, T3, ps3, kk3, odM3, odR3, usM3, usR3, nM3, nR3, slM3, slR3, rfl, f3, sub3, hTI3, hkk3, TO3, cM3, cR3⟩ Ic Dc Cc cc oIc oDc oCc oO h tk Q1 E1 l1 l2 l3 lb' lb2 hO F3 N3 cont
    refine st4M (s := { s with heap := h, toks := tk }) (T0 := T) f3 C B X TG taL hTI3 hzI (lb' (I, oI) (.head _)) l1 l2 l3 hkk3 TO3 hlab sub3 lb2 hO F3 N3 cM3 cR3 (fun v c2 nw h' tk' hw hC hb F4 N4 => ?_)
    obtain ⟨hw1, hw2⟩ := hw
    refine cont v nw h' tk' ⟨hv1, hw1, c1, c2, hp1, hw2, hC⟩ hb ?_ F4 N4
    obtain ⟨T4, _, _, _, _, _, _, _, _, _, _, rfl, _, sub, _⟩ := hC
    exact mem_tail' (mem_tail' (mem_tail' (mem_tail' (mem_tail' (mem_tail' (sub _ hTt))))))
  · rintro v1 v2 nw D nD h tk ⟨hv1, hv2, c1, c2, p1, p2, hC⟩ hne hlt F4 N4
    exact q v1 v2 c1 c2 nw D nD h tk hv1 hv2 p1 p2 hC hne (hlt (I, oI) (.head _)) F4 N4
theorem t_way0 {w : World} {fa : Addr} {g : Heap} {p : Program} {lo : List Str} {mean : ExcName → Option Value} {mg mb : Str → Option Value} {s : Shared} {E : Value → Shared → Prop} {L I : Addr} {T : List (Addr × Obj)} {d : Dat} {oLab oI : Obj} {ps : Array Value} {kk : Nat → Addr × Obj} {hv : Value} {m0 : Str → Option Value} {cnt : Int} {tc : Tok} {odM odR : Option Addr} {usM usR : List Value} {nM nR : Nat} {slM slR : Array (Option Value)} {c : Cel} {lb : Int} {tr tl : Tok} {fp fm : Addr} {s0 : Shared} (f : Fix w L d T) (C : CodeHd g 411 409) (B : Below callerA g [] g) (X : (layK.heap_1 w.params).In g) (TG : Top p lo mean mg mb g) (taL : At w callerA g g p lo mean mg mb L (lawEnv fa L)) (hTI : ∀ q ∈ T, q.1 ≠ I) (hzI : d.z < I)
    (hkk : ∀ lc ∈ lawPs, kk lc.1 ∈ T) (TO : TabOk d.z lawQu ps kk) (hc : 0 ≤ cnt) (hlab : oLab.data = .cell (some (.int lb tl))) (hlb : lb = 10 ∨ lb = 20 ∨ lb = 30) (aP : AskP L fp T) (aM : AskM L fm T)
    (F : Fr g L s.heap (MW d hv 0 tr fp fm m0)) (N : News g L s.heap ((I, oI) :: (409, tabObj ps) :: (d.tin, listOf #[.ref d.sc, .int cnt tc] d.n1) :: (L + 1 + 1 + 1, oLab) :: (d.M.nl, lstO odM usM nM slM) :: (d.R.nl, lstO odR usR nR slR) :: T))
    (hH : Held d hv c) (cM : Con d T usM c) (cR : Con d T usR c) (hs0 : ∃ h tk, s = { s0 with heap := h, toks := tk }) :
    wpAny (model PG w) (callerA.deeper (lawEnv fa L)) (execs (forBody.drop 3) (lawEnv fa L)) (TurnPost g L (Jt w L d) I oI s0) E s := by
  obtain ⟨h0, tk0, rfl⟩ := hs0
  have hA1 : ∀ q ∈ T, q.1 ≠ 409 := fun q hq => (f.apart q hq).1
  have hA2 : ∀ q ∈ T, q.1 ≠ d.tin := fun q hq => (f.apart q hq).2.1
  have hA3 : ∀ q ∈ T, q.1 ≠ L + 1 + 1 + 1 := fun q hq => (f.apart q hq).2.2.1
  have hA4 : ∀ q ∈ T, q.1 ≠ d.M.nl := fun q hq => (f.apart q hq).2.2.2.1
  have hA5 : ∀ q ∈ T, q.1 ≠ d.R.nl := fun q hq => (f.apart q hq).2.2.2.2
  have mkWay0 := f.z
  have k1 := ltN f.k1
  have k2 := ltN f.k2
  have k3 := ltN f.k3
  have k4 := ltN f.k4
  have k5 := ltN f.k5
  replace hzI := ltN hzI
  have e1 := cM.len
  have e2 := cR.len
  have s0' := f.s0
  have s1' := f.s1
  have a0' := f.a0
  have taL0 := taL
  unfold lawEnv at taL ⊢
  generalize hs : lawScope = sc at taL ⊢
  with_unfolding_all (conv at hs => lhs; whnf)
  subst hs
  generalize hb : forBody.drop 3 = b
  with_unfolding_all (conv at hb => lhs; whnf)
  subst hb
  by_cases hlt : d.a < d.sz
  · repeat' ((fail_if_success (with_reducible show wpAny _ _ (execs [Stmt.If _ _ _ _, _] _) _ _ _)); (first | (k_unfold; (try dsimp only)) | (k_end; wrow_close) | walk1 | (dsimp only; walk1) | (leave1; walk_say "STEP leave1"; try dsimp only) | fail "no step"))
    all_goals (
      dsimp only
      have N2 := perm_any (front := [_, _, _, _, _, _, _, _]) (i := (I, oI)) (by assumption)
      dsimp only [List.cons_append, List.nil_append] at N2
      refine' t_suf (N := N2) (f := ?f) (C := C) (B := B) (X := X) (TG := TG) (taL := taL0) (hTI := ?ti) (hzI := hzI) (hkk := ?kx) (TO := TO) (hc := hc) (hlab := hlab) (F := fr_MH (by with_reducible assumption) rfl rfl rfl rfl rfl rfl) (hhl := ?hl) (hdl := ?dl) (h1 := ?h1) (h2 := ?h2) (hH := ?held) (cM := ?cM) (cR := ?cR) (hs0 := ⟨_, _, rfl⟩)
      (case hl => k_mem)
      (case dl => k_mem)
      (case ti =>
        (repeat refine List.forall_mem_cons.mpr ⟨by k_ne, ?_⟩)
        exact hTI)
      (case f =>
        refine Fix.more f (by walk_at "m sub") ?_
        (repeat refine List.forall_mem_cons.mpr ⟨⟨by k_ne, by k_ne, by k_ne, by k_ne, by k_ne⟩, ?_⟩)
        exact f.apart)
      (case kx => exact hk_two (fun lc hl => (by walk_at "m sub" : ∀ q ∈ T, q ∈ _) _ (hkk lc hl)) (by k_mem) (by k_mem))
      (case h1 => exact fun _ => ⟨by constructor, by constructor⟩)
      (case h2 => exact fun h => absurd hlt h)
      (case held => exact fun _ => .lab _ _ hlb hlt)
      (case cM => exact con_set cM (by k_mem) ⟨rfl, _, _, _, rfl⟩ a0')
      (case cR => exact con_set cR (by k_mem) ⟨rfl, _, _, _, rfl⟩ a0'))
  · repeat' ((fail_if_success (with_reducible show wpAny _ _ (execs [Stmt.If _ _ _ _, _] _) _ _ _)); (first | (k_unfold; (try dsimp only)) | (k_end; wrow_close) | walk1 | (dsimp only; walk1) | (leave1; walk_say "STEP leave1"; try dsimp only) | fail "no step"))
    all_goals (
      dsimp only
      have N2 := perm_any (front := [_, _, _, _, _, _]) (i := (I, oI)) (by assumption)
      dsimp only [List.cons_append, List.nil_append] at N2
      refine' t_suf (N := N2) (f := ?f) (C := C) (B := B) (X := X) (TG := TG) (taL := taL0) (hTI := ?ti) (hzI := hzI) (hkk := ?kx) (TO := TO) (hc := hc) (hlab := hlab) (F := fr_MH (by with_reducible assumption) rfl rfl rfl rfl rfl rfl) (hhl := ?hl) (hdl := ?dl) (h1 := ?h1) (h2 := ?h2) (hH := ?held) (cM := ?cM) (cR := ?cR) (hs0 := ⟨_, _, rfl⟩)
      (case hl => k_mem)
      (case dl => k_mem)
      (case ti =>
        (repeat refine List.forall_mem_cons.mpr ⟨by k_ne, ?_⟩)
        exact hTI)
      (case f =>
        refine Fix.more f (by walk_at "m sub") ?_
        (repeat refine List.forall_mem_cons.mpr ⟨⟨by k_ne, by k_ne, by k_ne, by k_ne, by k_ne⟩, ?_⟩)
        exact f.apart)
      (case kx => exact hk_two (fun lc hl => (by walk_at "m sub" : ∀ q ∈ T, q ∈ _) _ (hkk lc hl)) (by k_mem) (by k_mem))
      (case h1 => exact fun h => absurd h hlt)
      (case h2 => exact fun _ => ⟨⟨_, rfl⟩, ⟨_, rfl⟩, (held_no hlt hH).2⟩)
      (case held => exact fun h => absurd h hlt)
      (case cM => exact Con.more cM (by walk_at "m sub"))
      (case cR => exact Con.more cR (by walk_at "m sub")))
theorem t_way1 {w : World} {fa : Addr} {g : Heap} {p : Program} {lo : List Str} {mean : ExcName → Option Value} {mg mb : Str → Option Value} {s : Shared} {E : Value → Shared → Prop} {L I : Addr} {T : List (Addr × Obj)} {d : Dat} {oLab oI : Obj} {ps : Array Value} {kk : Nat → Addr × Obj} {hv : Value} {m0 : Str → Option Value} {cnt : Int} {tc : Tok} {odM odR : Option Addr} {usM usR : List Value} {nM nR : Nat} {slM slR : Array (Option Value)} {c : Cel} {lb : Int} {tr tl : Tok} {fp fm : Addr} {s0 : Shared} (f : Fix w L d T) (C : CodeHd g 411 409) (B : Below callerA g [] g) (X : (layK.heap_1 w.params).In g) (TG : Top p lo mean mg mb g) (taL : At w callerA g g p lo mean mg mb L (lawEnv fa L)) (hTI : ∀ q ∈ T, q.1 ≠ I) (hzI : d.z < I)
    (hkk : ∀ lc ∈ lawPs, kk lc.1 ∈ T) (TO : TabOk d.z lawQu ps kk) (hc : 0 ≤ cnt) (hlab : oLab.data = .cell (some (.int lb tl))) (hlb : lb = 10 ∨ lb = 20 ∨ lb = 30) (aP : AskP L fp T) (aM : AskM L fm T)
    (F : Fr g L s.heap (MW d hv 1 tr fp fm m0)) (N : News g L s.heap ((I, oI) :: (409, tabObj ps) :: (d.tin, listOf #[.ref d.sc, .int cnt tc] d.n1) :: (L + 1 + 1 + 1, oLab) :: (d.M.nl, lstO odM usM nM slM) :: (d.R.nl, lstO odR usR nR slR) :: T))
    (hH : Held d hv c) (cM : Con d T usM c) (cR : Con d T usR c) (hs0 : ∃ h tk, s = { s0 with heap := h, toks := tk }) :
    wpAny (model PG w) (callerA.deeper (lawEnv fa L)) (execs (forBody.drop 3) (lawEnv fa L)) (TurnPost g L (Jt w L d) I oI s0) E s := by
  obtain ⟨h0, tk0, rfl⟩ := hs0
  have hA1 : ∀ q ∈ T, q.1 ≠ 409 := fun q hq => (f.apart q hq).1
  have hA2 : ∀ q ∈ T, q.1 ≠ d.tin := fun q hq => (f.apart q hq).2.1
  have hA3 : ∀ q ∈ T, q.1 ≠ L + 1 + 1 + 1 := fun q hq => (f.apart q hq).2.2.1
  have hA4 : ∀ q ∈ T, q.1 ≠ d.M.nl := fun q hq => (f.apart q hq).2.2.2.1
  have hA5 : ∀ q ∈ T, q.1 ≠ d.R.nl := fun q hq => (f.apart q hq).2.2.2.2
  have hMz := f.z
  have k1 := ltN f.k1
  have k2 := ltN f.k2
  have k3 := ltN f.k3
  have k4 := ltN f.k4
  have k5 := ltN f.k5
  replace hzI := ltN hzI
  have e1 := cM.len
  have e2 := cR.len
  have s0' := f.s0
  have s1' := f.s1
  have a0' := f.a0
  have taL0 := taL
  unfold lawEnv at taL ⊢
  generalize hs : lawScope = sc at taL ⊢
  with_unfolding_all (conv at hs => lhs; whnf)
  subst hs
  generalize hb : forBody.drop 3 = b
  with_unfolding_all (conv at hb => lhs; whnf)
  subst hb
  have hMr := f.cRun
  have hDr := f.dRun
  have hMm := f.cMac
  have hDm := f.dMac
  repeat' ((fail_if_success (with_reducible show wpAny _ _ (exec (Stmt.Assign _ (Expr.ListComp _ _ _ _) _) _) _ _ _)); (first | (k_unfold; (try dsimp only)) | (k_end; wrow_close) | walk1 | (dsimp only; walk1) | (leave1; walk_say "STEP leave1"; try dsimp only) | fail "no step"))
  try dsimp only
  refine assign_comp (x := "one") (cl := [("place", L + 1 + 1 + 1 + 1 + 1), ("label", L + 1 + 1 + 1)]) rfl rfl rfl (by decide) (by intro _; rfl) ?_
  repeat' ((fail_if_success (with_reducible show wpAny _ _ (pyIter _) _ _ _)); (first | (k_unfold; (try dsimp only)) | (k_end; wrow_close) | walk1 | (dsimp only; walk1) | (leave1; walk_say "STEP leave1"; try dsimp only) | fail "no step"))
  have N1 := perm_any (front := [_]) (i := (I, oI)) (by assumption)
  dsimp only [List.cons_append, List.nil_append] at N1
  refine' cw1 (N := ?N) (F := ?F) (f := ?f) (C := C) (B := B) (X := X) (TG := TG) (taL := taL0) (hTI := ?ti) (hzI := hzI) (hkk := ?kx) (TO := TO) (hlab := hlab) (hTt := ?hTt) (cM := ?cM) (cR := ?cR) (q := fun v1 v2 c1 c2 nw D nD h3 tk3 hv1 hv2 p1 p2 hC hD1 hD2 F3 N3 => ?q)
  (case N => exact N1)
  (case hTt => exact List.Mem.head _)
  (case F => assumption)
  (case ti => exact List.forall_mem_cons.mpr ⟨by k_ne, hTI⟩)
  (case f => exact Fix.more f (by walk_at "m sub") (List.forall_mem_cons.mpr ⟨⟨by k_ne, by k_ne, by k_ne, by k_ne, by k_ne⟩, f.apart⟩))
  (case kx => exact fun lc hl => mem_tail' (hkk lc hl))
  (case cM => exact Con.more cM (by walk_at "m sub"))
  (case cR => exact Con.more cR (by walk_at "m sub"))
  case q =>
  obtain ⟨T3, ps3, kk3, odM3, odR3, usM3, usR3, nM3, nR3, slM3, slR3, rfl, f3, sub3, hTI3, hkk3, TO3, cM3, cR3⟩ := hC
  replace hD2 := ltN hD2
  clear N1
  repeat' ((fail_if_success (with_reducible show wpAny _ _ (execs [Stmt.If _ _ _ _, _] _) _ _ _)); (first | (k_unfold; (try dsimp only)) | (k_end; wrow_close) | walk1 | (dsimp only; walk1) | (leave1; walk_say "STEP leave1"; try dsimp only) | fail "no step"))
  all_goals (
    by_cases hlt : d.a < d.sz
    · rw [p1.1 hlt] at cR3
      rw [p2.1 hlt] at cM3
      dsimp only
      have N5 := perm_any (front := [_, _]) (i := (I, oI)) (by assumption)
      dsimp only [List.cons_append, List.nil_append] at N5
      refine' t_suf (N := N5) (c := .num lb) (f := ?f) (C := C) (B := B) (X := X) (TG := TG) (taL := taL0) (hTI := ?ti) (hzI := hzI) (hkk := ?kx) (TO := TO3) (hc := hc) (hlab := hlab) (F := fr_MH (by with_reducible assumption) rfl rfl rfl rfl rfl rfl) (hhl := ?hl) (hdl := ?dl) (h1 := ?h1) (h2 := ?h2) (hH := ?held) (cM := ?cM) (cR := ?cR) (hs0 := ⟨_, _, rfl⟩)
      (case hl => k_mem)
      (case dl => k_mem)
      (case ti =>
        (repeat refine List.forall_mem_cons.mpr ⟨by k_ne, ?_⟩)
        exact hTI3)
      (case f =>
        refine Fix.more f3 (by walk_at "m sub") ?_
        (repeat refine List.forall_mem_cons.mpr ⟨⟨by k_ne, by k_ne, by k_ne, by k_ne, by k_ne⟩, ?_⟩)
        exact f3.apart)
      (case kx => exact fun lc hl => mem_tail' (mem_tail' (hkk3 lc hl)))
      (case h1 => exact fun hl => by obtain rfl := hv1.good hl; obtain rfl := hv2.good hl; exact ⟨by constructor, by constructor⟩)
      (case h2 => exact fun hn => absurd hlt hn)
      (case held => exact fun _ => .num _ _ hlb hlt)
      (case cM => exact Con.more cM3 (by walk_at "m sub"))
      (case cR => exact Con.more cR3 (by walk_at "m sub"))
    · rw [p1.2 hlt] at cR3
      rw [p2.2 hlt] at cM3
      dsimp only
      have N5 := perm_any (front := [_, _]) (i := (I, oI)) (by assumption)
      dsimp only [List.cons_append, List.nil_append] at N5
      refine' t_suf (N := N5) (c := c) (f := ?f) (C := C) (B := B) (X := X) (TG := TG) (taL := taL0) (hTI := ?ti) (hzI := hzI) (hkk := ?kx) (TO := TO3) (hc := hc) (hlab := hlab) (F := fr_MH (by with_reducible assumption) rfl rfl rfl rfl rfl rfl) (hhl := ?hl) (hdl := ?dl) (h1 := ?h1) (h2 := ?h2) (hH := ?held) (cM := ?cM) (cR := ?cR) (hs0 := ⟨_, _, rfl⟩)
      (case hl => k_mem)
      (case dl => k_mem)
      (case ti =>
        (repeat refine List.forall_mem_cons.mpr ⟨by k_ne, ?_⟩)
        exact hTI3)
      (case f =>
        refine Fix.more f3 (by walk_at "m sub") ?_
        (repeat refine List.forall_mem_cons.mpr ⟨⟨by k_ne, by k_ne, by k_ne, by k_ne, by k_ne⟩, ?_⟩)
        exact f3.apart)
      (case kx => exact fun lc hl => mem_tail' (mem_tail' (hkk3 lc hl)))
      (case h1 => exact fun hl => absurd hl hlt)
      (case h2 => exact fun hn => ⟨hv1.bad hn, hv2.bad hn, (held_no hn hH).2⟩)
      (case held => exact fun hl => absurd hl hlt)
      (case cM => exact Con.more cM3 (by walk_at "m sub"))
      (case cR => exact Con.more cR3 (by walk_at "m sub")))
theorem t_way2 {w : World} {fa : Addr} {g : Heap} {p : Program} {lo : List Str} {mean : ExcName → Option Value} {mg mb : Str → Option Value} {s : Shared} {E : Value → Shared → Prop} {L I : Addr} {T : List (Addr × Obj)} {d : Dat} {oLab oI : Obj} {ps : Array Value} {kk : Nat → Addr × Obj} {hv : Value} {m0 : Str → Option Value} {cnt : Int} {tc : Tok} {odM odR : Option Addr} {usM usR : List Value} {nM nR : Nat} {slM slR : Array (Option Value)} {c : Cel} {lb : Int} {tr tl : Tok} {fp fm : Addr} {s0 : Shared} (f : Fix w L d T) (C : CodeHd g 411 409) (B : Below callerA g [] g) (X : (layK.heap_1 w.params).In g) (TG : Top p lo mean mg mb g) (taL : At w callerA g g p lo mean mg mb L (lawEnv fa L)) (hTI : ∀ q ∈ T, q.1 ≠ I) (hzI : d.z < I)
    (hkk : ∀ lc ∈ lawPs, kk lc.1 ∈ T) (TO : TabOk d.z lawQu ps kk) (hc : 0 ≤ cnt) (hlab : oLab.data = .cell (some (.int lb tl))) (hlb : lb = 10 ∨ lb = 20 ∨ lb = 30) (aP : AskP L fp T) (aM : AskM L fm T)
    (F : Fr g L s.heap (MW d hv 2 tr fp fm m0)) (N : News g L s.heap ((I, oI) :: (409, tabObj ps) :: (d.tin, listOf #[.ref d.sc, .int cnt tc] d.n1) :: (L + 1 + 1 + 1, oLab) :: (d.M.nl, lstO odM usM nM slM) :: (d.R.nl, lstO odR usR nR slR) :: T))
    (hH : Held d hv c) (cM : Con d T usM c) (cR : Con d T usR c) (hs0 : ∃ h tk, s = { s0 with heap := h, toks := tk }) :
    wpAny (model PG w) (callerA.deeper (lawEnv fa L)) (execs (forBody.drop 3) (lawEnv fa L)) (TurnPost g L (Jt w L d) I oI s0) E s := by
  obtain ⟨h0, tk0, rfl⟩ := hs0
  have hA1 : ∀ q ∈ T, q.1 ≠ 409 := fun q hq => (f.apart q hq).1
  have hA2 : ∀ q ∈ T, q.1 ≠ d.tin := fun q hq => (f.apart q hq).2.1
  have hA3 : ∀ q ∈ T, q.1 ≠ L + 1 + 1 + 1 := fun q hq => (f.apart q hq).2.2.1
  have hA4 : ∀ q ∈ T, q.1 ≠ d.M.nl := fun q hq => (f.apart q hq).2.2.2.1
  have hA5 : ∀ q ∈ T, q.1 ≠ d.R.nl := fun q hq => (f.apart q hq).2.2.2.2
  have hMz := f.z
  have k1 := ltN f.k1
  have k2 := ltN f.k2
  have k3 := ltN f.k3
  have k4 := ltN f.k4
  have k5 := ltN f.k5
  replace hzI := ltN hzI
  have e1 := cM.len
  have e2 := cR.len
  have s0' := f.s0
  have s1' := f.s1
  have a0' := f.a0
  have taL0 := taL
  unfold lawEnv at taL ⊢
  generalize hs : lawScope = sc at taL ⊢
  with_unfolding_all (conv at hs => lhs; whnf)
  subst hs
  generalize hb : forBody.drop 3 = b
  with_unfolding_all (conv at hb => lhs; whnf)
  subst hb
  have hMr := f.cRun
  have hDr := f.dRun
  have hMm := f.cMac
  have hDm := f.dMac
  repeat' ((fail_if_success (with_reducible show wpAny _ _ (exec (Stmt.Assign _ (Expr.ListComp _ _ _ _) _) _) _ _ _)); (first | (k_unfold; (try dsimp only)) | (k_end; wrow_close) | walk1 | (dsimp only; walk1) | (leave1; walk_say "STEP leave1"; try dsimp only) | fail "no step"))
  try dsimp only
  refine assign_comp (x := "one") (cl := [("place", L + 1 + 1 + 1 + 1 + 1)]) rfl rfl rfl (by decide) (by intro _; rfl) ?_
  repeat' ((fail_if_success (with_reducible show wpAny _ _ (pyIter _) _ _ _)); (first | (k_unfold; (try dsimp only)) | (k_end; wrow_close) | walk1 | (dsimp only; walk1) | (leave1; walk_say "STEP leave1"; try dsimp only) | fail "no step"))
  have N1 := perm_any (front := [_]) (i := (I, oI)) (by assumption)
  dsimp only [List.cons_append, List.nil_append] at N1
  refine' cw2 (N := ?N) (F := ?F) (f := ?f) (C := C) (B := B) (X := X) (TG := TG) (taL := taL0) (hTI := ?ti) (hzI := hzI) (hkk := ?kx) (TO := TO) (hlab := hlab) (hTt := ?hTt) (cM := ?cM) (cR := ?cR) (q := fun v1 v2 c1 c2 nw D nD h3 tk3 hv1 hv2 p1 p2 hC hD1 hD2 F3 N3 => ?q)
  (case N => exact N1)
  (case hTt => exact List.Mem.head _)
  (case F => assumption)
  (case ti => exact List.forall_mem_cons.mpr ⟨by k_ne, hTI⟩)
  (case f => exact Fix.more f (by walk_at "m sub") (List.forall_mem_cons.mpr ⟨⟨by k_ne, by k_ne, by k_ne, by k_ne, by k_ne⟩, f.apart⟩))
  (case kx => exact fun lc hl => mem_tail' (hkk lc hl))
  (case cM => exact Con.more cM (by walk_at "m sub"))
  (case cR => exact Con.more cR (by walk_at "m sub"))
  case q =>
  obtain ⟨T3, ps3, kk3, odM3, odR3, usM3, usR3, nM3, nR3, slM3, slR3, rfl, f3, sub3, hTI3, hkk3, TO3, cM3, cR3⟩ := hC
  replace hD2 := ltN hD2
  clear N1
  repeat' ((fail_if_success (with_reducible show wpAny _ _ (execs [Stmt.If _ _ _ _, _] _) _ _ _)); (first | (k_unfold; (try dsimp only)) | (k_end; wrow_close) | walk1 | (dsimp only; walk1) | (leave1; walk_say "STEP leave1"; try dsimp only) | fail "no step"))
  all_goals (
    by_cases hlt : d.a < d.sz
    · rw [p1.1 hlt] at cR3
      rw [p2.1 hlt] at cM3
      dsimp only
      have N5 := perm_any (front := [_, _]) (i := (I, oI)) (by assumption)
      dsimp only [List.cons_append, List.nil_append] at N5
      refine' t_suf (N := N5) (c := .no) (f := ?f) (C := C) (B := B) (X := X) (TG := TG) (taL := taL0) (hTI := ?ti) (hzI := hzI) (hkk := ?kx) (TO := TO3) (hc := hc) (hlab := hlab) (F := fr_MH (by with_reducible assumption) rfl rfl rfl rfl rfl rfl) (hhl := ?hl) (hdl := ?dl) (h1 := ?h1) (h2 := ?h2) (hH := ?held) (cM := ?cM) (cR := ?cR) (hs0 := ⟨_, _, rfl⟩)
      (case hl => k_mem)
      (case dl => k_mem)
      (case ti =>
        (repeat refine List.forall_mem_cons.mpr ⟨by k_ne, ?_⟩)
        exact hTI3)
      (case f =>
        refine Fix.more f3 (by walk_at "m sub") ?_
        (repeat refine List.forall_mem_cons.mpr ⟨⟨by k_ne, by k_ne, by k_ne, by k_ne, by k_ne⟩, ?_⟩)
        exact f3.apart)
      (case kx => exact fun lc hl => mem_tail' (mem_tail' (hkk3 lc hl)))
      (case h1 => exact fun hl => by obtain rfl := hv1.good hl; obtain rfl := hv2.good hl; exact ⟨by constructor, by constructor⟩)
      (case h2 => exact fun hn => absurd hlt hn)
      (case held => exact fun _ => .no)
      (case cM => exact Con.more cM3 (by walk_at "m sub"))
      (case cR => exact Con.more cR3 (by walk_at "m sub"))
    · rw [p1.2 hlt] at cR3
      rw [p2.2 hlt] at cM3
      dsimp only
      have N5 := perm_any (front := [_, _]) (i := (I, oI)) (by assumption)
      dsimp only [List.cons_append, List.nil_append] at N5
      refine' t_suf (N := N5) (c := c) (f := ?f) (C := C) (B := B) (X := X) (TG := TG) (taL := taL0) (hTI := ?ti) (hzI := hzI) (hkk := ?kx) (TO := TO3) (hc := hc) (hlab := hlab) (F := fr_MH (by with_reducible assumption) rfl rfl rfl rfl rfl rfl) (hhl := ?hl) (hdl := ?dl) (h1 := ?h1) (h2 := ?h2) (hH := ?held) (cM := ?cM) (cR := ?cR) (hs0 := ⟨_, _, rfl⟩)
      (case hl => k_mem)
      (case dl => k_mem)
      (case ti =>
        (repeat refine List.forall_mem_cons.mpr ⟨by k_ne, ?_⟩)
        exact hTI3)
      (case f =>
        refine Fix.more f3 (by walk_at "m sub") ?_
        (repeat refine List.forall_mem_cons.mpr ⟨⟨by k_ne, by k_ne, by k_ne, by k_ne, by k_ne⟩, ?_⟩)
        exact f3.apart)
      (case kx => exact fun lc hl => mem_tail' (mem_tail' (hkk3 lc hl)))
      (case h1 => exact fun hl => absurd hl hlt)
      (case h2 => exact fun hn => ⟨hv1.bad hn, hv2.bad hn, (held_no hn hH).2⟩)
      (case held => exact fun hl => absurd hl hlt)
      (case cM => exact Con.more cM3 (by walk_at "m sub"))
      (case cR => exact Con.more cR3 (by walk_at "m sub")))
theorem t_way3 {w : World} {fa : Addr} {g : Heap} {p : Program} {lo : List Str} {mean : ExcName → Option Value} {mg mb : Str → Option Value} {s : Shared} {E : Value → Shared → Prop} {L I : Addr} {T : List (Addr × Obj)} {d : Dat} {oLab oI : Obj} {ps : Array Value} {kk : Nat → Addr × Obj} {hv : Value} {m0 : Str → Option Value} {cnt : Int} {tc : Tok} {odM odR : Option Addr} {usM usR : List Value} {nM nR : Nat} {slM slR : Array (Option Value)} {c : Cel} {lb : Int} {tr tl : Tok} {fp fm : Addr} {s0 : Shared} (f : Fix w L d T) (C : CodeHd g 411 409) (B : Below callerA g [] g) (X : (layK.heap_1 w.params).In g) (TG : Top p lo mean mg mb g) (taL : At w callerA g g p lo mean mg mb L (lawEnv fa L)) (hTI : ∀ q ∈ T, q.1 ≠ I) (hzI : d.z < I)
    (hkk : ∀ lc ∈ lawPs, kk lc.1 ∈ T) (TO : TabOk d.z lawQu ps kk) (hc : 0 ≤ cnt) (hlab : oLab.data = .cell (some (.int lb tl))) (hlb : lb = 10 ∨ lb = 20 ∨ lb = 30) (aP : AskP L fp T) (aM : AskM L fm T)
    (F : Fr g L s.heap (MW d hv 3 tr fp fm m0)) (N : News g L s.heap ((I, oI) :: (409, tabObj ps) :: (d.tin, listOf #[.ref d.sc, .int cnt tc] d.n1) :: (L + 1 + 1 + 1, oLab) :: (d.M.nl, lstO odM usM nM slM) :: (d.R.nl, lstO odR usR nR slR) :: T))
    (hH : Held d hv c) (cM : Con d T usM c) (cR : Con d T usR c) (hs0 : ∃ h tk, s = { s0 with heap := h, toks := tk }) :
    wpAny (model PG w) (callerA.deeper (lawEnv fa L)) (execs (forBody.drop 3) (lawEnv fa L)) (TurnPost g L (Jt w L d) I oI s0) E s := by
  obtain ⟨h0, tk0, rfl⟩ := hs0
  have hA1 : ∀ q ∈ T, q.1 ≠ 409 := fun q hq => (f.apart q hq).1
  have hA2 : ∀ q ∈ T, q.1 ≠ d.tin := fun q hq => (f.apart q hq).2.1
  have hA3 : ∀ q ∈ T, q.1 ≠ L + 1 + 1 + 1 := fun q hq => (f.apart q hq).2.2.1
  have hA4 : ∀ q ∈ T, q.1 ≠ d.M.nl := fun q hq => (f.apart q hq).2.2.2.1
  have hA5 : ∀ q ∈ T, q.1 ≠ d.R.nl := fun q hq => (f.apart q hq).2.2.2.2
  have hMz := f.z
  have k1 := ltN f.k1
  have k2 := ltN f.k2
  have k3 := ltN f.k3
  have k4 := ltN f.k4
  have k5 := ltN f.k5
  replace hzI := ltN hzI
  have e1 := cM.len
  have e2 := cR.len
  have s0' := f.s0
  have s1' := f.s1
  have a0' := f.a0
  have taL0 := taL
  unfold lawEnv at taL ⊢
  generalize hs : lawScope = sc at taL ⊢
  with_unfolding_all (conv at hs => lhs; whnf)
  subst hs
  generalize hb : forBody.drop 3 = b
  with_unfolding_all (conv at hb => lhs; whnf)
  subst hb
  cases hH with
  | no =>
    repeat' ((fail_if_success (with_reducible show wpAny _ _ (execs [Stmt.If _ _ _ _, _] _) _ _ _)); (first | (k_unfold; (try dsimp only)) | (k_end; wrow_close) | walk1 | (dsimp only; walk1) | (leave1; walk_say "STEP leave1"; try dsimp only) | fail "no step"))
    all_goals (
      dsimp only
      have N2 := perm_any (front := [_, _]) (i := (I, oI)) (by assumption)
      dsimp only [List.cons_append, List.nil_append] at N2
      refine' t_suf (N := N2) (f := ?f) (C := C) (B := B) (X := X) (TG := TG) (taL := taL0) (hTI := ?ti) (hzI := hzI) (hkk := ?kx) (TO := TO) (hc := hc) (hlab := hlab) (F := fr_MH (by with_reducible assumption) rfl rfl rfl rfl rfl rfl) (hhl := ?hl) (hdl := ?dl) (h1 := ?h1) (h2 := ?h2) (hH := ?held) (cM := ?cM) (cR := ?cR) (hs0 := ⟨_, _, rfl⟩)
      (case hl => k_mem)
      (case dl => k_mem)
      (case ti =>
        (repeat refine List.forall_mem_cons.mpr ⟨by k_ne, ?_⟩)
        exact hTI)
      (case f =>
        refine Fix.more f (by walk_at "m sub") ?_
        (repeat refine List.forall_mem_cons.mpr ⟨⟨by k_ne, by k_ne, by k_ne, by k_ne, by k_ne⟩, ?_⟩)
        exact f.apart)
      (case kx => exact (fun lc hl => (by walk_at "m sub" : ∀ q ∈ T, q ∈ _) _ (hkk lc hl)))
      (case h1 => exact fun hl => by obtain ⟨_, rfl⟩ := hv1.at_no hl; obtain ⟨_, rfl⟩ := hv2.at_no hl; exact ⟨by constructor, by constructor⟩)
      (case h2 => exact fun hn => ⟨hv1.bad hn, hv2.bad hn, rfl⟩)
      (case held => exact fun _ => .no)
      (case cM => exact Con.more cM (by walk_at "m sub"))
      (case cR => exact Con.more cR (by walk_at "m sub")))
  | num x t hx hl =>
    repeat' ((fail_if_success (with_reducible show wpAny _ _ (execs [Stmt.If _ _ _ _, _] _) _ _ _)); (first | (k_unfold; (try dsimp only)) | (k_end; wrow_close) | walk1 | (dsimp only; walk1) | (leave1; walk_say "STEP leave1"; try dsimp only) | fail "no step"))
    all_goals (
      dsimp only
      have N2 := perm_any (front := [_, _]) (i := (I, oI)) (by assumption)
      dsimp only [List.cons_append, List.nil_append] at N2
      refine' t_suf (N := N2) (f := ?f) (C := C) (B := B) (X := X) (TG := TG) (taL := taL0) (hTI := ?ti) (hzI := hzI) (hkk := ?kx) (TO := TO) (hc := hc) (hlab := hlab) (F := fr_MH (by with_reducible assumption) rfl rfl rfl rfl rfl rfl) (hhl := ?hl) (hdl := ?dl) (h1 := ?h1) (h2 := ?h2) (hH := ?held) (cM := ?cM) (cR := ?cR) (hs0 := ⟨_, _, rfl⟩)
      (case hl => k_mem)
      (case dl => k_mem)
      (case ti =>
        (repeat refine List.forall_mem_cons.mpr ⟨by k_ne, ?_⟩)
        exact hTI)
      (case f =>
        refine Fix.more f (by walk_at "m sub") ?_
        (repeat refine List.forall_mem_cons.mpr ⟨⟨by k_ne, by k_ne, by k_ne, by k_ne, by k_ne⟩, ?_⟩)
        exact f.apart)
      (case kx => exact (fun lc hl => (by walk_at "m sub" : ∀ q ∈ T, q ∈ _) _ (hkk lc hl)))
      (case h1 => exact fun hl => by obtain ⟨_, rfl⟩ := hv1.at_num hl; obtain ⟨_, rfl⟩ := hv2.at_num hl; exact ⟨by constructor, by constructor⟩)
      (case h2 => exact fun hn => absurd hl hn)
      (case held => exact fun _ => .num _ _ hx hl)
      (case cM => exact Con.more cM (by walk_at "m sub"))
      (case cR => exact Con.more cR (by walk_at "m sub")))
  | lab x t hx hl =>
    rcases hx with rfl | rfl | rfl
    · repeat' ((fail_if_success (with_reducible show wpAny _ _ (execs [Stmt.If _ _ _ _, _] _) _ _ _)); (first | (k_unfold; (try dsimp only)) | (k_end; wrow_close) | walk1 | (dsimp only; walk1) | (leave1; walk_say "STEP leave1"; try dsimp only) | fail "no step"))
      all_goals (
        dsimp only
        have N2 := perm_any (front := [_, _, _]) (i := (I, oI)) (by assumption)
        dsimp only [List.cons_append, List.nil_append] at N2
        refine' t_suf (N := N2) (f := ?f) (C := C) (B := B) (X := X) (TG := TG) (taL := taL0) (hTI := ?ti) (hzI := hzI) (hkk := ?kx) (TO := TO) (hc := hc) (hlab := hlab) (F := fr_MH (by with_reducible assumption) rfl rfl rfl rfl rfl rfl) (hhl := ?hl) (hdl := ?dl) (h1 := ?h1) (h2 := ?h2) (hH := ?held) (cM := ?cM) (cR := ?cR) (hs0 := ⟨_, _, rfl⟩)
        (case hl => k_mem)
        (case dl => k_mem)
        (case ti =>
          (repeat refine List.forall_mem_cons.mpr ⟨by k_ne, ?_⟩)
          exact hTI)
        (case f =>
          refine Fix.more f (by walk_at "m sub") ?_
          (repeat refine List.forall_mem_cons.mpr ⟨⟨by k_ne, by k_ne, by k_ne, by k_ne, by k_ne⟩, ?_⟩)
          exact f.apart)
        (case kx => exact (fun lc hl => (by walk_at "m sub" : ∀ q ∈ T, q ∈ _) _ (hkk lc hl)))
        (case h1 => exact fun hl => by obtain ⟨_, rfl⟩ := hv1.at_lab hl; obtain ⟨_, rfl⟩ := hv2.at_10 hl; exact ⟨by constructor, by constructor⟩)
        (case h2 => exact fun hn => absurd hl hn)
        (case held => exact fun _ => .lab _ _ (by simp) hl)
        (case cM => exact Con.more cM (by walk_at "m sub"))
        (case cR => exact Con.more cR (by walk_at "m sub")))
    · repeat' ((fail_if_success (with_reducible show wpAny _ _ (execs [Stmt.If _ _ _ _, _] _) _ _ _)); (first | (k_unfold; (try dsimp only)) | (k_end; wrow_close) | walk1 | (dsimp only; walk1) | (leave1; walk_say "STEP leave1"; try dsimp only) | fail "no step"))
      all_goals (
        dsimp only
        have N2 := perm_any (front := [_, _, _]) (i := (I, oI)) (by assumption)
        dsimp only [List.cons_append, List.nil_append] at N2
        refine' t_suf (N := N2) (f := ?f) (C := C) (B := B) (X := X) (TG := TG) (taL := taL0) (hTI := ?ti) (hzI := hzI) (hkk := ?kx) (TO := TO) (hc := hc) (hlab := hlab) (F := fr_MH (by with_reducible assumption) rfl rfl rfl rfl rfl rfl) (hhl := ?hl) (hdl := ?dl) (h1 := ?h1) (h2 := ?h2) (hH := ?held) (cM := ?cM) (cR := ?cR) (hs0 := ⟨_, _, rfl⟩)
        (case hl => k_mem)
        (case dl => k_mem)
        (case ti =>
          (repeat refine List.forall_mem_cons.mpr ⟨by k_ne, ?_⟩)
          exact hTI)
        (case f =>
          refine Fix.more f (by walk_at "m sub") ?_
          (repeat refine List.forall_mem_cons.mpr ⟨⟨by k_ne, by k_ne, by k_ne, by k_ne, by k_ne⟩, ?_⟩)
          exact f.apart)
        (case kx => exact (fun lc hl => (by walk_at "m sub" : ∀ q ∈ T, q ∈ _) _ (hkk lc hl)))
        (case h1 => exact fun hl => by obtain ⟨_, rfl⟩ := hv1.at_lab hl; obtain ⟨_, rfl⟩ := hv2.at_20 hl; exact ⟨by constructor, by constructor⟩)
        (case h2 => exact fun hn => absurd hl hn)
        (case held => exact fun _ => .lab _ _ (by simp) hl)
        (case cM => exact Con.more cM (by walk_at "m sub"))
        (case cR => exact Con.more cR (by walk_at "m sub")))
    · repeat' ((fail_if_success (with_reducible show wpAny _ _ (execs [Stmt.If _ _ _ _, _] _) _ _ _)); (first | (k_unfold; (try dsimp only)) | (k_end; wrow_close) | walk1 | (dsimp only; walk1) | (leave1; walk_say "STEP leave1"; try dsimp only) | fail "no step"))
      all_goals (
        dsimp only
        have N2 := perm_any (front := [_, _, _]) (i := (I, oI)) (by assumption)
        dsimp only [List.cons_append, List.nil_append] at N2
        refine' t_suf (N := N2) (f := ?f) (C := C) (B := B) (X := X) (TG := TG) (taL := taL0) (hTI := ?ti) (hzI := hzI) (hkk := ?kx) (TO := TO) (hc := hc) (hlab := hlab) (F := fr_MH (by with_reducible assumption) rfl rfl rfl rfl rfl rfl) (hhl := ?hl) (hdl := ?dl) (h1 := ?h1) (h2 := ?h2) (hH := ?held) (cM := ?cM) (cR := ?cR) (hs0 := ⟨_, _, rfl⟩)
        (case hl => k_mem)
        (case dl => k_mem)
        (case ti =>
          (repeat refine List.forall_mem_cons.mpr ⟨by k_ne, ?_⟩)
          exact hTI)
        (case f =>
          refine Fix.more f (by walk_at "m sub") ?_
          (repeat refine List.forall_mem_cons.mpr ⟨⟨by k_ne, by k_ne, by k_ne, by k_ne, by k_ne⟩, ?_⟩)
          exact f.apart)
        (case kx => exact (fun lc hl => (by walk_at "m sub" : ∀ q ∈ T, q ∈ _) _ (hkk lc hl)))
        (case h1 => exact fun hl => by obtain ⟨_, rfl⟩ := hv1.at_lab hl; obtain ⟨_, rfl⟩ := hv2.at_30 hl; exact ⟨by constructor, by constructor⟩)
        (case h2 => exact fun hn => absurd hl hn)
        (case held => exact fun _ => .lab _ _ (by simp) hl)
        (case cM => exact Con.more cM (by walk_at "m sub"))
        (case cR => exact Con.more cR (by walk_at "m sub")))
theorem t_way4 {w : World} {fa : Addr} {g : Heap} {p : Program} {lo : List Str} {mean : ExcName → Option Value} {mg mb : Str → Option Value} {s : Shared} {E : Value → Shared → Prop} {L I : Addr} {T : List (Addr × Obj)} {d : Dat} {oLab oI : Obj} {ps : Array Value} {kk : Nat → Addr × Obj} {hv : Value} {m0 : Str → Option Value} {cnt : Int} {tc : Tok} {odM odR : Option Addr} {usM usR : List Value} {nM nR : Nat} {slM slR : Array (Option Value)} {c : Cel} {lb : Int} {tr tl : Tok} {fp fm : Addr} {s0 : Shared} (f : Fix w L d T) (C : CodeHd g 411 409) (B : Below callerA g [] g) (X : (layK.heap_1 w.params).In g) (TG : Top p lo mean mg mb g) (taL : At w callerA g g p lo mean mg mb L (lawEnv fa L)) (hTI : ∀ q ∈ T, q.1 ≠ I) (hzI : d.z < I)
    (hkk : ∀ lc ∈ lawPs, kk lc.1 ∈ T) (TO : TabOk d.z lawQu ps kk) (hc : 0 ≤ cnt) (hlab : oLab.data = .cell (some (.int lb tl))) (hlb : lb = 10 ∨ lb = 20 ∨ lb = 30) (aP : AskP L fp T) (aM : AskM L fm T)
    (F : Fr g L s.heap (MW d hv 4 tr fp fm m0)) (N : News g L s.heap ((I, oI) :: (409, tabObj ps) :: (d.tin, listOf #[.ref d.sc, .int cnt tc] d.n1) :: (L + 1 + 1 + 1, oLab) :: (d.M.nl, lstO odM usM nM slM) :: (d.R.nl, lstO odR usR nR slR) :: T))
    (hH : Held d hv c) (cM : Con d T usM c) (cR : Con d T usR c) (hs0 : ∃ h tk, s = { s0 with heap := h, toks := tk }) :
    wpAny (model PG w) (callerA.deeper (lawEnv fa L)) (execs (forBody.drop 3) (lawEnv fa L)) (TurnPost g L (Jt w L d) I oI s0) E s := by
  obtain ⟨h0, tk0, rfl⟩ := hs0
  have hA1 : ∀ q ∈ T, q.1 ≠ 409 := fun q hq => (f.apart q hq).1
  have hA2 : ∀ q ∈ T, q.1 ≠ d.tin := fun q hq => (f.apart q hq).2.1
  have hA3 : ∀ q ∈ T, q.1 ≠ L + 1 + 1 + 1 := fun q hq => (f.apart q hq).2.2.1
  have hA4 : ∀ q ∈ T, q.1 ≠ d.M.nl := fun q hq => (f.apart q hq).2.2.2.1
  have hA5 : ∀ q ∈ T, q.1 ≠ d.R.nl := fun q hq => (f.apart q hq).2.2.2.2
  have hMz := f.z
  have k1 := ltN f.k1
  have k2 := ltN f.k2
  have k3 := ltN f.k3
  have k4 := ltN f.k4
  have k5 := ltN f.k5
  replace hzI := ltN hzI
  have e1 := cM.len
  have e2 := cR.len
  have s0' := f.s0
  have s1' := f.s1
  have a0' := f.a0
  have taL0 := taL
  unfold lawEnv at taL ⊢
  generalize hs : lawScope = sc at taL ⊢
  with_unfolding_all (conv at hs => lhs; whnf)
  subst hs
  generalize hb : forBody.drop 3 = b
  with_unfolding_all (conv at hb => lhs; whnf)
  subst hb
  have hMr := f.cRun
  have hDr := f.dRun
  have hMm := f.cMac
  have hDm := f.dMac
  repeat' ((fail_if_success (with_reducible show wpAny _ _ (exec (Stmt.Assign _ (Expr.ListComp _ _ _ _) _) _) _ _ _)); (first | (k_unfold; (try dsimp only)) | (k_end; wrow_close) | walk1 | (dsimp only; walk1) | (leave1; walk_say "STEP leave1"; try dsimp only) | fail "no step"))
  try dsimp only
  refine assign_comp (x := "one") (cl := [("place", L + 1 + 1 + 1 + 1 + 1)]) rfl rfl rfl (by decide) (by intro _; rfl) ?_
  repeat' ((fail_if_success (with_reducible show wpAny _ _ (pyIter _) _ _ _)); (first | (k_unfold; (try dsimp only)) | (k_end; wrow_close) | walk1 | (dsimp only; walk1) | (leave1; walk_say "STEP leave1"; try dsimp only) | fail "no step"))
  have N1 := perm_any (front := [_]) (i := (I, oI)) (by assumption)
  dsimp only [List.cons_append, List.nil_append] at N1
  refine' cw4 (N := ?N) (F := ?F) (f := ?f) (C := C) (B := B) (X := X) (TG := TG) (taL := taL0) (hTI := ?ti) (hzI := hzI) (hkk := ?kx) (TO := TO) (hlab := hlab) (hTt := ?hTt) (cM := ?cM) (cR := ?cR) (q := fun v1 v2 c1 c2 nw D nD h3 tk3 hv1 hv2 p1 p2 hC hD1 hD2 F3 N3 => ?q)
  (case N => exact N1)
  (case hTt => exact List.Mem.head _)
  (case F => assumption)
  (case ti => exact List.forall_mem_cons.mpr ⟨by k_ne, hTI⟩)
  (case f => exact Fix.more f (by walk_at "m sub") (List.forall_mem_cons.mpr ⟨⟨by k_ne, by k_ne, by k_ne, by k_ne, by k_ne⟩, f.apart⟩))
  (case kx => exact fun lc hl => mem_tail' (hkk lc hl))
  (case cM => exact Con.more cM (by walk_at "m sub"))
  (case cR => exact Con.more cR (by walk_at "m sub"))
  case q =>
  obtain ⟨T3, ps3, kk3, odM3, odR3, usM3, usR3, nM3, nR3, slM3, slR3, rfl, f3, sub3, hTI3, hkk3, TO3, cM3, cR3⟩ := hC
  replace hD2 := ltN hD2
  clear N1
  subst p1 p2
  cases hH with
  | no =>
    repeat' ((fail_if_success (with_reducible show wpAny _ _ (execs [Stmt.If _ _ _ _, _] _) _ _ _)); (first | (k_unfold; (try dsimp only)) | (k_end; wrow_close) | walk1 | (dsimp only; walk1) | (leave1; walk_say "STEP leave1"; try dsimp only) | fail "no step"))
    all_goals (
      dsimp only
      have N5 := perm_any (front := [_, _, _]) (i := (I, oI)) (by assumption)
      dsimp only [List.cons_append, List.nil_append] at N5
      refine' t_suf (N := N5) (c := .no) (f := ?f) (C := C) (B := B) (X := X) (TG := TG) (taL := taL0) (hTI := ?ti) (hzI := hzI) (hkk := ?kx) (TO := TO3) (hc := hc) (hlab := hlab) (F := fr_MH (by with_reducible assumption) rfl rfl rfl rfl rfl rfl) (hhl := ?hl) (hdl := ?dl) (h1 := ?h1) (h2 := ?h2) (hH := ?held) (cM := ?cM) (cR := ?cR) (hs0 := ⟨_, _, rfl⟩)
      (case hl => k_mem)
      (case dl => k_mem)
      (case ti =>
        (repeat refine List.forall_mem_cons.mpr ⟨by k_ne, ?_⟩)
        exact hTI3)
      (case f =>
        refine Fix.more f3 (by walk_at "m sub") ?_
        (repeat refine List.forall_mem_cons.mpr ⟨⟨by k_ne, by k_ne, by k_ne, by k_ne, by k_ne⟩, ?_⟩)
        exact f3.apart)
      (case kx => exact fun lc hl => mem_tail' (mem_tail' (mem_tail' (hkk3 lc hl))))
      (case h1 => exact fun hl => by obtain ⟨_, rfl⟩ := hv1.at_no hl; obtain ⟨_, rfl⟩ := hv2.at_no hl; exact ⟨by constructor, by constructor⟩)
      (case h2 => exact fun hn => ⟨hv1.bad hn, hv2.bad hn, rfl⟩)
      (case held => exact fun _ => .no)
      (case cM => exact Con.more cM3 (by walk_at "m sub"))
      (case cR => exact Con.more cR3 (by walk_at "m sub")))
  | num x t hx hl =>
    have hx0 : 0 < x := by omega
    repeat' ((fail_if_success (with_reducible show wpAny _ _ (execs [Stmt.If _ _ _ _, _] _) _ _ _)); (first | (k_unfold; (try dsimp only)) | (k_end; wrow_close) | walk1 | (dsimp only; walk1) | (leave1; walk_say "STEP leave1"; try dsimp only) | fail "no step"))
    all_goals (
      dsimp only
      have N5 := perm_any (front := [_, _, _]) (i := (I, oI)) (by assumption)
      dsimp only [List.cons_append, List.nil_append] at N5
      refine' t_suf (N := N5) (c := (.num x)) (f := ?f) (C := C) (B := B) (X := X) (TG := TG) (taL := taL0) (hTI := ?ti) (hzI := hzI) (hkk := ?kx) (TO := TO3) (hc := hc) (hlab := hlab) (F := fr_MH (by with_reducible assumption) rfl rfl rfl rfl rfl rfl) (hhl := ?hl) (hdl := ?dl) (h1 := ?h1) (h2 := ?h2) (hH := ?held) (cM := ?cM) (cR := ?cR) (hs0 := ⟨_, _, rfl⟩)
      (case hl => k_mem)
      (case dl => k_mem)
      (case ti =>
        (repeat refine List.forall_mem_cons.mpr ⟨by k_ne, ?_⟩)
        exact hTI3)
      (case f =>
        refine Fix.more f3 (by walk_at "m sub") ?_
        (repeat refine List.forall_mem_cons.mpr ⟨⟨by k_ne, by k_ne, by k_ne, by k_ne, by k_ne⟩, ?_⟩)
        exact f3.apart)
      (case kx => exact fun lc hl => mem_tail' (mem_tail' (mem_tail' (hkk3 lc hl))))
      (case h1 => exact fun hl => by obtain ⟨_, rfl⟩ := hv1.at_num hl; obtain ⟨_, rfl⟩ := hv2.at_num hl; exact ⟨by (simp only [Int.neg_neg]; constructor), by (simp only [Int.neg_neg]; constructor)⟩)
      (case h2 => exact fun hn => absurd hl hn)
      (case held => exact fun _ => .num _ _ hx hl)
      (case cM => exact Con.more cM3 (by walk_at "m sub"))
      (case cR => exact Con.more cR3 (by walk_at "m sub")))
  | lab x t hx hl =>
    have hx0 : 0 < x := by omega
    repeat' ((fail_if_success (with_reducible show wpAny _ _ (execs [Stmt.If _ _ _ _, _] _) _ _ _)); (first | (k_unfold; (try dsimp only)) | (k_end; wrow_close) | walk1 | (dsimp only; walk1) | (leave1; walk_say "STEP leave1"; try dsimp only) | fail "no step"))
    all_goals (
      dsimp only
      have N5 := perm_any (front := [_, _, _]) (i := (I, oI)) (by assumption)
      dsimp only [List.cons_append, List.nil_append] at N5
      refine' t_suf (N := N5) (c := (.lab x)) (f := ?f) (C := C) (B := B) (X := X) (TG := TG) (taL := taL0) (hTI := ?ti) (hzI := hzI) (hkk := ?kx) (TO := TO3) (hc := hc) (hlab := hlab) (F := fr_MH (by with_reducible assumption) rfl rfl rfl rfl rfl rfl) (hhl := ?hl) (hdl := ?dl) (h1 := ?h1) (h2 := ?h2) (hH := ?held) (cM := ?cM) (cR := ?cR) (hs0 := ⟨_, _, rfl⟩)
      (case hl => k_mem)
      (case dl => k_mem)
      (case ti =>
        (repeat refine List.forall_mem_cons.mpr ⟨by k_ne, ?_⟩)
        exact hTI3)
      (case f =>
        refine Fix.more f3 (by walk_at "m sub") ?_
        (repeat refine List.forall_mem_cons.mpr ⟨⟨by k_ne, by k_ne, by k_ne, by k_ne, by k_ne⟩, ?_⟩)
        exact f3.apart)
      (case kx => exact fun lc hl => mem_tail' (mem_tail' (mem_tail' (hkk3 lc hl))))
      (case h1 => exact fun hl => by obtain ⟨_, rfl⟩ := hv1.at_lab hl; obtain ⟨_, rfl⟩ := hv2.at_lab hl; exact ⟨by constructor, by constructor⟩)
      (case h2 => exact fun hn => absurd hl hn)
      (case held => exact fun _ => .lab _ _ hx hl)
      (case cM => exact Con.more cM3 (by walk_at "m sub"))
      (case cR => exact Con.more cR3 (by walk_at "m sub")))
end
section
theorem dict_K {w : World} {fa : Addr} {g : Heap} {p : Program} {lo : List Str} {mean : ExcName → Option Value} {mg mb : Str → Option Value} {s : Shared} {E Q : Value → Shared → Prop} {L pl : Addr} {m : Str → Option Value} {news : List (Addr × Obj)} {oPl : Obj} {ck : Nat} {p1 p2 p3 : Pos} (B : Below callerA g [] g) (X : (layK.heap_1 w.params).In g) (TG : Top p lo mean mg mb g) (F : Fr g L s.heap m) (N : News g L s.heap news) (hPl : (L + 1 + 1 + 1 + 1 + 1, oPl) ∈ news) (dPl : oPl.data = .cell (some (.ref pl)))
    (q : ∀ D o h' tk, (∀ p ∈ news, p.1 < D) → o.IsDictOf (strKind PG w) [(Str.ofString "K", .ref pl)] → (D == sysModules) = false → Fr g L h' m → News g L h' ((D, o) :: news) → Q (.ref D) { s with heap := h', toks := tk }) :
    wpAny (model PG w) (callerA.deeper (lawEnv fa L)) (eval (.Dict [some (.Constant (.str (Str.ofString "K")) ck p1)] [.Name (Str.ofString "place") p2] p3) (lawEnv fa L)) Q E s := by
  unfold lawEnv
  generalize hs : lawScope = sc
  with_unfolding_all (conv at hs => lhs; whnf)
  subst hs
  refine Dict_made_str rfl F rfl rfl (List.cons_ne_nil _ _) (Nat.le_of_ble_eq_true rfl) (fun F1 => ?_)
  have N1 := N.push F { cls := .type "dict", data := .dict #[] }
  have hsz : ∀ p ∈ news, p.1 < s.heap.objs.size := fun p hp => Heap.lt_size (N p hp).1
  have hL : s.heap.objs.size ≠ L := Nat.ne_of_gt F.ns.lt
  have hg : g.get? s.heap.objs.size = none := next_is_new F
  have hm : (s.heap.objs.size == sysModules) = false := F.notModules (modules_low TG.nolimit)
  clear F N
  refine pairTrees_cons_walk ?_
  repeat' ((fail_if_success (with_reducible show wpAny _ _ (evalPairs _) _ _ _)); (first | (k_unfold; (try dsimp only)) | walk1 | (dsimp only; walk1) | fail "no step"))
  refine pairTrees_nil_walk ?_
  refine ⟨[(Str.ofString "K", .ref pl)], ⟨?_, rfl, trivial⟩, Heap.DictOf.new _, fun h' hd hs => ?_⟩
  · exact strKind_is _ _ _ _
  · obtain ⟨o, ho, hd⟩ := Heap.dictOf_iff.mp hd
    refine q _ o _ _ hsz hd hm (fr_same F1 hs hL hg) (fun p hp => ?_)
    rcases List.mem_cons.mp hp with rfl | hp
    · exact ⟨ho, hL, hg⟩
    · exact ⟨(hs.2 _ (Nat.ne_of_lt (hsz p hp))).trans (N1 p (.tail _ hp)).1, (N1 p (.tail _ hp)).2⟩
end
section
theorem t_turn {w : World} {fa : Addr} {g : Heap} {p : Program} {lo : List Str} {mean : ExcName → Option Value} {mg mb : Str → Option Value} {s : Shared} {E : Value → Shared → Prop} {L I : Addr} {d : Dat} {oI : Obj} {m : Str → Option Value} {nx : List (Addr × Obj)} {s0 : Shared} {i : Int} {ti : Tok} (C : CodeHd g 411 409) (B : Below callerA g [] g) (X : (layK.heap_1 w.params).In g) (TG : Top p lo mean mg mb g) (taL : At w callerA g g p lo mean mg mb L (lawEnv fa L)) (hzI : d.z < I) (hi : 0 ≤ i)
    (hne : ∀ p ∈ nx, p.1 ≠ I) (hJ : Jt w L d m nx) (F : Fr g L s.heap (fun y => if y = "turn" then some (.int i ti) else m y)) (N : News g L s.heap ((I, oI) :: nx)) (hs0 : ∃ h tk, s = { s0 with heap := h, toks := tk }) :
    wpAny (model PG w) (callerA.deeper (lawEnv fa L)) (execs forBody (lawEnv fa L)) (TurnPost g L (Jt w L d) I oI s0) E s := by
  obtain ⟨h0, tk0, rfl⟩ := hs0
  obtain ⟨T, ps, kk, cnt, tc, oLab, lv, odM, odR, usM, usR, nM, nR, slM, slR, hv, c, rfl, h1, h2, h3, h4, f, hkk, TO, hc, hlab, cM, cR, hH⟩ := hJ
  have hTI : ∀ q ∈ T, q.1 ≠ I := fun q hq => hne q (mem_tail' (mem_tail' (mem_tail' (mem_tail' (mem_tail' hq)))))
  rw [MM_pin h1 h2 h3 h4] at F
  refine t_pre f C B X TG taL hTI hzI hkk TO hc hi hlab F N (fun r tr lb tl fp fm T' ps' kk' cnt' tc' oLab' m' h' tk' F' N' TO' hlab' r0 r1 hlb hc' f' sub hTI' hkk' aP aM => ?_)
  have : r = 0 ∨ r = 1 ∨ r = 2 ∨ r = 3 ∨ r = 4 := by omega
  have cM' := cM.more sub
  have cR' := cR.more sub
  rcases this with rfl | rfl | rfl | rfl | rfl
  · exact t_way0 f' C B X TG taL hTI' hzI hkk' TO' hc' hlab' hlb aP aM F' N' hH cM' cR' ⟨_, _, rfl⟩
  · exact t_way1 f' C B X TG taL hTI' hzI hkk' TO' hc' hlab' hlb aP aM F' N' hH cM' cR' ⟨_, _, rfl⟩
  · exact t_way2 f' C B X TG taL hTI' hzI hkk' TO' hc' hlab' hlb aP aM F' N' hH cM' cR' ⟨_, _, rfl⟩
  · exact t_way3 f' C B X TG taL hTI' hzI hkk' TO' hc' hlab' hlb aP aM F' N' hH cM' cR' ⟨_, _, rfl⟩
  · exact t_way4 f' C B X TG taL hTI' hzI hkk' TO' hc' hlab' hlb aP aM F' N' hH cM' cR' ⟨_, _, rfl⟩
end
section
local macro_rules | `(tactic| walk_at "m mem") => `(tactic| first | exact List.Mem.head _ | with_reducible assumption | (refine' mem_tail' ?_; walk_at "m mem"))
local macro_rules | `(tactic| k_mem) => `(tactic| walk_at "m mem")
local macro_rules | `(tactic| walk_at "m lt") => `(tactic| first | with_reducible assumption | with_reducible exact Nat.lt_succ_self _ | (refine lt_via (by with_reducible assumption) ?_; walk_at "m lt") | ((fail_if_success (with_reducible show @LT.lt Nat _ _ (@OfNat.ofNat Nat _ _))); with_reducible refine lt_add1 ?_; walk_at "m lt"))
local macro_rules | `(tactic| k_ne) => `(tactic| ((try dsimp only); first | (refine ne_gtN ?_; walk_at "m lt"; done) | (refine ne_ltN ?_; walk_at "m lt"; done) | (refine neN ?_; omega)))
section
theorem loop_end {w : World} {fa : Addr} {g : Heap} {p : Program} {lo : List Str} {mean : ExcName → Option Value} {mg mb : Str → Option Value} {s : Shared} {E : Value → Shared → Prop} {Q : Flow → Shared → Prop} {L tin sc pl em gl g1 g2 call1 dc rg fr mac d1m memM dmM nm chM run d1r memR dmR nr chR r : Addr} {m : Str → Option Value} {news : List (Addr × Obj)} {oCall oGo oLab oMac oPl oRun oF : Obj} {vs : List Value} {is : List Int} {n1 n2 n4 n6 n7 n8 n9 n10 nc nM nR n2M n2R nnM nnR : Nat} {ec esM esR : List DictEntry} {cnt a sz b x1M x2M x1R x2R : Int} {tc tS tA u1 u2 u3 v1 v2 v3 v4 t1M t2M t1R t2R t₀ u₀ v₀ : Tok} {lv : Option Value} (C : CodeHd g 411 409) (B : Below callerA g [] g) (X : (layK.heap_1 w.params).In g) (TG : Top p lo mean mg mb g) (taL : At w callerA g g p lo mean mg mb L (lawEnv fa L)) (F : Fr g L s.heap m) (N : News g L s.heap news)
    (f1 : m "tin" = some (.ref tin)) (f2 : m "size" = some (.int sz tS)) (f3 : m "address" = some (.int a tA)) (f4 : m "held" = some .none)
    (m1 : (409, tabObj #[]) ∈ news) (m2 : (tin, listOf #[.ref sc, .int cnt tc] n1) ∈ news) (m3 : (sc, listOf vs.toArray n2) ∈ news) (hi : IntsAre vs is) (hlen : is.length ≤ 20)
    (m4 : (L + 1, oCall) ∈ news) (d4 : oCall.data = .cell (some (.ref call1))) (m5 : (L + 1 + 1, oGo) ∈ news) (d5 : oGo.data = .cell (some (.ref gl))) (m6 : (L + 1 + 1 + 1, oLab) ∈ news) (d6 : oLab.data = .cell lv)
    (m7 : (L + 1 + 1 + 1 + 1, oMac) ∈ news) (d7 : oMac.data = .cell (some (.ref mac))) (m8 : (L + 1 + 1 + 1 + 1 + 1, oPl) ∈ news) (d8 : oPl.data = .cell (some (.ref pl))) (m9 : (L + 1 + 1 + 1 + 1 + 1 + 1, oRun) ∈ news) (d9 : oRun.data = .cell (some (.ref run)))
    (m10 : (pl, tupOf [.int 0 u1, .int a u2, .int 0 u3, .ref em] n4) ∈ news) (m11 : (em, tupOf [] n6) ∈ news) (m12 : (gl, listOf #[.ref g1, .ref g2] n8) ∈ news) (m13 : (g1, tupOf [.int 10 v1, .int 7 v2] n9) ∈ news) (m14 : (g2, tupOf [.int 20 v3, .int 9 v4] n10) ∈ news)
    (m15 : (call1, instObj 288 dc) ∈ news) (m16 : (dc, dictOf ec nc) ∈ news) (e16 : getL "registers" ec = some (some (.ref rg))) (m17 : (rg, listOf #[.ref pl] n7) ∈ news)
    (m18 : (mac, instObj 267 d1m) ∈ news) (m19 : (d1m, dictOf esM nM) ∈ news) (e19 : getL "memory" esM = some (some (.ref memM))) (m20 : (memM, instObj 91 dmM) ∈ news) (m21 : (dmM, dictOf [⟨x1M, .str (Str.ofString "numeric") t1M, .ref nm⟩, ⟨x2M, .str (Str.ofString "characters") t2M, .ref chM⟩] n2M) ∈ news) (m22 : (nm, listOf (List.replicate sz.toNat .none).toArray nnM) ∈ news)
    (m23 : (run, instObj 314 d1r) ∈ news) (m24 : (d1r, dictOf esR nR) ∈ news) (e24 : getL "memory" esR = some (some (.ref memR))) (m25 : (memR, instObj 91 dmR) ∈ news) (m26 : (dmR, dictOf [⟨x1R, .str (Str.ofString "numeric") t1R, .ref nr⟩, ⟨x2R, .str (Str.ofString "characters") t2R, .ref chR⟩] n2R) ∈ news) (m27 : (nr, listOf (List.replicate sz.toNat .none).toArray nnR) ∈ news)
    (e28 : getL "frame" esR = some (some (.ref fr))) (m28 : (fr, oF) ∈ news) (hFd : oF.IsDictOf (strKind PG w) [(Str.ofString "K", .ref pl)]) (hlo : (fr == sysModules) = false)
    (k1 : 409 < L) (k2 : L + 1 + 1 + 1 + 1 + 1 + 1 < sc) (k3 : sc < tin) (k4 : tin < em) (k5 : em < pl) (k6 : pl < g1) (k7 : g1 < g2) (k8 : g2 < gl) (k9 : gl < dmM) (k10 : dmM < memM) (k11 : memM < nm) (k12 : nm < d1m) (k13 : d1m < mac) (k14 : mac < dc) (k15 : dc < call1) (k16 : call1 < rg)
    (k17 : rg < dmR) (k18 : dmR < memR) (k19 : memR < nr) (k20 : nr < d1r) (k21 : d1r < run) (k22 : run < fr)
    (a0 : 0 ≤ a) (a1 : a < 8) (s0 : 1 ≤ sz) (s1 : sz < 6) (hc : 0 ≤ cnt) (hr : IsRange s.heap r 0 b 1 t₀ u₀ v₀) (b0 : 0 < b) (b1 : b < 100)
    (done : ∀ m₁ nx h tk ps, (409, tabObj ps) ∈ nx → Fr g L h m₁ → News g L h nx → Q .next { s with heap := h, toks := tk }) :
    wpAny (model PG w) (callerA.deeper (lawEnv fa L)) (pyIter (.ref r)) (fun it s₂ => LoopAtV PG w (callerA.deeper (lawEnv fa L)) g (lawEnv fa L) "turn" forBody Q E it s₂) E s := by
  have k1 := ltN k1
  have k2 := ltN k2
  have k3 := ltN k3
  have k4 := ltN k4
  have k5 := ltN k5
  have k6 := ltN k6
  have k7 := ltN k7
  have k8 := ltN k8
  have k9 := ltN k9
  have k10 := ltN k10
  have k11 := ltN k11
  have k12 := ltN k12
  have k13 := ltN k13
  have k14 := ltN k14
  have k15 := ltN k15
  have k16 := ltN k16
  have k17 := ltN k17
  have k18 := ltN k18
  have k19 := ltN k19
  have k20 := ltN k20
  have k21 := ltN k21
  have k22 := ltN k22
  let d : Dat := { tin := tin, sc := sc, pl := pl, em := em, gl := gl, g1 := g1, g2 := g2, call1 := call1, dc := dc, rg := rg, fr := fr, z := fr, M := { C := 267, one := mac, d1 := d1m, mem := memM, dm := dmM, nl := nm, ch := chM, es := esM, n := nM, n2 := n2M, x1 := x1M, x2 := x2M, t1 := t1M, t2 := t2M }, R := { C := 314, one := run, d1 := d1r, mem := memR, dm := dmR, nl := nr, ch := chR, es := esR, n := nR, n2 := n2R, x1 := x1R, x2 := x2R, t1 := t1R, t2 := t2R }, oCall := oCall, oGo := oGo, oMac := oMac, oPl := oPl, oRun := oRun, oF := oF, oz := oF, vs := vs, is := is, n1 := n1, n2 := n2, n4 := n4, n6 := n6, n7 := n7, n8 := n8, n9 := n9, n10 := n10, nc := nc, ec := ec, a := a, sz := sz, u1 := u1, u2 := u2, u3 := u3, v1 := v1, v2 := v2, v3 := v3, v4 := v4, tA := tA, tS := tS }
  let T : List (Addr × Obj) := [(sc, listOf vs.toArray n2), (L + 1, oCall), (L + 1 + 1, oGo), (L + 1 + 1 + 1 + 1, oMac), (L + 1 + 1 + 1 + 1 + 1, oPl), (L + 1 + 1 + 1 + 1 + 1 + 1, oRun), (pl, tupOf [.int 0 u1, .int a u2, .int 0 u3, .ref em] n4), (em, tupOf [] n6), (gl, listOf #[.ref g1, .ref g2] n8), (g1, tupOf [.int 10 v1, .int 7 v2] n9), (g2, tupOf [.int 20 v3, .int 9 v4] n10),
    (call1, instObj 288 dc), (dc, dictOf ec nc), (rg, listOf #[.ref pl] n7), (mac, instObj 267 d1m), (d1m, dictOf esM nM), (memM, instObj 91 dmM), (dmM, dictOf [⟨x1M, .str (Str.ofString "numeric") t1M, .ref nm⟩, ⟨x2M, .str (Str.ofString "characters") t2M, .ref chM⟩] n2M),
    (run, instObj 314 d1r), (d1r, dictOf esR nR), (memR, instObj 91 dmR), (dmR, dictOf [⟨x1R, .str (Str.ofString "numeric") t1R, .ref nr⟩, ⟨x2R, .str (Str.ofString "characters") t2R, .ref chR⟩] n2R), (fr, oF)]
  have ap : ∀ q ∈ T, q.1 ≠ 409 ∧ q.1 ≠ tin ∧ q.1 ≠ L + 1 + 1 + 1 ∧ q.1 ≠ nm ∧ q.1 ≠ nr := by
    (repeat refine List.forall_mem_cons.mpr ⟨⟨by k_ne, by k_ne, by k_ne, by k_ne, by k_ne⟩, ?_⟩)
    exact List.forall_mem_nil _
  have f : Fix w L d T := {
    sc := by k_mem, hints := hi, hlen := hlen, cCall := by k_mem, dCall := d4, cGo := by k_mem, dGo := d5, cMac := by k_mem, dMac := d7, cPl := by k_mem, dPl := d8, cRun := by k_mem, dRun := d9, pl := by k_mem, em := by k_mem, gl := by k_mem, g1 := by k_mem, g2 := by k_mem
    call1 := by k_mem, dc := by k_mem, hrg := e16, rg := by k_mem
    M := { one := by k_mem, d1 := by k_mem, mem := by k_mem, dm := by k_mem, hm := e19, ne := fun q hq => (ap q hq).2.2.2.1, lab := (by show L + 1 + 1 + 1 ≠ nm; exact neN (by omega)) }
    R := { one := by k_mem, d1 := by k_mem, mem := by k_mem, dm := by k_mem, hm := e24, ne := fun q hq => (ap q hq).2.2.2.2, lab := (by show L + 1 + 1 + 1 ≠ nr; exact neN (by omega)) }
    CM := rfl, CR := rfl, hfr := e28, fr := by k_mem, hFd := hFd, hlo := hlo, z := by k_mem
    k1 := k1
    k2 := by show L + 1 + 1 + 1 + 1 + 1 + 1 < tin; exact ltN (by omega)
    k3 := by show tin < nm; exact ltN (by omega)
    k4 := by show nm < nr; exact ltN (by omega)
    k5 := by show nr < fr; exact ltN (by omega)
    apart := ap, a0 := a0, a1 := a1, s0 := s0, s1 := s1 }
  have N1 : News g L s.heap ((409, tabObj #[]) :: (tin, listOf #[.ref sc, .int cnt tc] n1) :: (L + 1 + 1 + 1, oLab) :: (nm, lstO none (List.replicate sz.toNat .none) nnM #[]) :: (nr, lstO none (List.replicate sz.toNat .none) nnR #[]) :: T) := news_sub N (by
    refine List.forall_mem_cons.mpr ⟨m1, List.forall_mem_cons.mpr ⟨m2, List.forall_mem_cons.mpr ⟨m6, List.forall_mem_cons.mpr ⟨m22, List.forall_mem_cons.mpr ⟨m27, ?_⟩⟩⟩⟩⟩
    (repeat refine List.forall_mem_cons.mpr ⟨by assumption, ?_⟩)
    exact List.forall_mem_nil _)
  have con : ∀ (S : Side), Con d T (List.replicate sz.toNat .none) .no := fun _ => ⟨List.length_replicate, .none, fr, oF, f.z, rfl, fun h => by
    rw [List.length_replicate] at h
    show (List.replicate sz.toNat Value.none)[a.toNat]? = some .none
    have h' : a < (sz.toNat : Int) := h
    rw [List.getElem?_replicate, if_pos (by omega)]⟩
  have J0 : Jt w L d m ((409, tabObj #[]) :: (tin, listOf #[.ref sc, .int cnt tc] n1) :: (L + 1 + 1 + 1, oLab) :: (nm, lstO none (List.replicate sz.toNat .none) nnM #[]) :: (nr, lstO none (List.replicate sz.toNat .none) nnR #[]) :: T) :=
    ⟨T, #[], fun _ => (fr, oF), cnt, tc, oLab, lv, none, none, List.replicate sz.toNat .none, List.replicate sz.toNat .none, nnM, nnR, #[], #[], .none, .no, rfl, f1, f2, f3, f4, f, fun _ _ => f.z, TabOk.nil, hc, d6, con d.M, con d.R, .no⟩
  obtain ⟨n, hn⟩ : ∃ n : Nat, b = (n : Int) := ⟨b.toNat, by omega⟩
  subst hn
  refine range_inv2 (n := n) (env := lawEnv fa L) (J := fun _ m nx => Jt w L d m nx) rfl hr ?_ ?_ F N1 J0 (fun i t m₁ nx h tk I oI hi' hlt hne hJ F' N' => ?_) (fun m₁ nx h tk hJ F' N' => ?_)
  · exact small_one (by omega) (by omega) (by omega) (by omega)
  · unfold Builtin.Range.rangeSize; rw [if_pos (by decide), if_pos (by omega)]; simp
  · exact t_turn (s := { s with heap := h, toks := tk }) (s0 := { s with heap := h, toks := tk }) C B X TG taL (hlt _ (mem_tail' (mem_tail' (mem_tail' (mem_tail' (mem_tail' f.z)))))) (by omega) hne hJ F' N' ⟨_, _, rfl⟩
  · obtain ⟨T9, ps9, _, _, _, _, _, _, _, _, _, _, _, _, _, _, _, e9, _⟩ := hJ
    exact done m₁ nx h tk ps9 (by rw [e9]; exact List.Mem.head _) F' N'
end
end
section
set_option hygiene false in
local macro_rules | `(tactic| walk_at "call ref") => `(tactic| ((with_reducible show wpAny _ _ (call (Value.ref 400) _ _) _ _ _); k_dflt (refine' nip_K taL (by k_asm) (by k_asm) ?U ?sc ?ne (by assumption) ?len ?c ?mm ?m2 (fun r' t' tc' h' tk' hr0 hr1 F' N' => ?_); (case U => k_updF); (case sc => k_mem); (case ne => k_ne); (case len => (first | omega | (simp only [List.length_take]; omega))); (case c => omega); (case mm => decide); (case m2 => decide)); (try dsimp only at N'); (try k_sweep)))
set_option hygiene false in
local macro_rules | `(tactic| walk_at "call ref") => `(tactic| ((with_reducible show wpAny _ _ (call (Value.ref 91) _ _) _ _ _); k_dflt (refine' new_memory taL (by k_asm) (by k_asm) ?h0 ?h1 (fun mem dm nl ch x1 x2 t1 t2 n2 h' tk' l1 l2 l3 F' N' => ?_); (case h0 => omega); (case h1 => omega)); (k_lt l1); (k_lt2 l2); (k_lt2 l3); (try k_sweep)))
set_option hygiene false in
local macro_rules | `(tactic| walk_at "call ref") => `(tactic| ((with_reducible show wpAny _ _ (call (Value.ref 246) _ _) _ _ _); k_dflt (refine' new_limits taL (by k_asm) (by k_asm) (fun ob dm x0 t0 x1 t1 x2 t2 x3 t3 x4 t4 x5 t5 x6 t6 x7 t7 y0 y1 y2 y3 y4 y5 y6 y7 n2 h' tk' l1 l2 F' N' => ?_)); (replace N' := news_tl2 N'); (clear l1 l2); (try k_sweep)))
set_option hygiene false in
local macro_rules | `(tactic| walk_at "call ref") => `(tactic| ((with_reducible show wpAny _ _ (call (Value.ref 267) _ _) _ _ _); k_dflt (refine' new_machine taL (by k_asm) (by k_asm) (fun ob dm es n2 h' tk' gM zM hmM l1 l2 F' N' => ?_)); (k_lt l1); (k_lt2 l2); (try k_sweep)))
set_option hygiene false in
local macro_rules | `(tactic| walk_at "call ref") => `(tactic| ((with_reducible show wpAny _ _ (call (Value.ref 314) _ _) _ _ _); k_dflt (refine' new_run taL (by k_asm) (by k_asm) (fun ob dm es n2 h' tk' gR zR hmR l1 l2 F' N' => ?_)); (k_lt l1); (k_lt2 l2); (try k_sweep)))
set_option hygiene false in
local macro_rules | `(tactic| walk_at "call ref") => `(tactic| ((with_reducible show wpAny _ _ (call (Value.ref 224) _ _) _ _ _); k_dflt (refine' new_code taL (by k_asm) (by k_asm) (fun ob dm x0 t0 x1 t1 x2 t2 x3 t3 y0 y2 y3 n2 h' tk' l1 l2 F' N' => ?_)); (k_lt l1); (k_lt2 l2); (try k_sweep)))
set_option hygiene false in
local macro_rules | `(tactic| walk_at "call ref") => `(tactic| ((with_reducible show wpAny _ _ (call (Value.ref 288) _ _) _ _ _); k_dflt (refine' new_call taL (by k_asm) (by k_asm) ?hcd (fun ob dm rg x0 t0 x1 t1 x2 t2 x3 t3 x4 t4 y3 y4 n2 h' tk' l1 l2 l3 F' N' => ?_); (case hcd => (refine List.forall_mem_cons.mpr ⟨by k_mem, List.forall_mem_cons.mpr ⟨by k_mem, List.forall_mem_nil _⟩⟩))); (k_lt l1); (k_lt2 l2); (k_lt2 l3); (try k_sweep)))
set_option hygiene false in
local macro_rules | `(tactic| walk_at "eval Dict") => `(tactic| ((with_reducible show wpAny _ _ (eval (Expr.Dict [some _] _ _) _) _ _ _); k_dflt (refine' dict_K (by k_asm) (by k_asm) (by k_asm) (by k_asm) (by k_asm) ?m ?d (fun D9 o9 h' tk' l1 hd9 hm9 F' N' => ?_); (case m => k_mem); (case d => k_asm)); (k_lt l1); (try k_sweep)))
set_option hygiene false in
local macro_rules | `(tactic| walk_at "setAttr ref") => `(tactic| (k_here; k_dflt (refine' set_keep (k := 17) ?k1 ?k2 ?k3 ?k4 ?k5 ?k6 ?k7 ?k8 ?k9 ?k10 ?k11 ?k12 ?k13 ?_; (case k1 => k_asm); (case k2 => k_asm); (case k3 => k_asm); (case k4 => k_inst); (case k5 => exact rfl); (case k6 => k_is); (case k7 => k_is); (case k8 => k_is); (case k9 => k_is); (case k10 => with_reducible assumption); (case k11 => with_reducible assumption); (case k12 => exact Nat.le_of_ble_eq_true rfl); (case k13 => k_updF); k_whole; intro esR nR h' tk' g' z' eF q' F' N'; (have hmF := (q' _ (by decide)).trans hmR); (clear q'); (try dsimp only at N'); (try k_sweep))))
local macro_rules | `(tactic| walk_at "exec For Name Call cons nil") => `(tactic| (k_here; (rename Fr _ _ _ _ => lF'); k_dflt (refine' For_invVF lF' ?k1 ?k2 ?_; (case k1 => exact rfl); (case k2 => exact rfl); k_whole)))
local macro_rules | `(tactic| walk_at "m memf") => `(tactic| first | with_reducible exact mem_hd | (with_reducible refine' mem_tail' ?_; walk_at "m memf"))
local macro_rules | `(tactic| walk_at "m ln1") => `(tactic| first | with_reducible assumption | (refine' lt_new (by with_reducible assumption) ?hm; (case hm => walk_at "m memf")))
local macro_rules | `(tactic| walk_at "m ln") => `(tactic| first | walk_at "m ln1" | (refine lt_via (by with_reducible assumption) ?_; first | walk_at "m ln1" | (refine lt_via (by with_reducible assumption) ?_; walk_at "m ln1")))
local macro_rules | `(tactic| k_ne) => `(tactic| ((try dsimp only); first | (refine ne_gtN ?_; walk_at "m ln"; done) | (refine ne_ltN ?_; walk_at "m ln"; done) | (refine neN ?_; omega)))
local macro_rules | `(tactic| k_lt $_) => `(tactic| skip)
local macro_rules | `(tactic| walk_at "m nl") => `(tactic| ((try dsimp only); first | (refine ne_ltN ?_; walk_at "m ln"; done) | (refine ne_gtN ?_; walk_at "m ln"; done) | (refine neN ?_; omega)))
local macro_rules | `(tactic| walk_at "m all") => `(tactic| first | exact List.forall_mem_nil _ | with_reducible assumption | (refine' List.forall_mem_cons.mpr ⟨?a, ?b⟩; (case a => walk_at "m nl"); (case b => walk_at "m all")))
local macro_rules | `(tactic| walk_at "m none") => `(tactic| skip)
section
theorem news_tl2 {g h : Heap} {L : Addr} {a b : Addr × Obj} {news : List (Addr × Obj)} (N : News g L h (a :: b :: news)) : News g L h news := fun p hp => N p (.tail _ (.tail _ hp))
theorem m_pin {m : Str → Option Value} {v : Value} (h : m "script" = some v) : m = fun (y : Str) => if y = "script" then some v else m y := by
  funext y
  split
  · next e => rw [e, h]
  rfl
theorem prel {w : World} {fa : Addr} {g : Heap} {p : Program} {lo : List Str} {mean : ExcName → Option Value} {mg mb : Str → Option Value} {s : Shared} {E : Value → Shared → Prop} {Q : Flow → Shared → Prop} {L l0 : Addr} {m : Str → Option Value} {o1 o2 o3 o4 o5 o6 : Obj} {b1 b2 b3 b4 b5 b6 : Option Value} {vs : List Value} {is : List Int} (C : CodeHd g 411 409) (B : Below callerA g [] g) (X : (layK.heap_1 w.params).In g) (TG : Top p lo mean mg mb g) (taL : At w callerA g g p lo mean mg mb L (lawEnv fa L)) (hE : PassesOwn (model PG w) (callerA.deeper (lawEnv fa L)) (lawEnv fa L) E) (F : Fr g L s.heap m)
    (hm : m "script" = some (.ref l0)) (hl : g.IsList l0 vs.toArray) (hi : IntsAre vs is) (hlen : is.length ≤ 63) (h9 : 409 < L)
    (d1 : o1.data = .cell b1) (d2 : o2.data = .cell b2) (d3 : o3.data = .cell b3) (d4 : o4.data = .cell b4) (d5 : o5.data = .cell b5) (d6 : o6.data = .cell b6)
    (N : News g L s.heap [(L + 1 + 1 + 1 + 1 + 1 + 1, o6), (L + 1 + 1 + 1 + 1 + 1, o5), (L + 1 + 1 + 1 + 1, o4), (L + 1 + 1 + 1, o3), (L + 1 + 1, o2), (L + 1, o1), (409, tabObj #[])])
    (done : ∀ m₁ nx h tk ps, (409, tabObj ps) ∈ nx → Fr g L h m₁ → News g L h nx → Q (.ret (.bool true)) { s with heap := h, toks := tk }) :
    wpAny (model PG w) (callerA.deeper (lawEnv fa L)) (execs lawStmts (lawEnv fa L)) Q E s := by
  replace h9 := ltN h9
  rw [m_pin hm] at F
  clear hm
  have taL0 := taL
  unfold lawEnv at taL hE ⊢
  generalize hs : lawScope = sc at taL hE ⊢
  with_unfolding_all (conv at hs => lhs; whnf)
  subst hs
  generalize hb : lawStmts = b
  with_unfolding_all (conv at hb => lhs; whnf)
  subst hb
  repeat' ((fail_if_success (with_reducible show wpAny _ _ (pyIter _) _ _ _)); (first | (k_unfold; (try dsimp only)) | (k_end; wrow_close) | walk1 | (dsimp only; walk1) | (leave1; walk_say "STEP leave1"; try dsimp only) | fail "no step"))
  dsimp only
  refine' loop_end (C := C) (B := B) (X := X) (TG := TG) (taL := taL0) (F := ?F) (N := ?N) (f1 := ?f1) (f2 := ?f2) (f3 := ?f3) (f4 := ?f4) (m1 := ?m1) (m2 := ?m2) (m3 := ?m3) (hi := ?hi) (hlen := ?hlen) (m4 := ?m4) (d4 := ?d4) (m5 := ?m5) (d5 := ?d5) (m6 := ?m6) (d6 := ?d6) (m7 := ?m7) (d7 := ?d7) (m8 := ?m8) (d8 := ?d8) (m9 := ?m9) (d9 := ?d9) (m10 := ?m10) (m11 := ?m11) (m12 := ?m12) (m13 := ?m13) (m14 := ?m14) (m15 := ?m15) (m16 := ?m16) (e16 := ?e16) (m17 := ?m17) (m18 := ?m18) (m19 := ?m19) (e19 := ?e19) (m20 := ?m20) (m21 := ?m21) (m22 := ?m22) (m23 := ?m23) (m24 := ?m24) (e24 := ?e24) (m25 := ?m25) (m26 := ?m26) (m27 := ?m27) (e28 := ?e28) (m28 := ?m28) (hFd := ?hFd) (hlo := ?hlo) (k1 := ?k1) (k2 := ?k2) (k3 := ?k3) (k4 := ?k4) (k5 := ?k5) (k6 := ?k6) (k7 := ?k7) (k8 := ?k8) (k9 := ?k9) (k10 := ?k10) (k11 := ?k11) (k12 := ?k12) (k13 := ?k13) (k14 := ?k14) (k15 := ?k15) (k16 := ?k16) (k17 := ?k17) (k18 := ?k18) (k19 := ?k19) (k20 := ?k20) (k21 := ?k21) (k22 := ?k22) (a0 := ?a0) (a1 := ?a1) (s0 := ?s0) (s1 := ?s1) (hc := ?hc) (hr := ?hr) (b0 := ?b0) (b1 := ?b1) (done := fun m9 nx9 h9 tk9 ps9 hm9 F9 N9 => ?done)
  case F => assumption
  case N => assumption
  case f1 => rfl
  case f2 => rfl
  case f3 => rfl
  case f4 => rfl
  case m1 => k_mem
  case m2 => k_mem
  case m3 => k_mem
  case hi => assumption
  case hlen => first | omega | (simp only [List.length_take]; omega)
  case m4 => k_mem
  case d4 => first | assumption
  case m5 => k_mem
  case d5 => first | assumption
  case m6 => k_mem
  case d6 => first | assumption
  case m7 => k_mem
  case d7 => first | assumption
  case m8 => k_mem
  case d8 => first | assumption
  case m9 => k_mem
  case d9 => first | assumption
  case m10 => k_mem
  case m11 => k_mem
  case m12 => k_mem
  case m13 => k_mem
  case m14 => k_mem
  case m15 => k_mem
  case m16 => k_mem
  case e16 => rfl
  case m17 => k_mem
  case m18 => k_mem
  case m19 => k_mem
  case e19 => assumption
  case m20 => k_mem
  case m21 => k_mem
  case m22 => k_mem
  case m23 => k_mem
  case m24 => k_mem
  case e24 => assumption
  case m25 => k_mem
  case m26 => k_mem
  case m27 => k_mem
  case e28 => assumption
  case m28 => k_mem
  case hFd => assumption
  case hlo => assumption
  case hr => first | assumption | skip
  case a0 => omega
  case a1 => omega
  case s0 => omega
  case s1 => omega
  case hc => omega
  case b0 => omega
  case b1 => omega
  case k1 => (first | (walk_at "m ln"; done) | exact ltN (by omega))
  case k2 => (first | (walk_at "m ln"; done) | exact ltN (by omega))
  case k3 => (first | (walk_at "m ln"; done) | exact ltN (by omega))
  case k4 => (first | (walk_at "m ln"; done) | exact ltN (by omega))
  case k5 => (first | (walk_at "m ln"; done) | exact ltN (by omega))
  case k6 => (first | (walk_at "m ln"; done) | exact ltN (by omega))
  case k7 => (first | (walk_at "m ln"; done) | exact ltN (by omega))
  case k8 => (first | (walk_at "m ln"; done) | exact ltN (by omega))
  case k9 => (first | (walk_at "m ln"; done) | exact ltN (by omega))
  case k10 => (first | (walk_at "m ln"; done) | exact ltN (by omega))
  case k11 => (first | (walk_at "m ln"; done) | exact ltN (by omega))
  case k12 => (first | (walk_at "m ln"; done) | exact ltN (by omega))
  case k13 => (first | (walk_at "m ln"; done) | exact ltN (by omega))
  case k14 => (first | (walk_at "m ln"; done) | exact ltN (by omega))
  case k15 => (first | (walk_at "m ln"; done) | exact ltN (by omega))
  case k16 => (first | (walk_at "m ln"; done) | exact ltN (by omega))
  case k17 => (first | (walk_at "m ln"; done) | exact ltN (by omega))
  case k18 => (first | (walk_at "m ln"; done) | exact ltN (by omega))
  case k19 => (first | (walk_at "m ln"; done) | exact ltN (by omega))
  case k20 => (first | (walk_at "m ln"; done) | exact ltN (by omega))
  case k21 => (first | (walk_at "m ln"; done) | exact ltN (by omega))
  case k22 => (first | (walk_at "m ln"; done) | exact ltN (by omega))
  case done =>
    dsimp only
    k_steps
    exact done _ _ _ _ _ hm9 F9 N9
end
end
end
end Mine
set_option maxRecDepth 100000 in
set_option maxHeartbeats 8000000 in
theorem PySem.Challenge.cw_rh0117_01_holds : PySem.Challenge.rw_rh0117_01.Holds := by
  w_on
  refine holds_law ?said fun said => ?_
  case said => exact Mine.hd_said
  refine holds_open (q := Mine.hdq) (loose := Mine.hdloose) (Xt := fun s => xlAt Mine.hdq [] s && recOk (RowW.records PySem.Challenge.rw_rh0117_01.row.toRowW) s) (XP := XL Mine.hdq []) (Yf := (kmHook Mine.layK.heap_1 Mine.hdas Mine.hdas_eq [409]).obs) (Ya := (kmHook Mine.layK.heap_1 Mine.hdas Mine.hdas_eq [409]).val) (YP := (kmHook Mine.layK.heap_1 Mine.hdas Mine.hdas_eq [409]).says) (N := 6418) Mine.hd_left (Hook.of (kmHook Mine.layK.heap_1 Mine.hdas Mine.hdas_eq [409])) (Hook.keeps (kmHook Mine.layK.heap_1 Mine.hdas Mine.hdas_eq [409])) (fun s e => xl_of s (Bool.and_eq_true_iff.mp e).1) XL.keeps (by rfl) (by rfl) (by rfl) (fun s e => recFacts_of (Bool.and_eq_true_iff.mp e).2) (by rfl) said Mine.hd_ok Mine.hd_bare Mine.hd_prom ?hc
  k_go0; (all_goals try k_fold)
  refine Mine.with_at (by assumption) (by assumption) (by assumption) (by assumption) rfl rfl (fun taL => ?_)
  refine' Mine.prel (C := ?C) (B := ?B) (X := ?X) (TG := ?TG) (taL := taL) (hE := ?hE) (F := ?F) (hm := ?hm) (hl := ?hl) (hi := ?hi) (hlen := ?hlen) (h9 := ?h9) (d1 := ?d1) (d2 := ?d2) (d3 := ?d3) (d4 := ?d4) (d5 := ?d5) (d6 := ?d6) (N := ?N) (done := fun m9 nx9 h9 tk9 ps9 hm9 F9 N9 => ?done)
  case F => assumption
  case hE => passes_own
  case N => assumption
  case C => assumption
  case B => assumption
  case X => assumption
  case TG => assumption
  case hm => rfl
  case hl => assumption
  case hi => assumption
  case hlen => omega
  case h9 => assumption
  case d1 => assumption
  case d2 => assumption
  case d3 => assumption
  case d4 => assumption
  case d5 => assumption
  case d6 => assumption
  case done =>
    dsimp only
    refine ⟨?_, GrownAt.of N9 hm9, trivial⟩
    clear N9 hm9
    (try clear N')
    (try clear F')
    k_steps
