import PyProof.Rows.All
import Wide.All
import OpenK.AllK
import Wide.FinOn
import PySem.Challenge.RW_pq0711_01
open PySem PySem.W PySem.Spec PySem.Calls PyProof.Rows
set_option Elab.async false
set_option maxRecDepth 100000
set_option compiler.extract_closed false
namespace Mine
section
noncomputable def runG (ok : Thread → Bool) (st : SharedT → Thread → Option (SharedT × Thread)) : Nat → SharedT → Thread → Option SharedT :=
  fun n => Nat.rec (fun _ _ => none) (fun _ ih s t => match through t with
    | true => some s
    | false => match ok t with
      | false => none
      | true => match st s t with
        | some r => ih r.1 r.2
        | none => none) n
theorem runG_top {tb : String → Option Builtin} {p : Program} {w : World} {n₀ : Nat} {ann : Option Value} : ∀ (n : Nat) (s s' : SharedT) (t : Thread), runG (stepOk n₀ ann) (stepT (denote tb) p w) n s t = some s' → topRun tb p w n₀ ann n s.abs t = some s'.abs
  | 0, _, _, _, h => by cases h
  | n + 1, s, s', t, h => by
    replace h : (match through t with
      | true => some s
      | false => match stepOk n₀ ann t with
        | false => none
        | true => match stepT (denote tb) p w s t with
          | some r => runG (stepOk n₀ ann) (stepT (denote tb) p w) n r.1 r.2
          | none => none) = some s' := h
    unfold topRun
    cases ht : through t with
    | true => rw [ht] at h; cases h; rfl
    | false =>
      rw [ht] at h
      cases hk : stepOk n₀ ann t with
      | false => rw [hk] at h; cases h
      | true =>
        rw [hk] at h
        cases hs : stepT (denote tb) p w s t with
        | none => rw [hs] at h; cases h
        | some r =>
          rw [hs] at h
          dsimp only
          rw [stepT_spec hs]
          exact runG_top n _ _ _ h
noncomputable def bootT (P : Params) : BT :=
  .node (boot_o_0 P) (.node (boot_o_1 P) (.node (boot_o_3 P) (.node (boot_o_7 P) .nil .nil) .nil) (.node (boot_o_5 P) (.node (boot_o_9 P) .nil .nil) .nil))
    (.node (boot_o_2 P) (.node (boot_o_4 P) (.node (boot_o_8 P) .nil .nil) .nil) (.node (boot_o_6 P) (.node (boot_o_10 P) .nil .nil) .nil))
theorem boot_abs (P : Params) : absHeap (bootT P) 11 {} = boot_heap P := by kernel_rfl
theorem boot_size (P : Params) : ((boot_heap P).isNs mainGlobals && (#[] : Array GenState).size == 0, (boot_heap P).objs.size, (boot_heap P).nsMap mainGlobals "__annotations__") = (true, 11, some (.ref 6)) := by kernel_rfl
noncomputable abbrev goodQ (q : Program) (loose : List Str) :=
  (expectedOf q, bltViewBooted, true, true, pinGoodD (PySem.W.Fast.tw3247288618530077131 q), plainGoodE q (PySem.W.Fast.tw821141287760084731 q loose), plainGoodD q loose, wideGood q, clsGoodW q loose)
theorem goodQ_eq (q : Program) (loose : List Str) : goodQ q loose = openGood q loose := by
  unfold goodQ openGood
  rw [PySem.W.Fast.te3247288618530077131, PySem.W.Fast.te821141287760084731]
noncomputable abbrev onceQ (p q : Program) (loose : List Str) (Xt : Shared → Bool) {α : Type} (Yf : Shared → α) (M : Nat) (w : World) (os : OsState) :=
  (runG (PySem.W.Fast.tw6613529449190102663 11 (some (.ref 6))) (PySem.W.Fast.tw10156331382660048174 (PySem.W.Fast.tw11892475500146522536 PySem.W.Fast.tw14364793385576792824) p w) M ⟨bootT w.params, 11, {}, #[], boot_drawn, boot_toks, os⟩ (topStub p)).map
    (fun s => (staticsOk (PySem.W.Fast.tw5923862056798008813 p.main.body) (boot_heap w.params) s.abs.heap && namesBound p s.abs.heap && gensDone s.abs && laidKept (boot_heap w.params) s.abs.heap,
      PySem.W.Fast.tw4187177175401517315 q loose (PySem.W.Fast.tw5923862056798008813 p.main.body) Xt true s.abs, Yf s.abs))
theorem left_once {p q : Program} {loose : List Str} {Xt : Shared → Bool} {α : Type} {Yf : Shared → α} {Ya : World → α} {N : Nat} (M : Nat) (row : String)
    (open_ : ∀ w : World, (fencedOpening treeTable p w N).map (fun s => (s.heap, s.gens, s.drawn, s.toks)) = some (boot_heap w.params, Array.mk [], boot_drawn, boot_toks)) (le : Nat.ble M N = true)
    (h0 : ∀ (w : World) (os : OsState), onceQ p q loose Xt Yf M (w.withFollow row false) os = some (true, goodQ q loose, Ya (w.withFollow row false)))
    (h1 : ∀ (w : World) (os : OsState), onceQ p q loose Xt Yf M (w.withFollow row true) os = some (true, goodQ q loose, Ya (w.withFollow row true))) : LeftO p q loose Xt Yf Ya N := fun w => by
  obtain ⟨⟨h, gs, d, k, os⟩, e, e'⟩ := Option.map_eq_some_iff.mp (open_ w)
  obtain ⟨rfl, rfl, rfl, rfl⟩ : h = boot_heap w.params ∧ gs = #[] ∧ d = boot_drawn ∧ k = boot_toks := by simpa using e'
  obtain ⟨z1, z2, z3⟩ : _ ∧ _ ∧ _ := by simpa only [Prod.mk.injEq] using boot_size w.params
  have b := byRow2 row (P := fun w => ∀ os, onceQ p q loose Xt Yf M w os = some (true, goodQ q loose, Ya w)) (fun w => h0 w) (fun w => h1 w) w os
  clear h0 h1 open_
  dsimp only [onceQ] at b
  rw [← PySem.W.Fast.te6613529449190102663, ← PySem.W.Fast.te10156331382660048174, ← PySem.W.Fast.te11892475500146522536, ← PySem.W.Fast.te14364793385576792824, ← PySem.W.Fast.te5923862056798008813, ← PySem.W.Fast.te4187177175401517315, goodQ_eq] at b
  obtain ⟨s', r, l⟩ := Option.map_eq_some_iff.mp b
  obtain ⟨l1, l2, l3⟩ : _ ∧ _ ∧ _ := by simpa only [Prod.mk.injEq] using l
  have r := topRun_mono (N - M) _ _ _ _ (runG_top M _ _ _ r)
  rw [show M + (N - M) = N by have := Nat.le_of_ble_eq_true le; omega] at r
  have r : topRun treeTable p w 11 (some (.ref 6)) N ⟨boot_heap w.params, #[], boot_drawn, boot_toks, os⟩ (topStub p) = some s'.abs := by
    rw [← boot_abs]; exact r
  have t : topFrom treeTable p w N ⟨boot_heap w.params, #[], boot_drawn, boot_toks, os⟩ = some s'.abs := by
    unfold topFrom
    dsimp only
    rw [z1, z2, z3, r]
    show (match staticsOk (importedModules p.main.body) (boot_heap w.params) s'.abs.heap && namesBound p s'.abs.heap && gensDone s'.abs && laidKept (boot_heap w.params) s'.abs.heap with | true => _ | false => _) = _
    rw [l1]
  unfold openEnds
  rw [e]
  show (topFrom treeTable p w N _).map _ = _
  rw [t]
  show some (openSeen q loose (importedModules p.main.body) Xt true s'.abs, Yf s'.abs) = _
  rw [l2, l3]
theorem law_said : PySem.Challenge.rw_pq0711_01.wellSaid = true := by
  rw [PySem.W.Fast.te9446332074065402090]
  kernel_rfl
noncomputable def lawView : Program := view PySem.Challenge.pw_pq0711_01 [0, 2, 3, 4, 6, 7, 8, 9, 11, 12, 15, 16, 17, 18, 20, 21, 22, 23, 24, 25, 26, 28, 29, 31, 32, 33, 34, 35, 36, 37, 38, 39]
def lawLoose : List Str := [Str.ofString "RowsError", Str.ofString "named", Str.ofString "tuple_of", Str.ofString "OTHER_NAMES", Str.ofString "Decl"]
noncomputable def bHook (K : Params → Frag) (as : List Addr) (e : ∀ P, as = (K P).map (·.1)) (ts : List Addr) : Hook where
  α := (List (Option Obj) × List (Option Obj)) × Option Obj × Option Obj
  obs := fun s => ((as.map s.heap.get?, ts.map s.heap.get?), s.heap.get? 0, s.heap.get? 1)
  val := fun w => (((K w.params).map fun p => some p.2, ts.map fun _ => some (tabObj #[])), some (boot_o_0 w.params), some (boot_o_1 w.params))
  says := fun w h => (kmHook K as e ts).says w h ∧ h.get? 0 = some (boot_o_0 w.params) ∧ h.get? 1 = some (boot_o_1 w.params)
  of := fun w s x => ⟨⟨InK.of e w s (Prod.mk.inj (Prod.mk.inj x).1).1, List.map_inj_left.mp (Prod.mk.inj (Prod.mk.inj x).1).2⟩, Prod.mk.inj (Prod.mk.inj x).2⟩
  keeps := fun w h h' x k => ⟨(kmHook K as e ts).keeps w h h' x.1 k, k _ _ x.2.1, k _ _ x.2.2⟩
local macro_rules | `(tactic| o_law) => `(tactic| refine holds_law Mine.law_said fun said => ?_)
/-! the part of the heap that the walk knows, laid once ahead of the head: the two runs of the top are theorems of their own over it -/
section
local macro_rules | `(tactic| o_head (kmHook $k $a $p $t)) => `(tactic| (exfalso; assumption))
set_option maxRecDepth 100000 in
set_option maxHeartbeats 8000000 in
theorem lay (no : False) : PySem.Challenge.rw_pq0711_01.Holds := by
  w_on
  o_law
  k_head
end
def layAs : List Addr := [2, 3, 15, 17, 18, 20, 21, 22, 29, 30, 32, 33, 35, 36, 37, 38, 39, 40, 43, 50, 51, 52, 55, 62, 64, 65, 67, 68, 69, 70, 71, 74, 76, 77, 79, 80, 81, 83, 84, 86, 87, 88, 90, 91, 93, 94, 95, 97, 98, 100, 101, 102, 103, 104, 105, 106, 107, 109, 110, 112, 113, 114, 115, 117, 118, 120, 121, 122, 124, 125, 127, 128, 129, 132, 133, 134, 136, 137, 139, 140, 141, 144, 145, 146, 147, 149, 150, 152, 153, 154, 156, 157, 159, 160, 168, 171, 172, 173, 175, 176, 178, 179, 180, 183, 184, 185, 187, 188, 190, 191, 192, 194, 195, 197, 198, 199, 200, 201, 202, 203, 213, 215, 216, 218, 219, 220, 222, 223, 225, 226, 227, 228, 229, 230, 231, 234, 235, 243, 244, 245, 247, 248, 250, 251, 252, 254, 255, 257, 258, 259, 262, 263, 264, 266, 267, 269, 270, 271, 272, 273, 274, 275, 285, 287, 288, 290, 291, 292, 295, 296, 297, 299, 300, 302, 303, 304, 306, 307, 309, 310, 311, 313, 314, 316, 317, 318, 320, 321, 323, 324, 325, 327, 328, 330, 331, 332, 334, 335, 337, 338, 339, 341, 342, 344, 345, 346, 348, 349, 351, 352, 353, 355, 356, 358, 359, 360, 361, 362, 363, 364, 367, 369, 370, 372, 373, 374, 376, 377, 379, 380, 381, 383, 384, 386, 387, 388, 390, 391, 393, 394, 395, 397, 398, 400, 401, 402, 404, 405, 407, 408, 409, 411, 412, 414, 415, 416, 418, 419, 421, 422, 423, 426, 427]
theorem layAs_eq (P : Params) : layAs = (lay.heap_1 P).map (·.1) := by kernel_rfl
noncomputable abbrev layX (s : Shared) : Bool := xlAt lawView [] s && recOk (PySem.Challenge.rw_pq0711_01.row.toRowW).records s
noncomputable abbrev layH : Hook := bHook lay.heap_1 layAs layAs_eq [417, 410]
noncomputable abbrev runQ (p : Program) (M : Nat) (w : World) (os : OsState) : Option SharedT :=
  runG (PySem.W.Fast.tw6613529449190102663 11 (some (.ref 6))) (PySem.W.Fast.tw10156331382660048174 (PySem.W.Fast.tw11892475500146522536 PySem.W.Fast.tw14364793385576792824) p w) M ⟨bootT w.params, 11, {}, #[], boot_drawn, boot_toks, os⟩ (topStub p)
theorem once_of {α β γ δ : Type} {r : Option α} {f : α → β} {g : α → γ} {k : α → δ} {a : β} {b : γ} {c : δ} (h1 : (r.map fun s => (f s, k s)) = some (a, c)) (h2 : (r.map fun s => g s) = some b) : (r.map fun s => (f s, g s, k s)) = some (a, b, c) := by
  cases r with
  | none => cases h1
  | some s =>
    have h1 : some (f s, k s) = some (a, c) := h1
    have h2 : some (g s) = some b := h2
    obtain ⟨x, y⟩ := Prod.mk.inj (Option.some.inj h1)
    show some (f s, g s, k s) = some (a, b, c)
    rw [x, y, Option.some.inj h2]
set_option maxRecDepth 100000 in
theorem runFa : ∀ (w : World) (os : OsState), (runQ PySem.Challenge.rw_pq0711_01.row.prog 6074 (w.withFollow "special-get-raises" false) os).map (fun s => (staticsOk (PySem.W.Fast.tw5923862056798008813 PySem.Challenge.rw_pq0711_01.row.prog.main.body) (boot_heap (w.withFollow "special-get-raises" false).params) s.abs.heap && namesBound PySem.Challenge.rw_pq0711_01.row.prog s.abs.heap && gensDone s.abs && laidKept (boot_heap (w.withFollow "special-get-raises" false).params) s.abs.heap, Hook.obs layH s.abs)) = some (true, Hook.val layH (w.withFollow "special-get-raises" false)) := fun _ _ => by kernel_rfl
set_option maxRecDepth 100000 in
theorem runFb : ∀ (w : World) (os : OsState), (runQ PySem.Challenge.rw_pq0711_01.row.prog 6074 (w.withFollow "special-get-raises" false) os).map (fun s => PySem.W.Fast.tw4187177175401517315 lawView lawLoose (PySem.W.Fast.tw5923862056798008813 PySem.Challenge.rw_pq0711_01.row.prog.main.body) layX true s.abs) = some (goodQ lawView lawLoose) := fun _ _ => by kernel_rfl
theorem runF : ∀ (w : World) (os : OsState), onceQ PySem.Challenge.rw_pq0711_01.row.prog lawView lawLoose layX (Hook.obs layH) 6074 (w.withFollow "special-get-raises" false) os = some (true, goodQ lawView lawLoose, Hook.val layH (w.withFollow "special-get-raises" false)) := fun w os => once_of (runFa w os) (runFb w os)
set_option maxRecDepth 100000 in
theorem runTa : ∀ (w : World) (os : OsState), (runQ PySem.Challenge.rw_pq0711_01.row.prog 6074 (w.withFollow "special-get-raises" true) os).map (fun s => (staticsOk (PySem.W.Fast.tw5923862056798008813 PySem.Challenge.rw_pq0711_01.row.prog.main.body) (boot_heap (w.withFollow "special-get-raises" true).params) s.abs.heap && namesBound PySem.Challenge.rw_pq0711_01.row.prog s.abs.heap && gensDone s.abs && laidKept (boot_heap (w.withFollow "special-get-raises" true).params) s.abs.heap, Hook.obs layH s.abs)) = some (true, Hook.val layH (w.withFollow "special-get-raises" true)) := fun _ _ => by kernel_rfl
set_option maxRecDepth 100000 in
theorem runTb : ∀ (w : World) (os : OsState), (runQ PySem.Challenge.rw_pq0711_01.row.prog 6074 (w.withFollow "special-get-raises" true) os).map (fun s => PySem.W.Fast.tw4187177175401517315 lawView lawLoose (PySem.W.Fast.tw5923862056798008813 PySem.Challenge.rw_pq0711_01.row.prog.main.body) layX true s.abs) = some (goodQ lawView lawLoose) := fun _ _ => by kernel_rfl
theorem runT : ∀ (w : World) (os : OsState), onceQ PySem.Challenge.rw_pq0711_01.row.prog lawView lawLoose layX (Hook.obs layH) 6074 (w.withFollow "special-get-raises" true) os = some (true, goodQ lawView lawLoose, Hook.val layH (w.withFollow "special-get-raises" true)) := fun w os => once_of (runTa w os) (runTb w os)
local macro_rules | `(tactic| o_head (kmHook $k $a $p $t)) => `(tactic| (refine holds_open (q := Mine.lawView) (loose := Mine.lawLoose) (Xt := fun s => xlAt Mine.lawView [] s && recOk (PySem.Challenge.rw_pq0711_01.row.toRowW).records s) (XP := XL Mine.lawView []) (Yf := Hook.obs (Mine.bHook $k Mine.layAs Mine.layAs_eq $t)) (Ya := Hook.val (Mine.bHook $k Mine.layAs Mine.layAs_eq $t)) (YP := Hook.says (Mine.bHook $k Mine.layAs Mine.layAs_eq $t)) (N := 6074) ?hl (Hook.of (Mine.bHook $k Mine.layAs Mine.layAs_eq $t)) (Hook.keeps (Mine.bHook $k Mine.layAs Mine.layAs_eq $t)) (fun s e => xl_of s (Bool.and_eq_true_iff.mp e).1) XL.keeps (by rfl) (by rfl) (by rfl) (fun s e => recFacts_of (Bool.and_eq_true_iff.mp e).2) (by rfl) (by first | assumption | decide +kernel) (by decide +kernel) ⟨rfl, rfl, rfl, rfl, rfl, by decide +kernel⟩ ?hw ?hc; (case hl => exact Mine.left_once 6074 "special-get-raises" (boot_open (by kernel_rfl) (by decide +kernel) (fun _ => by kernel_rfl)) (by decide +kernel) Mine.runF Mine.runT)))
set_option maxRecDepth 100000 in
set_option maxHeartbeats 8000000 in
open_top hd for PySem.Challenge.rw_pq0711_01

end
section
abbrev pg : Program := PySem.Challenge.rw_pq0711_01.row.prog
/-! posts that stay small: a statement's post is a letter -/
def Nx (Q₁ : Flow → Shared → Prop) (P : Shared → Prop) : Prop := ∀ s', P s' → Q₁ .next s'
def Rt (Q₁ Q : Flow → Shared → Prop) : Prop := ∀ f s', f ≠ .next → Q f s' → Q₁ f s'
def Rv (Q₁ : Flow → Shared → Prop) (Q : Value → Shared → Prop) : Prop := ∀ v s', Q v s' → Q₁ (.ret v) s'
theorem Nx.use {Q₁ : Flow → Shared → Prop} {P : Shared → Prop} {s' : Shared} (h : Nx Q₁ P) (k : P s') : Q₁ .next s' := h s' k
theorem Rv.use {Q₁ : Flow → Shared → Prop} {Q : Value → Shared → Prop} {s' : Shared} {v : Value} (h : Rv Q₁ Q) (k : Q v s') : Q₁ (.ret v) s' := h v s' k
theorem Rt.ret {Q₁ Q : Flow → Shared → Prop} {s' : Shared} {v : Value} (h : Rt Q₁ Q) (k : Q (.ret v) s') : Q₁ (.ret v) s' := h _ s' nofun k
theorem Rt.brk {Q₁ Q : Flow → Shared → Prop} {s' : Shared} (h : Rt Q₁ Q) (k : Q .brk s') : Q₁ .brk s' := h _ s' nofun k
theorem Rt.cont {Q₁ Q : Flow → Shared → Prop} {s' : Shared} (h : Rt Q₁ Q) (k : Q .cont s') : Q₁ .cont s' := h _ s' nofun k
abbrev Ap (n : Nat) (fr : List Env) : Around := { handled := none, depth := 400 + 20 * n, frames := some fr, guards := none, units := 1000 + 300 * n }

theorem wpAny_up {α : Type} {M : Model} {A A' : Around} {t : Sem α} {Q : α → Shared → Prop} {E : Value → Shared → Prop} {s : Shared} (h : wpAny M A' t Q E s) (h1 : A.handled = A'.handled) (h2 : A.depth ≤ A'.depth)
    (h3 : ∀ l, A'.frames = some l → A.frames = some l) (h4 : A'.guards = none) (h5 : A.units ≤ A'.units) : wpAny M A t Q E s :=
  fun Γ p hΓ => h Γ p ⟨hΓ.1.trans h1, Nat.le_trans hΓ.2.1 h2, fun l e => hΓ.2.2.1 l (h3 l e), fun g e => (nomatch (h4.symm.trans e)), Nat.le_trans hΓ.2.2.2.2 h5⟩

def Kp (as : List Addr) (h h' : Heap) : Prop := ∀ b o, h.get? b = some o → b ∉ as → h'.get? b = some o

structure FrOk (S : Heap) (fr : List Env) (h : Heap) : Prop where
  st : S.StaysIn h
  ff : h.FunFrames S fr

section
variable {w : World} {fr : List Env} {A : Around} {S : Heap} {p : Program} {loose : List Str} {mean : ExcName → Option Value} {mg mb : Str → Option Value} {s : Shared} {Q E : Value → Shared → Prop} {K : Frag}
  {name qual : Str} {params : Arguments} {body : List Stmt} {scope : Scope} {dV kV doc pm cdv ct oc : Value} {an od : Option Addr} {osl : Array (Option Value)} {f : Addr} {args : List Value} {binds : List (Str × Value)}
theorem enterS' (W : List (Addr × Obj)) (hfr : A.frames = some fr) (C : FrOk S fr s.heap) (X : K.In S) (T : Top p loose mean mg mb S)
    (ho : K.lookup f = some ⟨oc, od, .func (fnOf name qual params body scope dV kV doc pm an cdv ct), osl⟩) (hcd : codeIn K cdv qual = true) (hroom : A.depth < recursionLimit)
    (hbind : BindsTo s (fnOf name qual params body scope dV kV doc pm an cdv ct) ⟨args, []⟩ binds) (hloc : ∀ y ∈ binds, scope.names.lookup y.1 = some .local)
    (hW : ∀ p ∈ W, s.heap.get? p.1 = some p.2) (hS : ∀ p ∈ W, S.get? p.1 = none) (hF : ∀ p ∈ W, p.1 ∉ fr.filterMap (·.frame))
    (hcell : ∀ x ∈ scope.names, x.2 ≠ .cell) (hco : scope.isCoroutine = false) (hgen : scope.isGenerator = false) (hk : scope.kind = .function)
    (h : ∀ g L' h₁, Fr g L' h₁ (fun y => binds.reverse.lookup y) → News g L' h₁ W → Below A S fr g → K.In g → Top p loose mean mg mb g → (∀ b o, s.heap.get? b = some o → b ∉ W.map (·.1) → g.get? b = some o) → s.heap.objs.size ≤ L' →
      wpAny (model pg w) (A.deeper (envOf qual scope L' f cdv)) (execs body (envOf qual scope L' f cdv))
        (fun fl s' => Q (match fl with | .ret v => v | _ => .none) s')
        (fun e s' => wpAny (model pg w) (A.deeper (envOf qual scope L' f cdv)) (leaving (envOf qual scope L' f cdv) e) (fun _ s'' => E e s'') (fun e' s'' => E e' s'') s')
        { s with heap := h₁, toks := s.toks + binds.length }) :
    wpAny (model pg w) A (PySem.call (.ref f) args) Q E s := by
  have nS : ∀ b o, S.get? b = some o → b ∉ W.map (·.1) := fun b o e q => by
    obtain ⟨x, hx, rfl⟩ := List.mem_map.mp q
    rw [hS x hx] at e; cases e
  have st : S.StaysIn (hideAll s.heap (W.map (·.1))) := fun b o e => hideAll_get _ (C.st b o e) (nS b o e)
  have ff : (hideAll s.heap (W.map (·.1))).FunFrames S fr := funFrames_hideAll C.ff fun env he a ha hf => by
    obtain ⟨x, hx, rfl⟩ := List.mem_map.mp ha
    exact hF x hx (List.mem_filterMap.mpr ⟨env, he, hf⟩)
  refine wpAny_call (codeAny_call_def (fd := fnOf name qual params body scope dV kV doc pm an cdv ct) (body := body) (binds := binds) hroom (C.st _ _ (X _ _ ho)) rfl (T.nolimit.keeps fun b o e => C.st b o e) (codeRec_of (X.keeps fun b o e => C.st b o e) hcd) rfl hbind hcell hloc (fun h₁ hns hk₁ => ?_) hco hgen hk)
  refine wpAny_mono (h (hideAll s.heap (W.map (·.1))) s.heap.objs.size h₁ ⟨hns, fun b o e => hk₁ b o (of_hideAll _ e), Nat.le_of_eq (hideAll_size _ _)⟩
    (fun x hx => ⟨hk₁ _ _ (hW x hx), Nat.ne_of_lt (Heap.lt_size (hW x hx)), hideAll_none _ (List.mem_map_of_mem hx)⟩) ⟨hfr, st, ff⟩ (X.keeps fun b o e => st b o e) (T.keeps fun b o e => st b o e) (fun b o e hb => hideAll_get _ e hb) (Nat.le_refl _)) (fun fl s' q => ?_) fun _ _ y => ?_
  · cases fl <;> exact q
  · exact y
theorem enterS (W : List (Addr × Obj)) (hfr : A.frames = some fr) (C : FrOk S fr s.heap) (X : K.In S) (T : Top p loose mean mg mb S)
    (ho : K.lookup f = some ⟨oc, od, .func (fnOf name qual params body scope dV kV doc pm an cdv ct), osl⟩) (hcd : codeIn K cdv qual = true) (hroom : A.depth < recursionLimit)
    (hbind : BindsTo s (fnOf name qual params body scope dV kV doc pm an cdv ct) ⟨args, []⟩ binds) (hloc : ∀ y ∈ binds, scope.names.lookup y.1 = some .local)
    (hW : ∀ p ∈ W, s.heap.get? p.1 = some p.2) (hS : ∀ p ∈ W, S.get? p.1 = none) (hF : ∀ p ∈ W, p.1 ∉ fr.filterMap (·.frame))
    (hcell : ∀ x ∈ scope.names, x.2 ≠ .cell) (hco : scope.isCoroutine = false) (hgen : scope.isGenerator = false) (hk : scope.kind = .function)
    (h : ∀ g L' h₁, Fr g L' h₁ (fun y => binds.reverse.lookup y) → News g L' h₁ W → Below A S fr g → K.In g → Top p loose mean mg mb g → (∀ b o, s.heap.get? b = some o → b ∉ W.map (·.1) → g.get? b = some o) →
      wpAny (model pg w) (A.deeper (envOf qual scope L' f cdv)) (execs body (envOf qual scope L' f cdv))
        (fun fl s' => Q (match fl with | .ret v => v | _ => .none) s')
        (fun e s' => wpAny (model pg w) (A.deeper (envOf qual scope L' f cdv)) (leaving (envOf qual scope L' f cdv) e) (fun _ s'' => E e s'') (fun e' s'' => E e' s'') s')
        { s with heap := h₁, toks := s.toks + binds.length }) :
    wpAny (model pg w) A (PySem.call (.ref f) args) Q E s :=
  enterS' W hfr C X T ho hcd hroom hbind hloc hW hS hF hcell hco hgen hk fun g L' h₁ F N B Xg Tg hg _ => h g L' h₁ F N B Xg Tg hg
theorem enterT' (W : List (Addr × Obj)) (hfr : A.frames = some fr) (C : FrOk S fr s.heap) (X : K.In S) (T : Top p loose mean mg mb S)
    (ho : K.lookup f = some ⟨oc, od, .func (fnOf name qual params body scope dV kV doc pm an cdv ct), osl⟩) (hcd : codeIn K cdv qual = true) (hroom : A.depth < recursionLimit)
    (hbind : BindsTo s (fnOf name qual params body scope dV kV doc pm an cdv ct) ⟨args, []⟩ binds) (hloc : ∀ y ∈ binds, scope.names.lookup y.1 = some .local)
    (hW : ∀ p ∈ W, s.heap.get? p.1 = some p.2) (hS : ∀ p ∈ W, S.get? p.1 = none) (hF : ∀ p ∈ W, p.1 ∉ fr.filterMap (·.frame))
    (hcell : ∀ x ∈ scope.names, x.2 ≠ .cell) (hco : scope.isCoroutine = false) (hgen : scope.isGenerator = false) (hk : scope.kind = .function)
    (h : ∀ (Q₁ : Flow → Shared → Prop) g L' h₁ (tk : Nat), let env := envX qual scope L' f cdv []; let m₀ : Str → Option Value := fun y => binds.reverse.lookup y; Rv Q₁ Q → Nx Q₁ (Q .none) → Fr g L' h₁ m₀ → News g L' h₁ W → Below A S fr g → K.In g → Top p loose mean mg mb g → (∀ b o, s.heap.get? b = some o → b ∉ W.map (·.1) → g.get? b = some o) → s.heap.objs.size ≤ L' →
      wpAny (model pg w) (A.deeper env) (execs body env) Q₁ (fun _ _ => False)
        { s with heap := h₁, toks := tk }) :
    wpAny (model pg w) A (PySem.call (.ref f) args) Q E s :=
  enterS' W hfr C X T ho hcd hroom hbind hloc hW hS hF hcell hco hgen hk fun g L' h₁ F N B Xg Tg hg sz => wpAny_mono (h _ g L' h₁ _ (fun _ _ h => h) (fun _ h => h) F N B Xg Tg hg sz) (fun _ _ h => h) fun _ _ h => h.elim
theorem enterT (W : List (Addr × Obj)) (hfr : A.frames = some fr) (C : FrOk S fr s.heap) (X : K.In S) (T : Top p loose mean mg mb S)
    (ho : K.lookup f = some ⟨oc, od, .func (fnOf name qual params body scope dV kV doc pm an cdv ct), osl⟩) (hcd : codeIn K cdv qual = true) (hroom : A.depth < recursionLimit)
    (hbind : BindsTo s (fnOf name qual params body scope dV kV doc pm an cdv ct) ⟨args, []⟩ binds) (hloc : ∀ y ∈ binds, scope.names.lookup y.1 = some .local)
    (hW : ∀ p ∈ W, s.heap.get? p.1 = some p.2) (hS : ∀ p ∈ W, S.get? p.1 = none) (hF : ∀ p ∈ W, p.1 ∉ fr.filterMap (·.frame))
    (hcell : ∀ x ∈ scope.names, x.2 ≠ .cell) (hco : scope.isCoroutine = false) (hgen : scope.isGenerator = false) (hk : scope.kind = .function)
    (h : ∀ (Q₁ : Flow → Shared → Prop) g L' h₁ (tk : Nat), let env := envX qual scope L' f cdv []; let m₀ : Str → Option Value := fun y => binds.reverse.lookup y; Rv Q₁ Q → Nx Q₁ (Q .none) → Fr g L' h₁ m₀ → News g L' h₁ W → Below A S fr g → K.In g → Top p loose mean mg mb g → (∀ b o, s.heap.get? b = some o → b ∉ W.map (·.1) → g.get? b = some o) →
      wpAny (model pg w) (A.deeper env) (execs body env) Q₁ (fun _ _ => False)
        { s with heap := h₁, toks := tk }) :
    wpAny (model pg w) A (PySem.call (.ref f) args) Q E s :=
  enterT' W hfr C X T ho hcd hroom hbind hloc hW hS hF hcell hco hgen hk fun Q₁ g L' h₁ tk => fun rq nq F N B Xg Tg hg _ => h Q₁ g L' h₁ tk rq nq F N B Xg Tg hg
end

end
section
/-! short terms for the facts that two addresses part -/
theorem ltTr {a b c : Nat} (h : a < b) (k : b < c) : a < c := Nat.lt_trans h k
theorem neLt {a b : Nat} (h : a < b) : a ≠ b := Nat.ne_of_lt h
theorem neGt {a b : Nat} (h : b < a) : a ≠ b := Nat.ne_of_gt h
theorem allNil {d : Addr} : ∀ p ∈ ([] : List (Addr × Obj)), p.1 ≠ d := fun _ h => nomatch h
theorem allCons {a d : Addr} {o : Obj} {W : List (Addr × Obj)} (h : @Ne Nat a d) (t : ∀ p ∈ W, p.1 ≠ d) : ∀ p ∈ (a, o) :: W, p.1 ≠ d := List.forall_mem_cons.mpr ⟨h, t⟩
theorem updFT {d a : Addr} {o o1 : Obj} {r : List (Addr × Obj)} {g : Obj → List (Addr × Obj)} (h : @Ne Nat a d) (k : UpdF d o r g) : UpdF d o ((a, o1) :: r) (fun o' => (a, o1) :: g o') := .tail h k
theorem updT {d a : Addr} {o o' o1 : Obj} {r r' : List (Addr × Obj)} (h : @Ne Nat a d) (k : Upd d o o' r r') : Upd d o o' ((a, o1) :: r) ((a, o1) :: r') := .tail h k
theorem lt1 {a d : Addr} {o : Obj} {W : List (Addr × Obj)} (h : ∀ p ∈ (a, o) :: W, p.1 < d) : @LT.lt Nat _ a d := h _ (.head _)
theorem lt2 {a b d : Addr} {o o2 : Obj} {W : List (Addr × Obj)} (h : ∀ p ∈ (a, o) :: (b, o2) :: W, p.1 < d) (_k : @LT.lt Nat _ b a) : @LT.lt Nat _ a d := h _ (.head _)
theorem ltS {a d : Addr} {o : Obj} (h : ∀ p ∈ [(a, o)], p.1 < d) : @LT.lt Nat _ a d := h _ (.head _)
def AllNe (d : Nat) : List (Addr × Obj) → Prop
  | [] => True
  | p :: r => @Ne Nat p.1 d ∧ AllNe d r
theorem allNe_of {d : Addr} : ∀ {l : List (Addr × Obj)}, (∀ p ∈ l, p.1 ≠ d) → AllNe d l
  | [], _ => trivial
  | p :: _, h => ⟨h p (.head _), allNe_of fun q hq => h q (.tail _ hq)⟩
/-! which of a ledger's addresses part: the new ones from all that stood when they came -/
def Dst : List Nat → List Nat → Prop
  | [], _ => True
  | a :: n, b => (∀ x ∈ n ++ b, x ≠ a) ∧ Dst n b
theorem Dst.more {W : List (Addr × Obj)} {d : Addr} {n b : List Nat} (h : ∀ p ∈ W, p.1 < d) (S : Dst n b) (e : W.map (·.1) = n ++ b) : Dst (d :: n) b := ⟨fun x hx => by
  rw [← e] at hx
  obtain ⟨p, hp, rfl⟩ := List.mem_map.mp hx
  exact Nat.ne_of_lt (h p hp), S⟩
theorem allNe_all {d : Addr} : ∀ {l : List (Addr × Obj)}, AllNe d l → ∀ p ∈ l, p.1 ≠ d
  | [], _, _, h => nomatch h
  | _ :: _, ⟨h, _⟩, _, .head _ => h
  | _ :: _, ⟨_, t⟩, _, .tail _ q => allNe_all t _ q
theorem Dst.moreNe {W : List (Addr × Obj)} {d : Addr} {n b : List Nat} (h : AllNe d W) (S : Dst n b) (e : W.map (·.1) = n ++ b) : Dst (d :: n) b := ⟨fun x hx => by
  rw [← e] at hx
  obtain ⟨p, hp, rfl⟩ := List.mem_map.mp hx
  exact allNe_all h p hp, S⟩
inductive ShF (d : Addr) (o : Obj) : List (Addr × Obj) → (Obj → List (Addr × Obj)) → Prop
  | head {r} : ShF d o ((d, o) :: r) (fun o' => (d, o') :: r)
  | tail {p r g} : ShF d o r g → ShF d o (p :: r) (fun o' => p :: g o')
theorem ShF.mem {d : Addr} {o : Obj} : ∀ {l : List (Addr × Obj)} {g : Obj → List (Addr × Obj)}, ShF d o l g → d ∈ l.map (·.1)
  | _, _, .head => List.mem_cons_self
  | _, _, .tail h => List.mem_cons_of_mem _ h.mem
theorem ShF.upd {d : Addr} {o : Obj} {b : List Nat} : ∀ {l : List (Addr × Obj)} {g : Obj → List (Addr × Obj)} {n : List Nat}, ShF d o l g → Dst n b → l.map (·.1) = n ++ b → d ∈ n → UpdF d o l g
  | _, _, [], _, _, _, m => nomatch m
  | _, _, a :: n, .head, ⟨h, _⟩, e, _ => by
    rw [List.map_cons, List.cons_append] at e
    injection e with e1 e2
    subst e1
    exact .head fun p hp => h p.1 (e2 ▸ List.mem_map_of_mem hp)
  | _, _, a :: n, .tail (p := p) k, ⟨h, t⟩, e, m => by
    rw [List.map_cons, List.cons_append] at e
    injection e with e1 e2
    have ne : d ≠ a := h d (e2 ▸ k.mem)
    refine .tail (fun q => ne (by rw [← e1, q])) (k.upd t e2 ?_)
    rcases List.mem_cons.mp m with q | q
    · exact absurd q ne
    · exact q
inductive ShU (d : Addr) (o o' : Obj) : List (Addr × Obj) → List (Addr × Obj) → Prop
  | head {r} : ShU d o o' ((d, o) :: r) ((d, o') :: r)
  | tail {p r r'} : ShU d o o' r r' → ShU d o o' (p :: r) (p :: r')
theorem ShU.mem {d : Addr} {o o' : Obj} : ∀ {l l' : List (Addr × Obj)}, ShU d o o' l l' → d ∈ l.map (·.1)
  | _, _, .head => List.mem_cons_self
  | _, _, .tail h => List.mem_cons_of_mem _ h.mem
theorem ShU.upd {d : Addr} {o o' : Obj} {b : List Nat} : ∀ {l l' : List (Addr × Obj)} {n : List Nat}, ShU d o o' l l' → Dst n b → l.map (·.1) = n ++ b → d ∈ n → Upd d o o' l l'
  | _, _, [], _, _, _, m => nomatch m
  | _, _, a :: n, .head, ⟨h, _⟩, e, _ => by
    rw [List.map_cons, List.cons_append] at e
    injection e with e1 e2
    subst e1
    exact .head fun p hp => h p.1 (e2 ▸ List.mem_map_of_mem hp)
  | _, _, a :: n, .tail (p := p) k, ⟨h, t⟩, e, m => by
    rw [List.map_cons, List.cons_append] at e
    injection e with e1 e2
    have ne : d ≠ a := h d (e2 ▸ k.mem)
    refine .tail (fun q => ne (by rw [← e1, q])) (k.upd t e2 ?_)
    rcases List.mem_cons.mp m with q | q
    · exact absurd q ne
    · exact q
theorem notIn {W : List (Addr × Obj)} {d : Addr} (h : ∀ p ∈ W, p.1 < d) : d ∉ W.map (·.1) := fun q => by
  obtain ⟨p, hp, e⟩ := List.mem_map.mp q
  have := h p hp
  rw [e] at this
  exact Nat.lt_irrefl _ this

end
section
theorem Dst.two {W : List (Addr × Obj)} {d f : Addr} {n b : List Nat} (h : ∀ p ∈ W, p.1 < d) (k : @LT.lt Nat _ d f) (S : Dst n b) (e : W.map (·.1) = n ++ b) : Dst (f :: d :: n) b := ⟨fun x hx => by
  have hx : x = d ∨ x ∈ n ++ b := List.mem_cons.mp hx
  rcases hx with rfl | hx
  · exact Nat.ne_of_lt k
  · rw [← e] at hx
    obtain ⟨p, hp, rfl⟩ := List.mem_map.mp hx
    exact Nat.ne_of_lt (Nat.lt_trans (h p hp) k), S.more h e⟩
def AllN (a : Nat) : List Nat → Prop
  | [] => True
  | x :: l => x ≠ a ∧ AllN a l
theorem allN_mem {a : Nat} : ∀ {l : List Nat}, AllN a l → ∀ x ∈ l, x ≠ a
  | [], _, _, h => nomatch h
  | _ :: _, ⟨h, _⟩, _, .head _ => h
  | _ :: _, ⟨_, t⟩, _, .tail _ q => allN_mem t _ q
theorem Dst.cons {a : Nat} {n b : List Nat} (h : AllN a (n ++ b)) (S : Dst n b) : Dst (a :: n) b := ⟨allN_mem h, S⟩
theorem AllN.cons {a x : Nat} {l : List Nat} (h : x ≠ a) (t : AllN a l) : AllN a (x :: l) := ⟨h, t⟩
inductive Pick (a : Nat) : List Nat → List Nat → Prop
  | head {r} : Pick a (a :: r) r
  | tail {x r r'} : Pick a r r' → Pick a (x :: r) (x :: r')
theorem Pick.mem {a : Nat} : ∀ {r r' : List Nat}, Pick a r r' → a ∈ r
  | _, _, .head => List.mem_cons_self
  | _, _, .tail h => List.mem_cons_of_mem _ h.mem
theorem Pick.sub {a : Nat} : ∀ {r r' : List Nat}, Pick a r r' → ∀ x ∈ r', x ∈ r
  | _, _, .head, _, h => List.mem_cons_of_mem _ h
  | _, _, .tail p, x, h => by
    rcases List.mem_cons.mp h with rfl | h
    · exact List.mem_cons_self
    · exact List.mem_cons_of_mem _ (p.sub x h)
theorem Dst.front {a : Nat} {b : List Nat} : ∀ {n n' : List Nat}, Pick a n n' → Dst n b → Dst (a :: n') b
  | _, _, .head, S => S
  | _, _, .tail (x := x) (r := r) (r' := r') p, ⟨h, S⟩ => by
    obtain ⟨ha, S'⟩ := Dst.front p S
    refine ⟨fun y hy => ?_, fun y hy => ?_, S'⟩
    · rcases List.mem_cons.mp hy with rfl | hy
      · exact fun q => h a (List.mem_append_left _ p.mem) q.symm
      · exact ha y hy
    · rcases List.mem_append.mp hy with hy | hy
      · exact h y (List.mem_append_left _ (p.sub y hy))
      · exact h y (List.mem_append_right _ hy)
theorem Dst.moreF {P : Prop} {W : List (Addr × Obj)} {a d : Addr} {o : Obj} {n n' b : List Nat} (h : ∀ p ∈ (a, o) :: W, p.1 < d) (S : Dst n b) (p : Pick a n n') (e : W.map (·.1) = n' ++ b) (k : Dst (d :: a :: n') b → P) : P :=
  k (Dst.more h (S.front p) (by rw [List.map_cons, e]; rfl))
theorem Dst.moreNeF {P : Prop} {W : List (Addr × Obj)} {a d : Addr} {o : Obj} {n n' b : List Nat} (h : AllNe d ((a, o) :: W)) (S : Dst n b) (p : Pick a n n') (e : W.map (·.1) = n' ++ b) (k : Dst (d :: a :: n') b → P) : P :=
  k (Dst.moreNe h (S.front p) (by rw [List.map_cons, e]; rfl))
theorem ShF.updF {d a : Addr} {o oa : Obj} {b n n' : List Nat} {l : List (Addr × Obj)} {g : Obj → List (Addr × Obj)} (h : ShF d o ((a, oa) :: l) g) (S : Dst n b) (p : Pick a n n') (e : l.map (·.1) = n' ++ b) (m : d ∈ a :: n') : UpdF d o ((a, oa) :: l) g :=
  h.upd (S.front p) (by rw [List.map_cons, e]; rfl) m
theorem ShU.updF {d a : Addr} {o o' oa : Obj} {b n n' : List Nat} {l l' : List (Addr × Obj)} (h : ShU d o o' ((a, oa) :: l) l') (S : Dst n b) (p : Pick a n n') (e : l.map (·.1) = n' ++ b) (m : d ∈ a :: n') : Upd d o o' ((a, oa) :: l) l' :=
  h.upd (S.front p) (by rw [List.map_cons, e]; rfl) m
theorem Dst.ne {a x : Nat} {n n' b : List Nat} (S : Dst n b) (p : Pick a n n') (m : x ∈ n' ++ b) : x ≠ a := (S.front p).1 x m
theorem Dst.en {a x : Nat} {n n' b : List Nat} (S : Dst n b) (p : Pick a n n') (m : x ∈ n' ++ b) : a ≠ x := (S.ne p m).symm

end
section
section
variable {M : Model} {A : Around} {E : Value → Shared → Prop} {s : Shared} {env : Env}
theorem seqQ {st : Stmt} {rest : List Stmt} {Q : Flow → Shared → Prop} (h : ∀ Q₁, Nx Q₁ (fun s' => wpAny M A (execs rest env) Q E s') → Rt Q₁ Q → wpAny M A (exec st env) Q₁ E s) : wpAny M A (execs (st :: rest) env) Q E s :=
  wpAny_execs_cons (h _ (fun _ h => h) (fun f s' n k => by cases f <;> first | exact absurd rfl n | exact k))
theorem seqN {st : Stmt} {rest : List Stmt} {Q : Flow → Shared → Prop} (h : ∀ Q₁, Nx Q₁ (fun s' => wpAny M A (execs rest env) Q E s') → wpAny M A (exec st env) Q₁ E s) : wpAny M A (execs (st :: rest) env) Q E s :=
  seqQ fun Q₁ n _ => h Q₁ n
theorem seq1 {st : Stmt} {Q : Flow → Shared → Prop} (h : wpAny M A (exec st env) Q E s) : wpAny M A (execs [st] env) Q E s := by
  refine wpAny_execs_cons ?_
  refine wpAny_mono h (fun f s' k => ?_) fun _ _ k => k
  cases f
  · exact wpAny_execs_nil k
  all_goals exact k
theorem cInt {h : Heap} {g : Array GenState} {d : Drawn} {t₀ : Nat} {os : OsState} {i : Int} {k : Nat} {pos : Pos} {Q : Value → Shared → Prop} (hh : ∀ t tk, Q (.int i t) ⟨h, g, d, tk, os⟩) : wpAny M A (eval (.Constant (.int i) k pos) env) Q E ⟨h, g, d, t₀, os⟩ := wpAny_Constant_int (hh _ _)
theorem cStr {h : Heap} {g : Array GenState} {d : Drawn} {t₀ : Nat} {os : OsState} {i : Str} {k : Nat} {pos : Pos} {Q : Value → Shared → Prop} (hh : ∀ t tk, Q (.str i t) ⟨h, g, d, tk, os⟩) : wpAny M A (eval (.Constant (.str i) k pos) env) Q E ⟨h, g, d, t₀, os⟩ := Calls.Constant_str (hh _ _)
end
/-! a local name is read: one test, closed -/
def okL (cs : Scope) (x : Str) : Bool := cs.kind == .function && (cs.names.lookup x == some .local && !(x == Str.ofString "__debug__"))
section
variable {M : Model} {A : Around} {E : Value → Shared → Prop} {s : Shared} {h₀ : Heap} {L a : Addr} {m : Str → Option Value} {cn : Str} {cs : Scope} {ccd : Value} {cl : List (Str × Addr)} {x : Str} {pos : Pos} {v : Value} {Q : Value → Shared → Prop}
theorem nameL (F : Fr h₀ L s.heap m) (ok : okL cs x = true) (hv : m x = some v) (h : Q v s) : wpAny M A (eval (.Name x pos) (envX cn cs L a ccd cl)) Q E s := by
  unfold okL at ok
  simp only [Bool.and_eq_true, beq_iff_eq, Bool.not_eq_true'] at ok
  exact nameX_L F hv h ok.1 ok.2.1 ok.2.2
end

end
section
local macro_rules | `(tactic| walk_at $s:str) => `(tactic| k_extra $s)
local macro_rules | `(tactic| walk_at "qstep") => `(tactic| k_end; first | (with_reducible refine Nx.use (by with_reducible assumption) ?_; (try (rename Nx _ _ => nz1; clear nz1)); (try walk_at "qnorm")) | with_reducible refine Rv.use (by with_reducible assumption) ?_ | with_reducible refine Rt.ret (by with_reducible assumption) ?_ | with_reducible refine Rt.brk (by with_reducible assumption) ?_ | with_reducible refine Rt.cont (by with_reducible assumption) ?_)
local macro_rules | `(tactic| k_steps) => `(tactic| repeat' (first | walk_at "qstep" | (k_unfold; (try dsimp only)) | (k_end; kc_close) | walk1 | (dsimp only; walk1) | (leave1; walk_say "STEP leave1"; (try dsimp only)) | fail "no step"))
local macro_rules | `(tactic| walk_at "ltc") => `(tactic| first | with_reducible assumption | (with_reducible refine ltTr ?_ (by with_reducible assumption); walk_at "ltc") | ((fail_if_success (with_reducible show @LT.lt Nat _ _ (OfNat.ofNat _))); first | with_reducible exact Nat.lt_succ_self _ | (with_reducible refine ltTr ?_ (Nat.lt_succ_self _); walk_at "ltc")))
local macro_rules | `(tactic| k_ne) => `(tactic| first | with_reducible assumption | (with_reducible refine Ne.symm ?_; with_reducible assumption) | (refine' Dst.ne ?s ?p ?m; (case s => with_reducible assumption); (case p => walk_at "pick"); (case m => k_mem)) | (refine' Dst.en ?s ?p ?m; (case s => with_reducible assumption); (case p => walk_at "pick"); (case m => k_mem)) | (with_reducible refine neLt ?_; walk_at "ltc") | (with_reducible refine neGt ?_; walk_at "ltc") | (refine neN ?_; (try dsimp only); omega))
local macro_rules | `(tactic| k_all) => `(tactic| first | exact allNil | (refine' allCons ?a ?b; (case a => k_ne); (case b => k_all)))
local macro_rules | `(tactic| walk_at "shf") => `(tactic| first | exact ShF.head | (refine' ShF.tail ?a; case a => walk_at "shf"))
local macro_rules | `(tactic| walk_at "shu") => `(tactic| first | exact ShU.head | (refine' ShU.tail ?a; case a => walk_at "shu"))
local macro_rules | `(tactic| k_updF) => `(tactic| first | (refine' ShF.upd ?h ?s ?e ?m; (case h => walk_at "shf"); (case s => with_reducible assumption); (case e => rfl); (case m => k_mem)) | (refine' ShF.updF ?h ?s ?p ?e ?m; (case h => walk_at "shf"); (case s => with_reducible assumption); (case p => walk_at "pick"); (case e => rfl); (case m => k_mem)) | (refine' UpdF.head ?a; (case a => k_all)) | (refine' updFT ?a ?b; (case a => k_ne); (case b => k_updF)))
local macro_rules | `(tactic| k_upd) => `(tactic| first | (refine' ShU.upd ?h ?s ?e ?m; (case h => walk_at "shu"); (case s => with_reducible assumption); (case e => rfl); (case m => k_mem)) | (refine' ShU.updF ?h ?s ?p ?e ?m; (case h => walk_at "shu"); (case s => with_reducible assumption); (case p => walk_at "pick"); (case e => rfl); (case m => k_mem)) | (refine' Upd.head ?a; (case a => k_all)) | (refine' updT ?a ?b; (case a => k_ne); (case b => k_upd)))
local macro_rules | `(tactic| k_lt $h) => `(tactic| first | (replace $h := ltS $h) | (replace $h := lt2 $h (by with_reducible assumption)) | (replace $h := allLt_of $h; dsimp only [AllLt] at $h:ident; repeat (have hz := And.left $h; replace $h := And.right $h)) | (dsimp only [AllNe] at $h:ident; repeat (have hz := And.left $h; replace $h := And.right $h)))
local macro_rules | `(tactic| k_lt $h) => `(tactic| first | (rename Dst (_ :: _) _ => Sq; replace Sq := Dst.more $h Sq rfl; (try replace $h := lt1 $h)) | (rename Dst [] _ => Sq; replace Sq := Dst.more $h Sq rfl) | (rename Dst _ _ => Sq; replace Sq := Dst.moreNe $h Sq rfl; clear $h) | (rename Dst _ _ => Sq; refine' Dst.moreF $h Sq ?pk ?pe ?pr; (case pk => walk_at "pick"); (case pe => rfl); intro Sr; clear Sq; (try replace $h := lt1 $h)) | (rename Dst _ _ => Sq; refine' Dst.moreNeF $h Sq ?pk ?pe ?pr; (case pk => walk_at "pick"); (case pe => rfl); intro Sr; clear Sq; clear $h))
local macro_rules | `(tactic| walk_at "alln") => `(tactic| first | exact True.intro | (refine AllN.cons (by k_ne) ?_; walk_at "alln"))
local macro_rules | `(tactic| walk_at "dst0") => `(tactic| first | exact True.intro | (refine Dst.cons (by walk_at "alln") ?_; walk_at "dst0"))
local macro_rules | `(tactic| walk_at "pick") => `(tactic| first | exact Pick.head | (refine' Pick.tail ?a; case a => walk_at "pick"))
local macro_rules | `(tactic| lcg_sub) => `(tactic| first | exact List.forall_mem_nil _ | refine List.forall_mem_cons.mpr ⟨by k_mem, by lcg_sub⟩)
local macro_rules | `(tactic| k_in) => `(tactic| first | with_reducible assumption | exact Frag.In.keeps (by with_reducible assumption) (Fr.keep (by with_reducible assumption)))

section
theorem kwo_Dig : True := by
  k_with_none
  w_top off
  k_with "execs cons Assign cons" => (with_reducible refine seqN ?_); intro Qk1 nk1
  k_with "execs cons AugAssign cons" => (with_reducible refine seqN ?_); intro Qk1 nk1
  k_with "execs cons Expr cons" => (with_reducible refine seqN ?_); intro Qk1 nk1
  k_with "execs cons If cons" => (with_reducible refine seqQ ?_); intro Qk1 nk1 rk1
  k_with "execs cons For cons" => (with_reducible refine seqQ ?_); intro Qk1 nk1 rk1
  k_with "execs cons" => (with_reducible refine seq1 ?_)
  k_with "eval Constant int" => (with_reducible refine cInt ?_); intro tq1 kq1
  k_with "eval Constant str" => (with_reducible refine cStr ?_); intro tq1 kq1
  k_with "eval Name" => (k_here; k_dflt (refine' nameL ?Fn1 ?bn1 ?vn1 ?_; (case bn1 => decide +kernel); (case Fn1 => with_reducible assumption); (case vn1 => exact rfl); k_whole))
  exact trivial
theorem fillit (P : Params) : hd.heap_1 P = hd.heap_1 P ∧ PySem.Challenge.rw_pq0711_01 = PySem.Challenge.rw_pq0711_01 := by
  k_fill
  exact ⟨rfl, rfl⟩
section
variable {w : World} {fr : List Env} {S : Heap} {p : Program} {loose : List Str} {mean : ExcName → Option Value} {mg mb : Str → Option Value} {s : Shared} {Q E : Value → Shared → Prop}
theorem fm0 (a k : Int) (hk : 0 < k) : 0 ≤ a.fmod k := by
  rw [Int.fmod_eq_emod_of_nonneg _ (Int.le_of_lt hk)]; exact Int.emod_nonneg _ (Int.ne_of_gt hk)
theorem fm1 (a k : Int) (hk : 0 < k) : a.fmod k < k := by
  rw [Int.fmod_eq_emod_of_nonneg _ (Int.le_of_lt hk)]; exact Int.emod_lt_of_pos _ hk
theorem fd0 (a k : Int) (ha : 0 ≤ a) (hk : 0 < k) : 0 ≤ a.fdiv k := by
  rw [Int.fdiv_eq_ediv_of_nonneg _ (Int.le_of_lt hk)]; exact Int.ediv_nonneg ha (Int.le_of_lt hk)
def DigRet (src : Addr) (k : Int) (s : Shared) (Q : Value → Shared → Prop) : Prop :=
  ∀ r t x' y' tx' ty' n' h' tk', 0 ≤ r → r < k → 0 ≤ x' → 0 ≤ y' → y' < 4294967296 → h'.get? src = some (listOf #[.int x' tx', .int y' ty'] n') → Kp [src] s.heap h' → Q (.int r t) { s with heap := h', toks := tk' }
theorem dig_end {src L' : Addr} {k : Int} {g h' : Heap} {m' : Str → Option Value} {r x' y' : Int} {t tx' ty' : Tok} {n' tk' : Nat} (hret : DigRet src k s Q) (F : Fr g L' h' m') (N : News g L' h' [(src, listOf #[.int x' tx', .int y' ty'] n')])
    (hg : ∀ b o, s.heap.get? b = some o → b ∉ [src] → g.get? b = some o) (h1 : 0 ≤ r) (h2 : r < k) (h3 : 0 ≤ x') (h4 : 0 ≤ y') (h5 : y' < 4294967296) : Q (.int r t) { s with heap := h', toks := tk' } :=
  hret r t x' y' tx' ty' n' h' tk' h1 h2 h3 h4 h5 (N.get (.head _)) fun b o e hb => F.keep b o (hg b o e hb)
set_option maxHeartbeats 4000000 in
theorem digit_spec {src : Addr} {x y : Int} {tx ty : Tok} {n : Nat} {k : Int} {tk : Tok}
    (C : FrOk S fr s.heap) (X : (hd.heap_1 w.params).In S) (T : Top p loose mean mg mb S)
    (hs : s.heap.get? src = some (listOf #[.int x tx, .int y ty] n)) (hS : S.get? src = none) (hF : src ∉ fr.filterMap (·.frame))
    (hx : 0 ≤ x) (hy : 0 ≤ y) (hy2 : y < 4294967296) (hk : 0 < k) (hk2 : k ≤ 16)
    (hret : DigRet src k s Q) :
    wpAny (model pg w) (Ap 9 fr) (PySem.call (.ref 380) [.ref src, .int k tk]) Q E s := by
  refine enterT [(src, listOf #[.int x tx, .int y ty] n)] rfl C X T (by k_is) (by k_is) (show 580 < 1000 by decide) (BindsTo.of_eq (binds := [(Str.ofString "source", .ref src), (Str.ofString "many", .int k tk)]) rfl) (locs rfl) ?_ ?_ ?_ (by decide) rfl rfl rfl ?_
  · exact List.forall_mem_cons.mpr ⟨hs, List.forall_mem_nil _⟩
  · exact List.forall_mem_cons.mpr ⟨hS, List.forall_mem_nil _⟩
  · exact List.forall_mem_cons.mpr ⟨hF, List.forall_mem_nil _⟩
  intro Q₁ g L' h₁ tk₀ env m₀ rq nq F N B Xg Tg hg
  k_steps
  all_goals ((try dsimp only); refine dig_end (s := s) hret (by assumption) (by assumption) hg ?_ ?_ ?_ ?_ ?_)
  all_goals first | exact fm0 _ _ hk | exact fm1 _ _ hk | exact fd0 _ _ hx hk | exact hx | exact hy | exact hy2 | exact fm0 _ _ (by decide) | exact Int.lt_trans (fm1 _ _ (by decide)) (by decide)
end

end
section
theorem kwo_Val : True := by
  k_with_none
  w_top off
  k_with "execs cons Assign cons" => (with_reducible refine seqN ?_); intro Qk1 nk1
  k_with "execs cons AugAssign cons" => (with_reducible refine seqN ?_); intro Qk1 nk1
  k_with "execs cons Expr cons" => (with_reducible refine seqN ?_); intro Qk1 nk1
  k_with "execs cons If cons" => (with_reducible refine seqQ ?_); intro Qk1 nk1 rk1
  k_with "execs cons For cons" => (with_reducible refine seqQ ?_); intro Qk1 nk1 rk1
  k_with "execs cons" => (with_reducible refine seq1 ?_)
  k_with "eval Constant int" => (with_reducible refine cInt ?_); intro tq1 kq1
  k_with "eval Constant str" => (with_reducible refine cStr ?_); intro tq1 kq1
  k_with "eval Name" => (k_here; k_dflt (refine' nameL ?Fn1 ?bn1 ?vn1 ?_; (case bn1 => decide +kernel); (case Fn1 => with_reducible assumption); (case vn1 => exact rfl); k_whole))
  exact trivial
theorem fillit2 (P : Params) : hd.heap_1 P = hd.heap_1 P ∧ PySem.Challenge.rw_pq0711_01 = PySem.Challenge.rw_pq0711_01 := by
  k_fill
  exact ⟨rfl, rfl⟩
/-! data that are tuples all through -/
mutual
inductive TV (h : Heap) : Value → PyData → Prop
  | none : TV h .none .none
  | int (i t) : TV h (.int i t) (.int i)
  | str (x t) : TV h (.str x t) (.str x)
  | tup {a : Addr} {o : Obj} {vs : List Value} {n : Nat} {ds : List PyData} : h.get? a = some o → o.cls = .type "tuple" → o.data = .seq vs.toArray n → TVs h vs ds → TV h (.ref a) (.tuple ds)
inductive TVs (h : Heap) : List Value → List PyData → Prop
  | nil : TVs h [] []
  | cons {v d vs ds} : TV h v d → TVs h vs ds → TVs h (v :: vs) (d :: ds)
end
mutual
theorem TV.reads {h : Heap} : ∀ {v d}, TV h v d → Reads h v d []
  | _, _, .none => .none
  | _, _, .int _ _ => .int _ _
  | _, _, .str _ _ => .str _ _
  | _, _, .tup e c d r => .tuple e c d (by simpa using r.reads)
theorem TVs.reads {h : Heap} : ∀ {vs ds}, TVs h vs ds → ReadsAll h vs ds []
  | _, _, .nil => .nil
  | _, _, .cons a b => .cons a.reads b.reads
end
def TupKept (h h' : Heap) : Prop := ∀ a o, h.get? a = some o → o.cls = .type "tuple" → ∃ sl, h'.get? a = some { o with slots := sl }
mutual
theorem TV.keep {h h' : Heap} (k : TupKept h h') : ∀ {v d}, TV h v d → TV h' v d
  | _, _, .none => .none
  | _, _, .int _ _ => .int _ _
  | _, _, .str _ _ => .str _ _
  | _, _, .tup e c d r => let ⟨_, e'⟩ := k _ _ e c; .tup e' c d (r.keep k)
theorem TVs.keep {h h' : Heap} (k : TupKept h h') : ∀ {vs ds}, TVs h vs ds → TVs h' vs ds
  | _, _, .nil => .nil
  | _, _, .cons a b => .cons (a.keep k) (b.keep k)
end
theorem TupKept.all {h h' : Heap} (k : ∀ b o, h.get? b = some o → h'.get? b = some o) : TupKept h h' := fun a o e _ => ⟨o.slots, k a o e⟩
theorem TupKept.trans {h₁ h₂ h₃ : Heap} (x : TupKept h₁ h₂) (y : TupKept h₂ h₃) : TupKept h₁ h₃ := fun a _ e c => let ⟨_, e'⟩ := x a _ e c; let ⟨sl, e''⟩ := y a _ e' c; ⟨sl, e''⟩
theorem Kp.tup {as : List Addr} {h h' : Heap} (k : Kp as h h') (n : ∀ a ∈ as, ∀ o, h.get? a = some o → o.cls ≠ .type "tuple") : TupKept h h' := fun a o e c =>
  ⟨o.slots, k a o e fun q => n a q o e c⟩
def Nice (d : PyData) : Prop := d.canLay0 = true ∧ d.depth ≤ 8 ∧ PyData.eqv d d = true

theorem nice_none : Nice .none := by refine ⟨by simp [PyData.canLay0], by simp [PyData.depth], by simp [PyData.eqv]⟩
theorem nice_two {a x : Str} (ha : PyData.strOk a = true) (hx : PyData.strOk x = true) : Nice (.tuple [.str a, .str x]) := by
  refine ⟨by simp [PyData.canLay0, PyData.canLayAll0, ha, hx], by simp [PyData.depth, PyData.depthAll], by simp [PyData.eqv, PyData.eqvAll]⟩
theorem nice_int {a x : Str} {i : Int} (ha : PyData.strOk a = true) (hx : PyData.strOk x = true) : Nice (.tuple [.str a, .str x, .int i]) := by
  refine ⟨by simp [PyData.canLay0, PyData.canLayAll0, ha, hx], by simp [PyData.depth, PyData.depthAll], by simp [PyData.eqv, PyData.eqvAll]⟩
/-! a site of a call within a walk -/
section
variable {w : World} {fr : List Env} {A A₀ : Around} {S g : Heap} {L : Addr} {m : Str → Option Value} {env : Env} {s : Shared} {Q E : Value → Shared → Prop} {W : List (Addr × Obj)} {gf : Obj → List (Addr × Obj)} {h' : Heap} {b : Addr} {o : Obj}
theorem site {h : Heap} (B : Below A S fr g) (F : Fr g L h m) (hf : env.frame = some L) (hk : env.scope.kind = .function) : FrOk S (env :: fr) h :=
  ⟨fun b o e => F.keep b o (B.stays b o e), (pushX B F hf hk).frames⟩
theorem site_new {h : Heap} (B : Below A S fr g) (N : News g L h W) (hm : (b, o) ∈ W) : S.get? b = none := fresh_of_stays B.stays (N _ hm).2.2
theorem site_off {h : Heap} (B : Below A S fr g) (N : News g L h W) (hm : (b, o) ∈ W) (hf : env.frame = some L) : b ∉ (env :: fr).filterMap (·.frame) := fun q => by
  rw [List.filterMap_cons, hf] at q
  rcases List.mem_cons.mp q with q | q
  · exact (N _ hm).2.1 q
  · obtain ⟨_, o', ho', _⟩ := B.frames.mem q
    rw [(N _ hm).2.2] at ho'; cases ho'
theorem kp_fr (F : Fr g L s.heap m) (k : Kp [b] s.heap h') (hb : L ≠ b) (hg : g.get? b = none) : Fr g L h' m := by
  obtain ⟨oL, es, ep, hL, r⟩ := F.ns
  exact ⟨⟨oL, es, ep, k L oL hL (fun q => hb (List.mem_singleton.mp q)), r⟩, fun c oc e => k c oc (F.keep c oc e) (fun q => by rw [List.mem_singleton.mp q, hg] at e; cases e), F.above⟩
theorem kp_news (N : News g L s.heap W) (U : UpdF b o W gf) (k : Kp [b] s.heap h') {o' : Obj} (hb : h'.get? b = some o') : News g L h' (gf o') := by
  obtain ⟨pre, post, rfl, hgf, h1, h2⟩ := U.split
  rw [hgf]
  intro p hp
  rcases List.mem_append.mp hp with hp | hp
  · have n := N p (List.mem_append_left _ hp)
    exact ⟨k _ _ n.1 (fun q => h1 p hp (List.mem_singleton.mp q)), n.2⟩
  · rcases List.mem_cons.mp hp with rfl | hp
    · exact ⟨hb, (N (b, o) (List.mem_append_right _ (.head _))).2⟩
    · have n := N p (List.mem_append_right _ (.tail _ hp))
      exact ⟨k _ _ n.1 (fun q => h2 p hp (List.mem_singleton.mp q)), n.2⟩
theorem updF_mem {d : Addr} {o : Obj} {l : List (Addr × Obj)} {g : Obj → List (Addr × Obj)} (U : UpdF d o l g) : (d, o) ∈ l := by
  obtain ⟨pre, post, rfl, _⟩ := U.split
  exact List.mem_append_right _ (.head _)

variable {p : Program} {loose : List Str} {mean : ExcName → Option Value} {mg mb : Str → Option Value}
theorem digit_K {src : Addr} {x y : Int} {tx ty : Tok} {n : Nat} {k : Int} {tk : Tok}
    (hA : A.handled = none) (hfr : A.frames = some (env :: fr)) (hdp : A.depth ≤ 580) (hu : A.units ≤ 3700) (C : FrOk S (env :: fr) s.heap) (F : Fr g L s.heap m)
    (X : (hd.heap_1 w.params).In S) (T : Top p loose mean mg mb S) (N : News g L s.heap W) (U : UpdF src (listOf #[.int x tx, .int y ty] n) W gf)
    (hS : S.get? src = none) (hF : src ∉ (env :: fr).filterMap (·.frame))
    (hx : 0 ≤ x) (hy : 0 ≤ y) (hy2 : y < 4294967296) (hk : 0 < k) (hk2 : k ≤ 16)
    (hret : ∀ r t x' y' tx' ty' n' h' tk', 0 ≤ r → r < k → 0 ≤ x' → 0 ≤ y' → y' < 4294967296 → Fr g L h' m → News g L h' (gf (listOf #[.int x' tx', .int y' ty'] n')) → Kp [src] s.heap h' → Q (.int r t) { s with heap := h', toks := tk' }) :
    wpAny (model pg w) A (PySem.call (.ref 380) [.ref src, .int k tk]) Q E s := by
  have hm := updF_mem U
  refine wpAny_up (A' := Ap 9 (env :: fr)) (digit_spec C X T (N.get hm) hS hF hx hy hy2 hk hk2 ?_) hA hdp (fun l e => by cases e; exact hfr) rfl hu
  intro r t x' y' tx' ty' n' h' tk' h1 h2 h3 h4 h5 h6 h7
  exact hret r t x' y' tx' ty' n' h' tk' h1 h2 h3 h4 h5 (kp_fr F h7 (Ne.symm (N _ hm).2.1) (N _ hm).2.2) (kp_news N U h7 h6) h7
end
theorem kw_Val_1 : True := by
  k_with "call ref" => (k_here; (with_reducible show wpAny _ _ (PySem.call (Value.ref 380) _) _ _ _); k_dflt (refine' digit_K rfl rfl ?hdpKw ?huKw ?CKw ?FKw ?XKw ?TKw ?NKw ?UKw ?hSKw ?hFKw ?hxKw ?hyKw ?hy2Kw ?hkKw ?hk2Kw ?_; (case hdpKw => exact Nat.le_of_ble_eq_true rfl); (case huKw => exact Nat.le_of_ble_eq_true rfl); (case FKw => k_asm); (case NKw => k_asm); (case UKw => k_updF); (case CKw => exact site (by assumption) (by assumption) rfl rfl); (case XKw => assumption); (case TKw => assumption); (case hSKw => exact site_new (by assumption) (by assumption) (by k_mem)); (case hFKw => exact site_off (by assumption) (by assumption) (by k_mem) rfl); (case hxKw => assumption); (case hyKw => assumption); (case hy2Kw => assumption); (case hkKw => decide); (case hk2Kw => decide); k_whole); intro r'q t'q x'q y'q tx'q ty'q n'q h'q tk'q r0'q r1'q hx'q hy'q hy2'q F'q N'q K'q; (try dsimp only at N'q))
  exact trivial
section
variable {w : World} {fr : List Env} {S : Heap} {p : Program} {loose : List Str} {mean : ExcName → Option Value} {mg mb : Str → Option Value} {s : Shared} {Q E : Value → Shared → Prop}
def ValRet (src : Addr) (s : Shared) (Q : Value → Shared → Prop) : Prop :=
  ∀ t o vs ds nt x' y' tx' ty' n' h' tk', o.cls = .type "tuple" → o.data = .seq vs.toArray nt → (∀ h, TVs h vs ds) → Nice (.tuple ds) → h'.get? t = some o → s.heap.get? t = none → 0 ≤ x' → 0 ≤ y' → y' < 4294967296 →
    h'.get? src = some (listOf #[.int x' tx', .int y' ty'] n') → Kp [src] s.heap h' → Q (.ref t) { s with heap := h', toks := tk' }
theorem val_end {src L' D : Addr} {g h' : Heap} {m' : Str → Option Value} {x' y' : Int} {tx' ty' : Tok} {n' tk' nt : Nat} {o : Obj} {vs : List Value} {ds : List PyData} (hret : ValRet src s Q) (F : Fr g L' h' m') (N : News g L' h' [(D, o), (src, listOf #[.int x' tx', .int y' ty'] n')])
    (hg : ∀ b o, s.heap.get? b = some o → b ∉ [src] → g.get? b = some o) (hc : o.cls = .type "tuple") (hd : o.data = .seq vs.toArray nt) (hv : ∀ h, TVs h vs ds) (hn : Nice (.tuple ds)) (h3 : 0 ≤ x') (h4 : 0 ≤ y') (h5 : y' < 4294967296) : Q (.ref D) { s with heap := h', toks := tk' } := by
  refine hret D o vs ds nt x' y' tx' ty' n' h' tk' hc hd hv hn (N.get (.head _)) ?_ h3 h4 h5 (N.get (.tail _ (.head _))) fun b o e hb => F.keep b o (hg b o e hb)
  cases q : s.heap.get? D with
  | none => rfl
  | some o' =>
    exfalso
    by_cases z : D = src
    · have e1 := N.get (.head _)
      have e2 := N.get (.tail _ (.head _))
      rw [z, e2] at e1
      have e3 := Option.some.inj e1
      subst e3
      exact absurd hc (show Value.type "list" ≠ Value.type "tuple" from by decide)
    · have := hg D o' q (fun y => z (List.mem_singleton.mp y))
      rw [(N _ (.head _)).2.2] at this; cases this
set_option maxHeartbeats 4000000 in
theorem value_spec {src : Addr} {x y : Int} {tx ty : Tok} {n : Nat} {nm : Str} {tk : Tok}
    (C : FrOk S fr s.heap) (X : (hd.heap_1 w.params).In S) (T : Top p loose mean mg mb S)
    (hs : s.heap.get? src = some (listOf #[.int x tx, .int y ty] n)) (hS : S.get? src = none) (hF : src ∉ fr.filterMap (·.frame))
    (hx : 0 ≤ x) (hy : 0 ≤ y) (hy2 : y < 4294967296) (hn : PyData.strOk nm = true)
    (hret : ValRet src s Q) :
    wpAny (model pg w) (Ap 8 fr) (PySem.call (.ref 401) [.ref src, .str nm tk]) Q E s := by
  refine enterT [(src, listOf #[.int x tx, .int y ty] n)] rfl C X T (by k_is) (by k_is) (show 560 < 1000 by decide) (BindsTo.of_eq (binds := [(Str.ofString "source", .ref src), (Str.ofString "name", .str nm tk)]) rfl) (locs rfl) ?_ ?_ ?_ (by decide) rfl rfl rfl ?_
  · exact List.forall_mem_cons.mpr ⟨hs, List.forall_mem_nil _⟩
  · exact List.forall_mem_cons.mpr ⟨hS, List.forall_mem_nil _⟩
  · exact List.forall_mem_cons.mpr ⟨hF, List.forall_mem_nil _⟩
  intro Q₁ g L' h₁ tk₀ env m₀ rq nq F N B Xg Tg hg
  k_steps
  all_goals dsimp only
  · exact val_end (s := s) hret (by assumption) (by assumption) hg rfl rfl (fun _ => .cons (.str _ _) (.cons (.str _ _) (.cons (.int _ _) .nil))) (nice_int (by decide +kernel) (by decide +kernel)) (by assumption) (by assumption) (by assumption)
  · exact val_end (s := s) hret (by assumption) (by assumption) hg rfl rfl (fun _ => .cons (.str _ _) (.cons (.str _ _) .nil)) (nice_two (by decide +kernel) hn) (by assumption) (by assumption) (by assumption)
  · exact val_end (s := s) hret (by assumption) (by assumption) hg rfl rfl (fun _ => .cons (.str _ _) (.cons (.str _ _) .nil)) (nice_two (by decide +kernel) hn) (by assumption) (by assumption) (by assumption)
end

end
section
theorem kwo_Held : True := by
  k_with_none
  w_top off
  k_with "execs cons Assign cons" => (with_reducible refine seqN ?_); intro Qk1 nk1
  k_with "execs cons AugAssign cons" => (with_reducible refine seqN ?_); intro Qk1 nk1
  k_with "execs cons Expr cons" => (with_reducible refine seqN ?_); intro Qk1 nk1
  k_with "execs cons If cons" => (with_reducible refine seqQ ?_); intro Qk1 nk1 rk1
  k_with "execs cons For cons" => (with_reducible refine seqQ ?_); intro Qk1 nk1 rk1
  k_with "execs cons" => (with_reducible refine seq1 ?_)
  k_with "eval Constant int" => (with_reducible refine cInt ?_); intro tq1 kq1
  k_with "eval Constant str" => (with_reducible refine cStr ?_); intro tq1 kq1
  k_with "eval Name" => (k_here; k_dflt (refine' nameL ?Fn1 ?bn1 ?vn1 ?_; (case bn1 => decide +kernel); (case Fn1 => with_reducible assumption); (case vn1 => exact rfl); k_whole))
  exact trivial
theorem fillit3 (P : Params) : hd.heap_1 P = hd.heap_1 P ∧ PySem.Challenge.rw_pq0711_01 = PySem.Challenge.rw_pq0711_01 := by
  k_fill
  exact ⟨rfl, rfl⟩
def isB (nm : Str) : Bool := [Str.ofString "add", Str.ofString "sub"].any fun x => x == nm
theorem kp_ro {g h h₀ : Heap} {L : Addr} {m : Str → Option Value} {W W' : List (Addr × Obj)} (F : Fr g L h m) (N : News g L h W') (hg : ∀ b o, h₀.get? b = some o → b ∉ W.map (·.1) → g.get? b = some o)
    (hW : ∀ p ∈ W, h₀.get? p.1 = some p.2) (sub : ∀ p ∈ W, p ∈ W') : ∀ b o, h₀.get? b = some o → h.get? b = some o := fun b o e => by
  by_cases q : b ∈ W.map (·.1)
  · obtain ⟨x, hx, rfl⟩ := List.mem_map.mp q
    have := hW x hx
    rw [e] at this; cases this
    exact N.get (sub x hx)
  · exact F.keep b o (hg b o e q)
def HeldD (h : Heap) (kvs : List (Str × Value)) (nm : Str) (D : PyData) : Prop :=
  match valueAt kvs nm with
  | some r => TV h r D
  | none => D = if isB nm then .tuple [.str (Str.ofString "builtin"), .str nm] else .none
abbrev SD (w : World) := PySem.strKind pg w
theorem dict_low {S : Heap} {w : World} {b : Addr} (H : S.get? 1 = some (boot_o_1 w.params)) (h : S.get? b = none) : (b == sysModules) = false := by
  cases q : b == sysModules with
  | false => rfl
  | true =>
    have : b = 1 := beq_iff_eq.mp q
    subst this
    rw [h] at H; cases H
section
variable {w : World} {fr : List Env} {S : Heap} {p : Program} {loose : List Str} {mean : ExcName → Option Value} {mg mb : Str → Option Value} {s : Shared} {Q E : Value → Shared → Prop}
def twoTup (x : Str) (a b : Tok) : Obj := { cls := .type "tuple", data := .seq #[.str (Str.ofString "builtin") a, .str x b] }
def HeldV (h₀ h' : Heap) (kvs : List (Str × Value)) (x : Str) (v : Value) : Prop :=
  match valueAt kvs x with
  | some r => v = r
  | none => match isB x with
    | true => ∃ t a b, v = .ref t ∧ h'.get? t = some (twoTup x a b) ∧ h₀.get? t = none
    | false => v = .none
def HeldRet (kvs : List (Str × Value)) (x : Str) (s : Shared) (Q : Value → Shared → Prop) : Prop :=
  ∀ v h' tk', HeldV s.heap h' kvs x v → Kp [] s.heap h' → Q v { s with heap := h', toks := tk' }
theorem fresh_tup {g h h₀ : Heap} {L t : Addr} {W W' : List (Addr × Obj)} {ot : Obj} (N : News g L h ((t, ot) :: W')) (hg : ∀ b o, h₀.get? b = some o → b ∉ W.map (·.1) → g.get? b = some o)
    (hW : ∀ p ∈ W, h₀.get? p.1 = some p.2) (sub : ∀ p ∈ W, p ∈ W') (hc : ot.cls = .type "tuple") (hn : ∀ p ∈ W, p.2.cls ≠ .type "tuple") : h₀.get? t = none := by
  cases e : h₀.get? t with
  | none => rfl
  | some o =>
    exfalso
    by_cases q : t ∈ W.map (·.1)
    · obtain ⟨x, hx, rfl⟩ := List.mem_map.mp q
      have h1 := N.get (.tail _ (sub x hx))
      have h2 := N.get (.head _)
      rw [h1] at h2
      cases h2
      exact hn x hx hc
    · have := (N _ (.head _)).2.2
      rw [hg t o e q] at this; cases this
theorem dict_cls {w : World} {o : Obj} {kvs : List (Str × Value)} (h : o.IsDictOf (SD w) kvs) : o.cls ≠ .type "tuple" := by
  obtain ⟨_, _, ⟨e, _⟩, _⟩ := h
  rw [e]; decide
theorem kw_Held_1 : True := by
  k_with "compareOp In str ref" => (k_here; first | refine kda_in (knd := PySem.strKind _ _) (by k_asm) (by k_mem) (by k_asm) (by assumption) (strKind_is _ _ _ _) true (by simp only [*]; rfl) ?_ | refine kda_in (knd := PySem.strKind _ _) (by k_asm) (by k_mem) (by k_asm) (by assumption) (strKind_is _ _ _ _) false (by simp only [*]; rfl) ?_)
  exact trivial
theorem kw_Held_2 : True := by
  k_with "subscriptTail" => (k_here; (with_reducible show wpAny _ _ (subscriptTail _ _ (Value.ref _) (Value.str _ _)) _ _ _); k_dflt (refine kda_item (knd := PySem.strKind _ _) (by k_asm) (by k_mem) (by k_asm) (strKind_is _ _ _ _) (by assumption) ?_))
  exact trivial
set_option maxHeartbeats 4000000 in
theorem held_spec {hl : Addr} {o : Obj} {kvs : List (Str × Value)} {nm : Str} {tk : Tok}
    (C : FrOk S fr s.heap) (X : (hd.heap_1 w.params).In S) (H1 : S.get? 1 = some (boot_o_1 w.params)) (T : Top p loose mean mg mb S)
    (ho : s.heap.get? hl = some o) (hdo : o.IsDictOf (SD w) kvs) (hS : S.get? hl = none) (hF : hl ∉ fr.filterMap (·.frame))
    (hret : HeldRet kvs nm s Q) :
    wpAny (model pg w) (Ap 8 fr) (PySem.call (.ref 408) [.ref hl, .str nm tk]) Q E s := by
  have lo := dict_low H1 hS
  refine enterT [(hl, o)] rfl C X T (by k_is) (by k_is) (show 560 < 1000 by decide) (BindsTo.of_eq (binds := [(Str.ofString "held", .ref hl), (Str.ofString "name", .str nm tk)]) rfl) (locs rfl) ?_ ?_ ?_ (by decide) rfl rfl rfl ?_
  · exact List.forall_mem_cons.mpr ⟨ho, List.forall_mem_nil _⟩
  · exact List.forall_mem_cons.mpr ⟨hS, List.forall_mem_nil _⟩
  · exact List.forall_mem_cons.mpr ⟨hF, List.forall_mem_nil _⟩
  intro Q₁ g L' h₁ tk₀ env m₀ rq nq F N B Xg Tg hg
  have hW : ∀ p ∈ [(hl, o)], s.heap.get? p.1 = some p.2 := List.forall_mem_cons.mpr ⟨ho, List.forall_mem_nil _⟩
  cases hv : valueAt kvs nm with
  | some r =>
    k_steps
    (try dsimp only)
    have k := kp_ro (by assumption) (by assumption) hg hW (fun _ h => h)
    exact hret _ _ _ (by unfold HeldV; rw [hv]) fun b o e _ => k b o e
  | none =>
    k_steps
    · dsimp only
      have k := kp_ro (by assumption) (by assumption) hg hW (fun q h => by cases List.mem_singleton.mp h; k_mem)
      have hb : isB nm = true := by assumption
      refine hret _ _ _ ?_ fun b o e _ => k b o e
      unfold HeldV
      rw [hv, hb]
      exact ⟨_, _, _, rfl, News.get (by assumption) (.head _), fresh_tup (by assumption) hg hW (fun q h => by cases List.mem_singleton.mp h; k_mem) rfl (List.forall_mem_cons.mpr ⟨dict_cls hdo, List.forall_mem_nil _⟩)⟩
    · dsimp only
      have k := kp_ro (by assumption) (by assumption) hg hW (fun q h => by cases List.mem_singleton.mp h; k_mem)
      have hb : isB nm = false := by assumption
      refine hret _ _ _ ?_ fun b o e _ => k b o e
      unfold HeldV
      rw [hv, hb]
end

end
section
theorem kwo_VOf : True := by
  k_with_none
  w_top off
  k_with "execs cons Assign cons" => (with_reducible refine seqN ?_); intro Qk1 nk1
  k_with "execs cons AugAssign cons" => (with_reducible refine seqN ?_); intro Qk1 nk1
  k_with "execs cons Expr cons" => (with_reducible refine seqN ?_); intro Qk1 nk1
  k_with "execs cons If cons" => (with_reducible refine seqQ ?_); intro Qk1 nk1 rk1
  k_with "execs cons For cons" => (with_reducible refine seqQ ?_); intro Qk1 nk1 rk1
  k_with "execs cons" => (with_reducible refine seq1 ?_)
  k_with "eval Constant int" => (with_reducible refine cInt ?_); intro tq1 kq1
  k_with "eval Constant str" => (with_reducible refine cStr ?_); intro tq1 kq1
  k_with "eval Name" => (k_here; k_dflt (refine' nameL ?Fn1 ?bn1 ?vn1 ?_; (case bn1 => decide +kernel); (case Fn1 => with_reducible assumption); (case vn1 => exact rfl); k_whole))
  exact trivial
theorem fillit4 (P : Params) : hd.heap_1 P = hd.heap_1 P ∧ PySem.Challenge.rw_pq0711_01 = PySem.Challenge.rw_pq0711_01 := by
  k_fill
  exact ⟨rfl, rfl⟩
abbrev gD (bi dv df : Addr) (a b c : Int) (t u v : Tok) (n : Nat) : Obj := dictOf [⟨a, .str (Str.ofString "builtins") t, .ref bi⟩, ⟨b, .str (Str.ofString "values") u, .ref dv⟩, ⟨c, .str (Str.ofString "fixed") v, .ref df⟩] n
def kB : List (Str × Value) := [(Str.ofString "add", .none), (Str.ofString "sub", .none)]
theorem kB_yes {nm : Str} (h : isB nm = true) : valueAt kB nm = some .none := by
  unfold isB at h
  unfold valueAt kB
  simp only [List.any_cons, List.any_nil, Bool.or_false, Bool.or_eq_true, beq_iff_eq] at h
  rcases h with h | h <;> subst h <;> first | rfl | decide +kernel
theorem kB_no {nm : Str} (h : isB nm = false) : valueAt kB nm = none := by
  unfold isB at h
  unfold valueAt kB
  simp only [List.any_cons, List.any_nil, Bool.or_false, Bool.or_eq_false_iff, beq_eq_false_iff_ne, ne_eq] at h
  simp only [List.find?_cons, List.find?_nil, h.1, h.2, decide_false, Option.map_none]
def Off (S : Heap) (fr : List Env) (b : Addr) : Prop := S.get? b = none ∧ b ∉ fr.filterMap (·.frame)
/-! the globals of the law: the object, its dict, what is built in, the values -/
structure GL (w : World) (h : Heap) (nm dN bi dv df : Addr) : Prop where
  i : h.get? nm = some (instObj 201 dN)
  d : ∃ a b c t u v n, h.get? dN = some (gD bi dv df a b c t u v n)
  b : ∃ o, h.get? bi = some o ∧ o.IsDictOf (SD w) kB
section
variable {w : World} {fr : List Env} {S : Heap} {p : Program} {loose : List Str} {mean : ExcName → Option Value} {mg mb : Str → Option Value} {s : Shared} {Q E : Value → Shared → Prop}
theorem kw_VOf_1 : True := by
  k_with "compareOp In str ref" => (k_here; first | refine kda_in (knd := PySem.strKind _ _) (by k_asm) (by k_mem) (by k_asm) (by assumption) (strKind_is _ _ _ _) true (by simp only [*]; rfl) ?_ | refine kda_in (knd := PySem.strKind _ _) (by k_asm) (by k_mem) (by k_asm) (by assumption) (strKind_is _ _ _ _) false (by simp only [*]; rfl) ?_)
  exact trivial
theorem kw_VOf_2 : True := by
  k_with "subscriptTail" => (k_here; (with_reducible show wpAny _ _ (subscriptTail _ _ (Value.ref _) (Value.str _ _)) _ _ _); k_dflt (refine kda_item (knd := PySem.strKind _ _) (by k_asm) (by k_mem) (by k_asm) (strKind_is _ _ _ _) (by assumption) ?_))
  exact trivial
theorem dget {A : Around} {g : Heap} {L d : Addr} {news : List (Addr × Obj)} {o : Obj} {kvs : List (Str × Value)} {k : Str} {t : Tok} {v : Value} (N : News g L s.heap news) (hp : (d, o) ∈ news) (hd : o.IsDictOf (SD w) kvs) (hl : valueAt kvs k = some v)
    (h : Q v { s with toks := s.toks + 1 }) : wpAny (model pg w) A (getItem (.ref d) (.str k t)) Q E s :=
  wpAny_getItem_of (strKind_is _ _ _ _) (kda_dict N hp hd).mapOf hl h
theorem kw_VOf_3 : True := by
  k_with "getItem ref str" => (k_here; k_dflt (refine dget (by k_asm) (by k_mem) (by k_asm) (by assumption) ?_))
  exact trivial
set_option maxHeartbeats 4000000 in
theorem valueOf_spec {nm dN bi dv df : Addr} {o : Obj} {kvs : List (Str × Value)} {x : Str} {tk : Tok}
    (C : FrOk S fr s.heap) (X : (hd.heap_1 w.params).In S) (H1 : S.get? 1 = some (boot_o_1 w.params)) (T : Top p loose mean mg mb S)
    (G : GL w s.heap nm dN bi dv df) (ho : s.heap.get? dv = some o) (hdo : o.IsDictOf (SD w) kvs)
    (f1 : Off S fr nm) (f2 : Off S fr dN) (f3 : Off S fr bi) (f4 : Off S fr dv)
    (hret : HeldRet kvs x s Q) :
    wpAny (model pg w) (Ap 9 fr) (PySem.call (.ref 179) [.ref nm, .str x tk]) Q E s := by
  obtain ⟨hi, ⟨ha, hb, hc, ta, tb, tc, n, hdN⟩, ob, hob, hobd⟩ := G
  have lo := dict_low H1 f4.1
  have lob := dict_low H1 f3.1
  have hW : ∀ p ∈ [(nm, instObj 201 dN), (dN, gD bi dv df ha hb hc ta tb tc n), (dv, o), (bi, ob)], s.heap.get? p.1 = some p.2 :=
    List.forall_mem_cons.mpr ⟨hi, List.forall_mem_cons.mpr ⟨hdN, List.forall_mem_cons.mpr ⟨ho, List.forall_mem_cons.mpr ⟨hob, List.forall_mem_nil _⟩⟩⟩⟩
  refine enterT _ rfl C X T (by k_is) (by k_is) (show 580 < 1000 by decide) (BindsTo.of_eq (binds := [(Str.ofString "self", .ref nm), (Str.ofString "name", .str x tk)]) rfl) (locs rfl) hW ?_ ?_ (by decide) rfl rfl rfl ?_
  · exact List.forall_mem_cons.mpr ⟨f1.1, List.forall_mem_cons.mpr ⟨f2.1, List.forall_mem_cons.mpr ⟨f4.1, List.forall_mem_cons.mpr ⟨f3.1, List.forall_mem_nil _⟩⟩⟩⟩
  · exact List.forall_mem_cons.mpr ⟨f1.2, List.forall_mem_cons.mpr ⟨f2.2, List.forall_mem_cons.mpr ⟨f4.2, List.forall_mem_cons.mpr ⟨f3.2, List.forall_mem_nil _⟩⟩⟩⟩
  intro Q₁ g L' h₁ tk₀ env m₀ rq nq F N B Xg Tg hg
  have hn : ∀ p ∈ [(nm, instObj 201 dN), (dN, gD bi dv df ha hb hc ta tb tc n), (dv, o), (bi, ob)], p.2.cls ≠ .type "tuple" :=
    List.forall_mem_cons.mpr ⟨nofun, List.forall_mem_cons.mpr ⟨(show Value.type "dict" ≠ Value.type "tuple" from by decide), List.forall_mem_cons.mpr ⟨dict_cls hdo, List.forall_mem_cons.mpr ⟨dict_cls hobd, List.forall_mem_nil _⟩⟩⟩⟩
  cases hv : valueAt kvs x with
  | some r =>
    k_steps
    (try dsimp only)
    have k := kp_ro (by assumption) (by assumption) hg hW (fun _ h => h)
    exact hret _ _ _ (by unfold HeldV; rw [hv]) fun b o e _ => k b o e
  | none =>
    cases hB : isB x with
    | true =>
      have hvB := kB_yes hB
      k_steps
      (try dsimp only)
      have k := kp_ro (by assumption) (by assumption) hg hW (fun q h => .tail _ h)
      refine hret _ _ _ ?_ fun b o e _ => k b o e
      unfold HeldV
      rw [hv, hB]
      exact ⟨_, _, _, rfl, News.get (by assumption) (.head _), fresh_tup (by assumption) hg hW (fun _ h => h) rfl hn⟩
    | false =>
      have hvB := kB_no hB
      k_steps
      (try dsimp only)
      have k := kp_ro (by assumption) (by assumption) hg hW (fun q h => h)
      refine hret _ _ _ ?_ fun b o e _ => k b o e
      unfold HeldV
      rw [hv, hB]
end

end
section
theorem kwo_Asg : True := by
  k_with_none
  w_top off
  k_with "execs cons Assign cons" => (with_reducible refine seqN ?_); intro Qk1 nk1
  k_with "execs cons AugAssign cons" => (with_reducible refine seqN ?_); intro Qk1 nk1
  k_with "execs cons Expr cons" => (with_reducible refine seqN ?_); intro Qk1 nk1
  k_with "execs cons If cons" => (with_reducible refine seqQ ?_); intro Qk1 nk1 rk1
  k_with "execs cons For cons" => (with_reducible refine seqQ ?_); intro Qk1 nk1 rk1
  k_with "execs cons" => (with_reducible refine seq1 ?_)
  k_with "eval Constant int" => (with_reducible refine cInt ?_); intro tq1 kq1
  k_with "eval Constant str" => (with_reducible refine cStr ?_); intro tq1 kq1
  k_with "eval Name" => (k_here; k_dflt (refine' nameL ?Fn1 ?bn1 ?vn1 ?_; (case bn1 => decide +kernel); (case Fn1 => with_reducible assumption); (case vn1 => exact rfl); k_whole))
  exact trivial
theorem fillit5 (P : Params) : hd.heap_1 P = hd.heap_1 P ∧ PySem.Challenge.rw_pq0711_01 = PySem.Challenge.rw_pq0711_01 := by
  k_fill
  exact ⟨rfl, rfl⟩
def HeldAt (g : Heap) (L : Addr) (kvs : List (Str × Value)) (x : Str) (D : PyData) : Prop := ∀ h m, Fr g L h m → HeldD h kvs x D
def TVAt (g : Heap) (L : Addr) (v : Value) (d : PyData) : Prop := ∀ h m, Fr g L h m → TV h v d
theorem HeldD.keep {h h' : Heap} {kvs : List (Str × Value)} {x : Str} {D : PyData} (k : TupKept h h') (H : HeldD h kvs x D) : HeldD h' kvs x D := by
  unfold HeldD at *
  cases q : valueAt kvs x with
  | some r => rw [q] at H; exact H.keep k
  | none => rw [q] at H; exact H
theorem tup_of {g h h₀ : Heap} {L : Addr} {m : Str → Option Value} {W : List (Addr × Obj)} (F : Fr g L h m) (hg : ∀ b o, h₀.get? b = some o → b ∉ W.map (·.1) → g.get? b = some o) (hW : ∀ p ∈ W, h₀.get? p.1 = some p.2)
    (hn : ∀ p ∈ W, p.2.cls ≠ .type "tuple") : TupKept h₀ h := fun b o e c => by
  by_cases q : b ∈ W.map (·.1)
  · obtain ⟨x, hx, rfl⟩ := List.mem_map.mp q
    have := hW x hx
    rw [e] at this; cases this
    exact absurd c (hn x hx)
  · exact ⟨o.slots, F.keep b o (hg b o e q)⟩
theorem kp_but {g h h₀ : Heap} {L : Addr} {m : Str → Option Value} {W W' : List (Addr × Obj)} {as : List Addr} (F : Fr g L h m) (N : News g L h W') (hg : ∀ b o, h₀.get? b = some o → b ∉ W.map (·.1) → g.get? b = some o)
    (hW : ∀ p ∈ W, h₀.get? p.1 = some p.2) (sub : ∀ p ∈ W, p ∈ W' ∨ p.1 ∈ as) : Kp as h₀ h := fun b o e n => by
  by_cases q : b ∈ W.map (·.1)
  · obtain ⟨x, hx, rfl⟩ := List.mem_map.mp q
    have := hW x hx
    rw [e] at this; cases this
    exact (sub x hx).elim (fun m => N.get m) fun m => absurd m n
  · exact F.keep b o (hg b o e q)
section
variable {w : World} {fr : List Env} {S : Heap} {p : Program} {loose : List Str} {mean : ExcName → Option Value} {mg mb : Str → Option Value} {s : Shared} {Q E : Value → Shared → Prop}
theorem kw_Asg_1 : True := by
  k_with "compareOp In str ref" => (k_here; first | refine kda_in (knd := PySem.strKind _ _) (by k_asm) (by k_mem) (by k_asm) (by assumption) (strKind_is _ _ _ _) true (by simp only [*]; rfl) ?_ | refine kda_in (knd := PySem.strKind _ _) (by k_asm) (by k_mem) (by k_asm) (by assumption) (strKind_is _ _ _ _) false (by simp only [*]; rfl) ?_)
  exact trivial
theorem kw_Asg_2 : True := by
  k_with "setItem ref str" => (k_here; k_dflt (refine' kda_set (knd := PySem.strKind _ _) ?FKw ?NKw ?UKw ?dKw (strKind_is _ _ _ _) ?zKw ?_; (case FKw => k_asm); (case NKw => k_asm); (case UKw => k_updF); (case dKw => k_asm); (case zKw => rw [sizeLine_eq]; omega)); intro h'q o'q F'q N'q hd'q; (try dsimp only at N'q))
  exact trivial
def AsgRet (w : World) (dv : Addr) (kvs : List (Str × Value)) (x : Str) (v : Value) (s : Shared) (Q : Value → Shared → Prop) : Prop :=
  ∀ o' h' tk', h'.get? dv = some o' → o'.IsDictOf (SD w) (stored kvs x v) → Kp [dv] s.heap h' → Q .none { s with heap := h', toks := tk' }
set_option maxHeartbeats 4000000 in
theorem assign_ok {nm dN bi dv df : Addr} {o od : Obj} {kvs kf : List (Str × Value)} {x : Str} {tk : Tok} {v : Value}
    (C : FrOk S fr s.heap) (X : (hd.heap_1 w.params).In S) (H1 : S.get? 1 = some (boot_o_1 w.params)) (T : Top p loose mean mg mb S)
    (G : GL w s.heap nm dN bi dv df) (ho : s.heap.get? dv = some o) (hdo : o.IsDictOf (SD w) kvs) (hod : s.heap.get? df = some od) (hdd : od.IsDictOf (SD w) kf)
    (f1 : Off S fr nm) (f2 : Off S fr dN) (f3 : Off S fr bi) (f4 : Off S fr dv) (f5 : Off S fr df) (ne : ([nm, dN, bi, dv, df] : List Nat).Nodup)
    (hv : valueAt kf x = none) (hB : isB x = false) (hl : kvs.length ≤ 1000)
    (hret : AsgRet w dv kvs x v s Q) :
    wpAny (model pg w) (Ap 7 fr) (PySem.call (.ref 198) [.ref nm, .str x tk, v]) Q E s := by
  obtain ⟨hi, ⟨ha, hb, hc, ta, tb, tc, n, hdN⟩, ob, hob, hobd⟩ := G
  have lo := dict_low H1 f4.1
  have lob := dict_low H1 f3.1
  have lod := dict_low H1 f5.1
  have hvB := kB_no hB
  simp only [List.nodup_cons, List.mem_cons, List.not_mem_nil, or_false, not_or] at ne
  have hW : ∀ p ∈ [(dv, o), (nm, instObj 201 dN), (dN, gD bi dv df ha hb hc ta tb tc n), (df, od), (bi, ob)], s.heap.get? p.1 = some p.2 :=
    List.forall_mem_cons.mpr ⟨ho, List.forall_mem_cons.mpr ⟨hi, List.forall_mem_cons.mpr ⟨hdN, List.forall_mem_cons.mpr ⟨hod, List.forall_mem_cons.mpr ⟨hob, List.forall_mem_nil _⟩⟩⟩⟩⟩
  refine enterT _ rfl C X T (by k_is) (by k_is) (show 540 < 1000 by decide) (BindsTo.of_eq (binds := [(Str.ofString "self", .ref nm), (Str.ofString "name", .str x tk), (Str.ofString "value", v)]) rfl) (locs rfl) hW ?_ ?_ (by decide) rfl rfl rfl ?_
  · exact List.forall_mem_cons.mpr ⟨f4.1, List.forall_mem_cons.mpr ⟨f1.1, List.forall_mem_cons.mpr ⟨f2.1, List.forall_mem_cons.mpr ⟨f5.1, List.forall_mem_cons.mpr ⟨f3.1, List.forall_mem_nil _⟩⟩⟩⟩⟩
  · exact List.forall_mem_cons.mpr ⟨f4.2, List.forall_mem_cons.mpr ⟨f1.2, List.forall_mem_cons.mpr ⟨f2.2, List.forall_mem_cons.mpr ⟨f5.2, List.forall_mem_cons.mpr ⟨f3.2, List.forall_mem_nil _⟩⟩⟩⟩⟩
  intro Q₁ g L' h₁ tk₀ env m₀ rq nq F N B Xg Tg hg
  k_steps
  (try dsimp only)
  refine hret _ _ _ (News.get (by assumption) (.head _)) (by assumption) (kp_but (by assumption) (by assumption) hg hW ?_)
  repeat' (first | exact List.forall_mem_nil _ | refine List.forall_mem_cons.mpr ⟨?_, ?_⟩ | exact .inr (List.Mem.head _) | exact .inl (by k_mem))

/-! a call of value_of within a walk -/
def Adds (g : Heap) (L : Addr) (h₀ h' : Heap) (W : List (Addr × Obj)) : Prop := ∀ t o, h'.get? t = some o → h₀.get? t = none → News g L h' ((t, o) :: W) ∧ AllNe t W
theorem adds {g h₀ h' : Heap} {L : Addr} {m : Str → Option Value} {W : List (Addr × Obj)} (F : Fr g L h₀ m) (N : News g L h₀ W) (N' : News g L h' W) : Adds g L h₀ h' W := fun t o e f => by
  obtain ⟨oL, _, _, hL, _⟩ := F.ns
  refine ⟨fun p hp => ?_, allNe_of fun p hp q => ?_⟩
  · rcases List.mem_cons.mp hp with rfl | hp
    · refine ⟨e, fun q => ?_, ?_⟩
      · have q' : t = L := q
        subst q'; rw [hL] at f; cases f
      · cases q : g.get? t with
        | none => rfl
        | some o' => rw [F.keep _ _ q] at f; cases f
    · exact N' p hp
  · have := (N p hp).1
    rw [q, f] at this; cases this
theorem adds_get {g h₀ h' : Heap} {L t : Addr} {o : Obj} {W : List (Addr × Obj)} (A : Adds g L h₀ h' W) (e : h'.get? t = some o) (f : h₀.get? t = none) : News g L h' ((t, o) :: W) ∧ AllNe t W := A t o e f
theorem heldS {h₀ h' : Heap} {kvs : List (Str × Value)} {x : Str} {v r : Value} (H : HeldV h₀ h' kvs x v) (e : valueAt kvs x = some r) : v = r := by
  unfold HeldV at H; rw [e] at H; exact H
theorem heldT {h₀ h' : Heap} {kvs : List (Str × Value)} {x : Str} {v : Value} (H : HeldV h₀ h' kvs x v) (e : valueAt kvs x = none) (b : isB x = true) : ∃ t a b, v = .ref t ∧ h'.get? t = some (twoTup x a b) ∧ h₀.get? t = none := by
  unfold HeldV at H; rw [e, b] at H; exact H
theorem heldN {h₀ h' : Heap} {kvs : List (Str × Value)} {x : Str} {v : Value} (H : HeldV h₀ h' kvs x v) (e : valueAt kvs x = none) (b : isB x = false) : v = .none := by
  unfold HeldV at H; rw [e, b] at H; exact H
theorem valueOf_K {A : Around} {env : Env} {g : Heap} {L : Addr} {m : Str → Option Value} {W : List (Addr × Obj)} {nm dN bi dv df : Addr} {ha hb hc : Int} {ta tb tc : Tok} {n : Nat} {o ob : Obj} {kvs : List (Str × Value)} {x : Str} {tk : Tok}
    (hA : A.handled = none) (hfr : A.frames = some (env :: fr)) (hdp : A.depth ≤ 580) (hu : A.units ≤ 3700) (C : FrOk S (env :: fr) s.heap) (F : Fr g L s.heap m)
    (X : (hd.heap_1 w.params).In S) (H1 : S.get? 1 = some (boot_o_1 w.params)) (T : Top p loose mean mg mb S) (N : News g L s.heap W)
    (m1 : (nm, instObj 201 dN) ∈ W) (m2 : (dN, gD bi dv df ha hb hc ta tb tc n) ∈ W) (m3 : (bi, ob) ∈ W) (hob : ob.IsDictOf (SD w) kB) (m4 : (dv, o) ∈ W) (hdo : o.IsDictOf (SD w) kvs)
    (f1 : Off S (env :: fr) nm) (f2 : Off S (env :: fr) dN) (f3 : Off S (env :: fr) bi) (f4 : Off S (env :: fr) dv)
    (hret : ∀ v h' tk', HeldV s.heap h' kvs x v → Fr g L h' m → News g L h' W → Adds g L s.heap h' W → Q v { s with heap := h', toks := tk' }) :
    wpAny (model pg w) A (PySem.call (.ref 179) [.ref nm, .str x tk]) Q E s := by
  refine wpAny_up (A' := Ap 9 (env :: fr)) (valueOf_spec (df := df) C X H1 T ⟨N.get m1, ⟨_, _, _, _, _, _, _, N.get m2⟩, _, N.get m3, hob⟩ (N.get m4) hdo f1 f2 f3 f4 ?_) hA hdp (fun l e => by cases e; exact hfr) rfl hu
  intro v h' tk' hv k
  have k' : ∀ b o, s.heap.get? b = some o → h'.get? b = some o := fun b o e => k b o e (fun q => nomatch q)
  have N' : News g L h' W := fun p hp => ⟨k' _ _ (N p hp).1, (N p hp).2⟩
  exact hret v h' tk' hv (F.keeps k') N' (adds F N N')
theorem notIn_two {A : Around} {g : Heap} {L t : Addr} {W : List (Addr × Obj)} {o : Obj} {x v : Value} {n : Nat} {D d : PyData} (N : News g L s.heap W) (m : (t, o) ∈ W) (hc : o.cls = .type "tuple") (hdt : o.data = .seq #[.none, v] n)
    (hx : TV s.heap x D) (hv : TV s.heap v d) (nD : Nice D) (nd : Nice d) (hu : A.units ≤ 5000) {b : Bool} (hb : ([PyData.none, d].any fun y => PyData.eqv y D) = b) (h : Q (.bool (!b)) s) :
    wpAny (model pg w) A (compareOp .NotIn x (.ref t)) Q E s := by
  refine SeqAt.notIn_tuple_reads (TV.tup (N.get m) hc hdt (.cons .none (.cons hv .nil))).reads hx.reads ?_ nD.1 ?_ (by rw [hb]; exact h)
  · simp [PyData.canLayAll0, PyData.canLay0, nd.1]
  · have := nD.2.1
    have e : cLine = 9900 := rfl
    omega
theorem in_two {A : Around} {g : Heap} {L t : Addr} {W : List (Addr × Obj)} {o : Obj} {x v : Value} {n : Nat} {D d : PyData} (N : News g L s.heap W) (m : (t, o) ∈ W) (hc : o.cls = .type "tuple") (hdt : o.data = .seq #[.none, v] n)
    (hx : TV s.heap x D) (hv : TV s.heap v d) (nD : Nice D) (nd : Nice d) (hu : A.units ≤ 5000) {b : Bool} (hb : ([PyData.none, d].any fun y => PyData.eqv y D) = b) (h : Q (.bool b) s) :
    wpAny (model pg w) A (compareOp .In x (.ref t)) Q E s := by
  refine SeqAt.in_tuple_reads (TV.tup (N.get m) hc hdt (.cons .none (.cons hv .nil))).reads hx.reads ?_ nD.1 ?_ (by rw [hb]; exact h)
  · simp [PyData.canLayAll0, PyData.canLay0, nd.1]
  · have := nD.2.1
    have e : cLine = 9900 := rfl
    omega
theorem off {A : Around} {env : Env} {g h : Heap} {L b : Addr} {W : List (Addr × Obj)} {o : Obj} (B : Below A S fr g) (N : News g L h W) (hm : (b, o) ∈ W) (hf : env.frame = some L) : Off S (env :: fr) b := ⟨site_new B N hm, site_off B N hm hf⟩
theorem TVAt.at {g h : Heap} {L : Addr} {m : Str → Option Value} {v : Value} {d : PyData} (H : TVAt g L v d) (F : Fr g L h m) : TV h v d := H h m F
theorem kw_Asg_3 : True := by
  k_with "call ref" => (k_here; (with_reducible show wpAny _ _ (PySem.call (Value.ref 179) _) _ _ _); k_dflt (refine' valueOf_K rfl rfl ?hdpKw ?huKw ?CKw ?FKw ?XKw ?H1Kw ?TKw ?NKw ?m1Kw ?m2Kw ?m3Kw ?hobKw ?m4Kw ?hdoKw ?f1Kw ?f2Kw ?f3Kw ?f4Kw ?_; (case hdpKw => exact Nat.le_of_ble_eq_true rfl); (case huKw => exact Nat.le_of_ble_eq_true rfl); (case FKw => k_asm); (case NKw => k_asm); (case m1Kw => k_mem); (case m2Kw => k_mem); (case m3Kw => k_mem); (case hobKw => assumption); (case m4Kw => k_mem); (case hdoKw => assumption); (case CKw => exact site (by assumption) (by assumption) rfl rfl); (case XKw => assumption); (case H1Kw => assumption); (case TKw => assumption); (case f1Kw => exact off (by assumption) (by assumption) (by k_mem) rfl); (case f2Kw => exact off (by assumption) (by assumption) (by k_mem) rfl); (case f3Kw => exact off (by assumption) (by assumption) (by k_mem) rfl); (case f4Kw => exact off (by assumption) (by assumption) (by k_mem) rfl); k_whole); intro v'q h'q tk'q hv'q F'q N'q A'q; first | (have e'q := heldS hv'q (by assumption); subst e'q; clear hv'q A'q) | (have e'q := heldN hv'q (by assumption) (by assumption); subst e'q; clear hv'q A'q) | (obtain ⟨t'q, a'q, b'q, e'q, hm'q, hf'q⟩ := heldT hv'q (by assumption) (by assumption); subst e'q; obtain ⟨N2'q, l1q⟩ := adds_get A'q hm'q hf'q; clear hv'q A'q N'q hm'q hf'q; k_lt l1q))
  exact trivial
theorem kw_Asg_4 : True := by
  k_with "compareOp NotIn" => (k_here; k_dflt (refine notIn_two (by k_asm) (by k_mem) rfl rfl (by first | exact TVAt.at (by assumption) (by k_asm) | exact TV.none | exact TV.tup (News.get (by k_asm) (by k_mem)) rfl rfl (.cons (.str _ _) (.cons (.str _ _) .nil))) (TVAt.at (by assumption) (by k_asm)) (by assumption) (by assumption) (Nat.le_of_ble_eq_true rfl) (by assumption) ?_))
  exact trivial
def DefRet (w : World) (dv df : Addr) (kvs kf : List (Str × Value)) (x : Str) (v : Value) (s : Shared) (Q : Value → Shared → Prop) : Prop :=
  ∀ o' od' h' tk', h'.get? dv = some o' → o'.IsDictOf (SD w) (stored kvs x v) → h'.get? df = some od' → od'.IsDictOf (SD w) (stored kf x (.bool true)) → Kp [dv, df] s.heap h' → Q .none { s with heap := h', toks := tk' }
set_option maxHeartbeats 4000000 in
theorem define_ok {nm dN bi dv df : Addr} {o od : Obj} {kvs kf : List (Str × Value)} {x : Str} {tk : Tok} {v : Value} {D d : PyData}
    (C : FrOk S fr s.heap) (X : (hd.heap_1 w.params).In S) (H1 : S.get? 1 = some (boot_o_1 w.params)) (T : Top p loose mean mg mb S)
    (G : GL w s.heap nm dN bi dv df) (ho : s.heap.get? dv = some o) (hdo : o.IsDictOf (SD w) kvs) (hod : s.heap.get? df = some od) (hdd : od.IsDictOf (SD w) kf)
    (f1 : Off S fr nm) (f2 : Off S fr dN) (f3 : Off S fr bi) (f4 : Off S fr dv) (f5 : Off S fr df) (ne : ([nm, dN, bi, dv, df] : List Nat).Nodup)
    (hD : HeldD s.heap kvs x D) (nD : Nice D) (hv : TV s.heap v d) (nd : Nice d) (hin : ([PyData.none, d].any fun y => PyData.eqv y D) = true) (hl : kvs.length ≤ 1000) (hl2 : kf.length ≤ 1000)
    (hret : DefRet w dv df kvs kf x v s Q) :
    wpAny (model pg w) (Ap 7 fr) (PySem.call (.ref 191) [.ref nm, .str x tk, v]) Q E s := by
  obtain ⟨hi, ⟨ha, hb, hc, ta, tb, tc, n, hdN⟩, ob, hob, hobd⟩ := G
  have lo := dict_low H1 f4.1
  have lob := dict_low H1 f3.1
  have lod := dict_low H1 f5.1
  simp only [List.nodup_cons, List.mem_cons, List.not_mem_nil, or_false, not_or] at ne
  have hW : ∀ p ∈ [(dv, o), (df, od), (nm, instObj 201 dN), (dN, gD bi dv df ha hb hc ta tb tc n), (bi, ob)], s.heap.get? p.1 = some p.2 :=
    List.forall_mem_cons.mpr ⟨ho, List.forall_mem_cons.mpr ⟨hod, List.forall_mem_cons.mpr ⟨hi, List.forall_mem_cons.mpr ⟨hdN, List.forall_mem_cons.mpr ⟨hob, List.forall_mem_nil _⟩⟩⟩⟩⟩
  refine enterT _ rfl C X T (by k_is) (by k_is) (show 540 < 1000 by decide) (BindsTo.of_eq (binds := [(Str.ofString "self", .ref nm), (Str.ofString "name", .str x tk), (Str.ofString "value", v)]) rfl) (locs rfl) hW ?_ ?_ (by decide) rfl rfl rfl ?_
  · exact List.forall_mem_cons.mpr ⟨f4.1, List.forall_mem_cons.mpr ⟨f5.1, List.forall_mem_cons.mpr ⟨f1.1, List.forall_mem_cons.mpr ⟨f2.1, List.forall_mem_cons.mpr ⟨f3.1, List.forall_mem_nil _⟩⟩⟩⟩⟩
  · exact List.forall_mem_cons.mpr ⟨f4.2, List.forall_mem_cons.mpr ⟨f5.2, List.forall_mem_cons.mpr ⟨f1.2, List.forall_mem_cons.mpr ⟨f2.2, List.forall_mem_cons.mpr ⟨f3.2, List.forall_mem_nil _⟩⟩⟩⟩⟩
  intro Q₁ g L' h₁ tk₀ env m₀ rq nq F N B Xg Tg hg
  have hn : ∀ p ∈ [(dv, o), (df, od), (nm, instObj 201 dN), (dN, gD bi dv df ha hb hc ta tb tc n), (bi, ob)], p.2.cls ≠ .type "tuple" :=
    List.forall_mem_cons.mpr ⟨dict_cls hdo, List.forall_mem_cons.mpr ⟨dict_cls hdd, List.forall_mem_cons.mpr ⟨nofun, List.forall_mem_cons.mpr ⟨(show Value.type "dict" ≠ Value.type "tuple" from by decide), List.forall_mem_cons.mpr ⟨dict_cls hobd, List.forall_mem_nil _⟩⟩⟩⟩⟩
  have hv0 : TVAt g L' v d := fun h m F => hv.keep (tup_of F hg hW hn)
  unfold HeldD at hD
  cases hq : valueAt kvs x with
  | some r =>
    rw [hq] at hD
    have hr0 : TVAt g L' r D := fun h m F => hD.keep (tup_of F hg hW hn)
    k_steps
    (try dsimp only)
    refine hret _ _ _ _ (News.get (by assumption) (by k_mem)) (by assumption) (News.get (by assumption) (by k_mem)) (by assumption) (kp_but (by assumption) (by assumption) hg hW ?_)
    repeat' (first | exact List.forall_mem_nil _ | refine List.forall_mem_cons.mpr ⟨?_, ?_⟩ | exact .inr (by k_mem) | exact .inl (by k_mem))
  | none =>
    rw [hq] at hD
    dsimp only at hD
    cases hB : isB x with
    | true =>
      rw [hB] at hD
      subst hD
      k_steps
      (try dsimp only)
      refine hret _ _ _ _ (News.get (by assumption) (by k_mem)) (by assumption) (News.get (by assumption) (by k_mem)) (by assumption) (kp_but (by assumption) (by assumption) hg hW ?_)
      repeat' (first | exact List.forall_mem_nil _ | refine List.forall_mem_cons.mpr ⟨?_, ?_⟩ | exact .inr (by k_mem) | exact .inl (by k_mem))
    | false =>
      rw [hB] at hD
      subst hD
      k_steps
      (try dsimp only)
      refine hret _ _ _ _ (News.get (by assumption) (by k_mem)) (by assumption) (News.get (by assumption) (by k_mem)) (by assumption) (kp_but (by assumption) (by assumption) hg hW ?_)
      repeat' (first | exact List.forall_mem_nil _ | refine List.forall_mem_cons.mpr ⟨?_, ?_⟩ | exact .inr (by k_mem) | exact .inl (by k_mem))
end

end
section
theorem kwo_Ent : True := by
  k_with_none
  w_top off
  k_with "execs cons Assign cons" => (with_reducible refine seqN ?_); intro Qk1 nk1
  k_with "execs cons AugAssign cons" => (with_reducible refine seqN ?_); intro Qk1 nk1
  k_with "execs cons Expr cons" => (with_reducible refine seqN ?_); intro Qk1 nk1
  k_with "execs cons If cons" => (with_reducible refine seqQ ?_); intro Qk1 nk1 rk1
  k_with "execs cons For cons" => (with_reducible refine seqQ ?_); intro Qk1 nk1 rk1
  k_with "execs cons" => (with_reducible refine seq1 ?_)
  k_with "eval Constant int" => (with_reducible refine cInt ?_); intro tq1 kq1
  k_with "eval Constant str" => (with_reducible refine cStr ?_); intro tq1 kq1
  k_with "eval Name" => (k_here; k_dflt (refine' nameL ?Fn1 ?bn1 ?vn1 ?_; (case bn1 => decide +kernel); (case Fn1 => with_reducible assumption); (case vn1 => exact rfl); k_whole))
  exact trivial
theorem fillit14 (P : Params) : hd.heap_1 P = hd.heap_1 P ∧ PySem.Challenge.rw_pq0711_01 = PySem.Challenge.rw_pq0711_01 := by
  k_fill
  exact ⟨rfl, rfl⟩
section
variable {w : World} {fr : List Env} {A : Around} {S : Heap} {p : Program} {loose : List Str} {mean : ExcName → Option Value} {mg mb : Str → Option Value} {s : Shared} {Q E : Value → Shared → Prop} {K : Frag}
theorem hide_ok {W : List (Addr × Obj)} (C : FrOk S fr s.heap) (hW : ∀ p ∈ W, s.heap.get? p.1 = some p.2) (hS : ∀ p ∈ W, S.get? p.1 = none) (hF : ∀ p ∈ W, p.1 ∉ fr.filterMap (·.frame)) :
    S.StaysIn (hideAll s.heap (W.map (·.1))) ∧ (hideAll s.heap (W.map (·.1))).FunFrames S fr := by
  have nS : ∀ b o, S.get? b = some o → b ∉ W.map (·.1) := fun b o e q => by
    obtain ⟨x, hx, rfl⟩ := List.mem_map.mp q
    rw [hS x hx] at e; cases e
  refine ⟨fun b o e => hideAll_get _ (C.st b o e) (nS b o e), funFrames_hideAll C.ff fun env he a ha hf => ?_⟩
  obtain ⟨x, hx, rfl⟩ := List.mem_map.mp ha
  exact hF x hx (List.mem_filterMap.mpr ⟨env, he, hf⟩)
/-! a lambda is entered -/
theorem enterE {name qual : Str} {params : Arguments} {body : Expr} {scope : Scope} {cl : List (Str × Addr)} {pm ctv : Value} {c' f : Addr} {args : List Value} {binds : List (Str × Value)} (W : List (Addr × Obj)) (hfr : A.frames = some fr) (C : FrOk S fr s.heap) (X : K.In S) (T : Top p loose mean mg mb S)
    (ho : s.heap.get? f = some (kla_obj name qual params body scope cl pm c' ctv)) (hcd : s.heap.CodeRec (.ref c') qual) (hroom : A.depth < recursionLimit)
    (hbind : bindArgs (kla_fn name qual params body scope cl pm (.ref c') ctv) ⟨args, []⟩ = pure binds) (hloc : ∀ y ∈ binds, scope.names.lookup y.1 = some .local)
    (hW : ∀ p ∈ W, s.heap.get? p.1 = some p.2) (hS : ∀ p ∈ W, S.get? p.1 = none) (hF : ∀ p ∈ W, p.1 ∉ fr.filterMap (·.frame))
    (hcell : ∀ x ∈ scope.names, x.2 ≠ .cell) (hco : scope.isCoroutine = false) (hgen : scope.isGenerator = false) (hk : scope.kind = .function)
    (h : ∀ g L' h₁, Fr g L' h₁ (fun y => binds.reverse.lookup y) → News g L' h₁ W → Below A S fr g → K.In g → Top p loose mean mg mb g → (∀ b o, s.heap.get? b = some o → b ∉ W.map (·.1) → g.get? b = some o) → s.heap.objs.size ≤ L' →
      wpAny (model pg w) (A.deeper (envX qual scope L' f (.ref c') cl)) (eval body (envX qual scope L' f (.ref c') cl)) Q
        (fun e s' => wpAny (model pg w) (A.deeper (envX qual scope L' f (.ref c') cl)) (leaving (envX qual scope L' f (.ref c') cl) e) (fun _ s'' => E e s'') (fun e' s'' => E e' s'') s')
        { s with heap := h₁, toks := s.toks + binds.length }) :
    wpAny (model pg w) A (PySem.call (.ref f) args) Q E s := by
  obtain ⟨st, ff⟩ := hide_ok C hW hS hF
  refine wpAny_call (kla_callFunE hroom ho rfl hco hgen rfl hcd ?_)
  rw [hbind]
  refine wpAny_pure (wpAny_newFunctionEnv hcell hloc (fun h₁ hns hsb => ⟨((T.nolimit).keeps fun b o e => C.st b o e).fresh _ hsb, ?_⟩) hk)
  show codeAny _ _ (.expr body (envX qual scope s.heap.objs.size f (.ref c') cl)) _ _
  have hk₁ : ∀ b o, s.heap.get? b = some o → h₁.get? b = some o := fun b o e => hsb.extBut b o (Nat.ne_of_lt (Heap.lt_size e)) (Heap.get?_push_of_some _ e)
  exact kla_codeExpr (h (hideAll s.heap (W.map (·.1))) s.heap.objs.size h₁ ⟨hns, fun b o e => hk₁ b o (of_hideAll _ e), Nat.le_of_eq (hideAll_size _ _)⟩
    (fun x hx => ⟨hk₁ _ _ (hW x hx), Nat.ne_of_lt (Heap.lt_size (hW x hx)), hideAll_none _ (List.mem_map_of_mem hx)⟩) ⟨hfr, st, ff⟩ (X.keeps fun b o e => st b o e) (T.keeps fun b o e => st b o e) (fun b o e hb => hideAll_get _ e hb) (Nat.le_refl _))
/-! a def with cells is entered -/
theorem enterC {name qual : Str} {params : Arguments} {body : List Stmt} {scope : Scope} {dV kV doc pm cdv ct oc : Value} {an od : Option Addr} {osl : Array (Option Value)} {f : Addr} {args : List Value} {binds : List (Str × Value)} (W : List (Addr × Obj)) (hfr : A.frames = some fr) (C : FrOk S fr s.heap) (X : K.In S) (T : Top p loose mean mg mb S)
    (ho : K.lookup f = some ⟨oc, od, .func (fnOf name qual params body scope dV kV doc pm an cdv ct), osl⟩) (hcd : codeIn K cdv qual = true) (hroom : A.depth < recursionLimit)
    (hbind : BindsTo s (fnOf name qual params body scope dV kV doc pm an cdv ct) ⟨args, []⟩ binds)
    (hkind : ∀ n, ∀ x ∈ binds, scope.names.lookup x.1 = some .local ∨ (scope.names.lookup x.1 = some .cell ∧ ((cellsFrom n scope.names []).lookup x.1).isSome = true))
    (hnd : ((cellsFrom 0 scope.names []).map (·.1)).Nodup)
    (hW : ∀ p ∈ W, s.heap.get? p.1 = some p.2) (hS : ∀ p ∈ W, S.get? p.1 = none) (hF : ∀ p ∈ W, p.1 ∉ fr.filterMap (·.frame))
    (hco : scope.isCoroutine = false) (hgen : scope.isGenerator = false) (hk : scope.kind = .function)
    (h : ∀ g L' h₁ tk cells, Fr g L' h₁ (bindL (envOfC qual scope L' f cdv).kindOf binds fun _ => none) → News g L' h₁ (cells ++ W) →
      CellsAre (bindC (envOfC qual scope L' f cdv).kindOf binds fun _ => none) (cellsFrom (L' + 1) scope.names []) cells → Below A S fr g → K.In g → Top p loose mean mg mb g → (∀ b o, s.heap.get? b = some o → b ∉ W.map (·.1) → g.get? b = some o) → s.heap.objs.size ≤ L' → (∀ p ∈ W, p.1 < L') →
      (∀ p ∈ cells, s.heap.get? p.1 = none) →
      wpAny (model pg w) (A.deeper (envOfC qual scope L' f cdv)) (execs body (envOfC qual scope L' f cdv))
        (fun fl s' => Q (match fl with | .ret v => v | _ => .none) s')
        (fun e s' => wpAny (model pg w) (A.deeper (envOfC qual scope L' f cdv)) (leaving (envOfC qual scope L' f cdv) e) (fun _ s'' => E e s'') (fun e' s'' => E e' s'') s')
        { s with heap := h₁, toks := tk }) :
    wpAny (model pg w) A (PySem.call (.ref f) args) Q E s := by
  obtain ⟨st, ff⟩ := hide_ok C hW hS hF
  refine wpAny_call (codeAny_call_function hroom (C.st _ _ (X _ _ ho)) rfl hco hgen rfl (codeRec_of (X.keeps fun b o e => C.st b o e) hcd) (hbind _ _ _ _ ?_))
  refine wpAny_newFunctionEnv_cells hk (hkind _) fun env' he s' x => ?_
  subst he
  refine ⟨((T.nolimit).keeps fun b o e => C.st b o e).keeps x.toInCall.keep, codeAny_func ?_⟩
  obtain ⟨h₁, tk, rfl, _⟩ := x.done
  have hk₁ := x.toInCall.keep
  obtain ⟨cells, NC, Y⟩ := Cl.news (h₀ := s.heap) (Nat.le_refl _) fun n c hm => ⟨x.cell n c (lookup_of_mem_nodup (cellsFrom_names scope.names 0 (s.heap.objs.size + 1) [] [] rfl ▸ hnd) hm), x.above n c hm⟩
  refine wpAny_mono (h (hideAll s.heap (W.map (·.1))) s.heap.objs.size h₁ tk cells ⟨x.toInCall.ns, fun b o e => hk₁ b o (of_hideAll _ e), Nat.le_of_eq (hideAll_size _ _)⟩ (fun p hp => ?_) Y ⟨hfr, st, ff⟩ (X.keeps fun b o e => st b o e) (T.keeps fun b o e => st b o e) (fun b o e hb => hideAll_get _ e hb) (Nat.le_refl _) (fun p hp => Heap.lt_size (hW p hp)) (fun p hp => (NC p hp).2.2)) (fun fl s' q => ?_) fun _ _ y => y
  · rcases List.mem_append.mp hp with hp | hp
    · refine ⟨(NC p hp).1, (NC p hp).2.1, ?_⟩
      cases q : (hideAll s.heap (W.map (·.1))).get? p.1 with
      | none => rfl
      | some o => have := of_hideAll _ q; rw [(NC p hp).2.2] at this; cases this
    · exact ⟨hk₁ _ _ (hW p hp), Nat.ne_of_lt (Heap.lt_size (hW p hp)), hideAll_none _ (List.mem_map_of_mem hp)⟩
  · cases fl <;> exact q
theorem enterCT {name qual : Str} {params : Arguments} {body : List Stmt} {scope : Scope} {dV kV doc pm cdv ct oc : Value} {an od : Option Addr} {osl : Array (Option Value)} {f : Addr} {args : List Value} {binds : List (Str × Value)} (W : List (Addr × Obj)) (hfr : A.frames = some fr) (C : FrOk S fr s.heap) (X : K.In S) (T : Top p loose mean mg mb S)
    (ho : K.lookup f = some ⟨oc, od, .func (fnOf name qual params body scope dV kV doc pm an cdv ct), osl⟩) (hcd : codeIn K cdv qual = true) (hroom : A.depth < recursionLimit)
    (hbind : BindsTo s (fnOf name qual params body scope dV kV doc pm an cdv ct) ⟨args, []⟩ binds)
    (hkind : ∀ n, ∀ x ∈ binds, scope.names.lookup x.1 = some .local ∨ (scope.names.lookup x.1 = some .cell ∧ ((cellsFrom n scope.names []).lookup x.1).isSome = true))
    (hnd : ((cellsFrom 0 scope.names []).map (·.1)).Nodup)
    (hW : ∀ p ∈ W, s.heap.get? p.1 = some p.2) (hS : ∀ p ∈ W, S.get? p.1 = none) (hF : ∀ p ∈ W, p.1 ∉ fr.filterMap (·.frame))
    (hco : scope.isCoroutine = false) (hgen : scope.isGenerator = false) (hk : scope.kind = .function)
    (h : ∀ (Q₁ : Flow → Shared → Prop) g L' h₁ tk cells, let env := envX qual scope L' f cdv (cellsFrom (L' + 1) scope.names []); let m₀ : Str → Option Value := bindL (envOfC qual scope L' f cdv).kindOf binds fun _ => none; Rv Q₁ Q → Nx Q₁ (Q .none) → Fr g L' h₁ m₀ → News g L' h₁ (cells ++ W) →
      CellsAre (bindC (envOfC qual scope L' f cdv).kindOf binds fun _ => none) (cellsFrom (L' + 1) scope.names []) cells → Below A S fr g → K.In g → Top p loose mean mg mb g → (∀ b o, s.heap.get? b = some o → b ∉ W.map (·.1) → g.get? b = some o) → s.heap.objs.size ≤ L' → (∀ p ∈ W, p.1 < L') →
      (∀ p ∈ cells, s.heap.get? p.1 = none) →
      wpAny (model pg w) (A.deeper env) (execs body env) Q₁ (fun _ _ => False)
        { s with heap := h₁, toks := tk }) :
    wpAny (model pg w) A (PySem.call (.ref f) args) Q E s :=
  enterC W hfr C X T ho hcd hroom hbind hkind hnd hW hS hF hco hgen hk fun g L' h₁ tk cells F N Y B Xg Tg hg sz lt fc => wpAny_mono (h _ g L' h₁ tk cells (fun _ _ h => h) (fun _ h => h) F N Y B Xg Tg hg sz lt fc) (fun _ _ h => h) fun _ _ h => h.elim
end
section
variable {w : World} {fr : List Env} {A : Around} {S : Heap} {p : Program} {loose : List Str} {mean : ExcName → Option Value} {mg mb : Str → Option Value} {s : Shared} {R : Result → Shared → Prop} {K : Frag}
  {name qual : Str} {params : Arguments} {body : List Stmt} {scope : Scope} {dV kV doc pm cdv ct oc : Value} {an od : Option Addr} {osl : Array (Option Value)} {f : Addr} {args : List Value} {binds : List (Str × Value)}
/-! a def is entered, where a code is asked -/
theorem enterR (W : List (Addr × Obj)) (hfr : A.frames = some fr) (C : FrOk S fr s.heap) (X : K.In S) (T : Top p loose mean mg mb S)
    (ho : K.lookup f = some ⟨oc, od, .func (fnOf name qual params body scope dV kV doc pm an cdv ct), osl⟩) (hcd : codeIn K cdv qual = true) (hroom : A.depth < recursionLimit)
    (hbind : BindsTo s (fnOf name qual params body scope dV kV doc pm an cdv ct) ⟨args, []⟩ binds) (hloc : ∀ y ∈ binds, scope.names.lookup y.1 = some .local)
    (hW : ∀ p ∈ W, s.heap.get? p.1 = some p.2) (hS : ∀ p ∈ W, S.get? p.1 = none) (hF : ∀ p ∈ W, p.1 ∉ fr.filterMap (·.frame))
    (hcell : ∀ x ∈ scope.names, x.2 ≠ .cell) (hco : scope.isCoroutine = false) (hgen : scope.isGenerator = false) (hk : scope.kind = .function)
    (h : ∀ g L' h₁, Fr g L' h₁ (fun y => binds.reverse.lookup y) → News g L' h₁ W → Below A S fr g → K.In g → Top p loose mean mg mb g → (∀ b o, s.heap.get? b = some o → b ∉ W.map (·.1) → g.get? b = some o) → s.heap.objs.size ≤ L' →
      wpAny (model pg w) (A.deeper (envOf qual scope L' f cdv)) (execs body (envOf qual scope L' f cdv))
        (fun fl s' => R (.ok (.ret (match fl with | .ret v => v | _ => .none))) s')
        (fun e s' => wpAny (model pg w) (A.deeper (envOf qual scope L' f cdv)) (leaving (envOf qual scope L' f cdv) e) (fun _ s'' => R (.error e) s'') (fun e' s'' => R (.error e') s'') s')
        { s with heap := h₁, toks := s.toks + binds.length }) :
    codeAny (model pg w) A (.call (.ref f) ⟨args, []⟩) R s := by
  obtain ⟨st, ff⟩ := hide_ok C hW hS hF
  refine codeAny_call_def (fd := fnOf name qual params body scope dV kV doc pm an cdv ct) (body := body) (binds := binds) hroom (C.st _ _ (X _ _ ho)) rfl (T.nolimit.keeps fun b o e => C.st b o e) (codeRec_of (X.keeps fun b o e => C.st b o e) hcd) rfl hbind hcell hloc (fun h₁ hns hk₁ => ?_) hco hgen hk
  exact h (hideAll s.heap (W.map (·.1))) s.heap.objs.size h₁ ⟨hns, fun b o e => hk₁ b o (of_hideAll _ e), Nat.le_of_eq (hideAll_size _ _)⟩
    (fun x hx => ⟨hk₁ _ _ (hW x hx), Nat.ne_of_lt (Heap.lt_size (hW x hx)), hideAll_none _ (List.mem_map_of_mem hx)⟩) ⟨hfr, st, ff⟩ (X.keeps fun b o e => st b o e) (T.keeps fun b o e => st b o e) (fun b o e hb => hideAll_get _ e hb) (Nat.le_refl _)
theorem enterRT (W : List (Addr × Obj)) (hfr : A.frames = some fr) (C : FrOk S fr s.heap) (X : K.In S) (T : Top p loose mean mg mb S)
    (ho : K.lookup f = some ⟨oc, od, .func (fnOf name qual params body scope dV kV doc pm an cdv ct), osl⟩) (hcd : codeIn K cdv qual = true) (hroom : A.depth < recursionLimit)
    (hbind : BindsTo s (fnOf name qual params body scope dV kV doc pm an cdv ct) ⟨args, []⟩ binds) (hloc : ∀ y ∈ binds, scope.names.lookup y.1 = some .local)
    (hW : ∀ p ∈ W, s.heap.get? p.1 = some p.2) (hS : ∀ p ∈ W, S.get? p.1 = none) (hF : ∀ p ∈ W, p.1 ∉ fr.filterMap (·.frame))
    (hcell : ∀ x ∈ scope.names, x.2 ≠ .cell) (hco : scope.isCoroutine = false) (hgen : scope.isGenerator = false) (hk : scope.kind = .function)
    (h : ∀ (Q₁ : Flow → Shared → Prop) g L' h₁ (tk : Nat), let env := envX qual scope L' f cdv []; let m₀ : Str → Option Value := fun y => binds.reverse.lookup y; Rv Q₁ (fun v s' => R (.ok (.ret v)) s') → Nx Q₁ (fun s' => R (.ok (.ret .none)) s') → Fr g L' h₁ m₀ → News g L' h₁ W → Below A S fr g → K.In g → Top p loose mean mg mb g → (∀ b o, s.heap.get? b = some o → b ∉ W.map (·.1) → g.get? b = some o) → s.heap.objs.size ≤ L' →
      wpAny (model pg w) (A.deeper env) (execs body env) Q₁ (fun _ _ => False)
        { s with heap := h₁, toks := tk }) :
    codeAny (model pg w) A (.call (.ref f) ⟨args, []⟩) R s :=
  enterR W hfr C X T ho hcd hroom hbind hloc hW hS hF hcell hco hgen hk fun g L' h₁ F N B Xg Tg hg sz => wpAny_mono (h (fun fl s' => R (.ok (.ret (match fl with | .ret v => v | _ => .none))) s') g L' h₁ _ (fun _ _ h => h) (fun _ h => h) F N B Xg Tg hg sz) (fun _ _ q => q) fun _ _ h => h.elim
theorem codeAny_up {M : Model} {A A' : Around} {c : Code} {R : Result → Shared → Prop} {s : Shared} (h : codeAny M A' c R s) (h1 : A.handled = A'.handled) (h2 : A.depth ≤ A'.depth)
    (h3 : ∀ l, A'.frames = some l → A.frames = some l) (h4 : A'.guards = none) (h5 : A.units ≤ A'.units) : codeAny M A c R s :=
  fun Γ p hc hΓ => h Γ p hc ⟨hΓ.1.trans h1, Nat.le_trans hΓ.2.1 h2, fun l e => hΓ.2.2.1 l (h3 l e), fun g e => (nomatch (h4.symm.trans e)), Nat.le_trans hΓ.2.2.2.2 h5⟩
end

end
section
theorem kwo_Tev : True := by
  k_with_none
  w_top off
  k_with "execs cons Assign cons" => (with_reducible refine seqN ?_); intro Qk1 nk1
  k_with "execs cons AugAssign cons" => (with_reducible refine seqN ?_); intro Qk1 nk1
  k_with "execs cons Expr cons" => (with_reducible refine seqN ?_); intro Qk1 nk1
  k_with "execs cons If cons" => (with_reducible refine seqQ ?_); intro Qk1 nk1 rk1
  k_with "execs cons For cons" => (with_reducible refine seqQ ?_); intro Qk1 nk1 rk1
  k_with "execs cons" => (with_reducible refine seq1 ?_)
  k_with "eval Constant int" => (with_reducible refine cInt ?_); intro tq1 kq1
  k_with "eval Constant str" => (with_reducible refine cStr ?_); intro tq1 kq1
  k_with "eval Name" => (k_here; k_dflt (refine' nameL ?Fn1 ?bn1 ?vn1 ?_; (case bn1 => decide +kernel); (case Fn1 => with_reducible assumption); (case vn1 => exact rfl); k_whole))
  exact trivial
theorem fillitTev (P : Params) : hd.heap_1 P = hd.heap_1 P ∧ PySem.Challenge.rw_pq0711_01 = PySem.Challenge.rw_pq0711_01 := by
  k_fill
  exact ⟨rfl, rfl⟩
/-! the bytes of a text: what text_value makes of it -/
abbrev encTup (B : Array UInt8) (x y : Tok) : Obj := { cls := .type "tuple", data := .seq #[.str (Str.ofString "text") x, .bytes B y] 0 }
def EncRet (B : Array UInt8) (s : Shared) (Q : Value → Shared → Prop) : Prop :=
  ∀ a x y h' tk', s.heap.StaysIn h' → h'.get? a = some (encTup B x y) → s.heap.get? a = none → Q (.ref a) { s with heap := h', toks := tk' }
def EncOk (txt : Str) (B : Array UInt8) : Prop := ∀ (t u : Tok), Builtin.«str.encode» ⟨[.str txt t, .str (Str.ofString "utf-8") u], []⟩ = (fresh >>= fun x => ret (.bytes B x))
theorem enc_many : EncOk (Str.ofString "too much is printed") (#[116, 111, 111, 32, 109, 117, 99, 104, 32, 105, 115, 32, 112, 114, 105, 110, 116, 101, 100] : Array UInt8) := fun _ _ => by kernel_rfl
theorem enc_f : EncOk (Str.ofString "invalid redefinition of constant " ++ Str.ofString "f") (#[105, 110, 118, 97, 108, 105, 100, 32, 114, 101, 100, 101, 102, 105, 110, 105, 116, 105, 111, 110, 32, 111, 102, 32, 99, 111, 110, 115, 116, 97, 110, 116, 32, 102] : Array UInt8) := fun _ _ => by kernel_rfl
theorem enc_g : EncOk (Str.ofString "invalid redefinition of constant " ++ Str.ofString "g") (#[105, 110, 118, 97, 108, 105, 100, 32, 114, 101, 100, 101, 102, 105, 110, 105, 116, 105, 111, 110, 32, 111, 102, 32, 99, 111, 110, 115, 116, 97, 110, 116, 32, 103] : Array UInt8) := fun _ _ => by kernel_rfl
theorem enc_add : EncOk (Str.ofString "invalid redefinition of constant " ++ Str.ofString "add") (#[105, 110, 118, 97, 108, 105, 100, 32, 114, 101, 100, 101, 102, 105, 110, 105, 116, 105, 111, 110, 32, 111, 102, 32, 99, 111, 110, 115, 116, 97, 110, 116, 32, 97, 100, 100] : Array UInt8) := fun _ _ => by kernel_rfl
theorem enc_P : EncOk (Str.ofString "invalid redefinition of constant " ++ Str.ofString "P") (#[105, 110, 118, 97, 108, 105, 100, 32, 114, 101, 100, 101, 102, 105, 110, 105, 116, 105, 111, 110, 32, 111, 102, 32, 99, 111, 110, 115, 116, 97, 110, 116, 32, 80] : Array UInt8) := fun _ _ => by kernel_rfl
theorem enc_x : EncOk (Str.ofString "invalid redefinition of constant " ++ Str.ofString "x") (#[105, 110, 118, 97, 108, 105, 100, 32, 114, 101, 100, 101, 102, 105, 110, 105, 116, 105, 111, 110, 32, 111, 102, 32, 99, 111, 110, 115, 116, 97, 110, 116, 32, 120] : Array UInt8) := fun _ _ => by kernel_rfl
section
variable {w : World} {fr : List Env} {S : Heap} {p : Program} {loose : List Str} {mean : ExcName → Option Value} {mg mb : Str → Option Value} {s : Shared} {Q E : Value → Shared → Prop}
theorem meets_enc {txt : Str} {B : Array UInt8} {t u : Tok} (EO : EncOk txt B) : Meets (Builtin.«str.encode» ⟨[.str txt t, .str (Str.ofString "utf-8") u], []⟩) (fun _ R s => ∀ t' k, R (.ok (.ret (.bytes B t'))) { s with toks := k }) := by
  refine .of_wp fun prog w A R s hS => ?_
  rw [EO]
  exact wpAny_bind (wpAny_fresh (wpAny_pure ⟨_, rfl, hS _ _⟩))
theorem encM {M : Model} {A : Around} {pl : Sem Bool} {x : Str} {t : Tok} {Q : Value × List Value → Shared → Prop} {E : Value → Shared → Prop} {s : Shared} (h : Q (.builtin "str.encode", [.str x t]) s) : wpAny M A (getMethod (.str x t) (Str.ofString "encode") pl) Q E s := by
  with_reducible exact GM.of (.str x t) (typeIs_str _ _ _) F.slot_str_encode F.type_str_encode GM.noRef h
theorem encC {A : Around} {txt : Str} {B : Array UInt8} {t u : Tok} (EO : EncOk txt B) (h : ∀ t' k, Q (.bytes B t') { s with toks := k }) : wpAny (model pg w) A (PySem.call (.builtin "str.encode") [.str txt t, .str (Str.ofString "utf-8") u]) Q E s :=
  call_meets F.slot_str_encode (typeIs_str _ _ _) F.entry_str_encode (F.args_str_encode_2 _ _) (meets_enc EO) h
theorem kw_Tev_1 : True := by
  k_with "getMethod str" => (k_here; (with_reducible refine encM ?_))
  exact trivial
theorem kw_Tev_2 : True := by
  k_with "call builtin:str.encode" => (k_here; (refine' encC ?EOKw ?_; (case EOKw => assumption)); intro t'q k'q)
  exact trivial
set_option maxHeartbeats 4000000 in
theorem textValue_spec {txt : Str} {By : Array UInt8} {t : Tok}
    (C : FrOk S fr s.heap) (X : (hd.heap_1 w.params).In S) (T : Top p loose mean mg mb S) (EO : EncOk txt By) (hret : EncRet By s Q) :
    wpAny (model pg w) (Ap 9 fr) (PySem.call (.ref 80) [.str txt t]) Q E s := by
  refine enterT [] rfl C X T (by k_is) (by k_is) (show 580 < 1000 by decide) (BindsTo.of_eq (binds := [(Str.ofString "text", .str txt t)]) rfl) (locs rfl) (List.forall_mem_nil _) (List.forall_mem_nil _) (List.forall_mem_nil _) (by decide) rfl rfl rfl ?_
  intro Q₁ g L' h₁ tk₀ env m₀ rq nq F N B Xg Tg hg
  k_steps
  (try dsimp only)
  have k : s.heap.StaysIn _ := fun b o e => Fr.keep (by assumption) b o (hg b o e (fun q => nomatch q))
  have nn : ∀ b, g.get? b = none → s.heap.get? b = none := fun b e => by
    cases q : s.heap.get? b with
    | none => rfl
    | some o => rw [hg b o q (fun q => nomatch q)] at e; cases e
  exact hret _ _ _ _ _ k (News.get (by k_asm) (.head _)) (nn _ (News.fresh (by k_asm) (.head _)))
end

end
section
open Builtin Builtin.ObjectAttr
theorem kwo_Thw : True := by
  k_with_none
  w_top off
  k_with "execs cons Assign cons" => (with_reducible refine seqN ?_); intro Qk1 nk1
  k_with "execs cons AugAssign cons" => (with_reducible refine seqN ?_); intro Qk1 nk1
  k_with "execs cons Expr cons" => (with_reducible refine seqN ?_); intro Qk1 nk1
  k_with "execs cons If cons" => (with_reducible refine seqQ ?_); intro Qk1 nk1 rk1
  k_with "execs cons For cons" => (with_reducible refine seqQ ?_); intro Qk1 nk1 rk1
  k_with "execs cons" => (with_reducible refine seq1 ?_)
  k_with "eval Constant int" => (with_reducible refine cInt ?_); intro tq1 kq1
  k_with "eval Constant str" => (with_reducible refine cStr ?_); intro tq1 kq1
  k_with "eval Name" => (k_here; k_dflt (refine' nameL ?Fn1 ?bn1 ?vn1 ?_; (case bn1 => decide +kernel); (case Fn1 => with_reducible assumption); (case vn1 => exact rfl); k_whole))
  exact trivial
theorem fillitThw (P : Params) : hd.heap_1 P = hd.heap_1 P ∧ PySem.Challenge.rw_pq0711_01 = PySem.Challenge.rw_pq0711_01 := by
  k_fill
  exact ⟨rfl, rfl⟩
/-! an exception of the law's is made: Thrown(value) -/
abbrev objThr : Obj := excClassObj (Str.ofString "Thrown") (Str.ofString "Thrown") 71 70 [.ref 39] [.ref 39, .type "Exception", .type "BaseException", .type "object"] true [] [] false none none (some (.ref 55)) none (some (.str (Str.ofString "Thrown") 243)) (some (.str (Str.ofString "Thrown") 251)) (some (.bool true)) "Exception.__new__"
theorem has71 (P : Params) : (hd.heap_1 P).lookup 71 = some objThr := by kernel_rfl
abbrev excN (t : Addr) (od : Option Addr) : Obj := ⟨.ref 71, od, .fields #[.ref t, .none, .none, .none, .bool false, .none], #[]⟩
abbrev tupN (xs : List Value) : Obj := { cls := .type "tuple", data := .seq xs.toArray }
section
variable {prog : Program} {w : World} {A : Around} {R : Result → Shared → Prop} {h : Heap} {g : Array GenState} {d : Drawn} {t : Nat} {os : OsState} {E : Value → Shared → Prop}
theorem exc_new {rest : List Value} (X : (hd.heap_1 w.params).In h) (hrest : rest.length ≤ sizeLine)
    (hq : R (.ok (.ret (.ref (h.objs.size + 1)))) ⟨(h.push (tupN rest)).push (excN h.objs.size none), g, d, t, os⟩) :
    codeAny (model prog w) A (.builtin "Exception.__new__" ⟨.ref 71 :: rest, []⟩) R ⟨h, g, d, t, os⟩ := by
  have hC := X 71 _ (has71 _)
  have B1 : ([.ref 71, .ref 39, .type "Exception", .type "BaseException", .type "object"] : List Value).contains (.type "Exception") = true := by decide +kernel
  have B2 : ([.ref 71, .ref 39, .type "Exception", .type "BaseException", .type "object"] : List Value).contains (.type "AttributeError") = false := by decide +kernel
  have B3 : ([.ref 71, .ref 39, .type "Exception", .type "BaseException", .type "object"] : List Value).contains (.type "NameError") = false := by decide +kernel
  have z := F.excBase_Exception.ends
  refine PySem.codeAny_builtinAt F.excBase_Exception.entry ?_
  unfold Builtin.«BaseException.__new__»
  refine PySem.wpAt_bind ?_
  show PySem.wpAt _ _ _ (stack >>= _) _ _ _
  refine PySem.wpAt_bind (PySem.wpAt_stack fun p below => PySem.wpAt_of_wpAny ?_)
  wp_walk
  refine PySem.wpAt_of_wpAny ?_
  rw [F.excBase_Exception.owner]
  repeat (first | with_reducible refine wpAny_madeHere_exc F.excBase_Exception.canon hC ?_ | with_reducible refine wpAny_loadPart_at hC ?_ | (with_reducible refine wpAny_isSubtype_exc hC ?_; first | rw [B1] | rw [B2] | rw [B3]) | wp_step)
  show R _ _
  rw [Heap.size_push]
  exact hq
theorem exc_checkN {rest : List Value} {M : Model} {Q : Unit → Shared → Prop} (X : (hd.heap_1 w.params).In h) (hq : Q () ⟨h, g, d, t, os⟩) : wpAny M A (checkBuiltinCall "Exception.__new__" ⟨.ref 71 :: rest, []⟩) Q E ⟨h, g, d, t, os⟩ := by
  have hC := X 71 _ (has71 _)
  have B1 : ([.ref 71, .ref 39, .type "Exception", .type "BaseException", .type "object"] : List Value).contains (.type "Exception") = true := by decide +kernel
  have z := F.excBase_Exception.noStar
  simp only [checkBuiltinCall, F.excBase_Exception.newKind, F.excBase_Exception.newSplit, F.excBase_Exception.newRow]
  repeat (first | refine wpAny_loadPart_at hC ?_ | (refine wpAny_isSubtype_exc hC ?_; rw [B1]) | refine wpAny_staticBase_exc hC ?_ | refine wpAny_madeBy_exc hC ?_ | simp only [bne_self_eq_false, Bool.false_eq_true, if_false] | wp_step)
  exact hq
theorem exc_make {v : Value} {Q : Value → Shared → Prop} (X : (hd.heap_1 w.params).In h)
    (hq : codeAny (model prog w) (A.under (.builtin "type.__call__" ⟨[.ref 71, v], []⟩)) (.call (.ref 68) ⟨[.ref (h.objs.size + 1), v], []⟩)
      (fun r s' => match r with | .ok (.ret x) => x = .none ∧ Q (.ref (h.objs.size + 1)) s' | .ok _ => False | .error e => E e s') ⟨(h.push (tupN [v])).push (excN h.objs.size none), g, d, t, os⟩) :
    wpAny (model prog w) A (call (.ref 71) [v]) Q E ⟨h, g, d, t, os⟩ := by
  have hC := X 71 _ (has71 _)
  have f1 := tc_lookup
  have f2 := tc_bind (.ref 71)
  have hT : (⟨h, g, d, t, os⟩ : Shared).TypeIs (.ref 71) "type" := ⟨_, hC, rfl⟩
  refine wpAny_call (codeAny_of_tree ?_)
  show wpAny _ _ (callAny (.ref 71) _) _ _ _
  repeat (any_goals (first | assumption | with_reducible refine wpAny_loadPart_at hC ?_ | wp_step))
  refine ⟨rfl, ?_⟩
  refine codeAny_call_builtin_at (Code.quiet_builtin _ (by decide +kernel)) entry_typeCall (wpAny_check_type_call_sub hC ?_)
  unfold Builtin.«type.__call__»
  repeat (first | with_reducible refine wpAny_loadPart_at hC ?_ | with_reducible refine wpAny_madeBy_exc hC ?_ | wp_step)
  refine codeAny_call_builtin_code (Code.quiet_builtin _ F.excBase_Exception.quiet) (exc_checkN X ?_)
  refine exc_new X (show 1 ≤ sizeLine from by decide) ?_
  have k : ∀ b o, h.get? b = some o → ((h.push (tupN [v])).push (excN h.objs.size none)).get? b = some o := fun b o e => Heap.get?_push_of_some _ (Heap.get?_push_of_some _ e)
  have X₁ := X.keeps k
  have hC₁ := k _ _ hC
  have he : ((h.push (tupN [v])).push (excN h.objs.size none)).get? (h.objs.size + 1) = some (excN h.objs.size none) := by heap_get
  have B4 : ([.ref 71, .ref 39, .type "Exception", .type "BaseException", .type "object"] : List Value).contains (.ref 71) = true := by decide +kernel
  have Li : Looks (model prog w) ((h.push (tupN [v])).push (excN h.objs.size none)) (typeLookup (.ref 71) "__init__") (some (.ref 68)) := looks_findIn X₁ (by k_is)
  have Lb : Looks (model prog w) ((h.push (tupN [v])).push (excN h.objs.size none)) (bindSpecial (.ref 68) (.ref (h.objs.size + 1))) (.ref 68, [.ref (h.objs.size + 1)]) := bind_fn X₁ _ (by k_is)
  show wpAny _ _ _ _ _ _
  unfold isInstance
  repeat (first | with_reducible refine wpAny_loadPart_at he ?_ | refine Looks.at Li ?_ | refine Looks.at Lb ?_ | (refine wpAny_isSubtype_exc (C := 71) hC₁ ?_; rw [B4]) | wp_step)
  refine codeAny_mono hq fun r s' z => ?_
  rcases r with e | (x | _ | _ | _) <;> first | exact z | exact z.elim | skip
  obtain ⟨rfl, z⟩ := z
  exact wpAny_pure (wpAny_pure z)
end
section
variable {prog : Program} {w : World} {A : Around} {E : Value → Shared → Prop} {s : Shared} {g : Heap} {L e t0 : Addr} {m : Str → Option Value}
theorem exc_checkI {M : Model} {h : Heap} {g : Array GenState} {d : Drawn} {t : Nat} {os : OsState} {w : World} {rest : List Value} {Q : Unit → Shared → Prop} (X : (hd.heap_1 w.params).In h) (he : h.get? e = some (excN t0 none)) (hq : Q () ⟨h, g, d, t, os⟩) :
    wpAny M A (checkBuiltinCall "Exception.__init__" ⟨.ref e :: rest, []⟩) Q E ⟨h, g, d, t, os⟩ := by
  have hC := X 71 _ (has71 _)
  have B1 : ([.ref 71, .ref 39, .type "Exception", .type "BaseException", .type "object"] : List Value).contains (.type "Exception") = true := by decide +kernel
  have z := PySem.F.excBase_Exception.noStar
  have hcls : (excN t0 none).cls = .ref 71 := rfl
  simp only [checkBuiltinCall, PySem.F.excBase_Exception.initKind, PySem.F.excBase_Exception.initSplit, PySem.F.excBase_Exception.initRow]
  repeat (first | (with_reducible refine wpAny_loadPart_at he ?_; rw [hcls]) | with_reducible refine wpAny_loadPart_at hC ?_ | (with_reducible refine wpAny_isSubtype_exc hC ?_; rw [B1]) | wp_step)
  refine wpAny_onRaise ?_
  rw [show ∀ (a b : String) (n : Nat), Bind.check ⟨.positional, "*", "Exception", .self, [⟨"args", .varPos, false⟩]⟩ a b n (List.map (fun x => x.fst) ({ pos := Value.ref e :: rest } : Args).kw) = pure () from fun a b n => check_star_args _ _ _ _ _ _]
  exact wpAny_pure hq
theorem exc_init {x : Value} {Q : Value → Shared → Prop} (F : Fr g L s.heap m) (X : (hd.heap_1 w.params).In g) (N : News g L s.heap [(e, excN t0 none)])
    (h : ∀ t1 h', Fr g L h' m → News g L h' [(e, excN t1 none)] → Q .none { s with heap := h' }) : wpAny (model prog w) A (PySem.call (.builtin "Exception.__init__") [.ref e, x]) Q E s := by
  have X₁ := X.keeps F.keep
  have he := N.get (.head _)
  have B := PySem.F.excBase_Exception
  obtain ⟨hh, gg, dd, tt, os⟩ := s
  refine wpAny_call (codeAny_call_builtin B.init.plain B.initEntry (exc_checkI X₁ he ?_))
  unfold Builtin.«BaseException.__init__»
  dsimp only
  rw [if_neg (by simp)]
  unfold newTuple Builtin.BaseException.bexcPut
  have he₁ := Heap.get?_push_of_some (h := hh) (tupN [x]) he
  have N₁ : News g L (hh.push (tupN [x])) [(e, excN t0 none)] := fun p hp => (N.push F (tupN [x])) p (.tail _ hp)
  obtain ⟨F₂, N₂⟩ := news_upd (pre := []) (post := []) (f := Obj.mapFields (·.setIfInBounds 0 (.ref hh.objs.size))) (o' := excN hh.objs.size none) (F.push (tupN [x])) N₁ (fun _ h => nomatch h) (fun _ h => nomatch h) rfl rfl
  refine wpAny_bind (wpAny_newObj_type (wpAny_bind (wpAny_bind (wpAny_field he₁ rfl rfl (wpAny_bind (wpAny_setField he₁ rfl (show 0 < 6 from by decide) ?_))))) (show 1 ≤ sizeLine from by decide))
  exact wpAny_letGo (wpAny_pure (h _ _ F₂ N₂))
theorem exc_over (self : Value) : refuseLoop self "__setattr__" [.ref 71, .ref 39, .type "Exception", .type "BaseException", .type "object"] = pure () := by kernel_rfl
theorem cls71In (P : Params) : clsIn (hd.heap_1 P) 71 = some { name := Str.ofString "Thrown", bases := [.ref 39], mro := [.ref 71, .ref 39, .type "Exception", .type "BaseException", .type "object"], ns := 70, qualname := Str.ofString "Thrown", hasDict := true, slotNames := [], subclasses := [], abstract := false, collection := none, hasDel := false } := by
  unfold clsIn; rw [has71]
theorem exc_store {R : Result → Shared → Prop} {x : Addr} {ox : Obj} {od : Option Obj} {name : Str} {tk : Tok} {v : Value} (X : (hd.heap_1 w.params).In s.heap) (I : PySem.W.InstAt s.heap x ox 71 od) (ht : takerIn (hd.heap_1 w.params) 71 name = some none)
    (h : ∀ b, wpAny (model prog w) A.in1 (storeInOwnDict (.ref x) (.ref 71) (.str name tk) name v b)
      (fun fin s' => match fin with | .done f => R (.ok f) s' | .again c' => c'.quiet = true ∧ codeAny (model prog w) A c' R s') (fun e s' => R (.error e) s') s) :
    codeAny (model prog w) A (.call (.builtin "object.__setattr__") ⟨[.ref x, .str name tk, v], []⟩) R s := by
  have SF := PySem.F.store_object
  have sub : Looks (model prog w) s.heap (isInstance (.ref x) (.type "object")) true := I.type.andThen (looks_subIn X (by k_is))
  refine codeAny_call_builtin SF.slot.plain SF.entry (@check_slot (model prog w) _ _ s "object.__setattr__" "object" "__setattr__" (.ref x) [.str name tk, v] [] _ SF.kind SF.split sub (SF.args (.ref x) (.str name tk) v) ?_)
  obtain ⟨attr, ha, hr⟩ := Option.bind_eq_some_iff.mp ht
  have hm : Looks (model prog w) s.heap (mroOf (.ref 71)) [.ref 71, .ref 39, .type "Exception", .type "BaseException", .type "object"] := (looks_clsIn X (cls71In w.params)).andThen .now
  have L3 : Looks (model prog w) s.heap (storeTaker? attr) none := by
    cases attr with
    | none => cases hr; exact .now
    | some a =>
      obtain ⟨b, hb, hr⟩ := Option.map_eq_some_iff.mp hr
      refine (looks_takesIn X hb).andThen ?_
      cases b with
      | false => exact .now
      | true => cases hr
  rw [osa_eq, refuse_eq]
  refine wpAny_bind (wpAny_bind (I.type.here (wpAny_bind (hm.here ?_))))
  rw [exc_over]
  exact wpAny_pure (wpAny_bind (I.type.here (wpAny_bind ((looks_findIn X ha).here (wpAny_bind (L3.here (h _)))))))
theorem put_in {Q : Fin → Shared → Prop} {dx : Addr} {name : Str} {tk : Tok} {v : Value} {pre post : List (Addr × Obj)} {es es' : List DictEntry} {n n' : Nat} (F : Fr g L s.heap m) (N : News g L s.heap (pre ++ (dx, dictOf es n) :: post))
    (h1 : ∀ p ∈ pre, p.1 ≠ dx) (h2 : ∀ p ∈ post, p.1 ≠ dx) (hl : (getL name es).isSome = true) (e1 : (putL name (PyData.keyHash w.params name) (.str name s.toks) v es, putN name es n) = (es', n')) (hz : es'.length ≤ 1000)
    (h : ∀ h', Fr g L h' m → News g L h' (pre ++ (dx, dictOf es' n') :: post) → Q (.done (.ret .none)) { s with heap := h', toks := s.toks + 1 }) : wpAny (model prog w) A (storeInDict dx (.str name tk) name v) Q E s := by
  obtain ⟨e1, e2⟩ := Prod.mk.inj e1
  have ee : Obj.putName name (PyData.keyHash w.params name) (.str name s.toks) v (dictOf es n) = dictOf es' n' := by rw [putName_dict, e1, e2]
  obtain ⟨U1, U2⟩ := news_upd (f := Obj.putName name (PyData.keyHash w.params name) (.str name s.toks) v) F N h1 h2 ee rfl
  have D := (N (dx, dictOf es n) (by simp)).1
  have D' := (U2 (dx, dictOf es' n') (by simp)).1
  unfold storeInDict newKeyGuard
  refine wpAny_bind (wpAny_pure (wpAny_bind ?_))
  unfold nsSet
  refine wpAny_bind (wpAny_bind (wpAny_askSetting (wpAny_pure (wpAny_bind (wpAny_mkText (wpAny_bind (wpAny_loadPart D ?_)))))))
  dsimp only
  have c : (!es.toArray.any (·.key.isStr name) && es.toArray.any (·.refKey)) = false := by
    rw [← Array.any_toList, ← Array.any_toList]
    unfold getL at hl
    split at hl
    · rename_i en he
      rw [List.any_eq_true.mpr ⟨en, List.mem_of_find?_eq_some he, List.find?_some he⟩]; rfl
    · split at hl
      · cases hl
      · rename_i z; rw [Bool.not_eq_true] at z; rw [z, Bool.and_false]
  rw [aRefKeyMayBeTheName_at, c]
  refine wpAny_updatePart D ?_
  refine wpAny_bind (wpAny_lookBehind D' (pastItsLine_dict (by rw [List.size_toArray, sizeLine_eq]; omega)) ?_)
  exact wpAny_pure (h _ U1 U2)
theorem exc_set1 {name : Str} {v : Value} {Q : Unit → Shared → Prop} (F : Fr g L s.heap m) (X : (hd.heap_1 w.params).In g) (N : News g L s.heap [(e, excN t0 none)]) (ht : takerIn (hd.heap_1 w.params) 71 name = some none)
    (h : ∀ d h' u tk', Fr g L h' m → News g L h' [(d, dictOf [⟨PyData.keyHash w.params name, .str name u, v⟩] 1), (e, excN t0 (some d))] → @Ne Nat e d → Q () { s with heap := h', toks := tk' }) :
    wpAny (model prog w) A (setAttr (.ref e) name v) Q E s := by
  have X₁ := X.keeps F.keep
  have he := N.get (.head _)
  have I : PySem.W.InstAt s.heap e (excN t0 none) 71 none := ⟨he, rfl, rfl, trivial⟩
  refine set_plain X₁ I (by k_is) (exc_store (s := { s with toks := s.toks + 1 }) X₁ I ht fun b => ?_)
  refine wpAny_bind (wpAny_pure (wpAny_bind (wpAny_bind (wpAny_loadPart he (wpAny_bind (Looks.here (s := { s with toks := s.toks + 1 }) (looks_clsIn X₁ (cls71In w.params)) ?_))))))
  have he₁ := Heap.get?_push_of_some (h := s.heap) (dictOf [] 0) he
  have lt : @LT.lt Nat _ e s.heap.objs.size := Heap.lt_size he
  obtain ⟨F₂, N₂⟩ := news_upd (pre := [(s.heap.objs.size, dictOf [] 0)]) (post := []) (f := fun o => { o with dict := some s.heap.objs.size }) (o' := excN t0 (some s.heap.objs.size)) (F.push (dictOf [] 0)) (N.push F (dictOf [] 0)) (fun p hp => by rw [List.mem_singleton.mp hp]; exact Nat.ne_of_gt lt) (fun _ h => nomatch h) rfl rfl
  refine wpAny_bind (wpAny_alloc (wpAny_bind (wpAny_update' he₁ ?_)))
  refine wpAny_pure (a := some s.heap.objs.size) ?_
  exact put_in (pre := []) (post := [(e, excN t0 (some s.heap.objs.size))]) (es := []) (n := 0) (tk := s.toks) F₂ N₂ (fun _ h => nomatch h) (fun p hp => by rw [List.mem_singleton.mp hp]; exact Nat.ne_of_lt lt) rfl rfl (show 1 ≤ 1000 from by decide) fun h' F' N' => h _ h' _ _ F' N' (Nat.ne_of_lt lt)
theorem exc_set2 {d : Addr} {name : Str} {v : Value} {es es' : List DictEntry} {n n' : Nat} {Q : Unit → Shared → Prop} (F : Fr g L s.heap m) (X : (hd.heap_1 w.params).In g) (N : News g L s.heap [(d, dictOf es n), (e, excN t0 (some d))]) (ne : @Ne Nat e d) (ht : takerIn (hd.heap_1 w.params) 71 name = some none)
    (hl : (getL name es).isSome = true) (e1 : (putL name (PyData.keyHash w.params name) (.str name (s.toks + 1)) v es, putN name es n) = (es', n')) (hz : es'.length ≤ 1000)
    (h : ∀ h', Fr g L h' m → News g L h' [(d, dictOf es' n'), (e, excN t0 (some d))] → Q () { s with heap := h', toks := s.toks + 2 }) :
    wpAny (model prog w) A (setAttr (.ref e) name v) Q E s := by
  have X₁ := X.keeps F.keep
  have he := N.get (.tail _ (.head _))
  have I : PySem.W.InstAt s.heap e (excN t0 (some d)) 71 (some (dictOf es n)) := ⟨he, rfl, rfl, N.get (.head _)⟩
  refine set_plain X₁ I (by k_is) (exc_store (s := { s with toks := s.toks + 1 }) X₁ I ht fun b => ?_)
  refine wpAny_bind (wpAny_pure (wpAny_bind (wpAny_bind (wpAny_loadPart he (wpAny_bind (Looks.here (s := { s with toks := s.toks + 1 }) (looks_clsIn X₁ (cls71In w.params)) ?_))))))
  refine wpAny_pure (a := some d) (wpAny_bind (wpAny_pure ?_))
  exact put_in (pre := []) (post := [(e, excN t0 (some d))]) (tk := s.toks) (s := { s with toks := s.toks + 1 }) F N (fun _ h => nomatch h) (fun p hp => by rw [List.mem_singleton.mp hp]; exact ne) hl e1 hz fun h' F' N' => h h' F' N'
theorem putL_new {name : Str} {hs : Int} {k v : Value} : ∀ {es : List DictEntry}, es.any (fun x => x.key.isStr name) = false → putL name hs k v es = es ++ [⟨hs, k, v⟩]
  | [], _ => rfl
  | x :: r, h => by
    rw [List.any_cons, Bool.or_eq_false_iff] at h
    unfold putL
    rw [if_neg (by rw [h.1]; exact Bool.false_ne_true), putL_new h.2]; rfl
theorem exc_set3 {d : Addr} {name : Str} {v : Value} {es : List DictEntry} {n : Nat} {Q : Unit → Shared → Prop} (F : Fr g L s.heap m) (X : (hd.heap_1 w.params).In g) (N : News g L s.heap [(d, dictOf es n), (e, excN t0 (some d))]) (ne : @Ne Nat e d) (ht : takerIn (hd.heap_1 w.params) 71 name = some none)
    (hl : (getL name es).isSome = true) (nw : es.any (fun x => x.key.isStr name) = false) (hz : es.length + 1 ≤ 1000)
    (h : ∀ h' u tk', Fr g L h' m → News g L h' [(d, dictOf (es ++ [⟨PyData.keyHash w.params name, .str name u, v⟩]) (n + 1)), (e, excN t0 (some d))] → Q () { s with heap := h', toks := tk' }) :
    wpAny (model prog w) A (setAttr (.ref e) name v) Q E s :=
  exc_set2 (es' := es ++ [⟨PyData.keyHash w.params name, .str name (s.toks + 1), v⟩]) (n' := n + 1) F X N ne ht hl (by rw [putL_new nw]; unfold putN; rw [nw]; rfl) (by simpa using hz) fun h' F' N' => h h' _ _ F' N'
end
theorem exc_find (P : Params) : findCls (hd.heap_1 P) (.type "Exception") (.type "type") (Str.ofString "__init__") = some (.val (.builtin "Exception.__init__")) := by kernel_rfl
theorem exc_type : typeOf (.type "Exception") = pure (.type "type") := kitMeta_of (by decide +kernel)
abbrev thrDict (a b c : Int) (t u v : Tok) (m sp : Value) (val : Addr) (n : Nat) : Obj := dictOf [⟨a, .str (Str.ofString "message") t, m⟩, ⟨b, .str (Str.ofString "spot") u, sp⟩, ⟨c, .str (Str.ofString "value") v, .ref val⟩] n
section
variable {w : World} {fr : List Env} {S : Heap} {p : Program} {loose : List Str} {mean : ExcName → Option Value} {mg mb : Str → Option Value} {s : Shared} {Q E : Value → Shared → Prop} {R : Result → Shared → Prop}
theorem kw_Thw_1 : True := by
  k_with "qnorm" => dsimp only
  exact trivial
theorem kw_Thw_2 : True := by
  k_with "call builtin:Exception.__init__" => (k_here; k_dflt (refine' exc_init ?FKw ?XKw ?NKw ?_; (case FKw => k_asm); (case XKw => with_reducible assumption); (case NKw => k_asm)); intro t1'q h'q F'q N'q)
  exact trivial
theorem kw_Thw_3 : True := by
  k_with "getMethod type:Exception" => (k_here; k_dflt (refine' method_type (v := .builtin "Exception.__init__") ?FKw ?XKw exc_type ?sKw (exc_find _) ?hKw ?_; (case FKw => k_asm); (case XKw => with_reducible assumption); (case sKw => decide +kernel); (case hKw => rfl)))
  exact trivial
theorem kw_Thw_4 : True := by
  k_with "setAttr ref" => (k_here; k_dflt (refine' exc_set1 ?FKw ?XKw ?NKw ?tKw ?_; (case FKw => k_asm); (case XKw => with_reducible assumption); (case NKw => k_asm); (case tKw => k_is)); intro d'q h'q u'q tk'q F'q N'q ne'q)
  exact trivial
theorem kw_Thw_5 : True := by
  k_with "setAttr ref" => (k_here; k_dflt (refine' exc_set3 ?FKw ?XKw ?NKw ?neKw ?tKw ?hlKw ?nwKw ?hzKw ?_; (case FKw => k_asm); (case XKw => with_reducible assumption); (case NKw => k_asm); (case neKw => with_reducible assumption); (case tKw => k_is); (case hlKw => exact rfl); (case nwKw => exact rfl); (case hzKw => exact Nat.le_of_ble_eq_true rfl)); intro h'q u'q tk'q F'q N'q; (try dsimp only [List.cons_append, List.nil_append] at N'q))
  exact trivial
theorem fresh_n1 {g h h₀ : Heap} {L d e : Addr} {o oe : Obj} {W : List (Addr × Obj)} (N : News g L h W) (hg : ∀ b o, h₀.get? b = some o → b ∉ [(e, oe)].map (·.1) → g.get? b = some o) (hm : (d, o) ∈ W) (n : @Ne Nat e d) : h₀.get? d = none := by
  cases q : h₀.get? d with
  | none => rfl
  | some o' =>
    have := (N _ hm).2.2
    rw [hg d o' q fun z => n (List.mem_singleton.mp z).symm] at this; cases this
set_option maxHeartbeats 4000000 in
theorem init36_spec {e t0 : Addr} {msg : Value} (C : FrOk S fr s.heap) (X : (hd.heap_1 w.params).In S) (T : Top p loose mean mg mb S) (q : s.heap.get? e = some (excN t0 none)) (f : Off S fr e)
    (hret : ∀ t1 d a b x y n h' tk', h'.get? e = some (excN t1 (some d)) → h'.get? d = some (dictOf [⟨a, .str (Str.ofString "message") x, msg⟩, ⟨b, .str (Str.ofString "spot") y, .none⟩] n) → Kp [e] s.heap h' → s.heap.get? d = none → Q .none { s with heap := h', toks := tk' }) :
    wpAny (model pg w) (Ap 11 fr) (PySem.call (.ref 36) [.ref e, msg]) Q E s := by
  have hW : ∀ p ∈ [(e, excN t0 none)], s.heap.get? p.1 = some p.2 := List.forall_mem_cons.mpr ⟨q, List.forall_mem_nil _⟩
  refine enterT _ rfl C X T (by k_is) (by k_is) (show 620 < 1000 by decide) (binds_K (binds := [(Str.ofString "self", .ref e), (Str.ofString "message", msg), (Str.ofString "spot", .none)]) (X.keeps fun b o e => C.st b o e) rfl (by k_is) rfl rfl rfl) (locs rfl) hW (List.forall_mem_cons.mpr ⟨f.1, List.forall_mem_nil _⟩) (List.forall_mem_cons.mpr ⟨f.2, List.forall_mem_nil _⟩) (by decide) rfl rfl rfl ?_
  intro Q₁ g L' h₁ tk₀ env m₀ rq nq F N B Xg Tg hg
  k_steps
  (try dsimp only)
  rename Fr _ _ _ _ => Fz
  rename News _ _ _ _ => Nz
  rename @Ne Nat _ _ => nz
  exact hret _ _ _ _ _ _ _ _ _ (Nz.get (.tail _ (.head _))) (Nz.get (.head _)) (kp_but Fz Nz hg hW (List.forall_mem_cons.mpr ⟨.inr (.head _), List.forall_mem_nil _⟩)) (fresh_n1 Nz hg (.head _) nz)
theorem init36_K {A : Around} {env : Env} {g : Heap} {L e t0 : Addr} {m : Str → Option Value} {msg : Value} (hA : A.handled = none) (hfr : A.frames = some (env :: fr)) (hdp : A.depth ≤ 620) (hu : A.units ≤ 4300) (C : FrOk S (env :: fr) s.heap)
    (X : (hd.heap_1 w.params).In S) (T : Top p loose mean mg mb S) (F : Fr g L s.heap m) (N : News g L s.heap [(e, excN t0 none)]) (f : Off S (env :: fr) e)
    (hret : ∀ t1 d a b x y n h' tk', Fr g L h' m → News g L h' [(d, dictOf [⟨a, .str (Str.ofString "message") x, msg⟩, ⟨b, .str (Str.ofString "spot") y, .none⟩] n), (e, excN t1 (some d))] → @Ne Nat e d → Q .none { s with heap := h', toks := tk' }) :
    wpAny (model pg w) A (PySem.call (.ref 36) [.ref e, msg]) Q E s := by
  have he := N _ (.head _)
  refine wpAny_up (A' := Ap 11 (env :: fr)) (init36_spec C X T he.1 f ?_) hA hdp (fun l q => by cases q; exact hfr) rfl hu
  intro t1 d a b x y n h' tk' e1 e2 kp fd
  have F2 : Fr g L h' m := kp_fr F kp (Ne.symm he.2.1) he.2.2
  have nd : @Ne Nat e d := fun q => by rw [← q, he.1] at fd; cases fd
  have gd : g.get? d = none := by
    cases z : g.get? d with
    | none => rfl
    | some o => rw [F.keep _ _ z] at fd; cases fd
  have Ld : d ≠ L := fun q => by
    obtain ⟨oL, _, _, hL, _⟩ := F.ns
    rw [q, hL] at fd; cases fd
  exact hret t1 d a b x y n h' tk' F2 (List.forall_mem_cons.mpr ⟨⟨e2, Ld, gd⟩, List.forall_mem_cons.mpr ⟨⟨e1, he.2⟩, List.forall_mem_nil _⟩⟩) nd
theorem kw_Thw_6 : True := by
  k_with "call ref" => (k_here; (with_reducible show wpAny _ _ (PySem.call (Value.ref 36) _) _ _ _); k_dflt (refine' init36_K rfl rfl ?hdpKw ?huKw ?CKw ?XKw ?TKw ?FKw ?NKw ?fKw ?_; (case hdpKw => exact Nat.le_of_ble_eq_true rfl); (case huKw => exact Nat.le_of_ble_eq_true rfl); (case FKw => k_asm); (case NKw => k_asm); (case CKw => exact site (by assumption) (by assumption) rfl rfl); (case XKw => assumption); (case TKw => assumption); (case fKw => exact off (by assumption) (by assumption) (by k_mem) rfl)); intro t1'q d'q a'q b'q x'q y'q n'q h'q tk'q F'q N'q ne'q)
  exact trivial
set_option maxHeartbeats 4000000 in
theorem init68_spec {e t0 v : Addr} (C : FrOk S fr s.heap) (X : (hd.heap_1 w.params).In S) (T : Top p loose mean mg mb S) (q : s.heap.get? e = some (excN t0 none)) (f : Off S fr e)
    (hret : ∀ t1 d a b c x y z mm n h' tk', h'.get? e = some (excN t1 (some d)) → h'.get? d = some (thrDict a b c x y z mm .none v n) → Kp [e] s.heap h' → s.heap.get? d = none → R (.ok (.ret .none)) { s with heap := h', toks := tk' }) :
    codeAny (model pg w) (Ap 10 fr) (.call (.ref 68) ⟨[.ref e, .ref v], []⟩) R s := by
  have hW : ∀ p ∈ [(e, excN t0 none)], s.heap.get? p.1 = some p.2 := List.forall_mem_cons.mpr ⟨q, List.forall_mem_nil _⟩
  refine enterRT _ rfl C X T (by k_is) (by k_is) (show 600 < 1000 by decide) (BindsTo.of_eq (binds := [(Str.ofString "self", .ref e), (Str.ofString "value", .ref v)]) rfl) (locs rfl) hW (List.forall_mem_cons.mpr ⟨f.1, List.forall_mem_nil _⟩) (List.forall_mem_cons.mpr ⟨f.2, List.forall_mem_nil _⟩) (by decide) rfl rfl rfl ?_
  intro Q₁ g L' h₁ tk₀ env m₀ rq nq F N B Xg Tg hg sz
  k_steps
  (try dsimp only)
  rename Fr _ _ _ _ => Fz
  rename News _ _ _ _ => Nz
  rename @Ne Nat _ _ => nz
  exact hret _ _ _ _ _ _ _ _ _ _ _ _ (Nz.get (.tail _ (.head _))) (Nz.get (.head _)) (kp_but Fz Nz hg hW (List.forall_mem_cons.mpr ⟨.inr (.head _), List.forall_mem_nil _⟩)) (fresh_n1 Nz hg (.head _) nz)
end
section
variable {w : World} {fr : List Env} {A A₀ : Around} {S g : Heap} {L : Addr} {m : Str → Option Value} {env : Env} {p : Program} {loose : List Str} {mean : ExcName → Option Value} {mg mb : Str → Option Value} {Q E : Value → Shared → Prop} {W : List (Addr × Obj)}
  {h₁ : Heap} {gs : Array GenState} {dr : Drawn} {t₁ : Nat} {os : OsState}
theorem thr_K {v : Addr}
    (hA : (A.under (.builtin "type.__call__" ⟨[.ref 71, .ref v], []⟩)).handled = none) (hfr : (A.under (.builtin "type.__call__" ⟨[.ref 71, .ref v], []⟩)).frames = some (env :: fr)) (hdp : (A.under (.builtin "type.__call__" ⟨[.ref 71, .ref v], []⟩)).depth ≤ 600) (hu : (A.under (.builtin "type.__call__" ⟨[.ref 71, .ref v], []⟩)).units ≤ 4000)
    (B : Below A₀ S fr g) (F : Fr g L h₁ m) (N : News g L h₁ W) (hf : env.frame = some L) (hk : env.scope.kind = .function) (X : (hd.heap_1 w.params).In S) (T : Top p loose mean mg mb S) (Xg : (hd.heap_1 w.params).In g)
    (hret : ∀ e d t sl a b c x y z mm sp n h' tk', Fr g L h' m → News g L h' ((e, ⟨.ref 71, some d, .fields #[.ref t, .none, .none, .none, .bool false, .none], sl⟩) :: W) → h'.get? d = some (thrDict a b c x y z mm sp v n) → g.get? d = none → Q (.ref e) ⟨h', gs, dr, tk', os⟩) :
    wpAny (model pg w) A (PySem.call (.ref 71) [.ref v]) Q E ⟨h₁, gs, dr, t₁, os⟩ := by
  refine exc_make (Xg.keeps F.keep) ?_
  have N1 := (N.push F (tupN [.ref v])).push (F.push _) (excN h₁.objs.size none)
  rw [Heap.size_push] at N1
  have F1 := (F.push (tupN [.ref v])).push (excN h₁.objs.size none)
  have he := N1 _ (.head _)
  refine codeAny_up (A' := Ap 10 (env :: fr)) (init68_spec (site B F1 hf hk) X T he.1 (off B N1 (.head _) hf) ?fin) hA hdp (fun l q => by cases q; exact hfr) rfl hu
  intro t1 d a b c x y z mm n h' tk' e1 e2 kp fd
  have N2 : News g L ((h₁.push (tupN [.ref v])).push (excN h₁.objs.size none)) W := fun q hq => N1 q (.tail _ (.tail _ hq))
  have F2 : Fr g L h' m := kp_fr (s := ⟨_, gs, dr, t₁, os⟩) F1 kp (Ne.symm he.2.1) he.2.2
  have gd : g.get? d = none := by
    cases q : g.get? d with
    | none => rfl
    | some o => rw [F1.keep _ _ q] at fd; cases fd
  refine ⟨rfl, hret _ d t1 #[] a b c x y z mm .none n h' tk' F2 (List.forall_mem_cons.mpr ⟨⟨e1, he.2⟩, fun q hq => ⟨kp _ _ (N2 q hq).1 fun z => ?_, (N2 q hq).2⟩⟩) e2 gd⟩
  have l1 : @LT.lt Nat _ q.1 h₁.objs.size := Heap.lt_size (N q hq).1
  rw [List.mem_singleton.mp z] at l1
  exact absurd l1 (by omega)
end

end
section
theorem kwo_Tht : True := by
  k_with_none
  w_top off
  k_with "execs cons Assign cons" => (with_reducible refine seqN ?_); intro Qk1 nk1
  k_with "execs cons AugAssign cons" => (with_reducible refine seqN ?_); intro Qk1 nk1
  k_with "execs cons Expr cons" => (with_reducible refine seqN ?_); intro Qk1 nk1
  k_with "execs cons If cons" => (with_reducible refine seqQ ?_); intro Qk1 nk1 rk1
  k_with "execs cons For cons" => (with_reducible refine seqQ ?_); intro Qk1 nk1 rk1
  k_with "execs cons" => (with_reducible refine seq1 ?_)
  k_with "eval Constant int" => (with_reducible refine cInt ?_); intro tq1 kq1
  k_with "eval Constant str" => (with_reducible refine cStr ?_); intro tq1 kq1
  k_with "eval Name" => (k_here; k_dflt (refine' nameL ?Fn1 ?bn1 ?vn1 ?_; (case bn1 => decide +kernel); (case Fn1 => with_reducible assumption); (case vn1 => exact rfl); k_whole))
  exact trivial
theorem fillit6 (P : Params) : hd.heap_1 P = hd.heap_1 P ∧ PySem.Challenge.rw_pq0711_01 = PySem.Challenge.rw_pq0711_01 := by
  k_fill
  exact ⟨rfl, rfl⟩
abbrev tupO (xs : Array Value) : Obj := { cls := .type "tuple", data := .seq xs 0 }
/-! what an error of the language holds -/
def ErrAt (P : Addr → Obj → Prop) (v : Addr) (B : Array UInt8) : Prop := ∃ ka za pa ta, (∃ a, P v (tupO #[.str (Str.ofString "struct") a, .ref ka, .ref pa])) ∧ (∃ b c, P ka (tupO #[.str (Str.ofString "name") b, .str (Str.ofString "ErrorException") c, .ref za])) ∧
  P za (tupO #[]) ∧ P pa (tupO #[.ref ta]) ∧ ∃ x y, P ta (encTup B x y)
section
variable {w : World} {fr : List Env} {S : Heap} {p : Program} {loose : List Str} {mean : ExcName → Option Value} {mg mb : Str → Option Value} {s : Shared} {Q E : Value → Shared → Prop}
theorem enc_K {A : Around} {env : Env} {g : Heap} {L : Addr} {m : Str → Option Value} {W : List (Addr × Obj)} {txt : Str} {By : Array UInt8} {t : Tok} (hA : A.handled = none) (hfr : A.frames = some (env :: fr)) (hdp : A.depth ≤ 580) (hu : A.units ≤ 3700) (C : FrOk S (env :: fr) s.heap)
    (X : (hd.heap_1 w.params).In S) (T : Top p loose mean mg mb S) (EO : EncOk txt By)
    (F : Fr g L s.heap m) (N : News g L s.heap W) (hret : ∀ a x y h' tk', Fr g L h' m → News g L h' ((a, encTup By x y) :: W) → AllNe a W → Q (.ref a) { s with heap := h', toks := tk' }) :
    wpAny (model pg w) A (PySem.call (.ref 80) [.str txt t]) Q E s := by
  refine wpAny_up (A' := Ap 9 (env :: fr)) (textValue_spec C X T EO ?_) hA hdp (fun l e => by cases e; exact hfr) rfl hu
  intro a x y h' tk' st e f
  have N' : News g L h' W := fun p hp => ⟨st _ _ (N p hp).1, (N p hp).2⟩
  obtain ⟨n1, n2⟩ := adds F N N' a _ e f
  exact hret a x y h' tk' (F.keeps st) n1 n2
theorem kw_Tht_1 : True := by
  k_with "call ref" => (k_here; (with_reducible show wpAny _ _ (PySem.call (Value.ref 80) _) _ _ _); k_dflt (refine' enc_K rfl rfl ?hdpKw ?huKw ?CKw ?XKw ?TKw ?EOKw ?FKw ?NKw ?_; (case hdpKw => exact Nat.le_of_ble_eq_true rfl); (case huKw => exact Nat.le_of_ble_eq_true rfl); (case CKw => exact site (by assumption) (by assumption) rfl rfl); (case XKw => assumption); (case TKw => assumption); (case EOKw => assumption); (case FKw => k_asm); (case NKw => k_asm); k_whole); intro a'q x'q y'q h'q tk'q F'q N'q l1q; k_lt l1q)
  exact trivial
theorem kw_Tht_2 : True := by
  k_with "call ref" => (k_here; (with_reducible show wpAny _ _ (PySem.call (Value.ref 71) _) _ _ _); k_dflt (refine' thr_K rfl rfl ?hdpKw ?huKw ?BKw ?FKw ?NKw rfl rfl ?XKw ?TKw ?XgKw ?_; (case hdpKw => exact Nat.le_of_ble_eq_true rfl); (case huKw => exact Nat.le_of_ble_eq_true rfl); (case BKw => with_reducible assumption); (case FKw => k_asm); (case NKw => k_asm); (case XKw => with_reducible assumption); (case TKw => with_reducible assumption); (case XgKw => with_reducible assumption); k_whole); intro e'q d'q t'q sl'q a'q b'q c'q x'q y'q z'q mm'q sp'q n'q h'q tk'q F'q N'q hd'q hgd'q)
  exact trivial
def ExcAt (P : Addr → Obj → Prop) (d : Addr) (By : Array UInt8) : Prop := ∃ a b c x y z mm sp v n, P d (thrDict a b c x y z mm sp v n) ∧ ErrAt P v By
def TxtRet (By : Array UInt8) (s : Shared) (Q : Value → Shared → Prop) : Prop :=
  ∀ e d t sl h' tk', s.heap.StaysIn h' → h'.get? e = some ⟨.ref 71, some d, .fields #[.ref t, .none, .none, .none, .bool false, .none], sl⟩ → s.heap.get? e = none →
    (∀ P, (∀ b o, h'.get? b = some o → s.heap.get? b = none → b ≠ e → P b o) → ExcAt P d By) → Q (.ref e) { s with heap := h', toks := tk' }
set_option maxHeartbeats 4000000 in
theorem thrownText_spec {txt : Str} {By : Array UInt8} {t u : Tok}
    (C : FrOk S fr s.heap) (X : (hd.heap_1 w.params).In S) (H0 : S.get? 0 = some (boot_o_0 w.params)) (T : Top p loose mean mg mb S) (EO : EncOk txt By) (hret : TxtRet By s Q) :
    wpAny (model pg w) (Ap 8 fr) (PySem.call (.ref 101) [.str (Str.ofString "ErrorException") t, .str txt u]) Q E s := by
  refine enterT [] rfl C X T (by k_is) (by k_is) (show 560 < 1000 by decide) (BindsTo.of_eq (binds := [(Str.ofString "name", .str (Str.ofString "ErrorException") t), (Str.ofString "text", .str txt u)]) rfl) (locs rfl) (List.forall_mem_nil _) (List.forall_mem_nil _) (List.forall_mem_nil _) (by decide) rfl rfl rfl ?_
  intro Q₁ g L' h₁ tk₀ env m₀ rq nq F N B Xg Tg hg
  k_steps
  (try dsimp only)
  have k : s.heap.StaysIn _ := fun b o e => Fr.keep (by assumption) b o (hg b o e (fun q => nomatch q))
  have nn : ∀ b, g.get? b = none → s.heap.get? b = none := fun b e => by
    cases q : s.heap.get? b with
    | none => rfl
    | some o => rw [hg b o q (fun q => nomatch q)] at e; cases e
  have he := News.get (by assumption) (.head _)
  refine hret _ _ _ _ _ _ k he (nn _ (News.fresh (by k_asm) (.head _))) fun P hS' => ?_
  have key : ∀ b o, _ → g.get? b = none → o.cls ≠ .ref 71 → P b o := fun b o q1 q2 q3 => hS' b o q1 (nn b q2) fun q => by
    rw [q, he] at q1; cases q1; exact q3 rfl
  refine ⟨_, _, _, _, _, _, _, _, _, _, key _ _ (by assumption) (by assumption) (by intro q; cases q), ?_⟩
  exact ⟨_, _, _, _, ⟨_, key _ _ (News.get (by k_asm) (by k_mem)) (News.fresh (by k_asm) (by k_mem)) (by intro q; cases q)⟩, ⟨_, _, key _ _ (News.get (by k_asm) (by k_mem)) (News.fresh (by k_asm) (by k_mem)) (by intro q; cases q)⟩, key _ _ (News.get (by k_asm) (by k_mem)) (News.fresh (by k_asm) (by k_mem)) (by intro q; cases q), key _ _ (News.get (by k_asm) (by k_mem)) (News.fresh (by k_asm) (by k_mem)) (by intro q; cases q), _, _, key _ _ (News.get (by k_asm) (by k_mem)) (News.fresh (by k_asm) (by k_mem)) (by intro q; cases q)⟩
end

end
section
theorem kwo_Exc : True := by
  k_with_none
  w_top off
  k_with "execs cons Assign cons" => (with_reducible refine seqN ?_); intro Qk1 nk1
  k_with "execs cons AugAssign cons" => (with_reducible refine seqN ?_); intro Qk1 nk1
  k_with "execs cons Expr cons" => (with_reducible refine seqN ?_); intro Qk1 nk1
  k_with "execs cons If cons" => (with_reducible refine seqQ ?_); intro Qk1 nk1 rk1
  k_with "execs cons For cons" => (with_reducible refine seqQ ?_); intro Qk1 nk1 rk1
  k_with "execs cons" => (with_reducible refine seq1 ?_)
  k_with "eval Constant int" => (with_reducible refine cInt ?_); intro tq1 kq1
  k_with "eval Constant str" => (with_reducible refine cStr ?_); intro tq1 kq1
  k_with "eval Name" => (k_here; k_dflt (refine' nameL ?Fn1 ?bn1 ?vn1 ?_; (case bn1 => decide +kernel); (case Fn1 => with_reducible assumption); (case vn1 => exact rfl); k_whole))
  exact trivial
/-! an exception of the law's on its way: its traceback's head tells where it flies -/
def FlyD (S : Heap) (l : List Env) (e d : Addr) (fl : Value) (h : Heap) : Prop :=
  S.StaysIn h ∧ S.get? e = none ∧ h.FunFrames S l ∧ ∃ vs sl T oT ts, h.get? e = some ⟨.ref 71, some d, .fields vs, sl⟩ ∧ vs[1]? = some (.ref T) ∧ S.get? T = none ∧ T ≠ e ∧ h.get? T = some oT ∧ oT.data = .fields ts ∧ ts[3]? = some fl
section
variable {M : Model} {A : Around} {Q : Unit → Shared → Prop} {E : Value → Shared → Prop} {s : Shared} {S : Heap} {env : Env} {outer l : List Env} {L e d : Addr} {vs : Array Value} {sl : Array (Option Value)} {fl : Value}
theorem note_core {head : Value} {hadNext : Bool} (hfr : A.frames = some (env :: outer)) (hl : s.heap.FunFrames S (env :: outer)) (hf : env.frame = some L)
    (he : s.heap.get? e = some ⟨.ref 71, some d, .fields vs, sl⟩) (hsz : 1 < vs.size) (hS : S.StaysIn s.heap) (hen : S.get? e = none)
    (h : ∀ h', FlyD S (env :: outer) e d (rawInt L) h' → s.heap.UpToSlots h' → Q () { s with heap := h' }) :
    wpAny M A (do let a ← frameOf env; let pl ← entryPlaceOf L hadNext; let b ← EntryCells.newEntry head a .none (rawInt L) .none pl; setField (.ref e) 1 b) Q E s := by
  have hene : e ∉ (env :: outer).filterMap (·.frame) := fun hm => by
    obtain ⟨_, o, ho, hnf⟩ := hl.mem hm
    rw [he] at ho; cases ho; exact hnf vs rfl
  refine wpAny_bind (wpAny_frameOf_fun hfr hl hf fun h₁ hs₁ => ?_)
  refine wpAny_bind (wpAny_entryPlaceOf fun pl hpl => ?_)
  unfold EntryCells.newEntry newFields
  refine wpAny_bind (wpAny_newObj_type ?_ (hpl.sizeOk5 _ _ _ _ _))
  have he₁ := (hs₁.2.1 e hene).trans he
  have he₂ := Heap.get?_push_of_some (h := h₁) { cls := .type "traceback", dict := none, data := .fields ([head, .ref L, .none, rawInt L, .none] ++ (if pl.isEmpty then List.replicate 6 Value.none else pl)).toArray } he₁
  refine wpAny_setField he₂ rfl hsz ?_
  have hTe : h₁.objs.size ≠ e := Nat.ne_of_gt (Heap.lt_size he₁)
  have he₃ := Heap.get?_update_self (Obj.mapFields (·.setIfInBounds 1 (Value.ref h₁.objs.size))) he₂ rfl
  have hT₃ := (Heap.get?_update_other (h₁.push { cls := .type "traceback", dict := none, data := .fields ([head, .ref L, .none, rawInt L, .none] ++ (if pl.isEmpty then List.replicate 6 Value.none else pl)).toArray })
    (Obj.mapFields (·.setIfInBounds 1 (Value.ref h₁.objs.size))) (Ne.symm hTe)).trans (Heap.get?_push_size h₁ rfl)
  have kb₁ : S.StaysIn h₁ := fun b o hb => (hs₁.2.1 b fun hm => by rw [(hl.mem hm).1] at hb; cases hb).trans (hS b o hb)
  have keep : ∀ b o, b ≠ e → h₁.get? b = some o →
      ((h₁.push { cls := .type "traceback", dict := none, data := .fields ([head, .ref L, .none, rawInt L, .none] ++ (if pl.isEmpty then List.replicate 6 Value.none else pl)).toArray }).update e (Obj.mapFields (·.setIfInBounds 1 (Value.ref h₁.objs.size)))).get? b = some o := fun b o hbe hb => by
    rw [Heap.get?_update_other _ _ (Ne.symm hbe)]
    exact Heap.get?_push_of_some _ hb
  refine h _ ?_ ?_
  rotate_left
  · intro b o hb hnf
    obtain ⟨sl', hs⟩ := hs₁.2.2 b o hb
    exact ⟨sl', keep b _ (fun q => by rw [q, he] at hb; cases hb; exact hnf vs rfl) hs⟩
  refine ⟨fun b o hb => keep b o (fun q => by rw [q, hen] at hb; cases hb) (kb₁ b o hb), hen, hl.of_keeps fun b o hb hnf => ?_, ?_⟩
  · obtain ⟨sl', hs⟩ := hs₁.2.2 b o hb
    exact ⟨_, keep b _ (fun q => by rw [q, he] at hb; cases hb; exact hnf vs rfl) hs, rfl⟩
  · exact ⟨_, sl, h₁.objs.size, _, _, he₃, by simp [hsz], kb₁.fresh, hTe, hT₃, rfl, by first | (simp; done) | (rcases hpl with rfl | ⟨_, _, _, _, _, _, _, rfl⟩ <;> simp)⟩
theorem note_first (hfr : A.frames = some (env :: outer)) (hl : s.heap.FunFrames S (env :: outer)) (hf : env.frame = some L)
    (he : s.heap.get? e = some ⟨.ref 71, some d, .fields vs, sl⟩) (h1 : vs[1]? = some .none) (hS : S.StaysIn s.heap) (hen : S.get? e = none)
    (h : ∀ h', FlyD S (env :: outer) e d (rawInt L) h' → s.heap.UpToSlots h' → Q () { s with heap := h' }) : wpAny M A (noteFrame (.ref e) env) Q E s := by
  unfold noteFrame
  simp only [hf]
  refine wpAny_bind (wpAny_field he rfl h1 ?_)
  rw [if_neg (by decide)]
  exact note_core hfr hl hf he (Array.getElem?_eq_some_iff.mp h1).1 hS hen h
theorem note_next (hfr : A.frames = some (env :: outer)) (hf : env.frame = some L) (H : FlyD S (env :: outer) e d .none s.heap)
    (h : ∀ h', FlyD S (env :: outer) e d (rawInt L) h' → s.heap.UpToSlots h' → Q () { s with heap := h' }) : wpAny M A (noteFrame (.ref e) env) Q E s := by
  obtain ⟨hS, hen, hl, vs, sl, T, oT, ts, he, h1, hnT, hTe, hT, hdT, h3⟩ := H
  unfold noteFrame
  simp only [hf]
  refine wpAny_bind (wpAny_field he rfl h1 ?_)
  rw [if_pos (show (Value.ref T != Value.none) = true from by simp)]
  refine wpAny_bind (wpAny_field hT hdT h3 ?_)
  rw [if_neg (show ¬ ((Value.none == rawInt L) = true) from by simp [rawInt])]
  refine wpAny_bind (wpAny_setField hT hdT (Array.getElem?_eq_some_iff.mp h3).1 ?_)
  have other : ∀ b, b ≠ T → (s.heap.update T (Obj.mapFields (·.setIfInBounds 3 Value.none))).get? b = s.heap.get? b := fun b hb => Heap.get?_update_other _ _ (Ne.symm hb)
  refine note_core hfr (hl.of_keeps fun b o hb hnf => ⟨o, (other b (fun q => by rw [q, hT] at hb; cases hb; exact hnf ts hdT)).trans hb, rfl⟩) hf ((other e (Ne.symm hTe)).trans he)
    (Array.getElem?_eq_some_iff.mp h1).1 (fun b o hb => (other b fun q => by rw [q, hnT] at hb; cases hb).trans (hS b o hb)) hen fun h' H U => h h' H fun b o hb hnf => ?_
  exact U b o ((other b (fun q => by rw [q, hT] at hb; cases hb; exact hnf ts hdT)).trans hb) hnf
theorem flight_none (H : FlyD S l e d fl s.heap) (h : ∀ h', FlyD S l e d .none h' → s.heap.UpToSlots h' → Q () { s with heap := h' }) : wpAny M A (setFlight (.ref e) none) Q E s := by
  obtain ⟨hS, hen, hl, vs, sl, T, oT, ts, he, h1, hnT, hTe, hT, hdT, h3⟩ := H
  have hsz3 : 3 < ts.size := (Array.getElem?_eq_some_iff.mp h3).1
  have other : ∀ b, b ≠ T → (s.heap.update T (Obj.mapFields (·.setIfInBounds 3 ((none : Option Addr).elim Value.none fun f => rawInt f)))).get? b = s.heap.get? b :=
    fun b hb => Heap.get?_update_other _ _ (Ne.symm hb)
  unfold setFlight
  refine wpAny_bind (wpAny_field he rfl h1 ?_)
  rw [if_pos (show (Value.ref T != Value.none) = true from by simp)]
  refine wpAny_setField hT hdT hsz3 (h _ ⟨fun b o hb => (other b fun q => by rw [q, hnT] at hb; cases hb).trans (hS b o hb), hen,
    hl.of_keeps fun b o hb hnf => ⟨o, (other b (fun q => by rw [q, hT] at hb; cases hb; exact hnf ts hdT)).trans hb, rfl⟩,
    vs, sl, T, _, _, (other e (Ne.symm hTe)).trans he, h1, hnT, hTe, Heap.get?_update_self _ hT (Obj.isFreed_of_fields (Obj.data_mapFields hdT _)), Obj.data_mapFields hdT _, by simp [hsz3]⟩
    fun b o hb hnf => ⟨o.slots, (other b (fun q => by rw [q, hT] at hb; cases hb; exact hnf ts hdT)).trans hb⟩)
theorem note_again (hf : env.frame = some L) (H : FlyD S l e d (rawInt L) s.heap) (h : Q () s) : wpAny M A (noteFrame (.ref e) env) Q E s := by
  obtain ⟨hS, hen, hl, vs, sl, T, oT, ts, he, h1, hnT, hTe, hT, hdT, h3⟩ := H
  unfold noteFrame
  simp only [hf]
  refine wpAny_bind (wpAny_field he rfl h1 ?_)
  rw [if_pos (show (Value.ref T != Value.none) = true from by simp)]
  refine wpAny_bind (wpAny_field hT hdT h3 ?_)
  rw [if_pos (show (rawInt L == rawInt L) = true from by simp)]
  exact wpAny_pure h
theorem FlyD.tail {h : Heap} (H : FlyD S (env :: outer) e d fl h) : FlyD S outer e d fl h := by
  obtain ⟨a, b, ⟨_, _, c⟩, r⟩ := H
  exact ⟨a, b, c, r⟩
theorem leave_first (hfr : A.frames = some (env :: outer)) (hl : s.heap.FunFrames S (env :: outer)) (hf : env.frame = some L)
    (he : s.heap.get? e = some ⟨.ref 71, some d, .fields vs, sl⟩) (h1 : vs[1]? = some .none) (hS : S.StaysIn s.heap) (hen : S.get? e = none)
    (h : ∀ h', FlyD S outer e d .none h' → s.heap.UpToSlots h' → Q () { s with heap := h' }) : wpAny M A (leaving env (.ref e)) Q E s :=
  wpAny_bind (note_first hfr hl hf he h1 hS hen fun _ H U => flight_none H fun h' H' U' => h h' H'.tail (U.trans U'))
theorem leave_next (hfr : A.frames = some (env :: outer)) (hf : env.frame = some L) (H : FlyD S (env :: outer) e d .none s.heap)
    (h : ∀ h', FlyD S outer e d .none h' → s.heap.UpToSlots h' → Q () { s with heap := h' }) : wpAny M A (leaving env (.ref e)) Q E s :=
  wpAny_bind (note_next hfr hf H fun _ H U => flight_none H fun h' H' U' => h h' H'.tail (U.trans U'))
end

end
section
theorem kwo_Rai : True := by
  k_with_none
  w_top off
  k_with "execs cons Assign cons" => (with_reducible refine seqN ?_); intro Qk1 nk1
  k_with "execs cons AugAssign cons" => (with_reducible refine seqN ?_); intro Qk1 nk1
  k_with "execs cons Expr cons" => (with_reducible refine seqN ?_); intro Qk1 nk1
  k_with "execs cons If cons" => (with_reducible refine seqQ ?_); intro Qk1 nk1 rk1
  k_with "execs cons For cons" => (with_reducible refine seqQ ?_); intro Qk1 nk1 rk1
  k_with "execs cons" => (with_reducible refine seq1 ?_)
  k_with "eval Constant int" => (with_reducible refine cInt ?_); intro tq1 kq1
  k_with "eval Constant str" => (with_reducible refine cStr ?_); intro tq1 kq1
  k_with "eval Name" => (k_here; k_dflt (refine' nameL ?Fn1 ?bn1 ?vn1 ?_; (case bn1 => decide +kernel); (case Fn1 => with_reducible assumption); (case vn1 => exact rfl); k_whole))
  exact trivial
theorem fillit7 (P : Params) : hd.heap_1 P = hd.heap_1 P ∧ PySem.Challenge.rw_pq0711_01 = PySem.Challenge.rw_pq0711_01 := by
  k_fill
  exact ⟨rfl, rfl⟩
theorem cls71 (P : Params) : ∃ nm q N bs bm hdct sn sub ab col dd k0 k1 k2 k3 k5 newId, (hd.heap_1 P).lookup 71 = some (excClassObj nm q 71 N bs bm hdct sn sub ab col dd k0 k1 k2 k3 k5 newId) ∧ bm.contains (.type "BaseException") = true :=
  ⟨_, _, _, _, _, _, _, _, _, _, _, _, _, _, _, _, _, by k_is, by decide +kernel⟩
section
variable {M : Model} {A : Around} {Q : Flow → Shared → Prop} {E : Value → Shared → Prop} {s : Shared} {S : Heap} {env : Env} {w : World}
theorem raise_thr {x : Sem Value} (hh : A.handled = none)
    (h : wpAny M A x (fun v s₁ => ∃ e d t sl, v = .ref e ∧ (hd.heap_1 w.params).In s₁.heap ∧ s₁.heap.get? e = some ⟨.ref 71, some d, .fields #[.ref t, .none, .none, .none, .bool false, .none], sl⟩ ∧ E (.ref e) s₁) E s) :
    wpAny M A (raiseStmt env (some x) none) Q E s := by
  obtain ⟨nm, q, N, bs, bm, hdct, sn, sub, ab, col, dd, k0, k1, k2, k3, k5, newId, hc, hbase⟩ := cls71 w.params
  have hcB : (Value.ref 71 :: bm).contains (.type "BaseException") = true := by rw [List.contains_cons, hbase, Bool.or_true]
  unfold raiseStmt
  refine wpAny_bind (wpAny_mono h (fun v s₁ h₁ => ?_) fun _ _ x => x)
  obtain ⟨e, d, t, sl, rfl, X, he, hE⟩ := h₁
  have hC := X _ _ hc
  obtain ⟨hp, g, d, tk, os⟩ := s₁
  repeat (first | with_reducible refine wpAny_loadPart_at he ?_ | with_reducible refine wpAny_loadPart_at hC ?_ | (with_reducible refine wpAny_isSubtype_exc hC ?_; rw [hcB]) | wp_step)
  exact wpAny_raiseNew_none hh hE
theorem Raise_thr {e : Expr} {pos : Pos} (hh : A.handled = none)
    (h : wpAny (model pg w) A (eval e env) (fun v s₁ => ∃ e d t sl, v = .ref e ∧ (hd.heap_1 w.params).In s₁.heap ∧ s₁.heap.get? e = some ⟨.ref 71, some d, .fields #[.ref t, .none, .none, .none, .bool false, .none], sl⟩ ∧ E (.ref e) s₁) E s) :
    wpAny (model pg w) A (exec (.Raise (some e) none pos) env) Q E s := by
  show wpAny (model pg w) A (do standAt pos; raiseStmt env (some (do let v ← eval e env; standAt pos; pure v)) none) Q E s
  refine wpAny_bind (wpAny_standAt (raise_thr (w := w) hh ?_))
  exact wpAny_bind (wpAny_mono h (fun v s₁ h₁ => wpAny_bind (wpAny_standAt (wpAny_pure h₁))) fun _ _ x => x)
end

end
section
theorem kwo_Asr : True := by
  k_with_none
  w_top off
  k_with "execs cons Assign cons" => (with_reducible refine seqN ?_); intro Qk1 nk1
  k_with "execs cons AugAssign cons" => (with_reducible refine seqN ?_); intro Qk1 nk1
  k_with "execs cons Expr cons" => (with_reducible refine seqN ?_); intro Qk1 nk1
  k_with "execs cons If cons" => (with_reducible refine seqQ ?_); intro Qk1 nk1 rk1
  k_with "execs cons For cons" => (with_reducible refine seqQ ?_); intro Qk1 nk1 rk1
  k_with "execs cons" => (with_reducible refine seq1 ?_)
  k_with "eval Constant int" => (with_reducible refine cInt ?_); intro tq1 kq1
  k_with "eval Constant str" => (with_reducible refine cStr ?_); intro tq1 kq1
  k_with "eval Name" => (k_here; k_dflt (refine' nameL ?Fn1 ?bn1 ?vn1 ?_; (case bn1 => decide +kernel); (case Fn1 => with_reducible assumption); (case vn1 => exact rfl); k_whole))
  exact trivial
theorem fillit8 (P : Params) : hd.heap_1 P = hd.heap_1 P ∧ PySem.Challenge.rw_pq0711_01 = PySem.Challenge.rw_pq0711_01 := by
  k_fill
  exact ⟨rfl, rfl⟩
/-! the frames of the callers keep all but their slots -/
def UpF (fr : List Env) (h h' : Heap) : Prop := ∀ b ∈ fr.filterMap (·.frame), ∀ o, h.get? b = some o → ∃ sl, h'.get? b = some { o with slots := sl }
def ExcRet (R : Heap → Prop) (By : Array UInt8) (fr : List Env) (s : Shared) (E : Value → Shared → Prop) : Prop :=
  ∀ S' e d h' tk', R S' → FlyD S' fr e d .none h' → UpF fr s.heap h' → s.heap.get? e = none → ExcAt (fun b o => S'.get? b = some o ∧ s.heap.get? b = none) d By → E (.ref e) { s with heap := h', toks := tk' }
def KpF (as : List Addr) (fr : List Env) (h S' : Heap) : Prop := ∀ b o, h.get? b = some o → b ∉ as → b ∉ fr.filterMap (·.frame) → S'.get? b = some o
theorem notL {g h h₀ : Heap} {L : Addr} {m : Str → Option Value} {W : List (Addr × Obj)} (F : Fr g L h m) (N : News g L h W) (hg : ∀ b o, h₀.get? b = some o → b ∉ W.map (·.1) → g.get? b = some o) :
    h₀.get? L = none := by
  cases e : h₀.get? L with
  | none => rfl
  | some o =>
    exfalso
    by_cases q : L ∈ W.map (·.1)
    · obtain ⟨x, hx, e'⟩ := List.mem_map.mp q
      exact (N x hx).2.1 e'
    · exact Nat.lt_irrefl _ (Nat.lt_of_lt_of_le (Heap.lt_size (hg _ _ e q)) F.above)
section
variable {M : Model} {A : Around} {Q : Unit → Shared → Prop} {E : Value → Shared → Prop} {s : Shared} {S g h₀ : Heap} {env : Env} {fr : List Env} {L e d : Addr} {m : Str → Option Value}
theorem raise_leave {t : Addr} {sl : Array (Option Value)} {By : Array UInt8} (B : Below A S fr g) (F : Fr g L s.heap m) (hf : env.frame = some L) (hk : env.scope.kind = .function)
    (he : s.heap.get? e = some ⟨.ref 71, some d, .fields #[.ref t, .none, .none, .none, .bool false, .none], sl⟩) {W : List (Addr × Obj)} (hE : ∀ P, (∀ b o, s.heap.get? b = some o → g.get? b = none → b ≠ L → (∀ p ∈ W, p.1 ≠ b) → b ≠ e → P b o) → ExcAt P d By)
    (h : ∀ S' h', (∀ b o, s.heap.get? b = some o → b ≠ e → b ≠ L → b ∉ fr.filterMap (·.frame) → S'.get? b = some o) → FlyD S' fr e d .none h' → s.heap.UpToSlots h' → ExcAt (fun b o => S'.get? b = some o ∧ g.get? b = none ∧ b ≠ L ∧ ∀ p ∈ W, p.1 ≠ b) d By → Q () { s with heap := h' }) :
    wpAny M (A.deeper env) (leaving env (.ref e)) Q E s := by
  have B' := pushX B F hf hk
  have key : ∀ b o, s.heap.get? b = some o → b ≠ e → b ≠ L → b ∉ fr.filterMap (·.frame) → (hideAll s.heap (e :: (env :: fr).filterMap (·.frame))).get? b = some o := fun b o q h1 h2 h3 => by
    refine hideAll_get _ q fun q' => ?_
    rcases List.mem_cons.mp q' with q' | q'
    · exact h1 q'
    · rw [List.filterMap_cons, hf] at q'
      rcases List.mem_cons.mp q' with q' | q'
      · exact h2 q'
      · exact h3 q'
  refine leave_first (S := hideAll s.heap (e :: (env :: fr).filterMap (·.frame))) (A := A.deeper env) B'.stack (funFrames_hide B'.frames fun env' he b hb => .tail _ (List.mem_filterMap.mpr ⟨env', he, hb⟩)) hf he rfl (fun b o q => of_hideAll _ q) (hideAll_none _ (.head _)) fun h' H U => ?_
  refine h _ h' key H U (hE _ fun b o q1 q2 q3 q5 q4 => ⟨key b o q1 q4 q3 fun q => ?_, q2, q3, q5⟩)
  obtain ⟨_, o', ho', _⟩ := B.frames.mem q
  rw [q2] at ho'; cases ho'
end
section
variable {w : World} {fr : List Env} {S : Heap} {p : Program} {loose : List Str} {mean : ExcName → Option Value} {mg mb : Str → Option Value} {s : Shared} {Q E : Value → Shared → Prop}
theorem kw_Asr_1 : True := by
  k_with "compareOp In str ref" => (k_here; first | refine kda_in (knd := PySem.strKind _ _) (by k_asm) (by k_mem) (by k_asm) (by assumption) (strKind_is _ _ _ _) true (by simp only [*]; rfl) ?_ | refine kda_in (knd := PySem.strKind _ _) (by k_asm) (by k_mem) (by k_asm) (by assumption) (strKind_is _ _ _ _) false (by simp only [*]; rfl) ?_)
  exact trivial
theorem kw_Asr_2 : True := by
  k_with "exec Raise some none" => (k_here; refine Raise_thr rfl ?_)
  exact trivial
theorem kw_Asr_3 : True := by
  k_with "binaryOp Add str str" => (k_here; refine PyProof.Rows.P.add_str ?_ (by assumption); intro t'q k'q)
  exact trivial
theorem thrTxt_K {A : Around} {env : Env} {g : Heap} {L : Addr} {m : Str → Option Value} {W : List (Addr × Obj)} {txt : Str} {By : Array UInt8} {t u : Tok} (hA : A.handled = none) (hfr : A.frames = some (env :: fr)) (hdp : A.depth ≤ 560) (hu : A.units ≤ 3400) (C : FrOk S (env :: fr) s.heap)
    (X : (hd.heap_1 w.params).In S) (H0 : S.get? 0 = some (boot_o_0 w.params)) (T : Top p loose mean mg mb S) (EO : EncOk txt By)
    (F : Fr g L s.heap m) (N : News g L s.heap W) (hret : ∀ e d t sl h' tk', Fr g L h' m → News g L h' W → h'.get? e = some ⟨.ref 71, some d, .fields #[.ref t, .none, .none, .none, .bool false, .none], sl⟩ → g.get? e = none → AllNe e W →
      (∀ P, (∀ b o, h'.get? b = some o → g.get? b = none → b ≠ L → (∀ p ∈ W, p.1 ≠ b) → b ≠ e → P b o) → ExcAt P d By) → Q (.ref e) { s with heap := h', toks := tk' }) :
    wpAny (model pg w) A (PySem.call (.ref 101) [.str (Str.ofString "ErrorException") t, .str txt u]) Q E s := by
  refine wpAny_up (A' := Ap 8 (env :: fr)) (thrownText_spec C X H0 T EO ?_) hA hdp (fun l e => by cases e; exact hfr) rfl hu
  intro e d t sl h' tk' st he fe hE
  have N' : News g L h' W := fun p hp => ⟨st _ _ (N p hp).1, (N p hp).2⟩
  obtain ⟨n1, n2⟩ := adds F N N' e _ he fe
  obtain ⟨oL, es, ep, hL, hLd, hLk, hLf⟩ := F.ns
  have ge : g.get? e = none := (n1 _ (.head _)).2.2
  refine hret e d t sl h' tk' (F.keeps st) N' he ge n2 fun S' hS' => hE S' fun b o q1 q2 q3 => hS' b o q1 ?_ ?_ (fun p hp q => by rw [← q, (N p hp).1] at q2; cases q2) q3
  · cases q : g.get? b with
    | none => rfl
    | some o' => rw [F.keep _ _ q] at q2; cases q2
  · intro q
    subst q
    rw [hL] at q2; cases q2
theorem kw_Asr_4 : True := by
  k_with "call ref" => (k_here; (with_reducible show wpAny _ _ (PySem.call (Value.ref 101) _) _ _ _); k_dflt (refine' thrTxt_K rfl rfl ?hdpKw ?huKw ?CKw ?XKw ?H0Kw ?TKw ?EOKw ?FKw ?NKw ?_; (case hdpKw => exact Nat.le_of_ble_eq_true rfl); (case huKw => exact Nat.le_of_ble_eq_true rfl); (case FKw => k_asm); (case NKw => k_asm); (case CKw => exact site (by assumption) (by assumption) rfl rfl); (case XKw => assumption); (case H0Kw => assumption); (case TKw => assumption); (case EOKw => assumption); k_whole); intro e'q d'q t'q sl'q h'q tk'q F'q N'q he'q ge'q ne'q hE'q)
  exact trivial
theorem allNe_mem {d : Addr} {l : List (Addr × Obj)} (h : AllNe d l) (p : Addr × Obj) (hp : p ∈ l) : p.1 ≠ d := by
  induction l with
  | nil => cases hp
  | cons q r ih =>
    rcases List.mem_cons.mp hp with rfl | hp
    · exact h.1
    · exact ih h.2 hp
theorem raise_end {M : Model} {A : Around} {g h : Heap} {env : Env} {L e d : Addr} {m : Str → Option Value} {R : Heap → Prop} {W W' : List (Addr × Obj)} {as : List Addr} {t : Addr} {sl : Array (Option Value)} {By : Array UInt8} {tk' : Nat} {E₀ : Value → Shared → Prop}
    (hret : ExcRet R By fr s E) (B : Below A S fr g) (F : Fr g L h m) (N : News g L h W') (hf : env.frame = some L) (hk : env.scope.kind = .function)
    (hg : ∀ b o, s.heap.get? b = some o → b ∉ W.map (·.1) → g.get? b = some o) (hW : ∀ p ∈ W, s.heap.get? p.1 = some p.2) (nL : s.heap.get? L = none)
    (he : h.get? e = some ⟨.ref 71, some d, .fields #[.ref t, .none, .none, .none, .bool false, .none], sl⟩) (ge : g.get? e = none) (ne : AllNe e W') (hE : ∀ P, (∀ b o, h.get? b = some o → g.get? b = none → b ≠ L → (∀ p ∈ W', p.1 ≠ b) → b ≠ e → P b o) → ExcAt P d By)
    (hR : ∀ S', KpF as fr s.heap S' → (∀ p ∈ W', S'.get? p.1 = some p.2) → R S') (sub : ∀ p ∈ W, p ∈ W' ∨ p.1 ∈ as) (sub2 : ∀ p ∈ W, p.1 ∈ W'.map (·.1)) (hFa : ∀ b ∈ as, b ∉ fr.filterMap (·.frame)) :
    wpAny M (A.deeper env) (leaving env (.ref e)) (fun _ s'' => E (.ref e) s'') E₀ { s with heap := h, toks := tk' } := by
  have gF : ∀ b, g.get? b = none → b ∉ fr.filterMap (·.frame) := fun b q1 q2 => by
    obtain ⟨_, o', ho', _⟩ := B.frames.mem q2
    rw [q1] at ho'; cases ho'
  have fresh : ∀ b, g.get? b = none → b ≠ L → (∀ p ∈ W', p.1 ≠ b) → s.heap.get? b = none := fun b q1 q2 q3 => by
    cases z : s.heap.get? b with
    | none => rfl
    | some o =>
      exfalso
      by_cases y : b ∈ W.map (·.1)
      · obtain ⟨x, hx, rfl⟩ := List.mem_map.mp y
        obtain ⟨x', hx', e'⟩ := List.mem_map.mp (sub2 x hx)
        exact q3 x' hx' e'
      · rw [hg b o z y] at q1; cases q1
  have neL : e ≠ L := fun q => by
    obtain ⟨oL, es, ep, hL, hLd, _⟩ := F.ns
    have q' : e = L := q
    subst q'
    rw [hL] at he; cases he; cases hLd
  refine raise_leave B F hf hk he hE fun S' h' k H U X => hret S' e d h' tk' (hR S' (fun b o q1 q2 q3 => ?_) fun p hp => ?_) H (fun b hb o ho => ?_) (fresh e ge neL (allNe_mem ne)) ?_
  · refine k b o (kp_but F N hg hW sub b o q1 q2) (fun q => ?_) (fun q => by rw [q, nL] at q1; cases q1) q3
    by_cases z : b ∈ W.map (·.1)
    · obtain ⟨x, hx, rfl⟩ := List.mem_map.mp z
      rcases sub x hx with y | y
      · exact allNe_mem ne x y q
      · exact q2 y
    · have := hg b o q1 z
      rw [q, ge] at this; cases this
  · exact k _ _ (N p hp).1 (allNe_mem ne p hp) (N p hp).2.1 (gF _ (N p hp).2.2)
  · obtain ⟨_, o', ho', hd'⟩ := B.frames.mem hb
    have hb' : b ∉ W.map (·.1) := fun q => by
      obtain ⟨x, hx, rfl⟩ := List.mem_map.mp q
      rcases sub x hx with y | y
      · have := (N x y).2.2
        rw [ho'] at this; cases this
      · exact hFa _ y hb
    have := hg b o ho hb'
    rw [ho'] at this; cases this
    exact U b o (F.keep b o ho') hd'
  · obtain ⟨a₁, a₂, a₃, x₁, x₂, x₃, mm, sp, v, n, ed, ka, za, pa, ta, ⟨y₁, ev⟩, ⟨y₂, y₃, ek⟩, ez, ep, z₁, z₂, et⟩ := X
    have cv : ∀ {b o}, (S'.get? b = some o ∧ g.get? b = none ∧ b ≠ L ∧ ∀ p ∈ W', p.1 ≠ b) → S'.get? b = some o ∧ s.heap.get? b = none := fun ⟨q1, q2, q3, q4⟩ => ⟨q1, fresh _ q2 q3 q4⟩
    exact ⟨a₁, a₂, a₃, x₁, x₂, x₃, mm, sp, v, n, cv ed, ka, za, pa, ta, ⟨y₁, cv ev⟩, ⟨y₂, y₃, cv ek⟩, cv ez, cv ep, z₁, z₂, cv et⟩
set_option maxHeartbeats 4000000 in
theorem assign_raise {nm dN bi dv df : Addr} {o od : Obj} {kvs kf : List (Str × Value)} {x : Str} {tk : Tok} {v : Value} {By : Array UInt8}
    (C : FrOk S fr s.heap) (X : (hd.heap_1 w.params).In S) (H0 : S.get? 0 = some (boot_o_0 w.params)) (H1 : S.get? 1 = some (boot_o_1 w.params)) (T : Top p loose mean mg mb S)
    (G : GL w s.heap nm dN bi dv df) (ho : s.heap.get? dv = some o) (hdo : o.IsDictOf (SD w) kvs) (hod : s.heap.get? df = some od) (hdd : od.IsDictOf (SD w) kf)
    (f1 : Off S fr nm) (f2 : Off S fr dN) (f3 : Off S fr bi) (f4 : Off S fr dv) (f5 : Off S fr df) (ne : ([nm, dN, bi, dv, df] : List Nat).Nodup)
    (EO : EncOk (Str.ofString "invalid redefinition of constant " ++ x) By)
    (hz : (Str.ofString "invalid redefinition of constant ").length + x.length ≤ sizeLine)
    (hv : (∃ r, valueAt kf x = some r) ∨ (valueAt kf x = none ∧ isB x = true)) (hl : kvs.length ≤ 1000)
    (hret : ExcRet (KpF [] fr s.heap) By fr s E) :
    wpAny (model pg w) (Ap 7 fr) (PySem.call (.ref 198) [.ref nm, .str x tk, v]) Q E s := by
  obtain ⟨hi, ⟨ha, hb, hc, ta, tb, tc, n, hdN⟩, ob, hob, hobd⟩ := G
  have lo := dict_low H1 f4.1
  have lob := dict_low H1 f3.1
  have lod := dict_low H1 f5.1
  simp only [List.nodup_cons, List.mem_cons, List.not_mem_nil, or_false, not_or] at ne
  have hW : ∀ p ∈ [(dv, o), (nm, instObj 201 dN), (dN, gD bi dv df ha hb hc ta tb tc n), (df, od), (bi, ob)], s.heap.get? p.1 = some p.2 :=
    List.forall_mem_cons.mpr ⟨ho, List.forall_mem_cons.mpr ⟨hi, List.forall_mem_cons.mpr ⟨hdN, List.forall_mem_cons.mpr ⟨hod, List.forall_mem_cons.mpr ⟨hob, List.forall_mem_nil _⟩⟩⟩⟩⟩
  refine enterS _ rfl C X T (by k_is) (by k_is) (show 540 < 1000 by decide) (BindsTo.of_eq rfl) (locs rfl) hW ?_ ?_ (by decide) rfl rfl rfl ?_
  · exact List.forall_mem_cons.mpr ⟨f4.1, List.forall_mem_cons.mpr ⟨f1.1, List.forall_mem_cons.mpr ⟨f2.1, List.forall_mem_cons.mpr ⟨f5.1, List.forall_mem_cons.mpr ⟨f3.1, List.forall_mem_nil _⟩⟩⟩⟩⟩
  · exact List.forall_mem_cons.mpr ⟨f4.2, List.forall_mem_cons.mpr ⟨f1.2, List.forall_mem_cons.mpr ⟨f2.2, List.forall_mem_cons.mpr ⟨f5.2, List.forall_mem_cons.mpr ⟨f3.2, List.forall_mem_nil _⟩⟩⟩⟩⟩
  intro g L' h₁ F N B Xg Tg hg
  have nL := notL F N hg
  rcases hv with ⟨r, hv⟩ | ⟨hv, hB⟩
  · k_steps
    exact raise_end (as := []) hret (by assumption) (by assumption) (by assumption) rfl rfl hg hW nL (by assumption) (by assumption) (by assumption) (by assumption) (fun S' k _ => k) (fun p hp => .inl hp) (fun p hp => List.mem_map_of_mem hp) (List.forall_mem_nil _)
  · have hvB := kB_yes hB
    k_steps
    exact raise_end (as := []) hret (by assumption) (by assumption) (by assumption) rfl rfl hg hW nL (by assumption) (by assumption) (by assumption) (by assumption) (fun S' k _ => k) (fun p hp => .inl hp) (fun p hp => List.mem_map_of_mem hp) (List.forall_mem_nil _)
end

end
section
theorem kwo_Ref : True := by
  k_with_none
  w_top off
  k_with "execs cons Assign cons" => (with_reducible refine seqN ?_); intro Qk1 nk1
  k_with "execs cons AugAssign cons" => (with_reducible refine seqN ?_); intro Qk1 nk1
  k_with "execs cons Expr cons" => (with_reducible refine seqN ?_); intro Qk1 nk1
  k_with "execs cons If cons" => (with_reducible refine seqQ ?_); intro Qk1 nk1 rk1
  k_with "execs cons For cons" => (with_reducible refine seqQ ?_); intro Qk1 nk1 rk1
  k_with "execs cons" => (with_reducible refine seq1 ?_)
  k_with "eval Constant int" => (with_reducible refine cInt ?_); intro tq1 kq1
  k_with "eval Constant str" => (with_reducible refine cStr ?_); intro tq1 kq1
  k_with "eval Name" => (k_here; k_dflt (refine' nameL ?Fn1 ?bn1 ?vn1 ?_; (case bn1 => decide +kernel); (case Fn1 => with_reducible assumption); (case vn1 => exact rfl); k_whole))
  exact trivial
theorem fillit11 (P : Params) : hd.heap_1 P = hd.heap_1 P ∧ PySem.Challenge.rw_pq0711_01 = PySem.Challenge.rw_pq0711_01 := by
  k_fill
  exact ⟨rfl, rfl⟩
def Hold (p : Prop) : Prop := p
theorem hold {p : Prop} (h : Hold p) : p := h
def WorkOk (w : World) (S : Heap) (f : Addr) (h₀ : Heap) (fr : List Env) (P : Heap → Heap → Prop) : Prop :=
  ∀ A env L s₁ Q E, A.handled = none → A.frames = some (env :: fr) → A.depth ≤ 520 → A.units ≤ 2800 → env.frame = some L → h₀.get? L = none → FrOk S (env :: fr) s₁.heap → h₀.StaysIn s₁.heap →
    (∀ h' tk', P s₁.heap h' → Q .none { s₁ with heap := h', toks := tk' }) → wpAny (model pg w) A (PySem.call (.ref f) []) Q E s₁
def WorkNo (w : World) (S : Heap) (f : Addr) (h₀ : Heap) (fr : List Env) (By : Array UInt8) (as : List Addr) (R : Heap → Prop) : Prop :=
  ∀ A env L s₁ Q E, A.handled = none → A.frames = some (env :: fr) → A.depth ≤ 520 → A.units ≤ 2800 → env.frame = some L → h₀.get? L = none → FrOk S (env :: fr) s₁.heap → h₀.StaysIn s₁.heap →
    ExcRet (fun S' => KpF as (env :: fr) s₁.heap S' ∧ R S') By (env :: fr) s₁ E → wpAny (model pg w) A (PySem.call (.ref f) []) Q E s₁
section
variable {w : World} {fr : List Env} {S : Heap} {p : Program} {loose : List Str} {mean : ExcName → Option Value} {mg mb : Str → Option Value} {s : Shared} {Q E : Value → Shared → Prop}
theorem kw_Ref_1 : True := by
  k_with "callWith ref" => (k_here; k_dflt (refine' callWith_F0 ?k1Kw ?_; (case k1Kw => exact FnAt.of (by k_asm) (by k_mem)); k_whole; try dsimp only [List.nil_append, List.cons_append]))
  exact trivial
theorem kw_Ref_2 : True := by
  k_with "call ref" => (k_here; refine hold ?_)
  exact trivial
set_option maxHeartbeats 4000000 in
theorem refusal_ok {f : Addr} {P : Heap → Heap → Prop} {name qual : Str} {params : Arguments} {body : Expr} {scope : Scope} {cl : List (Str × Addr)} {pm ctv : Value} {c' : Addr}
    (hf : s.heap.get? f = some (kla_obj name qual params body scope cl pm c' ctv)) (f1 : Off S fr f)
    (C : FrOk S fr s.heap) (X : (hd.heap_1 w.params).In S) (T : Top p loose mean mg mb S) (hw : WorkOk w S f s.heap fr P)
    (hret : ∀ h₁ h' tk', s.heap.StaysIn h₁ → P h₁ h' → Q .none { s with heap := h', toks := tk' }) :
    wpAny (model pg w) (Ap 5 fr) (PySem.call (.ref 394) [.ref f]) Q E s := by
  refine enterS [(f, kla_obj name qual params body scope cl pm c' ctv)] rfl C X T (by k_is) (by k_is) (show 500 < 1000 by decide) (BindsTo.of_eq rfl) (locs rfl) (List.forall_mem_cons.mpr ⟨hf, List.forall_mem_nil _⟩) (List.forall_mem_cons.mpr ⟨f1.1, List.forall_mem_nil _⟩) (List.forall_mem_cons.mpr ⟨f1.2, List.forall_mem_nil _⟩) (by decide) rfl rfl rfl ?_
  intro g L' h₁ F N B Xg Tg hg
  have nL := notL F N hg
  k_steps
  show wpAny _ _ _ _ _ _
  refine hw _ _ L' _ _ _ rfl rfl (Nat.le_of_ble_eq_true rfl) (Nat.le_of_ble_eq_true rfl) rfl nL (site B F rfl rfl) (fun b o e => ?_) fun h' tk' hP => ?_
  · exact kp_ro F N hg (List.forall_mem_cons.mpr ⟨hf, List.forall_mem_nil _⟩) (fun _ h => h) b o e
  · have st : s.heap.StaysIn h₁ := kp_ro F N hg (List.forall_mem_cons.mpr ⟨hf, List.forall_mem_nil _⟩) (fun _ h => h)
    k_steps
    exact hret _ _ _ st hP
end

end
section
theorem kwo_Exa : True := by
  k_with_none
  w_top off
  k_with "execs cons Assign cons" => (with_reducible refine seqN ?_); intro Qk1 nk1
  k_with "execs cons AugAssign cons" => (with_reducible refine seqN ?_); intro Qk1 nk1
  k_with "execs cons Expr cons" => (with_reducible refine seqN ?_); intro Qk1 nk1
  k_with "execs cons If cons" => (with_reducible refine seqQ ?_); intro Qk1 nk1 rk1
  k_with "execs cons For cons" => (with_reducible refine seqQ ?_); intro Qk1 nk1 rk1
  k_with "execs cons" => (with_reducible refine seq1 ?_)
  k_with "eval Constant int" => (with_reducible refine cInt ?_); intro tq1 kq1
  k_with "eval Constant str" => (with_reducible refine cStr ?_); intro tq1 kq1
  k_with "eval Name" => (k_here; k_dflt (refine' nameL ?Fn1 ?bn1 ?vn1 ?_; (case bn1 => decide +kernel); (case Fn1 => with_reducible assumption); (case vn1 => exact rfl); k_whole))
  exact trivial
theorem fillit13 (P : Params) : hd.heap_1 P = hd.heap_1 P ∧ PySem.Challenge.rw_pq0711_01 = PySem.Challenge.rw_pq0711_01 := by
  k_fill
  exact ⟨rfl, rfl⟩
section
variable {prog : Program} {w : World} {A : Around} {E : Value → Shared → Prop} {s : Shared} {K : Frag} {x C : Addr} {ox : Obj} {od : Option Obj} {name : Str} {expr : Bool} {Q : Value → Shared → Prop}
theorem exc_attr {v : Value} (X : K.In s.heap) (I : InstAt s.heap x ox C od) (hga : findIn K (.ref C) "__getattribute__" = some (some (.builtin "BaseException.__getattribute__"))) (hk : findIn K (.ref C) "__getattr__" = some none)
    (hi : subIn K (.ref C) (.type "BaseException") = some true) (hf : findObj K C od name = some (.value v)) (hh : handedIn v = true) (h : Q v { s with toks := s.toks + 1 }) : wpAny (model prog w) A (getAttr (.ref x) name expr) Q E s := by
  have hb : Looks (model prog w) s.heap (hookBefore (.ref C)) none := looks_hook X hk
  refine wpAny_bind (wpAny_mkText (wpAny_holding (wpAny_bind (I.type _ _ _ _ (fun _ _ e => e) (wpAny_bind (looks_findIn X hga _ _ _ _ (fun _ _ e => e) ?_))))))
  (try dsimp only)
  rw [show (onTheHeap (.ref C) && Value.builtin "BaseException.__getattribute__" == Value.builtin "object.__getattribute__") = false from by rw [show (Value.builtin "BaseException.__getattribute__" == Value.builtin "object.__getattribute__") = false from by decide +kernel, Bool.and_false], if_neg (by decide)]
  refine wpAny_bind (hb _ _ _ _ (fun _ _ e => e) (wpAny_bind (wpAny_attempt (wpAny_holding ?_))))
  unfold callGetattribute
  rw [show (expr && onTheHeap (Value.builtin "BaseException.__getattribute__")) = false from Bool.and_false _, if_neg (by decide)]
  unfold boundAndCalled
  rw [F.excAttr_ValueError.ga.bind]
  refine wpAny_bind (wpAny_pure ?_)
  show wpAny _ _ (call (.builtin "BaseException.__getattribute__") [.ref x, .str name s.toks]) _ _ _
  refine wpAny_call ?_
  refine codeAny_call_builtin F.excAttr_ValueError.ga.plain F.entry_bexc_ga ?_
  refine @check_slot (model prog w) _ _ { s with toks := s.toks + 1 } "BaseException.__getattribute__" "BaseException" "__getattribute__" (.ref x) [.str name s.toks] [] _ (by decide +kernel) (by decide +kernel) (I.type.andThen (looks_subIn X hi)) (F.args_bexc_ga (.ref x) (.str name s.toks)) ?_
  have L0 := I.type (M := model prog w)
  have L1 := looks_find (M := model prog w) X I hf
  refine wpAny_bind (wpAny_pure (wpAny_bind (wpAny_pure (wpAny_bind (L0 _ _ _ _ (fun _ _ e => e) (wpAny_bind (L1 _ _ _ _ (fun _ _ e => e) ?_)))))))
  refine wpAny_pure ?_
  show wpAny _ _ (handedOut v) _ _ _
  rw [handedOut_of hh]; exact wpAny_pure h
end
section
variable {w : World} {A : Around} {E : Value → Shared → Prop} {s : Shared} {Q : Value → Shared → Prop} {g : Heap} {L e d v : Addr} {m : Str → Option Value} {W : List (Addr × Obj)} {vs : Array Value} {sl : Array (Option Value)} {a b c : Int} {x y z : Tok} {mm sp : Value} {n : Nat} {expr : Bool}
theorem value_attr (F : Fr g L s.heap m) (X : (hd.heap_1 w.params).In g) (N : News g L s.heap W) (m1 : (e, ⟨.ref 71, some d, .fields vs, sl⟩) ∈ W) (m2 : (d, thrDict a b c x y z mm sp v n) ∈ W) (h : Q (.ref v) { s with toks := s.toks + 1 }) :
    wpAny (model pg w) A (getAttr (.ref e) (Str.ofString "value") expr) Q E s := by
  refine exc_attr (K := hd.heap_1 w.params) (X.keeps F.keep) (C := 71) (od := some (thrDict a b c x y z mm sp v n)) ⟨N.get m1, rfl, rfl, N.get m2⟩ (by k_is) (by k_is) (by k_is) (findObj_own (attr := none) (by k_is) (by k_is) (by k_is) (v := .ref v) (by kernel_rfl)) rfl h
end

end
section
theorem kwo_Dco : True := by
  k_with_none
  w_top off
  k_with "execs cons Assign cons" => (with_reducible refine seqN ?_); intro Qk1 nk1
  k_with "execs cons AugAssign cons" => (with_reducible refine seqN ?_); intro Qk1 nk1
  k_with "execs cons Expr cons" => (with_reducible refine seqN ?_); intro Qk1 nk1
  k_with "execs cons If cons" => (with_reducible refine seqQ ?_); intro Qk1 nk1 rk1
  k_with "execs cons For cons" => (with_reducible refine seqQ ?_); intro Qk1 nk1 rk1
  k_with "execs cons" => (with_reducible refine seq1 ?_)
  k_with "eval Constant int" => (with_reducible refine cInt ?_); intro tq1 kq1
  k_with "eval Constant str" => (with_reducible refine cStr ?_); intro tq1 kq1
  k_with "eval Name" => (k_here; k_dflt (refine' nameL ?Fn1 ?bn1 ?vn1 ?_; (case bn1 => decide +kernel); (case Fn1 => with_reducible assumption); (case vn1 => exact rfl); k_whole))
  exact trivial
theorem args_dec2 (a b : Value) : argsOk "bytes.decode" ⟨[a, b], []⟩ := by
  unfold argsOk; rw [signature?_of (id := "bytes.decode") (n := ['e', 'd', 'o', 'c', 'e', 'd']) (o := ['s', 'e', 't', 'y', 'b']) (by kernel_rfl) FB.owner_bytes]; kernel_rfl
section
variable {b : Array UInt8} {c : UInt8} {cs : List UInt8} {t u : Tok} {x : PySem.Str} {n : Nat}
theorem entry_dec2 : Builtin.«bytes.decode» ⟨[.bytes (c :: cs).toArray t, .str (PySem.Str.ofString "utf-8") u], []⟩ = (mkStr (PySem.Str.ofString "utf-8") >>= fun _ => mkStr (PySem.Str.ofString "utf-8") >>= fun e => mkStr (PySem.Str.ofString "bytes.decode") >>= fun d =>
    call (.builtin "_codecs.decode.text") [.bytes (c :: cs).toArray t, e, .none, d] >>= fun v => ret v) := by kernel_rfl
theorem meets_dec2 (hd : ∀ id, Builtin._codecs.runDecoder id Builtin._codecs.utf8Decoder none true (c :: cs).toArray 0 [] = pure (x.cps, n)) :
    Meets (Builtin.«bytes.decode» ⟨[.bytes (c :: cs).toArray t, .str (PySem.Str.ofString "utf-8") u], []⟩) (fun _ R s => x.length ≤ sizeLine ∧ ∀ t' k, R (.ok (.ret (.str x t'))) { s with toks := k }) := by
  refine .of_wp fun prog w A R s hS => ?_
  obtain ⟨hsz, h⟩ := hS
  rw [entry_dec2]
  refine wpAny_bind (wpAny_mkStr ?_ (by decide))
  refine wpAny_bind (wpAny_mkStr ?_ (by decide))
  refine wpAny_bind (wpAny_mkStr ?_ (by decide))
  exact wpAny_bind (call_function_meets KBd.kind_text KBd.plain_text KBd.entry_text (KBd.args_text _ _ _ _) (KBd.meets_text hd) ⟨hsz, wpAny_pure ⟨_, rfl, h _ _⟩⟩)
end
/-! what the bytes of a text say -/
def DecOk (By : Array UInt8) (txt : Str) : Prop := ∀ (w : World) (A : Around) (s : Shared) (Q E : Value → Shared → Prop) (t u : Tok), (∀ t' k, Q (.str txt t') { s with toks := k }) → wpAny (model pg w) A (PySem.call (.builtin "bytes.decode") [.bytes By t, .str (Str.ofString "utf-8") u]) Q E s
theorem dec2 {c : UInt8} {cs : List UInt8} {x : Str} {n : Nat} (hd : ∀ id, Builtin._codecs.runDecoder id Builtin._codecs.utf8Decoder none true (c :: cs).toArray 0 [] = pure (x.cps, n)) (hsz : x.length ≤ 16777216) : DecOk (c :: cs).toArray x :=
  fun _ _ _ _ _ _ _ h => call_meets FB.slot_bytes_decode (typeIs_bytes _ _ _) FB.entry_bytes_decode (args_dec2 _ _) (meets_dec2 hd) ⟨by rw [sizeLine_eq]; exact hsz, h⟩
theorem dec_many : DecOk #[116, 111, 111, 32, 109, 117, 99, 104, 32, 105, 115, 32, 112, 114, 105, 110, 116, 101, 100] (Str.ofString "too much is printed") := dec2 (n := 19) (by intro _; kernel_rfl) (by decide +kernel)
theorem dec_f : DecOk #[105, 110, 118, 97, 108, 105, 100, 32, 114, 101, 100, 101, 102, 105, 110, 105, 116, 105, 111, 110, 32, 111, 102, 32, 99, 111, 110, 115, 116, 97, 110, 116, 32, 102] (Str.ofString "invalid redefinition of constant " ++ Str.ofString "f") := dec2 (n := 34) (by intro _; kernel_rfl) (by decide +kernel)
theorem dec_g : DecOk #[105, 110, 118, 97, 108, 105, 100, 32, 114, 101, 100, 101, 102, 105, 110, 105, 116, 105, 111, 110, 32, 111, 102, 32, 99, 111, 110, 115, 116, 97, 110, 116, 32, 103] (Str.ofString "invalid redefinition of constant " ++ Str.ofString "g") := dec2 (n := 34) (by intro _; kernel_rfl) (by decide +kernel)
theorem dec_add : DecOk #[105, 110, 118, 97, 108, 105, 100, 32, 114, 101, 100, 101, 102, 105, 110, 105, 116, 105, 111, 110, 32, 111, 102, 32, 99, 111, 110, 115, 116, 97, 110, 116, 32, 97, 100, 100] (Str.ofString "invalid redefinition of constant " ++ Str.ofString "add") := dec2 (n := 36) (by intro _; kernel_rfl) (by decide +kernel)
theorem dec_P : DecOk #[105, 110, 118, 97, 108, 105, 100, 32, 114, 101, 100, 101, 102, 105, 110, 105, 116, 105, 111, 110, 32, 111, 102, 32, 99, 111, 110, 115, 116, 97, 110, 116, 32, 80] (Str.ofString "invalid redefinition of constant " ++ Str.ofString "P") := dec2 (n := 34) (by intro _; kernel_rfl) (by decide +kernel)
theorem dec_x : DecOk #[105, 110, 118, 97, 108, 105, 100, 32, 114, 101, 100, 101, 102, 105, 110, 105, 116, 105, 111, 110, 32, 111, 102, 32, 99, 111, 110, 115, 116, 97, 110, 116, 32, 120] (Str.ofString "invalid redefinition of constant " ++ Str.ofString "x") := dec2 (n := 34) (by intro _; kernel_rfl) (by decide +kernel)
theorem decK {By : Array UInt8} {txt : Str} {w : World} {A : Around} {s : Shared} {Q E : Value → Shared → Prop} {t u : Tok} (D : DecOk By txt) (h : ∀ t' k, Q (.str txt t') { s with toks := k }) :
    wpAny (model pg w) A (PySem.call (.builtin "bytes.decode") [.bytes By t, .str (Str.ofString "utf-8") u]) Q E s := D w A s Q E t u h

end
section
theorem kwo_Ren : True := by
  k_with_none
  w_top off
  k_with "execs cons Assign cons" => (with_reducible refine seqN ?_); intro Qk1 nk1
  k_with "execs cons AugAssign cons" => (with_reducible refine seqN ?_); intro Qk1 nk1
  k_with "execs cons Expr cons" => (with_reducible refine seqN ?_); intro Qk1 nk1
  k_with "execs cons If cons" => (with_reducible refine seqQ ?_); intro Qk1 nk1 rk1
  k_with "execs cons For cons" => (with_reducible refine seqQ ?_); intro Qk1 nk1 rk1
  k_with "execs cons" => (with_reducible refine seq1 ?_)
  k_with "eval Constant int" => (with_reducible refine cInt ?_); intro tq1 kq1
  k_with "eval Constant str" => (with_reducible refine cStr ?_); intro tq1 kq1
  k_with "eval Name" => (k_here; k_dflt (refine' nameL ?Fn1 ?bn1 ?vn1 ?_; (case bn1 => decide +kernel); (case Fn1 => with_reducible assumption); (case vn1 => exact rfl); k_whole))
  exact trivial
theorem fillit12 (P : Params) : hd.heap_1 P = hd.heap_1 P ∧ PySem.Challenge.rw_pq0711_01 = PySem.Challenge.rw_pq0711_01 := by
  k_fill
  exact ⟨rfl, rfl⟩
def cut (h : Heap) (n : Nat) : Heap := { h with objs := h.objs.extract 0 n }
theorem cut_size (h : Heap) (n : Nat) : (cut h n).objs.size ≤ n := by
  unfold cut
  simp only [Array.size_extract]
  omega
theorem cut_at (h : Heap) (n : Nat) (b : Nat) : (cut h n).get? b = if b < n then h.get? b else none := by
  unfold cut Heap.get?
  simp only [Array.getElem?_extract, Nat.sub_zero, Nat.zero_add]
  by_cases q : b < n
  · rw [if_pos q]
    by_cases z : b < h.objs.size
    · rw [if_pos (by omega)]
    · rw [if_neg (by omega), Array.getElem?_eq_none (by omega)]
  · rw [if_neg q, if_neg (by omega)]
theorem of_cut {h : Heap} {n : Nat} {b : Addr} {o : Obj} (e : (cut h n).get? b = some o) : h.get? b = some o := by
  have := cut_at h n b
  rw [this] at e
  split at e
  · exact e
  · cases e
theorem to_cut {h : Heap} {n : Nat} {b : Addr} {o : Obj} (e : h.get? b = some o) (q : @LT.lt Nat _ b n) : (cut h n).get? b = some o := by
  rw [cut_at h n b, if_pos q]; exact e
theorem cut_none {h : Heap} {n : Nat} {b : Addr} (e : h.get? b = none) : (cut h n).get? b = none := by
  rw [cut_at h n b, e]
  split <;> rfl
theorem fr_cut {g h h' S : Heap} {L : Addr} {m : Str → Option Value} (F : Fr g L h m) (k : S.StaysIn h') (u : ∀ o, h.get? L = some o → (∀ vs, o.data ≠ .fields vs) → ∃ sl, h'.get? L = some { o with slots := sl }) : Fr (cut S L) L h' m := by
  refine ⟨?_, fun b o q => k b o (of_cut q), cut_size _ _⟩
  obtain ⟨oL, es, ep, hL, hLd, hLk, hLf⟩ := F.ns
  obtain ⟨sl, e1⟩ := u oL hL (fun vs q => by rw [hLd] at q; cases q)
  exact ⟨_, es, ep, e1, hLd, hLk, hLf⟩
theorem FunFrames_on {h h' S : Heap} {l : List Env} (k : ∀ b ∈ l.filterMap (·.frame), ∀ o, h.get? b = some o → ∃ sl, h'.get? b = some { o with slots := sl }) (hl : h.FunFrames S l) : h'.FunFrames S l := by
  induction l with
  | nil => trivial
  | cons env rest ih =>
    obtain ⟨hk, ⟨L, o, hf, hn, ho, hd⟩, hr⟩ := hl
    obtain ⟨sl, e⟩ := k L (by rw [List.filterMap_cons, hf]; exact .head _) o ho
    exact ⟨hk, ⟨L, _, hf, hn, e, hd⟩, ih (fun b hb o ho => k b (by rw [List.filterMap_cons, hf]; exact .tail _ hb) o ho) hr⟩
theorem FrOk.up {S h h' : Heap} {fr : List Env} (C : FrOk S fr h) (st : S.StaysIn h') (k : UpF fr h h') : FrOk S fr h' := ⟨st, FunFrames_on k C.ff⟩
/-! the ground on which a handler walks: all that is older than its frame, but what is told of in W -/
abbrev gnd (h : Heap) (L : Addr) (as : List Addr) : Heap := hideAll (cut h L) as
theorem gnd_of {h : Heap} {L : Addr} {as : List Addr} {b : Addr} {o : Obj} (e : (gnd h L as).get? b = some o) : h.get? b = some o := of_cut (of_hideAll _ e)
theorem gnd_to {h : Heap} {L : Addr} {as : List Addr} {b : Addr} {o : Obj} (e : h.get? b = some o) (q : @LT.lt Nat _ b L) (n : b ∉ as) : (gnd h L as).get? b = some o := hideAll_get _ (to_cut e q) n
theorem fr_gnd {g h h' : Heap} {L : Addr} {m : Str → Option Value} {as : List Addr} (F : Fr g L h m) (u : ∀ o, h.get? L = some o → (∀ vs, o.data ≠ .fields vs) → ∃ sl, h'.get? L = some { o with slots := sl }) : Fr (gnd h' L as) L h' m := by
  refine ⟨?_, fun b o q => gnd_of q, ?_⟩
  · obtain ⟨oL, es, ep, hL, hLd, hLk, hLf⟩ := F.ns
    obtain ⟨sl, e1⟩ := u oL hL (fun vs q => by rw [hLd] at q; cases q)
    exact ⟨_, es, ep, e1, hLd, hLk, hLf⟩
  · rw [hideAll_size]; exact cut_size _ _
theorem land {env : Env} {fr : List Env} {g h₁ h S' : Heap} {L e d : Addr} {fl : Value} {m : Str → Option Value} {W : List (Addr × Obj)} (F : Fr g L h₁ m) (fly : FlyD S' (env :: fr) e d fl h) (hf : env.frame = some L)
    (u : ∀ o, h₁.get? L = some o → (∀ vs, o.data ≠ .fields vs) → ∃ sl, h.get? L = some { o with slots := sl }) (hN : ∀ p ∈ W, S'.get? p.1 = some p.2) :
    Fr (gnd h L (e :: W.map (·.1))) L h m ∧ ∃ vs sl, News (gnd h L (e :: W.map (·.1))) L h ((e, ⟨.ref 71, some d, .fields vs, sl⟩) :: W) := by
  have hS'L : S'.get? L = none := (fly.2.2.1.mem (by rw [List.filterMap_cons, hf]; exact .head _)).1
  refine ⟨fr_gnd F u, ?_⟩
  obtain ⟨_, ⟨L₁, oL, hf₁, _, hL, hLd⟩, _⟩ := fly.2.2.1
  rw [hf] at hf₁
  cases hf₁
  obtain ⟨vs, sl, _, _, _, he, _⟩ := fly.2.2.2
  refine ⟨vs, sl, List.forall_mem_cons.mpr ⟨⟨he, fun q => ?_, hideAll_none _ (.head _)⟩, fun p hp => ⟨fly.1 _ _ (hN p hp), fun q => ?_, hideAll_none _ (.tail _ (List.mem_map_of_mem hp))⟩⟩⟩
  · have q' : e = L := q
    rw [q'] at he
    rw [hL] at he; cases he
    exact hLd vs rfl
  · have := hN p hp
    rw [q, hS'L] at this; cases this
section
variable {w : World} {fr : List Env} {S : Heap} {p : Program} {loose : List Str} {mean : ExcName → Option Value} {mg mb : Str → Option Value} {s : Shared} {Q E : Value → Shared → Prop}
theorem kw_Ren_1 : True := by
  k_with "callWith ref" => (k_here; k_dflt (refine' callWith_F0 ?k1Kw ?_; (case k1Kw => exact FnAt.of (by k_asm) (by k_mem)); k_whole; try dsimp only [List.nil_append, List.cons_append]))
  exact trivial
theorem kw_Ren_2 : True := by
  k_with "call ref" => (k_here; refine hold ?_)
  exact trivial
theorem kw_Ren_3 : True := by
  k_with "getAttr ref" => (k_here; k_dflt (refine value_attr (by k_asm) (by k_asm) (by k_asm) (by k_mem) (by k_mem) ?_))
  exact trivial
theorem kw_Ren_4 : True := by
  k_with "call builtin:bytes.decode" => (k_here; refine decK (by assumption) ?_; intro t'q k'q)
  exact trivial
set_option maxHeartbeats 4000000 in
theorem refusal_no {f : Addr} {By : Array UInt8} {txt : Str} {as : List Addr} {R : Heap → Prop} {name qual : Str} {params : Arguments} {body : Expr} {scope : Scope} {cl : List (Str × Addr)} {pm ctv : Value} {c' : Addr}
    (hf : s.heap.get? f = some (kla_obj name qual params body scope cl pm c' ctv)) (f1 : Off S fr f)
    (C : FrOk S fr s.heap) (X : (hd.heap_1 w.params).In S) (T : Top p loose mean mg mb S) (hw : WorkNo w S f s.heap fr By as R) (has : ∀ a ∈ as, S.get? a = none) (DO : DecOk By txt)
    (hret : ∀ S' h' t' tk', KpF as fr s.heap h' → R S' → (∀ b o, s.heap.get? b ≠ none → S'.get? b = some o → h'.get? b = some o) → UpF fr s.heap h' → Q (.str txt t') { s with heap := h', toks := tk' }) :
    wpAny (model pg w) (Ap 5 fr) (PySem.call (.ref 394) [.ref f]) Q E s := by
  refine enterS' [(f, kla_obj name qual params body scope cl pm c' ctv)] rfl C X T (by k_is) (by k_is) (show 500 < 1000 by decide) (BindsTo.of_eq rfl) (locs rfl) (List.forall_mem_cons.mpr ⟨hf, List.forall_mem_nil _⟩) (List.forall_mem_cons.mpr ⟨f1.1, List.forall_mem_nil _⟩) (List.forall_mem_cons.mpr ⟨f1.2, List.forall_mem_nil _⟩) (by decide) rfl rfl rfl ?_
  intro g L' h₁ F N B Xg Tg hg sz
  have nL := notL F N hg
  have st : s.heap.StaysIn h₁ := kp_ro F N hg (List.forall_mem_cons.mpr ⟨hf, List.forall_mem_nil _⟩) (fun _ h => h)
  k_steps
  show wpAny _ _ _ _ _ _
  refine hw _ _ L' _ _ _ rfl rfl (Nat.le_of_ble_eq_true rfl) (Nat.le_of_ble_eq_true rfl) rfl nL (site B F rfl rfl) st ?_
  intro S' e d h' tk' hR fly up fe exc
  refine note_next rfl rfl fly fun h₂ fly₂ U₂ => ?_
  refine flight_none fly₂ fun h₃ fly₃ U₃ => ?_
  have U : ∀ b o, b ∈ List.filterMap (·.frame) ((envOf _ _ L' 394 (.ref 393)) :: fr) → h₁.get? b = some o → (∀ vs, o.data ≠ .fields vs) → ∃ sl, h₃.get? b = some { o with slots := sl } := fun b o q1 q2 q3 => by
    obtain ⟨sl, e1⟩ := up b q1 o q2
    obtain ⟨sl2, e2⟩ := U₂ b _ e1 q3
    exact U₃ b { o with slots := sl2 } e2 q3
  obtain ⟨a₁, a₂, a₃, x₁, x₂, x₃, mm, sp, v, n, ed, ka, za, pa, ta, ⟨y₁, ev⟩, ⟨y₂, y₃, ek⟩, ez, ep, z₁, z₂, et⟩ := exc
  have hN : ∀ p ∈ [(d, thrDict a₁ a₂ a₃ x₁ x₂ x₃ mm sp v n), (v, tupO #[.str (Str.ofString "struct") y₁, .ref ka, .ref pa]), (ka, tupO #[.str (Str.ofString "name") y₂, .str (Str.ofString "ErrorException") y₃, .ref za]), (za, tupO #[]), (pa, tupO #[.ref ta]), (ta, encTup By z₁ z₂)],
      S'.get? p.1 = some p.2 ∧ h₁.get? p.1 = none :=
    List.forall_mem_cons.mpr ⟨ed, List.forall_mem_cons.mpr ⟨ev, List.forall_mem_cons.mpr ⟨ek, List.forall_mem_cons.mpr ⟨ez, List.forall_mem_cons.mpr ⟨ep, List.forall_mem_cons.mpr ⟨et, List.forall_mem_nil _⟩⟩⟩⟩⟩⟩
  have U' : ∀ o, h₁.get? L' = some o → (∀ vs, o.data ≠ .fields vs) → ∃ sl, h₃.get? L' = some { o with slots := sl } := fun o q1 q2 => U L' o (.head _) q1 q2
  have hN' := fun p hp => (hN p hp).1
  obtain ⟨F₃, vs, sl, N₃⟩ := land F fly₃ rfl U' hN'
  generalize hWm : List.map (·.1) [(d, thrDict a₁ a₂ a₃ x₁ x₂ x₃ mm sp v n), (v, tupO #[.str (Str.ofString "struct") y₁, .ref ka, .ref pa]), (ka, tupO #[.str (Str.ofString "name") y₂, .str (Str.ofString "ErrorException") y₃, .ref za]), (za, tupO #[]), (pa, tupO #[.ref ta]), (ta, encTup By z₁ z₂)] = ws at F₃ N₃
  have old : ∀ b o, s.heap.get? b = some o → @LT.lt Nat _ b L' ∧ b ∉ e :: ws := fun b o q => ⟨Nat.lt_of_lt_of_le (Heap.lt_size q) sz, fun z => by
    have q1 := st b o q
    rcases List.mem_cons.mp z with z | z
    · rw [z, fe] at q1; cases q1
    · rw [← hWm] at z
      obtain ⟨p, hp, rfl⟩ := List.mem_map.mp z
      rw [(hN p hp).2] at q1; cases q1⟩
  have hKS : ∀ b o, s.heap.get? b = some o → b ∉ as → b ∉ fr.filterMap (·.frame) → S'.get? b = some o := fun b o q1 q2 q3 => hR.1 b o (st b o q1) q2 fun q4 => by
    rcases List.mem_cons.mp (show b ∈ L' :: fr.filterMap (·.frame) from q4) with q4 | q4
    · rw [q4, nL] at q1; cases q1
    · exact q3 q4
  have hSf : ∀ b o, S.get? b = some o → b ∉ as ∧ b ∉ fr.filterMap (·.frame) := fun b o q => ⟨fun z => by (rw [has b z] at q; cases q), fun z => by (rw [(C.ff.mem z).1] at q; cases q)⟩
  have stg : ∀ h, S'.StaysIn h → S.StaysIn (gnd h L' (e :: ws)) := fun h k b o q => by
    have q' := C.st b o q
    exact gnd_to (k b o (hKS b o q' (hSf b o q).1 (hSf b o q).2)) (old b o q').1 (old b o q').2
  have X₃ : (hd.heap_1 w.params).In (gnd h₃ L' (e :: ws)) := X.keeps (stg _ fly₃.1)
  have T₃ : Top p loose mean mg mb (gnd h₃ L' (e :: ws)) := T.keeps (stg _ fly₃.1)
  have hfr := B.frames
  have hUo : ∀ b ∈ fr.filterMap (·.frame), ∀ o, s.heap.get? b = some o → ∃ sl, h₃.get? b = some { o with slots := sl } := fun b hb o ho => by
    obtain ⟨_, o', ho', hd'⟩ := hfr.mem hb
    have e1 := st b o ho
    rw [F.keep b o' ho'] at e1
    cases e1
    exact U b _ (.tail _ hb) (F.keep b _ ho') hd'
  clear ed ev ek ez ep et N Xg Tg
  refine wpAny_handleBy_cons (codeAny_handlers_test ?_) (by intro q; cases q)
  k_steps
  have he := N₃.get (.head _)
  obtain ⟨nm, q, N71, bs, bm, hdct, sn, sub, ab, col, dd, k0, k1, k2, k3, k5, newId, hc, hbase⟩ := cls71 w.params
  refine wpAny_excMatches_sub_self (F₃.keep _ _ (X₃ _ _ hc)) he rfl hbase ?_
  (try dsimp only)
  rw [if_pos rfl]
  refine codeAny_handlers_suite_as ?_
  refine flight_none fly₃ fun h₄ fly₄ U₄ => ?_
  have U'' : ∀ o, h₁.get? L' = some o → (∀ vs, o.data ≠ .fields vs) → ∃ sl, h₄.get? L' = some { o with slots := sl } := fun o q1 q2 => by
    obtain ⟨sl, e1⟩ := U' o q1 q2
    exact U₄ L' { o with slots := sl } e1 q2
  obtain ⟨F₄, vs₄, sl₄, N₄⟩ := land F fly₄ rfl U'' hN'
  rw [hWm] at F₄ N₄
  have X₄ : (hd.heap_1 w.params).In (gnd h₄ L' (e :: ws)) := X.keeps (stg _ fly₄.1)
  have T₄ : Top p loose mean mg mb (gnd h₄ L' (e :: ws)) := T.keeps (stg _ fly₄.1)
  have hUo₄ : ∀ b ∈ fr.filterMap (·.frame), ∀ o, s.heap.get? b = some o → ∃ sl, h₄.get? b = some { o with slots := sl } := fun b hb o ho => by
    obtain ⟨sl, e1⟩ := hUo b hb o ho
    obtain ⟨_, o', ho', hd'⟩ := hfr.mem hb
    have e2 := st b o ho
    rw [F.keep b o' ho'] at e2
    cases e2
    exact U₄ b { o with slots := sl } e1 hd'
  clear he N₃ F₃ hN hN' F X₃ T₃
  k_steps
  rename Fr _ _ _ _ => F₅
  have key : ∀ b o, s.heap.get? b ≠ none → S'.get? b = some o → _ := fun b o q1 q2 => by
    cases z : s.heap.get? b with
    | none => exact absurd z q1
    | some o' => exact F₅.keep b o (gnd_to (fly₄.1 b o q2) (old b o' z).1 (old b o' z).2)
  refine hret S' _ _ _ (fun b o q1 q2 q3 => key b o (by rw [q1]; simp) (hKS b o q1 q2 q3)) hR.2 key (fun b hb o ho => ?_)
  obtain ⟨sl', e1⟩ := hUo₄ b hb o ho
  exact ⟨sl', F₅.keep b _ (gnd_to e1 (old b o ho).1 (old b o ho).2)⟩
end

end
section
theorem kwo_Fva : True := by
  k_with_none
  w_top off
  k_with "execs cons Assign cons" => (with_reducible refine seqN ?_); intro Qk1 nk1
  k_with "execs cons AugAssign cons" => (with_reducible refine seqN ?_); intro Qk1 nk1
  k_with "execs cons Expr cons" => (with_reducible refine seqN ?_); intro Qk1 nk1
  k_with "execs cons If cons" => (with_reducible refine seqQ ?_); intro Qk1 nk1 rk1
  k_with "execs cons For cons" => (with_reducible refine seqQ ?_); intro Qk1 nk1 rk1
  k_with "execs cons" => (with_reducible refine seq1 ?_)
  k_with "eval Constant int" => (with_reducible refine cInt ?_); intro tq1 kq1
  k_with "eval Constant str" => (with_reducible refine cStr ?_); intro tq1 kq1
  k_with "eval Name" => (k_here; k_dflt (refine' nameL ?Fn1 ?bn1 ?vn1 ?_; (case bn1 => decide +kernel); (case Fn1 => with_reducible assumption); (case vn1 => exact rfl); k_whole))
  exact trivial
theorem fillit30 (P : Params) : hd.heap_1 P = hd.heap_1 P ∧ PySem.Challenge.rw_pq0711_01 = PySem.Challenge.rw_pq0711_01 := by
  k_fill
  exact ⟨rfl, rfl⟩
section
variable {w : World} {fr : List Env} {S : Heap} {p : Program} {loose : List Str} {mean : ExcName → Option Value} {mg mb : Str → Option Value} {s : Shared} {Q E : Value → Shared → Prop}
theorem tupK {g h : Heap} {L : Addr} {m : Str → Option Value} {K : Frag} {a : Addr} {items : Array Value} {n : Nat} {d : Option Addr} {sl : Array (Option Value)} (F : Fr g L h m) (X : K.In g) (e : K.lookup a = some { cls := .type "tuple", dict := d, data := .seq items n, slots := sl }) : IsTup h a items :=
  ⟨_, F.keep _ _ (X _ _ e), rfl, _, rfl⟩
theorem kw_Fva_1 : True := by
  k_with "call type:list cons nil" => (k_here; (with_reducible show wpAny _ _ (PySem.call (Value.type "list") [Value.ref _]) _ _ _); k_dflt (refine' list_copyKT ?k1Kw ?k2Kw ?k3Kw ?_ ?zKw; (case k1Kw => k_asm); (case k2Kw => k_asm); (case k3Kw => exact tupK (by k_asm) (by k_asm) (by k_is)); (case zKw => size_fits); k_whole); intro D'q c'q h'q F'q N'q l1q; (try k_lt l1q))
  exact trivial
theorem getK {g h : Heap} {L : Addr} {m : Str → Option Value} {K : Frag} {a : Addr} {o : Obj} (F : Fr g L h m) (X : K.In g) (e : K.lookup a = some o) : h.get? a = some o := F.keep _ _ (X _ _ e)
theorem tup0 {h : Heap} {a : Addr} {n : Nat} {d : Option Addr} {sl : Array (Option Value)} (e : h.get? a = some { cls := .type "tuple", dict := d, data := .seq #[] n, slots := sl }) : TV h (.ref a) (.tuple []) := .tup e rfl rfl .nil
theorem tup1 {h : Heap} {a : Addr} {n : Nat} {d : Option Addr} {sl : Array (Option Value)} {v1 : Value} {d1 : PyData} (e : h.get? a = some { cls := .type "tuple", dict := d, data := .seq #[v1] n, slots := sl }) (t1 : TV h v1 d1) : TV h (.ref a) (.tuple [d1]) := .tup e rfl rfl (.cons t1 .nil)
theorem tup2 {h : Heap} {a : Addr} {n : Nat} {d : Option Addr} {sl : Array (Option Value)} {v1 v2 : Value} {d1 d2 : PyData} (e : h.get? a = some { cls := .type "tuple", dict := d, data := .seq #[v1, v2] n, slots := sl }) (t1 : TV h v1 d1) (t2 : TV h v2 d2) : TV h (.ref a) (.tuple [d1, d2]) := .tup e rfl rfl (.cons t1 (.cons t2 .nil))
theorem tup3 {h : Heap} {a : Addr} {n : Nat} {d : Option Addr} {sl : Array (Option Value)} {v1 v2 v3 : Value} {d1 d2 d3 : PyData} (e : h.get? a = some { cls := .type "tuple", dict := d, data := .seq #[v1, v2, v3] n, slots := sl }) (t1 : TV h v1 d1) (t2 : TV h v2 d2) (t3 : TV h v3 d3) : TV h (.ref a) (.tuple [d1, d2, d3]) := .tup e rfl rfl (.cons t1 (.cons t2 (.cons t3 .nil)))
theorem tup5 {h : Heap} {a : Addr} {n : Nat} {d : Option Addr} {sl : Array (Option Value)} {v1 v2 v3 v4 v5 : Value} {d1 d2 d3 d4 d5 : PyData} (e : h.get? a = some { cls := .type "tuple", dict := d, data := .seq #[v1, v2, v3, v4, v5] n, slots := sl }) (t1 : TV h v1 d1) (t2 : TV h v2 d2) (t3 : TV h v3 d3) (t4 : TV h v4 d4) (t5 : TV h v5 d5) : TV h (.ref a) (.tuple [d1, d2, d3, d4, d5]) := .tup e rfl rfl (.cons t1 (.cons t2 (.cons t3 (.cons t4 (.cons t5 .nil)))))
theorem eq_tv {A : Around} {a b : Value} {da db : PyData} (r : Bool) (ra : TV s.heap a da) (rb : TV s.heap b db) (ha : SeqAt.shaped da = true) (hb : SeqAt.shaped db = true) (hu : A.units ≤ 5000) (e : PyData.eqv da db = r) (h : Q (.bool r) s) : wpAny (model pg w) A (compareOp .Eq a b) Q E s :=
  eq_dataH ra.reads rb.reads ha hb (by have e : cLine = 9900 := rfl; omega) (by rw [e]; exact h)
theorem ne_tv {A : Around} {a b : Value} {da db : PyData} (r : Bool) (ra : TV s.heap a da) (rb : TV s.heap b db) (ha : SeqAt.shaped da = true) (hb : SeqAt.shaped db = true) (hu : A.units ≤ 5000) (e : PyData.eqv da db = r) (h : Q (.bool (!r)) s) : wpAny (model pg w) A (compareOp .NotEq a b) Q E s :=
  ne_dataH ra.reads rb.reads ha hb (by have e : cLine = 9900 := rfl; omega) (by rw [e]; exact h)
theorem kw_Fva_2 : True := by
  k_with "compareOp Eq ref ref" => (k_here; (with_reducible refine' eq_tv false ?raKw ?rbKw ?haKw ?hbKw ?huKw ?eKw ?_); (case raKw => k_dflt (repeat' (first | exact TV.none | exact TV.int _ _ | exact TV.str _ _ | refine' tup3 (News.get (by k_asm) (by k_mem)) ?_ ?_ ?_ | refine' tup0 (News.get (by k_asm) (by k_mem))  | refine' tup2 (News.get (by k_asm) (by k_mem)) ?_ ?_ | refine' tup1 (News.get (by k_asm) (by k_mem)) ?_ | refine' tup5 (News.get (by k_asm) (by k_mem)) ?_ ?_ ?_ ?_ ?_ | refine' tup3 (getK (by k_asm) (by k_asm) (by k_is)) ?_ ?_ ?_ | refine' tup0 (getK (by k_asm) (by k_asm) (by k_is))  | refine' tup2 (getK (by k_asm) (by k_asm) (by k_is)) ?_ ?_ | refine' tup1 (getK (by k_asm) (by k_asm) (by k_is)) ?_ | refine' tup5 (getK (by k_asm) (by k_asm) (by k_is)) ?_ ?_ ?_ ?_ ?_))); (case rbKw => k_dflt (repeat' (first | exact TV.none | exact TV.int _ _ | exact TV.str _ _ | refine' tup3 (News.get (by k_asm) (by k_mem)) ?_ ?_ ?_ | refine' tup0 (News.get (by k_asm) (by k_mem))  | refine' tup2 (News.get (by k_asm) (by k_mem)) ?_ ?_ | refine' tup1 (News.get (by k_asm) (by k_mem)) ?_ | refine' tup5 (News.get (by k_asm) (by k_mem)) ?_ ?_ ?_ ?_ ?_ | refine' tup3 (getK (by k_asm) (by k_asm) (by k_is)) ?_ ?_ ?_ | refine' tup0 (getK (by k_asm) (by k_asm) (by k_is))  | refine' tup2 (getK (by k_asm) (by k_asm) (by k_is)) ?_ ?_ | refine' tup1 (getK (by k_asm) (by k_asm) (by k_is)) ?_ | refine' tup5 (getK (by k_asm) (by k_asm) (by k_is)) ?_ ?_ ?_ ?_ ?_))); (case haKw => decide +kernel); (case hbKw => decide +kernel); (case huKw => exact Nat.le_of_ble_eq_true rfl); (case eKw => decide +kernel))
  exact trivial
theorem kw_Fva_3 : True := by
  k_with "compareOp NotEq ref ref" => (k_here; (with_reducible refine' ne_tv true ?raKw ?rbKw ?haKw ?hbKw ?huKw ?eKw ?_); (case raKw => k_dflt (repeat' (first | exact TV.none | exact TV.int _ _ | exact TV.str _ _ | refine' tup3 (News.get (by k_asm) (by k_mem)) ?_ ?_ ?_ | refine' tup0 (News.get (by k_asm) (by k_mem))  | refine' tup2 (News.get (by k_asm) (by k_mem)) ?_ ?_ | refine' tup1 (News.get (by k_asm) (by k_mem)) ?_ | refine' tup5 (News.get (by k_asm) (by k_mem)) ?_ ?_ ?_ ?_ ?_ | refine' tup3 (getK (by k_asm) (by k_asm) (by k_is)) ?_ ?_ ?_ | refine' tup0 (getK (by k_asm) (by k_asm) (by k_is))  | refine' tup2 (getK (by k_asm) (by k_asm) (by k_is)) ?_ ?_ | refine' tup1 (getK (by k_asm) (by k_asm) (by k_is)) ?_ | refine' tup5 (getK (by k_asm) (by k_asm) (by k_is)) ?_ ?_ ?_ ?_ ?_))); (case rbKw => k_dflt (repeat' (first | exact TV.none | exact TV.int _ _ | exact TV.str _ _ | refine' tup3 (News.get (by k_asm) (by k_mem)) ?_ ?_ ?_ | refine' tup0 (News.get (by k_asm) (by k_mem))  | refine' tup2 (News.get (by k_asm) (by k_mem)) ?_ ?_ | refine' tup1 (News.get (by k_asm) (by k_mem)) ?_ | refine' tup5 (News.get (by k_asm) (by k_mem)) ?_ ?_ ?_ ?_ ?_ | refine' tup3 (getK (by k_asm) (by k_asm) (by k_is)) ?_ ?_ ?_ | refine' tup0 (getK (by k_asm) (by k_asm) (by k_is))  | refine' tup2 (getK (by k_asm) (by k_asm) (by k_is)) ?_ ?_ | refine' tup1 (getK (by k_asm) (by k_asm) (by k_is)) ?_ | refine' tup5 (getK (by k_asm) (by k_asm) (by k_is)) ?_ ?_ ?_ ?_ ?_))); (case haKw => decide +kernel); (case hbKw => decide +kernel); (case huKw => exact Nat.le_of_ble_eq_true rfl); (case eKw => decide +kernel))
  exact trivial
theorem kw_Fva_4 : True := by
  k_with "eval ListComp" => (k_here; lcg_calm; k_dflt (refine LCg.ListComp_U (F₀ := by k_asm) (by with_unfolding_all rfl) (by decide) (by rfl) (by decide) (by rfl) ?_))
  exact trivial
theorem kw_Fva_5 : True := by
  k_with "exec Assign cons ListComp" => (k_here; lcg_calm; k_dflt (refine LCg.Assign_ListComp_U (F₀ := by k_asm) (by rfl) (by with_unfolding_all rfl) (by with_unfolding_all rfl) (by decide) (by rfl) (by decide) (by rfl) (by rfl) (by rfl) ?_))
  exact trivial
theorem kw_Fva_6 : True := by
  k_with "eval ListComp" => (k_here; lct_look; lcg_calm; k_dflt (refine LCt.ListComp_T (F₀ := by k_asm) (by with_unfolding_all rfl) (by decide) (by rfl) (by decide) (by rfl) ?_))
  exact trivial
theorem kw_Fva_7 : True := by
  k_with "exec Assign cons ListComp" => (k_here; lct_look; lcg_calm; k_dflt (refine LCt.Assign_ListComp_T (F₀ := by k_asm) (by rfl) (by with_unfolding_all rfl) (by with_unfolding_all rfl) (by decide) (by rfl) (by decide) (by rfl) (by rfl) (by rfl) ?_))
  exact trivial
theorem kw_Fva_8 : True := by
  k_with "CompSrc" => (k_here; k_dflt (refine LCg.CompSrc.ledger (by rfl) (by k_asm) (by k_asm) (by k_mem) (by first | size_fits | exact Nat.le_of_ble_eq_true rfl) ?_; intro g'q; lcg_lit))
  exact trivial
theorem fresh_of {g h h₀ : Heap} {L l : Addr} {o : Obj} {W W' : List (Addr × Obj)} (N : News g L h W') (hm : (l, o) ∈ W') (hg : ∀ b o, h₀.get? b = some o → b ∉ W.map (·.1) → g.get? b = some o) (hW : ∀ p ∈ W, h₀.get? p.1 = some p.2) (st : h₀.StaysIn h) (hc : ∀ p ∈ W, p.2.cls ≠ o.cls) : h₀.get? l = none := by
  cases e : h₀.get? l with
  | none => rfl
  | some o' =>
    exfalso
    by_cases q : l ∈ W.map (·.1)
    · obtain ⟨x, hx, rfl⟩ := List.mem_map.mp q
      have e1 := st _ _ (hW x hx)
      rw [N.get hm] at e1
      cases e1
      exact hc x hx rfl
    · have := hg l o' e q
      rw [(N _ hm).2.2] at this; cases this
set_option maxHeartbeats 0 in
theorem freeVars_spec {a b : Addr} {t u : Tok} (C : FrOk S fr s.heap) (X : (hd.heap_1 w.params).In S) (T : Top p loose mean mg mb S)
    (ha : s.heap.get? a = some { cls := .type "tuple", data := .seq #[.str (Str.ofString "name") t, .str (Str.ofString "Any") u, .ref b] }) (hb : s.heap.get? b = some { cls := .type "tuple", data := .seq #[] }) (f1 : Off S fr a) (f2 : Off S fr b) (ord : @LT.lt Nat _ b a)
    (hret : ∀ l h' tk', s.heap.StaysIn h' → h'.get? l = some (listOf #[] 0) → s.heap.get? l = none → Q (.ref l) { s with heap := h', toks := tk' }) :
    wpAny (model pg w) (Ap 9 fr) (PySem.call (.ref 133) [.ref a]) Q E s := by
  refine enterCT [(a, { cls := .type "tuple", data := .seq #[.str (Str.ofString "name") t, .str (Str.ofString "Any") u, .ref b] }), (b, { cls := .type "tuple", data := .seq #[] })] rfl C X T (by k_is) (by k_is) (show 580 < 1000 by decide) (BindsTo.of_eq (binds := [(Str.ofString "kind", .ref a)]) rfl) (kindsX rfl) (by decide) (List.forall_mem_cons.mpr ⟨ha, List.forall_mem_cons.mpr ⟨hb, List.forall_mem_nil _⟩⟩) (List.forall_mem_cons.mpr ⟨f1.1, List.forall_mem_cons.mpr ⟨f2.1, List.forall_mem_nil _⟩⟩) (List.forall_mem_cons.mpr ⟨f1.2, List.forall_mem_cons.mpr ⟨f2.2, List.forall_mem_nil _⟩⟩) rfl rfl rfl ?_
  intro Q₁ g L' h₁ tk cells env m₀ rq nq F N Y B Xg Tg hg sz lt fc
  have hW : ∀ p ∈ [(a, ({ cls := .type "tuple", data := .seq #[.str (Str.ofString "name") t, .str (Str.ofString "Any") u, .ref b] } : Obj)), (b, { cls := .type "tuple", data := .seq #[] })], s.heap.get? p.1 = some p.2 := List.forall_mem_cons.mpr ⟨ha, List.forall_mem_cons.mpr ⟨hb, List.forall_mem_nil _⟩⟩
  have l0 : @LT.lt Nat _ a L' := lt (a, _) (by k_mem)
  clear lt
  k_cells Y
  simp only [List.cons_append, List.nil_append] at N
  k_steps
  (try dsimp only)
  rename Fr _ _ _ _ => Fz
  rename News _ _ _ _ => Nz
  have st := kp_ro Fz Nz hg hW (List.forall_mem_cons.mpr ⟨by k_mem, List.forall_mem_cons.mpr ⟨by k_mem, List.forall_mem_nil _⟩⟩)
  exact hret _ _ _ st (Nz.get (by k_mem)) (fresh_of Nz (o := listOf #[] 0) (by k_mem) hg hW st (List.forall_mem_cons.mpr ⟨(show Value.type "tuple" ≠ Value.type "list" from by decide), List.forall_mem_cons.mpr ⟨(show Value.type "tuple" ≠ Value.type "list" from by decide), List.forall_mem_nil _⟩⟩))
end

end
section
theorem kwo_Fnil : True := by
  k_with_none
  w_top off
  k_with "execs cons Assign cons" => (with_reducible refine seqN ?_); intro Qk1 nk1
  k_with "execs cons AugAssign cons" => (with_reducible refine seqN ?_); intro Qk1 nk1
  k_with "execs cons Expr cons" => (with_reducible refine seqN ?_); intro Qk1 nk1
  k_with "execs cons If cons" => (with_reducible refine seqQ ?_); intro Qk1 nk1 rk1
  k_with "execs cons For cons" => (with_reducible refine seqQ ?_); intro Qk1 nk1 rk1
  k_with "execs cons" => (with_reducible refine seq1 ?_)
  k_with "eval Constant int" => (with_reducible refine cInt ?_); intro tq1 kq1
  k_with "eval Constant str" => (with_reducible refine cStr ?_); intro tq1 kq1
  k_with "eval Name" => (k_here; k_dflt (refine' nameL ?Fn1 ?bn1 ?vn1 ?_; (case bn1 => decide +kernel); (case Fn1 => with_reducible assumption); (case vn1 => exact rfl); k_whole))
  exact trivial
section
variable {prog : Program} {w : World} {A : Around} {E : Value → Shared → Prop} {s : Shared} {env : Env}
/-! a loop over an empty list: only its iterator is made -/
theorem For_nil (hh : A.handled = none) {target iter : PySem.Expr} {body : List Stmt} {pos : Pos} {Q : Flow → Shared → Prop}
    (h : wpAny (model prog w) A (eval iter env) (fun x s₁ => ∃ l, x = .ref l ∧ s₁.heap.IsList l #[] ∧ ∀ h' tk, (∀ b o, s₁.heap.get? b = some o → h'.get? b = some o) → Q .next { s₁ with heap := h', toks := tk }) E s)
    (hs : ∀ x, foldedSetIterable iter env x = pure x := by intro _; rfl) :
    wpAny (model prog w) A (exec (.For target iter body [] pos) env) Q E s := by
  refine wpAny_For (wpAny_mono h (fun x s₁ h₁ => ?_) fun _ _ e => e) hs
  obtain ⟨l, rfl, hl, hq⟩ := h₁
  refine wpAny_pyIter_list hl ?_
  generalize he : ({ s₁ with heap := s₁.heap.push { cls := .type "list_iterator", data := .fields #[.ref l, .int 0 0] } } : Shared) = s₂
  refine codeAny_forLoop_any (fun _ s' => s' = s₂) (fun n s' e => ?_) 0 rfl
  subst e
  subst he
  have hit : (s₁.heap.push { cls := .type "list_iterator", data := .fields #[.ref l, .int 0 0] }).IsListIter s₁.heap.objs.size l 0 := ⟨_, Heap.get?_push_size _ rfl, rfl, rfl⟩
  refine wpAny_pyNext_list_end hh hit (hl.at fun o e => Heap.get?_push_of_some _ e) rfl fun h' k => ?_
  refine wpAny_execs_nil ?_
  exact hq h' _ fun b o e => k b o (Nat.ne_of_lt (Heap.lt_size e)) (Heap.get?_push_of_some _ e)
def NilAt (g : Heap) (L : Addr) (Q : Flow → Shared → Prop) (x : Value) (s₁ : Shared) : Prop :=
  ∃ l n m W, x = .ref l ∧ Fr g L s₁.heap m ∧ News g L s₁.heap W ∧ (l, listOf #[] n) ∈ W ∧ ∀ h' tk, Fr g L h' m → News g L h' W → Q .next { s₁ with heap := h', toks := tk }
theorem NilAt.intro {g : Heap} {L l : Addr} {n : Nat} {m : Str → Option Value} {W : List (Addr × Obj)} {s₁ : Shared} {Q : Flow → Shared → Prop} (F : Fr g L s₁.heap m) (N : News g L s₁.heap W) (hm : (l, listOf #[] n) ∈ W)
    (h : ∀ h' tk, Fr g L h' m → News g L h' W → Q .next { s₁ with heap := h', toks := tk }) : NilAt g L Q (.ref l) s₁ := ⟨l, n, m, W, rfl, F, N, hm, h⟩
theorem For_nilK {g : Heap} {L : Addr} {m : Str → Option Value} (_F : Fr g L s.heap m) (hh : A.handled = none) {target iter : PySem.Expr} {body : List Stmt} {pos : Pos} {Q : Flow → Shared → Prop}
    (h : wpAny (model prog w) A (eval iter env) (NilAt g L Q) E s) (hs : ∀ x, foldedSetIterable iter env x = pure x) :
    wpAny (model prog w) A (exec (.For target iter body [] pos) env) Q E s := by
  refine For_nil hh (wpAny_mono h (fun x s₁ h₁ => ?_) fun _ _ e => e) hs
  obtain ⟨l, n, m, W, rfl, F, N, hm, k⟩ := h₁
  exact ⟨l, rfl, News.isList N hm, fun h' tk st => k h' tk (F.keeps st) fun p hp => ⟨st _ _ (N p hp).1, (N p hp).2⟩⟩
end

end
section
theorem kwo_Dpr : True := by
  k_with_none
  w_top off
  k_with "execs cons Assign cons" => (with_reducible refine seqN ?_); intro Qk1 nk1
  k_with "execs cons AugAssign cons" => (with_reducible refine seqN ?_); intro Qk1 nk1
  k_with "execs cons Expr cons" => (with_reducible refine seqN ?_); intro Qk1 nk1
  k_with "execs cons If cons" => (with_reducible refine seqQ ?_); intro Qk1 nk1 rk1
  k_with "execs cons For cons" => (with_reducible refine seqQ ?_); intro Qk1 nk1 rk1
  k_with "execs cons" => (with_reducible refine seq1 ?_)
  k_with "eval Constant int" => (with_reducible refine cInt ?_); intro tq1 kq1
  k_with "eval Constant str" => (with_reducible refine cStr ?_); intro tq1 kq1
  k_with "eval Name" => (k_here; k_dflt (refine' nameL ?Fn1 ?bn1 ?vn1 ?_; (case bn1 => decide +kernel); (case Fn1 => with_reducible assumption); (case vn1 => exact rfl); k_whole))
  exact trivial
/-! a dict out of a list of pairs -/
namespace FF
theorem entry_loop : entryFor table "dict.update.loop" = some Builtin.«dict.update.loop» := entryFor_of_tree (by kernel_rfl)
theorem plain_loop : plainId "dict.update.loop" = true := by decide +kernel
theorem keys_miss : typeLookup (.type "list") (Str.ofString "keys") = pure none := am_miss_of_fast (by decide +kernel)
end FF
section
variable {prog : Program} {w : World} {K : Type} [DecidableEq K] {knd : KeyKind prog w K} {A : Around} {s : Shared}
def PairsH (knd : KeyKind prog w K) (h : Heap) (ys : Array Value) (kvs : List (K × Value)) : Prop :=
  ys.size = kvs.length ∧ ∀ (i : Nat) k v, kvs[i]? = some (k, v) → ∃ t key o n, ys[i]? = some (Value.ref t) ∧ h.get? t = some o ∧ o.cls = .type "tuple" ∧ o.data = .seq #[key, v] n ∧ knd.is k key = true
theorem PairsH.keep {h h' : Heap} {ys : Array Value} {kvs : List (K × Value)} (H : PairsH knd h ys kvs) (k : ∀ b o, o.cls = .type "tuple" → h.get? b = some o → h'.get? b = some o) : PairsH knd h' ys kvs :=
  ⟨H.1, fun i a v e => let ⟨t, key, o, n, e1, e2, e3, e4⟩ := H.2 i a v e; ⟨t, key, o, n, e1, k _ _ e3 e2, e3, e4⟩⟩
theorem dict_cls' {h : Heap} {d : Addr} {kvs : List (K × Value)} (H : h.DictOf knd d kvs) : ∀ o, h.get? d = some o → o.cls = .type "dict" := fun o e => by
  obtain ⟨o', es, ep, ho, hc, _⟩ := H
  rw [ho] at e; cases e
  exact hc.1
theorem update_loop {R : Result → Shared → Prop} {I d l : Addr} {ys : Array Value} {res : Value} {base more : List (K × Value)} (hh : A.in1.handled = none) (hl : l ≠ I) (hdI : d ≠ I) (hdl : d ≠ l)
    (hsz : base.length + more.length ≤ sizeLine) : ∀ (k i : Nat) (j : Int) (t : Tok) (s : Shared), more.length - i = k → i ≤ more.length → (s.heap.IsListIter I l i ∧ s.heap.IsList l ys) → s.heap.DictOf knd d (merged base (more.take i)) → PairsH knd s.heap ys more →
      (∀ h' tk, h'.DictOf knd d (merged base more) → (∀ b o, b ≠ d → b ≠ I → s.heap.get? b = some o → h'.get? b = some o) → R (.ok (.ret res)) { s with heap := h', toks := tk }) →
      codeAny (model prog w) A (.builtin "dict.update.loop" ⟨[.ref d, .ref I, .int j t, res], []⟩) R s := by
  intro k
  have W : ∀ n, n = ys.size → Walks prog w A.in1 I [I, l] [I] n (fun i v => ys[i]? = some v) (fun i h => h.IsListIter I l i ∧ h.IsList l ys) := fun n e => e ▸ Walks.list hh I l hl ys
  induction k with
  | zero =>
    intro i j t s hk hi hst hd hp hR
    have hin : i = more.length := by omega
    subst hin
    refine codeAny_builtin FF.entry_loop ?_
    rw [Around.under_plainId FF.plain_loop _]
    show wpAny _ A.in1 (pyNext (.ref I) >>= _) _ _ s
    refine wpAny_bind ((W _ hp.1.symm).done s _ _ hst fun h' tk hm => ?_)
    show wpAny _ A.in1 (Builtin.Dict.addKeywords d [] >>= _) _ _ _
    refine wpAny_bind (wpAny_pure (wpAny_pure (hR h' tk ?_ fun b o _ nI e => hm b o (by simpa using nI) e)))
    rw [List.take_length] at hd
    obtain ⟨o, es, ep, ho, rest⟩ := hd
    exact ⟨o, es, ep, hm d o (by simpa using hdI) ho, rest⟩
  | succ k ih =>
    intro i j t s hk hi hst hd hp hR
    have hlt : i < more.length := by omega
    refine codeAny_builtin FF.entry_loop ?_
    rw [Around.under_plainId FF.plain_loop _]
    show wpAny _ A.in1 (pyNext (.ref I) >>= _) _ _ s
    refine wpAny_bind ((W _ hp.1.symm).item i s _ _ hlt hst fun v h' tk hP hst' hm => ?_)
    obtain ⟨kk, vv, ekv⟩ : ∃ kk vv, more[i] = (kk, vv) := ⟨_, _, rfl⟩
    obtain ⟨t', key, o, n, e1, e2, e3, e4, e5⟩ := hp.2 i kk vv (by rw [List.getElem?_eq_getElem hlt, ekv])
    have ev : v = .ref t' := by rw [hP] at e1; exact Option.some.inj e1
    subst ev
    have hd' : h'.DictOf knd d (merged base (more.take i)) := by
      obtain ⟨o, es, ep, ho, rest⟩ := hd
      exact ⟨o, es, ep, hm d o (by simpa using hdI) ho, rest⟩
    obtain ⟨oI, hoI, hcI, _⟩ := id hst.1
    have tI : ∀ b o', o'.cls = .type "tuple" → s.heap.get? b = some o' → b ≠ I := fun b o' c e q => by
      subst q; rw [hoI] at e; cases e; rw [hcI] at c; exact absurd c (by decide)
    have e2' : h'.get? t' = some o := hm t' o (by simpa using tI _ _ e3 e2) e2
    have hp' : PairsH knd h' ys more := hp.keep fun b o' c e => hm b o' (by simpa using tI _ _ c e) e
    show wpAny _ A.in1 (holding [Value.ref t'] _ >>= _) _ _ _
    refine wpAny_bind (wpAny_holding ?_)
    refine wpAny_bind (wpAny_tryCatch ?_)
    unfold Builtin.Dict.pairItems
    refine wpAny_bind (wpAny_typeOf (T := "tuple") ⟨o, e2', e3⟩ ?_)
    rw [if_pos (by decide)]
    refine wpAny_bind (wpAny_seqItems (s := { s with heap := h', toks := tk }) e2' e4 ?_)
    refine wpAny_pure ?_
    show wpAny _ A.in1 (holding [key, vv] (dictSet d key vv)) _ _ _
    refine wpAny_holding (wpAny_dictSet_pairs (s := { s with heap := h', toks := tk }) e5 hd' (hsz := by
      have := merged_length_le base (more.take i)
      have := List.length_take_le i more
      omega) fun h2 hd2 hs2 => ?_)
    refine wpAny_pure ⟨plainId_quiet FF.plain_loop _, ih (i + 1) (j + 1) 0 _ (by omega) hlt ?_ ?_ ?_ fun h'' tk'' hd'' hk'' => ?_⟩
    · refine (W _ hp.1.symm).frame _ _ _ hst' fun b hb o e => hs2.extBut b o ?_ e
      rcases List.mem_cons.mp hb with rfl | hb
      · exact Ne.symm hdI
      · rw [List.mem_singleton.mp hb]; exact Ne.symm hdl
    · rw [merged_take_succ base more i (kk, vv) (by rw [List.getElem?_eq_getElem hlt, ekv])]
      exact hd2
    · exact hp'.keep fun b o' c e => hs2.extBut b o' (fun q => by subst q; have := dict_cls' hd' _ e; rw [c] at this; exact absurd this (by decide)) e
    · exact hR h'' tk'' hd'' fun b o nd nI e => hk'' b o nd nI (hs2.extBut b o nd (hm b o (by simpa using nI) e))

theorem getAttr?_keys_list {a : Addr} {xs : Array Value} {k : Nat} {sl : Array (Option Value)} {Q : Option Value → Shared → Prop} {E : Value → Shared → Prop} (hx : s.heap.get? a = some { cls := .type "list", dict := none, data := .seq xs k, slots := sl }) (hA : A.handled = none)
    (h : ∀ h' tk, s.heap.StaysIn h' → Q none { s with heap := h', toks := tk }) : wpAny (model prog w) A (getAttr? (.ref a) (Str.ofString "keys")) Q E s := by
  obtain ⟨hp, g, d, tk, os⟩ := s
  have hT : ∀ tk', (⟨hp, g, d, tk', os⟩ : Shared).TypeIs (.ref a) "list" := fun _ => ⟨_, hx, rfl⟩
  have f1 := sub_AttributeError
  have f3 := F.slot_list_getattribute.lookup
  have f4 := F.slot_list_getattribute.bind (.ref a)
  have f5 := am_list_getattr_none
  unfold getAttr? getAttrBy? getAttrBy
  repeat (any_goals (first | assumption | exact hT _ | ((with_reducible show wpAny _ _ (call (Value.builtin "list.__getattribute__") _ _) _ _ _); refine call_meets F.slot_list_getattribute (hT _) am_entry_list_getattribute (F.args_list_getattribute_2 _ _) (meets_getattribute_miss_list a xs k sl _ _ FF.keys_miss (by decide +kernel) (by decide +kernel)) ⟨hx, hA, fun h' tk' e hx' => ?_⟩) | wp_step))
  obtain ⟨t', u', he⟩ := hx'.there
  show wpAny _ _ (getattributeRaised _ _ _ _ _ _ _) _ _ _
  unfold getattributeRaised
  repeat (any_goals (first | assumption | wp_step))
  exact h _ _ hx'.keeps
omit [DecidableEq K] in
theorem updateFrom_pairs {nm : String} {d l : Addr} {ys : Array Value} {n : Nat} {res : Value} {Q : Fin → Shared → Prop} {E : Value → Shared → Prop} (hl : s.heap.get? l = some { cls := .type "list", dict := none, data := .seq ys n }) (hA : A.handled = none)
    (h : ∀ I h₁ tk, s.heap.StaysIn h₁ → s.heap.get? I = none → I ≠ d → h₁.IsListIter I l 0 → h₁.IsList l ys → Q (.again (.builtin "dict.update.loop" ⟨[.ref d, .ref I, rawInt 0, res], []⟩)) { s with heap := h₁, toks := tk }) (hd : ∃ o, s.heap.get? d = some o) :
    wpAny (model prog w) A (Builtin.Dict.updateFrom nm d (.ref l) [] res) Q E s := by
  unfold Builtin.Dict.updateFrom
  refine wpAny_bind (wpAny_typeOf (T := "list") ⟨_, hl, rfl⟩ ?_)
  rw [if_pos (by decide)]
  refine wpAny_bind (getAttr?_keys_list hl hA fun h' tk st => ?_)
  rw [if_pos (show (none : Option Value).isNone = true from rfl)]
  refine wpAny_bind (wpAny_rule ?_)
  refine wpAny_bind (wpAny_pyIter_list (items := ys) (s := { s with heap := h', toks := tk }) ⟨_, st _ _ hl, rfl, n, rfl⟩ ?_)
  refine wpAny_pure (h _ _ _ (fun b o e => Heap.get?_push_of_some _ (st b o e)) ?_ ?_ ⟨_, Heap.get?_push_size _ rfl, rfl, rfl⟩ ⟨_, Heap.get?_push_of_some _ (st _ _ hl), rfl, n, rfl⟩)
  · cases e : s.heap.get? h'.objs.size with
    | none => rfl
    | some o => exact absurd (Heap.lt_size (st _ _ e)) (Nat.lt_irrefl _)
  · obtain ⟨o, e⟩ := hd
    exact Ne.symm (Nat.ne_of_lt (Heap.lt_size (st _ _ e)))
theorem call_dict_pairs {l : Addr} {ys : Array Value} {n : Nat} {more : List (K × Value)} {Q : Value → Shared → Prop} {E : Value → Shared → Prop} (hA : A.handled = none) (hl : s.heap.get? l = some { cls := .type "list", dict := none, data := .seq ys n }) (hp : PairsH knd s.heap ys more) (hsz : more.length ≤ sizeLine)
    (h : ∀ d h' tk, h'.DictOf knd d (merged [] more) → s.heap.StaysIn h' → (∀ b o, s.heap.get? b = some o → @LT.lt Nat _ b d) → Q (.ref d) { s with heap := h', toks := tk }) :
    wpAny (model prog w) A (call (.type "dict") [.ref l]) Q E s := by
  refine callType_codes (Q₁ := fun obj s₁ => obj = .ref s.heap.objs.size ∧ s₁ = { s with heap := s.heap.push { cls := .type "dict", data := .dict #[] } }) F.kt_called_dict (F.kt_typeCall_dict_1 _) F.entry_dict_init (kt_code_dict_new _ ⟨rfl, rfl⟩) ?_
  rintro obj s₁ ⟨rfl, rfl⟩
  have hnew : (s.heap.push { cls := .type "dict", data := .dict #[] }).DictOf knd s.heap.objs.size [] := Heap.DictOf.new s.heap
  refine ⟨hnew.typeIs, F.args_dict_init_2 _ _, ?_⟩
  unfold Builtin.«dict.__init__»
  refine wpAny_bind ?_
  unfold Builtin.Dict.selfAndRest
  refine wpAny_bind (wpAny_notOrdered_dict hnew.typeIs ?_)
  show wpAny _ _ (pure (s.heap.objs.size, [Value.ref l])) _ _ _
  refine wpAny_pure ?_
  show wpAny _ _ (Builtin.Dict.updateFrom "dict.__init__" s.heap.objs.size (.ref l) [] .none) _ _ _
  have hld : l ≠ s.heap.objs.size := Nat.ne_of_lt (Heap.lt_size hl)
  refine updateFrom_pairs (s := { s with heap := s.heap.push { cls := .type "dict", data := .dict #[] } }) (Heap.get?_push_of_some _ hl) hA (fun I h₁ tk st hI hId hit hil => ?_) ⟨_, Heap.get?_push_size _ rfl⟩
  have hI0 : s.heap.get? I = none := by
    cases e : s.heap.get? I with
    | none => rfl
    | some o => rw [show (s.heap.push { cls := .type "dict", data := .dict #[] }).get? I = some o from Heap.get?_push_of_some _ e] at hI; cases hI
  have hd1 : h₁.DictOf knd s.heap.objs.size [] := by
    obtain ⟨o, es, ep, ho, rest⟩ := hnew
    exact ⟨o, es, ep, st _ _ ho, rest⟩
  refine ⟨plainId_quiet FF.plain_loop _, update_loop (knd := knd) (base := []) (more := more) (ys := ys) (A := A.in1) (l := l) hA ?_ (Ne.symm hId) (Ne.symm hld) (by simpa using hsz) _ 0 0 0 _ rfl (Nat.zero_le _) ⟨hit, hil⟩ hd1 (hp.keep fun b o c e => st _ _ (Heap.get?_push_of_some _ e)) fun h' tk' hd' hk' => ⟨rfl, h s.heap.objs.size h' tk' hd' (fun b o e => hk' b o ?_ ?_ (st _ _ (Heap.get?_push_of_some _ e))) fun b o e => Heap.lt_size e⟩⟩
  · intro q; subst q
    rw [hI0] at hl; cases hl
  · exact Nat.ne_of_lt (Heap.lt_size e)
  · intro q; subst q
    rw [hI0] at e; cases e
theorem call_update_pairs {d l : Addr} {ys : Array Value} {n : Nat} {base more : List (K × Value)} {Q : Value → Shared → Prop} {E : Value → Shared → Prop} (hA : A.handled = none) (hdl : d ≠ l) (hd : s.heap.DictOf knd d base) (hl : s.heap.get? l = some { cls := .type "list", dict := none, data := .seq ys n }) (hp : PairsH knd s.heap ys more)
    (hsz : base.length + more.length ≤ sizeLine) (h : ∀ h' tk, h'.DictOf knd d (merged base more) → (∀ b o, b ≠ d → s.heap.get? b = some o → h'.get? b = some o) → Q .none { s with heap := h', toks := tk }) :
    wpAny (model prog w) A (call (.builtin "dict.update") [.ref d, .ref l]) Q E s := by
  refine wpAny_call (codeAny_call_builtin F.slot_dict_update.plain F.entry_dict_update (F.slot_dict_update.check _ _ _ _ _ _ _ _ hd.typeIs (F.args_dict_update_2 _ _) ?_))
  unfold Builtin.«dict.update»
  refine wpAny_bind ?_
  unfold Builtin.Dict.selfAndRest
  refine wpAny_bind (wpAny_notOrdered_dict hd.typeIs ?_)
  show wpAny _ _ (pure (d, [Value.ref l])) _ _ s
  refine wpAny_pure ?_
  show wpAny _ _ (Builtin.Dict.updateFrom "dict.update" d (.ref l) [] .none) _ _ s
  obtain ⟨od, hod⟩ : ∃ o, s.heap.get? d = some o := let ⟨o, _, _, ho, _⟩ := hd; ⟨o, ho⟩
  refine updateFrom_pairs hl hA (fun I h₁ tk st hI hId hit hil => ?_) ⟨_, hod⟩
  have hd1 : h₁.DictOf knd d base := by
    obtain ⟨o, es, ep, ho, rest⟩ := hd
    exact ⟨o, es, ep, st _ _ ho, rest⟩
  refine ⟨plainId_quiet FF.plain_loop _, update_loop (knd := knd) (base := base) (more := more) (ys := ys) (l := l) hA ?_ (Ne.symm hId) hdl hsz _ 0 0 0 _ rfl (Nat.zero_le _) ⟨hit, hil⟩ hd1 (hp.keep fun b o c e => st _ _ e) fun h' tk' hd' hk' => h h' tk' hd' (fun b o n e => hk' b o n ?_ (st _ _ e))⟩
  · intro q; subst q
    rw [hI] at hl; cases hl
  · intro q; subst q
    rw [hI] at e; cases e
end

end
section
theorem kwo_Len0 : True := by
  k_with_none
  w_top off
  k_with "execs cons Assign cons" => (with_reducible refine seqN ?_); intro Qk1 nk1
  k_with "execs cons AugAssign cons" => (with_reducible refine seqN ?_); intro Qk1 nk1
  k_with "execs cons Expr cons" => (with_reducible refine seqN ?_); intro Qk1 nk1
  k_with "execs cons If cons" => (with_reducible refine seqQ ?_); intro Qk1 nk1 rk1
  k_with "execs cons For cons" => (with_reducible refine seqQ ?_); intro Qk1 nk1 rk1
  k_with "execs cons" => (with_reducible refine seq1 ?_)
  k_with "eval Constant int" => (with_reducible refine cInt ?_); intro tq1 kq1
  k_with "eval Constant str" => (with_reducible refine cStr ?_); intro tq1 kq1
  k_with "eval Name" => (k_here; k_dflt (refine' nameL ?Fn1 ?bn1 ?vn1 ?_; (case bn1 => decide +kernel); (case Fn1 => with_reducible assumption); (case vn1 => exact rfl); k_whole))
  exact trivial
section
variable {w : World} {A : Around} {g : Heap} {L d : Addr} {W : List (Addr × Obj)} {s : Shared} {Q E : Value → Shared → Prop}
theorem len0_K {od : Obj} (N : News g L s.heap W) (hm : (d, od) ∈ W) (hd : od.IsDictOf (SD w) []) (lo : (d == sysModules) = false) (h : Q (.int 0 (s.toks + 1)) { s with toks := s.toks + 1 + 1 }) : wpAny (model pg w) A (PySem.call (.builtin "len") [.ref d]) Q E s :=
  kda_len N hm hd lo (by decide) h
end

end
section
theorem kwo_Dcl : True := by
  k_with_none
  w_top off
  k_with "execs cons Assign cons" => (with_reducible refine seqN ?_); intro Qk1 nk1
  k_with "execs cons AugAssign cons" => (with_reducible refine seqN ?_); intro Qk1 nk1
  k_with "execs cons Expr cons" => (with_reducible refine seqN ?_); intro Qk1 nk1
  k_with "execs cons If cons" => (with_reducible refine seqQ ?_); intro Qk1 nk1 rk1
  k_with "execs cons For cons" => (with_reducible refine seqQ ?_); intro Qk1 nk1 rk1
  k_with "execs cons" => (with_reducible refine seq1 ?_)
  k_with "eval Constant int" => (with_reducible refine cInt ?_); intro tq1 kq1
  k_with "eval Constant str" => (with_reducible refine cStr ?_); intro tq1 kq1
  k_with "eval Name" => (k_here; k_dflt (refine' nameL ?Fn1 ?bn1 ?vn1 ?_; (case bn1 => decide +kernel); (case Fn1 => with_reducible assumption); (case vn1 => exact rfl); k_whole))
  exact trivial
theorem fillit41 (P : Params) : hd.heap_1 P = hd.heap_1 P ∧ PySem.Challenge.rw_pq0711_01 = PySem.Challenge.rw_pq0711_01 := by
  k_fill
  exact ⟨rfl, rfl⟩
section
variable {w : World} {fr : List Env} {S : Heap} {p : Program} {loose : List Str} {mean : ExcName → Option Value} {mg mb : Str → Option Value} {s : Shared} {Q E : Value → Shared → Prop}


theorem unhold' {p : Prop} (h : Hold p) : p := h
abbrev gK (dd : Addr) (h : Int) (t : Tok) (n : Nat) : Obj := dictOf [⟨h, .str (Str.ofString "decls") t, .ref dd⟩] n
abbrev gC (nm : Str) (pl fl : Addr) (sup ab : Value) (h1 h2 h3 h4 h5 h6 : Int) (t0 t1 t2 t3 t4 t5 t6 : Tok) (n : Nat) : Obj := dictOf [⟨h1, .str (Str.ofString "name") t1, .str nm t0⟩, ⟨h2, .str (Str.ofString "params") t2, .ref pl⟩, ⟨h3, .str (Str.ofString "super") t3, sup⟩, ⟨h4, .str (Str.ofString "is_abstract") t4, ab⟩, ⟨h5, .str (Str.ofString "is_mutable") t5, .bool false⟩, ⟨h6, .str (Str.ofString "fields") t6, .ref fl⟩] n
abbrev gN (s : Str) (t u : Tok) (e : Addr) : Obj := { cls := .type "tuple", data := .seq #[.str (Str.ofString "name") t, .str s u, .ref e] }
abbrev g0 : Obj := { cls := .type "tuple", data := .seq #[] }
def DclRet (w : World) (dd : Addr) (kvs : List (Str × Value)) (nm : Str) (b : Addr) (s : Shared) (Q : Value → Shared → Prop) : Prop :=
  ∀ od' h' tk', h'.get? dd = some od' → od'.IsDictOf (SD w) (stored kvs nm (.ref b)) → Kp [dd] s.heap h' → Q .none { s with heap := h', toks := tk' }
theorem kw_Dcl_1 : True := by
  k_with "call type:list cons nil" => (k_here; (with_reducible show wpAny _ _ (PySem.call (Value.type "list") [Value.ref _]) _ _ _); k_dflt (refine' list_copyKT ?k1Kw ?k2Kw ?k3Kw ?_ ?zKw; (case k1Kw => k_asm); (case k2Kw => k_asm); (case k3Kw => exact tupK (by k_asm) (by k_asm) (by k_is)); (case zKw => size_fits); k_whole); intro D'q c'q h'q F'q N'q l1q; (try k_lt l1q))
  exact trivial
theorem kw_Dcl_2 : True := by
  k_with "compareOp Eq ref ref" => (k_here; (with_reducible refine' eq_tv false ?raKw ?rbKw ?haKw ?hbKw ?huKw ?eKw ?_); (case raKw => k_dflt (repeat' (first | exact TV.none | exact TV.int _ _ | exact TV.str _ _ | refine' tup3 (News.get (by k_asm) (by k_mem)) ?_ ?_ ?_ | refine' tup0 (News.get (by k_asm) (by k_mem))  | refine' tup2 (News.get (by k_asm) (by k_mem)) ?_ ?_ | refine' tup1 (News.get (by k_asm) (by k_mem)) ?_ | refine' tup5 (News.get (by k_asm) (by k_mem)) ?_ ?_ ?_ ?_ ?_ | refine' tup3 (getK (by k_asm) (by k_asm) (by k_is)) ?_ ?_ ?_ | refine' tup0 (getK (by k_asm) (by k_asm) (by k_is))  | refine' tup2 (getK (by k_asm) (by k_asm) (by k_is)) ?_ ?_ | refine' tup1 (getK (by k_asm) (by k_asm) (by k_is)) ?_ | refine' tup5 (getK (by k_asm) (by k_asm) (by k_is)) ?_ ?_ ?_ ?_ ?_))); (case rbKw => k_dflt (repeat' (first | exact TV.none | exact TV.int _ _ | exact TV.str _ _ | refine' tup3 (News.get (by k_asm) (by k_mem)) ?_ ?_ ?_ | refine' tup0 (News.get (by k_asm) (by k_mem))  | refine' tup2 (News.get (by k_asm) (by k_mem)) ?_ ?_ | refine' tup1 (News.get (by k_asm) (by k_mem)) ?_ | refine' tup5 (News.get (by k_asm) (by k_mem)) ?_ ?_ ?_ ?_ ?_ | refine' tup3 (getK (by k_asm) (by k_asm) (by k_is)) ?_ ?_ ?_ | refine' tup0 (getK (by k_asm) (by k_asm) (by k_is))  | refine' tup2 (getK (by k_asm) (by k_asm) (by k_is)) ?_ ?_ | refine' tup1 (getK (by k_asm) (by k_asm) (by k_is)) ?_ | refine' tup5 (getK (by k_asm) (by k_asm) (by k_is)) ?_ ?_ ?_ ?_ ?_))); (case haKw => decide +kernel); (case hbKw => decide +kernel); (case huKw => exact Nat.le_of_ble_eq_true rfl); (case eKw => decide +kernel))
  exact trivial
theorem kw_Dcl_3 : True := by
  k_with "compareOp NotEq ref ref" => (k_here; (with_reducible refine' ne_tv true ?raKw ?rbKw ?haKw ?hbKw ?huKw ?eKw ?_); (case raKw => k_dflt (repeat' (first | exact TV.none | exact TV.int _ _ | exact TV.str _ _ | refine' tup3 (News.get (by k_asm) (by k_mem)) ?_ ?_ ?_ | refine' tup0 (News.get (by k_asm) (by k_mem))  | refine' tup2 (News.get (by k_asm) (by k_mem)) ?_ ?_ | refine' tup1 (News.get (by k_asm) (by k_mem)) ?_ | refine' tup5 (News.get (by k_asm) (by k_mem)) ?_ ?_ ?_ ?_ ?_ | refine' tup3 (getK (by k_asm) (by k_asm) (by k_is)) ?_ ?_ ?_ | refine' tup0 (getK (by k_asm) (by k_asm) (by k_is))  | refine' tup2 (getK (by k_asm) (by k_asm) (by k_is)) ?_ ?_ | refine' tup1 (getK (by k_asm) (by k_asm) (by k_is)) ?_ | refine' tup5 (getK (by k_asm) (by k_asm) (by k_is)) ?_ ?_ ?_ ?_ ?_))); (case rbKw => k_dflt (repeat' (first | exact TV.none | exact TV.int _ _ | exact TV.str _ _ | refine' tup3 (News.get (by k_asm) (by k_mem)) ?_ ?_ ?_ | refine' tup0 (News.get (by k_asm) (by k_mem))  | refine' tup2 (News.get (by k_asm) (by k_mem)) ?_ ?_ | refine' tup1 (News.get (by k_asm) (by k_mem)) ?_ | refine' tup5 (News.get (by k_asm) (by k_mem)) ?_ ?_ ?_ ?_ ?_ | refine' tup3 (getK (by k_asm) (by k_asm) (by k_is)) ?_ ?_ ?_ | refine' tup0 (getK (by k_asm) (by k_asm) (by k_is))  | refine' tup2 (getK (by k_asm) (by k_asm) (by k_is)) ?_ ?_ | refine' tup1 (getK (by k_asm) (by k_asm) (by k_is)) ?_ | refine' tup5 (getK (by k_asm) (by k_asm) (by k_is)) ?_ ?_ ?_ ?_ ?_))); (case haKw => decide +kernel); (case hbKw => decide +kernel); (case huKw => exact Nat.le_of_ble_eq_true rfl); (case eKw => decide +kernel))
  exact trivial
theorem kw_Dcl_4 : True := by
  k_with "eval ListComp" => (k_here; lcg_calm; k_dflt (refine LCg.ListComp_U (F₀ := by k_asm) (by with_unfolding_all rfl) (by decide) (by rfl) (by decide) (by rfl) ?_))
  exact trivial
theorem kw_Dcl_5 : True := by
  k_with "exec Assign cons ListComp" => (k_here; lcg_calm; k_dflt (refine LCg.Assign_ListComp_U (F₀ := by k_asm) (by rfl) (by with_unfolding_all rfl) (by with_unfolding_all rfl) (by decide) (by rfl) (by decide) (by rfl) (by rfl) (by rfl) ?_))
  exact trivial
theorem kw_Dcl_6 : True := by
  k_with "eval ListComp" => (k_here; lct_look; lcg_calm; k_dflt (refine LCt.ListComp_T (F₀ := by k_asm) (by with_unfolding_all rfl) (by decide) (by rfl) (by decide) (by rfl) ?_))
  exact trivial
theorem kw_Dcl_7 : True := by
  k_with "exec Assign cons ListComp" => (k_here; lct_look; lcg_calm; k_dflt (refine LCt.Assign_ListComp_T (F₀ := by k_asm) (by rfl) (by with_unfolding_all rfl) (by with_unfolding_all rfl) (by decide) (by rfl) (by decide) (by rfl) (by rfl) (by rfl) ?_))
  exact trivial
theorem kw_Dcl_8 : True := by
  k_with "CompSrc" => (k_here; k_dflt (refine LCg.CompSrc.ledger (by rfl) (by k_asm) (by k_asm) (by k_mem) (by first | size_fits | exact Nat.le_of_ble_eq_true rfl) ?_; intro g'q; lcg_lit))
  exact trivial
theorem freeVars_K {A : Around} {env : Env} {g : Heap} {L : Addr} {m : Str → Option Value} {W : List (Addr × Obj)} {a b : Addr} {t u : Tok} (hA : A.handled = none) (hfr : A.frames = some (env :: fr)) (hdp : A.depth ≤ 580) (hu : A.units ≤ 3700) (C : FrOk S (env :: fr) s.heap) (F : Fr g L s.heap m)
    (X : (hd.heap_1 w.params).In S) (T : Top p loose mean mg mb S) (N : News g L s.heap W) (m1 : (a, ({ cls := .type "tuple", data := .seq #[.str (Str.ofString "name") t, .str (Str.ofString "Any") u, .ref b] } : Obj)) ∈ W) (m2 : (b, ({ cls := .type "tuple", data := .seq #[] } : Obj)) ∈ W) (f1 : Off S (env :: fr) a) (f2 : Off S (env :: fr) b) (ord : @LT.lt Nat _ b a)
    (hret : ∀ l h' tk', Fr g L h' m → News g L h' ((l, listOf #[] 0) :: W) → AllNe l W → Q (.ref l) { s with heap := h', toks := tk' }) :
    wpAny (model pg w) A (PySem.call (.ref 133) [.ref a]) Q E s := by
  refine wpAny_up (A' := Ap 9 (env :: fr)) (freeVars_spec C X T (N.get m1) (N.get m2) f1 f2 ord ?_) hA hdp (fun l e => by cases e; exact hfr) rfl hu
  intro l h' tk' st e f
  obtain ⟨n1, n2⟩ := adds F N (fun p hp => ⟨st _ _ (N p hp).1, (N p hp).2⟩) l _ e f
  exact hret l h' tk' (F.keeps st) n1 n2
theorem kw_Dcl_9 : True := by
  k_with "call ref" => (k_here; (with_reducible show wpAny _ _ (PySem.call (Value.ref 133) _) _ _ _); k_dflt (refine' freeVars_K rfl rfl ?hdpKw ?huKw ?CKw ?FKw ?XKw ?TKw ?NKw ?m1Kw ?m2Kw ?f1Kw ?f2Kw ?ordKw ?_; (case hdpKw => exact Nat.le_of_ble_eq_true rfl); (case huKw => exact Nat.le_of_ble_eq_true rfl); (case FKw => k_asm); (case NKw => k_asm); (case m1Kw => k_mem); (case m2Kw => k_mem); (case CKw => exact site (by assumption) (by assumption) rfl rfl); (case XKw => assumption); (case TKw => assumption); (case f1Kw => exact off (by assumption) (by assumption) (by k_mem) rfl); (case f2Kw => exact off (by assumption) (by assumption) (by k_mem) rfl); (case ordKw => with_reducible assumption)); intro l'q h'q tk'q F'q N'q l1q; clear l1q)
  exact trivial
theorem kw_Dcl_10 : True := by
  k_with "CompSrcT" => (k_here; k_dflt (refine LCt.CompSrcT.ledger (by rfl) (by k_asm) (by k_asm) (by k_mem) (by first | size_fits | exact Nat.le_of_ble_eq_true rfl) ?_; intro g'q; lct_lit))
  exact trivial
theorem kw_Dcl_11 : True := by
  k_with "exec For Tuple Attribute cons nil" => (k_here; (rename Fr _ _ _ _ => lF'q); (with_reducible refine' For_nilK lF'q ?hhKw ?_ ?hsKw); (case hhKw => exact rfl); (case hsKw => (intro _; with_unfolding_all rfl)))
  exact trivial
theorem kw_Dcl_12 : True := by
  k_with "NilAt" => (k_dflt (refine NilAt.intro (by k_asm) (by k_asm) (by k_mem) ?_); intro h'q tk'q F'q N'q; (try dsimp only))
  exact trivial
theorem nilD_K {A : Around} {g : Heap} {L : Addr} {m : Str → Option Value} {W : List (Addr × Obj)} {l : Addr} {n : Nat} (hA : A.handled = none)
    (F : Fr g L s.heap m) (N : News g L s.heap W) (hm : (l, listOf #[] n) ∈ W) (hret : ∀ d od h' tk', od.IsDictOf (SD w) [] → Fr g L h' m → News g L h' ((d, od) :: W) → Q (.ref d) { s with heap := h', toks := tk' }) :
    wpAny (model pg w) A (PySem.call (.type "dict") [.ref l]) Q E s := by
  refine call_dict_pairs (knd := SD w) (more := []) hA (N.get hm) ⟨rfl, fun i k v e => by simp at e⟩ (Nat.zero_le _) fun d h' tk hd st hn => ?_
  obtain ⟨od, e, hod⟩ := Heap.dictOf_iff.mp hd
  have f : s.heap.get? d = none := by
    cases z : s.heap.get? d with
    | none => rfl
    | some o => exact absurd (hn _ _ z) (Nat.lt_irrefl _)
  obtain ⟨n1, n2⟩ := adds F N (fun p hp => ⟨st _ _ (N p hp).1, (N p hp).2⟩) d _ e f
  exact hret d od h' tk hod (F.keeps st) n1
theorem kw_Dcl_13 : True := by
  k_with "call type:dict" => (k_here; (with_reducible show wpAny _ _ (PySem.call (Value.type "dict") [Value.ref _]) _ _ _); k_dflt (refine' nilD_K rfl ?FKw ?NKw ?mKw ?_; (case FKw => k_asm); (case NKw => k_asm); (case mKw => k_mem)); intro d'q od'q h'q tk'q hE'q F'q N'q)
  exact trivial
theorem kw_Dcl_14 : True := by
  k_with "call builtin:len" => (k_here; (with_reducible refine' len0_K ?NKw ?mKw ?hdKw ?loKw ?_); (case NKw => k_asm); (case mKw => k_dflt k_mem); (case hdKw => with_reducible assumption); (case loKw => exact dict_low (by assumption) (site_new (by assumption) (by k_asm) (by k_dflt k_mem))))
  exact trivial

theorem kw_Dcl_15 : True := by
  k_with "compareOp In str ref" => (k_here; (first | refine kda_in (knd := PySem.strKind _ _) (by k_asm) (by k_mem) (by k_asm) (by assumption) (strKind_is _ _ _ _) true (by simp only [*]; rfl) ?_ | refine kda_in (knd := PySem.strKind _ _) (by k_asm) (by k_mem) (by k_asm) (by assumption) (strKind_is _ _ _ _) false (by simp only [*]; rfl) ?_); (try dsimp only))
  exact trivial
theorem kw_Dcl_16 : True := by
  k_with "compareOp NotIn str ref" => (k_here; (first | refine kdg_notin (knd := PySem.strKind _ _) (by k_asm) (by k_mem) (by k_asm) (by assumption) (strKind_is _ _ _ _) true (by simp only [*]; rfl) ?_ | refine kdg_notin (knd := PySem.strKind _ _) (by k_asm) (by k_mem) (by k_asm) (by assumption) (strKind_is _ _ _ _) false (by simp only [*]; rfl) ?_); (try dsimp only [Bool.not_true, Bool.not_false]))
  exact trivial
theorem kw_Dcl_17 : True := by
  k_with "subscriptTail" => (k_here; (with_reducible show wpAny _ _ (subscriptTail _ _ (Value.ref _) (Value.str _ _)) _ _ _); k_dflt (refine kba_turn (value' := PySem.Expr.Name (PySem.Str.ofString "_") ⟨0,0,0,0⟩) (fun _ => rfl) ?_; refine kda_item (knd := PySem.strKind _ _) (by k_asm) (by k_mem) (by k_asm) (strKind_is _ _ _ _) (by assumption) ?_); (try dsimp only))
  exact trivial

theorem subN {g h : Heap} {L : Addr} {W W' : List (Addr × Obj)} (N : News g L h W) (sub : ∀ p ∈ W', p ∈ W) : News g L h W' := fun p hp => N p (sub p hp)
theorem kw_Dcl_18 : True := by
  k_with "setItem ref str" => (k_here; refine hold ?_)
  exact trivial

theorem all_of {d : Addr} {W : List (Addr × Obj)} (h : ∀ x ∈ (W.map (·.1) : List Nat), x ≠ d) : ∀ p ∈ W, p.1 ≠ d := fun p hp => h _ (List.mem_map_of_mem (f := fun p : Addr × Obj => p.1) hp)
set_option maxHeartbeats 0 in
theorem declare_spec {k dk dd b db pl fl t e a da pla fla : Addr} {c1 c2 c3 : Nat} {od : Obj} {kvs : List (Str × Value)} {nm : Str} {kh : Int} {kt : Tok} {kn : Nat} {h1 h2 h3 h4 h5 h6 : Int} {t0 t1 t2 t3 t4 t5 t6 : Tok} {n : Nat} {v1 v2 : Tok} {i1 i2 i3 i4 i5 i6 : Int} {u0 u1 u2 u3 u4 u5 u6 : Tok} {m : Nat}
    (C : FrOk S fr s.heap) (X : (hd.heap_1 w.params).In S) (H0 : S.get? 0 = some (boot_o_0 w.params)) (H1 : S.get? 1 = some (boot_o_1 w.params)) (T : Top p loose mean mg mb S)
    (hW : ∀ p ∈ [(k, instObj 362 dk), (dk, gK dd kh kt kn), (dd, od), (b, instObj 273 db), (db, gC nm pl fl (.ref t) (.bool false) h1 h2 h3 h4 h5 h6 t0 t1 t2 t3 t4 t5 t6 n), (pl, listOf #[] c1), (fl, listOf #[] c2), (t, gN (Str.ofString "Any") v1 v2 e), (e, g0), (a, instObj 273 da), (da, gC (Str.ofString "Any") pla fla .none (.bool true) i1 i2 i3 i4 i5 i6 u0 u1 u2 u3 u4 u5 u6 m), (pla, listOf #[] c3)], s.heap.get? p.1 = some p.2) (hO : ∀ p ∈ [(k, instObj 362 dk), (dk, gK dd kh kt kn), (dd, od), (b, instObj 273 db), (db, gC nm pl fl (.ref t) (.bool false) h1 h2 h3 h4 h5 h6 t0 t1 t2 t3 t4 t5 t6 n), (pl, listOf #[] c1), (fl, listOf #[] c2), (t, gN (Str.ofString "Any") v1 v2 e), (e, g0), (a, instObj 273 da), (da, gC (Str.ofString "Any") pla fla .none (.bool true) i1 i2 i3 i4 i5 i6 u0 u1 u2 u3 u4 u5 u6 m), (pla, listOf #[] c3)], Off S fr p.1) (hdo : od.IsDictOf (SD w) kvs)
    (nk : k ≠ dd) (ndk : dk ≠ dd) (nr : ∀ x ∈ ([b, db, pl, fl, t, e, a, da, pla] : List Nat), x ≠ dd) (oet : @LT.lt Nat _ e t)
    (hv1 : valueAt kvs nm = none) (hv2 : valueAt kvs (Str.ofString "Any") = some (.ref a)) (hl : kvs.length ≤ 900) (hret : DclRet w dd kvs nm b s Q) :
    wpAny (model pg w) (Ap 3 fr) (PySem.call (.ref 296) [.ref k, .ref b]) Q E s := by
  have lo := dict_low H1 (hO (dd, od) (by k_mem)).1
  refine enterCT _ rfl C X T (by k_is) (by k_is) (show 460 < 1000 by decide) (BindsTo.of_eq (binds := [(Str.ofString "self", .ref k), (Str.ofString "decl", .ref b)]) rfl) (kindsX rfl) (by decide) hW (fun p hp => (hO p hp).1) (fun p hp => (hO p hp).2) rfl rfl rfl ?_
  intro Q₁ g L' h₁ tk cells env m₀ rq nq F N Y B Xg Tg hg sz lt fc
  have e1 : @LT.lt Nat _ k L' := lt (k, _) (by k_mem)
  have e2 : @LT.lt Nat _ dk L' := lt (dk, _) (by k_mem)
  have e3 : @LT.lt Nat _ dd L' := lt (dd, _) (by k_mem)
  have e4 : @LT.lt Nat _ b L' := lt (b, _) (by k_mem)
  have e5 : @LT.lt Nat _ db L' := lt (db, _) (by k_mem)
  have e6 : @LT.lt Nat _ pl L' := lt (pl, _) (by k_mem)
  have e7 : @LT.lt Nat _ fl L' := lt (fl, _) (by k_mem)
  have e8 : @LT.lt Nat _ t L' := lt (t, _) (by k_mem)
  have e9 : @LT.lt Nat _ e L' := lt (e, _) (by k_mem)
  have e10 : @LT.lt Nat _ a L' := lt (a, _) (by k_mem)
  have e11 : @LT.lt Nat _ da L' := lt (da, _) (by k_mem)
  have e12 : @LT.lt Nat _ pla L' := lt (pla, _) (by k_mem)
  have e13 : @LT.lt Nat _ k (L' + 1) := Nat.lt_succ_of_lt e1
  clear lt
  k_cells Y
  simp only [List.cons_append, List.nil_append] at N
  k_steps
  refine unhold' ?_
  rename Fr _ _ _ _ => Fx
  rename News _ _ _ _ => Nx
  have Nz := subN (W' := [(k, instObj 362 dk), (dk, gK dd kh kt kn), (dd, od), (b, instObj 273 db), (db, gC nm pl fl (.ref t) (.bool false) h1 h2 h3 h4 h5 h6 t0 t1 t2 t3 t4 t5 t6 n), (pl, listOf #[] c1), (fl, listOf #[] c2), (t, gN (Str.ofString "Any") v1 v2 e), (e, g0), (a, instObj 273 da), (da, gC (Str.ofString "Any") pla fla .none (.bool true) i1 i2 i3 i4 i5 i6 u0 u1 u2 u3 u4 u5 u6 m), (pla, listOf #[] c3)]) Nx (by lcg_sub)
  clear Nx
  refine kda_set (knd := PySem.strKind _ _) Fx Nz (updFT nk (updFT ndk (.head (all_of (W := [(b, _), (db, _), (pl, _), (fl, _), (t, _), (e, _), (a, _), (da, _), (pla, _)]) nr)))) hdo (strKind_is _ _ _ _) (Nat.le_trans hl (by rw [sizeLine_eq]; decide)) ?_
  clear Fx Nz
  intro h' o' F' N' hd'
  (try dsimp only at N')
  k_steps
  all_goals (try dsimp only)
  refine hret _ _ _ (News.get (by assumption) (by k_mem)) (by assumption) (kp_but (by assumption) (by assumption) hg hW ?_)
  repeat' (first | exact List.forall_mem_nil _ | refine List.forall_mem_cons.mpr ⟨?_, ?_⟩ | exact .inr (List.Mem.head _) | exact .inl (by k_mem))
end

end
section
theorem kwo_Whl : True := by
  k_with_none
  w_top off
  k_with "execs cons Assign cons" => (with_reducible refine seqN ?_); intro Qk1 nk1
  k_with "execs cons AugAssign cons" => (with_reducible refine seqN ?_); intro Qk1 nk1
  k_with "execs cons Expr cons" => (with_reducible refine seqN ?_); intro Qk1 nk1
  k_with "execs cons If cons" => (with_reducible refine seqQ ?_); intro Qk1 nk1 rk1
  k_with "execs cons For cons" => (with_reducible refine seqQ ?_); intro Qk1 nk1 rk1
  k_with "execs cons" => (with_reducible refine seq1 ?_)
  k_with "eval Constant int" => (with_reducible refine cInt ?_); intro tq1 kq1
  k_with "eval Constant str" => (with_reducible refine cStr ?_); intro tq1 kq1
  k_with "eval Name" => (k_here; k_dflt (refine' nameL ?Fn1 ?bn1 ?vn1 ?_; (case bn1 => decide +kernel); (case Fn1 => with_reducible assumption); (case vn1 => exact rfl); k_whole))
  exact trivial
theorem fillit42 (P : Params) : hd.heap_1 P = hd.heap_1 P ∧ PySem.Challenge.rw_pq0711_01 = PySem.Challenge.rw_pq0711_01 := by
  k_fill
  exact ⟨rfl, rfl⟩
section
variable {w : World} {fr : List Env} {S : Heap} {p : Program} {loose : List Str} {mean : ExcName → Option Value} {mg mb : Str → Option Value} {s : Shared} {Q E : Value → Shared → Prop}


theorem fresh_one {g h h₀ : Heap} {L t : Addr} {W W' : List (Addr × Obj)} {ot : Obj} (N : News g L h W') (hg : ∀ b o, h₀.get? b = some o → b ∉ W.map (·.1) → g.get? b = some o)
    (hW : ∀ p ∈ W, h₀.get? p.1 = some p.2) (sub : ∀ p ∈ W, p ∈ W') (m : (t, ot) ∈ W') (hc : ot.cls = .type "tuple") (hn : ∀ p ∈ W, p.2.cls ≠ .type "tuple") : h₀.get? t = none :=
  fresh_tup (W' := W') (ot := ot) (N := fun p hp => (List.mem_cons.mp hp).elim (fun e => e ▸ N _ m) (N p)) hg hW sub hc hn
theorem kw_Whl_1 : True := by
  k_with "call type:list cons nil" => (k_here; (with_reducible show wpAny _ _ (PySem.call (Value.type "list") [Value.ref _]) _ _ _); k_dflt (refine' list_copyKT ?k1Kw ?k2Kw ?k3Kw ?_ ?zKw; (case k1Kw => k_asm); (case k2Kw => k_asm); (case k3Kw => exact tupK (by k_asm) (by k_asm) (by k_is)); (case zKw => size_fits); k_whole); intro D'q c'q h'q F'q N'q l1q; (try k_lt l1q))
  exact trivial
theorem kw_Whl_2 : True := by
  k_with "compareOp Eq ref ref" => (k_here; (with_reducible refine' eq_tv false ?raKw ?rbKw ?haKw ?hbKw ?huKw ?eKw ?_); (case raKw => k_dflt (repeat' (first | exact TV.none | exact TV.int _ _ | exact TV.str _ _ | refine' tup3 (News.get (by k_asm) (by k_mem)) ?_ ?_ ?_ | refine' tup0 (News.get (by k_asm) (by k_mem))  | refine' tup2 (News.get (by k_asm) (by k_mem)) ?_ ?_ | refine' tup1 (News.get (by k_asm) (by k_mem)) ?_ | refine' tup5 (News.get (by k_asm) (by k_mem)) ?_ ?_ ?_ ?_ ?_ | refine' tup3 (getK (by k_asm) (by k_asm) (by k_is)) ?_ ?_ ?_ | refine' tup0 (getK (by k_asm) (by k_asm) (by k_is))  | refine' tup2 (getK (by k_asm) (by k_asm) (by k_is)) ?_ ?_ | refine' tup1 (getK (by k_asm) (by k_asm) (by k_is)) ?_ | refine' tup5 (getK (by k_asm) (by k_asm) (by k_is)) ?_ ?_ ?_ ?_ ?_))); (case rbKw => k_dflt (repeat' (first | exact TV.none | exact TV.int _ _ | exact TV.str _ _ | refine' tup3 (News.get (by k_asm) (by k_mem)) ?_ ?_ ?_ | refine' tup0 (News.get (by k_asm) (by k_mem))  | refine' tup2 (News.get (by k_asm) (by k_mem)) ?_ ?_ | refine' tup1 (News.get (by k_asm) (by k_mem)) ?_ | refine' tup5 (News.get (by k_asm) (by k_mem)) ?_ ?_ ?_ ?_ ?_ | refine' tup3 (getK (by k_asm) (by k_asm) (by k_is)) ?_ ?_ ?_ | refine' tup0 (getK (by k_asm) (by k_asm) (by k_is))  | refine' tup2 (getK (by k_asm) (by k_asm) (by k_is)) ?_ ?_ | refine' tup1 (getK (by k_asm) (by k_asm) (by k_is)) ?_ | refine' tup5 (getK (by k_asm) (by k_asm) (by k_is)) ?_ ?_ ?_ ?_ ?_))); (case haKw => decide +kernel); (case hbKw => decide +kernel); (case huKw => exact Nat.le_of_ble_eq_true rfl); (case eKw => decide +kernel))
  exact trivial
theorem kw_Whl_3 : True := by
  k_with "compareOp NotEq ref ref" => (k_here; (with_reducible refine' ne_tv true ?raKw ?rbKw ?haKw ?hbKw ?huKw ?eKw ?_); (case raKw => k_dflt (repeat' (first | exact TV.none | exact TV.int _ _ | exact TV.str _ _ | refine' tup3 (News.get (by k_asm) (by k_mem)) ?_ ?_ ?_ | refine' tup0 (News.get (by k_asm) (by k_mem))  | refine' tup2 (News.get (by k_asm) (by k_mem)) ?_ ?_ | refine' tup1 (News.get (by k_asm) (by k_mem)) ?_ | refine' tup5 (News.get (by k_asm) (by k_mem)) ?_ ?_ ?_ ?_ ?_ | refine' tup3 (getK (by k_asm) (by k_asm) (by k_is)) ?_ ?_ ?_ | refine' tup0 (getK (by k_asm) (by k_asm) (by k_is))  | refine' tup2 (getK (by k_asm) (by k_asm) (by k_is)) ?_ ?_ | refine' tup1 (getK (by k_asm) (by k_asm) (by k_is)) ?_ | refine' tup5 (getK (by k_asm) (by k_asm) (by k_is)) ?_ ?_ ?_ ?_ ?_))); (case rbKw => k_dflt (repeat' (first | exact TV.none | exact TV.int _ _ | exact TV.str _ _ | refine' tup3 (News.get (by k_asm) (by k_mem)) ?_ ?_ ?_ | refine' tup0 (News.get (by k_asm) (by k_mem))  | refine' tup2 (News.get (by k_asm) (by k_mem)) ?_ ?_ | refine' tup1 (News.get (by k_asm) (by k_mem)) ?_ | refine' tup5 (News.get (by k_asm) (by k_mem)) ?_ ?_ ?_ ?_ ?_ | refine' tup3 (getK (by k_asm) (by k_asm) (by k_is)) ?_ ?_ ?_ | refine' tup0 (getK (by k_asm) (by k_asm) (by k_is))  | refine' tup2 (getK (by k_asm) (by k_asm) (by k_is)) ?_ ?_ | refine' tup1 (getK (by k_asm) (by k_asm) (by k_is)) ?_ | refine' tup5 (getK (by k_asm) (by k_asm) (by k_is)) ?_ ?_ ?_ ?_ ?_))); (case haKw => decide +kernel); (case hbKw => decide +kernel); (case huKw => exact Nat.le_of_ble_eq_true rfl); (case eKw => decide +kernel))
  exact trivial
theorem kw_Whl_4 : True := by
  k_with "eval ListComp" => (k_here; lcg_calm; k_dflt (refine LCg.ListComp_U (F₀ := by k_asm) (by with_unfolding_all rfl) (by decide) (by rfl) (by decide) (by rfl) ?_))
  exact trivial
theorem kw_Whl_5 : True := by
  k_with "exec Assign cons ListComp" => (k_here; lcg_calm; k_dflt (refine LCg.Assign_ListComp_U (F₀ := by k_asm) (by rfl) (by with_unfolding_all rfl) (by with_unfolding_all rfl) (by decide) (by rfl) (by decide) (by rfl) (by rfl) (by rfl) ?_))
  exact trivial
theorem kw_Whl_6 : True := by
  k_with "eval ListComp" => (k_here; lct_look; lcg_calm; k_dflt (refine LCt.ListComp_T (F₀ := by k_asm) (by with_unfolding_all rfl) (by decide) (by rfl) (by decide) (by rfl) ?_))
  exact trivial
theorem kw_Whl_7 : True := by
  k_with "exec Assign cons ListComp" => (k_here; lct_look; lcg_calm; k_dflt (refine LCt.Assign_ListComp_T (F₀ := by k_asm) (by rfl) (by with_unfolding_all rfl) (by with_unfolding_all rfl) (by decide) (by rfl) (by decide) (by rfl) (by rfl) (by rfl) ?_))
  exact trivial
theorem kw_Whl_8 : True := by
  k_with "CompSrc" => (k_here; k_dflt (refine LCg.CompSrc.ledger (by rfl) (by k_asm) (by k_asm) (by k_mem) (by first | size_fits | exact Nat.le_of_ble_eq_true rfl) ?_; intro g'q; lcg_lit))
  exact trivial
theorem kw_Whl_9 : True := by
  k_with "CompSrcT" => (k_here; k_dflt (refine LCt.CompSrcT.ledger (by rfl) (by k_asm) (by k_asm) (by k_mem) (by first | size_fits | exact Nat.le_of_ble_eq_true rfl) ?_; intro g'q; lct_lit))
  exact trivial
theorem kw_Whl_10 : True := by
  k_with "exec For Tuple Attribute cons nil" => (k_here; (rename Fr _ _ _ _ => lF'q); (with_reducible refine' For_nilK lF'q ?hhKw ?_ ?hsKw); (case hhKw => exact rfl); (case hsKw => (intro _; with_unfolding_all rfl)))
  exact trivial
theorem kw_Whl_11 : True := by
  k_with "NilAt" => (k_dflt (refine NilAt.intro (by k_asm) (by k_asm) (by k_mem) ?_); intro h'q tk'q F'q N'q; (try dsimp only))
  exact trivial


theorem kw_Whl_12 : True := by
  k_with "compareOp In str ref" => (k_here; (first | refine kda_in (knd := PySem.strKind _ _) (by k_asm) (by k_mem) (by k_asm) (by assumption) (strKind_is _ _ _ _) true (by simp only [*]; rfl) ?_ | refine kda_in (knd := PySem.strKind _ _) (by k_asm) (by k_mem) (by k_asm) (by assumption) (strKind_is _ _ _ _) false (by simp only [*]; rfl) ?_); (try dsimp only))
  exact trivial
theorem kw_Whl_13 : True := by
  k_with "compareOp NotIn str ref" => (k_here; (first | refine kdg_notin (knd := PySem.strKind _ _) (by k_asm) (by k_mem) (by k_asm) (by assumption) (strKind_is _ _ _ _) true (by simp only [*]; rfl) ?_ | refine kdg_notin (knd := PySem.strKind _ _) (by k_asm) (by k_mem) (by k_asm) (by assumption) (strKind_is _ _ _ _) false (by simp only [*]; rfl) ?_); (try dsimp only [Bool.not_true, Bool.not_false]))
  exact trivial
theorem kw_Whl_14 : True := by
  k_with "subscriptTail" => (k_here; (with_reducible show wpAny _ _ (subscriptTail _ _ (Value.ref _) (Value.str _ _)) _ _ _); k_dflt (refine kba_turn (value' := PySem.Expr.Name (PySem.Str.ofString "_") ⟨0,0,0,0⟩) (fun _ => rfl) ?_; refine kda_item (knd := PySem.strKind _ _) (by k_asm) (by k_mem) (by k_asm) (strKind_is _ _ _ _) (by assumption) ?_); (try dsimp only))
  exact trivial


theorem kw_Whl_15 : True := by
  k_with "exec For Tuple Subscript cons nil" => (k_here; (rename Fr _ _ _ _ => lF'q); (with_reducible refine' For_nilK lF'q ?hhKw ?_ ?hsKw); (case hhKw => exact rfl); (case hsKw => (intro _; with_unfolding_all rfl)))
  exact trivial
def WhlRet (nm : Str) (z : Addr) (s : Shared) (Q : Value → Shared → Prop) : Prop :=
  ∀ t za u v h' tk', h'.get? t = some (gN nm u v za) → h'.get? za = some g0 → s.heap.get? t = none → s.heap.get? za = none → s.heap.StaysIn h' → @LT.lt Nat _ z t → @LT.lt Nat _ z za → Q (.ref t) { s with heap := h', toks := tk' }
set_option maxHeartbeats 0 in
theorem whole_spec {k dk dd b db pl fl z : Addr} {c1 : Nat} {oz : Obj} {od : Obj} {kvs : List (Str × Value)} {nm : Str} {tkn : Tok} {kh : Int} {kt : Tok} {kn : Nat} {sup ab : Value} {h1 h2 h3 h4 h5 h6 : Int} {t0 t1 t2 t3 t4 t5 t6 : Tok} {n : Nat}
    (C : FrOk S fr s.heap) (X : (hd.heap_1 w.params).In S) (H0 : S.get? 0 = some (boot_o_0 w.params)) (H1 : S.get? 1 = some (boot_o_1 w.params)) (T : Top p loose mean mg mb S)
    (q1 : s.heap.get? k = some (instObj 362 dk)) (q2 : s.heap.get? dk = some (gK dd kh kt kn)) (q3 : s.heap.get? dd = some od) (hdo : od.IsDictOf (SD w) kvs)
    (q4 : s.heap.get? b = some (instObj 273 db)) (q5 : s.heap.get? db = some (gC nm pl fl sup ab h1 h2 h3 h4 h5 h6 t0 t1 t2 t3 t4 t5 t6 n)) (q6 : s.heap.get? pl = some (listOf #[] c1)) (q7 : s.heap.get? z = some oz) (hz : oz.cls ≠ .type "tuple")
    (f1 : Off S fr k) (f2 : Off S fr dk) (f3 : Off S fr dd) (f4 : Off S fr b) (f5 : Off S fr db) (f6 : Off S fr pl) (f7 : Off S fr z)
    (hv : valueAt kvs nm = some (.ref b)) (hret : WhlRet nm z s Q) :
    wpAny (model pg w) (Ap 4 fr) (PySem.call (.ref 352) [.ref k, .str nm tkn]) Q E s := by
  have lo := dict_low H1 f3.1
  have hW : ∀ p ∈ [(k, instObj 362 dk), (dk, gK dd kh kt kn), (dd, od), (b, instObj 273 db), (db, gC nm pl fl sup ab h1 h2 h3 h4 h5 h6 t0 t1 t2 t3 t4 t5 t6 n), (pl, listOf #[] c1), (z, oz)], s.heap.get? p.1 = some p.2 :=
    List.forall_mem_cons.mpr ⟨q1, List.forall_mem_cons.mpr ⟨q2, List.forall_mem_cons.mpr ⟨q3, List.forall_mem_cons.mpr ⟨q4, List.forall_mem_cons.mpr ⟨q5, List.forall_mem_cons.mpr ⟨q6, List.forall_mem_cons.mpr ⟨q7, List.forall_mem_nil _⟩⟩⟩⟩⟩⟩⟩
  have hn : ∀ p ∈ [(k, instObj 362 dk), (dk, gK dd kh kt kn), (dd, od), (b, instObj 273 db), (db, gC nm pl fl sup ab h1 h2 h3 h4 h5 h6 t0 t1 t2 t3 t4 t5 t6 n), (pl, listOf #[] c1), (z, oz)], p.2.cls ≠ .type "tuple" :=
    List.forall_mem_cons.mpr ⟨nofun, List.forall_mem_cons.mpr ⟨(show Value.type "dict" ≠ Value.type "tuple" from by decide), List.forall_mem_cons.mpr ⟨dict_cls hdo, List.forall_mem_cons.mpr ⟨nofun, List.forall_mem_cons.mpr ⟨(show Value.type "dict" ≠ Value.type "tuple" from by decide), List.forall_mem_cons.mpr ⟨(show Value.type "list" ≠ Value.type "tuple" from by decide), List.forall_mem_cons.mpr ⟨hz, List.forall_mem_nil _⟩⟩⟩⟩⟩⟩⟩
  refine enterT' _ rfl C X T (by k_is) (by k_is) (show 480 < 1000 by decide) (BindsTo.of_eq (binds := [(Str.ofString "self", .ref k), (Str.ofString "name", .str nm tkn)]) rfl) (locs rfl) hW ?_ ?_ (by decide) rfl rfl rfl ?_
  · exact List.forall_mem_cons.mpr ⟨f1.1, List.forall_mem_cons.mpr ⟨f2.1, List.forall_mem_cons.mpr ⟨f3.1, List.forall_mem_cons.mpr ⟨f4.1, List.forall_mem_cons.mpr ⟨f5.1, List.forall_mem_cons.mpr ⟨f6.1, List.forall_mem_cons.mpr ⟨f7.1, List.forall_mem_nil _⟩⟩⟩⟩⟩⟩⟩
  · exact List.forall_mem_cons.mpr ⟨f1.2, List.forall_mem_cons.mpr ⟨f2.2, List.forall_mem_cons.mpr ⟨f3.2, List.forall_mem_cons.mpr ⟨f4.2, List.forall_mem_cons.mpr ⟨f5.2, List.forall_mem_cons.mpr ⟨f6.2, List.forall_mem_cons.mpr ⟨f7.2, List.forall_mem_nil _⟩⟩⟩⟩⟩⟩⟩
  intro Q₁ g L' h₁ tk₀ env m₀ rq nq F N B Xg Tg hg sz
  have c1 : @LT.lt Nat _ k L' := Nat.lt_of_lt_of_le (Heap.lt_size q1) sz
  have c2 : @LT.lt Nat _ dk L' := Nat.lt_of_lt_of_le (Heap.lt_size q2) sz
  have c3 : @LT.lt Nat _ dd L' := Nat.lt_of_lt_of_le (Heap.lt_size q3) sz
  have c4 : @LT.lt Nat _ b L' := Nat.lt_of_lt_of_le (Heap.lt_size q4) sz
  have c5 : @LT.lt Nat _ db L' := Nat.lt_of_lt_of_le (Heap.lt_size q5) sz
  have c6 : @LT.lt Nat _ pl L' := Nat.lt_of_lt_of_le (Heap.lt_size q6) sz
  k_steps
  all_goals (try dsimp only)
  rename Fr _ _ _ _ => Fz
  rename News _ _ _ _ => Nz
  have st := kp_ro Fz Nz hg hW (by lcg_sub)
  exact hret _ _ _ _ _ _ (Nz.get (by k_mem)) (Nz.get (by k_mem)) (fresh_one Nz hg hW (by lcg_sub) (by k_mem) rfl hn) (fresh_one Nz hg hW (by lcg_sub) (by k_mem) rfl hn) st (by omega) (by omega)
end

end
section
theorem kwo_Kin : True := by
  k_with_none
  w_top off
  k_with "execs cons Assign cons" => (with_reducible refine seqN ?_); intro Qk1 nk1
  k_with "execs cons AugAssign cons" => (with_reducible refine seqN ?_); intro Qk1 nk1
  k_with "execs cons Expr cons" => (with_reducible refine seqN ?_); intro Qk1 nk1
  k_with "execs cons If cons" => (with_reducible refine seqQ ?_); intro Qk1 nk1 rk1
  k_with "execs cons For cons" => (with_reducible refine seqQ ?_); intro Qk1 nk1 rk1
  k_with "execs cons" => (with_reducible refine seq1 ?_)
  k_with "eval Constant int" => (with_reducible refine cInt ?_); intro tq1 kq1
  k_with "eval Constant str" => (with_reducible refine cStr ?_); intro tq1 kq1
  k_with "eval Name" => (k_here; k_dflt (refine' nameL ?Fn1 ?bn1 ?vn1 ?_; (case bn1 => decide +kernel); (case Fn1 => with_reducible assumption); (case vn1 => exact rfl); k_whole))
  exact trivial
theorem fillit71 (P : Params) : hd.heap_1 P = hd.heap_1 P ∧ PySem.Challenge.rw_pq0711_01 = PySem.Challenge.rw_pq0711_01 := by
  k_fill
  exact ⟨rfl, rfl⟩
/-! calls that make a value of tuples and change nothing -/
def TvRet (d : PyData) (s : Shared) (Q : Value → Shared → Prop) : Prop := ∀ r h' tk', s.heap.StaysIn h' → TV h' r d → r ≠ .none → Q r { s with heap := h', toks := tk' }
section
variable {w : World} {fr : List Env} {S : Heap} {p : Program} {loose : List Str} {mean : ExcName → Option Value} {mg mb : Str → Option Value} {s : Shared} {Q E : Value → Shared → Prop}
theorem st0 {g h h₀ : Heap} {L : Addr} {m : Str → Option Value} (F : Fr g L h m) (hg : ∀ b o, h₀.get? b = some o → b ∉ ([] : List (Addr × Obj)).map (·.1) → g.get? b = some o) : h₀.StaysIn h := fun b o e => F.keep b o (hg b o e (fun q => nomatch q))
theorem kw_Kin_1 : True := by
  k_with "call type:tuple" => (k_here; (with_reducible show wpAny _ _ (PySem.call (Value.type "tuple") [Value.ref _]) _ _ _); k_dflt (refine call_tuple_tup (tupK (by k_asm) (by k_asm) (by k_is)) ?_))
  exact trivial
theorem kw_Kin_2 : True := by
  k_with "call type:tuple" => (k_here; (with_reducible show wpAny _ _ (PySem.call (Value.type "tuple") [Value.ref _]) _ _ _); k_dflt (refine call_tuple_tup (News.isTup (by k_asm) (by k_mem)) ?_))
  exact trivial
theorem kw_Kin_3 : True := by
  k_with "newTuple" => (k_here; k_dflt (refine' kup_newTuple ?FKw ?NKw ?_ ?zKw; (case FKw => k_asm); (case NKw => k_asm); (case zKw => kmk_size)); intro D'q h'q F'q N'q l1q; clear l1q; (try k_sweep))
  exact trivial
theorem kw_Kin_4 : True := by
  k_with "tvs" => repeat' (first | exact TV.none | exact TV.int _ _ | exact TV.str _ _ | refine' tup3 (News.get (by with_reducible assumption) (by k_mem)) ?_ ?_ ?_ | refine' tup0 (News.get (by with_reducible assumption) (by k_mem)) | refine' tup2 (News.get (by with_reducible assumption) (by k_mem)) ?_ ?_ | refine' tup1 (News.get (by with_reducible assumption) (by k_mem)) ?_ | refine' tup5 (News.get (by with_reducible assumption) (by k_mem)) ?_ ?_ ?_ ?_ ?_ | refine' tup3 (getK (by with_reducible assumption) (by with_reducible assumption) (by k_is)) ?_ ?_ ?_ | refine' tup0 (getK (by with_reducible assumption) (by with_reducible assumption) (by k_is)) | refine' tup1 (getK (by with_reducible assumption) (by with_reducible assumption) (by k_is)) ?_)
  exact trivial
set_option maxHeartbeats 0 in
theorem named_spec {nm : Str} {t : Tok} (C : FrOk S fr s.heap) (X : (hd.heap_1 w.params).In S) (T : Top p loose mean mg mb S) (hret : TvRet (.tuple [.str (Str.ofString "name"), .str nm, .tuple []]) s Q) :
    wpAny (model pg w) (Ap 4 fr) (PySem.call (.ref 113) [.str nm t]) Q E s := by
  refine enterT [] rfl C X T (by k_is) (by k_is) (show 480 < 1000 by decide) (binds_K (binds := [(Str.ofString "name", .str nm t), (Str.ofString "params", .ref 105)]) (X.keeps fun b o e => C.st b o e) rfl (by k_is) rfl rfl rfl) (locs rfl) (List.forall_mem_nil _) (List.forall_mem_nil _) (List.forall_mem_nil _) (by decide) rfl rfl rfl ?_
  intro Q₁ g L' h₁ tk₀ env m₀ rq nq F N B Xg Tg hg
  k_steps
  rename Fr _ _ _ _ => Fz
  rename News _ _ _ _ => Nz
  exact hret _ _ _ (st0 Fz hg) (by walk_at "tvs") nofun
set_option maxHeartbeats 0 in
theorem tuple_of_spec {a b : Addr} {d : PyData} (C : FrOk S fr s.heap) (X : (hd.heap_1 w.params).In S) (T : Top p loose mean mg mb S) (ha : s.heap.get? a = some g0) (f1 : Off S fr a) (hb : ∀ h, (hd.heap_1 w.params).In h → TV h (.ref b) d) (hret : TvRet (.tuple [.str (Str.ofString "tuple"), .tuple [], d]) s Q) :
    wpAny (model pg w) (Ap 4 fr) (PySem.call (.ref 121) [.ref a, .ref b]) Q E s := by
  have hW : ∀ p ∈ [(a, g0)], s.heap.get? p.1 = some p.2 := List.forall_mem_cons.mpr ⟨ha, List.forall_mem_nil _⟩
  refine enterT [(a, g0)] rfl C X T (by k_is) (by k_is) (show 480 < 1000 by decide) (binds_K (binds := [(Str.ofString "kinds", .ref a), (Str.ofString "rest", .ref b)]) (X.keeps fun b o e => C.st b o e) rfl (by k_is) rfl rfl rfl) (locs rfl) hW (List.forall_mem_cons.mpr ⟨f1.1, List.forall_mem_nil _⟩) (List.forall_mem_cons.mpr ⟨f1.2, List.forall_mem_nil _⟩) (by decide) rfl rfl rfl ?_
  intro Q₁ g L' h₁ tk₀ env m₀ rq nq F N B Xg Tg hg
  k_steps
  rename Fr _ _ _ _ => Fz
  rename News _ _ _ _ => Nz
  exact hret _ _ _ (kp_ro Fz Nz hg hW (List.forall_mem_cons.mpr ⟨by k_mem, List.forall_mem_nil _⟩)) (tup3 (Nz.get (.head _)) (TV.str _ _) (tup0 (Nz.get (.tail _ (.head _)))) (hb _ (Xg.keeps Fz.keep))) nofun
set_option maxHeartbeats 0 in
theorem rank_kind_spec {nm : Str} {i : Int} {t u : Tok} (C : FrOk S fr s.heap) (X : (hd.heap_1 w.params).In S) (T : Top p loose mean mg mb S)
    (hret : TvRet (.tuple [.str (Str.ofString "all"), .str nm, .tuple [.str (Str.ofString "bottom")], .tuple [.str (Str.ofString "name"), .str (Str.ofString "Any"), .tuple []], .tuple [.str (Str.ofString "name"), .str (Str.ofString "Array"), .tuple [.tuple [.str (Str.ofString "var"), .str nm], .tuple [.str (Str.ofString "n"), .int i]]]]) s Q) :
    wpAny (model pg w) (Ap 4 fr) (PySem.call (.ref 153) [.int i u, .str nm t]) Q E s := by
  refine enterT [] rfl C X T (by k_is) (by k_is) (show 480 < 1000 by decide) (BindsTo.of_eq (binds := [(Str.ofString "rank", .int i u), (Str.ofString "variable", .str nm t)]) rfl) (locs rfl) (List.forall_mem_nil _) (List.forall_mem_nil _) (List.forall_mem_nil _) (by decide) rfl rfl rfl ?_
  intro Q₁ g L' h₁ tk₀ env m₀ rq nq F N B Xg Tg hg
  k_steps
  rename Fr _ _ _ _ => Fz
  rename News _ _ _ _ => Nz
  exact hret _ _ _ (st0 Fz hg) (by walk_at "tvs") nofun
end

end
section
theorem kwo_Vst : True := by
  k_with_none
  w_top off
  k_with "execs cons Assign cons" => (with_reducible refine seqN ?_); intro Qk1 nk1
  k_with "execs cons AugAssign cons" => (with_reducible refine seqN ?_); intro Qk1 nk1
  k_with "execs cons Expr cons" => (with_reducible refine seqN ?_); intro Qk1 nk1
  k_with "execs cons If cons" => (with_reducible refine seqQ ?_); intro Qk1 nk1 rk1
  k_with "execs cons For cons" => (with_reducible refine seqQ ?_); intro Qk1 nk1 rk1
  k_with "execs cons" => (with_reducible refine seq1 ?_)
  k_with "eval Constant int" => (with_reducible refine cInt ?_); intro tq1 kq1
  k_with "eval Constant str" => (with_reducible refine cStr ?_); intro tq1 kq1
  k_with "eval Name" => (k_here; k_dflt (refine' nameL ?Fn1 ?bn1 ?vn1 ?_; (case bn1 => decide +kernel); (case Fn1 => with_reducible assumption); (case vn1 => exact rfl); k_whole))
  exact trivial
/-! what a dict holds behind a store -/
section
variable {K : Type} [DecidableEq K]
theorem va_cons (a : K × Value) (t : List (K × Value)) (x : K) : valueAt (a :: t) x = if a.1 = x then some a.2 else valueAt t x := by
  unfold valueAt
  rw [List.find?_cons]
  by_cases q : a.1 = x <;> simp [q]
theorem va_map (k x : K) (v : Value) (n : k ≠ x) : ∀ t : List (K × Value), valueAt (t.map fun kv => if kv.1 = k then (kv.1, v) else kv) x = valueAt t x
  | [] => rfl
  | a :: t => by
    rw [List.map_cons, va_cons, va_cons, va_map k x v n t]
    by_cases q : a.1 = k
    · rw [if_pos q]
      have : ¬ a.1 = x := fun e => n (q.symm.trans e)
      rw [if_neg this, if_neg this]
    · rw [if_neg q]
theorem va_map_same (k : K) (v : Value) : ∀ t : List (K × Value), t.any (fun kv => kv.1 = k) = true → valueAt (t.map fun kv => if kv.1 = k then (kv.1, v) else kv) k = some v
  | [], h => by simp at h
  | a :: t, h => by
    rw [List.map_cons, va_cons]
    by_cases q : a.1 = k
    · rw [if_pos q, if_pos q]
    · rw [if_neg q, if_neg q]
      refine va_map_same k v t ?_
      simpa [q] using h
theorem va_append (k x : K) (v : Value) : ∀ t : List (K × Value), valueAt (t ++ [(k, v)]) x = match valueAt t x with | some r => some r | none => if k = x then some v else none
  | [] => by rw [List.nil_append, va_cons]; rfl
  | a :: t => by
    rw [List.cons_append, va_cons, va_cons, va_append k x v t]
    by_cases q : a.1 = x
    · rw [if_pos q, if_pos q]
    · rw [if_neg q, if_neg q]
theorem vs_same {kvs : List (K × Value)} {k : K} {v : Value} : valueAt (stored kvs k v) k = some v := by
  unfold stored
  by_cases h : kvs.any (fun kv => kv.1 = k) = true
  · rw [if_pos h]; exact va_map_same k v kvs h
  · rw [if_neg h, va_append]
    have : valueAt kvs k = none := by
      have e := valueAt_isSome_eq_any kvs k
      cases q : valueAt kvs k with
      | none => rfl
      | some r => rw [q] at e; exact absurd e.symm h
    rw [this, if_pos rfl]
theorem vs_skip {kvs : List (K × Value)} {k x : K} {v : Value} (n : k ≠ x) : valueAt (stored kvs k v) x = valueAt kvs x := by
  unfold stored
  by_cases h : kvs.any (fun kv => kv.1 = k) = true
  · rw [if_pos h]; exact va_map k x v n kvs
  · rw [if_neg h, va_append]
    cases valueAt kvs x with
    | some r => rfl
    | none => exact if_neg n
theorem vs_at {kvs : List (K × Value)} {k x : K} {v : Value} {r : Option Value} (n : k ≠ x) (h : valueAt kvs x = r) : valueAt (stored kvs k v) x = r := (vs_skip n).trans h
theorem vs_or {kvs : List (K × Value)} {k x : K} {v r : Value} (h : valueAt (stored kvs k v) x = some r) : (k = x ∧ r = v) ∨ (k ≠ x ∧ valueAt kvs x = some r) := by
  by_cases q : k = x
  · subst q
    rw [vs_same] at h
    exact .inl ⟨rfl, (Option.some.inj h).symm⟩
  · rw [vs_skip q] at h
    exact .inr ⟨q, h⟩
theorem stored_keys (kvs : List (K × Value)) (k : K) (v : Value) : (stored kvs k v).map (·.1) = if kvs.any (fun kv => kv.1 = k) then kvs.map (·.1) else kvs.map (·.1) ++ [k] := by
  unfold stored
  by_cases h : kvs.any (fun kv => kv.1 = k) = true
  · rw [if_pos h, if_pos h, List.map_map]
    refine List.map_congr_left fun x _ => ?_
    show (if x.1 = k then (x.1, v) else x).1 = x.1
    split <;> rfl
  · rw [if_neg h, if_neg h, List.map_append]; rfl
theorem stored_len_mono (kvs : List (K × Value)) (k : K) (v : Value) : kvs.length ≤ (stored kvs k v).length := by
  unfold stored
  split
  · rw [List.length_map]; exact Nat.le_refl _
  · rw [List.length_append]; exact Nat.le_add_right _ _
/-! a dict that was stored to at most so many times -/
inductive Few {K : Type} [DecidableEq K] : List (K × Value) → Nat → Prop
  | nil {n} : Few [] n
  | cons {l k v n} : Few l n → Few (stored l k v) (n + 1)
theorem stored_few {K : Type} [DecidableEq K] {l : List (K × Value)} {n : Nat} (h : Few l n) : l.length ≤ n := by
  induction h with
  | nil => exact Nat.zero_le _
  | cons _ ih => exact Nat.le_trans (stored_length_le _ _ _) (Nat.add_le_add_right ih 1)
theorem few_le {K : Type} [DecidableEq K] {l : List (K × Value)} (h : Few l 20) : l.length ≤ sizeLine := Nat.le_trans (stored_few h) (by rw [sizeLine_eq]; decide)
end

end
section
theorem kwo_Dfr : True := by
  k_with_none
  w_top off
  k_with "execs cons Assign cons" => (with_reducible refine seqN ?_); intro Qk1 nk1
  k_with "execs cons AugAssign cons" => (with_reducible refine seqN ?_); intro Qk1 nk1
  k_with "execs cons Expr cons" => (with_reducible refine seqN ?_); intro Qk1 nk1
  k_with "execs cons If cons" => (with_reducible refine seqQ ?_); intro Qk1 nk1 rk1
  k_with "execs cons For cons" => (with_reducible refine seqQ ?_); intro Qk1 nk1 rk1
  k_with "execs cons" => (with_reducible refine seq1 ?_)
  k_with "eval Constant int" => (with_reducible refine cInt ?_); intro tq1 kq1
  k_with "eval Constant str" => (with_reducible refine cStr ?_); intro tq1 kq1
  k_with "eval Name" => (k_here; k_dflt (refine' nameL ?Fn1 ?bn1 ?vn1 ?_; (case bn1 => decide +kernel); (case Fn1 => with_reducible assumption); (case vn1 => exact rfl); k_whole))
  exact trivial
theorem fillit9 (P : Params) : hd.heap_1 P = hd.heap_1 P ∧ PySem.Challenge.rw_pq0711_01 = PySem.Challenge.rw_pq0711_01 := by
  k_fill
  exact ⟨rfl, rfl⟩
section
variable {w : World} {fr : List Env} {S : Heap} {p : Program} {loose : List Str} {mean : ExcName → Option Value} {mg mb : Str → Option Value} {s : Shared} {Q E : Value → Shared → Prop}
theorem kw_Dfr_1 : True := by
  k_with "compareOp In str ref" => (k_here; first | refine kda_in (knd := PySem.strKind _ _) (by k_asm) (by k_mem) (by k_asm) (by assumption) (strKind_is _ _ _ _) true (by simp only [*]; rfl) ?_ | refine kda_in (knd := PySem.strKind _ _) (by k_asm) (by k_mem) (by k_asm) (by assumption) (strKind_is _ _ _ _) false (by simp only [*]; rfl) ?_)
  exact trivial
theorem kw_Dfr_2 : True := by
  k_with "call ref" => (k_here; (with_reducible show wpAny _ _ (PySem.call (Value.ref 179) _) _ _ _); k_dflt (refine' valueOf_K rfl rfl ?hdpKw ?huKw ?CKw ?FKw ?XKw ?H1Kw ?TKw ?NKw ?m1Kw ?m2Kw ?m3Kw ?hobKw ?m4Kw ?hdoKw ?f1Kw ?f2Kw ?f3Kw ?f4Kw ?_; (case hdpKw => exact Nat.le_of_ble_eq_true rfl); (case huKw => exact Nat.le_of_ble_eq_true rfl); (case FKw => k_asm); (case NKw => k_asm); (case m1Kw => k_mem); (case m2Kw => k_mem); (case m3Kw => k_mem); (case hobKw => assumption); (case m4Kw => k_mem); (case hdoKw => assumption); (case CKw => exact site (by assumption) (by assumption) rfl rfl); (case XKw => assumption); (case H1Kw => assumption); (case TKw => assumption); (case f1Kw => exact off (by assumption) (by assumption) (by k_mem) rfl); (case f2Kw => exact off (by assumption) (by assumption) (by k_mem) rfl); (case f3Kw => exact off (by assumption) (by assumption) (by k_mem) rfl); (case f4Kw => exact off (by assumption) (by assumption) (by k_mem) rfl); k_whole); intro v'q h'q tk'q hv'q F'q N'q A'q; first | (have e'q := heldS hv'q (by assumption); subst e'q; clear hv'q A'q) | (have e'q := heldN hv'q (by assumption) (by assumption); subst e'q; clear hv'q A'q) | (obtain ⟨t'q, a'q, b'q, e'q, hm'q, hf'q⟩ := heldT hv'q (by assumption) (by assumption); subst e'q; obtain ⟨N2'q, l1q⟩ := adds_get A'q hm'q hf'q; clear hv'q A'q N'q hm'q hf'q; k_lt l1q))
  exact trivial
theorem kw_Dfr_3 : True := by
  k_with "compareOp NotIn" => (k_here; k_dflt (refine notIn_two (by k_asm) (by k_mem) rfl rfl (by first | exact TVAt.at (by assumption) (by k_asm) | exact TV.none | exact TV.tup (News.get (by k_asm) (by k_mem)) rfl rfl (.cons (.str _ _) (.cons (.str _ _) .nil))) (TVAt.at (by assumption) (by k_asm)) (by assumption) (by assumption) (Nat.le_of_ble_eq_true rfl) (by assumption) ?_))
  exact trivial
theorem kw_Dfr_4 : True := by
  k_with "exec Raise some none" => (k_here; refine Raise_thr rfl ?_)
  exact trivial
theorem kw_Dfr_5 : True := by
  k_with "binaryOp Add str str" => (k_here; refine PyProof.Rows.P.add_str ?_ (by assumption); intro t'q k'q)
  exact trivial
theorem kw_Dfr_6 : True := by
  k_with "call ref" => (k_here; (with_reducible show wpAny _ _ (PySem.call (Value.ref 101) _) _ _ _); k_dflt (refine' thrTxt_K rfl rfl ?hdpKw ?huKw ?CKw ?XKw ?H0Kw ?TKw ?EOKw ?FKw ?NKw ?_; (case hdpKw => exact Nat.le_of_ble_eq_true rfl); (case huKw => exact Nat.le_of_ble_eq_true rfl); (case FKw => k_asm); (case NKw => k_asm); (case CKw => exact site (by assumption) (by assumption) rfl rfl); (case XKw => assumption); (case H0Kw => assumption); (case TKw => assumption); (case EOKw => assumption); k_whole); intro e'q d'q t'q sl'q h'q tk'q F'q N'q he'q ge'q ne'q hE'q)
  exact trivial
set_option maxHeartbeats 4000000 in
theorem define_raise {nm dN bi dv df : Addr} {o od : Obj} {kvs kf : List (Str × Value)} {x : Str} {tk : Tok} {v : Value} {D d : PyData} {By : Array UInt8}
    (C : FrOk S fr s.heap) (X : (hd.heap_1 w.params).In S) (H0 : S.get? 0 = some (boot_o_0 w.params)) (H1 : S.get? 1 = some (boot_o_1 w.params)) (T : Top p loose mean mg mb S)
    (G : GL w s.heap nm dN bi dv df) (ho : s.heap.get? dv = some o) (hdo : o.IsDictOf (SD w) kvs) (hod : s.heap.get? df = some od) (hdd : od.IsDictOf (SD w) kf)
    (f1 : Off S fr nm) (f2 : Off S fr dN) (f3 : Off S fr bi) (f4 : Off S fr dv) (f5 : Off S fr df) (ne : ([nm, dN, bi, dv, df] : List Nat).Nodup)
    (hD : HeldD s.heap kvs x D) (nD : Nice D) (hv : TV s.heap v d) (nd : Nice d) (hin : ([PyData.none, d].any fun y => PyData.eqv y D) = false) (EO : EncOk (Str.ofString "invalid redefinition of constant " ++ x) By) (hz : (Str.ofString "invalid redefinition of constant ").length + x.length ≤ sizeLine)
    (hret : ExcRet (KpF [] fr s.heap) By fr s E) :
    wpAny (model pg w) (Ap 7 fr) (PySem.call (.ref 191) [.ref nm, .str x tk, v]) Q E s := by
  obtain ⟨hi, ⟨ha, hb, hc, ta, tb, tc, n, hdN⟩, ob, hob, hobd⟩ := G
  have lo := dict_low H1 f4.1
  have lob := dict_low H1 f3.1
  have lod := dict_low H1 f5.1
  simp only [List.nodup_cons, List.mem_cons, List.not_mem_nil, or_false, not_or] at ne
  have hW : ∀ p ∈ [(dv, o), (df, od), (nm, instObj 201 dN), (dN, gD bi dv df ha hb hc ta tb tc n), (bi, ob)], s.heap.get? p.1 = some p.2 :=
    List.forall_mem_cons.mpr ⟨ho, List.forall_mem_cons.mpr ⟨hod, List.forall_mem_cons.mpr ⟨hi, List.forall_mem_cons.mpr ⟨hdN, List.forall_mem_cons.mpr ⟨hob, List.forall_mem_nil _⟩⟩⟩⟩⟩
  refine enterS _ rfl C X T (by k_is) (by k_is) (show 540 < 1000 by decide) (BindsTo.of_eq rfl) (locs rfl) hW ?_ ?_ (by decide) rfl rfl rfl ?_
  · exact List.forall_mem_cons.mpr ⟨f4.1, List.forall_mem_cons.mpr ⟨f5.1, List.forall_mem_cons.mpr ⟨f1.1, List.forall_mem_cons.mpr ⟨f2.1, List.forall_mem_cons.mpr ⟨f3.1, List.forall_mem_nil _⟩⟩⟩⟩⟩
  · exact List.forall_mem_cons.mpr ⟨f4.2, List.forall_mem_cons.mpr ⟨f5.2, List.forall_mem_cons.mpr ⟨f1.2, List.forall_mem_cons.mpr ⟨f2.2, List.forall_mem_cons.mpr ⟨f3.2, List.forall_mem_nil _⟩⟩⟩⟩⟩
  intro g L' h₁ F N B Xg Tg hg
  have hn : ∀ p ∈ [(dv, o), (df, od), (nm, instObj 201 dN), (dN, gD bi dv df ha hb hc ta tb tc n), (bi, ob)], p.2.cls ≠ .type "tuple" :=
    List.forall_mem_cons.mpr ⟨dict_cls hdo, List.forall_mem_cons.mpr ⟨dict_cls hdd, List.forall_mem_cons.mpr ⟨nofun, List.forall_mem_cons.mpr ⟨(show Value.type "dict" ≠ Value.type "tuple" from by decide), List.forall_mem_cons.mpr ⟨dict_cls hobd, List.forall_mem_nil _⟩⟩⟩⟩⟩
  have hv0 : TVAt g L' v d := fun h m F => hv.keep (tup_of F hg hW hn)
  have nL := notL F N hg
  unfold HeldD at hD
  cases hq : valueAt kvs x with
  | some r =>
    rw [hq] at hD
    have hr0 : TVAt g L' r D := fun h m F => hD.keep (tup_of F hg hW hn)
    k_steps
    exact raise_end (as := []) hret (by assumption) (by assumption) (by assumption) rfl rfl hg hW nL (by assumption) (by assumption) (by assumption) (by assumption) (fun S' k _ => k) (by intro p hp; first | exact .inl hp | exact .inl (.tail _ hp) | exact .inl (.tail _ (.tail _ hp))) (by intro p hp; first | exact List.mem_map_of_mem hp | exact List.mem_map_of_mem (.tail _ hp) | exact List.mem_map_of_mem (.tail _ (.tail _ hp))) (List.forall_mem_nil _)
  | none =>
    rw [hq] at hD
    dsimp only at hD
    cases hB : isB x with
    | true =>
      rw [hB] at hD
      subst hD
      k_steps
      exact raise_end (as := []) hret (by assumption) (by assumption) (by assumption) rfl rfl hg hW nL (by assumption) (by assumption) (by assumption) (by assumption) (fun S' k _ => k) (by intro p hp; first | exact .inl hp | exact .inl (.tail _ hp) | exact .inl (.tail _ (.tail _ hp))) (by intro p hp; first | exact List.mem_map_of_mem hp | exact List.mem_map_of_mem (.tail _ hp) | exact List.mem_map_of_mem (.tail _ (.tail _ hp))) (List.forall_mem_nil _)
    | false =>
      rw [hB] at hD
      subst hD
      exfalso
      simp [PyData.eqv] at hin
end

end
section
theorem kwo_Tln : True := by
  k_with_none
  w_top off
  k_with "execs cons Assign cons" => (with_reducible refine seqN ?_); intro Qk1 nk1
  k_with "execs cons AugAssign cons" => (with_reducible refine seqN ?_); intro Qk1 nk1
  k_with "execs cons Expr cons" => (with_reducible refine seqN ?_); intro Qk1 nk1
  k_with "execs cons If cons" => (with_reducible refine seqQ ?_); intro Qk1 nk1 rk1
  k_with "execs cons For cons" => (with_reducible refine seqQ ?_); intro Qk1 nk1 rk1
  k_with "execs cons" => (with_reducible refine seq1 ?_)
  k_with "eval Constant int" => (with_reducible refine cInt ?_); intro tq1 kq1
  k_with "eval Constant str" => (with_reducible refine cStr ?_); intro tq1 kq1
  k_with "eval Name" => (k_here; k_dflt (refine' nameL ?Fn1 ?bn1 ?vn1 ?_; (case bn1 => decide +kernel); (case Fn1 => with_reducible assumption); (case vn1 => exact rfl); k_whole))
  exact trivial
theorem fillit15 (P : Params) : hd.heap_1 P = hd.heap_1 P ∧ PySem.Challenge.rw_pq0711_01 = PySem.Challenge.rw_pq0711_01 := by
  k_fill
  exact ⟨rfl, rfl⟩
abbrev pre : Str := Str.ofString "invalid redefinition of constant "
def NameOk (x : Str) : Prop := PyData.strOk x = true ∧ pre.length + x.length ≤ sizeLine ∧ ∃ By, EncOk (pre ++ x) By ∧ DecOk By (pre ++ x)
theorem name_f : NameOk (Str.ofString "f") := ⟨by decide +kernel, by decide +kernel, _, enc_f, dec_f⟩
theorem name_g : NameOk (Str.ofString "g") := ⟨by decide +kernel, by decide +kernel, _, enc_g, dec_g⟩
theorem name_add : NameOk (Str.ofString "add") := ⟨by decide +kernel, by decide +kernel, _, enc_add, dec_add⟩
theorem name_P : NameOk (Str.ofString "P") := ⟨by decide +kernel, by decide +kernel, _, enc_P, dec_P⟩
theorem name_xx : NameOk (Str.ofString "x") := ⟨by decide +kernel, by decide +kernel, _, enc_x, dec_x⟩
/-! the values that the dicts hold are tuples all through -/
def Vals (h : Heap) (kvs : List (Str × Value)) : Prop := ∀ k r, valueAt kvs k = some r → r ≠ .none ∧ ∃ d, TV h r d ∧ Nice d
def VAt (g : Heap) (L : Addr) (kvs : List (Str × Value)) : Prop := ∀ k r, valueAt kvs k = some r → ∃ d, TVAt g L r d ∧ Nice d
def TabOk (q : Str) (h : Heap) (ps : Array Value) : Prop := TriplesOk ps.toList ∧ ∀ pos cv, codeAmong pos ps.toList = some cv → ∃ c', cv = .ref c' ∧ h.CodeRec (.ref c') q
section
variable {w : World} {fr : List Env} {A : Around} {S g : Heap} {L : Addr} {m : Str → Option Value} {env : Env} {s : Shared} {Q E : Value → Shared → Prop} {W : List (Addr × Obj)} {gf : Obj → List (Addr × Obj)}
  {p : Program} {loose : List Str} {mean : ExcName → Option Value} {mg mb : Str → Option Value}
theorem value_K {src : Addr} {x y : Int} {tx ty : Tok} {n : Nat} {nm : Str} {tk : Tok}
    (hA : A.handled = none) (hfr : A.frames = some (env :: fr)) (hdp : A.depth ≤ 560) (hu : A.units ≤ 3400) (C : FrOk S (env :: fr) s.heap) (F : Fr g L s.heap m)
    (X : (hd.heap_1 w.params).In S) (T : Top p loose mean mg mb S) (N : News g L s.heap W) (U : UpdF src (listOf #[.int x tx, .int y ty] n) W gf)
    (hS : S.get? src = none) (hF : src ∉ (env :: fr).filterMap (·.frame))
    (hx : 0 ≤ x) (hy : 0 ≤ y) (hy2 : y < 4294967296) (hn : PyData.strOk nm = true)
    (hret : ∀ t o vs ds nt x' y' tx' ty' n' h' tk', o.cls = .type "tuple" → o.data = .seq vs.toArray nt → (∀ h, TVs h vs ds) → Nice (.tuple ds) → 0 ≤ x' → 0 ≤ y' → y' < 4294967296 → Fr g L h' m →
      News g L h' ((t, o) :: gf (listOf #[.int x' tx', .int y' ty'] n')) → AllNe t (gf (listOf #[.int x' tx', .int y' ty'] n')) → Q (.ref t) { s with heap := h', toks := tk' }) :
    wpAny (model pg w) A (PySem.call (.ref 401) [.ref src, .str nm tk]) Q E s := by
  have hm := updF_mem U
  refine wpAny_up (A' := Ap 8 (env :: fr)) (value_spec C X T (N.get hm) hS hF hx hy hy2 hn ?_) hA hdp (fun l e => by cases e; exact hfr) rfl hu
  intro t o vs ds nt x' y' tx' ty' n' h' tk' hc hd hv hn' he hf h3 h4 h5 h6 h7
  have N' := kp_news N U h7 h6
  have F' := kp_fr F h7 (Ne.symm (N _ hm).2.1) (N _ hm).2.2
  have ht : News g L h' ((t, o) :: gf (listOf #[.int x' tx', .int y' ty'] n')) ∧ AllNe t (gf (listOf #[.int x' tx', .int y' ty'] n')) := by
    obtain ⟨oL, es, ep, hL, hLd, hLk, hLf⟩ := F.ns
    have gt : g.get? t = none := by
      cases q : g.get? t with
      | none => rfl
      | some o' => rw [F.keep _ _ q] at hf; cases hf
    refine ⟨List.forall_mem_cons.mpr ⟨⟨he, fun q => ?_, gt⟩, N'⟩, allNe_of fun p hp q => ?_⟩
    · have q' : t = L := q
      rw [q', hL] at hf; cases hf
    · obtain ⟨preL, post, e1, hgf, k1, k2⟩ := U.split
      rw [hgf] at hp
      have : ∃ o', (p.1, o') ∈ W := by
        rw [e1]
        rcases List.mem_append.mp hp with hp | hp
        · exact ⟨p.2, List.mem_append_left _ hp⟩
        · rcases List.mem_cons.mp hp with rfl | hp
          · exact ⟨_, List.mem_append_right _ (.head _)⟩
          · exact ⟨p.2, List.mem_append_right _ (.tail _ hp)⟩
      obtain ⟨o', ho'⟩ := this
      have := (N _ ho').1
      rw [show (p.1, o').1 = t from q, hf] at this; cases this
  exact hret t o vs ds nt x' y' tx' ty' n' h' tk' hc hd hv hn' h3 h4 h5 F' ht.1 ht.2
theorem held_K3 {hl : Addr} {o : Obj} {kvs : List (Str × Value)} {x : Str} {tk : Tok}
    (hA : A.handled = none) (hfr : A.frames = some (env :: fr)) (hdp : A.depth ≤ 560) (hu : A.units ≤ 3400) (C : FrOk S (env :: fr) s.heap) (F : Fr g L s.heap m)
    (X : (hd.heap_1 w.params).In S) (H1 : S.get? 1 = some (boot_o_1 w.params)) (T : Top p loose mean mg mb S) (N : News g L s.heap W) (m4 : (hl, o) ∈ W) (hdo : o.IsDictOf (SD w) kvs) (V : VAt g L kvs) (f4 : Off S (env :: fr) hl)
    (h1 : ∀ r d h' tk', valueAt kvs x = some r → Nice d → TVAt g L r d → Fr g L h' m → News g L h' W → Q r { s with heap := h', toks := tk' })
    (h2 : ∀ t a b h' tk', valueAt kvs x = none → isB x = true → Fr g L h' m → News g L h' ((t, twoTup x a b) :: W) → AllNe t W → Q (.ref t) { s with heap := h', toks := tk' })
    (h3 : ∀ h' tk', valueAt kvs x = none → isB x = false → Fr g L h' m → News g L h' W → Q .none { s with heap := h', toks := tk' }) :
    wpAny (model pg w) A (PySem.call (.ref 408) [.ref hl, .str x tk]) Q E s := by
  refine wpAny_up (A' := Ap 8 (env :: fr)) (held_spec C X H1 T (N.get m4) hdo f4.1 f4.2 ?_) hA hdp (fun l e => by cases e; exact hfr) rfl hu
  intro v h' tk' hv k
  have k' : ∀ b o, s.heap.get? b = some o → h'.get? b = some o := fun b o e => k b o e (fun q => nomatch q)
  have N' : News g L h' W := fun p hp => ⟨k' _ _ (N p hp).1, (N p hp).2⟩
  have F' := F.keeps k'
  cases e : valueAt kvs x with
  | some r =>
    have := heldS hv e
    subst this
    obtain ⟨d, hd, nd⟩ := V x v e
    exact h1 v d h' tk' e nd hd F' N'
  | none =>
    cases b : isB x with
    | true =>
      obtain ⟨t, a, b', rfl, ht, hf⟩ := heldT hv e b
      obtain ⟨n1, n2⟩ := adds F N N' t _ ht hf
      exact h2 t a b' h' tk' e b F' n1 n2
    | false =>
      have := heldN hv e b
      subst this
      exact h3 h' tk' e b F' N'
theorem kda_in3 {d : Addr} {o : Obj} {kvs : List (Str × Value)} {x : Str} {t : Tok} (N : News g L s.heap W) (hp : (d, o) ∈ W) (hd : o.IsDictOf (SD w) kvs) (lo : (d == sysModules) = false)
    (h1 : ∀ r, valueAt kvs x = some r → Q (.bool true) { s with toks := s.toks + 1 }) (h2 : valueAt kvs x = none → Q (.bool false) { s with toks := s.toks + 1 }) :
    wpAny (model pg w) A (compareOp .In (.str x t) (.ref d)) Q E s := by
  cases e : valueAt kvs x with
  | some r => exact kda_in N hp hd lo (strKind_is _ _ _ _) true (by rw [e]; rfl) (h1 r e)
  | none => exact kda_in N hp hd lo (strKind_is _ _ _ _) false (by rw [e]; rfl) (h2 e)
theorem in_two3 {t : Addr} {o : Obj} {x v : Value} {n : Nat} {D d : PyData} (N : News g L s.heap W) (m : (t, o) ∈ W) (hc : o.cls = .type "tuple") (hdt : o.data = .seq #[.none, v] n)
    (hx : TV s.heap x D) (hv : TV s.heap v d) (nD : Nice D) (nd : Nice d) (hu : A.units ≤ 5000) (h1 : ([PyData.none, d].any fun y => PyData.eqv y D) = true → Q (.bool true) s) (h2 : ([PyData.none, d].any fun y => PyData.eqv y D) = false → Q (.bool false) s) :
    wpAny (model pg w) A (compareOp .In x (.ref t)) Q E s := by
  cases e : ([PyData.none, d].any fun y => PyData.eqv y D) with
  | true => exact in_two N m hc hdt hx hv nD nd hu e (h1 e)
  | false => exact in_two N m hc hdt hx hv nD nd hu e (h2 e)
theorem pick {value slice : PySem.Expr} {l : Addr} {n : Nat} {r : Int} {u t0 t1 t2 t3 t4 : Tok} (N : News g L s.heap W) (hm : (l, listOf #[.str (Str.ofString "f") t0, .str (Str.ofString "g") t1, .str (Str.ofString "add") t2, .str (Str.ofString "P") t3, .str (Str.ofString "x") t4] n) ∈ W) (h0 : 0 ≤ r) (h1 : r < 5)
    (h : ∀ x t By, PyData.strOk x = true → pre.length + x.length ≤ sizeLine → EncOk (pre ++ x) By → DecOk By (pre ++ x) → Q (.str x t) s) (hs : subscripted slice false (.ref l) (.int r u) = operate [.ref l, .int r u] (getItem (.ref l) (.int r u)) := by with_unfolding_all rfl) :
    wpAny (model pg w) A (subscriptTail value slice (.ref l) (.int r u)) Q E s := by
  have h : ∀ x t, NameOk x → Q (.str x t) s := fun x t nx => let ⟨a, b, By, c, d⟩ := nx; h x t By a b c d
  have hl := News.isList N hm
  have : r = 0 ∨ r = 1 ∨ r = 2 ∨ r = 3 ∨ r = 4 := by omega
  rcases this with rfl | rfl | rfl | rfl | rfl
  · exact item_listR hl (by decide) (by decide) rfl (h _ _ name_f) hs
  · exact item_listR hl (by decide) (by decide) rfl (h _ _ name_g) hs
  · exact item_listR hl (by decide) (by decide) rfl (h _ _ name_add) hs
  · exact item_listR hl (by decide) (by decide) rfl (h _ _ name_P) hs
  · exact item_listR hl (by decide) (by decide) rfl (h _ _ name_xx) hs
theorem tv_of {h : Heap} {t : Addr} {o : Obj} {vs : List Value} {ds : List PyData} {nt : Nat} (N : News g L h W) (m : (t, o) ∈ W) (hc : o.cls = .type "tuple") (hd : o.data = .seq vs.toArray nt) (hv : ∀ h, TVs h vs ds) : TV h (.ref t) (.tuple ds) := .tup (N.get m) hc hd (hv h)
end

end
section
theorem kwo_Lam : True := by
  k_with_none
  w_top off
  k_with "execs cons Assign cons" => (with_reducible refine seqN ?_); intro Qk1 nk1
  k_with "execs cons AugAssign cons" => (with_reducible refine seqN ?_); intro Qk1 nk1
  k_with "execs cons Expr cons" => (with_reducible refine seqN ?_); intro Qk1 nk1
  k_with "execs cons If cons" => (with_reducible refine seqQ ?_); intro Qk1 nk1 rk1
  k_with "execs cons For cons" => (with_reducible refine seqQ ?_); intro Qk1 nk1 rk1
  k_with "execs cons" => (with_reducible refine seq1 ?_)
  k_with "eval Constant int" => (with_reducible refine cInt ?_); intro tq1 kq1
  k_with "eval Constant str" => (with_reducible refine cStr ?_); intro tq1 kq1
  k_with "eval Name" => (k_here; k_dflt (refine' nameL ?Fn1 ?bn1 ?vn1 ?_; (case bn1 => decide +kernel); (case Fn1 => with_reducible assumption); (case vn1 => exact rfl); k_whole))
  exact trivial
theorem fillit16 (P : Params) : hd.heap_1 P = hd.heap_1 P ∧ PySem.Challenge.rw_pq0711_01 = PySem.Challenge.rw_pq0711_01 := by
  k_fill
  exact ⟨rfl, rfl⟩
structure Cd (h : Heap) (c P : Addr) : Prop where
  hd : CodeHd h c P
theorem code414 {w : World} {h : Heap} (X : (hd.heap_1 w.params).In h) : Cd h 414 410 := ⟨⟨_, _, _, _, _, _, _, _, _, X _ _ (by k_is), rfl, rfl, rfl, rfl, rfl, rfl, rfl, rfl, by decide⟩⟩
theorem code421 {w : World} {h : Heap} (X : (hd.heap_1 w.params).In h) : Cd h 421 417 := ⟨⟨_, _, _, _, _, _, _, _, _, X _ _ (by k_is), rfl, rfl, rfl, rfl, rfl, rfl, rfl, rfl, by decide⟩⟩
def TabAt (g : Heap) (L : Addr) (q : Str) (ps : Array Value) : Prop := ∀ h m, Fr g L h m → TabOk q h ps
theorem tab_at {g h₀ : Heap} {L : Addr} {W : List (Addr × Obj)} {q : Str} {ps : Array Value} (T : TabOk q h₀ ps) (hg : ∀ b o, h₀.get? b = some o → b ∉ W.map (·.1) → g.get? b = some o) (hW : ∀ p ∈ W, h₀.get? p.1 = some p.2)
    (hn : ∀ p ∈ W, ∀ vs t, p.2.data = .fields vs → vs[1]? ≠ some (.str q t)) : TabAt g L q ps := fun h m F => ⟨T.1, fun pos cv e => by
  obtain ⟨c', rfl, c, o, vs, t, e1, e2, e3, e4⟩ := T.2 pos cv e
  refine ⟨c', rfl, c, o, vs, t, e1, F.keep _ _ (hg c o e2 fun z => ?_), e3, e4⟩
  obtain ⟨x, hx, rfl⟩ := List.mem_map.mp z
  rw [hW x hx] at e2; cases e2
  exact hn x hx vs t e3 e4⟩
theorem tab_push {q : Str} {h : Heap} {ps : Array Value} {pos : Pos} {c' : Addr} (T : TabOk q h ps) (R : h.CodeRec (.ref c') q) (e : codeAmong pos ps.toList = none) : TabOk q h (ps ++ #[rawInt pos.line, rawInt pos.col, .ref c']) := by
  have key : ∀ (l : List Value), TriplesOk l → ∀ pos' cv, codeAmong pos' (l ++ [rawInt pos.line, rawInt pos.col, .ref c']) = some cv → codeAmong pos' l = some cv ∨ cv = .ref c' := by
    intro l
    fun_induction TriplesOk l with
    | case1 =>
      intro _ pos' cv h
      simp only [List.nil_append, codeAmong, rawInt] at h
      split at h
      · exact .inr (Option.some.inj h).symm
      · cases h
    | case2 a t b u x rest ih =>
      intro hT pos' cv h
      simp only [List.cons_append, codeAmong] at h ⊢
      split at h
      · rename_i q; exact .inl (by rw [if_pos q]; exact h)
      · rename_i q
        rw [if_neg q]
        exact ih hT pos' cv h
    | case3 => intro hT; cases hT
  refine ⟨by simpa using TriplesOk_snoc pos.line pos.col (.ref c') ps.toList T.1, fun pos' cv h => ?_⟩
  rcases key ps.toList T.1 pos' cv (by simpa using h) with h | rfl
  · exact T.2 pos' cv h
  · exact ⟨c', rfl, R⟩
def TabGo (q : Str) (ps : Array Value) (c' : Addr) (ps' : Array Value) : Prop := ∀ h, TabOk q h ps → h.CodeRec (.ref c') q → TabOk q h ps'
theorem tabGo {q : Str} {ps ps' : Array Value} {c' : Addr} {h : Heap} (G : TabGo q ps c' ps') (T : TabOk q h ps) (R : h.CodeRec (.ref c') q) : TabOk q h ps' := G h T R
section
variable {M : Model} {A : Around} {E : Value → Shared → Prop} {s : Shared} {h₀ : Heap} {L a c P : Addr} {m mg mb : Str → Option Value} {cn : Str} {cs : Scope} {ccd : Value} {cl : List (Str × Addr)} {news : List (Addr × Obj)} {g : Obj → List (Addr × Obj)}
  {p : Program} {loose : List Str} {mean : ExcName → Option Value} {name qual : Str} {params : Arguments} {body : Expr} {scope : Scope} {ps : Array Value} {pos : Pos} {firstLine : Nat} {clos : List (Str × Addr)}
theorem lam2 {Q : Value → Shared → Prop} (F : Fr h₀ L s.heap m) (N : News h₀ L s.heap news) (T : Top p loose mean mg mb h₀) (C : Cd h₀ c P) (hcd : ccd = .ref c) (U : UpdF P (tabObj ps) news g) {q : Str} (hq : qual = q) (ht : TabAt h₀ L q ps)
    (hcl : closureFor scope (envX cn cs L a ccd cl) = pure clos)
    (h1 : ∀ f c' oc vs t ctv ps' h' tk, TabGo q ps c' ps' → Fr h₀ L h' m →
      News h₀ L h' ((f, kla_obj name qual params body scope clos ((mg "__name__").getD .none) c' ctv) :: (c', oc) :: g (tabObj ps')) →
      oc.data = .fields vs → vs[1]? = some (.str q t) → (∀ q ∈ news, q.1 < c') → c' < f → h'.CodeRec (.ref c') qual → Q (.ref f) { s with heap := h', toks := tk })
    (h2 : ∀ c', codeAmong pos ps.toList = some (.ref c') → ∀ f ctv h' tk, Fr h₀ L h' m → News h₀ L h' ((f, kla_obj name qual params body scope clos ((mg "__name__").getD .none) c' ctv) :: news) → (∀ q ∈ news, q.1 < f) → h'.CodeRec (.ref c') qual → Q (.ref f) { s with heap := h', toks := tk }) :
    wpAny M A (makeFunction name qual params (.expr body) scope (envX cn cs L a ccd cl) [] [] [] pos firstLine) Q E s := by
  subst hq
  have T0 := ht _ _ F
  cases e : codeAmong pos ps.toList with
  | none => exact kla_nest F N T C.hd hcd U T0.1 e hcl fun f c' oc vs t ctv h' tk F' N' d1 d2 l1 l2 => h1 f c' oc vs t ctv _ h' tk (fun h₂ T₂ R₂ => tab_push T₂ R₂ e) F' N' d1 d2 l1 l2 (codeRec_news N' (.tail _ (.head _)) d1 d2)
  | some cv =>
    obtain ⟨c', rfl, _⟩ := T0.2 pos cv e
    refine kla_hit F N T C.hd hcd (updF_mem U) T0.1 e hcl fun f ctv h' tk F' N' l1 => h2 c' e f ctv h' tk F' N' l1 ?_
    obtain ⟨_, e1, r⟩ := (ht _ _ F').2 pos _ e
    cases e1
    exact r
end
abbrev qT : Str := Str.ofString "_law_turned.<locals>.<lambda>"
abbrev qP : Str := Str.ofString "_law_printed.<locals>.<lambda>"
theorem qual_turned {sc : Scope} {L f : Addr} {cd : Value} : (envOfC (Str.ofString "_law_turned") sc L f cd).qual ++ Str.ofString "<lambda>" = qT := by
  show (Str.ofString "_law_turned" ++ Str.ofString ".<locals>.") ++ Str.ofString "<lambda>" = qT
  decide +kernel
theorem qual_printed {sc : Scope} {L f : Addr} {cd : Value} : (envOfC (Str.ofString "_law_printed") sc L f cd).qual ++ Str.ofString "<lambda>" = qP := by
  show (Str.ofString "_law_printed" ++ Str.ofString ".<locals>.") ++ Str.ofString "<lambda>" = qP
  decide +kernel

end
section
theorem kwo_Tak : True := by
  k_with_none
  w_top off
  k_with "execs cons Assign cons" => (with_reducible refine seqN ?_); intro Qk1 nk1
  k_with "execs cons AugAssign cons" => (with_reducible refine seqN ?_); intro Qk1 nk1
  k_with "execs cons Expr cons" => (with_reducible refine seqN ?_); intro Qk1 nk1
  k_with "execs cons If cons" => (with_reducible refine seqQ ?_); intro Qk1 nk1 rk1
  k_with "execs cons For cons" => (with_reducible refine seqQ ?_); intro Qk1 nk1 rk1
  k_with "execs cons" => (with_reducible refine seq1 ?_)
  k_with "eval Constant int" => (with_reducible refine cInt ?_); intro tq1 kq1
  k_with "eval Constant str" => (with_reducible refine cStr ?_); intro tq1 kq1
  k_with "eval Name" => (k_here; k_dflt (refine' nameL ?Fn1 ?bn1 ?vn1 ?_; (case bn1 => decide +kernel); (case Fn1 => with_reducible assumption); (case vn1 => exact rfl); k_whole))
  exact trivial
theorem fillit10 (P : Params) : hd.heap_1 P = hd.heap_1 P ∧ PySem.Challenge.rw_pq0711_01 = PySem.Challenge.rw_pq0711_01 := by
  k_fill
  exact ⟨rfl, rfl⟩
abbrev gP (tl : Addr) (many : Int) (a b : Int) (t u v : Tok) : Obj := dictOf [⟨a, .str (Str.ofString "texts") t, .ref tl⟩, ⟨b, .str (Str.ofString "many") u, .int many v⟩] 2
section
variable {w : World} {fr : List Env} {S : Heap} {p : Program} {loose : List Str} {mean : ExcName → Option Value} {mg mb : Str → Option Value} {s : Shared} {Q E : Value → Shared → Prop}
theorem kw_Tak_1 : True := by
  k_with "exec Raise some none" => (k_here; refine Raise_thr rfl ?_)
  exact trivial
theorem kw_Tak_2 : True := by
  k_with "call ref" => (k_here; (with_reducible show wpAny _ _ (PySem.call (Value.ref 101) _) _ _ _); k_dflt (refine' thrTxt_K rfl rfl ?hdpKw ?huKw ?CKw ?XKw ?H0Kw ?TKw ?EOKw ?FKw ?NKw ?_; (case hdpKw => exact Nat.le_of_ble_eq_true rfl); (case huKw => exact Nat.le_of_ble_eq_true rfl); (case FKw => k_asm); (case NKw => k_asm); (case CKw => exact site (by assumption) (by assumption) rfl rfl); (case XKw => assumption); (case H0Kw => assumption); (case TKw => assumption); (case EOKw => assumption); k_whole); intro e'q d'q t'q sl'q h'q tk'q F'q N'q he'q ge'q ne'q hE'q)
  exact trivial
def TakRet (dP tl : Addr) (many : Int) (its : Array Value) (v : Value) (s : Shared) (Q : Value → Shared → Prop) : Prop :=
  ∀ a b t u x n' h' tk', h'.get? dP = some (gP tl many a b t u x) → h'.get? tl = some (listOf (its.push v) n') → Kp [dP, tl] s.heap h' → Q .none { s with heap := h', toks := tk' }
set_option maxHeartbeats 4000000 in
theorem take_ok {pr dP tl : Addr} {a b : Int} {t u x tk : Tok} {nl : Nat} {many : Int} {its : Array Value} {T₀ : Str}
    (C : FrOk S fr s.heap) (X : (hd.heap_1 w.params).In S) (T : Top p loose mean mg mb S)
    (hi : s.heap.get? pr = some (instObj 229 dP)) (hd : s.heap.get? dP = some (gP tl many a b t u x)) (ht : s.heap.get? tl = some (listOf its nl))
    (f1 : Off S fr pr) (f2 : Off S fr dP) (f3 : Off S fr tl) (ne : ([pr, dP, tl] : List Nat).Nodup)
    (hm : 0 ≤ many) (hm2 : many ≤ 1000000) (hT : T₀.length ≤ 30001) (hle : ¬ (60000 < many + (T₀.length : Int))) (hits : its.size ≤ 1000)
    (hret : TakRet dP tl (many + (T₀.length : Int)) its (.str T₀ tk) s Q) :
    wpAny (model pg w) (Ap 7 fr) (PySem.call (.ref 226) [.ref pr, .str T₀ tk]) Q E s := by
  simp only [List.nodup_cons, List.mem_cons, List.not_mem_nil, or_false, not_or] at ne
  have hW : ∀ p ∈ [(pr, instObj 229 dP), (dP, gP tl many a b t u x), (tl, listOf its nl)], s.heap.get? p.1 = some p.2 :=
    List.forall_mem_cons.mpr ⟨hi, List.forall_mem_cons.mpr ⟨hd, List.forall_mem_cons.mpr ⟨ht, List.forall_mem_nil _⟩⟩⟩
  refine enterT _ rfl C X T (by k_is) (by k_is) (show 540 < 1000 by decide) (BindsTo.of_eq (binds := [(Str.ofString "self", .ref pr), (Str.ofString "text", .str T₀ tk)]) rfl) (locs rfl) hW ?_ ?_ (by decide) rfl rfl rfl ?_
  · exact List.forall_mem_cons.mpr ⟨f1.1, List.forall_mem_cons.mpr ⟨f2.1, List.forall_mem_cons.mpr ⟨f3.1, List.forall_mem_nil _⟩⟩⟩
  · exact List.forall_mem_cons.mpr ⟨f1.2, List.forall_mem_cons.mpr ⟨f2.2, List.forall_mem_cons.mpr ⟨f3.2, List.forall_mem_nil _⟩⟩⟩
  intro Q₁ g L' h₁ tk₀ env m₀ rq nq F N B Xg Tg hg
  k_steps
  k_steps
  (try dsimp only)
  refine hret _ _ _ _ _ _ _ _ (News.get (by assumption) (by k_mem)) (News.get (by assumption) (by k_mem)) (kp_but (by assumption) (by assumption) hg hW ?_)
  repeat' (first | exact List.forall_mem_nil _ | refine List.forall_mem_cons.mpr ⟨?_, ?_⟩ | exact .inr (by k_mem) | exact .inl (by k_mem))
set_option maxHeartbeats 4000000 in
theorem take_raise {pr dP tl : Addr} {a b : Int} {t u x tk : Tok} {nl : Nat} {many : Int} {its : Array Value} {T₀ : Str} {By : Array UInt8}
    (C : FrOk S fr s.heap) (X : (hd.heap_1 w.params).In S) (T : Top p loose mean mg mb S)
    (hi : s.heap.get? pr = some (instObj 229 dP)) (hd : s.heap.get? dP = some (gP tl many a b t u x)) (ht : s.heap.get? tl = some (listOf its nl))
    (f1 : Off S fr pr) (f2 : Off S fr dP) (f3 : Off S fr tl) (ne : ([pr, dP, tl] : List Nat).Nodup)
    (hm : 0 ≤ many) (hm2 : many ≤ 1000000) (hT : T₀.length ≤ 30001) (hle : 60000 < many + (T₀.length : Int)) (H0 : S.get? 0 = some (boot_o_0 w.params)) (EO : EncOk (Str.ofString "too much is printed") By) (hits : its.size ≤ 1000)
    (hret : ExcRet (fun S' => KpF [dP] fr s.heap S' ∧ ∃ a b t u x, S'.get? dP = some (gP tl (many + (T₀.length : Int)) a b t u x)) By fr s E) :
    wpAny (model pg w) (Ap 7 fr) (PySem.call (.ref 226) [.ref pr, .str T₀ tk]) Q E s := by
  simp only [List.nodup_cons, List.mem_cons, List.not_mem_nil, or_false, not_or] at ne
  have hW : ∀ p ∈ [(pr, instObj 229 dP), (dP, gP tl many a b t u x), (tl, listOf its nl)], s.heap.get? p.1 = some p.2 :=
    List.forall_mem_cons.mpr ⟨hi, List.forall_mem_cons.mpr ⟨hd, List.forall_mem_cons.mpr ⟨ht, List.forall_mem_nil _⟩⟩⟩
  refine enterS _ rfl C X T (by k_is) (by k_is) (show 540 < 1000 by decide) (BindsTo.of_eq rfl) (locs rfl) hW ?_ ?_ (by decide) rfl rfl rfl ?_
  · exact List.forall_mem_cons.mpr ⟨f1.1, List.forall_mem_cons.mpr ⟨f2.1, List.forall_mem_cons.mpr ⟨f3.1, List.forall_mem_nil _⟩⟩⟩
  · exact List.forall_mem_cons.mpr ⟨f1.2, List.forall_mem_cons.mpr ⟨f2.2, List.forall_mem_cons.mpr ⟨f3.2, List.forall_mem_nil _⟩⟩⟩
  intro g L' h₁ F N B Xg Tg hg
  have nL := notL F N hg
  k_steps
  refine raise_end (as := [dP]) hret (by assumption) (by assumption) (by assumption) rfl rfl hg hW nL (by assumption) (by assumption) (by assumption) (by assumption) (fun S' k kn => ⟨k, _, _, _, _, _, kn (dP, _) (by k_mem)⟩) ?_ (List.forall_mem_cons.mpr ⟨.head _, List.forall_mem_cons.mpr ⟨.tail _ (.head _), List.forall_mem_cons.mpr ⟨.tail _ (.tail _ (.head _)), List.forall_mem_nil _⟩⟩⟩) (List.forall_mem_cons.mpr ⟨f2.2, List.forall_mem_nil _⟩)
  repeat' (first | exact List.forall_mem_nil _ | refine List.forall_mem_cons.mpr ⟨?_, ?_⟩ | exact .inr (by k_mem) | exact .inl (by k_mem))
end

end
section
theorem kwo_Wrk : True := by
  k_with_none
  w_top off
  k_with "execs cons Assign cons" => (with_reducible refine seqN ?_); intro Qk1 nk1
  k_with "execs cons AugAssign cons" => (with_reducible refine seqN ?_); intro Qk1 nk1
  k_with "execs cons Expr cons" => (with_reducible refine seqN ?_); intro Qk1 nk1
  k_with "execs cons If cons" => (with_reducible refine seqQ ?_); intro Qk1 nk1 rk1
  k_with "execs cons For cons" => (with_reducible refine seqQ ?_); intro Qk1 nk1 rk1
  k_with "execs cons" => (with_reducible refine seq1 ?_)
  k_with "eval Constant int" => (with_reducible refine cInt ?_); intro tq1 kq1
  k_with "eval Constant str" => (with_reducible refine cStr ?_); intro tq1 kq1
  k_with "eval Name" => (k_here; k_dflt (refine' nameL ?Fn1 ?bn1 ?vn1 ?_; (case bn1 => decide +kernel); (case Fn1 => with_reducible assumption); (case vn1 => exact rfl); k_whole))
  exact trivial
/-! a lambda that stands ready: it calls fn with args -/
def LamAt (w : World) (p : Program) (loose : List Str) (mean : ExcName → Option Value) (mg mb : Str → Option Value) (h₀ : Heap) (f fn : Addr) (args : List Value) (W : List (Addr × Obj)) : Prop :=
  ∃ (name qual : Str) (params : Arguments) (body : PySem.Expr) (scope : Scope) (cl : List (Str × Addr)) (pm ctv : Value) (c' : Addr), h₀.get? f = some (kla_obj name qual params body scope cl pm c' ctv) ∧ h₀.CodeRec (.ref c') qual ∧ (∀ p ∈ W, h₀.get? p.1 = some p.2) ∧
    bindArgs (kla_fn name qual params body scope cl pm (.ref c') ctv) ⟨[], []⟩ = pure [] ∧ (∀ x ∈ scope.names, x.2 ≠ .cell) ∧ scope.isCoroutine = false ∧ scope.isGenerator = false ∧ scope.kind = .function ∧
    ∀ (A : Around) (L : Addr) (g : Heap) (m : Str → Option Value) (s : Shared) (Q E : Value → Shared → Prop), Fr g L s.heap m → News g L s.heap W → (hd.heap_1 w.params).In g → Top p loose mean mg mb g →
      (∀ k, wpAny (model pg w) (A.deeper (envX qual scope L f (.ref c') cl)) (PySem.call (.ref fn) args) Q E { s with toks := k }) → wpAny (model pg w) (A.deeper (envX qual scope L f (.ref c') cl)) (eval body (envX qual scope L f (.ref c') cl)) Q E s
section
variable {w : World} {fr : List Env} {A : Around} {S h₀ : Heap} {p : Program} {loose : List Str} {mean : ExcName → Option Value} {mg mb : Str → Option Value} {s : Shared} {Q E : Value → Shared → Prop}
theorem off_push {h : Heap} {b L : Addr} {o : Obj} {env : Env} (O : Off S fr b) (e : h.get? b = some o) (f : h.get? L = none) (hf : env.frame = some L) : Off S (env :: fr) b := ⟨O.1, fun q => by
  rw [List.filterMap_cons, hf] at q
  rcases List.mem_cons.mp q with q | q
  · rw [q, f] at e; cases e
  · exact O.2 q⟩
theorem lam_run {f fn : Addr} {args : List Value} {W : List (Addr × Obj)} (La : LamAt w p loose mean mg mb h₀ f fn args W) (X : (hd.heap_1 w.params).In S) (T : Top p loose mean mg mb S) (hfr : A.frames = some fr) (hroom : A.depth < recursionLimit) (C : FrOk S fr s.heap) (st : h₀.StaysIn s.heap)
    (hO : ∀ p ∈ W, Off S fr p.1)
    (h : ∀ env L s₂, env.frame = some L → env.scope.kind = .function → s.heap.get? L = none → FrOk S (env :: fr) s₂.heap → s.heap.StaysIn s₂.heap → s₂.gens = s.gens → s₂.drawn = s.drawn → s₂.os = s.os →
      wpAny (model pg w) (A.deeper env) (PySem.call (.ref fn) args) Q (fun e s' => wpAny (model pg w) (A.deeper env) (leaving env e) (fun _ s'' => E e s'') (fun e' s'' => E e' s'') s') s₂) :
    wpAny (model pg w) A (PySem.call (.ref f) []) Q E s := by
  obtain ⟨name, qual, params, body, scope, cl, pm, ctv, c', hf, hcd, hW, hb, hcell, hco, hgen, hk, run⟩ := La
  have hW' : ∀ p ∈ W, s.heap.get? p.1 = some p.2 := fun p hp => st _ _ (hW p hp)
  refine enterE W hfr C X T (st _ _ hf) (hcd.keeps st) hroom hb (fun _ h => nomatch h) hW' (fun p hp => (hO p hp).1) (fun p hp => (hO p hp).2) hcell hco hgen hk ?_
  intro g L' h₁ F N B Xg Tg hg sz
  refine run A L' g _ _ _ _ F N Xg Tg fun k => ?_
  exact h (envX qual scope L' f (.ref c') cl) L' _ rfl hk (notL F N hg) (site B F rfl hk) (kp_ro F N hg hW' (fun _ h => h)) rfl rfl rfl
theorem GL.keeps {h h' : Heap} {nm dN bi dv df : Addr} (G : GL w h nm dN bi dv df) (k : h.StaysIn h') : GL w h' nm dN bi dv df :=
  ⟨k _ _ G.i, let ⟨a, b, c, t, u, v, n, e⟩ := G.d; ⟨a, b, c, t, u, v, n, k _ _ e⟩, let ⟨o, e, x⟩ := G.b; ⟨o, k _ _ e, x⟩⟩
/-! the globals, as the work finds them -/
structure GSt (w : World) (S : Heap) (fr : List Env) (h₀ : Heap) (nm dN bi dv df : Addr) (o od : Obj) (kvs kf : List (Str × Value)) : Prop where
  G : GL w h₀ nm dN bi dv df
  ho : h₀.get? dv = some o
  hdo : o.IsDictOf (SD w) kvs
  hod : h₀.get? df = some od
  hdd : od.IsDictOf (SD w) kf
  f1 : Off S fr nm
  f2 : Off S fr dN
  f3 : Off S fr bi
  f4 : Off S fr dv
  f5 : Off S fr df
  ne : ([nm, dN, bi, dv, df] : List Nat).Nodup
  l1 : kvs.length ≤ 1000
  l2 : kf.length ≤ 1000
theorem GSt.push {nm dN bi dv df : Addr} {o od : Obj} {kvs kf : List (Str × Value)} {env : Env} {L : Addr} {h' : Heap} (H : GSt w S fr h₀ nm dN bi dv df o od kvs kf) (st : h₀.StaysIn h') (hL : h₀.get? L = none) (hf : env.frame = some L) : GSt w S (env :: fr) h' nm dN bi dv df o od kvs kf := by
  obtain ⟨G, ho, hdo, hod, hdd, f1, f2, f3, f4, f5, ne, l1, l2⟩ := H
  obtain ⟨_, _, _, _, _, _, _, hdN⟩ := G.d
  obtain ⟨_, hb, _⟩ := G.b
  exact ⟨G.keeps st, st _ _ ho, hdo, st _ _ hod, hdd, off_push f1 G.i hL hf, off_push f2 hdN hL hf, off_push f3 hb hL hf, off_push f4 ho hL hf, off_push f5 hod hL hf, ne, l1, l2⟩
theorem work_up {f : Addr} {fn : Addr} {args : List Value} {W : List (Addr × Obj)} (La : LamAt w p loose mean mg mb h₀ f fn args W) (X : (hd.heap_1 w.params).In S) (T : Top p loose mean mg mb S) (hO : ∀ p ∈ W, Off S fr p.1)
    {env : Env} {L : Addr} (hA : A.handled = none) (hfr : A.frames = some (env :: fr)) (hdp : A.depth ≤ 520) (hu : A.units ≤ 2800) (hf : env.frame = some L) (hL : h₀.get? L = none) (C : FrOk S (env :: fr) s.heap) (st : h₀.StaysIn s.heap)
    (h : ∀ env₂ L₂ h₂ k, env₂.frame = some L₂ → env₂.scope.kind = .function → h₀.get? L₂ = none → s.heap.get? L₂ = none → FrOk S (env₂ :: env :: fr) h₂ → s.heap.StaysIn h₂ →
      wpAny (model pg w) (Ap 7 (env₂ :: env :: fr)) (PySem.call (.ref fn) args) Q (fun e s' => wpAny (model pg w) (A.deeper env₂) (leaving env₂ e) (fun _ s'' => E e s'') (fun e' s'' => E e' s'') s') { s with heap := h₂, toks := k }) :
    wpAny (model pg w) A (PySem.call (.ref f) []) Q E s := by
  refine lam_run La X T hfr (Nat.lt_of_le_of_lt hdp (by decide)) C st (fun p hp => ?_) fun env₂ L₂ s₂ hf₂ hk₂ hL₂ C₂ st₂ e1 e2 e3 => ?_
  · obtain ⟨_, _, _, _, _, _, _, _, _, _, _, hW, _⟩ := La
    exact off_push (hO p hp) (hW p hp) hL hf
  · obtain ⟨h₂, g₂, d₂, k₂, o₂⟩ := s₂
    dsimp only at e1 e2 e3
    subst e1 e2 e3
    have hL₀ : h₀.get? L₂ = none := by
      cases q : h₀.get? L₂ with
      | none => rfl
      | some o => rw [st _ _ q] at hL₂; cases hL₂
    refine wpAny_up (h env₂ L₂ h₂ k₂ hf₂ hk₂ hL₀ hL₂ C₂ st₂) hA ?_ (fun l e => by cases e; simp only [Around.frames_deeper hfr]) rfl ?_
    · show A.depth + 1 ≤ 540; omega
    · show A.units + 3 ≤ 3100; omega
end
def DefP (w : World) (dv df : Addr) (kvs kf : List (Str × Value)) (x : Str) (v : Value) (h h' : Heap) : Prop :=
  Kp [dv, df] h h' ∧ ∃ o' od', h'.get? dv = some o' ∧ o'.IsDictOf (SD w) (stored kvs x v) ∧ h'.get? df = some od' ∧ od'.IsDictOf (SD w) (stored kf x (.bool true))
def AsgP (w : World) (dv : Addr) (kvs : List (Str × Value)) (x : Str) (v : Value) (h h' : Heap) : Prop :=
  Kp [dv] h h' ∧ ∃ o', h'.get? dv = some o' ∧ o'.IsDictOf (SD w) (stored kvs x v)
theorem Kp.before {as : List Addr} {h h₁ h' : Heap} (st : h.StaysIn h₁) (k : Kp as h₁ h') : Kp as h h' := fun b o e n => k b o (st b o e) n
section
variable {w : World} {fr : List Env} {S h₀ : Heap} {p : Program} {loose : List Str} {mean : ExcName → Option Value} {mg mb : Str → Option Value} {f nm dN bi dv df : Addr} {o od : Obj} {kvs kf : List (Str × Value)} {x : Str} {t : Tok} {v : Value} {D d : PyData} {W : List (Addr × Obj)} {By : Array UInt8}
theorem work_def_ok (La : LamAt w p loose mean mg mb h₀ f 191 [.ref nm, .str x t, v] W) (X : (hd.heap_1 w.params).In S) (H1 : S.get? 1 = some (boot_o_1 w.params)) (T : Top p loose mean mg mb S) (hO : ∀ p ∈ W, Off S fr p.1) (H : GSt w S fr h₀ nm dN bi dv df o od kvs kf)
    (hD : HeldD h₀ kvs x D) (nD : Nice D) (hv : TV h₀ v d) (nd : Nice d) (hin : ([PyData.none, d].any fun y => PyData.eqv y D) = true) : WorkOk w S f h₀ fr (DefP w dv df kvs kf x v) := by
  intro A env L s₁ Q E hA hfr hdp hu hf hL C st hret
  refine work_up La X T hO hA hfr hdp hu hf hL C st fun env₂ L₂ h₂ k hf₂ hk₂ hL₀ hL₂ C₂ st₂ => ?_
  have H₂ := (H.push st hL hf).push st₂ hL₂ hf₂
  have tk := TupKept.all (fun b o e => st₂ b o (st b o e))
  refine define_ok (s := { s₁ with heap := h₂, toks := k }) C₂ X H1 T H₂.G H₂.ho H₂.hdo H₂.hod H₂.hdd H₂.f1 H₂.f2 H₂.f3 H₂.f4 H₂.f5 H₂.ne (hD.keep tk) nD (hv.keep tk) nd hin H₂.l1 H₂.l2 ?_
  exact fun o' od' h' tk' a b c d e => hret h' tk' ⟨Kp.before st₂ e, o', od', a, b, c, d⟩
theorem work_asg_ok (La : LamAt w p loose mean mg mb h₀ f 198 [.ref nm, .str x t, v] W) (X : (hd.heap_1 w.params).In S) (H1 : S.get? 1 = some (boot_o_1 w.params)) (T : Top p loose mean mg mb S) (hO : ∀ p ∈ W, Off S fr p.1) (H : GSt w S fr h₀ nm dN bi dv df o od kvs kf)
    (e1 : valueAt kf x = none) (hB : isB x = false) : WorkOk w S f h₀ fr (AsgP w dv kvs x v) := by
  intro A env L s₁ Q E hA hfr hdp hu hf hL C st hret
  refine work_up La X T hO hA hfr hdp hu hf hL C st fun env₂ L₂ h₂ k hf₂ hk₂ hL₀ hL₂ C₂ st₂ => ?_
  have H₂ := (H.push st hL hf).push st₂ hL₂ hf₂
  refine assign_ok (s := { s₁ with heap := h₂, toks := k }) C₂ X H1 T H₂.G H₂.ho H₂.hdo H₂.hod H₂.hdd H₂.f1 H₂.f2 H₂.f3 H₂.f4 H₂.f5 H₂.ne e1 hB H₂.l1 ?_
  exact fun o' h' tk' a b e => hret h' tk' ⟨Kp.before st₂ e, o', a, b⟩
theorem exc_up {A : Around} {env env₂ : Env} {L L₂ : Addr} {s₁ : Shared} {h₂ : Heap} {k : Nat} {E : Value → Shared → Prop} {as : List Addr} {R : Heap → Prop} (hfr : A.frames = some (env :: fr)) (hf : env.frame = some L) (hf₂ : env₂.frame = some L₂) (hL₂ : s₁.heap.get? L₂ = none) (C : FrOk S (env :: fr) s₁.heap) (st₂ : s₁.heap.StaysIn h₂)
    (hret : ExcRet (fun S' => KpF as (env :: fr) s₁.heap S' ∧ R S') By (env :: fr) s₁ E) :
    ExcRet (fun S' => KpF as (env₂ :: env :: fr) h₂ S' ∧ R S') By (env₂ :: env :: fr) { s₁ with heap := h₂, toks := k } (fun e s' => wpAny (model pg w) (A.deeper env₂) (leaving env₂ e) (fun _ s'' => E e s'') (fun e' s'' => E e' s'') s') := by
  intro S' e d h' tk' hR fly up fe exc
  refine leave_next (Around.frames_deeper hfr) hf₂ fly fun h'' fly' U => ?_
  have fe' : s₁.heap.get? e = none := by
    cases q : s₁.heap.get? e with
    | none => rfl
    | some o => rw [st₂ _ _ q] at fe; cases fe
  obtain ⟨a₁, a₂, a₃, x₁, x₂, x₃, mm, sp, v, n, ed, ka, za, pa, ta, ⟨y₁, ev⟩, ⟨y₂, y₃, ek⟩, ez, ep, z₁, z₂, et⟩ := exc
  have cv : ∀ {b o}, (S'.get? b = some o ∧ h₂.get? b = none) → S'.get? b = some o ∧ s₁.heap.get? b = none := fun {b o} ⟨q1, q2⟩ => ⟨q1, by
    cases q : s₁.heap.get? b with
    | none => rfl
    | some o => rw [st₂ _ _ q] at q2; cases q2⟩
  refine hret S' e d h'' tk' ⟨fun b o q1 q2 q3 => hR.1 b o (st₂ b o q1) q2 fun q4 => ?_, hR.2⟩ fly' (fun b hb o ho => ?_) fe' ⟨a₁, a₂, a₃, x₁, x₂, x₃, mm, sp, v, n, cv ed, ka, za, pa, ta, ⟨y₁, cv ev⟩, ⟨y₂, y₃, cv ek⟩, cv ez, cv ep, z₁, z₂, cv et⟩
  · rw [List.filterMap_cons, hf₂] at q4
    rcases List.mem_cons.mp q4 with q4 | q4
    · rw [q4, hL₂] at q1; cases q1
    · exact q3 q4
  · obtain ⟨sl, e1⟩ := up b (by rw [List.filterMap_cons, hf₂]; exact .tail _ hb) o (st₂ b o ho)
    obtain ⟨_, o', ho', hd'⟩ := C.ff.mem hb
    rw [ho] at ho'; cases ho'
    exact U b { o with slots := sl } e1 hd'
theorem work_def_no (La : LamAt w p loose mean mg mb h₀ f 191 [.ref nm, .str x t, v] W) (X : (hd.heap_1 w.params).In S) (H0 : S.get? 0 = some (boot_o_0 w.params)) (H1 : S.get? 1 = some (boot_o_1 w.params)) (T : Top p loose mean mg mb S) (hO : ∀ p ∈ W, Off S fr p.1) (H : GSt w S fr h₀ nm dN bi dv df o od kvs kf)
    (hD : HeldD h₀ kvs x D) (nD : Nice D) (hv : TV h₀ v d) (nd : Nice d) (hin : ([PyData.none, d].any fun y => PyData.eqv y D) = false) (EO : EncOk (pre ++ x) By) (hz : pre.length + x.length ≤ sizeLine) : WorkNo w S f h₀ fr By [] (fun _ => True) := by
  intro A env L s₁ Q E hA hfr hdp hu hf hL C st hret
  refine work_up La X T hO hA hfr hdp hu hf hL C st fun env₂ L₂ h₂ k hf₂ hk₂ hL₀ hL₂ C₂ st₂ => ?_
  have H₂ := (H.push st hL hf).push st₂ hL₂ hf₂
  have tk := TupKept.all (fun b o e => st₂ b o (st b o e))
  refine define_raise (s := { s₁ with heap := h₂, toks := k }) C₂ X H0 H1 T H₂.G H₂.ho H₂.hdo H₂.hod H₂.hdd H₂.f1 H₂.f2 H₂.f3 H₂.f4 H₂.f5 H₂.ne (hD.keep tk) nD (hv.keep tk) nd hin EO hz ?_
  exact fun S' e d h' tk' a b c dd ee => exc_up hfr hf hf₂ hL₂ C st₂ hret S' e d h' tk' ⟨a, trivial⟩ b c dd ee
theorem work_asg_no (La : LamAt w p loose mean mg mb h₀ f 198 [.ref nm, .str x t, v] W) (X : (hd.heap_1 w.params).In S) (H0 : S.get? 0 = some (boot_o_0 w.params)) (H1 : S.get? 1 = some (boot_o_1 w.params)) (T : Top p loose mean mg mb S) (hO : ∀ p ∈ W, Off S fr p.1) (H : GSt w S fr h₀ nm dN bi dv df o od kvs kf)
    (e1 : (∃ r, valueAt kf x = some r) ∨ (valueAt kf x = none ∧ isB x = true)) (EO : EncOk (pre ++ x) By) (hz : pre.length + x.length ≤ sizeLine) : WorkNo w S f h₀ fr By [] (fun _ => True) := by
  intro A env L s₁ Q E hA hfr hdp hu hf hL C st hret
  refine work_up La X T hO hA hfr hdp hu hf hL C st fun env₂ L₂ h₂ k hf₂ hk₂ hL₀ hL₂ C₂ st₂ => ?_
  have H₂ := (H.push st hL hf).push st₂ hL₂ hf₂
  refine assign_raise (s := { s₁ with heap := h₂, toks := k }) C₂ X H0 H1 T H₂.G H₂.ho H₂.hdo H₂.hod H₂.hdd H₂.f1 H₂.f2 H₂.f3 H₂.f4 H₂.f5 H₂.ne EO hz e1 H₂.l1 ?_
  exact fun S' e d h' tk' a b c dd ee => exc_up hfr hf hf₂ hL₂ C st₂ hret S' e d h' tk' ⟨a, trivial⟩ b c dd ee
end

end
section
theorem kwo_Tvg : True := by
  k_with_none
  w_top off
  k_with "execs cons Assign cons" => (with_reducible refine seqN ?_); intro Qk1 nk1
  k_with "execs cons AugAssign cons" => (with_reducible refine seqN ?_); intro Qk1 nk1
  k_with "execs cons Expr cons" => (with_reducible refine seqN ?_); intro Qk1 nk1
  k_with "execs cons If cons" => (with_reducible refine seqQ ?_); intro Qk1 nk1 rk1
  k_with "execs cons For cons" => (with_reducible refine seqQ ?_); intro Qk1 nk1 rk1
  k_with "execs cons" => (with_reducible refine seq1 ?_)
  k_with "eval Constant int" => (with_reducible refine cInt ?_); intro tq1 kq1
  k_with "eval Constant str" => (with_reducible refine cStr ?_); intro tq1 kq1
  k_with "eval Name" => (k_here; k_dflt (refine' nameL ?Fn1 ?bn1 ?vn1 ?_; (case bn1 => decide +kernel); (case Fn1 => with_reducible assumption); (case vn1 => exact rfl); k_whole))
  exact trivial
/-! values that are told by the ground and by a tail of the ledger -/
def TVG (g : Heap) (T : List (Addr × Obj)) (v : Value) (d : PyData) : Prop := ∀ h : Heap, (∀ b o, g.get? b = some o → h.get? b = some o) → (∀ p ∈ T, h.get? p.1 = some p.2) → TV h v d
def TVsG (g : Heap) (T : List (Addr × Obj)) (v : List Value) (d : List PyData) : Prop := ∀ h : Heap, (∀ b o, g.get? b = some o → h.get? b = some o) → (∀ p ∈ T, h.get? p.1 = some p.2) → TVs h v d
theorem TVG.mono {g : Heap} {T T' : List (Addr × Obj)} {v : Value} {d : PyData} (H : TVG g T v d) (s : ∀ p ∈ T, p ∈ T') : TVG g T' v d := fun h k t => H h k fun p hp => t p (s p hp)
def Tups (T : List (Addr × Obj)) : Prop := ∀ p ∈ T, p.2.cls = .type "tuple"
theorem Tups.app {T T' : List (Addr × Obj)} (a : Tups T) (b : Tups T') : Tups (T ++ T') := fun p hp => (List.mem_append.mp hp).elim (a p) (b p)
theorem News.app {g h : Heap} {L : Addr} {T T' : List (Addr × Obj)} (a : News g L h T) (b : News g L h T') : News g L h (T ++ T') := fun p hp => (List.mem_append.mp hp).elim (a p) (b p)
section
variable {g h : Heap} {L : Addr} {m : Str → Option Value}
theorem frame_not_tup (F : Fr g L h m) {a : Addr} {o : Obj} {vs : Array Value} {n : Nat} (e : h.get? a = some o) (d : o.data = .seq vs n) : a ≠ L := fun q => by
  obtain ⟨oL, es, ep, hL, hLd, _⟩ := F.ns
  rw [q, hL] at e
  cases e
  rw [hLd] at d; cases d
mutual
theorem tv_tail (F : Fr g L h m) : ∀ {v d}, TV h v d → ∃ T, Tups T ∧ News g L h T ∧ TVG g T v d
  | _, _, .none => ⟨[], List.forall_mem_nil _, List.forall_mem_nil _, fun _ _ _ => TV.none⟩
  | _, _, .int _ _ => ⟨[], List.forall_mem_nil _, List.forall_mem_nil _, fun _ _ _ => TV.int _ _⟩
  | _, _, .str _ _ => ⟨[], List.forall_mem_nil _, List.forall_mem_nil _, fun _ _ _ => TV.str _ _⟩
  | _, _, .tup (a := a) (o := o) e c d r => by
    obtain ⟨T, t1, t2, t3⟩ := tvs_tail F r
    cases q : g.get? a with
    | some o' =>
      have : h.get? a = some o' := F.keep _ _ q
      rw [e] at this
      cases this
      exact ⟨T, t1, t2, fun h' k t => .tup (k _ _ q) c d (t3 h' k t)⟩
    | none =>
      refine ⟨(a, o) :: T, List.forall_mem_cons.mpr ⟨c, t1⟩, List.forall_mem_cons.mpr ⟨⟨e, frame_not_tup F e d, q⟩, t2⟩, fun h' k t => .tup (t (a, o) (.head _)) c d (t3 h' k fun p hp => t p (.tail _ hp))⟩
theorem tvs_tail (F : Fr g L h m) : ∀ {v d}, TVs h v d → ∃ T, Tups T ∧ News g L h T ∧ TVsG g T v d
  | _, _, .nil => ⟨[], List.forall_mem_nil _, List.forall_mem_nil _, fun _ _ _ => TVs.nil⟩
  | _, _, .cons a b => by
    obtain ⟨T, t1, t2, t3⟩ := tv_tail F a
    obtain ⟨T', s1, s2, s3⟩ := tvs_tail F b
    exact ⟨T ++ T', t1.app s1, News.app t2 s2, fun h' k t => .cons (t3 h' k fun p hp => t p (List.mem_append_left _ hp)) (s3 h' k fun p hp => t p (List.mem_append_right _ hp))⟩
end
def VG (g : Heap) (T : List (Addr × Obj)) (kvs : List (Str × Value)) : Prop := ∀ k r, valueAt kvs k = some r → r ≠ .none ∧ ∃ d, TVG g T r d ∧ Nice d
theorem VG.mono {T T' : List (Addr × Obj)} {kvs : List (Str × Value)} (H : VG g T kvs) (s : ∀ p ∈ T, p ∈ T') : VG g T' kvs := fun k r e => let ⟨a, d, b, c⟩ := H k r e; ⟨a, d, b.mono s, c⟩
theorem VG.vals {T W : List (Addr × Obj)} {kvs : List (Str × Value)} (H : VG g T kvs) (F : Fr g L h m) (N : News g L h W) (s : ∀ p ∈ T, p ∈ W) : Vals h kvs := fun k r e => let ⟨a, d, b, c⟩ := H k r e; ⟨a, d, b h F.keep (fun p hp => (N p (s p hp)).1), c⟩
theorem TVG.tv {T W : List (Addr × Obj)} {v : Value} {d : PyData} (H : TVG g T v d) (F : Fr g L h m) (N : News g L h W) (s : ∀ p ∈ T, p ∈ W) : TV h v d := H h F.keep (fun p hp => (N p (s p hp)).1)
theorem VG.at {T : List (Addr × Obj)} {kvs : List (Str × Value)} (H : VG g T kvs) : ∀ k r, valueAt kvs k = some r → ∃ d, TVG g T r d ∧ Nice d := fun k r e => (H k r e).2
theorem va_mem {kvs : List (Str × Value)} {k : Str} {r : Value} : valueAt kvs k = some r → (k, r) ∈ kvs := by
  induction kvs with
  | nil => intro e; cases e
  | cons a t ih =>
    intro e
    rw [va_cons] at e
    by_cases q : a.1 = k
    · rw [if_pos q] at e
      cases e
      subst q
      exact .head _
    · rw [if_neg q] at e
      exact .tail _ (ih e)
theorem vals_tail {kvs : List (Str × Value)} (V : Vals h kvs) (F : Fr g L h m) : ∃ T, Tups T ∧ News g L h T ∧ VG g T kvs := by
  have key : ∀ l : List (Str × Value), ∃ T, Tups T ∧ News g L h T ∧ ∀ p ∈ l, valueAt kvs p.1 = some p.2 → p.2 ≠ .none ∧ ∃ d, TVG g T p.2 d ∧ Nice d := by
    intro l
    induction l with
    | nil => exact ⟨[], List.forall_mem_nil _, List.forall_mem_nil _, List.forall_mem_nil _⟩
    | cons a t ih =>
      obtain ⟨T, t1, t2, t3⟩ := ih
      have up : ∀ {T'}, (∀ p ∈ T, p ∈ T') → ∀ p ∈ t, valueAt kvs p.1 = some p.2 → p.2 ≠ .none ∧ ∃ d, TVG g T' p.2 d ∧ Nice d := fun s p hp e => let ⟨x, d, y, z⟩ := t3 p hp e; ⟨x, d, y.mono s, z⟩
      by_cases q : valueAt kvs a.1 = some a.2
      · obtain ⟨n, d, td, nd⟩ := V _ _ q
        obtain ⟨T', s1, s2, s3⟩ := tv_tail F td
        refine ⟨T ++ T', t1.app s1, News.app t2 s2, fun p hp e => ?_⟩
        rcases List.mem_cons.mp hp with rfl | hp
        · exact ⟨n, d, s3.mono fun p hp => List.mem_append_right _ hp, nd⟩
        · exact up (fun p hp => List.mem_append_left _ hp) p hp e
      · refine ⟨T, t1, t2, fun p hp e => ?_⟩
        rcases List.mem_cons.mp hp with rfl | hp
        · exact absurd e q
        · exact t3 p hp e
  obtain ⟨T, t1, t2, t3⟩ := key kvs
  exact ⟨T, t1, t2, fun k r e => t3 _ (va_mem e) e⟩
/-! a tail of tuples keeps off what is no tuple -/
theorem tail_ne {W T : List (Addr × Obj)} {d : Addr} {o : Obj} (N : News g L h W) (hT : Tups T) (s : ∀ p ∈ T, p ∈ W) (hm : (d, o) ∈ W) (hc : o.cls ≠ .type "tuple") : ∀ p ∈ T, p.1 ≠ d := fun p hp q => by
  have e1 := (N p (s p hp)).1
  have e2 := (N _ hm).1
  rw [q, e2] at e1
  cases e1
  exact hc (hT p hp)
end

end
section
theorem kwo_Stl : True := by
  k_with_none
  w_top off
  k_with "execs cons Assign cons" => (with_reducible refine seqN ?_); intro Qk1 nk1
  k_with "execs cons AugAssign cons" => (with_reducible refine seqN ?_); intro Qk1 nk1
  k_with "execs cons Expr cons" => (with_reducible refine seqN ?_); intro Qk1 nk1
  k_with "execs cons If cons" => (with_reducible refine seqQ ?_); intro Qk1 nk1 rk1
  k_with "execs cons For cons" => (with_reducible refine seqQ ?_); intro Qk1 nk1 rk1
  k_with "execs cons" => (with_reducible refine seq1 ?_)
  k_with "eval Constant int" => (with_reducible refine cInt ?_); intro tq1 kq1
  k_with "eval Constant str" => (with_reducible refine cStr ?_); intro tq1 kq1
  k_with "eval Name" => (k_here; k_dflt (refine' nameL ?Fn1 ?bn1 ?vn1 ?_; (case bn1 => decide +kernel); (case Fn1 => with_reducible assumption); (case vn1 => exact rfl); k_whole))
  exact trivial
/-! a ledger with a quiet tail: the front is written, the tail is a letter -/
inductive Spl : List (Addr × Obj) → (List (Addr × Obj) → List (Addr × Obj)) → List (Addr × Obj) → Prop
  | nil {t} : Spl t (fun x => x) t
  | cons {p W g t} : Spl W g t → Spl (p :: W) (fun x => p :: g x) t
theorem Spl.app {g h : Heap} {L : Addr} {T : List (Addr × Obj)} : ∀ {W gW t}, Spl W gW t → News g L h W → News g L h T → News g L h (gW (t ++ T))
  | _, _, _, .nil, N, N2 => News.app N N2
  | _, _, _, .cons s, N, N2 => List.forall_mem_cons.mpr ⟨N _ (.head _), s.app (fun p hp => N p (.tail _ hp)) N2⟩
theorem Spl.ins {g h : Heap} {L : Addr} {q : Addr × Obj} : ∀ {W gW t}, Spl W gW t → News g L h (q :: W) → News g L h (gW (q :: t))
  | _, _, _, .nil, N => N
  | _, _, _, .cons s, N => List.forall_mem_cons.mpr ⟨N _ (.tail _ (.head _)), s.ins (List.forall_mem_cons.mpr ⟨N _ (.head _), fun p hp => N p (.tail _ (.tail _ hp))⟩)⟩
abbrev pD : PyData := .tuple [.str (Str.ofString "type"), .tuple [.str (Str.ofString "name"), .str (Str.ofString "P"), .tuple []]]
/-! what the dict holds is told by the ground and by the tail; the kind P is what it is -/
def VP (g : Heap) (T : List (Addr × Obj)) (kvs : List (Str × Value)) : Prop := ∀ k r, valueAt kvs k = some r → r ≠ .none ∧ ∃ d, TVG g T r d ∧ Nice d ∧ (k = Str.ofString "P" → d = pD)
theorem VP.mono {g : Heap} {T T' : List (Addr × Obj)} {kvs : List (Str × Value)} (H : VP g T kvs) (s : ∀ p ∈ T, p ∈ T') : VP g T' kvs := fun k r e => let ⟨a, d, b, c⟩ := H k r e; ⟨a, d, b.mono s, c⟩
theorem VP.vg {g : Heap} {T : List (Addr × Obj)} {kvs : List (Str × Value)} (H : VP g T kvs) : VG g T kvs := fun k r e => let ⟨a, d, b, c, _⟩ := H k r e; ⟨a, d, b, c⟩
theorem VP.nil {g : Heap} {T : List (Addr × Obj)} : VP g T [] := fun k r e => by cases e
theorem VP.st {g : Heap} {T : List (Addr × Obj)} {kvs : List (Str × Value)} {k : Str} {r : Value} {d : PyData} (V : VP g T kvs) (t : TVG g T r d) (n : Nice d) (nn : r ≠ .none) (hp : k = Str.ofString "P" → d = pD) : VP g T (stored kvs k r) := fun x q e => by
  rcases vs_or e with ⟨e1, rfl⟩ | ⟨_, e⟩
  · exact ⟨nn, d, t, n, fun e2 => hp (e1.trans e2)⟩
  · exact V x q e
theorem VP.cp {g : Heap} {T : List (Addr × Obj)} {kvs : List (Str × Value)} {k k0 : Str} {r : Value} (V : VP g T kvs) (e0 : valueAt kvs k0 = some r) (hp : k ≠ Str.ofString "P") : VP g T (stored kvs k r) := by
  obtain ⟨a, d, b, c, _⟩ := V _ _ e0
  exact V.st b c a fun e => absurd e hp
section
variable {w : World} {fr : List Env} {A A₀ : Around} {S g : Heap} {L : Addr} {m : Str → Option Value} {env : Env} {p : Program} {loose : List Str} {mean : ExcName → Option Value} {mg mb : Str → Option Value} {s : Shared} {E : Value → Shared → Prop} {W tl : List (Addr × Obj)} {gW : List (Addr × Obj) → List (Addr × Obj)} {kvs : List (Str × Value)}
/-! a call that makes a value: what it makes goes to the tail -/
theorem val_K {h₁ : Heap} {gs : Array GenState} {dr : Drawn} {t₁ : Nat} {os : OsState} {Q : Value → Shared → Prop} {fn : Addr} {args : List Value} {d : PyData} (spec : ∀ Q E : Value → Shared → Prop, FrOk S (env :: fr) h₁ → TvRet d ⟨h₁, gs, dr, t₁, os⟩ Q → wpAny (model pg w) (Ap 4 (env :: fr)) (PySem.call (.ref fn) args) Q E ⟨h₁, gs, dr, t₁, os⟩)
    (hA : A.handled = none) (hfr : A.frames = some (env :: fr)) (hdp : A.depth ≤ 480) (hu : A.units ≤ 2200) (B : Below A₀ S fr g) (F : Fr g L h₁ m) (N : News g L h₁ W) (sp : Spl W gW tl) (hf : env.frame = some L) (hk : env.scope.kind = .function)
    (hT : Tups tl) (V : VP g tl kvs)
    (hret : ∀ r tl' h' tk', Tups tl' → VP g tl' kvs → TVG g tl' r d → r ≠ .none → Fr g L h' m → News g L h' (gW tl') → Q r ⟨h', gs, dr, tk', os⟩) :
    wpAny (model pg w) A (PySem.call (.ref fn) args) Q E ⟨h₁, gs, dr, t₁, os⟩ := by
  refine wpAny_up (A' := Ap 4 (env :: fr)) (spec _ _ (site B F hf hk) fun r h' tk' st tv nn => ?_) hA hdp (fun l e => by cases e; exact hfr) rfl hu
  have F' := F.keeps st
  obtain ⟨T2, s1, s2, s3⟩ := tv_tail F' tv
  exact hret r (tl ++ T2) h' tk' (hT.app s1) (V.mono fun p hp => List.mem_append_left _ hp) (s3.mono fun p hp => List.mem_append_right _ hp) nn F' (sp.app (fun p hp => ⟨st _ _ (N p hp).1, (N p hp).2⟩) s2)
theorem nice_type {d : PyData} (n : Nice (.tuple [.str (Str.ofString "type"), d])) : Nice (.tuple [.str (Str.ofString "type"), d]) := n
/-! ('type', kind) -/
theorem typ_K {h₁ : Heap} {gs : Array GenState} {dr : Drawn} {t₁ : Nat} {os : OsState} {M : Model} {Q : Value → Shared → Prop} {r : Value} {d : PyData} {t : Tok} (F : Fr g L h₁ m) (N : News g L h₁ W) (sp : Spl W gW tl) (hT : Tups tl) (V : VP g tl kvs) (tr : TVG g tl r d)
    (hret : ∀ D tl' h', Tups tl' → VP g tl' kvs → TVG g tl' (.ref D) (.tuple [.str (Str.ofString "type"), d]) → Fr g L h' m → News g L h' (gW tl') → Q (.ref D) ⟨h', gs, dr, t₁, os⟩) :
    wpAny M A (newTuple [.str (Str.ofString "type") t, r]) Q E ⟨h₁, gs, dr, t₁, os⟩ := by
  refine kup_newTuple F N (fun D h' F' N' _ => ?_) (by kmk_size)
  refine hret D ((D, _) :: tl) h' (List.forall_mem_cons.mpr ⟨rfl, hT⟩) (V.mono fun p hp => .tail _ hp) (fun h k q => ?_) F' (sp.ins N')
  exact tup2 (q _ (.head _)) (TV.str _ _) (tr h k fun p hp => q p (.tail _ hp))
/-! d[key] = value, the dict's content told -/
theorem stor_K {h₁ : Heap} {gs : Array GenState} {dr : Drawn} {t₁ : Nat} {os : OsState} {Q : Unit → Shared → Prop} {gU : Obj → List (Addr × Obj)} {d : Addr} {o : Obj} {k : Str} {t : Tok} {r : Value} (F : Fr g L h₁ m) (N : News g L h₁ W) (U : UpdF d o W gU) (hd : o.IsDictOf (SD w) kvs) (hl : kvs.length ≤ 900) (V : VP g tl (stored kvs k r))
    (hret : ∀ h' o' tk', o'.IsDictOf (SD w) (stored kvs k r) → VP g tl (stored kvs k r) → Fr g L h' m → News g L h' (gU o') → Q () ⟨h', gs, dr, tk', os⟩) :
    wpAny (model pg w) A (setItem (.ref d) (.str k t) r) Q E ⟨h₁, gs, dr, t₁, os⟩ :=
  kda_set (knd := PySem.strKind _ _) F N U hd (strKind_is _ _ _ _) (Nat.le_trans hl (by rw [sizeLine_eq]; decide)) fun h' o' F' N' hd' => hret h' o' _ hd' V F' N'
theorem cls_ne {h : Heap} {a b : Addr} {oa ob : Obj} (N : News g L h W) (ha : (a, oa) ∈ W) (hb : (b, ob) ∈ W) (hc : oa.cls ≠ ob.cls) : a ≠ b := fun q => by
  have e1 := (N _ ha).1
  have e2 := (N _ hb).1
  rw [show (a, oa).1 = a from rfl, q, show b = (b, ob).1 from rfl, e2] at e1
  cases e1; exact hc rfl
theorem dict_is {o : Obj} {kvs : List (Str × Value)} (h : o.IsDictOf (SD w) kvs) : o.cls = .type "dict" := by
  obtain ⟨_, _, h1, _⟩ := h
  exact h1.1
end
section
variable {w : World} {A : Around} {E : Value → Shared → Prop} {s : Shared} {env : Env} {g : Heap} {x : Str} {body : List Stmt} {Q : Flow → Shared → Prop}
/-! a loop over a list by what holds of what is left -/
theorem rest_inv {I : Addr} {lp : Addr × Obj} {m₀ : Str → Option Value} (J : List Value → List (Addr × Obj) → Prop) (hlp : ∀ vs news, J vs news → lp ∈ news)
    (step : ∀ v r news it h tk, J (v :: r) news → it.cls = .type "list_iterator" → Fr g env.locals h (fun y => if y = x then some v else m₀ y) → News g env.locals h ((I, it) :: news) →
      wpAny (model pg w) A (execs body env) (UnrPost g env.locals { s with heap := h, toks := tk } I it (fun m' n' => (∀ y, y ≠ x → m' y = m₀ y) ∧ J r n') Q) E { s with heap := h, toks := tk })
    (last : ∀ u news h tk, J [] news → Fr g env.locals h (fun y => if y = x then u else m₀ y) → News g env.locals h news → Q .next { s with heap := h, toks := tk }) :
    ∀ vs m news, (∀ y, y ≠ x → m y = m₀ y) → J vs news → ListRest pg w A E g env x body Q s I lp vs m news
  | [], m, news, hm, hJ => by
    refine ListRest.zero fun h tk F N => last (m x) news h tk hJ ?_ N
    have e : (fun y => if y = x then m x else m₀ y) = m := by
      funext y
      by_cases h1 : y = x
      · rw [if_pos h1, h1]
      · rw [if_neg h1, hm y h1]
    rw [e]; exact F
  | v :: r, m, news, hm, hJ => by
    refine ListRest.succ fun it h tk hc F N => ?_
    have e : (fun y => if y = x then some v else m y) = fun y => if y = x then some v else m₀ y := by
      funext y
      by_cases h1 : y = x
      · rw [if_pos h1, if_pos h1]
      · rw [if_neg h1, if_neg h1, hm y h1]
    rw [e] at F
    refine wpAny_mono (step v r news it h tk hJ hc F N) (fun f s₂ q => ?_) fun _ _ e => e
    have fin : UnrEnd g env.locals { s with heap := h, toks := tk } I it (fun m' n' => (∀ y, y ≠ x → m' y = m₀ y) ∧ J r n') s₂ → UnrEnd g env.locals { s with heap := h, toks := tk } I it (fun m' n' => lp ∈ n' ∧ ListRest pg w A E g env x body Q s I lp r m' n') s₂ := by
      rintro ⟨h', tk', m', n', e, F', N', ho, hm', hJ'⟩
      exact ⟨h', tk', m', n', e, F', N', ho, hlp _ _ hJ', rest_inv J hlp step last r m' n' hm' hJ'⟩
    cases f with
    | ret v => exact q
    | brk => exact q
    | next => exact fin q
    | cont => exact fin q
theorem rest_inv0 {I : Addr} {lp : Addr × Obj} {m₀ : Str → Option Value} {vs : List Value} {news : List (Addr × Obj)} (J : List Value → List (Addr × Obj) → Prop) (hJ : J vs news) (hlp : ∀ vs news, J vs news → lp ∈ news)
    (step : ∀ v r news it h tk, J (v :: r) news → it.cls = .type "list_iterator" → Fr g env.locals h (fun y => if y = x then some v else m₀ y) → News g env.locals h ((I, it) :: news) →
      wpAny (model pg w) A (execs body env) (UnrPost g env.locals { s with heap := h, toks := tk } I it (fun m' n' => (∀ y, y ≠ x → m' y = m₀ y) ∧ J r n') Q) E { s with heap := h, toks := tk })
    (last : ∀ u news h tk, J [] news → Fr g env.locals h (fun y => if y = x then u else m₀ y) → News g env.locals h news → Q .next { s with heap := h, toks := tk }) :
    ListRest pg w A E g env x body Q s I lp vs m₀ news := rest_inv J hlp step last vs m₀ news (fun _ _ => rfl) hJ
end

end
section
theorem kwo_Cmp : True := by
  k_with_none
  w_top off
  k_with "execs cons Assign cons" => (with_reducible refine seqN ?_); intro Qk1 nk1
  k_with "execs cons AugAssign cons" => (with_reducible refine seqN ?_); intro Qk1 nk1
  k_with "execs cons Expr cons" => (with_reducible refine seqN ?_); intro Qk1 nk1
  k_with "execs cons If cons" => (with_reducible refine seqQ ?_); intro Qk1 nk1 rk1
  k_with "execs cons For cons" => (with_reducible refine seqQ ?_); intro Qk1 nk1 rk1
  k_with "execs cons" => (with_reducible refine seq1 ?_)
  k_with "eval Constant int" => (with_reducible refine cInt ?_); intro tq1 kq1
  k_with "eval Constant str" => (with_reducible refine cStr ?_); intro tq1 kq1
  k_with "eval Name" => (k_here; k_dflt (refine' nameL ?Fn1 ?bn1 ?vn1 ?_; (case bn1 => decide +kernel); (case Fn1 => with_reducible assumption); (case vn1 => exact rfl); k_whole))
  exact trivial
/-! a list of pairs, made by a comprehension over a dict -/
section
variable {w : World} {A : Around} {E : Value → Shared → Prop} {s : Shared} {h₀ : Heap} {L : Addr} {m : Str → Option Value} {env : Env} {elt iter : PySem.Expr} {x : Str} {px pos : Pos} {scope : Scope} {cl : List (Str × Addr)}
def SrcD (w : World) (A : Around) (h₀ : Heap) (L : Addr) (m : Str → Option Value) (env : Env) (elt : PySem.Expr) (x : Str) (scope : Scope) (cl : List (Str × Addr)) (Fin : Shared → List Value → List (Addr × Obj) → Prop) (xv : Value) (s₁ : Shared) : Prop :=
  ∃ d od kvs W, xv = .ref d ∧ A.handled = none ∧ Fr h₀ L s₁.heap m ∧ News h₀ L s₁.heap W ∧ (d, od) ∈ W ∧ od.IsDictOf (SD w) kvs ∧ (d == sysModules) = false ∧ kvs.length ≤ sizeLine ∧
    ∀ s₂ : Shared, (∃ h, s₂ = { s₁ with heap := h }) → LCg.CompRest pg w A h₀ L m env elt x scope cl s₂ (fun nw => (d, od) ∈ nw) (fun i v => ∃ k y, kvs[i]? = some (k, y) ∧ (SD w).is k v = true) (Fin s₂) kvs.length 0 [] W
theorem SrcD.intro {Fin : Shared → List Value → List (Addr × Obj) → Prop} {d : Addr} {od : Obj} {kvs : List (Str × Value)} {W : List (Addr × Obj)} {s₁ : Shared} (hh : A.handled = none) (F : Fr h₀ L s₁.heap m) (N : News h₀ L s₁.heap W) (hm : (d, od) ∈ W) (hd : od.IsDictOf (SD w) kvs) (lo : (d == sysModules) = false) (hz : kvs.length ≤ sizeLine)
    (h : ∀ g, LCg.CompRest pg w A h₀ L m env elt x scope cl { s₁ with heap := g } (fun nw => (d, od) ∈ nw) (fun i v => ∃ k y, kvs[i]? = some (k, y) ∧ (SD w).is k v = true) (Fin { s₁ with heap := g }) kvs.length 0 [] W) : SrcD w A h₀ L m env elt x scope cl Fin (.ref d) s₁ :=
  ⟨d, od, kvs, W, rfl, hh, F, N, hm, hd, lo, hz, fun _ ⟨g, e⟩ => e ▸ h g⟩
theorem ListComp_D {Q : Value → Shared → Prop} (_F : Fr h₀ L s.heap m)
    (hclos : closureFor scope env = pure cl) (hcell : ∀ y ∈ scope.names, y.2 ≠ .cell) (hkind : scope.kind = .function)
    (hnames : ∀ y ∈ scope.names, y.2 = .local → scope.names.lookup y.1 = some .local) (hx : scope.names.lookup x = some .local)
    (h : wpAny (model pg w) A (eval iter env) (SrcD w A h₀ L m env elt x scope cl (fun s₂ => LCg.FinE h₀ L m s₂ Q)) E s)
    (hs : ∀ x, foldedSetIterable iter env x = pure x := by intro _; rfl) :
    wpAny (model pg w) A (eval (.ListComp elt [⟨.Name x px, iter, [], 0⟩] scope pos) env) Q E s := by
  rw [eval_ListComp]
  refine wpAny_comprehension_free (use := none) rfl hs hclos hkind hnames (wpAny_mono h (fun xv s₁ h₁ => ?_) fun _ _ e => e)
  obtain ⟨d, od, kvs, W, rfl, hh, F, N, hm, hd, lo, hsz, R⟩ := h₁
  obtain ⟨ep, ha⟩ := KdkAt.of hd
  have hdt := ha.dictAt (N _ hm).1
  have hlt : d < s₁.heap.objs.size := Heap.lt_size (N _ hm).1
  refine wpAny_pyIter_dict lo hdt ?_
  have up : ∀ b o, s₁.heap.get? b = some o → (s₁.heap.push { cls := .type "dict_keyiterator", data := .fields #[.ref d, .int 0 0, .int (kvs.length : Int) 0, .int (ep : Int) 0] }).get? b = some o := fun b o e => Heap.get?_push_of_some _ e
  refine LCg.block_U (Walks.dictKeys (knd := SD w) hh s₁.heap.objs.size d (Nat.ne_of_lt hlt) kvs ep) hsz (fun i h st => by obtain ⟨o, e, _⟩ := st.1; exact ⟨o, e⟩) (S := fun nw => (d, od) ∈ nw) ?_ hcell hkind hx ⟨⟨_, Heap.get?_push_size _ rfl, rfl, rfl⟩, ha.dictAt (up _ _ (N _ hm).1)⟩ (fun b hb => ?_)
      (F.keeps up) (N.grown up) (Nat.ne_of_lt F.ns.lt) (next_is_new F) (fun p hp => Nat.ne_of_lt (Heap.lt_size (N p hp).1)) hm (R _ ⟨_, rfl⟩) ?_
  · intro i h h' o nw st e e' k N' S'
    refine ⟨?_, ha.dictAt (N' _ S').1⟩
    obtain ⟨o', q, r⟩ := st.1
    rw [e] at q; cases q
    exact ⟨o, e', r⟩
  · show b < (s₁.heap.push _).objs.size
    rw [Heap.size_push]
    rcases List.mem_cons.mp hb with rfl | hb
    · exact Nat.lt_succ_self _
    · rw [List.mem_singleton.mp hb]; exact Nat.lt_succ_of_lt hlt
  · intro D C h tk m' ys news' F' N' o1 hn hC₀ hD₀ hCL hDL hCD offC fin
    refine ⟨m', hn, fun h'' hs'' => fin D h'' tk (F'.change hs'' hCL hC₀) (fun p hp => ?_) o1⟩
    refine ⟨hs''.extBut _ _ ?_ (N' p hp).1, (N' p hp).2⟩
    rcases List.mem_cons.mp hp with rfl | hp
    · exact Ne.symm hCD
    · exact offC p hp

/-! the pairs -/
def PairsIn (w : World) (nw : List (Addr × Obj)) (ys : List Value) (ks : List (Str × Value)) : Prop :=
  ys.length = ks.length ∧ ∀ (i : Nat) k v, ks[i]? = some (k, v) → ∃ t key o n, ys[i]? = some (Value.ref t) ∧ (t, o) ∈ nw ∧ o.cls = .type "tuple" ∧ o.data = .seq #[key, v] n ∧ (SD w).is k key = true
theorem PairsIn.heap {nw : List (Addr × Obj)} {ys : List Value} {ks : List (Str × Value)} {h : Heap} (H : PairsIn w nw ys ks) (N : News h₀ L h nw) : PairsH (SD w) h ys.toArray ks :=
  ⟨by rw [List.size_toArray]; exact H.1, fun i k v e => let ⟨t, key, o, n, e1, e2, e3, e4, e5⟩ := H.2 i k v e; ⟨t, key, o, n, by simpa using e1, (N _ e2).1, e3, e4, e5⟩⟩
theorem PairsIn.nil {nw : List (Addr × Obj)} : PairsIn w nw [] [] := ⟨rfl, fun i k v e => by simp at e⟩
theorem PairsIn.mono {nw nw' : List (Addr × Obj)} {ys : List Value} {ks : List (Str × Value)} (H : PairsIn w nw ys ks) (hs : ∀ p ∈ nw, p ∈ nw') : PairsIn w nw' ys ks :=
  ⟨H.1, fun i k v e => let ⟨t, key, o, n, e1, e2, e3, e4, e5⟩ := H.2 i k v e; ⟨t, key, o, n, e1, hs _ e2, e3, e4, e5⟩⟩
theorem PairsIn.snoc {nw nw' : List (Addr × Obj)} {ys : List Value} {ks : List (Str × Value)} {k : Str} {v key : Value} {t : Addr} {o : Obj} {n : Nat} (H : PairsIn w nw ys ks) (hs : ∀ p ∈ nw, p ∈ nw') (h1 : (t, o) ∈ nw') (h2 : o.cls = .type "tuple") (h3 : o.data = .seq #[key, v] n) (h4 : (SD w).is k key = true) : PairsIn w nw' (ys ++ [.ref t]) (ks ++ [(k, v)]) := by
  refine ⟨by rw [List.length_append, List.length_append, H.1]; rfl, fun i k' v' e => ?_⟩
  rcases Nat.lt_or_ge i ks.length with q | q
  · rw [List.getElem?_append_left q] at e
    obtain ⟨t', key', o', n', e1, e2, e3, e4, e5⟩ := H.2 i k' v' e
    exact ⟨t', key', o', n', by rw [List.getElem?_append_left (by rw [H.1]; exact q)]; exact e1, hs _ e2, e3, e4, e5⟩
  · rw [List.getElem?_append_right q] at e
    obtain ⟨z, e⟩ : i - ks.length = 0 ∧ (k, v) = (k', v') := by
      cases z : i - ks.length with
      | zero => rw [z] at e; exact ⟨rfl, by simpa using e⟩
      | succ j => rw [z] at e; simp at e
    cases e
    exact ⟨t, key, o, n, by rw [List.getElem?_append_right (by rw [H.1]; exact q), H.1, z]; rfl, h1, h2, h3, h4⟩
def ElemEnd (w : World) (h₀ : Heap) (L : Addr) (m : Str → Option Value) (s₁ : Shared) (I : Addr) (oI : Obj) (C : Addr) (oC : Obj) (D : Addr) (oD : Obj) (W tups : List (Addr × Obj)) (R : List (Addr × Obj) → Str → Value → Prop) (k : Str) (y : Value) (s₂ : Shared) : Prop :=
  ∃ h' tk t key v o n extra, y = .ref t ∧ s₂ = { s₁ with heap := h', toks := tk } ∧ Fr h₀ L h' m ∧ News h₀ L h' ((I, oI) :: (C, oC) :: (D, oD) :: (W ++ (extra ++ tups))) ∧ LCg.Off3 I C D (W ++ (extra ++ tups)) ∧ (t, o) ∈ extra ∧ o.cls = .type "tuple" ∧ o.data = .seq #[key, v] n ∧ (SD w).is k key = true ∧ R (extra ++ tups) k v
theorem rest_pairs {d : Addr} {od : Obj} {kvs : List (Str × Value)} {W : List (Addr × Obj)} (R : List (Addr × Obj) → Str → Value → Prop) (hR : ∀ a b k v, R b k v → R (a ++ b) k v) (hm : (d, od) ∈ W) {Fin : List Value → List (Addr × Obj) → Prop}
    (step : ∀ (i : Nat) k y v tups ys I oI C oC D m₂ h tk E', kvs[i]? = some (k, y) → (SD w).is k v = true → LCg.NsObj oC m₂ → m₂ x = some v → Fr h₀ L h m → News h₀ L h ((I, oI) :: (C, oC) :: (D, LCg.lst ys) :: (W ++ tups)) → LCg.Off3 I C D (W ++ tups) → ((@Ne Nat I C) ∧ (@Ne Nat I D) ∧ (@Ne Nat C D)) →
      wpAny (model pg w) A (eval elt (compEnvC scope cl C env)) (ElemEnd w h₀ L m { s with heap := h, toks := tk } I oI C oC D (LCg.lst ys) W tups R k) E' { s with heap := h, toks := tk })
    (fin : ∀ ys tups ks, PairsIn w (W ++ tups) ys ks → ks.map (·.1) = kvs.map (·.1) → (∀ p ∈ ks, R tups p.1 p.2) → Fin ys (W ++ tups)) :
    ∀ (k i : Nat) ys tups ks, kvs.length - i = k → i ≤ kvs.length → PairsIn w (W ++ tups) ys ks → ks.map (·.1) = (kvs.take i).map (·.1) → (∀ p ∈ ks, R tups p.1 p.2) →
      LCg.CompRest pg w A h₀ L m env elt x scope cl s (fun nw => (d, od) ∈ nw) (fun i v => ∃ k y, kvs[i]? = some (k, y) ∧ (SD w).is k v = true) Fin k i ys (W ++ tups)
  | 0, i, ys, tups, ks, hk, hi, hp, hks, hr => LCg.CompRest.zero (fin ys tups ks hp (by rw [hks, List.take_of_length_le (by omega)]) hr)
  | k + 1, i, ys, tups, ks, hk, hi, hp, hks, hr => LCg.CompRest.succ fun v I oI C oC D m₂ h tk E' hP hoC hmx F N off ne => by
    obtain ⟨kk, y, e1, e2⟩ := hP
    refine wpAny_mono (step i kk y v tups ys I oI C oC D m₂ h tk E' e1 e2 hoC hmx F N off ne) (fun yv s₂ H => ?_) fun _ _ e => e
    obtain ⟨h', tk', t, key, v', o, n, extra, rfl, rfl, F', N', off', ht, hc, hdt, hkey, hRv⟩ := H
    have mono : ∀ p ∈ W ++ tups, p ∈ W ++ (extra ++ tups) := fun p hp => (List.mem_append.mp hp).elim (fun q => List.mem_append_left _ q) fun q => List.mem_append_right _ (List.mem_append_right _ q)
    refine ⟨h', tk', W ++ (extra ++ tups), rfl, F', N', off', List.mem_append_left _ hm, ?_⟩
    refine rest_pairs R hR hm step fin k (i + 1) (ys ++ [.ref t]) (extra ++ tups) (ks ++ [(kk, v')]) (by omega) (by omega) (hp.snoc mono (List.mem_append_right _ (List.mem_append_left _ ht)) hc hdt hkey) ?_ ?_
    · rw [List.take_add_one, e1, List.map_append, List.map_append, hks]; rfl
    · intro p hp
      rcases List.mem_append.mp hp with hp | hp
      · exact hR _ _ _ _ (hr p hp)
      · rw [List.mem_singleton.mp hp]; exact hRv
theorem rest_all {d : Addr} {od : Obj} {kvs : List (Str × Value)} {W : List (Addr × Obj)} (R : List (Addr × Obj) → Str → Value → Prop) (hR : ∀ a b k v, R b k v → R (a ++ b) k v) (hm : (d, od) ∈ W) {Fin : List Value → List (Addr × Obj) → Prop}
    (step : ∀ (i : Nat) k y v tups ys I oI C oC D m₂ h tk E', kvs[i]? = some (k, y) → (SD w).is k v = true → LCg.NsObj oC m₂ → m₂ x = some v → Fr h₀ L h m → News h₀ L h ((I, oI) :: (C, oC) :: (D, LCg.lst ys) :: (W ++ tups)) → LCg.Off3 I C D (W ++ tups) → ((@Ne Nat I C) ∧ (@Ne Nat I D) ∧ (@Ne Nat C D)) →
      wpAny (model pg w) A (eval elt (compEnvC scope cl C env)) (ElemEnd w h₀ L m { s with heap := h, toks := tk } I oI C oC D (LCg.lst ys) W tups R k) E' { s with heap := h, toks := tk })
    (fin : ∀ ys tups ks, PairsIn w (W ++ tups) ys ks → ks.map (·.1) = kvs.map (·.1) → (∀ p ∈ ks, R tups p.1 p.2) → Fin ys (W ++ tups)) :
    LCg.CompRest pg w A h₀ L m env elt x scope cl s (fun nw => (d, od) ∈ nw) (fun i v => ∃ k y, kvs[i]? = some (k, y) ∧ (SD w).is k v = true) Fin kvs.length 0 [] W := by
  have H := rest_pairs R hR hm step fin kvs.length 0 [] [] [] rfl (Nat.zero_le _) PairsIn.nil rfl (fun p hp => nomatch hp)
  rw [List.append_nil] at H
  exact H
theorem off3_mid {I C D : Addr} {W extra tups : List (Addr × Obj)} (off0 : LCg.Off3 I C D (W ++ tups)) (o2 : LCg.Off3 I C D extra) : LCg.Off3 I C D (W ++ (extra ++ tups)) := by
  have key : ∀ p ∈ W ++ (extra ++ tups), p.1 ≠ I ∧ p.1 ≠ C ∧ p.1 ≠ D := by
    intro p hp
    have h0 := fun q => LCg.Off3.mem off0 p q
    have h2 := fun q => LCg.Off3.mem o2 p q
    rcases List.mem_append.mp hp with hp | hp
    · exact h0 (List.mem_append_left _ hp)
    · rcases List.mem_append.mp hp with hp | hp
      · exact h2 hp
      · exact h0 (List.mem_append_right _ hp)
  exact LCg.Off3.of key
theorem ElemEnd.intro {s₁ : Shared} {I C D t : Addr} {oI oC oD o : Obj} {W tups all : List (Addr × Obj)} {R : List (Addr × Obj) → Str → Value → Prop} {k : Str} {h' : Heap} {tk n : Nat} {key v : Value} (extra : List (Addr × Obj)) (F : Fr h₀ L h' m) (N : News h₀ L h' all) (off0 : LCg.Off3 I C D (W ++ tups))
    (s1 : ∀ p ∈ (I, oI) :: (C, oC) :: (D, oD) :: W, p ∈ all) (s2 : ∀ p ∈ extra, p ∈ all) (s3 : ∀ p ∈ tups, p ∈ all) (o2 : LCg.Off3 I C D extra) (ht : (t, o) ∈ extra) (hc : o.cls = .type "tuple") (hd : o.data = .seq #[key, v] n) (hk : (SD w).is k key = true) (hR : R (extra ++ tups) k v) :
    ElemEnd w h₀ L m s₁ I oI C oC D oD W tups R k (.ref t) { s₁ with heap := h', toks := tk } := by
  unfold ElemEnd
  refine ⟨h', tk, t, key, v, o, n, extra, rfl, rfl, F, ?_, ?_, ht, hc, hd, hk, hR⟩
  · intro p hp
    refine N p ?_
    exact (List.mem_append.mp (show p ∈ ((I, oI) :: (C, oC) :: (D, oD) :: W) ++ (extra ++ tups) from hp)).elim (s1 p) fun q => (List.mem_append.mp q).elim (s2 p) (s3 p)
  · exact off3_mid off0 o2
/-! dict(..) of the list, within a walk -/
theorem dict_K {l : Addr} {ys : List Value} {ks : List (Str × Value)} {W : List (Addr × Obj)} {Q : Value → Shared → Prop} (hA : A.handled = none) (F : Fr h₀ L s.heap m) (N : News h₀ L s.heap W) (hm : (l, LCg.lst ys) ∈ W) (hp : PairsIn w W ys ks) (hz : ks.length ≤ sizeLine)
    (hret : ∀ d od h' tk, od.IsDictOf (SD w) (merged [] ks) → Fr h₀ L h' m → News h₀ L h' ((d, od) :: W) → (∀ p ∈ W, p.1 < d) → s.heap.StaysIn h' → Q (.ref d) { s with heap := h', toks := tk }) :
    wpAny (model pg w) A (PySem.call (.type "dict") [.ref l]) Q E s := by
  refine call_dict_pairs (knd := SD w) hA (N.get hm) (hp.heap N) hz fun d h' tk hd st hn => ?_
  obtain ⟨od, e, hod⟩ := Heap.dictOf_iff.mp hd
  refine hret d od h' tk hod (F.keeps st) (fun p hp => ?_) (fun p hp => hn _ _ (N p hp).1) st
  rcases List.mem_cons.mp hp with rfl | hp
  · refine ⟨e, fun q => ?_, ?_⟩
    · have q' : d = L := q
      obtain ⟨oL, _, _, hL, _⟩ := F.ns
      exact absurd (hn _ _ hL) (by rw [q']; exact Nat.lt_irrefl _)
    · cases z : h₀.get? d with
      | none => rfl
      | some o' => exact absurd (hn _ _ (F.keep _ _ z)) (Nat.lt_irrefl _)
  · exact ⟨st _ _ (N p hp).1, (N p hp).2⟩
/-! found.update(..) of the list -/
theorem update_K {d l : Addr} {od : Obj} {ys : List Value} {base ks : List (Str × Value)} {W : List (Addr × Obj)} {Q : Value → Shared → Prop} (W' : List (Addr × Obj)) (hA : A.handled = none) (F : Fr h₀ L s.heap m) (N : News h₀ L s.heap W) (hm' : (d, od) ∈ W) (hd : od.IsDictOf (SD w) base) (hm : (l, LCg.lst ys) ∈ W) (hp : PairsIn w W ys ks) (hz : base.length + ks.length ≤ sizeLine)
    (sub : ∀ p ∈ W', p ∈ W) (ne : ∀ p ∈ W', p.1 ≠ d)
    (hret : ∀ od h' tk, od.IsDictOf (SD w) (merged base ks) → Fr h₀ L h' m → News h₀ L h' ((d, od) :: W') → (∀ b o, b ≠ d → s.heap.get? b = some o → h'.get? b = some o) → Q .none { s with heap := h', toks := tk }) :
    wpAny (model pg w) A (PySem.call (.builtin "dict.update") [.ref d, .ref l]) Q E s := by
  have n := N _ hm'
  have hdl : d ≠ l := fun q => by
    have e := n.1
    rw [show (d, od).1 = l from q, N.get hm] at e
    cases e
    obtain ⟨_, _, c, _⟩ := hd
    exact absurd c.1 (by show ¬ (Value.type "list" = Value.type "dict"); decide)
  refine call_update_pairs (knd := SD w) hA hdl (Heap.dictOf_iff.mpr ⟨od, n.1, hd⟩) (N.get hm) (hp.heap N) hz fun h' tk hd' k => ?_
  obtain ⟨od', e, hod⟩ := Heap.dictOf_iff.mp hd'
  refine hret od' h' tk hod ⟨F.ns.at' fun o e => k _ o (Ne.symm n.2.1) e, fun b o e => k b o (fun q => by rw [q, n.2.2] at e; cases e) (F.keep b o e), F.above⟩ (fun p hp => ?_) k
  rcases List.mem_cons.mp hp with rfl | hp
  · exact ⟨e, n.2⟩
  · exact ⟨k _ _ (ne p hp) (N p (sub p hp)).1, (N p (sub p hp)).2⟩
end

end
section
theorem kwo_Cst : True := by
  k_with_none
  w_top off
  k_with "execs cons Assign cons" => (with_reducible refine seqN ?_); intro Qk1 nk1
  k_with "execs cons AugAssign cons" => (with_reducible refine seqN ?_); intro Qk1 nk1
  k_with "execs cons Expr cons" => (with_reducible refine seqN ?_); intro Qk1 nk1
  k_with "execs cons If cons" => (with_reducible refine seqQ ?_); intro Qk1 nk1 rk1
  k_with "execs cons For cons" => (with_reducible refine seqQ ?_); intro Qk1 nk1 rk1
  k_with "execs cons" => (with_reducible refine seq1 ?_)
  k_with "eval Constant int" => (with_reducible refine cInt ?_); intro tq1 kq1
  k_with "eval Constant str" => (with_reducible refine cStr ?_); intro tq1 kq1
  k_with "eval Name" => (k_here; k_dflt (refine' nameL ?Fn1 ?bn1 ?vn1 ?_; (case bn1 => decide +kernel); (case Fn1 => with_reducible assumption); (case vn1 => exact rfl); k_whole))
  exact trivial
theorem fillit40 (P : Params) : hd.heap_1 P = hd.heap_1 P ∧ PySem.Challenge.rw_pq0711_01 = PySem.Challenge.rw_pq0711_01 := by
  k_fill
  exact ⟨rfl, rfl⟩
section
variable {w : World} {fr : List Env} {S : Heap} {p : Program} {loose : List Str} {mean : ExcName → Option Value} {mg mb : Str → Option Value} {s : Shared} {Q E : Value → Shared → Prop}
theorem kw_Cst_1 : True := by
  k_with "eval ListComp" => (k_here; k_dflt (refine ListComp_D (by k_asm) (by with_unfolding_all rfl) (by decide) (by rfl) (by decide) (by rfl) ?_))
  exact trivial
theorem kw_Cst_2 : True := by
  k_with "getMethod ref" => (k_here; (with_reducible show wpAny _ _ (getMethod (Value.ref _) (PySem.Str.ofString "update") _) _ _ _); k_dflt (refine kdl_method (knd := PySem.strKind _ _) PySem.F.slot_dict_update PySem.F.type_dict_update (by k_asm) (by k_mem) (by k_asm) ?_))
  exact trivial
theorem kw_Cst_3 : True := by
  k_with "getItem ref str" => (k_here; k_dflt (refine dget (by k_asm) (by k_mem) (by k_asm) (by assumption) ?_))
  exact trivial
theorem kw_Cst_4 : True := by
  k_with "SrcD" => (refine hold ?_)
  exact trivial
theorem kw_Cst_5 : True := by
  k_with "ElemEnd" => (refine hold ?_)
  exact trivial
theorem unhold {p : Prop} (h : p) : Hold p := h
theorem lenK {ks kk : List (Str × Value)} (h : ks.map (·.1) = kk.map (·.1)) : ks.length = kk.length := by rw [← List.length_map (f := (·.1)) (as := ks), h, List.length_map]
def RTwo (nw : List (Addr × Obj)) (k : Str) (v : Value) : Prop := ∃ t a b, v = .ref t ∧ (t, twoTup k a b) ∈ nw
theorem RTwo.mono (a b : List (Addr × Obj)) (k : Str) (v : Value) (h : RTwo b k v) : RTwo (a ++ b) k v := let ⟨t, x, y, e, m⟩ := h; ⟨t, x, y, e, List.mem_append_right _ m⟩
theorem kw_Cst_6 : True := by
  k_with "call type:dict" => (k_here; refine hold ?_)
  exact trivial
theorem kw_Cst_7 : True := by
  k_with "call builtin:dict.update" => (k_here; refine hold ?_)
  exact trivial
def CstRet (w : World) (kvs kf : List (Str × Value)) (s : Shared) (Q : Value → Shared → Prop) : Prop :=
  ∀ d od ks ks2 h' tk', h'.get? d = some od → od.IsDictOf (SD w) (merged (merged [] ks) ks2) → ks.map (·.1) = kB.map (·.1) → (∀ p ∈ ks, ∃ t a b, p.2 = .ref t ∧ h'.get? t = some (twoTup p.1 a b)) → ks2.map (·.1) = kf.map (·.1) →
    (∀ p ∈ ks2, valueAt kvs p.1 = some p.2) → s.heap.StaysIn h' → s.heap.get? d = none → Q (.ref d) { s with heap := h', toks := tk' }
set_option maxHeartbeats 0 in
theorem constants_spec {nm dN bi dv df : Addr} {o od : Obj} {kvs kf : List (Str × Value)}
    (C : FrOk S fr s.heap) (X : (hd.heap_1 w.params).In S) (H1 : S.get? 1 = some (boot_o_1 w.params)) (T : Top p loose mean mg mb S)
    (G : GL w s.heap nm dN bi dv df) (ho : s.heap.get? dv = some o) (hdo : o.IsDictOf (SD w) kvs) (hod : s.heap.get? df = some od) (hdd : od.IsDictOf (SD w) kf)
    (f1 : Off S fr nm) (f2 : Off S fr dN) (f3 : Off S fr bi) (f4 : Off S fr dv) (f5 : Off S fr df) (ord : @LT.lt Nat _ bi dN ∧ @LT.lt Nat _ dN nm ∧ @LT.lt Nat _ nm dv ∧ @LT.lt Nat _ dv df)
    (hkf : ∀ p ∈ kf, ∃ v, valueAt kvs p.1 = some v) (hl1 : kvs.length ≤ 900) (hl2 : kf.length ≤ 900) (hret : CstRet w kvs kf s Q) :
    wpAny (model pg w) (Ap 3 fr) (PySem.call (.ref 184) [.ref nm]) Q E s := by
  obtain ⟨hi, ⟨ha, hb, hc, ta, tb, tc, nn, hdN⟩, ob, hob, hobd⟩ := G
  have lo := dict_low H1 f4.1
  have lob := dict_low H1 f3.1
  have lod := dict_low H1 f5.1
  obtain ⟨o1, o2, o3, o4⟩ := ord
  have hW : ∀ p ∈ [(nm, instObj 201 dN), (dN, gD bi dv df ha hb hc ta tb tc nn), (bi, ob), (dv, o), (df, od)], s.heap.get? p.1 = some p.2 :=
    List.forall_mem_cons.mpr ⟨hi, List.forall_mem_cons.mpr ⟨hdN, List.forall_mem_cons.mpr ⟨hob, List.forall_mem_cons.mpr ⟨ho, List.forall_mem_cons.mpr ⟨hod, List.forall_mem_nil _⟩⟩⟩⟩⟩
  refine enterCT _ rfl C X T (by k_is) (by k_is) (show 460 < 1000 by decide) (BindsTo.of_eq (binds := [(Str.ofString "self", .ref nm)]) rfl) (kindsX rfl) (by decide) hW ?_ ?_ rfl rfl rfl ?_
  · exact List.forall_mem_cons.mpr ⟨f1.1, List.forall_mem_cons.mpr ⟨f2.1, List.forall_mem_cons.mpr ⟨f3.1, List.forall_mem_cons.mpr ⟨f4.1, List.forall_mem_cons.mpr ⟨f5.1, List.forall_mem_nil _⟩⟩⟩⟩⟩
  · exact List.forall_mem_cons.mpr ⟨f1.2, List.forall_mem_cons.mpr ⟨f2.2, List.forall_mem_cons.mpr ⟨f3.2, List.forall_mem_cons.mpr ⟨f4.2, List.forall_mem_cons.mpr ⟨f5.2, List.forall_mem_nil _⟩⟩⟩⟩⟩
  intro Q₁ g L' h₁ tk cells env m₀ rq nq F N Y B Xg Tg hg sz lt fc
  k_cells Y
  simp only [List.cons_append, List.nil_append] at N
  k_steps
  refine unhold ?_
  rename Fr _ _ _ _ => Fx
  rename News _ _ _ _ => Nx
  refine SrcD.intro rfl Fx Nx (by k_mem) hobd lob (by decide) fun g' => ?_
  refine rest_all RTwo RTwo.mono (by k_mem) ?_ ?_
  · intro i k y v tups ys I oI C' oC D m₂ h tk E' e1 e2 hoC hmx Fy Ny off ne
    obtain ⟨t', rfl⟩ := PySem.Value.isStrOf_shape e2
    have off0 := off
    simp only [List.cons_append, List.nil_append] at Ny off
    simp only [LCg.Off3] at off
    k_steps
    refine unhold ?_
    rename Fr _ _ _ _ => Fz
    rename News _ _ _ _ => Nz
    refine ElemEnd.intro [_, _] Fz Nz off0 (by lcg_sub) (by lcg_sub) (fun p hp => by repeat' (first | exact hp | refine List.Mem.tail _ ?_)) (by lcg_off) (.head _) rfl rfl e2 ⟨_, _, _, rfl, .tail _ (.head _)⟩
  · intro ys tups ks hp hk hr
    unfold LCg.FinE
    intro D' h' tk F' N' o1'
    clear Fx Nx
    simp only [List.cons_append, List.nil_append] at N'
    k_steps
    refine unhold ?_
    rename Fr _ _ _ _ => Fx
    rename News _ _ _ _ => Nx
    refine dict_K rfl Fx Nx (.head _) (hp.mono fun p hp => .tail _ hp) (by rw [lenK hk]; decide) ?_
    intro d od2 h2 tk2 hd2 F2 N2 l2 st2
    k_lt l2
    clear Fx Nx
    k_steps
    refine unhold ?_
    rename Fr _ _ _ _ => Fx
    rename News _ _ _ _ => Nx
    refine SrcD.intro rfl Fx Nx (by k_mem) hdd lod (by have e : sizeLine = 16777216 := rfl; omega) fun g' => ?_
    refine rest_all (fun _ k v => valueAt kvs k = some v) (fun _ _ _ _ h => h) (by k_mem) ?_ ?_
    · intro i k y v tups2 ys I oI C' oC D m₂ h tk E' e1 e2 hoC hmx Fy Ny off ne
      obtain ⟨t', rfl⟩ := PySem.Value.isStrOf_shape e2
      obtain ⟨vv, hvv⟩ := hkf _ (List.mem_of_getElem? e1)
      have off0 := off
      simp only [List.cons_append, List.nil_append] at Ny off
      simp only [LCg.Off3] at off
      k_steps
      refine unhold ?_
      rename Fr _ _ _ _ => Fz
      rename News _ _ _ _ => Nz
      refine ElemEnd.intro [_] Fz Nz off0 (by repeat' (first | exact fun p hp => by repeat' (first | exact List.mem_append_left _ hp | refine List.Mem.tail _ ?_) | refine List.forall_mem_cons.mpr ⟨by k_mem, ?_⟩)) (by lcg_sub) (fun p hp => by repeat' (first | exact List.mem_append_right _ hp | refine List.Mem.tail _ ?_)) (by lcg_off) (.head _) rfl rfl e2 hvv
    · intro ys2 tups2 ks2 hp2 hk2 hr2
      unfold LCg.FinE
      intro D2 h3 tk3 F3 N3 o3'
      simp only [List.cons_append, List.nil_append] at N3
      k_steps
      refine unhold ?_
      rename Fr _ _ _ _ => Fx2
      rename News _ _ _ _ => Nx2
      refine update_K [(nm, instObj 201 dN), (dN, gD bi dv df ha hb hc ta tb tc nn), (bi, ob), (dv, o), (df, od)] rfl Fx2 Nx2 (.tail _ (.head _)) hd2 (.head _) (hp2.mono fun p hp => ?_) ?_ (by lcg_sub) ?_ ?_
      · refine List.mem_cons_of_mem _ ?_
        simpa only [List.cons_append, List.append_assoc] using hp
      · have e1 := merged_length_le [] ks
        have e2 := lenK hk2
        have e3 := lenK hk
        have e4 : kB.length = 2 := rfl
        have e : sizeLine = 16777216 := rfl
        simp only [List.length_nil] at e1
        omega
      · refine List.forall_mem_cons.mpr ⟨?_, List.forall_mem_cons.mpr ⟨?_, List.forall_mem_cons.mpr ⟨?_, List.forall_mem_cons.mpr ⟨?_, List.forall_mem_cons.mpr ⟨?_, List.forall_mem_nil _⟩⟩⟩⟩⟩ <;> k_ne
      intro od4 h4 tk4 hd4 F4 N4 k4
      have tw : ∀ p ∈ ks, ∃ t a b, p.2 = .ref t ∧ h4.get? t = some (twoTup p.1 a b) := fun p hp => by
        obtain ⟨t, a, b, e, m⟩ := hr p hp
        have q := Nx2.get (show (t, twoTup p.1 a b) ∈ _ from by repeat' (first | exact List.mem_append_left _ m | refine List.Mem.tail _ ?_))
        refine ⟨t, a, b, e, k4 _ _ (fun z => ?_) q⟩
        have q2 := Nx2.get (show (d, od2) ∈ _ from .tail _ (.head _))
        rw [z, q2] at q
        cases q
        exact dict_cls hd2 rfl
      clear Fx2 Nx2
      k_steps
      (try dsimp only)
      rename Fr _ _ _ _ => Fz
      rename News _ _ _ _ => Nz
      have st := kp_ro Fz Nz hg hW (by lcg_sub)
      refine hret d od4 ks ks2 _ _ (Nz.get (.head _)) hd4 hk tw hk2 hr2 st ?_
      cases e : s.heap.get? d with
      | none => rfl
      | some o' =>
        exfalso
        have n := (Nz _ (.head _)).2.2
        rw [hg d o' e ?_] at n
        · cases n
        · simp only [List.map_cons, List.map_nil, List.mem_cons, List.not_mem_nil, or_false, not_or]
          refine ⟨?_, ?_, ?_, ?_, ?_⟩ <;> (refine neN ?_; omega)
end

end
section
theorem kwo_Stg : True := by
  k_with_none
  w_top off
  k_with "execs cons Assign cons" => (with_reducible refine seqN ?_); intro Qk1 nk1
  k_with "execs cons AugAssign cons" => (with_reducible refine seqN ?_); intro Qk1 nk1
  k_with "execs cons Expr cons" => (with_reducible refine seqN ?_); intro Qk1 nk1
  k_with "execs cons If cons" => (with_reducible refine seqQ ?_); intro Qk1 nk1 rk1
  k_with "execs cons For cons" => (with_reducible refine seqQ ?_); intro Qk1 nk1 rk1
  k_with "execs cons" => (with_reducible refine seq1 ?_)
  k_with "eval Constant int" => (with_reducible refine cInt ?_); intro tq1 kq1
  k_with "eval Constant str" => (with_reducible refine cStr ?_); intro tq1 kq1
  k_with "eval Name" => (k_here; k_dflt (refine' nameL ?Fn1 ?bn1 ?vn1 ?_; (case bn1 => decide +kernel); (case Fn1 => with_reducible assumption); (case vn1 => exact rfl); k_whole))
  exact trivial
theorem fillit43 (P : Params) : hd.heap_1 P = hd.heap_1 P ∧ PySem.Challenge.rw_pq0711_01 = PySem.Challenge.rw_pq0711_01 := by
  k_fill
  exact ⟨rfl, rfl⟩
/-! a kind that is declared -/
inductive DeclAt (S : Heap) (fr : List Env) (h : Heap) (ws : List Nat) (v : Value) (nm : Str) : Prop
  | mk (b db pl fl : Addr) (sup ab : Value) (h1 h2 h3 h4 h5 h6 : Int) (t0 t1 t2 t3 t4 t5 t6 : Tok) (n c1 : Nat) (e0 : v = .ref b) (e1 : h.get? b = some (instObj 273 db)) (e2 : h.get? db = some (gC nm pl fl sup ab h1 h2 h3 h4 h5 h6 t0 t1 t2 t3 t4 t5 t6 n)) (e3 : h.get? pl = some (listOf #[] c1)) (f1 : Off S fr b) (f2 : Off S fr db) (f3 : Off S fr pl) (n1 : b ∉ ws) (n2 : db ∉ ws) (n3 : pl ∉ ws) : DeclAt S fr h ws v nm
section
variable {w : World} {fr : List Env} {A A₀ : Around} {S g : Heap} {L : Addr} {m : Str → Option Value} {env : Env} {p : Program} {loose : List Str} {mean : ExcName → Option Value} {mg mb : Str → Option Value} {s : Shared} {Q E : Value → Shared → Prop} {W : List (Addr × Obj)}
theorem DeclAt.gnd {h₀ : Heap} {ws : List Nat} {v : Value} {nm : Str} {W₀ : List (Addr × Obj)} (D : DeclAt S fr h₀ ws v nm) (hg : ∀ b o, h₀.get? b = some o → b ∉ W₀.map (·.1) → g.get? b = some o) (e : W₀.map (·.1) = ws) (sz : h₀.objs.size ≤ L) (hf : env.frame = some L) : DeclAt S (env :: fr) g ws v nm := by
  obtain ⟨b, db, pl, fl, sup, ab, h1, h2, h3, h4, h5, h6, t0, t1, t2, t3, t4, t5, t6, n, c1, rfl, e1, e2, e3, f4, f5, f6, n1, n2, n3⟩ := D
  have nL : h₀.get? L = none := by
    cases q : h₀.get? L with
    | none => rfl
    | some o => exact absurd (Heap.lt_size q) (Nat.not_lt.mpr sz)
  exact ⟨b, db, pl, fl, sup, ab, h1, h2, h3, h4, h5, h6, t0, t1, t2, t3, t4, t5, t6, n, c1, rfl, hg _ _ e1 (e ▸ n1), hg _ _ e2 (e ▸ n2), hg _ _ e3 (e ▸ n3), off_push f4 e1 nL hf, off_push f5 e2 nL hf, off_push f6 e3 nL hf, n1, n2, n3⟩
theorem sorted_S {d : Addr} {o : Obj} {kvs : List (Str × Value)} (hh : A.handled = none) (F : Fr g L s.heap m) (N : News g L s.heap W) (hp : (d, o) ∈ W) (hd : o.IsDictOf (SD w) kvs) (lo : (d == sysModules) = false) (hn : kvs.length ≤ 16777216)
    (h : ∀ (B : Addr) h' tk, KdlKeysS kvs fun vs => Fr g L h' m → News g L h' ((B, listOf vs.toArray 0) :: W) → (∀ q ∈ W, q.1 < B) →
      wpAny (model pg w) A.in1 (call (.builtin "list.sort") [.ref B]) (fun _ s' => Q (.ref B) s') E { s with heap := h', toks := tk }) :
    wpAny (model pg w) A (call (.builtin "sorted") [.ref d]) Q E s := by
  obtain ⟨ep, hat⟩ := (kda_dict N hp hd).dictAt
  refine kdu_sorted (kdl_dict (knd := SD w) (kvs := kvs) (ep := ep) lo) hh F N hat (kdl_size hn) fun B h' tk vs F' N' l1 hl hv => ?_
  refine kdl_openS (h B h' tk) vs hl (fun j u hu => ?_) F' N' l1
  obtain ⟨k, x, hx, hk⟩ := hv j u hu
  exact ⟨k, x, hx, Value.isStrOf_shape hk⟩
theorem sorted_B {K : Frag} {d : Addr} {es : Array DictEntry} {n : Nat} {kvs : List (Str × Value)} (hh : A.handled = none) (F : Fr g L s.heap m) (N : News g L s.heap W) (X₀ : K.In g) (hl : K.lookup d = some ⟨.type "dict", none, .dict es n, #[]⟩) (hk : KeysLit w.params es.toList) (hp : Pairs (SD w) es.toList kvs) (hnd : (kvs.map (·.1)).Nodup) (lo : (d == sysModules) = false) (hn : kvs.length ≤ 16777216)
    (h : ∀ (B : Addr) h' tk, KdlKeysS kvs fun vs => Fr g L h' m → News g L h' ((B, listOf vs.toArray 0) :: W) → (∀ q ∈ W, q.1 < B) →
      wpAny (model pg w) A.in1 (call (.builtin "list.sort") [.ref B]) (fun _ s' => Q (.ref B) s') E { s with heap := h', toks := tk }) :
    wpAny (model pg w) A (call (.builtin "sorted") [.ref d]) Q E s := by
  have hD : s.heap.DictOf (SD w) d kvs := ⟨_, es, n, (X₀.keeps F.keep) _ _ hl, ⟨rfl, rfl, rfl⟩, rfl, fun e he => by
    obtain ⟨x, t, e1, e2⟩ := hk.all e (Array.mem_toList_iff.mpr he)
    exact ⟨x, by rw [e1]; exact strKind_is pg w x t, e2⟩, hp, hnd⟩
  obtain ⟨ep, hat⟩ := hD.dictAt
  refine kdu_sorted (kdl_dict (knd := SD w) (kvs := kvs) (ep := ep) lo) hh F N hat (kdl_size hn) fun B h' tk vs F' N' l1 hl hv => ?_
  refine kdl_openS (h B h' tk) vs hl (fun j u hu => ?_) F' N' l1
  obtain ⟨k, x, hx, hk⟩ := hv j u hu
  exact ⟨k, x, hx, Value.isStrOf_shape hk⟩
theorem DeclAt.at {h' : Heap} {ws : List Nat} {v : Value} {nm : Str} {h₀ : Heap} (D : DeclAt S fr h₀ ws v nm) (st : ∀ b o, h₀.get? b = some o → b ∉ ws → h'.get? b = some o) : DeclAt S fr h' ws v nm := by
  obtain ⟨b, db, pl, fl, sup, ab, h1, h2, h3, h4, h5, h6, t0, t1, t2, t3, t4, t5, t6, n, c1, rfl, e1, e2, e3, f4, f5, f6, n1, n2, n3⟩ := D
  exact ⟨b, db, pl, fl, sup, ab, h1, h2, h3, h4, h5, h6, t0, t1, t2, t3, t4, t5, t6, n, c1, rfl, st _ _ e1 n1, st _ _ e2 n2, st _ _ e3 n3, f4, f5, f6, n1, n2, n3⟩
theorem whole_val {ws : List Nat} {k dk dd : Addr} {od : Obj} {kvs : List (Str × Value)} {nm : Str} {tkn : Tok} {kh : Int} {kt : Tok} {kn : Nat} {v : Value} (X : (hd.heap_1 w.params).In S) (H0 : S.get? 0 = some (boot_o_0 w.params)) (H1 : S.get? 1 = some (boot_o_1 w.params)) (T : Top p loose mean mg mb S)
    (q1 : s.heap.get? k = some (instObj 362 dk)) (q2 : s.heap.get? dk = some (gK dd kh kt kn)) (q3 : s.heap.get? dd = some od) (hdo : od.IsDictOf (SD w) kvs) (f1 : Off S fr k) (f2 : Off S fr dk) (f3 : Off S fr dd) (D : DeclAt S fr s.heap ws v nm) (hv : valueAt kvs nm = some v)
    (C : FrOk S fr s.heap) (hret : TvRet (.tuple [.str (Str.ofString "name"), .str nm, .tuple []]) s Q) : wpAny (model pg w) (Ap 4 fr) (PySem.call (.ref 352) [.ref k, .str nm tkn]) Q E s := by
  obtain ⟨b, db, pl, fl, sup, ab, h1, h2, h3, h4, h5, h6, t0, t1, t2, t3, t4, t5, t6, n, c1, rfl, e1, e2, e3, f4, f5, f6, _⟩ := D
  refine whole_spec C X H0 H1 T q1 q2 q3 hdo e1 e2 e3 q1 nofun f1 f2 f3 f4 f5 f6 f1 hv ?_
  intro t za u v h' tk' e4 e5 _ _ st _ _
  exact hret _ _ _ st (tup3 e4 (TV.str _ _) (TV.str _ _) (tup0 e5)) nofun
end
section
variable {w : World} {fr : List Env} {S : Heap} {p : Program} {loose : List Str} {mean : ExcName → Option Value} {mg mb : Str → Option Value} {s : Shared} {Q E : Value → Shared → Prop}
theorem two_nodup {a b : Value} : (([(Str.ofString "Int", a), (Str.ofString "UInt", b)] : List (Str × Value)).map (·.1)).Nodup := by
  show [Str.ofString "Int", Str.ofString "UInt"].Nodup
  decide +kernel
abbrev kD (a b c d : Addr) : List (Str × Value) := [(Str.ofString "Any", .ref a), (Str.ofString "Int64", .ref b), (Str.ofString "UInt64", .ref c), (Str.ofString "P", .ref d)]
theorem n_AI : Str.ofString "Any" ≠ Str.ofString "Int64" := by decide +kernel
theorem n_AU : Str.ofString "Any" ≠ Str.ofString "UInt64" := by decide +kernel
theorem n_AP : Str.ofString "Any" ≠ Str.ofString "P" := by decide +kernel
theorem n_IU : Str.ofString "Int64" ≠ Str.ofString "UInt64" := by decide +kernel
theorem n_IP : Str.ofString "Int64" ≠ Str.ofString "P" := by decide +kernel
theorem n_UP : Str.ofString "UInt64" ≠ Str.ofString "P" := by decide +kernel
theorem kD_0 {a b c d : Addr} : valueAt (kD a b c d) (Str.ofString "Any") = some (.ref a) := by rw [va_cons, if_pos rfl]
theorem kD_1 {a b c d : Addr} : valueAt (kD a b c d) (Str.ofString "Int64") = some (.ref b) := by rw [va_cons, if_neg n_AI, va_cons, if_pos rfl]
theorem kD_2 {a b c d : Addr} : valueAt (kD a b c d) (Str.ofString "UInt64") = some (.ref c) := by rw [va_cons, if_neg n_AU, va_cons, if_neg n_IU, va_cons, if_pos rfl]
theorem kD_3 {a b c d : Addr} : valueAt (kD a b c d) (Str.ofString "P") = some (.ref d) := by rw [va_cons, if_neg n_AP, va_cons, if_neg n_IP, va_cons, if_neg n_UP, va_cons, if_pos rfl]
theorem kw_Stg_1 : True := by
  k_with "call builtin:sorted" => (k_here; (with_reducible show wpAny _ _ (PySem.call (Value.builtin "sorted") [Value.ref _]) _ _ _); (refine' sorted_S ?hhKw ?FKw ?NKw ?mKw ?dKw ?loKw ?nKw ?_; (case hhKw => rfl); (case FKw => k_asm); (case NKw => k_asm); (case mKw => k_mem); (case dKw => assumption); (case loKw => assumption); (case nKw => exact Nat.le_of_ble_eq_true rfl)); intro D'q h'q tk'q; kdl_open)
  exact trivial
theorem kw_Stg_2 : True := by
  k_with "call builtin:sorted" => (k_here; (with_reducible show wpAny _ _ (PySem.call (Value.builtin "sorted") [Value.ref 146]) _ _ _); (refine' sorted_B (kvs := [(Str.ofString "Int", .str (Str.ofString "Int64") 356), (Str.ofString "UInt", .str (Str.ofString "UInt64") 358)]) ?hhKw ?FKw ?NKw ?XKw ?lKw ?kKw ?pKw ?ndKw ?loKw ?nKw ?_; (case hhKw => rfl); (case FKw => k_asm); (case NKw => k_asm); (case XKw => k_asm); (case lKw => k_is); (case kKw => k_keys); (case pKw => exact .cons (strKind_is _ _ _ _) rfl (.cons (strKind_is _ _ _ _) rfl .nil)); (case ndKw => exact two_nodup); (case loKw => decide); (case nKw => exact Nat.le_of_ble_eq_true rfl)); intro D'q h'q tk'q; kdl_open)
  exact trivial
theorem list_ne_tupS : Value.type "list" ≠ Value.type "tuple" := by decide
theorem tl_ne {g h : Heap} {L d k dk dd z : Addr} {o ok odk odd oz : Obj} {W tl : List (Addr × Obj)} {kvs : List (Str × Value)} (nd : ∀ a ∈ ([k, dk, dd, z] : List Nat), a ≠ d) (N : News g L h W) (s : ∀ p ∈ tl, p ∈ W) (hm : (d, o) ∈ W) (hT : Tups tl) (hc : o.IsDictOf (SD w) kvs) : ∀ p ∈ (k, ok) :: (dk, odk) :: (dd, odd) :: (z, oz) :: tl, p.1 ≠ d :=
  allCons (nd _ (.head _)) (allCons (nd _ (.tail _ (.head _))) (allCons (nd _ (.tail _ (.tail _ (.head _)))) (allCons (nd _ (.tail _ (.tail _ (.tail _ (.head _))))) (tail_ne N hT s hm (by rw [dict_is hc]; decide)))))
theorem kw_Stg_3 : True := by
  k_with "spl" => first | (refine' Spl.cons ?aKw; case aKw => walk_at "spl") | exact Spl.nil
  exact trivial
theorem kw_Stg_4 : True := by
  k_with "sub" => exact fun p hp => by repeat' (first | exact hp | refine List.Mem.tail _ ?_)
  exact trivial
local macro_rules | `(tactic| k_ne) => `(tactic| first | with_reducible assumption | (with_reducible refine Ne.symm ?_; with_reducible assumption))
local macro_rules | `(tactic| k_all) => `(tactic| first | (refine' tl_ne ?nd ?N ?s ?m ?T ?c; (case nd => with_reducible assumption); (case N => with_reducible assumption); (case c => with_reducible assumption); (case T => with_reducible assumption); (case m => k_mem); (case s => walk_at "sub")) | exact allNil | (refine' tail_ne ?N ?T ?s ?m ?c; (case N => with_reducible assumption); (case T => with_reducible assumption); (case m => k_mem); (case s => walk_at "sub"); (case c => exact list_ne_tupS)) | (refine' allCons ?a ?b; (case a => k_ne); (case b => k_all)))
theorem kw_Stg_5 : True := by
  k_with "qnorm" => dsimp only
  exact trivial
theorem kw_Stg_6 : True := by
  k_with "exec For Name Call cons nil" => (k_here; refine hold ?_)
  exact trivial
theorem kw_Stg_7 : True := by
  k_with "pyIter ref" => (k_here; refine hold ?_)
  exact trivial
theorem kw_Stg_8 : True := by
  k_with "UnrEnd" => (refine hold ?_)
  exact trivial
theorem kw_Stg_9 : True := by
  k_with "UnrPost" => (refine hold ?_)
  exact trivial
theorem kw_Stg_10 : True := by
  k_with "subscriptTail" => (k_here; (with_reducible show wpAny _ _ (subscriptTail _ _ (Value.ref _) (Value.str _ _)) _ _ _); k_dflt (refine' kda_item (knd := PySem.strKind _ _) ?NKw ?mKw ?dKw (strKind_is _ _ _ _) ?vKw ?_; (case NKw => k_asm); (case mKw => k_mem); (case dKw => with_reducible assumption); (case vKw => with_reducible assumption)))
  exact trivial
theorem kw_Stg_11 : True := by
  k_with "newTuple" => (k_here; k_dflt (refine' kup_newTuple ?FKw ?NKw ?_ ?zKw; (case FKw => k_asm); (case NKw => k_asm); (case zKw => kmk_size)); intro D'q h'q F'q N'q l1q; (have n1'q := neLt (lt1 l1q)); clear l1q; (try k_sweep))
  exact trivial
theorem kw_Stg_12 : True := by
  k_with "newTuple" => (k_here; k_dflt (refine' typ_K ?FKw ?NKw ?spKw ?TKw ?VKw ?trKw ?_; (case FKw => k_asm); (case NKw => k_asm); (case trKw => with_reducible assumption); (case TKw => with_reducible assumption); (case spKw => walk_at "spl"); (case VKw => with_reducible assumption)); (rename TVG _ _ _ _ => z1'q); (rename VP _ _ _ => z2'q); (rename Tups _ => z3'q); intro D'q tl'q h'q T'q V'q tr'q F'q N'q; clear z1'q z2'q z3'q; (try dsimp only at N'q); (try k_sweep))
  exact trivial
theorem kw_Stg_13 : True := by
  k_with "setItem ref str" => (k_here; k_dflt (refine' stor_K ?FKw ?NKw ?UKw ?dKw ?lKw ?VKw ?_; (case FKw => k_asm); (case NKw => k_asm); (case dKw => with_reducible assumption); (case UKw => k_updF); (case lKw => first | with_reducible assumption | (refine Nat.le_trans (m := 20) ?_ (Nat.le_of_ble_eq_true rfl); (repeat (first | exact Nat.le_trans hl4 (Nat.le_of_ble_eq_true rfl) | refine Nat.le_trans (stored_length_le _ _ _) (Nat.succ_le_succ ?_))); done) | omega); (case VKw => first | (refine VP.st (by with_reducible assumption) (by with_reducible assumption) ?n9Kw nofun ?p9Kw; (case n9Kw => first | with_reducible assumption | exact ⟨by decide +kernel, by decide +kernel, by decide +kernel⟩); (case p9Kw => first | with_reducible assumption | exact fun e => absurd e (by decide +kernel))) | exact VP.cp (by with_reducible assumption) (by with_reducible assumption) (by decide +kernel))); (rename VP _ _ _ => z2'q); (rename Obj.IsDictOf _ _ _ => z3'q); intro h'q o'q tk'q hd'q V'q F'q N'q; clear z2'q z3'q; (try dsimp only at N'q); (try k_sweep))
  exact trivial
theorem kw_Stg_14 : True := by
  k_with "call ref" => (k_here; (with_reducible show wpAny _ _ (PySem.call (Value.ref 352) _) _ _ _); (rename News _ _ _ _ => Nqq); (rename Fr _ _ _ _ => Fqq); k_dflt (refine' val_K (d := .tuple [.str (Str.ofString "name"), .str _, .tuple []]) (fun _ _ Cz rz => whole_val X H0 H1 T (Nqq.get ?m1Kw) (Nqq.get ?m2Kw) (Nqq.get ?m3Kw) hdo (off B Nqq ?m1Kw rfl) (off B Nqq ?m2Kw rfl) (off B Nqq ?m3Kw rfl) (D'.at fun b o e _ => Fqq.keep b o e) hvb Cz rz) rfl rfl ?hdpKw ?huKw ?BKw ?FKw ?NKw ?spKw rfl rfl ?TKw ?VKw ?_; (case hdpKw => exact Nat.le_of_ble_eq_true rfl); (case huKw => exact Nat.le_of_ble_eq_true rfl); (case BKw => with_reducible assumption); (case FKw => exact Fqq); (case NKw => exact Nqq); (case spKw => walk_at "spl"); (case TKw => with_reducible assumption); (case VKw => with_reducible assumption); (case m1Kw => k_mem); (case m2Kw => k_mem); (case m3Kw => k_mem)); (rename VP _ _ _ => z2'q); (rename Tups _ => z3'q); intro r'q tl'q h'q tk'q T'q V'q tr'q nn'q F'q N'q; clear Nqq Fqq z2'q z3'q; (try dsimp only at N'q); (try k_sweep))
  exact trivial
theorem kw_Stg_15 : True := by
  k_with "call ref" => (k_here; (with_reducible show wpAny _ _ (PySem.call (Value.ref 113) _) _ _ _); (rename News _ _ _ _ => Nqq); (rename Fr _ _ _ _ => Fqq); k_dflt (refine' val_K (d := .tuple [.str (Str.ofString "name"), .str _, .tuple []]) (fun _ _ Cz rz => named_spec Cz X T rz) rfl rfl ?hdpKw ?huKw ?BKw ?FKw ?NKw ?spKw rfl rfl ?TKw ?VKw ?_; (case hdpKw => exact Nat.le_of_ble_eq_true rfl); (case huKw => exact Nat.le_of_ble_eq_true rfl); (case BKw => with_reducible assumption); (case FKw => exact Fqq); (case NKw => exact Nqq); (case spKw => walk_at "spl"); (case TKw => with_reducible assumption); (case VKw => with_reducible assumption)); (rename VP _ _ _ => z2'q); (rename Tups _ => z3'q); intro r'q tl'q h'q tk'q T'q V'q tr'q nn'q F'q N'q; clear Nqq Fqq z2'q z3'q; (try dsimp only at N'q); (try k_sweep))
  exact trivial
theorem kw_Stg_16 : True := by
  k_with "call ref" => (k_here; (with_reducible show wpAny _ _ (PySem.call (Value.ref 153) _) _ _ _); (rename News _ _ _ _ => Nqq); (rename Fr _ _ _ _ => Fqq); k_dflt (refine' val_K (d := .tuple [.str (Str.ofString "all"), .str _, .tuple [.str (Str.ofString "bottom")], .tuple [.str (Str.ofString "name"), .str (Str.ofString "Any"), .tuple []], .tuple [.str (Str.ofString "name"), .str (Str.ofString "Array"), .tuple [.tuple [.str (Str.ofString "var"), .str _], .tuple [.str (Str.ofString "n"), .int _]]]]) (fun _ _ Cz rz => rank_kind_spec Cz X T rz) rfl rfl ?hdpKw ?huKw ?BKw ?FKw ?NKw ?spKw rfl rfl ?TKw ?VKw ?_; (case hdpKw => exact Nat.le_of_ble_eq_true rfl); (case huKw => exact Nat.le_of_ble_eq_true rfl); (case BKw => with_reducible assumption); (case FKw => exact Fqq); (case NKw => exact Nqq); (case spKw => walk_at "spl"); (case TKw => with_reducible assumption); (case VKw => with_reducible assumption)); (rename VP _ _ _ => z2'q); (rename Tups _ => z3'q); intro r'q tl'q h'q tk'q T'q V'q tr'q nn'q F'q N'q; clear Nqq Fqq z2'q z3'q; (try dsimp only at N'q); (try k_sweep))
  exact trivial
theorem kw_Stg_17 : True := by
  k_with "call ref" => (k_here; (with_reducible show wpAny _ _ (PySem.call (Value.ref 121) _) _ _ _); (rename News _ _ _ _ => Nqq); (rename Fr _ _ _ _ => Fqq); k_dflt (refine' val_K (d := .tuple [.str (Str.ofString "tuple"), .tuple [], .tuple [.str (Str.ofString "name"), .str (Str.ofString "Any"), .tuple []]]) (fun _ _ Cz rz => tuple_of_spec Cz X T (Nqq.get (.head _)) (off B Nqq (.head _) rfl) (fun h Xh => any_kind Xh) rz) rfl rfl ?hdpKw ?huKw ?BKw ?FKw ?NKw ?spKw rfl rfl ?TKw ?VKw ?_; (case hdpKw => exact Nat.le_of_ble_eq_true rfl); (case huKw => exact Nat.le_of_ble_eq_true rfl); (case BKw => with_reducible assumption); (case FKw => exact Fqq); (case NKw => exact Nqq); (case spKw => walk_at "spl"); (case TKw => with_reducible assumption); (case VKw => with_reducible assumption)); (rename VP _ _ _ => z2'q); (rename Tups _ => z3'q); intro r'q tl'q h'q tk'q T'q V'q tr'q nn'q F'q N'q; clear Nqq Fqq z2'q z3'q; (try dsimp only at N'q); (try k_sweep))
  exact trivial
def StgRet (w : World) (z : Addr) (s : Shared) (Q : Value → Shared → Prop) : Prop :=
  ∀ d od kvs h' tk', h'.get? d = some od → od.IsDictOf (SD w) kvs → Vals h' kvs → (∃ r, valueAt kvs (Str.ofString "P") = some r ∧ TV h' r (.tuple [.str (Str.ofString "type"), .tuple [.str (Str.ofString "name"), .str (Str.ofString "P"), .tuple []]])) →
    (∃ r, valueAt kvs (Str.ofString "Int") = some r ∧ valueAt kvs (Str.ofString "Int64") = some r) → (∃ r, valueAt kvs (Str.ofString "Tuple") = some r) → kvs.length ≤ 20 → s.heap.StaysIn h' → s.heap.get? d = none → @LT.lt Nat _ z d → Q (.ref d) { s with heap := h', toks := tk' }
theorem fresh_new {g h h₀ : Heap} {L d : Addr} {o : Obj} {W W₀ : List (Addr × Obj)} (N : News g L h W) (hg : ∀ b o, h₀.get? b = some o → b ∉ W₀.map (·.1) → g.get? b = some o) (hm : (d, o) ∈ W) (n : d ∉ W₀.map (·.1)) : h₀.get? d = none := by
  cases e : h₀.get? d with
  | none => rfl
  | some o' =>
    have q := (N _ hm).2.2
    rw [hg d o' e n] at q; cases q
theorem Vals.nil {h : Heap} : Vals h [] := fun k r e => by cases e
theorem any_kind {h : Heap} (X : (hd.heap_1 w.params).In h) : TV h (.ref 103) (.tuple [.str (Str.ofString "name"), .str (Str.ofString "Any"), .tuple []]) := tup3 (X _ _ (by k_is)) (TV.str _ _) (TV.str _ _) (tup0 (X _ _ (by k_is)))
abbrev kN : List Str := [Str.ofString "Any", Str.ofString "Int64", Str.ofString "P", Str.ofString "UInt64"]
def J1 (w : World) (g : Heap) (B d k dk dd z : Addr) (lo ok odk odd oz : Obj) (vs : List Value) (news : List (Addr × Obj)) : Prop :=
  ∃ kvs od tl, news = (B, lo) :: (d, od) :: (k, ok) :: (dk, odk) :: (dd, odd) :: (z, oz) :: tl ∧ od.IsDictOf (SD w) kvs ∧ Tups tl ∧ VP g tl kvs ∧ kvs.length + vs.length ≤ 4 ∧ (∀ v ∈ vs, ∃ nm t, v = .str nm t ∧ nm ∈ kN) ∧ ∀ nm ∈ kN, (∃ t, Value.str nm t ∈ vs) ∨ ∃ r, valueAt kvs nm = some r
theorem offI {I B d k dk dd z : Addr} {lo o ok odk odd oz it : Obj} {g h : Heap} {L : Addr} {tl : List (Addr × Obj)} (o6 : ∀ a ∈ ([B, d, k, dk, dd, z] : List Nat), a ≠ I) (N : News g L h ((I, it) :: (B, lo) :: (d, o) :: (k, ok) :: (dk, odk) :: (dd, odd) :: (z, oz) :: tl)) (hT : Tups tl) (hc : it.cls = .type "list_iterator") :
    ∀ p ∈ (B, lo) :: (d, o) :: (k, ok) :: (dk, odk) :: (dd, odd) :: (z, oz) :: tl, p.1 ≠ I :=
  allCons (o6 _ (.head _)) (allCons (o6 _ (.tail _ (.head _))) (allCons (o6 _ (.tail _ (.tail _ (.head _)))) (allCons (o6 _ (.tail _ (.tail _ (.tail _ (.head _))))) (allCons (o6 _ (.tail _ (.tail _ (.tail _ (.tail _ (.head _)))))) (allCons (o6 _ (.tail _ (.tail _ (.tail _ (.tail _ (.tail _ (.head _))))))) (tail_ne N hT (by walk_at "sub") (.head _) (by rw [hc]; decide)))))))
theorem o6_of {I B d k dk dd z : Addr} {lo o ok odk odd oz : Obj} {tl : List (Addr × Obj)} (l : ∀ p ∈ (B, lo) :: (d, o) :: (k, ok) :: (dk, odk) :: (dd, odd) :: (z, oz) :: tl, p.1 < I) : ∀ a ∈ ([B, d, k, dk, dd, z] : List Nat), a ≠ I :=
  List.forall_mem_cons.mpr ⟨Nat.ne_of_lt (l _ (.head _)), List.forall_mem_cons.mpr ⟨Nat.ne_of_lt (l _ (.tail _ (.head _))), List.forall_mem_cons.mpr ⟨Nat.ne_of_lt (l _ (.tail _ (.tail _ (.head _)))), List.forall_mem_cons.mpr ⟨Nat.ne_of_lt (l _ (.tail _ (.tail _ (.tail _ (.head _))))), List.forall_mem_cons.mpr ⟨Nat.ne_of_lt (l _ (.tail _ (.tail _ (.tail _ (.tail _ (.head _)))))), List.forall_mem_cons.mpr ⟨Nat.ne_of_lt (l _ (.tail _ (.tail _ (.tail _ (.tail _ (.tail _ (.head _))))))), List.forall_mem_nil _⟩⟩⟩⟩⟩⟩
theorem j1_turn {kvs : List (Str × Value)} {nm : Str} {t : Tok} {r : List Value} {x : Value} (hl : kvs.length + (Value.str nm t :: r).length ≤ 4) (hd : ∀ n ∈ kN, (∃ t', Value.str n t' ∈ Value.str nm t :: r) ∨ ∃ r', valueAt kvs n = some r') : (stored kvs nm x).length + r.length ≤ 4 ∧ ∀ n ∈ kN, (∃ t', Value.str n t' ∈ r) ∨ ∃ r', valueAt (stored kvs nm x) n = some r' := by
  refine ⟨?_, fun n hn => ?_⟩
  · have := stored_length_le kvs nm x
    rw [List.length_cons] at hl; omega
  · by_cases e : nm = n
    · subst e; exact .inr ⟨x, vs_same⟩
    · rcases hd n hn with ⟨t', h⟩ | ⟨r', h⟩
      · rcases List.mem_cons.mp h with h | h
        · cases h; exact absurd rfl e
        · exact .inl ⟨t', h⟩
      · exact .inr ⟨r', vs_at e h⟩
theorem nice_k : ∀ nm ∈ kN, Nice (.tuple [.str (Str.ofString "type"), .tuple [.str (Str.ofString "name"), .str nm, .tuple []]]) :=
  List.forall_mem_cons.mpr ⟨⟨by decide +kernel, by decide +kernel, by decide +kernel⟩, List.forall_mem_cons.mpr ⟨⟨by decide +kernel, by decide +kernel, by decide +kernel⟩, List.forall_mem_cons.mpr ⟨⟨by decide +kernel, by decide +kernel, by decide +kernel⟩, List.forall_mem_cons.mpr ⟨⟨by decide +kernel, by decide +kernel, by decide +kernel⟩, List.forall_mem_nil _⟩⟩⟩⟩
theorem ntail {g h : Heap} {L : Addr} {q : Addr × Obj} {W : List (Addr × Obj)} (N : News g L h (q :: W)) : News g L h W := fun p hp => N p (.tail _ hp)
set_option maxHeartbeats 0 in
theorem start_spec {k dk dd a b1 b2 b3 z : Addr} {od oz : Obj} {kh : Int} {kt : Tok} {kn : Nat}
    (C : FrOk S fr s.heap) (X : (hd.heap_1 w.params).In S) (H0 : S.get? 0 = some (boot_o_0 w.params)) (H1 : S.get? 1 = some (boot_o_1 w.params)) (T : Top p loose mean mg mb S)
    (q1 : s.heap.get? k = some (instObj 362 dk)) (q2 : s.heap.get? dk = some (gK dd kh kt kn)) (q3 : s.heap.get? dd = some od) (hdo : od.IsDictOf (SD w) (kD a b1 b2 b3))
    (D0 : DeclAt S fr s.heap [k, dk, dd, z] (.ref a) (Str.ofString "Any")) (D1 : DeclAt S fr s.heap [k, dk, dd, z] (.ref b1) (Str.ofString "Int64")) (D2 : DeclAt S fr s.heap [k, dk, dd, z] (.ref b2) (Str.ofString "UInt64")) (D3 : DeclAt S fr s.heap [k, dk, dd, z] (.ref b3) (Str.ofString "P"))
    (q4 : s.heap.get? z = some oz) (hz : oz.cls ≠ .type "tuple") (hz2 : oz.cls ≠ .type "dict") (f1 : Off S fr k) (f2 : Off S fr dk) (f3 : Off S fr dd) (f4 : Off S fr z) (hret : StgRet w z s Q) :
    wpAny (model pg w) (Ap 3 fr) (PySem.call (.ref 160) [.ref k]) Q E s := by
  have lo := dict_low H1 f3.1
  have hD : ∀ nm ∈ kN, ∃ v, valueAt (kD a b1 b2 b3) nm = some v ∧ DeclAt S fr s.heap [k, dk, dd, z] v nm :=
    List.forall_mem_cons.mpr ⟨⟨_, kD_0, D0⟩, List.forall_mem_cons.mpr ⟨⟨_, kD_1, D1⟩, List.forall_mem_cons.mpr ⟨⟨_, kD_3, D3⟩, List.forall_mem_cons.mpr ⟨⟨_, kD_2, D2⟩, List.forall_mem_nil _⟩⟩⟩⟩
  have hW : ∀ p ∈ [(k, instObj 362 dk), (dk, gK dd kh kt kn), (dd, od), (z, oz)], s.heap.get? p.1 = some p.2 :=
    List.forall_mem_cons.mpr ⟨q1, List.forall_mem_cons.mpr ⟨q2, List.forall_mem_cons.mpr ⟨q3, List.forall_mem_cons.mpr ⟨q4, List.forall_mem_nil _⟩⟩⟩⟩
  refine enterT' _ rfl C X T (by k_is) (by k_is) (show 460 < 1000 by decide) (BindsTo.of_eq (binds := [(Str.ofString "kinds", .ref k)]) rfl) (locs rfl) hW ?_ ?_ (by decide) rfl rfl rfl ?_
  · exact List.forall_mem_cons.mpr ⟨f1.1, List.forall_mem_cons.mpr ⟨f2.1, List.forall_mem_cons.mpr ⟨f3.1, List.forall_mem_cons.mpr ⟨f4.1, List.forall_mem_nil _⟩⟩⟩⟩
  · exact List.forall_mem_cons.mpr ⟨f1.2, List.forall_mem_cons.mpr ⟨f2.2, List.forall_mem_cons.mpr ⟨f3.2, List.forall_mem_cons.mpr ⟨f4.2, List.forall_mem_nil _⟩⟩⟩⟩
  intro Q₁ g L' h₁ tk₀ env m₀ rq nq F N B Xg Tg hg sz
  clear D0 D1 D2 D3 q1 q2 q3 q4
  k_steps
  refine unhold ?_
  rename Fr _ _ _ _ => Fx
  rename News _ _ _ _ => Nx
  rename Obj.IsDictOf (PySem.strKind _ _) _ [] => hd0
  rename @LT.lt Nat _ z _ => c4
  rename @LT.lt Nat _ dd _ => c3
  rename @LT.lt Nat _ dk _ => c2
  rename @LT.lt Nat _ k _ => c1
  have nd : ∀ a ∈ ([k, dk, dd, z] : List Nat), a ≠ _ := List.forall_mem_cons.mpr ⟨Nat.ne_of_lt c1, List.forall_mem_cons.mpr ⟨Nat.ne_of_lt c2, List.forall_mem_cons.mpr ⟨Nat.ne_of_lt c3, List.forall_mem_cons.mpr ⟨Nat.ne_of_lt c4, List.forall_mem_nil _⟩⟩⟩⟩
  k_here
  refine' For_invVF Fx ?k1 ?k2 ?_
  (case k1 => exact rfl)
  (case k2 => exact rfl)
  k_steps
  refine unhold ?_
  rename Fr _ _ _ _ => Fy
  rename News _ _ _ _ => Ny
  rename @LT.lt Nat _ _ _ => cB
  generalize elq : PySem.W.listOf #[_, _, _, _] _ = lq at Ny
  with_unfolding_all refine' iter_listUnr (vs := [_, _, _, _]) ?h1 Fy Ny ?h2 ?h3 ?h4 ?_
  (case h1 => exact rfl)
  (case h2 => exact List.Mem.head _)
  (case h3 => rw [← elq])
  (case h4 => rw [← elq])
  intro I lI
  have o6 := o6_of lI
  clear lI Fy Ny
  refine rest_inv0 (J1 w g _ _ k dk dd z lq _ _ _ _) ⟨[], _, [], rfl, hd0, List.forall_mem_nil _, VP.nil, Nat.le_refl _, ?i1, ?i2⟩ (fun vs news h => ?hlp) ?step ?last
  case i1 => exact List.forall_mem_cons.mpr ⟨⟨_, _, rfl, .head _⟩, List.forall_mem_cons.mpr ⟨⟨_, _, rfl, .tail _ (.head _)⟩, List.forall_mem_cons.mpr ⟨⟨_, _, rfl, .tail _ (.tail _ (.head _))⟩, List.forall_mem_cons.mpr ⟨⟨_, _, rfl, .tail _ (.tail _ (.tail _ (.head _)))⟩, List.forall_mem_nil _⟩⟩⟩⟩
  case i2 => exact List.forall_mem_cons.mpr ⟨.inl ⟨_, .head _⟩, List.forall_mem_cons.mpr ⟨.inl ⟨_, .tail _ (.head _)⟩, List.forall_mem_cons.mpr ⟨.inl ⟨_, .tail _ (.tail _ (.head _))⟩, List.forall_mem_cons.mpr ⟨.inl ⟨_, .tail _ (.tail _ (.tail _ (.head _)))⟩, List.forall_mem_nil _⟩⟩⟩⟩
  case hlp =>
    obtain ⟨_, _, _, rfl, _⟩ := h
    exact .head _
  case step =>
    intro v r news it h tk hJ hc F1 N1
    obtain ⟨kvs, oD, tl, rfl, hod, hT, hV, hl, hv, hdn⟩ := hJ
    obtain ⟨nm, t, rfl, hn⟩ := hv v (.head _)
    obtain ⟨vb, hvb, D⟩ := hD nm hn
    have D' := D.gnd (env := env) hg rfl sz rfl
    have hl9 : kvs.length ≤ 900 := Nat.le_trans (Nat.le_trans (Nat.le_add_right _ _) hl) (Nat.le_of_ble_eq_true rfl)
    have hp9 : nm = Str.ofString "P" → PyData.tuple [.str (Str.ofString "type"), .tuple [.str (Str.ofString "name"), .str nm, .tuple []]] = pD := fun e => by rw [e]
    have n9 := nice_k nm hn
    have nId := (o6 _ (.tail _ (.head _))).symm
    have nBd := neGt cB
    (try dsimp only)
    k_steps
    refine unhold ?_
    rename Fr _ _ _ _ => Fz
    rename News _ _ _ _ => Nz
    rename VP _ _ _ => Vz
    rename Tups _ => Tz
    rename Obj.IsDictOf _ _ _ => hz'
    obtain ⟨jl, jd⟩ := j1_turn hl hdn
    exact ⟨_, _, _, _, rfl, Fz, Nz, offI o6 Nz Tz hc, fun y hy => if_neg hy, _, _, _, rfl, hz', Tz, Vz, jl, fun v hv' => hv v (.tail _ hv'), jd⟩
  case last =>
    intro u news h tk hJ F1 N1
    obtain ⟨kvs, oD, tl, rfl, hod, hT, hV, hl4, _, hdn⟩ := hJ
    have hk : ∀ nm ∈ kN, ∃ r, valueAt kvs nm = some r := fun nm hn => (hdn nm hn).elim (fun ⟨_, h⟩ => nomatch h) id
    obtain ⟨rI, eI⟩ := hk (Str.ofString "Int64") (.tail _ (.head _))
    obtain ⟨rP, eP⟩ := hk (Str.ofString "P") (.tail _ (.tail _ (.head _)))
    obtain ⟨rU, eU⟩ := hk (Str.ofString "UInt64") (.tail _ (.tail _ (.tail _ (.head _))))
    have hl4 : kvs.length ≤ 4 := hl4
    have N2 := ntail N1
    clear N1 hdn hk cB o6 hd0 elq hD
    (try dsimp only)
    k_steps
    refine unhold ?_
    rename Fr _ _ _ _ => Fx
    k_here
    refine' For_invVF Fx ?k1 ?k2 ?_
    (case k1 => exact rfl)
    (case k2 => exact rfl)
    k_steps
    refine unhold ?_
    rename Fr _ _ _ _ => Fy
    rename News _ _ _ _ => Ny
    rename @LT.lt Nat _ _ _ => cB
    generalize elq : PySem.W.listOf #[_, _] _ = lq2 at Ny
    with_unfolding_all refine' iter_listUnr (vs := [_, _]) ?h1 Fy Ny ?h2 ?h3 ?h4 ?_
    (case h1 => exact rfl)
    (case h2 => exact List.Mem.head _)
    (case h3 => rw [← elq])
    (case h4 => rw [← elq])
    intro I lI
    have o6 := o6_of lI
    have nId := (o6 _ (.tail _ (.head _))).symm
    have nBd := neGt cB
    clear lI Fy Ny elq cB
    refine ListRest.succ fun it h tk hc F1 N1 => ?_
    (try dsimp only)
    k_steps
    refine unhold ?_
    rename Fr _ _ _ _ => Fz
    rename News _ _ _ _ => Nz
    refine ⟨_, _, _, _, rfl, Fz, Nz, offI o6 Nz hT hc, .head _, ?_⟩
    clear Fz Nz hc
    have eU' : valueAt (stored kvs (Str.ofString "Int") rI) (Str.ofString "UInt64") = some rU := vs_at (by decide +kernel) eU
    refine ListRest.succ fun it h tk hc F1 N1 => ?_
    (try dsimp only)
    k_steps
    refine unhold ?_
    rename Fr _ _ _ _ => Fz
    rename News _ _ _ _ => Nz
    refine ⟨_, _, _, _, rfl, Fz, Nz, offI o6 Nz hT hc, .head _, ?_⟩
    clear Fz Nz hc
    refine ListRest.zero fun h tk F1 N1 => ?_
    have N2 := ntail N1
    clear N1 o6 nId nBd
    (try dsimp only)
    k_steps
    rename Fr _ _ _ _ => Fz
    rename News _ _ _ _ => Nz
    rename VP _ _ _ => Vz
    rename Tups _ => Tz
    rename Obj.IsDictOf _ _ _ => hz'
    have vP := Vz (Str.ofString "P") rP (by repeat (first | with_reducible exact eP | with_reducible refine vs_at (by decide +kernel) ?_))
    obtain ⟨_, dP, tP, _, hP⟩ := vP
    have eD := hP rfl
    subst eD
    refine hret _ _ _ _ _ (Nz.get ?m) hz' (Vz.vg.vals Fz Nz ?sub) ⟨rP, ?p1, tP.tv Fz Nz ?sub⟩ ⟨rI, ?i1, ?i2⟩ ?t1 ?len (kp_ro Fz Nz hg hW ?kp) (fresh_new Nz hg ?m fun q => nd _ q rfl) c4
    case m => k_mem
    case sub => walk_at "sub"
    case p1 => repeat (first | with_reducible exact eP | with_reducible refine vs_at (by decide +kernel) ?_)
    case i1 => repeat (first | with_reducible exact vs_same | with_reducible refine vs_at (by decide +kernel) ?_)
    case i2 => repeat (first | with_reducible exact eI | with_reducible refine vs_at (by decide +kernel) ?_)
    case t1 => exact ⟨_, by repeat (first | with_reducible exact vs_same | with_reducible refine vs_at (by decide +kernel) ?_)⟩
    case len => repeat (first | exact Nat.le_trans hl4 (Nat.le_of_ble_eq_true rfl) | refine Nat.le_trans (stored_length_le _ _ _) (Nat.succ_le_succ ?_))
    case kp => lcg_sub
end

end
section
theorem kwo_Gin : True := by
  k_with_none
  w_top off
  k_with "execs cons Assign cons" => (with_reducible refine seqN ?_); intro Qk1 nk1
  k_with "execs cons AugAssign cons" => (with_reducible refine seqN ?_); intro Qk1 nk1
  k_with "execs cons Expr cons" => (with_reducible refine seqN ?_); intro Qk1 nk1
  k_with "execs cons If cons" => (with_reducible refine seqQ ?_); intro Qk1 nk1 rk1
  k_with "execs cons For cons" => (with_reducible refine seqQ ?_); intro Qk1 nk1 rk1
  k_with "execs cons" => (with_reducible refine seq1 ?_)
  k_with "eval Constant int" => (with_reducible refine cInt ?_); intro tq1 kq1
  k_with "eval Constant str" => (with_reducible refine cStr ?_); intro tq1 kq1
  k_with "eval Name" => (k_here; k_dflt (refine' nameL ?Fn1 ?bn1 ?vn1 ?_; (case bn1 => decide +kernel); (case Fn1 => with_reducible assumption); (case vn1 => exact rfl); k_whole))
  exact trivial
theorem fillit45 (P : Params) : hd.heap_1 P = hd.heap_1 P ∧ PySem.Challenge.rw_pq0711_01 = PySem.Challenge.rw_pq0711_01 := by
  k_fill
  exact ⟨rfl, rfl⟩
section
variable {w : World} {fr : List Env} {A A₀ : Around} {S g : Heap} {L : Addr} {m : Str → Option Value} {env : Env} {p : Program} {loose : List Str} {mean : ExcName → Option Value} {mg mb : Str → Option Value} {s : Shared} {Q E : Value → Shared → Prop} {W : List (Addr × Obj)} {gf : Obj → List (Addr × Obj)}
theorem dict_ne_tup : Value.type "dict" ≠ Value.type "tuple" := by decide
theorem list_ne_tup : Value.type "list" ≠ Value.type "tuple" := by decide
theorem ref_ne_tup {a : Addr} : Value.ref a ≠ Value.type "tuple" := nofun
theorem iter_ne_tup {o : Obj} (h : o.cls = .type "list_iterator") : o.cls ≠ .type "tuple" := by rw [h]; decide
theorem tail8 {a b c d e x y z : Addr × Obj} {tl : List (Addr × Obj)} : ∀ p ∈ tl, p ∈ a :: b :: c :: d :: e :: x :: y :: z :: tl := fun p hp => .tail _ (.tail _ (.tail _ (.tail _ (.tail _ (.tail _ (.tail _ (.tail _ hp)))))))
theorem subN2 {W Wx tl : List (Addr × Obj)} {g h : Heap} {L : Addr} (N : News g L h W) (s1 : ∀ p ∈ Wx, p ∈ W) (s2 : ∀ p ∈ tl, p ∈ W) : News g L h (Wx ++ tl) := fun p hp => N p ((List.mem_append.mp hp).elim (s1 p) (s2 p))
def KP (kvs : List (Str × Value)) (T : List (Addr × Obj)) (g : Heap) : Prop := ∃ r, valueAt kvs (Str.ofString "P") = some r ∧ TVG g T r (.tuple [.str (Str.ofString "type"), .tuple [.str (Str.ofString "name"), .str (Str.ofString "P"), .tuple []]])
theorem start_K {h₀ : Heap} {W₀ : List (Addr × Obj)} {ws : List Nat} {k dk dd a b1 b2 b3 z : Addr} {od oz : Obj} {kh : Int} {kt : Tok} {kn : Nat}
    (hA : A.handled = none) (hfr : A.frames = some (env :: fr)) (hdp : A.depth ≤ 460) (hu : A.units ≤ 1900) (B : Below A₀ S fr g) (F : Fr g L s.heap m) (N : News g L s.heap W) (hf : env.frame = some L) (hk : env.scope.kind = .function)
    (X : (hd.heap_1 w.params).In S) (H0 : S.get? 0 = some (boot_o_0 w.params)) (H1 : S.get? 1 = some (boot_o_1 w.params)) (T : Top p loose mean mg mb S)
    (m1 : (k, instObj 362 dk) ∈ W) (m2 : (dk, gK dd kh kt kn) ∈ W) (m3 : (dd, od) ∈ W) (hdo : od.IsDictOf (SD w) (kD a b1 b2 b3)) (m4 : (z, oz) ∈ W) (hz : oz.cls ≠ .type "tuple") (hz2 : oz.cls ≠ .type "dict")
    (D0 : DeclAt S fr h₀ ws (.ref a) (Str.ofString "Any")) (D1 : DeclAt S fr h₀ ws (.ref b1) (Str.ofString "Int64")) (D2 : DeclAt S fr h₀ ws (.ref b2) (Str.ofString "UInt64")) (D3 : DeclAt S fr h₀ ws (.ref b3) (Str.ofString "P"))
    (hg : ∀ b o, h₀.get? b = some o → b ∉ W₀.map (·.1) → g.get? b = some o) (e : W₀.map (·.1) = ws) (sz : h₀.objs.size ≤ L) (sub : ∀ x ∈ [k, dk, dd, z], x ∈ ws)
    (hret : ∀ d od kvs tl h' tk', od.IsDictOf (SD w) kvs → Tups tl → VG g tl kvs → KP kvs tl g →
      (∃ r, valueAt kvs (Str.ofString "Int") = some r ∧ valueAt kvs (Str.ofString "Int64") = some r) → (∃ r, valueAt kvs (Str.ofString "Tuple") = some r) → kvs.length ≤ 20 → Fr g L h' m → News g L h' ((d, od) :: (W ++ tl)) → @LT.lt Nat _ z d → Q (.ref d) { s with heap := h', toks := tk' }) :
    wpAny (model pg w) A (PySem.call (.ref 160) [.ref k]) Q E s := by
  have lift : ∀ {v nm}, DeclAt S fr h₀ ws v nm → DeclAt S (env :: fr) s.heap [k, dk, dd, z] v nm := fun D => by
    obtain ⟨b, db, pl, fl, sup, ab, h1, h2, h3, h4, h5, h6, t0, t1, t2, t3, t4, t5, t6, n, c1, rfl, e1, e2, e3, f4, f5, f6, n1, n2, n3⟩ := D.gnd (env := env) hg e sz hf
    exact ⟨b, db, pl, fl, sup, ab, h1, h2, h3, h4, h5, h6, t0, t1, t2, t3, t4, t5, t6, n, c1, rfl, F.keep _ _ e1, F.keep _ _ e2, F.keep _ _ e3, f4, f5, f6, fun q => n1 (sub _ q), fun q => n2 (sub _ q), fun q => n3 (sub _ q)⟩
  refine wpAny_up (A' := Ap 3 (env :: fr)) (start_spec (site B F hf hk) X H0 H1 T (N.get m1) (N.get m2) (N.get m3) hdo (lift D0) (lift D1) (lift D2) (lift D3) (N.get m4) hz hz2 (off B N m1 hf) (off B N m2 hf) (off B N m3 hf) (off B N m4 hf) ?_) hA hdp (fun l e => by cases e; exact hfr) rfl hu
  intro d od' kvs h' tk' e1 e2 V ⟨r, p1, p2⟩ pI pT hl st hn lt
  have F' := F.keeps st
  have N' : News g L h' W := fun p hp => ⟨st _ _ (N p hp).1, (N p hp).2⟩
  obtain ⟨n1, _⟩ := adds F N N' d _ e1 hn
  obtain ⟨T1, t1, t2, t3⟩ := vals_tail V F'
  obtain ⟨T2, s1, s2, s3⟩ := tv_tail F' p2
  refine hret d od' kvs (T1 ++ T2) h' tk' e2 (t1.app s1) (t3.mono fun p hp => List.mem_append_left _ hp) ⟨r, p1, s3.mono fun p hp => List.mem_append_right _ hp⟩ pI pT hl F' ?_ lt
  exact News.app n1 (News.app t2 s2)
end
def GinRet (w : World) (nm dN bi : Addr) (s : Shared) (R : Result → Shared → Prop) : Prop :=
  ∀ dv df odv odf kvs kf ha hb hc ta tb tc nn h' tk', h'.get? nm = some (instObj 201 dN) → h'.get? dN = some (gD bi dv df ha hb hc ta tb tc nn) → h'.get? dv = some odv → odv.IsDictOf (SD w) kvs → h'.get? df = some odf → odf.IsDictOf (SD w) kf → Vals h' kvs →
    (∃ r, valueAt kvs (Str.ofString "P") = some r ∧ TV h' r (.tuple [.str (Str.ofString "type"), .tuple [.str (Str.ofString "name"), .str (Str.ofString "P"), .tuple []]])) →
    (∃ r, valueAt kvs (Str.ofString "Int") = some r ∧ valueAt kvs (Str.ofString "Int64") = some r) → (∃ r, valueAt kvs (Str.ofString "Tuple") = some r) → kvs.length ≤ 20 → (∃ ks, kf = merged [] ks ∧ ks.map (·.1) = kvs.map (·.1) ∧ ∀ p ∈ ks, p.2 = .bool true) →
    Kp [dN] s.heap h' → s.heap.get? dv = none → s.heap.get? df = none → @LT.lt Nat _ nm dv → @LT.lt Nat _ dv df → R (.ok (.ret .none)) { s with heap := h', toks := tk' }
section
variable {w : World} {fr : List Env} {S : Heap} {p : Program} {loose : List Str} {mean : ExcName → Option Value} {mg mb : Str → Option Value} {s : Shared} {R : Result → Shared → Prop}
local macro_rules | `(tactic| k_all) => `(tactic| first | exact List.forall_mem_nil _ | (refine' tail_ne ?N ?T ?s ?m ?c; (case N => k_asm); (case T => assumption); (case m => k_mem); (case s => exact fun p hp => by repeat' (first | exact hp | refine List.Mem.tail _ ?_)); (case c => first | exact dict_cls (by assumption) | exact dict_ne_tup | exact list_ne_tup | exact ref_ne_tup | exact iter_ne_tup (by assumption))) | (refine' List.forall_mem_cons.mpr ⟨?a, ?b⟩; (case a => k_ne); (case b => k_all)))
theorem kw_Gin_1 : True := by
  k_with "call ref" => (k_here; (with_reducible show wpAny _ _ (PySem.call (Value.ref 160) _) _ _ _); refine hold ?_)
  exact trivial
theorem kw_Gin_2 : True := by
  k_with "eval ListComp" => (k_here; k_dflt (refine ListComp_D (by k_asm) (by with_unfolding_all rfl) (by decide) (by rfl) (by decide) (by rfl) ?_))
  exact trivial
theorem kw_Gin_3 : True := by
  k_with "SrcD" => (refine hold ?_)
  exact trivial
theorem kw_Gin_4 : True := by
  k_with "ElemEnd" => (refine hold ?_)
  exact trivial
theorem kw_Gin_5 : True := by
  k_with "call type:dict" => (k_here; refine hold ?_)
  exact trivial
set_option maxHeartbeats 0 in
theorem ginit_spec {nm dN bi k dk dd a b1 b2 b3 : Addr} {ob od : Obj} {kh : Int} {kt : Tok} {kn : Nat}
    (C : FrOk S fr s.heap) (X : (hd.heap_1 w.params).In S) (H0 : S.get? 0 = some (boot_o_0 w.params)) (H1 : S.get? 1 = some (boot_o_1 w.params)) (T : Top p loose mean mg mb S)
    (q1 : s.heap.get? nm = some (instObj 201 dN)) (q2 : s.heap.get? dN = some (dictOf [] 0)) (q3 : s.heap.get? bi = some ob) (hob : ob.IsDictOf (SD w) kB) (q4 : s.heap.get? k = some (instObj 362 dk)) (q5 : s.heap.get? dk = some (gK dd kh kt kn)) (q6 : s.heap.get? dd = some od) (hdo : od.IsDictOf (SD w) (kD a b1 b2 b3))
    (D0 : DeclAt S fr s.heap [nm, dN, bi, k, dk, dd] (.ref a) (Str.ofString "Any")) (D1 : DeclAt S fr s.heap [nm, dN, bi, k, dk, dd] (.ref b1) (Str.ofString "Int64")) (D2 : DeclAt S fr s.heap [nm, dN, bi, k, dk, dd] (.ref b2) (Str.ofString "UInt64")) (D3 : DeclAt S fr s.heap [nm, dN, bi, k, dk, dd] (.ref b3) (Str.ofString "P"))
    (f1 : Off S fr nm) (f2 : Off S fr dN) (f3 : Off S fr bi) (f4 : Off S fr k) (f5 : Off S fr dk) (f6 : Off S fr dd)
    (ord : @LT.lt Nat _ dk k ∧ @LT.lt Nat _ k dd ∧ @LT.lt Nat _ dd bi ∧ @LT.lt Nat _ bi dN ∧ @LT.lt Nat _ dN nm) (hret : GinRet w nm dN bi s R) :
    codeAny (model pg w) (Ap 2 fr) (.call (.ref 172) ⟨[.ref nm, .ref k, .ref bi], []⟩) R s := by
  have hW : ∀ p ∈ [(nm, instObj 201 dN), (dN, dictOf [] 0), (bi, ob), (k, instObj 362 dk), (dk, gK dd kh kt kn), (dd, od)], s.heap.get? p.1 = some p.2 :=
    List.forall_mem_cons.mpr ⟨q1, List.forall_mem_cons.mpr ⟨q2, List.forall_mem_cons.mpr ⟨q3, List.forall_mem_cons.mpr ⟨q4, List.forall_mem_cons.mpr ⟨q5, List.forall_mem_cons.mpr ⟨q6, List.forall_mem_nil _⟩⟩⟩⟩⟩⟩
  obtain ⟨o1, o2, o3, o4, o5⟩ := ord
  refine enterRT _ rfl C X T (by k_is) (by k_is) (show 440 < 1000 by decide) (BindsTo.of_eq (binds := [(Str.ofString "self", .ref nm), (Str.ofString "kinds", .ref k), (Str.ofString "builtins", .ref bi)]) rfl) (locs rfl) hW ?_ ?_ (by decide) rfl rfl rfl ?_
  · exact List.forall_mem_cons.mpr ⟨f1.1, List.forall_mem_cons.mpr ⟨f2.1, List.forall_mem_cons.mpr ⟨f3.1, List.forall_mem_cons.mpr ⟨f4.1, List.forall_mem_cons.mpr ⟨f5.1, List.forall_mem_cons.mpr ⟨f6.1, List.forall_mem_nil _⟩⟩⟩⟩⟩⟩
  · exact List.forall_mem_cons.mpr ⟨f1.2, List.forall_mem_cons.mpr ⟨f2.2, List.forall_mem_cons.mpr ⟨f3.2, List.forall_mem_cons.mpr ⟨f4.2, List.forall_mem_cons.mpr ⟨f5.2, List.forall_mem_cons.mpr ⟨f6.2, List.forall_mem_nil _⟩⟩⟩⟩⟩⟩
  intro Q₁ g L' h₁ tk₀ env m₀ rq nq F N B Xg Tg hg sz
  k_steps
  refine unhold ?_
  refine' start_K (z := nm) (oz := instObj 201 dN) rfl rfl (Nat.le_of_ble_eq_true rfl) (Nat.le_of_ble_eq_true rfl) B ?F ?N rfl rfl X H0 H1 T ?m1 ?m2 ?m3 hdo ?m4 ?z1 ?z2 D0 D1 D2 D3 hg rfl sz ?sub ?_
  case F => k_asm
  case N => k_asm
  case m1 => k_mem
  case m2 => k_mem
  case m3 => k_mem
  case m4 => k_mem
  case z1 => nofun
  case z2 => nofun
  case sub => exact List.forall_mem_cons.mpr ⟨by k_mem, List.forall_mem_cons.mpr ⟨by k_mem, List.forall_mem_cons.mpr ⟨by k_mem, List.forall_mem_cons.mpr ⟨by k_mem, List.forall_mem_nil _⟩⟩⟩⟩
  intro dv odv kvs tl h' tk' hdv hT hV hP hI hTu hl F' N' lt
  simp only [List.cons_append, List.nil_append] at N'
  k_sweep
  have lodv := dict_low H1 (site_new B N' (by k_mem))
  k_steps
  refine unhold ?_
  rename Fr _ _ _ _ => Fx
  rename News _ _ _ _ => Nx
  refine SrcD.intro rfl Fx Nx (by k_mem) hdv lodv (by have e : sizeLine = 16777216 := rfl; omega) fun g' => ?_
  refine rest_all (fun _ _ v => v = .bool true) (fun _ _ _ _ h => h) (by k_mem) ?_ ?_
  · intro i k y v tups ys I oI C' oC D m₂ h tk E' e1 e2 hoC hmx Fy Ny off ne
    obtain ⟨t', rfl⟩ := PySem.Value.isStrOf_shape e2
    have off0 := off
    simp only [List.cons_append, List.nil_append] at Ny off
    simp only [LCg.Off3] at off
    k_steps
    refine unhold ?_
    rename Fr _ _ _ _ => Fz
    rename News _ _ _ _ => Nz
    refine ElemEnd.intro [_] Fz Nz off0 (by repeat' (first | exact fun p hp => by repeat' (first | exact List.mem_append_left _ hp | refine List.Mem.tail _ ?_) | refine List.forall_mem_cons.mpr ⟨by k_mem, ?_⟩)) (by lcg_sub) (fun p hp => by repeat' (first | exact List.mem_append_right _ hp | refine List.Mem.tail _ ?_)) (by lcg_off) (.head _) rfl rfl e2 rfl
  · intro ys tups ks hp hk hr
    unfold LCg.FinE
    intro D' h' tk F' N' o1'
    clear Fx Nx
    simp only [List.cons_append, List.nil_append] at N'
    k_steps
    refine unhold ?_
    rename Fr _ _ _ _ => Fx
    rename News _ _ _ _ => Nx
    refine dict_K rfl Fx Nx (.head _) (hp.mono fun p hp => .tail _ hp) (by rw [lenK hk]; have e : sizeLine = 16777216 := rfl; omega) ?_
    intro df odf h2 tk2 hd2 F2 N2 l2 st2
    clear Fx Nx
    have ltd : @LT.lt Nat _ dv df := l2 (dv, odv) (by k_mem)
    have l3 : @LT.lt Nat _ dN df := l2 (dN, _) (by k_mem)
    clear l2
    have Nz := subN2 (Wx := [(df, odf), (dv, odv), (nm, instObj 201 dN), (dN, _), (bi, ob), (k, instObj 362 dk), (dk, gK dd kh kt kn), (dd, od)]) (tl := tl) N2 (by lcg_sub) (fun p hp => by repeat' (first | exact List.mem_append_left _ hp | refine List.Mem.tail _ ?_))
    simp only [List.cons_append, List.nil_append] at Nz
    clear N2
    k_steps
    all_goals (try dsimp only)
    rename Fr _ _ _ _ => Fz
    rename News _ _ _ _ => Nw
    obtain ⟨rP, pP, tP⟩ := hP
    refine' hret dv df odv odf kvs _ _ _ _ _ _ _ _ _ _ (Nw.get ?m1) (Nw.get ?m2) (Nw.get ?m3) hdv (Nw.get ?m4) hd2 (hV.vals Fz Nw tail8) ⟨rP, pP, tP.tv Fz Nw tail8⟩ hI hTu hl ⟨ks, rfl, hk, hr⟩ (kp_but Fz Nw hg hW ?kp) ?n1 ?n2 lt ltd
    case m1 => k_mem
    case m2 => k_mem
    case m3 => k_mem
    case m4 => k_mem
    case kp => repeat' (first | exact List.forall_mem_nil _ | refine List.forall_mem_cons.mpr ⟨?_, ?_⟩ | exact .inr (List.Mem.head _) | exact .inl (by k_mem))
    case n1 => exact fresh_new Nw hg (by k_mem) (fun q => by simp only [List.map_cons, List.map_nil, List.mem_cons, List.not_mem_nil, or_false] at q; rcases q with q | q | q | q | q | q <;> exact absurd q (neN (by omega)))
    case n2 => exact fresh_new Nw hg (by k_mem) (fun q => by simp only [List.map_cons, List.map_nil, List.mem_cons, List.not_mem_nil, or_false] at q; rcases q with q | q | q | q | q | q <;> exact absurd q (neN (by omega)))
end

end
section
theorem kwo_Dci : True := by
  k_with_none
  w_top off
  k_with "execs cons Assign cons" => (with_reducible refine seqN ?_); intro Qk1 nk1
  k_with "execs cons AugAssign cons" => (with_reducible refine seqN ?_); intro Qk1 nk1
  k_with "execs cons Expr cons" => (with_reducible refine seqN ?_); intro Qk1 nk1
  k_with "execs cons If cons" => (with_reducible refine seqQ ?_); intro Qk1 nk1 rk1
  k_with "execs cons For cons" => (with_reducible refine seqQ ?_); intro Qk1 nk1 rk1
  k_with "execs cons" => (with_reducible refine seq1 ?_)
  k_with "eval Constant int" => (with_reducible refine cInt ?_); intro tq1 kq1
  k_with "eval Constant str" => (with_reducible refine cStr ?_); intro tq1 kq1
  k_with "eval Name" => (k_here; k_dflt (refine' nameL ?Fn1 ?bn1 ?vn1 ?_; (case bn1 => decide +kernel); (case Fn1 => with_reducible assumption); (case vn1 => exact rfl); k_whole))
  exact trivial
theorem fillit72 (P : Params) : hd.heap_1 P = hd.heap_1 P ∧ PySem.Challenge.rw_pq0711_01 = PySem.Challenge.rw_pq0711_01 := by
  k_fill
  exact ⟨rfl, rfl⟩
/-! Decl.__init__ -/
def DinitRet (b db : Addr) (nm : Str) (sup : Value) (ab : Bool) (s : Shared) (R : Result → Shared → Prop) : Prop :=
  ∀ pl fl h1 h2 h3 h4 h5 h6 t0 t1 t2 t3 t4 t5 t6 n c1 c2 h' tk', h'.get? b = some (instObj 273 db) → h'.get? db = some (gC nm pl fl sup (.bool ab) h1 h2 h3 h4 h5 h6 t0 t1 t2 t3 t4 t5 t6 n) → h'.get? pl = some (listOf #[] c1) → h'.get? fl = some (listOf #[] c2) →
    Kp [db] s.heap h' → s.heap.get? pl = none → s.heap.get? fl = none → pl ≠ fl → R (.ok (.ret .none)) ⟨h', s.gens, s.drawn, tk', s.os⟩
theorem fresh_nw {g h h₀ : Heap} {L d : Addr} {o : Obj} {W W₀ : List (Addr × Obj)} (N : News g L h W) (hg : ∀ b o, h₀.get? b = some o → b ∉ W₀.map (·.1) → g.get? b = some o) (hm : (d, o) ∈ W) (n : d ∉ W₀.map (·.1)) : h₀.get? d = none := by
  cases e : h₀.get? d with
  | none => rfl
  | some o' =>
    have q := (N _ hm).2.2
    rw [hg d o' e n] at q; cases q
section
variable {w : World} {fr : List Env} {S : Heap} {p : Program} {loose : List Str} {mean : ExcName → Option Value} {mg mb : Str → Option Value} {s : Shared} {R : Result → Shared → Prop}
theorem kw_Dci_1 : True := by
  k_with "qnorm" => dsimp only
  exact trivial
theorem kw_Dci_2 : True := by
  k_with "call type:list cons nil" => (k_here; (with_reducible show wpAny _ _ (PySem.call (Value.type "list") [Value.ref _]) _ _ _); k_dflt (refine' list_copyKT ?k1Kw ?k2Kw ?k3Kw ?_ ?zKw; (case k1Kw => k_asm); (case k2Kw => k_asm); (case k3Kw => exact tupK (by k_asm) (by k_asm) (by k_is)); (case zKw => size_fits); k_whole); intro D'q c'q h'q F'q N'q l1q; (try k_lt l1q))
  exact trivial
set_option maxHeartbeats 0 in
theorem dinit_spec {b db l : Addr} {c0 : Nat} {nm : Str} {t : Tok} {sup : Value} {ab : Bool} (C : FrOk S fr s.heap) (X : (hd.heap_1 w.params).In S) (T : Top p loose mean mg mb S)
    (q1 : s.heap.get? b = some (instObj 273 db)) (q2 : s.heap.get? db = some (dictOf [] 0)) (q3 : s.heap.get? l = some (listOf #[] c0)) (f1 : Off S fr b) (f2 : Off S fr db) (f3 : Off S fr l) (n1 : b ≠ db) (n2 : l ≠ db) (hret : DinitRet b db nm sup ab s R) :
    codeAny (model pg w) (Ap 4 fr) (.call (.ref 251) ⟨[.ref b, .str nm t, .ref l, sup, .bool ab], []⟩) R s := by
  have hW : ∀ p ∈ [(b, instObj 273 db), (db, dictOf [] 0), (l, listOf #[] c0)], s.heap.get? p.1 = some p.2 := List.forall_mem_cons.mpr ⟨q1, List.forall_mem_cons.mpr ⟨q2, List.forall_mem_cons.mpr ⟨q3, List.forall_mem_nil _⟩⟩⟩
  refine enterRT _ rfl C X T (by k_is) (by k_is) (show 480 < 1000 by decide) (binds_K (binds := [(Str.ofString "self", .ref b), (Str.ofString "name", .str nm t), (Str.ofString "params", .ref l), (Str.ofString "above", sup), (Str.ofString "is_abstract", .bool ab), (Str.ofString "is_mutable", .bool false), (Str.ofString "fields", .ref 243)]) (X.keeps fun b o e => C.st b o e) rfl (by k_is) rfl rfl rfl) (locs rfl) hW ?_ ?_ (by decide) rfl rfl rfl ?_
  · exact List.forall_mem_cons.mpr ⟨f1.1, List.forall_mem_cons.mpr ⟨f2.1, List.forall_mem_cons.mpr ⟨f3.1, List.forall_mem_nil _⟩⟩⟩
  · exact List.forall_mem_cons.mpr ⟨f1.2, List.forall_mem_cons.mpr ⟨f2.2, List.forall_mem_cons.mpr ⟨f3.2, List.forall_mem_nil _⟩⟩⟩
  intro Q₁ g L' h₁ tk₀ env m₀ rq nq F N B Xg Tg hg sz
  k_steps
  (try dsimp only)
  rename Fr _ _ _ _ => Fz
  rename News _ _ _ _ => Nz
  refine' hret _ _ _ _ _ _ _ _ _ _ _ _ _ _ _ _ _ _ _ _ (Nz.get ?m1) (Nz.get ?m2) (Nz.get ?m3) (Nz.get ?m4) (kp_but Fz Nz hg hW ?kp) (fresh_nw Nz hg ?m3 ?n3) (fresh_nw Nz hg ?m4 ?n4) ?n5
  case m1 => k_mem
  case m2 => k_mem
  case m3 => k_mem
  case m4 => k_mem
  case kp => exact List.forall_mem_cons.mpr ⟨.inl (by k_mem), List.forall_mem_cons.mpr ⟨.inr (.head _), List.forall_mem_cons.mpr ⟨.inl (by k_mem), List.forall_mem_nil _⟩⟩⟩
  case n5 => exact neN (by omega)
  all_goals (intro q; simp only [List.map_cons, List.map_nil, List.mem_cons, List.not_mem_nil, or_false] at q; rcases q with q | q | q <;> exact absurd q (neN (by omega)))
end

end
section
theorem kwo_Knd : True := by
  k_with_none
  w_top off
  k_with "execs cons Assign cons" => (with_reducible refine seqN ?_); intro Qk1 nk1
  k_with "execs cons AugAssign cons" => (with_reducible refine seqN ?_); intro Qk1 nk1
  k_with "execs cons Expr cons" => (with_reducible refine seqN ?_); intro Qk1 nk1
  k_with "execs cons If cons" => (with_reducible refine seqQ ?_); intro Qk1 nk1 rk1
  k_with "execs cons For cons" => (with_reducible refine seqQ ?_); intro Qk1 nk1 rk1
  k_with "execs cons" => (with_reducible refine seq1 ?_)
  k_with "eval Constant int" => (with_reducible refine cInt ?_); intro tq1 kq1
  k_with "eval Constant str" => (with_reducible refine cStr ?_); intro tq1 kq1
  k_with "eval Name" => (k_here; k_dflt (refine' nameL ?Fn1 ?bn1 ?vn1 ?_; (case bn1 => decide +kernel); (case Fn1 => with_reducible assumption); (case vn1 => exact rfl); k_whole))
  exact trivial
theorem fillit73 (P : Params) : hd.heap_1 P = hd.heap_1 P ∧ PySem.Challenge.rw_pq0711_01 = PySem.Challenge.rw_pq0711_01 := by
  k_fill
  exact ⟨rfl, rfl⟩
section
variable {w : World} {fr : List Env} {A A₀ : Around} {S g : Heap} {L : Addr} {m : Str → Option Value} {env : Env} {p : Program} {loose : List Str} {mean : ExcName → Option Value} {mg mb : Str → Option Value} {Q E : Value → Shared → Prop} {W : List (Addr × Obj)}
  {h₁ : Heap} {gs : Array GenState} {dr : Drawn} {t₁ : Nat} {os : OsState}
/-! Decl(name, [], above, is_abstract) -/
theorem decl_K {l : Addr} {c0 : Nat} {nm : Str} {t : Tok} {sup : Value} {ab : Bool}
    (hA : (A.under (.builtin "type.__call__" ⟨[.ref 273, .str nm t, .ref l, sup, .bool ab], []⟩)).handled = none) (hfr : (A.under (.builtin "type.__call__" ⟨[.ref 273, .str nm t, .ref l, sup, .bool ab], []⟩)).frames = some (env :: fr)) (hdp : (A.under (.builtin "type.__call__" ⟨[.ref 273, .str nm t, .ref l, sup, .bool ab], []⟩)).depth ≤ 480) (hu : (A.under (.builtin "type.__call__" ⟨[.ref 273, .str nm t, .ref l, sup, .bool ab], []⟩)).units ≤ 2200)
    (B : Below A₀ S fr g) (F : Fr g L h₁ m) (N : News g L h₁ W) (hf : env.frame = some L) (hk : env.scope.kind = .function) (X : (hd.heap_1 w.params).In S) (T : Top p loose mean mg mb S) (Xg : (hd.heap_1 w.params).In g) (ml : (l, listOf #[] c0) ∈ W)
    (hret : ∀ b db pl fl h1 h2 h3 h4 h5 h6 t0 t1 t2 t3 t4 t5 t6 n c1 c2 h' tk', Fr g L h' m → News g L h' ((b, instObj 273 db) :: (db, gC nm pl fl sup (.bool ab) h1 h2 h3 h4 h5 h6 t0 t1 t2 t3 t4 t5 t6 n) :: (pl, listOf #[] c1) :: (fl, listOf #[] c2) :: W) →
      (∀ q ∈ W, q.1 ≠ b) → (∀ q ∈ W, q.1 ≠ db) → (∀ q ∈ W, q.1 ≠ pl) → (∀ q ∈ W, q.1 ≠ fl) → Q (.ref b) ⟨h', gs, dr, tk', os⟩) :
    wpAny (model pg w) A (PySem.call (.ref 273) [.str nm t, .ref l, sup, .bool ab]) Q E ⟨h₁, gs, dr, t₁, os⟩ := by
  refine call_cls (fI := 251) F Xg N (by k_is) (by k_is) (by k_is) ?_
  intro b db h' F' N' l1 l2
  have N2 : News g L h' W := fun p hp => N' p (.tail _ (.tail _ hp))
  have n2 : l ≠ db := Nat.ne_of_lt (l1 (l, _) ml)
  refine codeAny_up (A' := Ap 4 (env :: fr)) (dinit_spec (site B F' hf hk) X T (N'.get (.head _)) (N'.get (.tail _ (.head _))) (N2.get ml) (off B N' (.head _) hf) (off B N' (.tail _ (.head _)) hf) (off B N2 ml hf) (Nat.ne_of_gt l2) n2 ?fin) hA hdp (fun l e => by cases e; exact hfr) rfl hu
  intro pl fl h1 h2 h3 h4 h5 h6 t0 t1 t2 t3 t4 t5 t6 n c1 c2 h2' tk' e1 e2 e3 e4 kp p1 p2 pn
  have nd : ∀ q ∈ W, q.1 ∉ [db] := fun q hq z => absurd (l1 q hq) (by rw [List.mem_singleton.mp z]; exact Nat.lt_irrefl _)
  have F2 : Fr g L h2' m := kp_fr (s := ⟨h', gs, dr, t₁, os⟩) F' kp (Ne.symm (N' _ (.tail _ (.head _))).2.1) (N' _ (.tail _ (.head _))).2.2
  have N3 : News g L h2' W := fun q hq => ⟨kp _ _ (N2 q hq).1 (nd q hq), (N2 q hq).2⟩
  obtain ⟨a1, b1⟩ := adds F' N2 N3 pl _ e3 p1
  obtain ⟨a2, b2⟩ := adds F' N2 N3 fl _ e4 p2
  refine ⟨rfl, hret b db pl fl h1 h2 h3 h4 h5 h6 t0 t1 t2 t3 t4 t5 t6 n c1 c2 h2' tk' F2 ?_ (fun q hq => Nat.ne_of_lt (Nat.lt_trans (l1 q hq) l2)) (fun q hq => Nat.ne_of_lt (l1 q hq)) (allNe_all b1) (allNe_all b2)⟩
  exact List.forall_mem_cons.mpr ⟨⟨e1, (N' _ (.head _)).2⟩, List.forall_mem_cons.mpr ⟨⟨e2, (N' _ (.tail _ (.head _))).2⟩, List.forall_mem_cons.mpr ⟨a1 _ (.head _), a2⟩⟩⟩
end
theorem not_two {a b c : Addr} {oa ob : Obj} (h : @Ne Nat c a) (k : @Ne Nat c b) : c ∉ [(a, oa), (b, ob)].map (·.1) := fun q => by
  rcases List.mem_cons.mp q with q | q
  · exact h q
  · exact k (List.mem_singleton.mp q)
/-! Kinds.__init__ -/
def KinRet (w : World) (k dk : Addr) (s : Shared) (R : Result → Shared → Prop) : Prop :=
  ∀ dd a da pla fla kh kt kn od h1 h2 h3 h4 h5 h6 t0 t1 t2 t3 t4 t5 t6 n c1 c2 h' tk', h'.get? k = some (instObj 362 dk) → h'.get? dk = some (gK dd kh kt kn) → h'.get? dd = some od → od.IsDictOf (SD w) [(Str.ofString "Any", .ref a)] →
    h'.get? a = some (instObj 273 da) → h'.get? da = some (gC (Str.ofString "Any") pla fla .none (.bool true) h1 h2 h3 h4 h5 h6 t0 t1 t2 t3 t4 t5 t6 n) → h'.get? pla = some (listOf #[] c1) → h'.get? fla = some (listOf #[] c2) → Kp [dk] s.heap h' →
    (∀ x ∈ ([dd, a, da, pla, fla] : List Nat), s.heap.get? x = none) → (∀ x ∈ ([a, da, pla, fla] : List Nat), x ≠ dd) → @LT.lt Nat _ k dd → R (.ok (.ret .none)) ⟨h', s.gens, s.drawn, tk', s.os⟩
section
variable {w : World} {fr : List Env} {S : Heap} {p : Program} {loose : List Str} {mean : ExcName → Option Value} {mg mb : Str → Option Value} {s : Shared} {R : Result → Shared → Prop}
theorem kw_Knd_1 : True := by
  k_with "qnorm" => dsimp only
  exact trivial
theorem kw_Knd_2 : True := by
  k_with "nex" => first | (refine' Ne.symm (nb1q (_, _) ?nmKw); case nmKw => k_mem) | (refine' Ne.symm (nb2q (_, _) ?nmKw); case nmKw => k_mem) | (refine' Ne.symm (nb3q (_, _) ?nmKw); case nmKw => k_mem) | (refine' Ne.symm (nb4q (_, _) ?nmKw); case nmKw => k_mem)
  exact trivial
local macro_rules | `(tactic| k_ne) => `(tactic| first | with_reducible assumption | (with_reducible refine Ne.symm ?_; with_reducible assumption) | walk_at "nex" | (with_reducible refine neLt ?_; walk_at "ltc") | (with_reducible refine neGt ?_; walk_at "ltc"))
theorem kw_Knd_3 : True := by
  k_with "call ref" => (k_here; (with_reducible show wpAny _ _ (PySem.call (Value.ref 273) _) _ _ _); k_dflt (refine' decl_K rfl rfl ?hdpKw ?huKw ?BKw ?FKw ?NKw rfl rfl ?XKw ?TKw ?XgKw ?mlKw ?_; (case hdpKw => exact Nat.le_of_ble_eq_true rfl); (case huKw => exact Nat.le_of_ble_eq_true rfl); (case BKw => with_reducible assumption); (case FKw => k_asm); (case NKw => k_asm); (case XKw => exact X); (case TKw => exact T); (case XgKw => with_reducible assumption); (case mlKw => k_mem)); intro b'q db'q pl'q fl'q h1'q h2'q h3'q h4'q h5'q h6'q t0'q t1'q t2'q t3'q t4'q t5'q t6'q n'q c1'q c2'q h'q tk'q F'q N'q nb1q nb2q nb3q nb4q; (try k_sweep))
  exact trivial
set_option maxHeartbeats 0 in
theorem kinit_spec {k dk : Addr} (C : FrOk S fr s.heap) (X : (hd.heap_1 w.params).In S) (T : Top p loose mean mg mb S) (q1 : s.heap.get? k = some (instObj 362 dk)) (q2 : s.heap.get? dk = some (dictOf [] 0)) (f1 : Off S fr k) (f2 : Off S fr dk) (n1 : k ≠ dk) (hret : KinRet w k dk s R) :
    codeAny (model pg w) (Ap 2 fr) (.call (.ref 291) ⟨[.ref k], []⟩) R s := by
  have hW : ∀ p ∈ [(k, instObj 362 dk), (dk, dictOf [] 0)], s.heap.get? p.1 = some p.2 := List.forall_mem_cons.mpr ⟨q1, List.forall_mem_cons.mpr ⟨q2, List.forall_mem_nil _⟩⟩
  refine enterRT _ rfl C X T (by k_is) (by k_is) (show 440 < 1000 by decide) (BindsTo.of_eq (binds := [(Str.ofString "self", .ref k)]) rfl) (locs rfl) hW ?_ ?_ (by decide) rfl rfl rfl ?_
  · exact List.forall_mem_cons.mpr ⟨f1.1, List.forall_mem_cons.mpr ⟨f2.1, List.forall_mem_nil _⟩⟩
  · exact List.forall_mem_cons.mpr ⟨f1.2, List.forall_mem_cons.mpr ⟨f2.2, List.forall_mem_nil _⟩⟩
  intro Q₁ g L' h₁ tk₀ env m₀ rq nq F N B Xg Tg hg sz
  k_steps
  (try dsimp only)
  rename Fr _ _ _ _ => Fz
  rename News _ _ _ _ => Nz
  rename Obj.IsDictOf _ _ _ => hdz
  refine' hret _ _ _ _ _ _ _ _ _ _ _ _ _ _ _ _ _ _ _ _ _ _ _ _ _ _ _ (Nz.get ?m1) (Nz.get ?m2) (Nz.get ?m3) hdz (Nz.get ?m4) (Nz.get ?m5) (Nz.get ?m6) (Nz.get ?m7) (kp_but Fz Nz hg hW ?kp) ?nw ?ne ?lt
  case m1 => k_mem
  case m2 => k_mem
  case m3 => k_mem
  case m4 => k_mem
  case m5 => k_mem
  case m6 => k_mem
  case m7 => k_mem
  case kp => exact List.forall_mem_cons.mpr ⟨.inl (by k_mem), List.forall_mem_cons.mpr ⟨.inr (.head _), List.forall_mem_nil _⟩⟩
  case lt => with_reducible assumption
  case ne => exact List.forall_mem_cons.mpr ⟨by k_ne, List.forall_mem_cons.mpr ⟨by k_ne, List.forall_mem_cons.mpr ⟨by k_ne, List.forall_mem_cons.mpr ⟨by k_ne, List.forall_mem_nil _⟩⟩⟩⟩
  case nw =>
    refine List.forall_mem_cons.mpr ⟨?_, List.forall_mem_cons.mpr ⟨?_, List.forall_mem_cons.mpr ⟨?_, List.forall_mem_cons.mpr ⟨?_, List.forall_mem_cons.mpr ⟨?_, List.forall_mem_nil _⟩⟩⟩⟩⟩
    all_goals (refine fresh_nw Nz hg (by k_mem) (not_two (by k_ne) (by k_ne)))
end

end
section
theorem kwo_Mk : True := by
  k_with_none
  w_top off
  k_with "execs cons Assign cons" => (with_reducible refine seqN ?_); intro Qk1 nk1
  k_with "execs cons AugAssign cons" => (with_reducible refine seqN ?_); intro Qk1 nk1
  k_with "execs cons Expr cons" => (with_reducible refine seqN ?_); intro Qk1 nk1
  k_with "execs cons If cons" => (with_reducible refine seqQ ?_); intro Qk1 nk1 rk1
  k_with "execs cons For cons" => (with_reducible refine seqQ ?_); intro Qk1 nk1 rk1
  k_with "execs cons" => (with_reducible refine seq1 ?_)
  k_with "eval Constant int" => (with_reducible refine cInt ?_); intro tq1 kq1
  k_with "eval Constant str" => (with_reducible refine cStr ?_); intro tq1 kq1
  k_with "eval Name" => (k_here; k_dflt (refine' nameL ?Fn1 ?bn1 ?vn1 ?_; (case bn1 => decide +kernel); (case Fn1 => with_reducible assumption); (case vn1 => exact rfl); k_whole))
  exact trivial
theorem fillit46 (P : Params) : hd.heap_1 P = hd.heap_1 P ∧ PySem.Challenge.rw_pq0711_01 = PySem.Challenge.rw_pq0711_01 := by
  k_fill
  exact ⟨rfl, rfl⟩
section
variable {w : World} {fr : List Env} {A A₀ : Around} {S g : Heap} {L : Addr} {m : Str → Option Value} {env : Env} {p : Program} {loose : List Str} {mean : ExcName → Option Value} {mg mb : Str → Option Value} {s : Shared} {Q E : Value → Shared → Prop} {W : List (Addr × Obj)} {gf : Obj → List (Addr × Obj)}
theorem kp_at {dd : Addr} {W' : List (Addr × Obj)} {h h' : Heap} (N : News g L h W) (k : Kp [dd] h h') (s : ∀ p ∈ W', p ∈ W ∧ p.1 ≠ dd) : News g L h' W' := fun p hp => ⟨k _ _ (N p (s p hp).1).1 fun q => (s p hp).2 (List.mem_singleton.mp q), (N p (s p hp).1).2⟩
theorem declare_K {h₁ : Heap} {gs : Array GenState} {dr : Drawn} {t₁ : Nat} {os : OsState} {k dk dd b db pl fl t e a da pla fla : Addr} {c1 c2 c3 : Nat} {od : Obj} {kvs : List (Str × Value)} {nm : Str} {kh : Int} {kt : Tok} {kn : Nat} {h1 h2 h3 h4 h5 h6 : Int} {t0 t1 t2 t3 t4 t5 t6 : Tok} {n : Nat} {v1 v2 : Tok} {i1 i2 i3 i4 i5 i6 : Int} {u0 u1 u2 u3 u4 u5 u6 : Tok} {n' : Nat}
    (hA : A.handled = none) (hfr : A.frames = some (env :: fr)) (hdp : A.depth ≤ 460) (hu : A.units ≤ 1900) (B : Below A₀ S fr g) (F : Fr g L h₁ m) (N : News g L h₁ W) (hf : env.frame = some L) (hk : env.scope.kind = .function)
    (X : (hd.heap_1 w.params).In S) (H0 : S.get? 0 = some (boot_o_0 w.params)) (H1 : S.get? 1 = some (boot_o_1 w.params)) (T : Top p loose mean mg mb S)
    (hm : ∀ p ∈ [(k, instObj 362 dk), (dk, gK dd kh kt kn), (dd, od), (b, instObj 273 db), (db, gC nm pl fl (.ref t) (.bool false) h1 h2 h3 h4 h5 h6 t0 t1 t2 t3 t4 t5 t6 n), (pl, listOf #[] c1), (fl, listOf #[] c2), (t, gN (Str.ofString "Any") v1 v2 e), (e, g0), (a, instObj 273 da), (da, gC (Str.ofString "Any") pla fla .none (.bool true) i1 i2 i3 i4 i5 i6 u0 u1 u2 u3 u4 u5 u6 n'), (pla, listOf #[] c3)], p ∈ W) (hdo : od.IsDictOf (SD w) kvs) (nk : k ≠ dd) (ndk : dk ≠ dd) (nr : ∀ x ∈ ([b, db, pl, fl, t, e, a, da, pla] : List Nat), x ≠ dd) (oet : @LT.lt Nat _ e t)
    (hv1 : valueAt kvs nm = none) (hv2 : valueAt kvs (Str.ofString "Any") = some (.ref a)) (hl : kvs.length ≤ 900)
    (hret : ∀ od' h' tk', od'.IsDictOf (SD w) (stored kvs nm (.ref b)) → h'.get? dd = some od' → Kp [dd] h₁ h' → Fr g L h' m → Q .none ⟨h', gs, dr, tk', os⟩) :
    wpAny (model pg w) A (PySem.call (.ref 296) [.ref k, .ref b]) Q E ⟨h₁, gs, dr, t₁, os⟩ := by
  refine wpAny_up (A' := Ap 3 (env :: fr)) (declare_spec (site B F hf hk) X H0 H1 T (fun p hp => N.get (hm p hp)) (fun p hp => off (b := p.1) (o := p.2) B N (hm p hp) hf) hdo nk ndk nr oet hv1 hv2 hl ?_) hA hdp (fun l e => by cases e; exact hfr) rfl hu
  intro od' h' tk' e1 e2 e3
  have m3 := N _ (hm (dd, od) (.tail _ (.tail _ (.head _))))
  exact hret od' h' tk' e2 e1 e3 (kp_fr (s := ⟨h₁, gs, dr, t₁, os⟩) F e3 (Ne.symm m3.2.1) m3.2.2)
/-! a kind that stands in a tail of the ledger -/
inductive DeclIn (T : List (Addr × Obj)) (v : Value) (nm : Str) : Prop
  | mk (b db pl fl : Addr) (sup ab : Value) (h1 h2 h3 h4 h5 h6 : Int) (t0 t1 t2 t3 t4 t5 t6 : Tok) (n c1 : Nat) (e0 : v = .ref b) (m1 : (b, instObj 273 db) ∈ T) (m2 : (db, gC nm pl fl sup ab h1 h2 h3 h4 h5 h6 t0 t1 t2 t3 t4 t5 t6 n) ∈ T) (m3 : (pl, listOf #[] c1) ∈ T) : DeclIn T v nm
theorem DeclIn.mono {T T' : List (Addr × Obj)} {v : Value} {nm : Str} (D : DeclIn T v nm) (s : ∀ p ∈ T, p ∈ T') : DeclIn T' v nm := by
  obtain ⟨b, db, pl, fl, sup, ab, h1, h2, h3, h4, h5, h6, t0, t1, t2, t3, t4, t5, t6, n, c1, rfl, m1, m2, m3⟩ := D
  exact ⟨b, db, pl, fl, sup, ab, h1, h2, h3, h4, h5, h6, t0, t1, t2, t3, t4, t5, t6, n, c1, rfl, s _ m1, s _ m2, s _ m3⟩
theorem DeclIn.at {T : List (Addr × Obj)} {v : Value} {nm : Str} {h' : Heap} {ws : List Nat} (D : DeclIn T v nm) (B : Below A₀ S fr g) (N : News g L h' W) (hf : env.frame = some L) (s : ∀ p ∈ T, p ∈ W) (o : ∀ p ∈ T, p.1 ∉ ws) : DeclAt S (env :: fr) h' ws v nm := by
  obtain ⟨b, db, pl, fl, sup, ab, h1, h2, h3, h4, h5, h6, t0, t1, t2, t3, t4, t5, t6, n, c1, rfl, m1, m2, m3⟩ := D
  exact ⟨b, db, pl, fl, sup, ab, h1, h2, h3, h4, h5, h6, t0, t1, t2, t3, t4, t5, t6, n, c1, rfl, N.get (s _ m1), N.get (s _ m2), N.get (s _ m3), off B N (s _ m1) hf, off B N (s _ m2) hf, off B N (s _ m3) hf, o _ m1, o _ m2, o _ m3⟩
inductive AnyIn (T : List (Addr × Obj)) (a : Addr) : Prop
  | mk (da pla fla : Addr) (h1 h2 h3 h4 h5 h6 : Int) (t0 t1 t2 t3 t4 t5 t6 : Tok) (n c1 : Nat) (m1 : (a, instObj 273 da) ∈ T) (m2 : (da, gC (Str.ofString "Any") pla fla .none (.bool true) h1 h2 h3 h4 h5 h6 t0 t1 t2 t3 t4 t5 t6 n) ∈ T) (m3 : (pla, listOf #[] c1) ∈ T) : AnyIn T a
theorem AnyIn.decl {T : List (Addr × Obj)} {a : Addr} (D : AnyIn T a) : DeclIn T (.ref a) (Str.ofString "Any") := by
  obtain ⟨da, pl, fl, h1, h2, h3, h4, h5, h6, t0, t1, t2, t3, t4, t5, t6, n, c1, m1, m2, m3⟩ := D
  exact ⟨a, da, pl, fl, _, _, h1, h2, h3, h4, h5, h6, t0, t1, t2, t3, t4, t5, t6, n, c1, rfl, m1, m2, m3⟩
theorem AnyIn.mono {T T' : List (Addr × Obj)} {a : Addr} (D : AnyIn T a) (s : ∀ p ∈ T, p ∈ T') : AnyIn T' a := by
  obtain ⟨da, pl, fl, h1, h2, h3, h4, h5, h6, t0, t1, t2, t3, t4, t5, t6, n, c1, m1, m2, m3⟩ := D
  exact ⟨da, pl, fl, h1, h2, h3, h4, h5, h6, t0, t1, t2, t3, t4, t5, t6, n, c1, s _ m1, s _ m2, s _ m3⟩
def MkRet (w : World) (g : Heap) (W : List (Addr × Obj)) (bi : Addr) (s : Shared) (Q : Value → Shared → Prop) : Prop :=
  ∀ nm dN dv df odv odf kvs ks h' tk', GL w h' nm dN bi dv df → h'.get? dv = some odv → odv.IsDictOf (SD w) kvs → h'.get? df = some odf → odf.IsDictOf (SD w) (merged [] ks) → ks.map (·.1) = kvs.map (·.1) → (∀ p ∈ ks, p.2 = .bool true) → Vals h' kvs →
    (∃ r, valueAt kvs (Str.ofString "P") = some r ∧ TV h' r (.tuple [.str (Str.ofString "type"), .tuple [.str (Str.ofString "name"), .str (Str.ofString "P"), .tuple []]])) →
    (∃ r, valueAt kvs (Str.ofString "Int") = some r ∧ valueAt kvs (Str.ofString "Int64") = some r) → (∃ r, valueAt kvs (Str.ofString "Tuple") = some r) → kvs.length ≤ 20 → (∀ b o, g.get? b = some o → h'.get? b = some o) → (∀ p ∈ W, h'.get? p.1 = some p.2) →
    (g.get? nm = none ∧ g.get? dN = none ∧ g.get? dv = none ∧ g.get? df = none) → (@LT.lt Nat _ bi dN ∧ @LT.lt Nat _ dN nm ∧ @LT.lt Nat _ nm dv ∧ @LT.lt Nat _ dv df) → Q (.ref nm) { s with heap := h', toks := tk' }
theorem mk_K {bi k dk dd a b1 b2 b3 : Addr} {ob od : Obj} {kh : Int} {kt : Tok} {kn : Nat} {tl : List (Addr × Obj)}
    (hA : (A.under (.builtin "type.__call__" ⟨[.ref 201, .ref k, .ref bi], []⟩)).handled = none) (hfr : (A.under (.builtin "type.__call__" ⟨[.ref 201, .ref k, .ref bi], []⟩)).frames = some (env :: fr)) (hdp : (A.under (.builtin "type.__call__" ⟨[.ref 201, .ref k, .ref bi], []⟩)).depth ≤ 440) (hu : (A.under (.builtin "type.__call__" ⟨[.ref 201, .ref k, .ref bi], []⟩)).units ≤ 1600) (B : Below A₀ S fr g) (F : Fr g L s.heap m) (N : News g L s.heap W) (hf : env.frame = some L) (hk : env.scope.kind = .function)
    (X : (hd.heap_1 w.params).In S) (H0 : S.get? 0 = some (boot_o_0 w.params)) (H1 : S.get? 1 = some (boot_o_1 w.params)) (T : Top p loose mean mg mb S) (Xg : (hd.heap_1 w.params).In g)
    (m1 : (k, instObj 362 dk) ∈ W) (m2 : (dk, gK dd kh kt kn) ∈ W) (m3 : (dd, od) ∈ W) (hdo : od.IsDictOf (SD w) (kD a b1 b2 b3)) (m4 : (bi, ob) ∈ W) (hob : ob.IsDictOf (SD w) kB)
    (sT : ∀ p ∈ tl, p ∈ W) (oT : ∀ p ∈ tl, p.1 ∉ ([bi, k, dk, dd] : List Nat)) (D0 : DeclIn tl (.ref a) (Str.ofString "Any")) (D1 : DeclIn tl (.ref b1) (Str.ofString "Int64")) (D2 : DeclIn tl (.ref b2) (Str.ofString "UInt64")) (D3 : DeclIn tl (.ref b3) (Str.ofString "P"))
    (o1 : @LT.lt Nat _ dk k) (o2 : @LT.lt Nat _ k dd) (o3 : @LT.lt Nat _ dd bi)
    (hret : MkRet w g W bi s Q) : wpAny (model pg w) A (PySem.call (.ref 201) [.ref k, .ref bi]) Q E s := by
  refine call_cls (fI := 172) F Xg N (by k_is) (by k_is) (by k_is) ?_
  intro nm dN h' F' N' l1 l2
  have lb : @LT.lt Nat _ bi dN := l1 (bi, ob) m4
  have N2 : News g L h' W := fun p hp => N' p (.tail _ (.tail _ hp))
  have oN : ∀ p ∈ tl, p.1 ∉ ([nm, dN, bi, k, dk, dd] : List Nat) := fun p hp q => by
    have h1 : @LT.lt Nat _ p.1 dN := l1 p (sT p hp)
    rcases List.mem_cons.mp q with q | q
    · exact absurd (Nat.lt_trans h1 l2) (by rw [q]; exact Nat.lt_irrefl _)
    · rcases List.mem_cons.mp q with q | q
      · exact absurd h1 (by rw [q]; exact Nat.lt_irrefl _)
      · exact oT p hp q
  refine codeAny_up (A' := Ap 2 (env :: fr)) (ginit_spec (s := { s with heap := h' }) (site B F' hf hk) X H0 H1 T (N'.get (.head _)) (N'.get (.tail _ (.head _))) (N2.get m4) hob (N2.get m1) (N2.get m2) (N2.get m3) hdo
    (D0.at B N2 hf sT oN) (D1.at B N2 hf sT oN) (D2.at B N2 hf sT oN) (D3.at B N2 hf sT oN)
    (off B N' (.head _) hf) (off B N' (.tail _ (.head _)) hf) (off B N2 m4 hf) (off B N2 m1 hf) (off B N2 m2 hf) (off B N2 m3 hf) ⟨o1, o2, o3, lb, l2⟩ ?fin) hA hdp (fun l e => by cases e; exact hfr) rfl hu
  case fin =>
    intro dv df odv odf kvs kf ha hb hc ta tb tc nn h2 tk2 e1 e2 e3 e4 e5 e6 V hP hI hT hl ⟨ks, ek, ek1, ek2⟩ kp n1 n2 l3 l4
    subst ek
    have nd : ∀ p ∈ W, p.1 ∉ [dN] := fun p hp q => by
      have q' : p.1 = dN := List.mem_singleton.mp q
      exact absurd (l1 p hp) (by rw [q']; exact Nat.lt_irrefl _)
    have ng : ∀ b, h'.get? b = none → g.get? b = none := fun b e => by
      cases q : g.get? b with
      | none => rfl
      | some o => rw [F'.keep _ _ q] at e; cases e
    refine ⟨rfl, hret nm dN dv df odv odf kvs ks h2 tk2 ⟨e1, ⟨_, _, _, _, _, _, _, e2⟩, ob, kp _ _ (N2.get m4) (nd _ m4), hob⟩ e3 e4 e5 e6 ek1 ek2 V hP hI hT hl (fun b o e => kp b o (F'.keep _ _ e) fun q => ?_) (fun p hp => kp _ _ (N2 p hp).1 (nd p hp)) ⟨(N' _ (.head _)).2.2, (N' _ (.tail _ (.head _))).2.2, ng _ n1, ng _ n2⟩ ⟨lb, l2, l3, l4⟩⟩
    have q' : b = dN := List.mem_singleton.mp q
    rw [q', (N' _ (.tail _ (.head _))).2.2] at e; cases e
end
theorem va1 {x : Value} : valueAt [(Str.ofString "Any", x)] (Str.ofString "Int64") = none := by rw [va_cons, if_neg n_AI]; rfl
theorem va2 {x y : Value} : valueAt [(Str.ofString "Any", x), (Str.ofString "Int64", y)] (Str.ofString "UInt64") = none := by rw [va_cons, if_neg n_AU, va_cons, if_neg n_IU]; rfl
theorem va3 {x y z : Value} : valueAt [(Str.ofString "Any", x), (Str.ofString "Int64", y), (Str.ofString "UInt64", z)] (Str.ofString "P") = none := by rw [va_cons, if_neg n_AP, va_cons, if_neg n_IP, va_cons, if_neg n_UP]; rfl
theorem st1 {x y : Value} : stored [(Str.ofString "Any", x)] (Str.ofString "Int64") y = [(Str.ofString "Any", x), (Str.ofString "Int64", y)] := stored_absent va1 y
theorem st2 {x y z : Value} : stored [(Str.ofString "Any", x), (Str.ofString "Int64", y)] (Str.ofString "UInt64") z = [(Str.ofString "Any", x), (Str.ofString "Int64", y), (Str.ofString "UInt64", z)] := stored_absent va2 z
theorem st3 {x y z v : Value} : stored [(Str.ofString "Any", x), (Str.ofString "Int64", y), (Str.ofString "UInt64", z)] (Str.ofString "P") v = [(Str.ofString "Any", x), (Str.ofString "Int64", y), (Str.ofString "UInt64", z), (Str.ofString "P", v)] := stored_absent va3 v
theorem vaA {x : Value} {r : List (Str × Value)} : valueAt ((Str.ofString "Any", x) :: r) (Str.ofString "Any") = some x := by rw [va_cons, if_pos rfl]

end
section
theorem kwo_Glb : True := by
  k_with_none
  w_top off
  k_with "execs cons Assign cons" => (with_reducible refine seqN ?_); intro Qk1 nk1
  k_with "execs cons AugAssign cons" => (with_reducible refine seqN ?_); intro Qk1 nk1
  k_with "execs cons Expr cons" => (with_reducible refine seqN ?_); intro Qk1 nk1
  k_with "execs cons If cons" => (with_reducible refine seqQ ?_); intro Qk1 nk1 rk1
  k_with "execs cons For cons" => (with_reducible refine seqQ ?_); intro Qk1 nk1 rk1
  k_with "execs cons" => (with_reducible refine seq1 ?_)
  k_with "eval Constant int" => (with_reducible refine cInt ?_); intro tq1 kq1
  k_with "eval Constant str" => (with_reducible refine cStr ?_); intro tq1 kq1
  k_with "eval Name" => (k_here; k_dflt (refine' nameL ?Fn1 ?bn1 ?vn1 ?_; (case bn1 => decide +kernel); (case Fn1 => with_reducible assumption); (case vn1 => exact rfl); k_whole))
  exact trivial
theorem fillit44 (P : Params) : hd.heap_1 P = hd.heap_1 P ∧ PySem.Challenge.rw_pq0711_01 = PySem.Challenge.rw_pq0711_01 := by
  k_fill
  exact ⟨rfl, rfl⟩
section
variable {w : World} {fr : List Env} {S : Heap} {p : Program} {loose : List Str} {mean : ExcName → Option Value} {mg mb : Str → Option Value} {s : Shared} {Q E : Value → Shared → Prop}
/-! Kinds() -/
theorem kinds_K {A A₀ : Around} {g : Heap} {L : Addr} {m : Str → Option Value} {env : Env} {h₁ : Heap} {gs : Array GenState} {dr : Drawn} {t₁ : Nat} {os : OsState} {z : Addr} {oz : Obj}
    (hA : (A.under (.builtin "type.__call__" ⟨[.ref 362], []⟩)).handled = none) (hfr : (A.under (.builtin "type.__call__" ⟨[.ref 362], []⟩)).frames = some (env :: fr)) (hdp : (A.under (.builtin "type.__call__" ⟨[.ref 362], []⟩)).depth ≤ 440) (hu : (A.under (.builtin "type.__call__" ⟨[.ref 362], []⟩)).units ≤ 1600)
    (B : Below A₀ S fr g) (F : Fr g L h₁ m) (N : News g L h₁ [(z, oz)]) (hf : env.frame = some L) (hk : env.scope.kind = .function) (X : (hd.heap_1 w.params).In S) (T : Top p loose mean mg mb S) (Xg : (hd.heap_1 w.params).In g)
    (hret : ∀ k dk dd a kh kt kn od tl h' tk', od.IsDictOf (SD w) [(Str.ofString "Any", .ref a)] → AnyIn tl a → (∀ p ∈ tl, p.1 ∉ ([k, dk, dd] : List Nat)) → @LT.lt Nat _ dk k → @LT.lt Nat _ k dd → z ≠ dd → Fr g L h' m → News g L h' ((k, instObj 362 dk) :: (dk, gK dd kh kt kn) :: (dd, od) :: (z, oz) :: tl) → Q (.ref k) ⟨h', gs, dr, tk', os⟩) :
    wpAny (model pg w) A (PySem.call (.ref 362) []) Q E ⟨h₁, gs, dr, t₁, os⟩ := by
  refine call_cls (fI := 291) F Xg N (by k_is) (by k_is) (by k_is) ?_
  intro k dk h' F' N' l1 l2
  have N2 := ntail (ntail N')
  refine codeAny_up (A' := Ap 2 (env :: fr)) (kinit_spec (site B F' hf hk) X T (N'.get (.head _)) (N'.get (.tail _ (.head _))) (off B N' (.head _) hf) (off B N' (.tail _ (.head _)) hf) (Nat.ne_of_gt l2) ?fin) hA hdp (fun l e => by cases e; exact hfr) rfl hu
  intro dd a da pla fla kh kt kn od h1 h2 h3 h4 h5 h6 t0 t1 t2 t3 t4 t5 t6 n c1 c2 h2' tk' e1 e2 e3 hod e4 e5 e6 e7 kp nw ne lt
  have F2 : Fr g L h2' m := kp_fr (s := ⟨h', gs, dr, t₁, os⟩) F' kp (Ne.symm (N' _ (.tail _ (.head _))).2.1) (N' _ (.tail _ (.head _))).2.2
  have zd : z ∉ [dk] := fun q => absurd (l1 (z, oz) (.head _)) (by rw [show (z, oz).1 = z from rfl, List.mem_singleton.mp q]; exact Nat.lt_irrefl _)
  have N3 : News g L h2' [(z, oz)] := List.forall_mem_cons.mpr ⟨⟨kp _ _ (N2 _ (.head _)).1 zd, (N2 _ (.head _)).2⟩, List.forall_mem_nil _⟩
  have ad := adds F' N2 N3
  have nd := ad dd od e3 (nw _ (.head _))
  have na := (ad a _ e4 (nw _ (.tail _ (.head _)))).1
  have nda := (ad da _ e5 (nw _ (.tail _ (.tail _ (.head _))))).1
  have npa := (ad pla _ e6 (nw _ (.tail _ (.tail _ (.tail _ (.head _)))))).1
  have hne : ∀ x ∈ ([a, da, pla, fla] : List Nat), x ∉ ([k, dk, dd] : List Nat) := fun x hx q => by
    have hx0 := nw x (.tail _ hx)
    rcases List.mem_cons.mp q with q | q
    · rw [q, (N' _ (.head _)).1] at hx0; cases hx0
    · rcases List.mem_cons.mp q with q | q
      · rw [q, (N' _ (.tail _ (.head _))).1] at hx0; cases hx0
      · exact ne x hx (List.mem_singleton.mp q)
  refine ⟨rfl, hret k dk dd a kh kt kn od [(a, _), (da, _), (pla, _)] h2' tk' hod ⟨da, pla, fla, h1, h2, h3, h4, h5, h6, t0, t1, t2, t3, t4, t5, t6, n, c1, .head _, .tail _ (.head _), .tail _ (.tail _ (.head _))⟩ ?o l2 lt nd.2.1 F2 ?N⟩
  case o => exact List.forall_mem_cons.mpr ⟨hne _ (.head _), List.forall_mem_cons.mpr ⟨hne _ (.tail _ (.head _)), List.forall_mem_cons.mpr ⟨hne _ (.tail _ (.tail _ (.head _))), List.forall_mem_nil _⟩⟩⟩
  case N => exact List.forall_mem_cons.mpr ⟨⟨e1, (N' _ (.head _)).2⟩, List.forall_mem_cons.mpr ⟨⟨e2, (N' _ (.tail _ (.head _))).2⟩, List.forall_mem_cons.mpr ⟨nd.1 _ (.head _), List.forall_mem_cons.mpr ⟨N3 _ (.head _), List.forall_mem_cons.mpr ⟨na _ (.head _), List.forall_mem_cons.mpr ⟨nda _ (.head _), List.forall_mem_cons.mpr ⟨npa _ (.head _), List.forall_mem_nil _⟩⟩⟩⟩⟩⟩⟩
/-! what the loop over the three kinds keeps -/
def KvOk (a : Addr) (tl : List (Addr × Obj)) (vs : List Value) (kvs : List (Str × Value)) : Prop :=
  (∃ t1 t2 t3, vs = [.str (Str.ofString "Int64") t1, .str (Str.ofString "UInt64") t2, .str (Str.ofString "P") t3] ∧ kvs = [(Str.ofString "Any", .ref a)]) ∨
  (∃ t2 t3 b1, vs = [.str (Str.ofString "UInt64") t2, .str (Str.ofString "P") t3] ∧ kvs = [(Str.ofString "Any", .ref a), (Str.ofString "Int64", .ref b1)] ∧ DeclIn tl (.ref b1) (Str.ofString "Int64")) ∨
  (∃ t3 b1 b2, vs = [.str (Str.ofString "P") t3] ∧ kvs = [(Str.ofString "Any", .ref a), (Str.ofString "Int64", .ref b1), (Str.ofString "UInt64", .ref b2)] ∧ DeclIn tl (.ref b1) (Str.ofString "Int64") ∧ DeclIn tl (.ref b2) (Str.ofString "UInt64")) ∨
  (∃ b1 b2 b3, vs = [] ∧ kvs = kD a b1 b2 b3 ∧ DeclIn tl (.ref b1) (Str.ofString "Int64") ∧ DeclIn tl (.ref b2) (Str.ofString "UInt64") ∧ DeclIn tl (.ref b3) (Str.ofString "P"))
theorem kv_next {a : Addr} {tl : List (Addr × Obj)} {v : Value} {r : List Value} {kvs : List (Str × Value)} (H : KvOk a tl (v :: r) kvs) : ∃ nm t, v = .str nm t ∧ valueAt kvs nm = none ∧ valueAt kvs (Str.ofString "Any") = some (.ref a) ∧ kvs.length ≤ 900 ∧ ∀ b tl', (∀ p ∈ tl, p ∈ tl') → DeclIn tl' (.ref b) nm → KvOk a tl' r (stored kvs nm (.ref b)) := by
  rcases H with ⟨t1, t2, t3, e, rfl⟩ | ⟨t2, t3, b1, e, rfl, D1⟩ | ⟨t3, b1, b2, e, rfl, D1, D2⟩ | ⟨b1, b2, b3, e, _⟩
  · cases e
    exact ⟨_, _, rfl, va1, vaA, by show (1 : Nat) ≤ 900; decide, fun b tl' s D => .inr (.inl ⟨_, _, b, rfl, st1, D⟩)⟩
  · cases e
    exact ⟨_, _, rfl, va2, vaA, by show (2 : Nat) ≤ 900; decide, fun b tl' s D => .inr (.inr (.inl ⟨_, b1, b, rfl, st2, D1.mono s, D⟩))⟩
  · cases e
    exact ⟨_, _, rfl, va3, vaA, by show (3 : Nat) ≤ 900; decide, fun b tl' s D => .inr (.inr (.inr ⟨b1, b2, b, rfl, st3, D1.mono s, D2.mono s, D⟩))⟩
  · cases e
theorem kv_last {a : Addr} {tl : List (Addr × Obj)} {kvs : List (Str × Value)} (H : KvOk a tl [] kvs) : ∃ b1 b2 b3, kvs = kD a b1 b2 b3 ∧ DeclIn tl (.ref b1) (Str.ofString "Int64") ∧ DeclIn tl (.ref b2) (Str.ofString "UInt64") ∧ DeclIn tl (.ref b3) (Str.ofString "P") := by
  rcases H with ⟨t1, t2, t3, e, _⟩ | ⟨t2, t3, b1, e, _⟩ | ⟨t3, b1, b2, e, _⟩ | ⟨b1, b2, b3, _, h⟩
  · cases e
  · cases e
  · cases e
  · exact ⟨b1, b2, b3, h⟩
def J2 (w : World) (a I B k dk dd z : Addr) (lo ok odk oz : Obj) (vs : List Value) (news : List (Addr × Obj)) : Prop :=
  ∃ kvs od tl, news = (B, lo) :: (k, ok) :: (dk, odk) :: (dd, od) :: (z, oz) :: tl ∧ od.IsDictOf (SD w) kvs ∧ AnyIn tl a ∧ (∀ p ∈ tl, p.1 ∉ ([I, k, dk, dd] : List Nat)) ∧ KvOk a tl vs kvs
theorem kw_Glb_1 : True := by
  k_with "qnorm" => dsimp only
  exact trivial
theorem kw_Glb_2 : True := by
  k_with "sub" => exact fun p hp => by repeat' (first | exact hp | refine List.Mem.tail _ ?_)
  exact trivial
theorem notin4 {I k dk dd x : Nat} (h1 : x ≠ I) (h2 : x ≠ k) (h3 : x ≠ dk) (h4 : x ≠ dd) : x ∉ ([I, k, dk, dd] : List Nat) := fun q => by
  rcases List.mem_cons.mp q with q | q
  · exact h1 q
  · rcases List.mem_cons.mp q with q | q
    · exact h2 q
    · rcases List.mem_cons.mp q with q | q
      · exact h3 q
      · exact h4 (List.mem_singleton.mp q)
theorem nn4 {c I k dk dd : Addr} {oi ok odk odd : Obj} {W : List (Addr × Obj)} (nb : ∀ q ∈ W, q.1 ≠ c) (m1 : (I, oi) ∈ W) (m2 : (k, ok) ∈ W) (m3 : (dk, odk) ∈ W) (m4 : (dd, odd) ∈ W) : c ∉ ([I, k, dk, dd] : List Nat) := notin4 (Ne.symm (nb _ m1)) (Ne.symm (nb _ m2)) (Ne.symm (nb _ m3)) (Ne.symm (nb _ m4))
theorem news5 {g h : Heap} {L dd : Addr} {od : Obj} {i b k dk : Addr × Obj} {r : List (Addr × Obj)} (N : News g L h (i :: b :: k :: dk :: r)) (e : h.get? dd = some od) (f : dd ≠ L ∧ g.get? dd = none) : News g L h (i :: b :: k :: dk :: (dd, od) :: r) :=
  List.forall_mem_cons.mpr ⟨N _ (.head _), List.forall_mem_cons.mpr ⟨N _ (.tail _ (.head _)), List.forall_mem_cons.mpr ⟨N _ (.tail _ (.tail _ (.head _))), List.forall_mem_cons.mpr ⟨N _ (.tail _ (.tail _ (.tail _ (.head _)))), List.forall_mem_cons.mpr ⟨⟨e, f⟩, fun p hp => N p (.tail _ (.tail _ (.tail _ (.tail _ hp))))⟩⟩⟩⟩⟩
theorem turn_end2 {g h' : Heap} {L : Addr} {m' m₀ : Str → Option Value} {x : Str} {a I B k dk dd z : Addr} {it lo ok odk od' oz : Obj} {tl' : List (Addr × Obj)} {r : List Value} {kvs' : List (Str × Value)} {s₁ : Shared} {tk' : Nat} {Q : Flow → Shared → Prop} (F' : Fr g L h' m') (N5 : News g L h' ((I, it) :: (B, lo) :: (k, ok) :: (dk, odk) :: (dd, od') :: (z, oz) :: tl')) (nI : ∀ a ∈ ([B, k, dk, dd, z] : List Nat), a ≠ I)
    (ho : ∀ p ∈ tl', p.1 ∉ ([I, k, dk, dd] : List Nat)) (ag : ∀ y, y ≠ x → m' y = m₀ y) (hod : od'.IsDictOf (SD w) kvs') (hA : AnyIn tl' a) (hkv : KvOk a tl' r kvs') :
    UnrPost g L s₁ I it (fun m' n' => (∀ y, y ≠ x → m' y = m₀ y) ∧ J2 w a I B k dk dd z lo ok odk oz r n') Q .next { s₁ with heap := h', toks := tk' } :=
  ⟨_, _, _, _, rfl, F', N5, List.forall_mem_cons.mpr ⟨nI _ (.head _), List.forall_mem_cons.mpr ⟨nI _ (.tail _ (.head _)), List.forall_mem_cons.mpr ⟨nI _ (.tail _ (.tail _ (.head _))), List.forall_mem_cons.mpr ⟨nI _ (.tail _ (.tail _ (.tail _ (.head _)))), List.forall_mem_cons.mpr ⟨nI _ (.tail _ (.tail _ (.tail _ (.tail _ (.head _))))), fun p hp q => ho p hp (by rw [q]; exact .head _)⟩⟩⟩⟩⟩, ag, _, od', tl', rfl, hod, hA, ho, hkv⟩
local macro_rules | `(tactic| k_lt $h) => `(tactic| skip)
theorem kw_Glb_3 : True := by
  k_with "exec For Name List cons nil" => (k_here; refine hold ?_)
  exact trivial
theorem kw_Glb_4 : True := by
  k_with "pyIter ref" => (k_here; refine hold ?_)
  exact trivial
theorem kw_Glb_5 : True := by
  k_with "UnrEnd" => (refine hold ?_)
  exact trivial
theorem kw_Glb_6 : True := by
  k_with "UnrPost" => (refine hold ?_)
  exact trivial
theorem kw_Glb_7 : True := by
  k_with "newList" => (k_here; k_dflt (refine' newList_K ?FKw ?NKw ?_ ?zKw; (case FKw => k_asm); (case NKw => k_asm); (case zKw => size_fits)); intro lD'q h'q F'q N'q lB1q; (try dsimp only); (try k_sweep))
  exact trivial
theorem kw_Glb_8 : True := by
  k_with "newTuple cons" => (k_here; k_dflt (refine' kup_newTuple ?FKw ?NKw ?_ ?zKw; (case FKw => k_asm); (case NKw => k_asm); (case zKw => kmk_size)); intro tD'q h'q F'q N'q lT1q; (try dsimp only); (try k_sweep))
  exact trivial
theorem kw_Glb_9 : True := by
  k_with "newTuple nil" => (k_here; k_dflt (refine' kup_newTuple ?FKw ?NKw ?_ ?zKw; (case FKw => k_asm); (case NKw => k_asm); (case zKw => kmk_size)); intro eD'q h'q F'q N'q lE1q; (try dsimp only); (try k_sweep))
  exact trivial
theorem kw_Glb_10 : True := by
  k_with "call ref" => (k_here; (with_reducible show wpAny _ _ (PySem.call (Value.ref 362) _) _ _ _); k_dflt (refine' kinds_K rfl rfl ?hdpKw ?huKw ?BKw ?FKw ?NKw rfl rfl ?XKw ?TKw ?XgKw ?_; (case hdpKw => exact Nat.le_of_ble_eq_true rfl); (case huKw => exact Nat.le_of_ble_eq_true rfl); (case BKw => with_reducible assumption); (case FKw => k_asm); (case NKw => k_asm); (case XKw => exact X); (case TKw => exact T); (case XgKw => with_reducible assumption)); intro kXq dkXq ddXq aXq khXq ktXq knXq odXq tlXq h'q tk'q hodXq hAXq hoXq lX1q lX2q lX3q F'q N'q; (try k_sweep))
  exact trivial
theorem kw_Glb_11 : True := by
  k_with "call ref" => (k_here; (with_reducible show wpAny _ _ (PySem.call (Value.ref 201) _) _ _ _); refine hold ?_)
  exact trivial
theorem kw_Glb_12 : True := by
  k_with "call ref" => (k_here; (with_reducible show wpAny _ _ (PySem.call (Value.ref 296) _) _ _ _); refine hold ?_)
  exact trivial
theorem kw_Glb_13 : True := by
  k_with "call ref" => (k_here; (with_reducible show wpAny _ _ (PySem.call (Value.ref 273) _) _ _ _); k_dflt (refine' decl_K rfl rfl ?hdpKw ?huKw ?BKw ?FKw ?NKw rfl rfl ?XKw ?TKw ?XgKw ?mlKw ?_; (case hdpKw => exact Nat.le_of_ble_eq_true rfl); (case huKw => exact Nat.le_of_ble_eq_true rfl); (case BKw => with_reducible assumption); (case FKw => k_asm); (case NKw => k_asm); (case XKw => exact X); (case TKw => exact T); (case XgKw => with_reducible assumption); (case mlKw => k_mem)); intro b'q db'q pl'q fl'q h1'q h2'q h3'q h4'q h5'q h6'q t0'q t1'q t2'q t3'q t4'q t5'q t6'q n'q c1'q c2'q h'q tk'q F'q N'q nb1q nb2q nb3q nb4q; (try k_sweep))
  exact trivial
theorem fresh_g {g h₀ : Heap} {d : Addr} {W₀ : List (Addr × Obj)} (hg : ∀ b o, h₀.get? b = some o → b ∉ W₀.map (·.1) → g.get? b = some o) (e : g.get? d = none) (n : d ∉ W₀.map (·.1)) : h₀.get? d = none := by
  cases q : h₀.get? d with
  | none => rfl
  | some o' => rw [hg d o' q n] at e; cases e
theorem nm1 {d z : Addr} {oz : Obj} (h : @LT.lt Nat _ z d) : d ∉ [(z, oz)].map (·.1) := fun q => by
  have e : d = z := List.mem_singleton.mp q
  rw [e] at h
  exact Nat.lt_irrefl _ h
def GlbRet (w : World) (z : Addr) (s : Shared) (Q : Value → Shared → Prop) : Prop :=
  ∀ nm dN bi dv df odv odf kvs ks h' tk', GL w h' nm dN bi dv df → h'.get? dv = some odv → odv.IsDictOf (SD w) kvs → h'.get? df = some odf → odf.IsDictOf (SD w) (merged [] ks) → ks.map (·.1) = kvs.map (·.1) → (∀ p ∈ ks, p.2 = .bool true) → Vals h' kvs →
    (∃ r, valueAt kvs (Str.ofString "P") = some r ∧ TV h' r (.tuple [.str (Str.ofString "type"), .tuple [.str (Str.ofString "name"), .str (Str.ofString "P"), .tuple []]])) →
    (∃ r, valueAt kvs (Str.ofString "Int") = some r ∧ valueAt kvs (Str.ofString "Int64") = some r) → (∃ r, valueAt kvs (Str.ofString "Tuple") = some r) → kvs.length ≤ 20 → s.heap.StaysIn h' →
    (s.heap.get? nm = none ∧ s.heap.get? dN = none ∧ s.heap.get? bi = none ∧ s.heap.get? dv = none ∧ s.heap.get? df = none) → (@LT.lt Nat _ z bi ∧ @LT.lt Nat _ bi dN ∧ @LT.lt Nat _ dN nm ∧ @LT.lt Nat _ nm dv ∧ @LT.lt Nat _ dv df) → Q (.ref nm) { s with heap := h', toks := tk' }
set_option maxHeartbeats 0 in
theorem globals_spec {z : Addr} {oz : Obj} (C : FrOk S fr s.heap) (X : (hd.heap_1 w.params).In S) (H0 : S.get? 0 = some (boot_o_0 w.params)) (H1 : S.get? 1 = some (boot_o_1 w.params)) (T : Top p loose mean mg mb S)
    (q1 : s.heap.get? z = some oz) (hz : oz.cls ≠ .type "tuple") (hz2 : oz.cls ≠ .type "dict") (f1 : Off S fr z) (hret : GlbRet w z s Q) :
    wpAny (model pg w) (Ap 1 fr) (PySem.call (.ref 387) []) Q E s := by
  have hW : ∀ p ∈ [(z, oz)], s.heap.get? p.1 = some p.2 := List.forall_mem_cons.mpr ⟨q1, List.forall_mem_nil _⟩
  refine enterT [(z, oz)] rfl C X T (by k_is) (by k_is) (show 420 < 1000 by decide) (BindsTo.of_eq (binds := []) rfl) (locs rfl) hW (List.forall_mem_cons.mpr ⟨f1.1, List.forall_mem_nil _⟩) (List.forall_mem_cons.mpr ⟨f1.2, List.forall_mem_nil _⟩) (by decide) rfl rfl rfl ?_
  intro Q₁ g L' h₁ tk₀ env m₀ rq nq F N B Xg Tg hg
  k_steps
  refine unhold ?_
  rename Fr _ _ _ _ => Fx
  k_here
  refine' For_invVF Fx ?k1 ?k2 ?_
  (case k1 => exact rfl)
  (case k2 => exact rfl)
  k_steps
  refine unhold ?_
  rename Fr _ _ _ _ => Fy
  rename News _ _ _ _ => Ny
  have nBd : lD'q ≠ ddXq := Ne.symm (Nat.ne_of_lt (lB1q (ddXq, _) (by k_mem)))
  have nk : kXq ≠ ddXq := Nat.ne_of_lt lX2q
  have ndk : dkXq ≠ ddXq := Nat.ne_of_lt (Nat.lt_trans lX1q lX2q)
  clear lB1q
  generalize elq : PySem.W.listOf _ _ = lq at Ny
  with_unfolding_all refine' iter_listUnr (vs := [_, _, _]) ?h1 Fy Ny ?h2 ?h3 ?h4 ?_
  (case h1 => exact rfl)
  (case h2 => exact List.Mem.head _)
  (case h3 => rw [← elq])
  (case h4 => rw [← elq])
  intro I lI
  have nI : ∀ a ∈ ([lD'q, kXq, dkXq, ddXq, z] : List Nat), a ≠ I := List.forall_mem_cons.mpr ⟨Nat.ne_of_lt (lI (_, _) (.head _)), List.forall_mem_cons.mpr ⟨Nat.ne_of_lt (lI (_, _) (.tail _ (.head _))), List.forall_mem_cons.mpr ⟨Nat.ne_of_lt (lI (_, _) (.tail _ (.tail _ (.head _)))), List.forall_mem_cons.mpr ⟨Nat.ne_of_lt (lI (_, _) (.tail _ (.tail _ (.tail _ (.head _))))), List.forall_mem_cons.mpr ⟨Nat.ne_of_lt (lI (_, _) (.tail _ (.tail _ (.tail _ (.tail _ (.head _)))))), List.forall_mem_nil _⟩⟩⟩⟩⟩
  have nId : I ≠ ddXq := Ne.symm (nI _ (.tail _ (.tail _ (.tail _ (.head _)))))
  have nzd : z ≠ ddXq := lX3q
  have oI : ∀ p ∈ tlXq, p.1 ∉ ([I, kXq, dkXq, ddXq] : List Nat) := fun p hp q => (List.mem_cons.mp q).elim (fun q => absurd (lI p (.tail _ (.tail _ (.tail _ (.tail _ (.tail _ hp)))))) (by rw [q]; exact Nat.lt_irrefl _)) (hoXq p hp)
  clear lI Fy Ny elq
  refine rest_inv0 (J2 w aXq I lD'q kXq dkXq ddXq z lq _ _ _) ⟨_, odXq, tlXq, rfl, hodXq, hAXq, oI, .inl ⟨_, _, _, rfl, rfl⟩⟩ (fun vs news h => ?hlp) ?step ?last
  case hlp =>
    obtain ⟨_, _, _, rfl, _⟩ := h
    exact .head _
  case step =>
    clear hodXq hAXq oI hoXq
    intro v r news it h tk hJ hc F1 N1
    obtain ⟨kvs, od, tl, rfl, hod, hA, hoff, hkv⟩ := hJ
    obtain ⟨nm, t, rfl, hv1, hv2, hl, hnx⟩ := kv_next hkv
    (try dsimp only)
    k_steps
    refine unhold ?_
    rename Fr _ _ _ _ => Fz
    rename News _ _ _ _ => Nz
    obtain ⟨da, pla, fla, i1, i2, i3, i4, i5, i6, u0, u1, u2, u3, u4, u5, u6, n3, c3, ma, mda, mpla⟩ := id hA
    have odd : ∀ p ∈ tl, p.1 ≠ ddXq := fun p hp q => hoff p hp (by rw [q]; exact .tail _ (.tail _ (.tail _ (.head _))))
    refine' declare_K (od := od) rfl rfl (Nat.le_of_ble_eq_true rfl) (Nat.le_of_ble_eq_true rfl) B Fz Nz rfl rfl X H0 H1 T ?hm hod nk ndk ?nr ?oet hv1 hv2 hl ?_
    case hm =>
      refine' List.forall_mem_cons.mpr ⟨?x1, List.forall_mem_cons.mpr ⟨?x2, List.forall_mem_cons.mpr ⟨?x3, List.forall_mem_cons.mpr ⟨?x4, List.forall_mem_cons.mpr ⟨?x5, List.forall_mem_cons.mpr ⟨?x6, List.forall_mem_cons.mpr ⟨?x7, List.forall_mem_cons.mpr ⟨?x8, List.forall_mem_cons.mpr ⟨?x9, List.forall_mem_cons.mpr ⟨?x10, List.forall_mem_cons.mpr ⟨?x11, List.forall_mem_cons.mpr ⟨?x12, List.forall_mem_nil _⟩⟩⟩⟩⟩⟩⟩⟩⟩⟩⟩⟩
      case x1 => k_mem
      case x2 => k_mem
      case x3 => k_mem
      case x4 => k_mem
      case x5 => k_mem
      case x6 => k_mem
      case x7 => k_mem
      case x8 => k_mem
      case x9 => k_mem
      case x10 => repeat' (first | exact ma | refine List.Mem.tail _ ?_)
      case x11 => repeat' (first | exact mda | refine List.Mem.tail _ ?_)
      case x12 => repeat' (first | exact mpla | refine List.Mem.tail _ ?_)
    case nr => exact List.forall_mem_cons.mpr ⟨Ne.symm (nb1q (ddXq, od) (by k_mem)), List.forall_mem_cons.mpr ⟨Ne.symm (nb2q (ddXq, od) (by k_mem)), List.forall_mem_cons.mpr ⟨Ne.symm (nb3q (ddXq, od) (by k_mem)), List.forall_mem_cons.mpr ⟨Ne.symm (nb4q (ddXq, od) (by k_mem)), List.forall_mem_cons.mpr ⟨Ne.symm (Nat.ne_of_lt (lT1q (ddXq, od) (by k_mem))), List.forall_mem_cons.mpr ⟨Ne.symm (Nat.ne_of_lt (lE1q (ddXq, od) (by k_mem))), List.forall_mem_cons.mpr ⟨odd _ ma, List.forall_mem_cons.mpr ⟨odd _ mda, List.forall_mem_cons.mpr ⟨odd _ mpla, List.forall_mem_nil _⟩⟩⟩⟩⟩⟩⟩⟩⟩
    case oet => exact lT1q (eD'q, g0) (by k_mem)
    intro od' h' tk' hod' ge kp F'
    k_steps
    refine unhold ?_
    have mdd := (Nz (ddXq, od) (by k_mem)).2
    have N4 := kp_at (W' := (I, it) :: (_, lq) :: (kXq, instObj 362 dkXq) :: (dkXq, gK ddXq khXq ktXq knXq) :: (z, oz) :: (b'q, instObj 273 db'q) :: (db'q, _) :: (pl'q, listOf #[] c1'q) :: tl) Nz kp (List.forall_mem_cons.mpr ⟨⟨by k_mem, nId⟩, List.forall_mem_cons.mpr ⟨⟨by k_mem, nBd⟩, List.forall_mem_cons.mpr ⟨⟨by k_mem, nk⟩, List.forall_mem_cons.mpr ⟨⟨by k_mem, ndk⟩, List.forall_mem_cons.mpr ⟨⟨by k_mem, nzd⟩, List.forall_mem_cons.mpr ⟨⟨by k_mem, Ne.symm (nb1q (ddXq, od) (by k_mem))⟩, List.forall_mem_cons.mpr ⟨⟨by k_mem, Ne.symm (nb2q (ddXq, od) (by k_mem))⟩, List.forall_mem_cons.mpr ⟨⟨by k_mem, Ne.symm (nb3q (ddXq, od) (by k_mem))⟩, fun p hp => ⟨by repeat' (first | exact hp | refine List.Mem.tail _ ?_), odd p hp⟩⟩⟩⟩⟩⟩⟩⟩⟩)
    have N5 := news5 N4 ge mdd
    refine turn_end2 F' N5 nI ?ho (fun y hy => if_neg hy) hod' (hA.mono (by walk_at "sub")) (hnx b'q _ (by walk_at "sub") ⟨b'q, db'q, pl'q, fl'q, _, _, _, _, _, _, _, _, _, _, _, _, _, _, _, _, _, rfl, .head _, .tail _ (.head _), .tail _ (.tail _ (.head _))⟩)
    case ho => exact List.forall_mem_cons.mpr ⟨nn4 (oi := it) (ok := instObj 362 dkXq) (odk := gK ddXq khXq ktXq knXq) (odd := od) nb1q (by k_mem) (by k_mem) (by k_mem) (by k_mem), List.forall_mem_cons.mpr ⟨nn4 (oi := it) (ok := instObj 362 dkXq) (odk := gK ddXq khXq ktXq knXq) (odd := od) nb2q (by k_mem) (by k_mem) (by k_mem) (by k_mem), List.forall_mem_cons.mpr ⟨nn4 (oi := it) (ok := instObj 362 dkXq) (odk := gK ddXq khXq ktXq knXq) (odd := od) nb3q (by k_mem) (by k_mem) (by k_mem) (by k_mem), hoff⟩⟩⟩
  case last =>
    clear nI nBd nId oI hoXq hodXq hAXq
    intro u news h tk hJ F1 N1
    obtain ⟨kvs, od, tl, rfl, hod, hA, hoff, hkv⟩ := hJ
    obtain ⟨b1, b2, b3, rfl, D1, D2, D3⟩ := kv_last hkv
    have N2 := ntail N1
    clear N1 hkv
    (try dsimp only)
    k_steps
    refine unhold ?_
    rename Fr _ _ _ _ => Fx
    rename News _ _ _ _ => Nx
    rename Obj.IsDictOf (PySem.strKind _ _) _ (strPairs _) => hob
    rename (∀ p ∈ _, _ < _) => lb
    generalize h.objs.size = bi at *
    have oT : ∀ p ∈ tl, p.1 ∉ ([bi, kXq, dkXq, ddXq] : List Nat) := fun p hp q => (List.mem_cons.mp q).elim (fun q => absurd (lb p (.tail _ (.tail _ (.tail _ (.tail _ hp))))) (by rw [q]; exact Nat.lt_irrefl _)) fun q => hoff p hp (.tail _ q)
    refine mk_K rfl rfl (Nat.le_of_ble_eq_true rfl) (Nat.le_of_ble_eq_true rfl) B Fx Nx rfl rfl X H0 H1 T Xg (.tail _ (.head _)) (.tail _ (.tail _ (.head _))) (.tail _ (.tail _ (.tail _ (.head _)))) hod (.head _) hob (fun p hp => .tail _ (.tail _ (.tail _ (.tail _ (.tail _ hp))))) oT hA.decl D1 D2 D3 lX1q lX2q (lb (ddXq, od) (.tail _ (.tail _ (.head _)))) ?_
    intro nm dN dv df odv odf kvs ks h' tk' G e3 e4 e5 e6 ek1 ek2 V hP hI hT hl kg kW ⟨n1, n2, n3, n4⟩ ⟨c1, c2, c3, c4⟩
    have nb := (Nx _ (.head _)).2.2
    have zN := kW (z, oz) (.tail _ (.tail _ (.tail _ (.tail _ (.head _)))))
    have lz : @LT.lt Nat _ z bi := lb (z, oz) (.tail _ (.tail _ (.tail _ (.head _))))
    clear kW lb Nx
    k_steps
    all_goals (try dsimp only)
    have l2 := Nat.lt_trans lz c1
    have l3 := Nat.lt_trans l2 c2
    have l4 := Nat.lt_trans l3 c3
    have l5 := Nat.lt_trans l4 c4
    refine hret nm dN _ dv df odv odf kvs ks _ _ G e3 e4 e5 e6 ek1 ek2 V hP hI hT hl (fun b o e => ?st) ⟨fresh_g hg n1 (nm1 l3), fresh_g hg n2 (nm1 l2), fresh_g hg nb (nm1 lz), fresh_g hg n3 (nm1 l4), fresh_g hg n4 (nm1 l5)⟩ ⟨lz, c1, c2, c3, c4⟩
    by_cases q : b ∈ [(z, oz)].map (·.1)
    · have q' : b = z := List.mem_singleton.mp q
      subst q'
      rw [q1] at e
      cases e
      exact zN
    · exact kg b o (hg b o e q)
end

end
section
theorem kwo_Src : True := by
  k_with_none
  w_top off
  k_with "execs cons Assign cons" => (with_reducible refine seqN ?_); intro Qk1 nk1
  k_with "execs cons AugAssign cons" => (with_reducible refine seqN ?_); intro Qk1 nk1
  k_with "execs cons Expr cons" => (with_reducible refine seqN ?_); intro Qk1 nk1
  k_with "execs cons If cons" => (with_reducible refine seqQ ?_); intro Qk1 nk1 rk1
  k_with "execs cons For cons" => (with_reducible refine seqQ ?_); intro Qk1 nk1 rk1
  k_with "execs cons" => (with_reducible refine seq1 ?_)
  k_with "eval Constant int" => (with_reducible refine cInt ?_); intro tq1 kq1
  k_with "eval Constant str" => (with_reducible refine cStr ?_); intro tq1 kq1
  k_with "eval Name" => (k_here; k_dflt (refine' nameL ?Fn1 ?bn1 ?vn1 ?_; (case bn1 => decide +kernel); (case Fn1 => with_reducible assumption); (case vn1 => exact rfl); k_whole))
  exact trivial
theorem fillit47 (P : Params) : hd.heap_1 P = hd.heap_1 P ∧ PySem.Challenge.rw_pq0711_01 = PySem.Challenge.rw_pq0711_01 := by
  k_fill
  exact ⟨rfl, rfl⟩
section
variable {w : World} {fr : List Env} {S : Heap} {p : Program} {loose : List Str} {mean : ExcName → Option Value} {mg mb : Str → Option Value} {s : Shared} {Q E : Value → Shared → Prop}
def SrcRet (z1 z2 : Addr) (s : Shared) (Q : Value → Shared → Prop) : Prop :=
  ∀ l x y tx ty n h' tk', 0 ≤ x → 0 ≤ y → y < 4294967296 → h'.get? l = some (listOf #[.int x tx, .int y ty] n) → s.heap.StaysIn h' → s.heap.get? l = none → @LT.lt Nat _ z1 l ∧ @LT.lt Nat _ z2 l → Q (.ref l) { s with heap := h', toks := tk' }
set_option maxHeartbeats 0 in
theorem source_spec {sc z1 z2 : Addr} {oz1 oz2 : Obj} {vs : List Value} {ns : List Int} (C : FrOk S fr s.heap) (X : (hd.heap_1 w.params).In S) (T : Top p loose mean mg mb S)
    (hs : S.IsList sc vs.toArray) (hi : IntsAre vs ns) (hn : ns.length ≤ 63) (q1 : s.heap.get? z1 = some oz1) (q2 : s.heap.get? z2 = some oz2) (f1 : Off S fr z1) (f2 : Off S fr z2) (hret : SrcRet z1 z2 s Q) :
    wpAny (model pg w) (Ap 1 fr) (PySem.call (.ref 373) [.ref sc]) Q E s := by
  have hW : ∀ p ∈ [(z1, oz1), (z2, oz2)], s.heap.get? p.1 = some p.2 := List.forall_mem_cons.mpr ⟨q1, List.forall_mem_cons.mpr ⟨q2, List.forall_mem_nil _⟩⟩
  refine enterT [(z1, oz1), (z2, oz2)] rfl C X T (by k_is) (by k_is) (show 420 < 1000 by decide) (BindsTo.of_eq (binds := [(Str.ofString "script", .ref sc)]) rfl) (locs rfl) hW (List.forall_mem_cons.mpr ⟨f1.1, List.forall_mem_cons.mpr ⟨f2.1, List.forall_mem_nil _⟩⟩) (List.forall_mem_cons.mpr ⟨f1.2, List.forall_mem_cons.mpr ⟨f2.2, List.forall_mem_nil _⟩⟩) (by decide) rfl rfl rfl ?_
  intro Q₁ g L' h₁ tk₀ env m₀ rq nq F N B Xg Tg hg
  have hs' : g.IsList sc vs.toArray := stays_list B.stays hs
  k_steps
  all_goals (try dsimp only)
  all_goals (
    rename Fr _ _ _ _ => Fz
    rename News _ _ _ _ => Nz
    have st := kp_ro Fz Nz hg hW (List.forall_mem_cons.mpr ⟨by k_mem, List.forall_mem_cons.mpr ⟨by k_mem, List.forall_mem_nil _⟩⟩)
    refine' hret _ _ _ _ _ _ _ _ ?x0 ?y0 ?y1 (Nz.get (List.Mem.head _)) st ?nw ?lt
    case x0 => first | assumption | exact Int.le_refl _ | omega
    case y0 => exact Int.add_nonneg (fm0 _ _ (by decide)) (by decide)
    case y1 => exact Int.lt_trans (Int.add_lt_add_right (fm1 _ _ (by decide)) 4) (by decide)
    case lt => first | assumption | exact And.intro (by omega) (by omega)
    case nw => exact fresh_new Nz hg (List.Mem.head _) (fun q => by simp only [List.map_cons, List.map_nil, List.mem_cons, List.not_mem_nil, or_false] at q; rcases q with q | q <;> exact absurd q (neN (by omega))))
end

end
section
theorem kwo_Trk : True := by
  k_with_none
  w_top off
  k_with "execs cons Assign cons" => (with_reducible refine seqN ?_); intro Qk1 nk1
  k_with "execs cons AugAssign cons" => (with_reducible refine seqN ?_); intro Qk1 nk1
  k_with "execs cons Expr cons" => (with_reducible refine seqN ?_); intro Qk1 nk1
  k_with "execs cons If cons" => (with_reducible refine seqQ ?_); intro Qk1 nk1 rk1
  k_with "execs cons For cons" => (with_reducible refine seqQ ?_); intro Qk1 nk1 rk1
  k_with "execs cons" => (with_reducible refine seq1 ?_)
  k_with "eval Constant int" => (with_reducible refine cInt ?_); intro tq1 kq1
  k_with "eval Constant str" => (with_reducible refine cStr ?_); intro tq1 kq1
  k_with "eval Name" => (k_here; k_dflt (refine' nameL ?Fn1 ?bn1 ?vn1 ?_; (case bn1 => decide +kernel); (case Fn1 => with_reducible assumption); (case vn1 => exact rfl); k_whole))
  exact trivial
/-! h' keeps all of h but what stands at as, and the slots of the frames -/
def Rel (as : List Addr) (fr : List Env) (h h' : Heap) : Prop := KpF as fr h h' ∧ UpF fr h h'
section
variable {w : World} {fr : List Env} {A A₀ : Around} {S g : Heap} {L : Addr} {m : Str → Option Value} {env : Env} {s : Shared} {Q E : Value → Shared → Prop} {W : List (Addr × Obj)}
  {p : Program} {loose : List Str} {mean : ExcName → Option Value} {mg mb : Str → Option Value} {f : Addr} {By : Array UInt8} {txt : Str}
  {name qual : Str} {params : Arguments} {body : PySem.Expr} {scope : Scope} {cl : List (Str × Addr)} {pm ctv : Value} {c' : Addr}
theorem ref_no_K {as : List Addr} {R : Heap → Prop} (hA : A.handled = none) (hfr : A.frames = some (env :: fr)) (hdp : A.depth ≤ 500) (hu : A.units ≤ 2500) (B : Below A₀ S fr g) (F : Fr g L s.heap m) (N : News g L s.heap W) (hf : env.frame = some L) (hk : env.scope.kind = .function) (X : (hd.heap_1 w.params).In S) (T : Top p loose mean mg mb S)
    (mf : (f, kla_obj name qual params body scope cl pm c' ctv) ∈ W) (hw : WorkNo w S f s.heap (env :: fr) By as R) (has : ∀ a ∈ as, S.get? a = none) (DO : DecOk By txt)
    (hret : ∀ S' h' t' tk', Fr (gnd h' L (W.map (·.1))) L h' m → (∀ W' : List (Addr × Obj), (∀ p ∈ W', p ∈ W ∧ p.1 ∉ as) → News (gnd h' L (W.map (·.1))) L h' W') → R S' → (∀ b o, s.heap.get? b ≠ none → S'.get? b = some o → h'.get? b = some o) → KpF as (env :: fr) s.heap h' → UpF (env :: fr) s.heap h' → Q (.str txt t') { s with heap := h', toks := tk' }) :
    wpAny (model pg w) A (PySem.call (.ref 394) [.ref f]) Q E s := by
  refine wpAny_up (A' := Ap 5 (env :: fr)) (refusal_no (N.get mf) (off B N mf hf) (site B F hf hk) X T hw has DO ?_) hA hdp (fun l e => by cases e; exact hfr) rfl hu
  intro S' h' t' tk' k r key up
  refine hret S' h' t' tk' (fr_gnd F fun o q1 q2 => up L (by rw [List.filterMap_cons, hf]; exact .head _) o q1) (fun W' hW' p hp => ?_) r key k up
  obtain ⟨hp1, hp2⟩ := hW' p hp
  exact ⟨k _ _ (N p hp1).1 hp2 (site_off B N (b := p.1) (o := p.2) hp1 hf), (N p hp1).2.1, hideAll_none _ (List.mem_map_of_mem hp1)⟩
theorem def_ok_K {dv df : Addr} {o od : Obj} {kvs kf : List (Str × Value)} {x : Str} {v : Value} {g1 : Obj → List (Addr × Obj)} {g2 : Obj → Obj → List (Addr × Obj)} (hA : A.handled = none) (hfr : A.frames = some (env :: fr)) (hdp : A.depth ≤ 500) (hu : A.units ≤ 2500) (B : Below A₀ S fr g) (F : Fr g L s.heap m) (N : News g L s.heap W) (hf : env.frame = some L) (hk : env.scope.kind = .function) (X : (hd.heap_1 w.params).In S) (T : Top p loose mean mg mb S)
    (mf : (f, kla_obj name qual params body scope cl pm c' ctv) ∈ W) (hw : WorkOk w S f s.heap (env :: fr) (DefP w dv df kvs kf x v)) (U1 : UpdF dv o W g1) (U2 : ∀ o', UpdF df od (g1 o') (g2 o')) (m2 : (df, od) ∈ W)
    (hret : ∀ o' od' h' tk', Fr g L h' m → News g L h' (g2 o' od') → o'.IsDictOf (SD w) (stored kvs x v) → od'.IsDictOf (SD w) (stored kf x (.bool true)) → Q .none { s with heap := h', toks := tk' }) :
    wpAny (model pg w) A (PySem.call (.ref 394) [.ref f]) Q E s := by
  refine wpAny_up (A' := Ap 5 (env :: fr)) (refusal_ok (N.get mf) (off B N mf hf) (site B F hf hk) X T hw ?_) hA hdp (fun l e => by cases e; exact hfr) rfl hu
  intro h₁ h' tk' st ⟨k, o', od', e1, e2, e3, e4⟩
  have k := Kp.before st k
  have m1 := updF_mem U1
  obtain ⟨oL, es, ep, hL, rL⟩ := F.ns
  refine hret o' od' h' tk' ⟨⟨oL, es, ep, k L oL hL (fun q => ?_), rL⟩, fun b ob e => k b ob (F.keep b ob e) (fun q => ?_), F.above⟩ (fun p hp => ?_) e2 e4
  · rcases List.mem_cons.mp q with q | q
    · exact (N _ m1).2.1 q.symm
    · exact (N _ m2).2.1 (List.mem_singleton.mp q).symm
  · rcases List.mem_cons.mp q with q | q
    · rw [q, (N _ m1).2.2] at e; cases e
    · rw [List.mem_singleton.mp q, (N _ m2).2.2] at e; cases e
  · have key : ∀ p, p ∈ g1 o' → p.1 ≠ df → h'.get? p.1 = some p.2 ∧ p.1 ≠ L ∧ g.get? p.1 = none := fun p hp nd => by
      obtain ⟨pr, po, rfl, hg1, n1, n2⟩ := U1.split
      rw [hg1] at hp
      rcases List.mem_append.mp hp with hp | hp
      · have n := N p (List.mem_append_left _ hp)
        refine ⟨k _ _ n.1 (fun q => ?_), n.2⟩
        rcases List.mem_cons.mp q with q | q
        · exact n1 p hp q
        · exact nd (List.mem_singleton.mp q)
      · rcases List.mem_cons.mp hp with rfl | hp
        · exact ⟨e1, (N _ m1).2⟩
        · have n := N p (List.mem_append_right _ (.tail _ hp))
          refine ⟨k _ _ n.1 (fun q => ?_), n.2⟩
          rcases List.mem_cons.mp q with q | q
          · exact n2 p hp q
          · exact nd (List.mem_singleton.mp q)
    obtain ⟨pr, po, e, hg2, n1, n2⟩ := (U2 o').split
    rw [hg2] at hp
    rcases List.mem_append.mp hp with hp | hp
    · exact key p (e ▸ List.mem_append_left _ hp) (n1 p hp)
    · rcases List.mem_cons.mp hp with rfl | hp
      · exact ⟨e3, (N _ m2).2⟩
      · exact key p (e ▸ List.mem_append_right _ (.tail _ hp)) (n2 p hp)
theorem asg_ok_K {dv : Addr} {o : Obj} {kvs : List (Str × Value)} {x : Str} {v : Value} {g1 : Obj → List (Addr × Obj)} (hA : A.handled = none) (hfr : A.frames = some (env :: fr)) (hdp : A.depth ≤ 500) (hu : A.units ≤ 2500) (B : Below A₀ S fr g) (F : Fr g L s.heap m) (N : News g L s.heap W) (hf : env.frame = some L) (hk : env.scope.kind = .function) (X : (hd.heap_1 w.params).In S) (T : Top p loose mean mg mb S)
    (mf : (f, kla_obj name qual params body scope cl pm c' ctv) ∈ W) (hw : WorkOk w S f s.heap (env :: fr) (AsgP w dv kvs x v)) (U1 : UpdF dv o W g1)
    (hret : ∀ o' h' tk', Fr g L h' m → News g L h' (g1 o') → o'.IsDictOf (SD w) (stored kvs x v) → Q .none { s with heap := h', toks := tk' }) :
    wpAny (model pg w) A (PySem.call (.ref 394) [.ref f]) Q E s := by
  refine wpAny_up (A' := Ap 5 (env :: fr)) (refusal_ok (N.get mf) (off B N mf hf) (site B F hf hk) X T hw ?_) hA hdp (fun l e => by cases e; exact hfr) rfl hu
  intro h₁ h' tk' st ⟨k, o', e1, e2⟩
  have k := Kp.before st k
  have m1 := updF_mem U1
  exact hret o' h' tk' (kp_fr F k (Ne.symm (N _ m1).2.1) (N _ m1).2.2) (kp_news N U1 k e1) e2
/-! the ends -/
theorem rel_ok {h' : Heap} {W₀ W' : List (Addr × Obj)} {as : List Addr} {h₀ : Heap} (B : Below A₀ S fr g) (F : Fr g L h' m) (N : News g L h' W') (hg : ∀ b o, h₀.get? b = some o → b ∉ W₀.map (·.1) → g.get? b = some o) (hW : ∀ p ∈ W₀, h₀.get? p.1 = some p.2) (hF : ∀ p ∈ W₀, p.1 ∉ fr.filterMap (·.frame))
    (sub : ∀ p ∈ W₀, p ∈ W' ∨ p.1 ∈ as) : Rel as fr h₀ h' := by
  refine ⟨fun b o e n _ => kp_but F N hg hW sub b o e n, fun b hb o ho => ⟨o.slots, F.keep b o (hg b o ho fun q => ?_)⟩⟩
  obtain ⟨x, hx, rfl⟩ := List.mem_map.mp q
  exact hF x hx hb
theorem rel_no {h h' h'' : Heap} {W₀ W W' : List (Addr × Obj)} {as : List Addr} {h₀ : Heap} {m'' : Str → Option Value} (B : Below A₀ S fr g) (F : Fr g L h m) (N : News g L h W) (hg : ∀ b o, h₀.get? b = some o → b ∉ W₀.map (·.1) → g.get? b = some o) (hW : ∀ p ∈ W₀, h₀.get? p.1 = some p.2) (hF : ∀ p ∈ W₀, p.1 ∉ fr.filterMap (·.frame)) (sz : h₀.objs.size ≤ L)
    (sub : ∀ p ∈ W₀, p ∈ W ∨ p.1 ∈ as) (hf : env.frame = some L) (k : KpF [] (env :: fr) h h') (up : UpF (env :: fr) h h') (F' : Fr (gnd h' L (W.map (·.1))) L h'' m'') (N' : News (gnd h' L (W.map (·.1))) L h'' W') (sub' : ∀ p ∈ W₀, p ∈ W' ∨ p.1 ∈ as) (nL : h₀.get? L = none) : Rel as fr h₀ h'' := by
  have subW : ∀ p ∈ W, p.1 ∈ W₀.map (·.1) ∨ h₀.get? p.1 = none := fun p hp => by
    by_cases z : p.1 ∈ W₀.map (·.1)
    · exact .inl z
    · refine .inr ?_
      cases q : h₀.get? p.1 with
      | none => rfl
      | some o => have := hg _ _ q z; rw [(N p hp).2.2] at this; cases this
  have lt : ∀ b o, h₀.get? b = some o → @LT.lt Nat _ b L := fun b o q => Nat.lt_of_lt_of_le (Heap.lt_size q) sz
  refine ⟨fun b o e n nf => ?_, fun b hb o ho => ?_⟩
  · by_cases z : b ∈ W₀.map (·.1)
    · obtain ⟨x, hx, rfl⟩ := List.mem_map.mp z
      have := hW x hx
      rw [e] at this; cases this
      exact (sub' x hx).elim (fun y => N'.get y) fun y => absurd y n
    · have e1 := kp_but F N hg hW sub b o e n
      refine F'.keep b o (gnd_to (k b o e1 (fun q => nomatch q) fun q => ?_) (lt b o e) fun q => ?_)
      · rw [List.filterMap_cons, hf] at q
        rcases List.mem_cons.mp q with q | q
        · rw [q, nL] at e; cases e
        · exact nf q
      · obtain ⟨y, hy, rfl⟩ := List.mem_map.mp q
        rcases subW y hy with q | q
        · exact z q
        · rw [e] at q; cases q
  · have hb' : b ∉ W₀.map (·.1) := fun q => by
      obtain ⟨x, hx, rfl⟩ := List.mem_map.mp q
      exact hF x hx hb
    obtain ⟨sl, e1⟩ := up b (by rw [List.filterMap_cons, hf]; exact .tail _ hb) o (F.keep b o (hg b o ho hb'))
    refine ⟨sl, F'.keep b _ (gnd_to e1 (lt b o ho) fun q => ?_)⟩
    obtain ⟨y, hy, rfl⟩ := List.mem_map.mp q
    rcases subW y hy with q | q
    · exact hb' q
    · rw [ho] at q; cases q
theorem Rel.tup {as : List Addr} {h h' : Heap} (R : Rel as fr h h') (hn : ∀ a ∈ as, ∀ o, h.get? a = some o → o.cls ≠ .type "tuple") : TupKept h h' := fun b o e c => by
  by_cases q : b ∈ fr.filterMap (·.frame)
  · exact R.2 b q o e
  · exact ⟨o.slots, R.1 b o e (fun z => hn b z o e c) q⟩
theorem tab_rel {q : Str} {ps : Array Value} {as : List Addr} {h h' : Heap} (T : TabOk q h ps) (C : FrOk S fr h) (R : Rel as fr h h') (hn : ∀ a ∈ as, ∀ o, h.get? a = some o → ∀ vs t, o.data = .fields vs → vs[1]? ≠ some (.str q t)) : TabOk q h' ps := ⟨T.1, fun pos cv e => by
  obtain ⟨c', rfl, c, o, vs, t, e1, e2, e3, e4⟩ := T.2 pos cv e
  refine ⟨c', rfl, c, o, vs, t, e1, R.1 c o e2 (fun z => hn c z o e2 vs t e3 e4) (fun z => ?_), e3, e4⟩
  obtain ⟨_, o', ho', hd'⟩ := C.ff.mem z
  rw [e2] at ho'; cases ho'
  exact hd' vs e3⟩
theorem lamAt_K {fn : Addr} {args : List Value} (N : News g L s.heap W) (mf : (f, kla_obj name qual params body scope cl pm c' ctv) ∈ W) (hcd : s.heap.CodeRec (.ref c') qual) (hb : bindArgs (kla_fn name qual params body scope cl pm (.ref c') ctv) ⟨[], []⟩ = pure []) (hcell : ∀ x ∈ scope.names, x.2 ≠ .cell) (hco : scope.isCoroutine = false) (hgen : scope.isGenerator = false) (hk : scope.kind = .function)
    (run : ∀ (A : Around) (L : Addr) (g : Heap) (m : Str → Option Value) (s : Shared) (Q E : Value → Shared → Prop), Fr g L s.heap m → News g L s.heap W → (hd.heap_1 w.params).In g → Top p loose mean mg mb g →
      (∀ k, wpAny (model pg w) (A.deeper (envX qual scope L f (.ref c') cl)) (PySem.call (.ref fn) args) Q E { s with toks := k }) → wpAny (model pg w) (A.deeper (envX qual scope L f (.ref c') cl)) (eval body (envX qual scope L f (.ref c') cl)) Q E s) :
    LamAt w p loose mean mg mb s.heap f fn args W := ⟨name, qual, params, body, scope, cl, pm, ctv, c', N.get mf, hcd, fun _ h => N.get h, hb, hcell, hco, hgen, hk, run⟩
theorem heldD_some {h : Heap} {kvs : List (Str × Value)} {x : Str} {r : Value} {D : PyData} (e : valueAt kvs x = some r) (t : TV h r D) : HeldD h kvs x D := by unfold HeldD; rw [e]; exact t
theorem heldD_two {h : Heap} {kvs : List (Str × Value)} {x : Str} (e : valueAt kvs x = none) (b : isB x = true) : HeldD h kvs x (.tuple [.str (Str.ofString "builtin"), .str x]) := by unfold HeldD; rw [e, b]; rfl
theorem heldD_none {h : Heap} {kvs : List (Str × Value)} {x : Str} (e : valueAt kvs x = none) (b : isB x = false) : HeldD h kvs x .none := by unfold HeldD; rw [e, b]; rfl
end
/-! what a turn has changed -/
def Chg (h' : Heap) (kvs kf kvs' kf' : List (Str × Value)) : Prop := (kvs' = kvs ∧ kf' = kf) ∨ ∃ x v d, TV h' v d ∧ Nice d ∧ v ≠ .none ∧ kvs' = stored kvs x v ∧ (kf' = kf ∨ kf' = stored kf x (.bool true))
def TurnRet (w : World) (fr : List Env) (src dv df hl fx : Addr) (kvs kf : List (Str × Value)) (s : Shared) (Q : Value → Shared → Prop) : Prop :=
  ∀ h' tk' x' y' tx' ty' n' o₁ o₂ o₃ o₄ kvs' kf' ps', Rel [src, dv, df, hl, fx, 410] fr s.heap h' → 0 ≤ x' → 0 ≤ y' → y' < 4294967296 → h'.get? src = some (listOf #[.int x' tx', .int y' ty'] n') →
    h'.get? dv = some o₁ → o₁.IsDictOf (SD w) kvs' → h'.get? df = some o₂ → o₂.IsDictOf (SD w) kf' → h'.get? hl = some o₃ → o₃.IsDictOf (SD w) kvs' → h'.get? fx = some o₄ → o₄.IsDictOf (SD w) kf' →
    h'.get? 410 = some (tabObj ps') → TabOk qT h' ps' → Chg h' kvs kf kvs' kf' → Q (.bool true) { s with heap := h', toks := tk' }

end
section
theorem kwo_Pkt : True := by
  k_with_none
  w_top off
  k_with "execs cons Assign cons" => (with_reducible refine seqN ?_); intro Qk1 nk1
  k_with "execs cons AugAssign cons" => (with_reducible refine seqN ?_); intro Qk1 nk1
  k_with "execs cons Expr cons" => (with_reducible refine seqN ?_); intro Qk1 nk1
  k_with "execs cons If cons" => (with_reducible refine seqQ ?_); intro Qk1 nk1 rk1
  k_with "execs cons For cons" => (with_reducible refine seqQ ?_); intro Qk1 nk1 rk1
  k_with "execs cons" => (with_reducible refine seq1 ?_)
  k_with "eval Constant int" => (with_reducible refine cInt ?_); intro tq1 kq1
  k_with "eval Constant str" => (with_reducible refine cStr ?_); intro tq1 kq1
  k_with "eval Name" => (k_here; k_dflt (refine' nameL ?Fn1 ?bn1 ?vn1 ?_; (case bn1 => decide +kernel); (case Fn1 => with_reducible assumption); (case vn1 => exact rfl); k_whole))
  exact trivial
/-! the texts that were printed -/
def TxtsP (its : Array Value) : Prop := ∀ v ∈ its.toList, ∃ T t, v = .str T t ∧ PyData.strOk T = true
theorem txts_push {its : Array Value} {T : Str} {t : Tok} (h : TxtsP its) (hT : PyData.strOk T = true) : TxtsP (its.push (.str T t)) := fun v hv => by
  rw [Array.toList_push] at hv
  rcases List.mem_append.mp hv with hv | hv
  · exact h v hv
  · exact ⟨T, t, List.mem_singleton.mp hv, hT⟩
theorem txts_data : ∀ {vs : List Value}, (∀ v ∈ vs, ∃ T t, v = .str T t ∧ PyData.strOk T = true) → ∃ ds, (∀ h, TVs h vs ds) ∧ PyData.canLayAll0 ds = true ∧ PyData.depthAll ds ≤ 8 ∧ PyData.eqvAll ds ds = true
  | [], _ => ⟨[], fun _ => .nil, by simp [PyData.canLayAll0], by simp [PyData.depthAll], by simp [PyData.eqvAll]⟩
  | v :: vs, h => by
    obtain ⟨T, t, rfl, hT⟩ := h v (.head _)
    obtain ⟨ds, h1, h2, h3, h4⟩ := txts_data (vs := vs) fun v hv => h v (.tail _ hv)
    refine ⟨.str T :: ds, fun h => .cons (.str _ _) (h1 h), by simp [PyData.canLayAll0, PyData.canLay0, hT, h2], ?_, by simp [PyData.eqvAll, PyData.eqv, h4]⟩
    simp only [PyData.depthAll, PyData.depth]
    omega
theorem strOk_app {x y : Str} (hx : PyData.strOk x = true) (hy : PyData.strOk y = true) : PyData.strOk (x ++ y) = true := by
  show (x.cps ++ y.cps).all _ = true
  unfold PyData.strOk at hx hy
  rw [Array.all_append, hx, hy]; rfl
theorem all_rep {c : Array Nat} {p : Nat → Bool} (hc : c.all p = true) : ∀ (l : List (Array Nat)) (acc : Array Nat), (∀ x ∈ l, x = c) → acc.all p = true → (l.foldl (· ++ ·) acc).all p = true
  | [], acc, _, h => h
  | x :: l, acc, hl, h => all_rep hc l _ (fun y hy => hl y (.tail _ hy)) (by rw [hl x (.head _), Array.all_append, h, hc]; rfl)
theorem strOk_mul {x : Str} {n : Int} (hx : PyData.strOk x = true) : PyData.strOk (Txt.mul x n) = true := by
  unfold Txt.mul
  split
  · decide +kernel
  · split
    · exact hx
    · exact all_rep hx _ _ (fun y hy => List.eq_of_mem_replicate hy) (by simp)
section
variable {w : World} {fr : List Env} {A A₀ : Around} {S g : Heap} {L : Addr} {m : Str → Option Value} {env : Env} {s : Shared} {Q E : Value → Shared → Prop} {W : List (Addr × Obj)}
  {p : Program} {loose : List Str} {mean : ExcName → Option Value} {mg mb : Str → Option Value} {f : Addr} {By : Array UInt8} {txt : Str}
theorem rel_no' {h h' h'' : Heap} {W₀ W W' : List (Addr × Obj)} {as : List Addr} {h₀ : Heap} {m'' : Str → Option Value} (B : Below A₀ S fr g) (F : Fr g L h m) (N : News g L h W) (hg : ∀ b o, h₀.get? b = some o → b ∉ W₀.map (·.1) → g.get? b = some o) (hW : ∀ p ∈ W₀, h₀.get? p.1 = some p.2) (hF : ∀ p ∈ W₀, p.1 ∉ fr.filterMap (·.frame)) (sz : h₀.objs.size ≤ L)
    (sub : ∀ p ∈ W₀, p ∈ W ∨ p.1 ∈ as) (hf : env.frame = some L) {as' : List Addr} (k : KpF as' (env :: fr) h h') (hsub : ∀ a ∈ as', a ∈ as) (up : UpF (env :: fr) h h') (F' : Fr (gnd h' L (W.map (·.1))) L h'' m'') (N' : News (gnd h' L (W.map (·.1))) L h'' W') (sub' : ∀ p ∈ W₀, p ∈ W' ∨ p.1 ∈ as) (nL : h₀.get? L = none) : Rel as fr h₀ h'' := by
  have subW : ∀ p ∈ W, p.1 ∈ W₀.map (·.1) ∨ h₀.get? p.1 = none := fun p hp => by
    by_cases z : p.1 ∈ W₀.map (·.1)
    · exact .inl z
    · refine .inr ?_
      cases q : h₀.get? p.1 with
      | none => rfl
      | some o => have := hg _ _ q z; rw [(N p hp).2.2] at this; cases this
  have lt : ∀ b o, h₀.get? b = some o → @LT.lt Nat _ b L := fun b o q => Nat.lt_of_lt_of_le (Heap.lt_size q) sz
  refine ⟨fun b o e n nf => ?_, fun b hb o ho => ?_⟩
  · by_cases z : b ∈ W₀.map (·.1)
    · obtain ⟨x, hx, rfl⟩ := List.mem_map.mp z
      have := hW x hx
      rw [e] at this; cases this
      exact (sub' x hx).elim (fun y => N'.get y) fun y => absurd y n
    · have e1 := kp_but F N hg hW sub b o e n
      refine F'.keep b o (gnd_to (k b o e1 (fun q => n (hsub _ q)) fun q => ?_) (lt b o e) fun q => ?_)
      · rw [List.filterMap_cons, hf] at q
        rcases List.mem_cons.mp q with q | q
        · rw [q, nL] at e; cases e
        · exact nf q
      · obtain ⟨y, hy, rfl⟩ := List.mem_map.mp q
        rcases subW y hy with q | q
        · exact z q
        · rw [e] at q; cases q
  · have hb' : b ∉ W₀.map (·.1) := fun q => by
      obtain ⟨x, hx, rfl⟩ := List.mem_map.mp q
      exact hF x hx hb
    obtain ⟨sl, e1⟩ := up b (by rw [List.filterMap_cons, hf]; exact .tail _ hb) o (F.keep b o (hg b o ho hb'))
    refine ⟨sl, F'.keep b _ (gnd_to e1 (lt b o ho) fun q => ?_)⟩
    obtain ⟨y, hy, rfl⟩ := List.mem_map.mp q
    rcases subW y hy with q | q
    · exact hb' q
    · rw [ho] at q; cases q

theorem texts_eq {a b : Addr} {its : Array Value} {n k : Nat} (N : News g L s.heap W) (ma : (a, listOf its n) ∈ W) (mb : (b, listOf its k) ∈ W) (hT : TxtsP its) (hu : A.units ≤ 5000) (h : Q (.bool true) s) : wpAny (model pg w) A (compareOp .Eq (.ref a) (.ref b)) Q E s := by
  obtain ⟨ds, h1, h2, h3, h4⟩ := txts_data hT
  have sh : SeqAt.shaped (.list ds) = true := by
    unfold SeqAt.shaped
    simp only [PyData.canLay0, h2, PyData.depth, Bool.true_and]
    exact decide_eq_true (by omega)
  refine eq_dataH (da := .list ds) (db := .list ds) (.list (N.get ma) rfl rfl (h1 _).reads) (.list (N.get mb) rfl rfl (h1 _).reads) sh sh (by have e : cLine = 9900 := rfl; omega) ?_
  rw [show PyData.eqv (.list ds) (.list ds) = true by simp [PyData.eqv, h4]]
  exact h
theorem item0_K {value slice : PySem.Expr} {l : Addr} {v0 v1 : Value} {n : Nat} {u : Tok} (N : News g L s.heap W) (hm : (l, listOf #[v0, v1] n) ∈ W) (h : Q v0 s) (hs : subscripted slice false (.ref l) (.int 0 u) = operate [.ref l, .int 0 u] (getItem (.ref l) (.int 0 u)) := by with_unfolding_all rfl) :
    wpAny (model pg w) A (subscriptTail value slice (.ref l) (.int 0 u)) Q E s := item_listR (News.isList N hm) (by decide) (by decide) rfl h hs
theorem item1_K {value slice : PySem.Expr} {l : Addr} {v0 v1 : Value} {n : Nat} {u : Tok} (N : News g L s.heap W) (hm : (l, listOf #[v0, v1] n) ∈ W) (h : Q v1 s) (hs : subscripted slice false (.ref l) (.int 1 u) = operate [.ref l, .int 1 u] (getItem (.ref l) (.int 1 u)) := by with_unfolding_all rfl) :
    wpAny (model pg w) A (subscriptTail value slice (.ref l) (.int 1 u)) Q E s := item_listR (News.isList N hm) (by decide) (by decide) rfl h hs
theorem mul_K {i : Int} {t u : Tok} (h0 : 0 ≤ i) (h1 : i ≤ 15000) (h : ∀ T t' k, PyData.strOk T = true → T.length ≤ 30000 → Q (.str T t') { s with toks := k }) :
    wpAny (model pg w) A (binaryOp .Mult (.str (Str.ofString "ab") t) (.int i u)) Q E s := by
  refine KXi.mul (n := 2) (by decide +kernel) (by decide) (by omega) (by omega) fun t' k h2 h3 => h _ t' k (strOk_mul (by decide +kernel)) ?_
  have := h3 h0
  omega
theorem bang_K {T : Str} {t u : Tok} (hT : PyData.strOk T = true) (hl : T.length ≤ 30000) (h : ∀ T' t' k, PyData.strOk T' = true → T'.length ≤ 30001 → Q (.str T' t') { s with toks := k }) :
    wpAny (model pg w) A (binaryOp .Add (.str T t) (.str (Str.ofString "!") u)) Q E s := by
  have e1 : (Str.ofString "!").length = 1 := by decide +kernel
  refine PyProof.Rows.add_str (fun t' k => h _ t' k (strOk_app hT (by decide +kernel)) ?_) (by rw [e1, sizeLine_eq]; omega)
  rw [PySem.Str.length_append, e1]; omega
end
/-! the work on the prints -/
structure PSt (S : Heap) (fr : List Env) (h₀ : Heap) (pr dP tl : Addr) (many : Int) (its : Array Value) (nl : Nat) (a b : Int) (t u x : Tok) : Prop where
  hi : h₀.get? pr = some (instObj 229 dP)
  hd : h₀.get? dP = some (gP tl many a b t u x)
  ht : h₀.get? tl = some (listOf its nl)
  f1 : Off S fr pr
  f2 : Off S fr dP
  f3 : Off S fr tl
  ne : ([pr, dP, tl] : List Nat).Nodup
  hm : 0 ≤ many
  hm2 : many ≤ 1000000
  hits : its.size ≤ 1000
def TakP (dP tl : Addr) (many : Int) (its : Array Value) (v : Value) (h h' : Heap) : Prop :=
  Kp [dP, tl] h h' ∧ ∃ a b t u x n', h'.get? dP = some (gP tl many a b t u x) ∧ h'.get? tl = some (listOf (its.push v) n')
section
variable {w : World} {fr : List Env} {S h₀ : Heap} {p : Program} {loose : List Str} {mean : ExcName → Option Value} {mg mb : Str → Option Value} {f pr dP tl : Addr} {many : Int} {its : Array Value} {nl : Nat} {a b : Int} {t u x tk : Tok} {T₀ : Str} {W : List (Addr × Obj)} {By : Array UInt8}
theorem PSt.push {env : Env} {L : Addr} {h' : Heap} (H : PSt S fr h₀ pr dP tl many its nl a b t u x) (st : h₀.StaysIn h') (hL : h₀.get? L = none) (hf : env.frame = some L) : PSt S (env :: fr) h' pr dP tl many its nl a b t u x := by
  obtain ⟨hi, hd, ht, f1, f2, f3, ne, hm, hm2, hits⟩ := H
  exact ⟨st _ _ hi, st _ _ hd, st _ _ ht, off_push f1 hi hL hf, off_push f2 hd hL hf, off_push f3 ht hL hf, ne, hm, hm2, hits⟩
theorem work_tak_ok (La : LamAt w p loose mean mg mb h₀ f 226 [.ref pr, .str T₀ tk] W) (X : (hd.heap_1 w.params).In S) (T : Top p loose mean mg mb S) (hO : ∀ p ∈ W, Off S fr p.1) (H : PSt S fr h₀ pr dP tl many its nl a b t u x)
    (hT : T₀.length ≤ 30001) (hle : ¬ (60000 < many + (T₀.length : Int))) : WorkOk w S f h₀ fr (TakP dP tl (many + (T₀.length : Int)) its (.str T₀ tk)) := by
  intro A env L s₁ Q E hA hfr hdp hu hf hL C st hret
  refine work_up La X T hO hA hfr hdp hu hf hL C st fun env₂ L₂ h₂ k hf₂ hk₂ hL₀ hL₂ C₂ st₂ => ?_
  have H₂ := (H.push st hL hf).push st₂ hL₂ hf₂
  refine take_ok (s := { s₁ with heap := h₂, toks := k }) C₂ X T H₂.hi H₂.hd H₂.ht H₂.f1 H₂.f2 H₂.f3 H₂.ne H₂.hm H₂.hm2 hT hle H₂.hits ?_
  exact fun a b t u x n' h' tk' e1 e2 e3 => hret h' tk' ⟨Kp.before st₂ e3, a, b, t, u, x, n', e1, e2⟩
theorem work_tak_no (La : LamAt w p loose mean mg mb h₀ f 226 [.ref pr, .str T₀ tk] W) (X : (hd.heap_1 w.params).In S) (H0 : S.get? 0 = some (boot_o_0 w.params)) (T : Top p loose mean mg mb S) (hO : ∀ p ∈ W, Off S fr p.1) (H : PSt S fr h₀ pr dP tl many its nl a b t u x)
    (hT : T₀.length ≤ 30001) (hle : 60000 < many + (T₀.length : Int)) (EO : EncOk (Str.ofString "too much is printed") By) : WorkNo w S f h₀ fr By [dP] (fun S' => ∃ a b t u x, S'.get? dP = some (gP tl (many + (T₀.length : Int)) a b t u x)) := by
  intro A env L s₁ Q E hA hfr hdp hu hf hL C st hret
  refine work_up La X T hO hA hfr hdp hu hf hL C st fun env₂ L₂ h₂ k hf₂ hk₂ hL₀ hL₂ C₂ st₂ => ?_
  have H₂ := (H.push st hL hf).push st₂ hL₂ hf₂
  refine take_raise (s := { s₁ with heap := h₂, toks := k }) C₂ X T H₂.hi H₂.hd H₂.ht H₂.f1 H₂.f2 H₂.f3 H₂.ne H₂.hm H₂.hm2 hT hle H0 EO H₂.hits ?_
  exact exc_up hfr hf hf₂ hL₂ C st₂ hret
end
section
variable {w : World} {fr : List Env} {A A₀ : Around} {S g : Heap} {L : Addr} {m : Str → Option Value} {env : Env} {s : Shared} {Q E : Value → Shared → Prop} {W : List (Addr × Obj)}
  {p : Program} {loose : List Str} {mean : ExcName → Option Value} {mg mb : Str → Option Value} {f : Addr} {By : Array UInt8} {txt : Str}
  {name qual : Str} {params : Arguments} {body : PySem.Expr} {scope : Scope} {cl : List (Str × Addr)} {pm ctv : Value} {c' : Addr}
theorem tak_ok_K {dv df : Addr} {o od : Obj} {many : Int} {its : Array Value} {v : Value} {g1 : Obj → List (Addr × Obj)} {g2 : Obj → Obj → List (Addr × Obj)} (hA : A.handled = none) (hfr : A.frames = some (env :: fr)) (hdp : A.depth ≤ 500) (hu : A.units ≤ 2500) (B : Below A₀ S fr g) (F : Fr g L s.heap m) (N : News g L s.heap W) (hf : env.frame = some L) (hk : env.scope.kind = .function) (X : (hd.heap_1 w.params).In S) (T : Top p loose mean mg mb S)
    (mf : (f, kla_obj name qual params body scope cl pm c' ctv) ∈ W) (hw : WorkOk w S f s.heap (env :: fr) (TakP dv df many its v)) (U1 : UpdF dv o W g1) (U2 : ∀ o', UpdF df od (g1 o') (g2 o')) (m2 : (df, od) ∈ W)
    (hret : ∀ a b t u x n' h' tk', Fr g L h' m → News g L h' (g2 (gP df many a b t u x) (listOf (its.push v) n')) → Q .none { s with heap := h', toks := tk' }) :
    wpAny (model pg w) A (PySem.call (.ref 394) [.ref f]) Q E s := by
  refine wpAny_up (A' := Ap 5 (env :: fr)) (refusal_ok (N.get mf) (off B N mf hf) (site B F hf hk) X T hw ?_) hA hdp (fun l e => by cases e; exact hfr) rfl hu
  intro h₁ h' tk' st ⟨k, a, b, t, u, x, n', e1, e3⟩
  have k := Kp.before st k
  have m1 := updF_mem U1
  obtain ⟨oL, es, ep, hL, rL⟩ := F.ns
  refine hret a b t u x n' h' tk' ⟨⟨oL, es, ep, k L oL hL (fun q => ?_), rL⟩, fun b ob e => k b ob (F.keep b ob e) (fun q => ?_), F.above⟩ (fun p hp => ?_)
  · rcases List.mem_cons.mp q with q | q
    · exact (N _ m1).2.1 q.symm
    · exact (N _ m2).2.1 (List.mem_singleton.mp q).symm
  · rcases List.mem_cons.mp q with q | q
    · rw [q, (N _ m1).2.2] at e; cases e
    · rw [List.mem_singleton.mp q, (N _ m2).2.2] at e; cases e
  · have key : ∀ p, p ∈ g1 (gP df many a b t u x) → p.1 ≠ df → h'.get? p.1 = some p.2 ∧ p.1 ≠ L ∧ g.get? p.1 = none := fun p hp nd => by
      obtain ⟨pr, po, rfl, hg1, n1, n2⟩ := U1.split
      rw [hg1] at hp
      rcases List.mem_append.mp hp with hp | hp
      · have n := N p (List.mem_append_left _ hp)
        refine ⟨k _ _ n.1 (fun q => ?_), n.2⟩
        rcases List.mem_cons.mp q with q | q
        · exact n1 p hp q
        · exact nd (List.mem_singleton.mp q)
      · rcases List.mem_cons.mp hp with rfl | hp
        · exact ⟨e1, (N _ m1).2⟩
        · have n := N p (List.mem_append_right _ (.tail _ hp))
          refine ⟨k _ _ n.1 (fun q => ?_), n.2⟩
          rcases List.mem_cons.mp q with q | q
          · exact n2 p hp q
          · exact nd (List.mem_singleton.mp q)
    obtain ⟨pr, po, e, hg2, n1, n2⟩ := (U2 (gP df many a b t u x)).split
    rw [hg2] at hp
    rcases List.mem_append.mp hp with hp | hp
    · exact key p (e ▸ List.mem_append_left _ hp) (n1 p hp)
    · rcases List.mem_cons.mp hp with rfl | hp
      · exact ⟨e3, (N _ m2).2⟩
      · exact key p (e ▸ List.mem_append_right _ (.tail _ hp)) (n2 p hp)
theorem tak_no_K {dP tl : Addr} {many : Int} {o : Obj} {g1 : Obj → List (Addr × Obj)} (hA : A.handled = none) (hfr : A.frames = some (env :: fr)) (hdp : A.depth ≤ 500) (hu : A.units ≤ 2500) (B : Below A₀ S fr g) (F : Fr g L s.heap m) (N : News g L s.heap W) (hf : env.frame = some L) (hk : env.scope.kind = .function) (X : (hd.heap_1 w.params).In S) (T : Top p loose mean mg mb S)
    (mf : (f, kla_obj name qual params body scope cl pm c' ctv) ∈ W) (hw : WorkNo w S f s.heap (env :: fr) By [dP] (fun S' => ∃ a b t u x, S'.get? dP = some (gP tl many a b t u x))) (U : UpdF dP o W g1) (DO : DecOk By txt)
    (hret : ∀ a b t u x h' t' tk', (hd.heap_1 w.params).In (gnd h' L (W.map (·.1))) → Top p loose mean mg mb (gnd h' L (W.map (·.1))) → Fr (gnd h' L (W.map (·.1))) L h' m → News (gnd h' L (W.map (·.1))) L h' (g1 (gP tl many a b t u x)) → KpF [dP] (env :: fr) s.heap h' → UpF (env :: fr) s.heap h' → Q (.str txt t') { s with heap := h', toks := tk' }) :
    wpAny (model pg w) A (PySem.call (.ref 394) [.ref f]) Q E s := by
  have m1 := updF_mem U
  refine ref_no_K hA hfr hdp hu B F N hf hk X T mf hw (List.forall_mem_cons.mpr ⟨(off B N m1 hf).1, List.forall_mem_nil _⟩) DO ?_
  intro S' h' t' tk' F' NN ⟨a, b, t, u, x, e⟩ key k up
  have stg : S.StaysIn (gnd h' L (W.map (·.1))) := fun b o q => by
    have q' := B.stays b o q
    refine gnd_to (k b o (F.keep b o q') (fun z => ?_) (fun z => ?_)) (Nat.lt_of_lt_of_le (Heap.lt_size q') F.above) fun z => ?_
    · rw [List.mem_singleton.mp z, (off B N m1 hf).1] at q; cases q
    · rw [((site B F hf hk).ff.mem z).1] at q; cases q
    · obtain ⟨y, hy, rfl⟩ := List.mem_map.mp z
      rw [(N y hy).2.2] at q'; cases q'
  refine hret a b t u x h' t' tk' (X.keeps stg) (T.keeps stg) F' ?_ k up
  obtain ⟨pr, po, rfl, hg1, n1, n2⟩ := U.split
  rw [hg1]
  have N1 := NN pr fun p hp => ⟨List.mem_append_left _ hp, fun q => n1 p hp (List.mem_singleton.mp q)⟩
  have N2 := NN po fun p hp => ⟨List.mem_append_right _ (.tail _ hp), fun q => n2 p hp (List.mem_singleton.mp q)⟩
  intro p hp
  rcases List.mem_append.mp hp with hp | hp
  · exact N1 p hp
  · rcases List.mem_cons.mp hp with rfl | hp
    · exact ⟨key dP _ (by rw [(N _ m1).1]; simp) e, (N _ m1).2.1, hideAll_none _ (List.mem_map.mpr ⟨_, m1, rfl⟩)⟩
    · exact N2 p hp
end

end
section
theorem kwo_Prt : True := by
  k_with_none
  w_top off
  k_with "execs cons Assign cons" => (with_reducible refine seqN ?_); intro Qk1 nk1
  k_with "execs cons AugAssign cons" => (with_reducible refine seqN ?_); intro Qk1 nk1
  k_with "execs cons Expr cons" => (with_reducible refine seqN ?_); intro Qk1 nk1
  k_with "execs cons If cons" => (with_reducible refine seqQ ?_); intro Qk1 nk1 rk1
  k_with "execs cons For cons" => (with_reducible refine seqQ ?_); intro Qk1 nk1 rk1
  k_with "execs cons" => (with_reducible refine seq1 ?_)
  k_with "eval Constant int" => (with_reducible refine cInt ?_); intro tq1 kq1
  k_with "eval Constant str" => (with_reducible refine cStr ?_); intro tq1 kq1
  k_with "eval Name" => (k_here; k_dflt (refine' nameL ?Fn1 ?bn1 ?vn1 ?_; (case bn1 => decide +kernel); (case Fn1 => with_reducible assumption); (case vn1 => exact rfl); k_whole))
  exact trivial
theorem fillit18 (P : Params) : hd.heap_1 P = hd.heap_1 P ∧ PySem.Challenge.rw_pq0711_01 = PySem.Challenge.rw_pq0711_01 := by
  k_fill
  exact ⟨rfl, rfl⟩
def PrtRet (fr : List Env) (src dP tl to tt : Addr) (many : Int) (its : Array Value) (s : Shared) (Q : Value → Shared → Prop) : Prop :=
  ∀ h' tk' x' y' tx' ty' n' many' its' mt' nn' nt' nl' a b t u x ps', Rel [src, dP, tl, to, tt, 417] fr s.heap h' → 0 ≤ x' → 0 ≤ y' → y' < 4294967296 → h'.get? src = some (listOf #[.int x' tx', .int y' ty'] n') →
    0 ≤ many' → many' ≤ many + 30001 → its'.size ≤ its.size + 1 → TxtsP its' → h'.get? to = some (listOf #[.int many' mt', .ref tt] nn') → h'.get? tt = some (listOf its' nt') → h'.get? tl = some (listOf its' nl') → h'.get? dP = some (gP tl many' a b t u x) →
    h'.get? 417 = some (tabObj ps') → TabOk qP h' ps' → Q (.bool true) { s with heap := h', toks := tk' }
section
variable {w : World} {fr : List Env} {S : Heap} {p : Program} {loose : List Str} {mean : ExcName → Option Value} {mg mb : Str → Option Value} {s : Shared} {Q E : Value → Shared → Prop}
theorem kw_Prt_1 : True := by
  k_with "call ref" => (k_here; (with_reducible show wpAny _ _ (PySem.call (Value.ref 380) _) _ _ _); k_dflt (refine' digit_K rfl rfl ?hdpKw ?huKw ?CKw ?FKw ?XKw ?TKw ?NKw ?UKw ?hSKw ?hFKw ?hxKw ?hyKw ?hy2Kw ?hkKw ?hk2Kw ?_; (case hdpKw => exact Nat.le_of_ble_eq_true rfl); (case huKw => exact Nat.le_of_ble_eq_true rfl); (case FKw => k_asm); (case NKw => k_asm); (case UKw => k_updF); (case CKw => exact site (by assumption) (by assumption) rfl rfl); (case XKw => assumption); (case TKw => assumption); (case hSKw => exact site_new (by assumption) (by assumption) (by k_mem)); (case hFKw => exact site_off (by assumption) (by assumption) (by k_mem) rfl); (case hxKw => assumption); (case hyKw => assumption); (case hy2Kw => assumption); (case hkKw => decide); (case hk2Kw => decide); k_whole); intro r'q t'q x'q y'q tx'q ty'q n'q h'q tk'q r0'q r1'q hx'q hy'q hy2'q F'q N'q K'q; (try dsimp only at N'q); clear K'q; (try dsimp only))
  exact trivial
theorem kw_Prt_2 : True := by
  k_with "call ref" => (k_here; (with_reducible show wpAny _ _ (PySem.call (Value.ref 394) _) _ _ _); refine hold ?_)
  exact trivial
theorem kw_Prt_3 : True := by
  k_with "call ref" => (k_here; (with_reducible show wpAny _ _ (PySem.call (Value.ref 226) _) _ _ _); refine hold ?_)
  exact trivial
theorem kw_Prt_4 : True := by
  k_with "eval Lambda" => (k_here; k_dflt (refine' kla_eval ?d0Kw ?_; (case d0Kw => exact rfl)); k_dflt (refine' lam2 ?FKw ?NKw ?TKw ?CKw ?cdKw ?UKw ?hqKw ?tKw ?clKw ?_ ?_; (case hqKw => exact qual_printed); (case FKw => k_asm); (case NKw => k_asm); (case TKw => k_asm); (case cdKw => exact rfl); (case CKw => assumption); (case UKw => k_updF); (case tKw => assumption); (case clKw => exact rfl)); all_goals ((first | (intro f'q c'q oc'q vs'q t'q ct'q ps'q h'q tk'q tg'q F'q N'q d1'q d2'q l1q l2q R'q; (try dsimp only at N'q); (first | (rename Dst _ _ => Sq; replace Sq := Dst.two l1q l2q Sq rfl; clear l1q l2q) | ((try k_lt l1q); (try k_lt2 l2q)))) | (intro c'q e'q f'q ct'q h'q tk'q F'q N'q l1q R'q; (try dsimp only at N'q); (try k_lt l1q))); (try dsimp only)))
  exact trivial
theorem kw_Prt_5 : True := by
  k_with "eval Name" => (k_here; k_dflt (refine' nameX_F ?NKw ?cKw ?mKw ?dKw ?_ ?aKw ?bKw; (case aKw => rfl); (case bKw => rfl); (case NKw => k_asm); (case cKw => rfl); (case mKw => k_mem); (case dKw => k_asm); k_whole))
  exact trivial
theorem kw_Prt_6 : True := by
  k_with "binaryOp Mult str int" => (k_here; k_dflt (refine mul_K (by omega) (by omega) ?_); intro T'q t'q k'q sT'q lT'q)
  exact trivial
theorem kw_Prt_7 : True := by
  k_with "binaryOp Add str str" => (k_here; k_dflt (refine bang_K (by assumption) (by assumption) ?_); intro T'q t'q k'q sT'q lT'q)
  exact trivial
theorem kw_Prt_8 : True := by
  k_with "compareOp Eq ref ref" => (k_here; k_dflt (refine texts_eq (by k_asm) (by k_mem) (by k_mem) (by first | assumption | exact txts_push (by assumption) (by assumption)) (Nat.le_of_ble_eq_true rfl) ?_))
  exact trivial
theorem kw_Prt_9 : True := by
  k_with "subscriptTail" => (k_here; (first | (with_reducible refine' item0_K ?NKw ?mKw ?_ ?hsKw) | (with_reducible refine' item1_K ?NKw ?mKw ?_ ?hsKw)); (case NKw => k_asm); (case mKw => k_dflt k_mem); (case hsKw => with_unfolding_all rfl))
  exact trivial
theorem kw_Prt_10 : True := by
  k_with "subscriptTail Name Constant ref int" => (k_here; (first | (with_reducible refine' item0_K ?NKw ?mKw ?_ ?hsKw) | (with_reducible refine' item1_K ?NKw ?mKw ?_ ?hsKw)); (case NKw => k_asm); (case mKw => k_dflt k_mem); (case hsKw => with_unfolding_all rfl))
  exact trivial
set_option maxHeartbeats 0 in
theorem printed_spec {src pr dP tl to tt : Addr} {x y : Int} {tx ty : Tok} {n nn nt nl : Nat} {many : Int} {mt : Tok} {its : Array Value} {a b : Int} {t u v : Tok} {ps : Array Value}
    (C : FrOk S fr s.heap) (X : (hd.heap_1 w.params).In S) (H0 : S.get? 0 = some (boot_o_0 w.params)) (H1 : S.get? 1 = some (boot_o_1 w.params)) (T : Top p loose mean mg mb S)
    (hs : s.heap.get? src = some (listOf #[.int x tx, .int y ty] n)) (hx : 0 ≤ x) (hy : 0 ≤ y) (hy2 : y < 4294967296)
    (hto : s.heap.get? to = some (listOf #[.int many mt, .ref tt] nn)) (htt : s.heap.get? tt = some (listOf its nt)) (hi : s.heap.get? pr = some (instObj 229 dP)) (hd' : s.heap.get? dP = some (gP tl many a b t u v)) (htl : s.heap.get? tl = some (listOf its nl))
    (hp : s.heap.get? 417 = some (tabObj ps)) (hps : TabOk qP s.heap ps)
    (f0 : Off S fr src) (f1 : Off S fr to) (f2 : Off S fr tt) (f3 : Off S fr pr) (f4 : Off S fr dP) (f5 : Off S fr tl) (f6 : Off S fr 417) (ord : @LT.lt Nat _ 417 src ∧ @LT.lt Nat _ src dP ∧ @LT.lt Nat _ dP pr ∧ @LT.lt Nat _ pr tl ∧ @LT.lt Nat _ tl tt ∧ @LT.lt Nat _ tt to)
    (hm : 0 ≤ many) (hm2 : many ≤ 900000) (hits : its.size ≤ 900) (hT : TxtsP its) (hret : PrtRet fr src dP tl to tt many its s Q) :
    wpAny (model pg w) (Ap 3 fr) (PySem.call (.ref 422) [.ref src, .ref pr, .ref to]) Q E s := by
  obtain ⟨o1, o2, o3, o4, o5, o6⟩ := ord
  have hW : ∀ p ∈ [(src, listOf #[.int x tx, .int y ty] n), (to, listOf #[.int many mt, .ref tt] nn), (tt, listOf its nt), (pr, instObj 229 dP), (dP, gP tl many a b t u v), (tl, listOf its nl), (417, tabObj ps)], s.heap.get? p.1 = some p.2 :=
    List.forall_mem_cons.mpr ⟨hs, List.forall_mem_cons.mpr ⟨hto, List.forall_mem_cons.mpr ⟨htt, List.forall_mem_cons.mpr ⟨hi, List.forall_mem_cons.mpr ⟨hd', List.forall_mem_cons.mpr ⟨htl, List.forall_mem_cons.mpr ⟨hp, List.forall_mem_nil _⟩⟩⟩⟩⟩⟩⟩
  have hFW : ∀ p ∈ [(src, listOf #[.int x tx, .int y ty] n), (to, listOf #[.int many mt, .ref tt] nn), (tt, listOf its nt), (pr, instObj 229 dP), (dP, gP tl many a b t u v), (tl, listOf its nl), (417, tabObj ps)], p.1 ∉ fr.filterMap (·.frame) :=
    List.forall_mem_cons.mpr ⟨f0.2, List.forall_mem_cons.mpr ⟨f1.2, List.forall_mem_cons.mpr ⟨f2.2, List.forall_mem_cons.mpr ⟨f3.2, List.forall_mem_cons.mpr ⟨f4.2, List.forall_mem_cons.mpr ⟨f5.2, List.forall_mem_cons.mpr ⟨f6.2, List.forall_mem_nil _⟩⟩⟩⟩⟩⟩⟩
  refine enterCT _ rfl C X T (by k_is) (by k_is) (show 460 < 1000 by decide) (BindsTo.of_eq (binds := [(Str.ofString "source", .ref src), (Str.ofString "prints", .ref pr), (Str.ofString "told", .ref to)]) rfl) (kindsX rfl) (by decide) hW ?_ hFW rfl rfl rfl ?_
  · exact List.forall_mem_cons.mpr ⟨f0.1, List.forall_mem_cons.mpr ⟨f1.1, List.forall_mem_cons.mpr ⟨f2.1, List.forall_mem_cons.mpr ⟨f3.1, List.forall_mem_cons.mpr ⟨f4.1, List.forall_mem_cons.mpr ⟨f5.1, List.forall_mem_cons.mpr ⟨f6.1, List.forall_mem_nil _⟩⟩⟩⟩⟩⟩⟩
  intro Q₁ g L' h₁ tk cells env m₀ rq nq F N Y B Xg Tg hg sz lt fc
  have nL := notL F (fun p hp => N p (List.mem_append_right _ hp)) hg
  have TA : TabAt g L' qP ps := tab_at hps hg hW (by
    refine List.forall_mem_cons.mpr ⟨nofun, List.forall_mem_cons.mpr ⟨nofun, List.forall_mem_cons.mpr ⟨nofun, List.forall_mem_cons.mpr ⟨nofun, List.forall_mem_cons.mpr ⟨nofun, List.forall_mem_cons.mpr ⟨nofun, List.forall_mem_cons.mpr ⟨?_, List.forall_mem_nil _⟩⟩⟩⟩⟩⟩⟩
    intro vs t e
    cases e
    simpa using triples_no_str hps.1 qP t)
  have hAs : ∀ a ∈ [src, dP, tl, to, tt, 417], ∀ o, s.heap.get? a = some o → ∀ vs t, o.data = .fields vs → vs[1]? ≠ some (.str qP t) := by
    refine List.forall_mem_cons.mpr ⟨?_, List.forall_mem_cons.mpr ⟨?_, List.forall_mem_cons.mpr ⟨?_, List.forall_mem_cons.mpr ⟨?_, List.forall_mem_cons.mpr ⟨?_, List.forall_mem_cons.mpr ⟨?_, List.forall_mem_nil _⟩⟩⟩⟩⟩⟩
    · intro o' e vs t q; rw [hs] at e; cases e; cases q
    · intro o' e vs t q; rw [hd'] at e; cases e; cases q
    · intro o' e vs t q; rw [htl] at e; cases e; cases q
    · intro o' e vs t q; rw [hto] at e; cases e; cases q
    · intro o' e vs t q; rw [htt] at e; cases e; cases q
    · intro o' e vs t q; rw [hp] at e; cases e; cases q; simpa using triples_no_str hps.1 qP t
  have CD := code421 Xg
  have l0 : @LT.lt Nat _ to L' := lt (to, _) (by k_mem)
  clear lt
  k_cells Y
  simp only [List.cons_append, List.nil_append] at N
  have S0 : Dst [L' + 1 + 1, L' + 1, src, to, tt, pr, dP, tl, 417] [] := by walk_at "dst0"
  have ne : ([pr, dP, tl] : List Nat).Nodup := by
    simp only [List.nodup_cons, List.mem_cons, List.not_mem_nil, or_false, not_or, not_false_eq_true, List.nodup_nil, and_true]
    omega
  have EO := enc_many
  have DO := dec_many
  k_steps
  all_goals (first
    | (rename Fr _ _ _ _ => Fx
       rename News _ _ _ _ => Nx
       show wpAny _ _ _ _ _ _
       refine' tak_ok_K rfl rfl (Nat.le_of_ble_eq_true rfl) (Nat.le_of_ble_eq_true rfl) B Fx Nx rfl rfl X T ?mf (work_tak_ok (lamAt_K Nx ?mf ?rcd ?bnd ?cel ?co ?ge ?ki ?run) X T (fun p hp => off B Nx (b := p.1) (o := p.2) hp rfl) ⟨Nx.get ?m1, Nx.get ?m2, Nx.get ?m3, off B Nx ?m1 rfl, off B Nx ?m2 rfl, off B Nx ?m3 rfl, ne, hm, ?hz1, ?hz2⟩ ?hT ?hle) ?U1 ?U2 ?m3 ?_
       case mf => k_mem
       case rcd => assumption
       case bnd => exact rfl
       case cel => decide
       case co => exact rfl
       case ge => exact rfl
       case ki => exact rfl
       case m1 => k_mem
       case m2 => k_mem
       case m3 => k_mem
       case run =>
         intro A' L₂ g₂ m₂ s₂ Q₂ E₂ F₂ N₂ X₂ T₂ hc
         k_steps
         exact hc _
       case hz1 => omega
       case hz2 => omega
       case hT => assumption
       case hle => omega
       case U1 => k_updF
       case U2 => (intro o'; k_updF)
       intro a' b' t' u' x' n' h' tk' F' N'
       (try dsimp only at N')
       (try dsimp only)
       k_steps
       all_goals first
         | (exfalso; omega)
         | (dsimp only
            (try rw [beq_self_eq_true])
            rename Fr _ _ _ _ => Fz
            rename News _ _ _ _ => Nz
            have R := rel_ok (as := [src, dP, tl, to, tt, 417]) B Fz Nz hg hW hFW (by repeat' (first | exact List.forall_mem_nil _ | refine List.forall_mem_cons.mpr ⟨?_, ?_⟩ | exact .inl (by k_mem) | exact .inr (by k_mem)))
            have TR := tab_rel hps C R hAs
            refine' hret _ _ _ _ _ _ _ _ _ _ _ _ _ _ _ _ _ _ _ R ?a1 ?a2 ?a3 (Nz.get ?s1) ?b1 ?b2 ?b3 ?b4 (Nz.get ?s2) (Nz.get ?s3) (Nz.get ?s4) (Nz.get ?s5) (Nz.get ?s6) ?tb
            case s1 => k_mem
            case s2 => k_mem
            case s3 => k_mem
            case s4 => k_mem
            case s5 => k_mem
            case s6 => k_mem
            case a1 => assumption
            case a2 => assumption
            case a3 => assumption
            case b1 => omega
            case b2 => omega
            case b3 => (rw [Array.size_push]; omega)
            case b4 => exact txts_push hT (by assumption)
            case tb => first | with_reducible exact TR | exact tabGo (by assumption) TR (codeRec_news Nz (by k_mem) (by assumption) (by assumption))))
    | (rename Fr _ _ _ _ => Fx
       rename News _ _ _ _ => Nx
       show wpAny _ _ _ _ _ _
       refine' tak_no_K rfl rfl (Nat.le_of_ble_eq_true rfl) (Nat.le_of_ble_eq_true rfl) B Fx Nx rfl rfl X T ?mf (work_tak_no (lamAt_K Nx ?mf ?rcd ?bnd ?cel ?co ?ge ?ki ?run) X H0 T (fun p hp => off B Nx (b := p.1) (o := p.2) hp rfl) ⟨Nx.get ?m1, Nx.get ?m2, Nx.get ?m3, off B Nx ?m1 rfl, off B Nx ?m2 rfl, off B Nx ?m3 rfl, ne, hm, ?hz1, ?hz2⟩ ?hT ?hle EO) ?U DO ?_
       case mf => k_mem
       case rcd => assumption
       case bnd => exact rfl
       case cel => decide
       case co => exact rfl
       case ge => exact rfl
       case ki => exact rfl
       case m1 => k_mem
       case m2 => k_mem
       case m3 => k_mem
       case run =>
         intro A' L₂ g₂ m₂ s₂ Q₂ E₂ F₂ N₂ X₂ T₂ hc
         k_steps
         exact hc _
       case hz1 => omega
       case hz2 => omega
       case hT => assumption
       case hle => omega
       case U => k_updF
       intro a' b' t' u' x' h' t₂ tk' X' T' F' N' kp' up'
       (try dsimp only at N')
       (try dsimp only)
       k_steps
       all_goals first
         | (exfalso; omega)
         | (dsimp only
            (try rw [beq_self_eq_true])
            rename Fr _ _ _ _ => Fz
            rename News _ _ _ _ => Nz
            have R := rel_no' (as := [src, dP, tl, to, tt, 417]) B Fx Nx hg hW hFW sz (by repeat' (first | exact List.forall_mem_nil _ | refine List.forall_mem_cons.mpr ⟨?_, ?_⟩ | exact .inl (by k_mem) | exact .inr (by k_mem))) rfl kp' (List.forall_mem_cons.mpr ⟨.tail _ (.head _), List.forall_mem_nil _⟩) up' Fz Nz (by repeat' (first | exact List.forall_mem_nil _ | refine List.forall_mem_cons.mpr ⟨?_, ?_⟩ | exact .inl (by k_mem) | exact .inr (by k_mem))) nL
            have TR := tab_rel hps C R hAs
            refine' hret _ _ _ _ _ _ _ _ _ _ _ _ _ _ _ _ _ _ _ R ?a1 ?a2 ?a3 (Nz.get ?s1) ?b1 ?b2 ?b3 ?b4 (Nz.get ?s2) (Nz.get ?s3) (Nz.get ?s4) (Nz.get ?s5) (Nz.get ?s6) ?tb
            case s1 => k_mem
            case s2 => k_mem
            case s3 => k_mem
            case s4 => k_mem
            case s5 => k_mem
            case s6 => k_mem
            case a1 => assumption
            case a2 => assumption
            case a3 => assumption
            case b1 => omega
            case b2 => omega
            case b3 => omega
            case b4 => exact hT
            case tb => first | with_reducible exact TR | exact tabGo (by assumption) TR (codeRec_news Nz (by k_mem) (by assumption) (by assumption)))))
end

end
section
theorem kwo_Trn : True := by
  k_with_none
  w_top off
  k_with "execs cons Assign cons" => (with_reducible refine seqN ?_); intro Qk1 nk1
  k_with "execs cons AugAssign cons" => (with_reducible refine seqN ?_); intro Qk1 nk1
  k_with "execs cons Expr cons" => (with_reducible refine seqN ?_); intro Qk1 nk1
  k_with "execs cons If cons" => (with_reducible refine seqQ ?_); intro Qk1 nk1 rk1
  k_with "execs cons For cons" => (with_reducible refine seqQ ?_); intro Qk1 nk1 rk1
  k_with "execs cons" => (with_reducible refine seq1 ?_)
  k_with "eval Constant int" => (with_reducible refine cInt ?_); intro tq1 kq1
  k_with "eval Constant str" => (with_reducible refine cStr ?_); intro tq1 kq1
  k_with "eval Name" => (k_here; k_dflt (refine' nameL ?Fn1 ?bn1 ?vn1 ?_; (case bn1 => decide +kernel); (case Fn1 => with_reducible assumption); (case vn1 => exact rfl); k_whole))
  exact trivial
theorem fillit17 (P : Params) : hd.heap_1 P = hd.heap_1 P ∧ PySem.Challenge.rw_pq0711_01 = PySem.Challenge.rw_pq0711_01 := by
  k_fill
  exact ⟨rfl, rfl⟩
theorem dict_nf {w : World} {o : Obj} {kvs : List (Str × Value)} {q : Str} (h : o.IsDictOf (SD w) kvs) : ∀ vs t, o.data = .fields vs → vs[1]? ≠ some (.str q t) := fun vs t e => by
  obtain ⟨_, _, _, e2, _⟩ := h
  rw [e2] at e; cases e
theorem in_two1 {w : World} {A : Around} {g : Heap} {L t : Addr} {W : List (Addr × Obj)} {s : Shared} {Q E : Value → Shared → Prop} {o : Obj} {x v : Value} {n : Nat} {D d : PyData} (N : News g L s.heap W) (m : (t, o) ∈ W) (hc : o.cls = .type "tuple") (hdt : o.data = .seq #[.none, v] n)
    (hx : TV s.heap x D) (hv : TV s.heap v d) (nD : Nice D) (nd : Nice d) (hu : A.units ≤ 5000) (h : ∀ r, ([PyData.none, d].any fun y => PyData.eqv y D) = r → Q (.bool r) s) :
    wpAny (model pg w) A (compareOp .In x (.ref t)) Q E s := in_two N m hc hdt hx hv nD nd hu rfl (h _ rfl)
def CutT (t : Sem Bool) (M : Model) (A : Around) (E : Value → Shared → Prop) (g : Heap) (L : Addr) (m : Str → Option Value) (W : List (Addr × Obj)) (s : Shared) (P : Bool → Prop) : Prop :=
  ∀ Q₁ : Bool → Shared → Prop, (∀ b h' tk', P b → Fr g L h' m → News g L h' W → Q₁ b { s with heap := h', toks := tk' }) → wpAny M A t Q₁ E s
theorem cutHeld {M : Model} {A : Around} {t : Sem Bool} {g : Heap} {L : Addr} {m : Str → Option Value} {W : List (Addr × Obj)} {s : Shared} {Q : Bool → Shared → Prop} {E : Value → Shared → Prop} {kvs : List (Str × Value)} {x : Str} {By : Array UInt8} {d : PyData} (_F : Fr g L s.heap m) (_N : News g L s.heap W) (_x : EncOk (pre ++ x) By) (_d : Nice d)
    (h1 : CutT t M A E g L m W s (fun b => ∃ D, Nice D ∧ HeldAt g L kvs x D ∧ ([PyData.none, d].any fun y => PyData.eqv y D) = b))
    (h2 : ∀ b D h' tk', Nice D → HeldAt g L kvs x D → ([PyData.none, d].any fun y => PyData.eqv y D) = b → Fr g L h' m → News g L h' W → Q b { s with heap := h', toks := tk' }) : wpAny M A t Q E s :=
  h1 Q fun b h' tk' ⟨D, nD, HA, hin⟩ => h2 b D h' tk' nD HA hin
theorem cutFix {M : Model} {A : Around} {t : Sem Bool} {g : Heap} {L : Addr} {m : Str → Option Value} {W : List (Addr × Obj)} {s : Shared} {Q : Bool → Shared → Prop} {E : Value → Shared → Prop} {kf : List (Str × Value)} {x : Str} {By : Array UInt8} (_F : Fr g L s.heap m) (_N : News g L s.heap W) (_x : EncOk (pre ++ x) By)
    (h1 : CutT t M A E g L m W s (fun b => (b = true ∧ ((∃ r, valueAt kf x = some r) ∨ (valueAt kf x = none ∧ isB x = true))) ∨ (b = false ∧ valueAt kf x = none ∧ isB x = false)))
    (h2 : ∀ h' tk', ((∃ r, valueAt kf x = some r) ∨ (valueAt kf x = none ∧ isB x = true)) → Fr g L h' m → News g L h' W → Q true { s with heap := h', toks := tk' })
    (h3 : ∀ h' tk', valueAt kf x = none → isB x = false → Fr g L h' m → News g L h' W → Q false { s with heap := h', toks := tk' }) : wpAny M A t Q E s :=
  h1 Q fun b h' tk' hb F N => by
    rcases hb with ⟨rfl, hb⟩ | ⟨rfl, a, b⟩
    · exact h2 h' tk' hb F N
    · exact h3 h' tk' a b F N
section
variable {w : World} {fr : List Env} {S : Heap} {p : Program} {loose : List Str} {mean : ExcName → Option Value} {mg mb : Str → Option Value} {s : Shared} {Q E : Value → Shared → Prop}
theorem kw_Trn_1 : True := by
  k_with "call ref" => (k_here; (with_reducible show wpAny _ _ (PySem.call (Value.ref 380) _) _ _ _); k_dflt (refine' digit_K rfl rfl ?hdpKw ?huKw ?CKw ?FKw ?XKw ?TKw ?NKw ?UKw ?hSKw ?hFKw ?hxKw ?hyKw ?hy2Kw ?hkKw ?hk2Kw ?_; (case hdpKw => exact Nat.le_of_ble_eq_true rfl); (case huKw => exact Nat.le_of_ble_eq_true rfl); (case FKw => k_asm); (case NKw => k_asm); (case UKw => k_updF); (case CKw => exact site (by assumption) (by assumption) rfl rfl); (case XKw => assumption); (case TKw => assumption); (case hSKw => exact site_new (by assumption) (by assumption) (by k_mem)); (case hFKw => exact site_off (by assumption) (by assumption) (by k_mem) rfl); (case hxKw => assumption); (case hyKw => assumption); (case hy2Kw => assumption); (case hkKw => decide); (case hk2Kw => decide); k_whole); intro r'q t'q x'q y'q tx'q ty'q n'q h'q tk'q r0'q r1'q hx'q hy'q hy2'q F'q N'q K'q; (try dsimp only at N'q); clear K'q; (try dsimp only))
  exact trivial
theorem kw_Trn_2 : True := by
  k_with "call ref" => (k_here; (with_reducible show wpAny _ _ (PySem.call (Value.ref 401) _) _ _ _); k_dflt (refine' value_K rfl rfl ?hdpKw ?huKw ?CKw ?FKw ?XKw ?TKw ?NKw ?UKw ?hSKw ?hFKw ?hxKw ?hyKw ?hy2Kw ?hnKw ?_; (case hdpKw => exact Nat.le_of_ble_eq_true rfl); (case huKw => exact Nat.le_of_ble_eq_true rfl); (case FKw => k_asm); (case NKw => k_asm); (case UKw => k_updF); (case CKw => exact site (by assumption) (by assumption) rfl rfl); (case XKw => assumption); (case TKw => assumption); (case hSKw => exact site_new (by assumption) (by assumption) (by k_mem)); (case hFKw => exact site_off (by assumption) (by assumption) (by k_mem) rfl); (case hxKw => assumption); (case hyKw => assumption); (case hy2Kw => assumption); (case hnKw => assumption); k_whole); intro t'q o'q vs'q ds'q nt'q x'q y'q tx'q ty'q n'q h'q tk'q hc'q hd'q hv'q hn'q hx'q hy'q hy2'q F'q N'q l1q; (try dsimp only at N'q l1q); k_lt l1q; (try dsimp only))
  exact trivial
theorem kw_Trn_3 : True := by
  k_with "call ref" => (k_here; (with_reducible show wpAny _ _ (PySem.call (Value.ref 408) _) _ _ _); k_dflt (refine' held_K3 rfl rfl ?hdpKw ?huKw ?CKw ?FKw ?XKw ?H1Kw ?TKw ?NKw ?m4Kw ?hdoKw ?VKw ?f4Kw ?_ ?_ ?_; (case hdpKw => exact Nat.le_of_ble_eq_true rfl); (case huKw => exact Nat.le_of_ble_eq_true rfl); (case FKw => k_asm); (case NKw => k_asm); (case m4Kw => k_mem); (case hdoKw => assumption); (case CKw => exact site (by assumption) (by assumption) rfl rfl); (case XKw => assumption); (case H1Kw => assumption); (case TKw => assumption); (case VKw => assumption); (case f4Kw => exact off (by assumption) (by assumption) (by k_mem) rfl)); all_goals ((first | (intro t'q a'q b'q h'q tk'q e'q b2'q F'q N'q l1q; k_lt l1q) | (intro r'q d'q h'q tk'q e'q nd'q td'q F'q N'q) | (intro h'q tk'q e'q b2'q F'q N'q)); (try dsimp only)))
  exact trivial
theorem kw_Trn_4 : True := by
  k_with "call ref" => (k_here; (with_reducible show wpAny _ _ (PySem.call (Value.ref 394) _) _ _ _); refine hold ?_)
  exact trivial
theorem kw_Trn_5 : True := by
  k_with "call ref" => (k_here; (with_reducible show wpAny _ _ (PySem.call (Value.ref 191) _) _ _ _); refine hold ?_)
  exact trivial
theorem kw_Trn_6 : True := by
  k_with "call ref" => (k_here; (with_reducible show wpAny _ _ (PySem.call (Value.ref 198) _) _ _ _); refine hold ?_)
  exact trivial
theorem kw_Trn_7 : True := by
  k_with "eval Name" => (k_here; k_dflt (refine' nameX_F ?NKw ?cKw ?mKw ?dKw ?_ ?aKw ?bKw; (case aKw => rfl); (case bKw => rfl); (case NKw => k_asm); (case cKw => rfl); (case mKw => k_mem); (case dKw => k_asm); k_whole))
  exact trivial
theorem kw_Trn_8 : True := by
  k_with "subscriptTail" => (k_here; (with_reducible show wpAny _ _ (subscriptTail _ _ (Value.ref _) (Value.int _ _)) _ _ _); k_dflt (refine pick (by k_asm) (by k_mem) (by assumption) (by assumption) ?_); intro x'q t'q By'q sx'q zx'q ex'q dx'q)
  exact trivial
theorem kw_Trn_9 : True := by
  k_with "binaryOp Add str str" => (k_here; refine PyProof.Rows.P.add_str ?_ (by assumption); intro t'q k'q)
  exact trivial
theorem kw_Trn_10 : True := by
  k_with "compareOp In str ref" => (k_here; k_dflt (refine kda_in3 (by k_asm) (by k_mem) (by k_asm) (by assumption) ?_ ?_); (first | (intro r'q e'q) | intro e'q))
  exact trivial
theorem kw_Trn_11 : True := by
  k_with "compareOp In" => (k_here; k_dflt (refine in_two1 (by k_asm) (by k_mem) rfl rfl (by first | exact TVAt.at (by assumption) (by k_asm) | exact TV.none | exact TV.tup (News.get (by k_asm) (by k_mem)) rfl rfl (.cons (.str _ _) (.cons (.str _ _) .nil))) (tv_of (by k_asm) (by k_mem) (by assumption) (by assumption) (by assumption)) (by first | assumption | exact nice_none | exact nice_two (by decide +kernel) (by assumption)) (by assumption) (Nat.le_of_ble_eq_true rfl) ?_); intro r'q hin'q)
  exact trivial
theorem kw_Trn_12 : True := by
  k_with "eval Lambda" => (k_here; k_dflt (refine' kla_eval ?d0Kw ?_; (case d0Kw => exact rfl)); k_dflt (refine' lam2 ?FKw ?NKw ?TKw ?CKw ?cdKw ?UKw ?hqKw ?tKw ?clKw ?_ ?_; (case hqKw => exact qual_turned); (case FKw => k_asm); (case NKw => k_asm); (case TKw => k_asm); (case cdKw => exact rfl); (case CKw => assumption); (case UKw => k_updF); (case tKw => assumption); (case clKw => exact rfl)); all_goals ((first | (intro f'q c'q oc'q vs'q t'q ct'q ps'q h'q tk'q tg'q F'q N'q d1'q d2'q l1q l2q R'q; (try dsimp only at N'q); (first | (rename Dst _ _ => Sq; replace Sq := Dst.two l1q l2q Sq rfl; clear l1q l2q) | ((try k_lt l1q); (try k_lt2 l2q)))) | (intro c'q e'q f'q ct'q h'q tk'q F'q N'q l1q R'q; (try dsimp only at N'q); (try k_lt l1q))); (try dsimp only)))
  exact trivial
theorem kw_Trn_13 : True := by
  k_with "setItem ref str" => (k_here; k_dflt (refine' kda_set (knd := PySem.strKind _ _) ?FKw ?NKw ?UKw ?dKw (strKind_is _ _ _ _) ?zKw ?_; (case FKw => k_asm); (case NKw => k_asm); (case UKw => k_updF); (case dKw => k_asm); (case zKw => rw [sizeLine_eq]; omega)); intro h'q o'q F'q N'q hd'q; (try dsimp only at N'q))
  exact trivial
theorem kw_Trn_14 : True := by
  k_with "isTrue Compare" => (k_here; (with_reducible show wpAny _ _ (isTrue (PySem.Expr.Compare (PySem.Expr.Call _ _ _ _) [CmpOp.In] _ _) _ _) _ _ _); refine hold ?_)
  exact trivial
theorem kw_Trn_15 : True := by
  k_with "isTrue BoolOp" => (k_here; (with_reducible show wpAny _ _ (isTrue (PySem.Expr.BoolOp _ [_, _] _) _ _) _ _ _); refine hold ?_)
  exact trivial
set_option maxHeartbeats 0 in
theorem turned_spec {src nm dN bi dv df hl fx : Addr} {x y : Int} {tx ty : Tok} {n : Nat} {o od oh ofx : Obj} {kvs kf : List (Str × Value)} {ps : Array Value}
    (C : FrOk S fr s.heap) (X : (hd.heap_1 w.params).In S) (H0 : S.get? 0 = some (boot_o_0 w.params)) (H1 : S.get? 1 = some (boot_o_1 w.params)) (T : Top p loose mean mg mb S)
    (hs : s.heap.get? src = some (listOf #[.int x tx, .int y ty] n)) (hx : 0 ≤ x) (hy : 0 ≤ y) (hy2 : y < 4294967296)
    (G : GL w s.heap nm dN bi dv df) (ho : s.heap.get? dv = some o) (hdo : o.IsDictOf (SD w) kvs) (hod : s.heap.get? df = some od) (hdd : od.IsDictOf (SD w) kf)
    (hoh : s.heap.get? hl = some oh) (hdh : oh.IsDictOf (SD w) kvs) (hof : s.heap.get? fx = some ofx) (hdf : ofx.IsDictOf (SD w) kf)
    (hp : s.heap.get? 410 = some (tabObj ps)) (hps : TabOk qT s.heap ps)
    (f0 : Off S fr src) (f1 : Off S fr nm) (f2 : Off S fr dN) (f3 : Off S fr bi) (f4 : Off S fr dv) (f5 : Off S fr df) (f6 : Off S fr hl) (f7 : Off S fr fx) (f8 : Off S fr 410) (ord : @LT.lt Nat _ 410 src ∧ @LT.lt Nat _ src bi ∧ @LT.lt Nat _ bi dN ∧ @LT.lt Nat _ dN nm ∧ @LT.lt Nat _ nm dv ∧ @LT.lt Nat _ dv df ∧ @LT.lt Nat _ df hl ∧ @LT.lt Nat _ hl fx)
    (hV : Vals s.heap kvs) (hl1 : kvs.length ≤ 900) (hl2 : kf.length ≤ 900) (hret : TurnRet w fr src dv df hl fx kvs kf s Q) :
    wpAny (model pg w) (Ap 3 fr) (PySem.call (.ref 415) [.ref src, .ref nm, .ref hl, .ref fx]) Q E s := by
  obtain ⟨hi, ⟨ha, hb, hc, ta, tb, tc, nn, hdN⟩, ob, hob, hobd⟩ := G
  have lo := dict_low H1 f4.1
  have lob := dict_low H1 f3.1
  have lod := dict_low H1 f5.1
  have loh := dict_low H1 f6.1
  have lof := dict_low H1 f7.1
  obtain ⟨o1, o2, o3, o4, o5, o6, o7, o8⟩ := ord
  have hW : ∀ p ∈ [(src, listOf #[.int x tx, .int y ty] n), (hl, oh), (fx, ofx), (410, tabObj ps), (nm, instObj 201 dN), (dN, gD bi dv df ha hb hc ta tb tc nn), (dv, o), (df, od), (bi, ob)], s.heap.get? p.1 = some p.2 :=
    List.forall_mem_cons.mpr ⟨hs, List.forall_mem_cons.mpr ⟨hoh, List.forall_mem_cons.mpr ⟨hof, List.forall_mem_cons.mpr ⟨hp, List.forall_mem_cons.mpr ⟨hi, List.forall_mem_cons.mpr ⟨hdN, List.forall_mem_cons.mpr ⟨ho, List.forall_mem_cons.mpr ⟨hod, List.forall_mem_cons.mpr ⟨hob, List.forall_mem_nil _⟩⟩⟩⟩⟩⟩⟩⟩⟩
  refine enterCT _ rfl C X T (by k_is) (by k_is) (show 460 < 1000 by decide) (BindsTo.of_eq (binds := [(Str.ofString "source", .ref src), (Str.ofString "names", .ref nm), (Str.ofString "held", .ref hl), (Str.ofString "fixed", .ref fx)]) rfl) (kindsX rfl) (by decide) hW ?_ ?_ rfl rfl rfl ?_
  · exact List.forall_mem_cons.mpr ⟨f0.1, List.forall_mem_cons.mpr ⟨f6.1, List.forall_mem_cons.mpr ⟨f7.1, List.forall_mem_cons.mpr ⟨f8.1, List.forall_mem_cons.mpr ⟨f1.1, List.forall_mem_cons.mpr ⟨f2.1, List.forall_mem_cons.mpr ⟨f4.1, List.forall_mem_cons.mpr ⟨f5.1, List.forall_mem_cons.mpr ⟨f3.1, List.forall_mem_nil _⟩⟩⟩⟩⟩⟩⟩⟩⟩
  · exact List.forall_mem_cons.mpr ⟨f0.2, List.forall_mem_cons.mpr ⟨f6.2, List.forall_mem_cons.mpr ⟨f7.2, List.forall_mem_cons.mpr ⟨f8.2, List.forall_mem_cons.mpr ⟨f1.2, List.forall_mem_cons.mpr ⟨f2.2, List.forall_mem_cons.mpr ⟨f4.2, List.forall_mem_cons.mpr ⟨f5.2, List.forall_mem_cons.mpr ⟨f3.2, List.forall_mem_nil _⟩⟩⟩⟩⟩⟩⟩⟩⟩
  intro Q₁ g L' h₁ tk cells env m₀ rq nq F N Y B Xg Tg hg sz lt fc
  have hn : ∀ p ∈ [(src, listOf #[.int x tx, .int y ty] n), (hl, oh), (fx, ofx), (410, tabObj ps), (nm, instObj 201 dN), (dN, gD bi dv df ha hb hc ta tb tc nn), (dv, o), (df, od), (bi, ob)], p.2.cls ≠ .type "tuple" :=
    List.forall_mem_cons.mpr ⟨(show Value.type "list" ≠ Value.type "tuple" from by decide), List.forall_mem_cons.mpr ⟨dict_cls hdh, List.forall_mem_cons.mpr ⟨dict_cls hdf, List.forall_mem_cons.mpr ⟨nofun, List.forall_mem_cons.mpr ⟨nofun, List.forall_mem_cons.mpr ⟨(show Value.type "dict" ≠ Value.type "tuple" from by decide), List.forall_mem_cons.mpr ⟨dict_cls hdo, List.forall_mem_cons.mpr ⟨dict_cls hdd, List.forall_mem_cons.mpr ⟨dict_cls hobd, List.forall_mem_nil _⟩⟩⟩⟩⟩⟩⟩⟩⟩
  have nL := notL F (fun p hp => N p (List.mem_append_right _ hp)) hg
  have V : VAt g L' kvs := fun k r e => by
    obtain ⟨_, d, hd, nd⟩ := hV k r e
    exact ⟨d, fun h m F => hd.keep (tup_of F hg hW hn), nd⟩
  have TA : TabAt g L' qT ps := tab_at hps hg hW (by
    refine List.forall_mem_cons.mpr ⟨nofun, List.forall_mem_cons.mpr ⟨?_, List.forall_mem_cons.mpr ⟨?_, List.forall_mem_cons.mpr ⟨?_, List.forall_mem_cons.mpr ⟨nofun, List.forall_mem_cons.mpr ⟨nofun, List.forall_mem_cons.mpr ⟨?_, List.forall_mem_cons.mpr ⟨?_, List.forall_mem_cons.mpr ⟨?_, List.forall_mem_nil _⟩⟩⟩⟩⟩⟩⟩⟩⟩
    · exact dict_nf hdh
    · exact dict_nf hdf
    · intro vs t e
      cases e
      simpa using triples_no_str hps.1 qT t
    · exact dict_nf hdo
    · exact dict_nf hdd
    · exact dict_nf hobd)
  have CD := code414 Xg
  k_cells Y
  simp only [List.cons_append, List.nil_append] at N
  have l0 : @LT.lt Nat _ fx L' := lt (fx, ofx) (by k_mem)
  clear lt
  have S0 : Dst [L' + 1 + 1 + 1, L' + 1 + 1, L' + 1, src, hl, fx, 410, nm, dN, dv, df, bi] [] := by walk_at "dst0"
  have ne : ([nm, dN, bi, dv, df] : List Nat).Nodup := by
    simp only [List.nodup_cons, List.mem_cons, List.not_mem_nil, or_false, not_or, not_false_eq_true, List.nodup_nil, and_true]
    omega
  have hFW : ∀ p ∈ [(src, listOf #[.int x tx, .int y ty] n), (hl, oh), (fx, ofx), (410, tabObj ps), (nm, instObj 201 dN), (dN, gD bi dv df ha hb hc ta tb tc nn), (dv, o), (df, od), (bi, ob)], p.1 ∉ fr.filterMap (·.frame) :=
    List.forall_mem_cons.mpr ⟨f0.2, List.forall_mem_cons.mpr ⟨f6.2, List.forall_mem_cons.mpr ⟨f7.2, List.forall_mem_cons.mpr ⟨f8.2, List.forall_mem_cons.mpr ⟨f1.2, List.forall_mem_cons.mpr ⟨f2.2, List.forall_mem_cons.mpr ⟨f4.2, List.forall_mem_cons.mpr ⟨f5.2, List.forall_mem_cons.mpr ⟨f3.2, List.forall_mem_nil _⟩⟩⟩⟩⟩⟩⟩⟩⟩
  have hAs : ∀ a ∈ [src, dv, df, hl, fx, 410], ∀ o, s.heap.get? a = some o → ∀ vs t, o.data = .fields vs → vs[1]? ≠ some (.str qT t) := by
    refine List.forall_mem_cons.mpr ⟨?_, List.forall_mem_cons.mpr ⟨?_, List.forall_mem_cons.mpr ⟨?_, List.forall_mem_cons.mpr ⟨?_, List.forall_mem_cons.mpr ⟨?_, List.forall_mem_cons.mpr ⟨?_, List.forall_mem_nil _⟩⟩⟩⟩⟩⟩
    · intro o' e vs t q; rw [hs] at e; cases e; cases q
    · intro o' e; rw [ho] at e; cases e; exact dict_nf hdo
    · intro o' e; rw [hod] at e; cases e; exact dict_nf hdd
    · intro o' e; rw [hoh] at e; cases e; exact dict_nf hdh
    · intro o' e; rw [hof] at e; cases e; exact dict_nf hdf
    · intro o' e vs t q; rw [hp] at e; cases e; cases q; simpa using triples_no_str hps.1 qT t
  k_steps
  · show wpAny _ _ _ _ _ _
    rename Fr _ _ _ _ => Fx
    rename News _ _ _ _ => Nx
    rename Nice (PyData.tuple _) => hn
    (try dsimp only)
    refine cutHeld (kvs := kvs) Fx Nx (by assumption) hn ?_ ?_
    · intro Q₂ hq
      refine wpAny_isTrue_Compare1 ?_
      k_steps
      all_goals
        (rename Fr _ _ _ _ => Fy
         rename News _ _ _ _ => Ny
         refine hq _ _ _ ⟨_, ?nD, ?hD, by assumption⟩ Fy (fun p hp => Ny p (by repeat' (first | exact hp | refine List.Mem.tail _ ?_)))
         case hD => first | exact fun _ _ F => heldD_some (by assumption) (TVAt.at (by assumption) F) | exact fun _ _ _ => heldD_two (by assumption) (by assumption) | exact fun _ _ _ => heldD_none (by assumption) (by assumption)
         case nD => first | assumption | exact nice_two (by decide +kernel) (by assumption) | exact nice_none)
    · intro b D h' tk' nD HA hin F' N'
      clear Fx Nx
      cases b
      · k_steps
        all_goals
          (rename Fr _ _ _ _ => Fx
           rename News _ _ _ _ => Nx
           show wpAny _ _ _ _ _ _
           refine' ref_no_K (as := []) rfl rfl (Nat.le_of_ble_eq_true rfl) (Nat.le_of_ble_eq_true rfl) B Fx Nx rfl rfl X T ?mf (work_def_no (lamAt_K Nx ?mf ?rcd ?bnd ?cel ?co ?ge ?ki ?run) X H0 H1 T (fun p hp => off B Nx (b := p.1) (o := p.2) hp rfl) ⟨⟨Nx.get ?m1, ⟨_, _, _, _, _, _, _, Nx.get ?m2⟩, ⟨_, Nx.get ?m3, hobd⟩⟩, Nx.get ?m4, hdo, Nx.get ?m5, hdd, off B Nx ?m1 rfl, off B Nx ?m2 rfl, off B Nx ?m3 rfl, off B Nx ?m4 rfl, off B Nx ?m5 rfl, ne, by omega, by omega⟩ ?hD ?nD ?hv ?nd (by assumption) ?eo ?hz) (List.forall_mem_nil _) ?dd ?_
           case mf => k_mem
           case rcd => assumption
           case bnd => exact rfl
           case cel => decide
           case co => exact rfl
           case ge => exact rfl
           case ki => exact rfl
           case m1 => k_mem
           case m2 => k_mem
           case m3 => k_mem
           case m4 => k_mem
           case m5 => k_mem
           case run =>
             intro A' L₂ g₂ m₂ s₂ Q₂ E₂ F₂ N₂ X₂ T₂ hc
             k_steps
             exact hc _
           case hD => exact HA _ _ Fx
           case nD => assumption
           case hv => exact tv_of Nx (by k_mem) (by assumption) (by assumption) (by assumption)
           case nd => assumption
           case eo => assumption
           case hz => assumption
           case dd => assumption
           intro S₁ h' t' tk' F' NN' _ key' kp' up'
           have N' := NN' _ (fun p hp => ⟨hp, List.not_mem_nil⟩)
           clear NN'
           (try dsimp only)
           k_steps
           all_goals first
             | (exfalso; omega)
             | (dsimp only
                (try rw [beq_self_eq_true])
                rename Fr _ _ _ _ => Fz
                rename News _ _ _ _ => Nz
                have R := rel_no (as := [src, dv, df, hl, fx, 410]) B Fx Nx hg hW hFW sz (by repeat' (first | exact List.forall_mem_nil _ | refine List.forall_mem_cons.mpr ⟨?_, ?_⟩ | exact .inl (by k_mem) | exact .inr (by k_mem))) rfl kp' up' Fz Nz (by repeat' (first | exact List.forall_mem_nil _ | refine List.forall_mem_cons.mpr ⟨?_, ?_⟩ | exact .inl (by k_mem) | exact .inr (by k_mem))) nL
                have TR := tab_rel hps C R hAs
                refine' hret _ _ _ _ _ _ _ _ _ _ _ _ _ _ R ?a1 ?a2 ?a3 (Nz.get ?s1) (Nz.get ?s2) ?d1 (Nz.get ?s3) ?d2 (Nz.get ?s4) ?d3 (Nz.get ?s5) ?d4 (Nz.get ?s6) ?tb ?ch
                case s1 => k_mem
                case s2 => k_mem
                case s3 => k_mem
                case s4 => k_mem
                case s5 => k_mem
                case s6 => k_mem
                case a1 => assumption
                case a2 => assumption
                case a3 => assumption
                case d1 => assumption
                case d2 => assumption
                case d3 => assumption
                case d4 => assumption
                case tb => first | with_reducible exact TR | exact tabGo (by assumption) TR (codeRec_news Nz (by k_mem) (by assumption) (by assumption))
                case ch => exact .inl ⟨rfl, rfl⟩))
      · k_steps
        all_goals
          (rename Fr _ _ _ _ => Fx
           rename News _ _ _ _ => Nx
           show wpAny _ _ _ _ _ _
           refine' def_ok_K rfl rfl (Nat.le_of_ble_eq_true rfl) (Nat.le_of_ble_eq_true rfl) B Fx Nx rfl rfl X T ?mf (work_def_ok (lamAt_K Nx ?mf ?rcd ?bnd ?cel ?co ?ge ?ki ?run) X H1 T (fun p hp => off B Nx (b := p.1) (o := p.2) hp rfl) ⟨⟨Nx.get ?m1, ⟨_, _, _, _, _, _, _, Nx.get ?m2⟩, ⟨_, Nx.get ?m3, hobd⟩⟩, Nx.get ?m4, hdo, Nx.get ?m5, hdd, off B Nx ?m1 rfl, off B Nx ?m2 rfl, off B Nx ?m3 rfl, off B Nx ?m4 rfl, off B Nx ?m5 rfl, ne, by omega, by omega⟩ ?hD ?nD ?hv ?nd (by assumption)) ?U1 ?U2 ?m5 ?_
           case mf => k_mem
           case rcd => assumption
           case bnd => exact rfl
           case cel => decide
           case co => exact rfl
           case ge => exact rfl
           case ki => exact rfl
           case m1 => k_mem
           case m2 => k_mem
           case m3 => k_mem
           case m4 => k_mem
           case m5 => k_mem
           case run =>
             intro A' L₂ g₂ m₂ s₂ Q₂ E₂ F₂ N₂ X₂ T₂ hc
             k_steps
             exact hc _
           case hD => exact HA _ _ Fx
           case nD => assumption
           case hv => exact tv_of Nx (by k_mem) (by assumption) (by assumption) (by assumption)
           case nd => assumption
           case U1 => k_updF
           case U2 => (intro o'; k_updF)
           intro o' od' h' tk' F' N' hd1' hd2'
           (try dsimp only at N')
           (try dsimp only)
           k_steps
           all_goals first
             | (exfalso; omega)
             | (dsimp only
                (try rw [beq_self_eq_true])
                rename Fr _ _ _ _ => Fz
                rename News _ _ _ _ => Nz
                have R := rel_ok (as := [src, dv, df, hl, fx, 410]) B Fz Nz hg hW hFW (by repeat' (first | exact List.forall_mem_nil _ | refine List.forall_mem_cons.mpr ⟨?_, ?_⟩ | exact .inl (by k_mem) | exact .inr (by k_mem)))
                have TR := tab_rel hps C R hAs
                refine' hret _ _ _ _ _ _ _ _ _ _ _ _ _ _ R ?a1 ?a2 ?a3 (Nz.get ?s1) (Nz.get ?s2) ?d1 (Nz.get ?s3) ?d2 (Nz.get ?s4) ?d3 (Nz.get ?s5) ?d4 (Nz.get ?s6) ?tb ?ch
                case s1 => k_mem
                case s2 => k_mem
                case s3 => k_mem
                case s4 => k_mem
                case s5 => k_mem
                case s6 => k_mem
                case a1 => assumption
                case a2 => assumption
                case a3 => assumption
                case d1 => assumption
                case d2 => assumption
                case d3 => assumption
                case d4 => assumption
                case tb => first | with_reducible exact TR | exact tabGo (by assumption) TR (codeRec_news Nz (by k_mem) (by assumption) (by assumption))
                case ch => exact .inr ⟨_, _, _, tv_of Nz (by k_mem) (by assumption) (by assumption) (by assumption), (by assumption), nofun, rfl, .inr rfl⟩))
  · show wpAny _ _ _ _ _ _
    rename Fr _ _ _ _ => Fx
    rename News _ _ _ _ => Nx
    (try dsimp only)
    refine cutFix (kf := kf) Fx Nx (by assumption) ?_ ?_ ?_
    · intro Q₂ hq
      refine isTrue_or ?_
      k_steps
      all_goals
        (rename Fr _ _ _ _ => Fy
         rename News _ _ _ _ => Ny
         refine hq _ _ _ ?c Fy (fun p hp => Ny p (by repeat' (first | exact hp | refine List.Mem.tail _ ?_)))
         case c => first | exact .inl ⟨rfl, .inl ⟨_, by assumption⟩⟩ | exact .inl ⟨by assumption, .inr ⟨by assumption, by assumption⟩⟩ | exact .inl ⟨rfl, .inr ⟨by assumption, by assumption⟩⟩ | exact .inr ⟨rfl, by assumption, by assumption⟩)
    · intro h' tk' hcs F' N'
      clear Fx Nx
      · k_steps
        all_goals
          (rename Fr _ _ _ _ => Fx
           rename News _ _ _ _ => Nx
           show wpAny _ _ _ _ _ _
           refine' ref_no_K (as := []) rfl rfl (Nat.le_of_ble_eq_true rfl) (Nat.le_of_ble_eq_true rfl) B Fx Nx rfl rfl X T ?mf (work_asg_no (lamAt_K Nx ?mf ?rcd ?bnd ?cel ?co ?ge ?ki ?run) X H0 H1 T (fun p hp => off B Nx (b := p.1) (o := p.2) hp rfl) ⟨⟨Nx.get ?m1, ⟨_, _, _, _, _, _, _, Nx.get ?m2⟩, ⟨_, Nx.get ?m3, hobd⟩⟩, Nx.get ?m4, hdo, Nx.get ?m5, hdd, off B Nx ?m1 rfl, off B Nx ?m2 rfl, off B Nx ?m3 rfl, off B Nx ?m4 rfl, off B Nx ?m5 rfl, ne, by omega, by omega⟩ ?hcs ?eo ?hz) (List.forall_mem_nil _) ?dd ?_
           case mf => k_mem
           case rcd => assumption
           case bnd => exact rfl
           case cel => decide
           case co => exact rfl
           case ge => exact rfl
           case ki => exact rfl
           case m1 => k_mem
           case m2 => k_mem
           case m3 => k_mem
           case m4 => k_mem
           case m5 => k_mem
           case run =>
             intro A' L₂ g₂ m₂ s₂ Q₂ E₂ F₂ N₂ X₂ T₂ hc
             k_steps
             exact hc _
           case eo => assumption
           case hz => assumption
           case dd => assumption
           case hcs => assumption
           intro S₁ h' t' tk' F' NN' _ key' kp' up'
           have N' := NN' _ (fun p hp => ⟨hp, List.not_mem_nil⟩)
           clear NN'
           (try dsimp only)
           k_steps
           all_goals first
             | (exfalso; omega)
             | (dsimp only
                (try rw [beq_self_eq_true])
                rename Fr _ _ _ _ => Fz
                rename News _ _ _ _ => Nz
                have R := rel_no (as := [src, dv, df, hl, fx, 410]) B Fx Nx hg hW hFW sz (by repeat' (first | exact List.forall_mem_nil _ | refine List.forall_mem_cons.mpr ⟨?_, ?_⟩ | exact .inl (by k_mem) | exact .inr (by k_mem))) rfl kp' up' Fz Nz (by repeat' (first | exact List.forall_mem_nil _ | refine List.forall_mem_cons.mpr ⟨?_, ?_⟩ | exact .inl (by k_mem) | exact .inr (by k_mem))) nL
                have TR := tab_rel hps C R hAs
                refine' hret _ _ _ _ _ _ _ _ _ _ _ _ _ _ R ?a1 ?a2 ?a3 (Nz.get ?s1) (Nz.get ?s2) ?d1 (Nz.get ?s3) ?d2 (Nz.get ?s4) ?d3 (Nz.get ?s5) ?d4 (Nz.get ?s6) ?tb ?ch
                case s1 => k_mem
                case s2 => k_mem
                case s3 => k_mem
                case s4 => k_mem
                case s5 => k_mem
                case s6 => k_mem
                case a1 => assumption
                case a2 => assumption
                case a3 => assumption
                case d1 => assumption
                case d2 => assumption
                case d3 => assumption
                case d4 => assumption
                case tb => first | with_reducible exact TR | exact tabGo (by assumption) TR (codeRec_news Nz (by k_mem) (by assumption) (by assumption))
                case ch => exact .inl ⟨rfl, rfl⟩))
    · intro h' tk' e1 e2 F' N'
      clear Fx Nx
      · k_steps
        all_goals
          (rename Fr _ _ _ _ => Fx
           rename News _ _ _ _ => Nx
           show wpAny _ _ _ _ _ _
           refine' asg_ok_K rfl rfl (Nat.le_of_ble_eq_true rfl) (Nat.le_of_ble_eq_true rfl) B Fx Nx rfl rfl X T ?mf (work_asg_ok (lamAt_K Nx ?mf ?rcd ?bnd ?cel ?co ?ge ?ki ?run) X H1 T (fun p hp => off B Nx (b := p.1) (o := p.2) hp rfl) ⟨⟨Nx.get ?m1, ⟨_, _, _, _, _, _, _, Nx.get ?m2⟩, ⟨_, Nx.get ?m3, hobd⟩⟩, Nx.get ?m4, hdo, Nx.get ?m5, hdd, off B Nx ?m1 rfl, off B Nx ?m2 rfl, off B Nx ?m3 rfl, off B Nx ?m4 rfl, off B Nx ?m5 rfl, ne, by omega, by omega⟩ (by assumption) (by assumption)) ?U1 ?_
           case mf => k_mem
           case rcd => assumption
           case bnd => exact rfl
           case cel => decide
           case co => exact rfl
           case ge => exact rfl
           case ki => exact rfl
           case m1 => k_mem
           case m2 => k_mem
           case m3 => k_mem
           case m4 => k_mem
           case m5 => k_mem
           case run =>
             intro A' L₂ g₂ m₂ s₂ Q₂ E₂ F₂ N₂ X₂ T₂ hc
             k_steps
             exact hc _
           case U1 => k_updF
           intro o' h' tk' F' N' hd1'
           (try dsimp only at N')
           (try dsimp only)
           k_steps
           all_goals first
             | (exfalso; omega)
             | (dsimp only
                (try rw [beq_self_eq_true])
                rename Fr _ _ _ _ => Fz
                rename News _ _ _ _ => Nz
                have R := rel_ok (as := [src, dv, df, hl, fx, 410]) B Fz Nz hg hW hFW (by repeat' (first | exact List.forall_mem_nil _ | refine List.forall_mem_cons.mpr ⟨?_, ?_⟩ | exact .inl (by k_mem) | exact .inr (by k_mem)))
                have TR := tab_rel hps C R hAs
                refine' hret _ _ _ _ _ _ _ _ _ _ _ _ _ _ R ?a1 ?a2 ?a3 (Nz.get ?s1) (Nz.get ?s2) ?d1 (Nz.get ?s3) ?d2 (Nz.get ?s4) ?d3 (Nz.get ?s5) ?d4 (Nz.get ?s6) ?tb ?ch
                case s1 => k_mem
                case s2 => k_mem
                case s3 => k_mem
                case s4 => k_mem
                case s5 => k_mem
                case s6 => k_mem
                case a1 => assumption
                case a2 => assumption
                case a3 => assumption
                case d1 => assumption
                case d2 => assumption
                case d3 => assumption
                case d4 => assumption
                case tb => first | with_reducible exact TR | exact tabGo (by assumption) TR (codeRec_news Nz (by k_mem) (by assumption) (by assumption))
                case ch => exact .inr ⟨_, _, _, tv_of Nz (by k_mem) (by assumption) (by assumption) (by assumption), (by assumption), nofun, rfl, .inl rfl⟩))
end

end
section
theorem kwo_Lw : True := by
  k_with_none
  w_top off
  k_with "execs cons Assign cons" => (with_reducible refine seqN ?_); intro Qk1 nk1
  k_with "execs cons AugAssign cons" => (with_reducible refine seqN ?_); intro Qk1 nk1
  k_with "execs cons Expr cons" => (with_reducible refine seqN ?_); intro Qk1 nk1
  k_with "execs cons If cons" => (with_reducible refine seqQ ?_); intro Qk1 nk1 rk1
  k_with "execs cons For cons" => (with_reducible refine seqQ ?_); intro Qk1 nk1 rk1
  k_with "execs cons" => (with_reducible refine seq1 ?_)
  k_with "eval Constant int" => (with_reducible refine cInt ?_); intro tq1 kq1
  k_with "eval Constant str" => (with_reducible refine cStr ?_); intro tq1 kq1
  k_with "eval Name" => (k_here; k_dflt (refine' nameL ?Fn1 ?bn1 ?vn1 ?_; (case bn1 => decide +kernel); (case Fn1 => with_reducible assumption); (case vn1 => exact rfl); k_whole))
  exact trivial
theorem fillit48 (P : Params) : hd.heap_1 P = hd.heap_1 P ∧ PySem.Challenge.rw_pq0711_01 = PySem.Challenge.rw_pq0711_01 := by
  k_fill
  exact ⟨rfl, rfl⟩
section
variable {w : World} {fr : List Env} {A A₀ : Around} {S g : Heap} {L : Addr} {m : Str → Option Value} {env : Env} {p : Program} {loose : List Str} {mean : ExcName → Option Value} {mg mb : Str → Option Value} {s : Shared} {Q E : Value → Shared → Prop} {W : List (Addr × Obj)} {gf : Obj → List (Addr × Obj)}
theorem source_K {sc : Addr} {vs : List Value} {ns : List Int} {z1 z2 : Addr} {o1 o2 : Obj} (hA : A.handled = none) (hfr : A.frames = some (env :: fr)) (hdp : A.depth ≤ 420) (hu : A.units ≤ 1300) (B : Below A₀ S fr g) (F : Fr g L s.heap m) (N : News g L s.heap W) (hf : env.frame = some L) (hk : env.scope.kind = .function)
    (X : (hd.heap_1 w.params).In S) (T : Top p loose mean mg mb S) (hs : S.IsList sc vs.toArray) (hi : IntsAre vs ns) (hn : ns.length ≤ 63) (m1 : (z1, o1) ∈ W) (m2 : (z2, o2) ∈ W)
    (hret : ∀ l x y tx ty n h' tk', 0 ≤ x → 0 ≤ y → y < 4294967296 → Fr g L h' m → News g L h' ((l, listOf #[.int x tx, .int y ty] n) :: W) → @LT.lt Nat _ z1 l ∧ @LT.lt Nat _ z2 l → Q (.ref l) { s with heap := h', toks := tk' }) :
    wpAny (model pg w) A (PySem.call (.ref 373) [.ref sc]) Q E s := by
  refine wpAny_up (A' := Ap 1 (env :: fr)) (source_spec (site B F hf hk) X T hs hi hn (N.get m1) (N.get m2) (off B N m1 hf) (off B N m2 hf) ?_) hA hdp (fun l e => by cases e; exact hfr) rfl hu
  intro l x y tx ty n h' tk' hx hy hy2 e st hn lt
  exact hret l x y tx ty n h' tk' hx hy hy2 (F.keeps st) (adds F N (fun p hp => ⟨st _ _ (N p hp).1, (N p hp).2⟩) l _ e hn).1 lt
theorem glb_K {z : Addr} {oz : Obj} (hA : A.handled = none) (hfr : A.frames = some (env :: fr)) (hdp : A.depth ≤ 420) (hu : A.units ≤ 1300) (B : Below A₀ S fr g) (F : Fr g L s.heap m) (N : News g L s.heap W) (hf : env.frame = some L) (hk : env.scope.kind = .function)
    (X : (hd.heap_1 w.params).In S) (H0 : S.get? 0 = some (boot_o_0 w.params)) (H1 : S.get? 1 = some (boot_o_1 w.params)) (T : Top p loose mean mg mb S) (mz : (z, oz) ∈ W) (hz : oz.cls ≠ .type "tuple") (hz2 : oz.cls ≠ .type "dict")
    (hret : ∀ nm dN bi dv df ob odv odf kvs ks ha hb hc ta tb tc nn tl h' tk', ob.IsDictOf (SD w) kB → odv.IsDictOf (SD w) kvs → odf.IsDictOf (SD w) (merged [] ks) → ks.map (·.1) = kvs.map (·.1) → (∀ p ∈ ks, p.2 = .bool true) → Tups tl → VG g tl kvs → KP kvs tl g →
      (∃ r, valueAt kvs (Str.ofString "Int") = some r ∧ valueAt kvs (Str.ofString "Int64") = some r) → (∃ r, valueAt kvs (Str.ofString "Tuple") = some r) → kvs.length ≤ 20 → Fr g L h' m →
      News g L h' ((df, odf) :: (dv, odv) :: (nm, instObj 201 dN) :: (dN, gD bi dv df ha hb hc ta tb tc nn) :: (bi, ob) :: (W ++ tl)) → (@LT.lt Nat _ z bi ∧ @LT.lt Nat _ bi dN ∧ @LT.lt Nat _ dN nm ∧ @LT.lt Nat _ nm dv ∧ @LT.lt Nat _ dv df) → Q (.ref nm) { s with heap := h', toks := tk' }) :
    wpAny (model pg w) A (PySem.call (.ref 387) []) Q E s := by
  refine wpAny_up (A' := Ap 1 (env :: fr)) (globals_spec (site B F hf hk) X H0 H1 T (N.get mz) hz hz2 (off B N mz hf) ?_) hA hdp (fun l e => by cases e; exact hfr) rfl hu
  intro nm dN bi dv df odv odf kvs ks h' tk' G e3 e4 e5 e6 ek1 ek2 V ⟨r, p1, p2⟩ hI hT hl st ⟨n1, n2, n3, n4, n5⟩ ord
  have F' := F.keeps st
  have N' : News g L h' W := fun p hp => ⟨st _ _ (N p hp).1, (N p hp).2⟩
  have ad := adds F N N'
  obtain ⟨hi, ⟨ha, hb, hc, ta, tb, tc, nn, hdN⟩, ob, hob, hobd⟩ := G
  obtain ⟨T1, t1, t2, t3⟩ := vals_tail V F'
  obtain ⟨T2, s1, s2, s3⟩ := tv_tail F' p2
  refine hret nm dN bi dv df ob odv odf kvs ks ha hb hc ta tb tc nn (T1 ++ T2) h' tk' hobd e4 e6 ek1 ek2 (t1.app s1) (t3.mono fun p hp => List.mem_append_left _ hp) ⟨r, p1, s3.mono fun p hp => List.mem_append_right _ hp⟩ hI hT hl F' ?_ ord
  refine List.forall_mem_cons.mpr ⟨(ad df _ e5 n5).1 _ (.head _), List.forall_mem_cons.mpr ⟨(ad dv _ e3 n4).1 _ (.head _), List.forall_mem_cons.mpr ⟨(ad nm _ hi n1).1 _ (.head _), List.forall_mem_cons.mpr ⟨(ad dN _ hdN n2).1 _ (.head _), List.forall_mem_cons.mpr ⟨(ad bi _ hob n3).1 _ (.head _), ?_⟩⟩⟩⟩⟩
  exact News.app N' (News.app t2 s2)
/-! dict(..) of a dict -/
theorem dcopy_K {d : Addr} {od : Obj} {kvs : List (Str × Value)} (F : Fr g L s.heap m) (N : News g L s.heap W) (hm : (d, od) ∈ W) (hd : od.IsDictOf (SD w) kvs) (lo : (d == sysModules) = false) (hz : kvs.length ≤ sizeLine)
    (hret : ∀ c oc h', oc.IsDictOf (SD w) kvs → Fr g L h' m → News g L h' ((c, oc) :: W) → (∀ p ∈ W, p.1 < c) → Q (.ref c) { s with heap := h' }) :
    wpAny (model pg w) A (PySem.call (.type "dict") [.ref d]) Q E s := by
  refine kt_call_dict lo (kda_dict N hm hd) hz fun h' hd' sb => ?_
  obtain ⟨oc, e, hoc⟩ := Heap.dictOf_iff.mp hd'
  have st : s.heap.StaysIn h' := fun b o q => sb.extBut b o (Nat.ne_of_lt (Heap.lt_size q)) (Heap.get?_push_of_some _ q)
  have N' : News g L h' W := fun p hp => ⟨st _ _ (N p hp).1, (N p hp).2⟩
  refine hret _ oc h' hoc (F.keeps st) ?_ fun p hp => Heap.lt_size (N p hp).1
  refine List.forall_mem_cons.mpr ⟨(adds F N N' _ _ e ?_).1 _ (.head _), N'⟩
  cases q : s.heap.get? s.heap.objs.size with
  | none => rfl
  | some o => exact absurd (Heap.lt_size q) (Nat.lt_irrefl _)
end

end
section
theorem kwo_Lop : True := by
  k_with_none
  w_top off
  k_with "execs cons Assign cons" => (with_reducible refine seqN ?_); intro Qk1 nk1
  k_with "execs cons AugAssign cons" => (with_reducible refine seqN ?_); intro Qk1 nk1
  k_with "execs cons Expr cons" => (with_reducible refine seqN ?_); intro Qk1 nk1
  k_with "execs cons If cons" => (with_reducible refine seqQ ?_); intro Qk1 nk1 rk1
  k_with "execs cons For cons" => (with_reducible refine seqQ ?_); intro Qk1 nk1 rk1
  k_with "execs cons" => (with_reducible refine seq1 ?_)
  k_with "eval Constant int" => (with_reducible refine cInt ?_); intro tq1 kq1
  k_with "eval Constant str" => (with_reducible refine cStr ?_); intro tq1 kq1
  k_with "eval Name" => (k_here; k_dflt (refine' nameL ?Fn1 ?bn1 ?vn1 ?_; (case bn1 => decide +kernel); (case Fn1 => with_reducible assumption); (case vn1 => exact rfl); k_whole))
  exact trivial
section
variable {prog : Program} {w : World} {A : Around} {E : Value → Shared → Prop} {s : Shared} {env : Env} {h₀ : Heap} {x : Str} {body : List Stmt} {Q : Flow → Shared → Prop}
theorem riter_ne : Value.type "range_iterator" ≠ Value.type "tuple" := by decide
/-! a loop over a range, by an invariant over the ledger -/
def TurnEndJ (h₀ : Heap) (L : Addr) (x : Str) (stored : List Str) (m₀ : Str → Option Value) (J : List (Addr × Obj) → Prop) (I : Addr) (oI : Obj) (s₁ s₂ : Shared) : Prop :=
  ∃ h' tk m' news', s₂ = { s₁ with heap := h', toks := tk } ∧ Fr h₀ L h' m' ∧ News h₀ L h' ((I, oI) :: news') ∧ (∀ p ∈ news', p.1 ≠ I) ∧ J news' ∧ ∀ y, y ≠ x → stored.contains y = false → m' y = m₀ y
def TurnJ (h₀ : Heap) (L : Addr) (x : Str) (stored : List Str) (m₀ : Str → Option Value) (J : List (Addr × Obj) → Prop) (I : Addr) (oI : Obj) (s₁ : Shared) (Q : Flow → Shared → Prop) (f : Flow) (s₂ : Shared) : Prop :=
  match f with
  | .ret v => Q (.ret v) s₂
  | .brk => Q .next s₂
  | _ => TurnEndJ h₀ L x stored m₀ J I oI s₁ s₂
theorem iter_rangeJ {r : Addr} {a₀ b₀ : Int} {t₀ u₀ v₀ : Tok} {n : Nat} {m₀ : Str → Option Value} {news : List (Addr × Obj)} (stored : List Str) (J : Nat → List (Addr × Obj) → Prop)
    (hh : A.handled = none) (hr : IsRange s.heap r a₀ b₀ 1 t₀ u₀ v₀) (hsmall : Builtin.Range.small a₀ b₀ 1 = true) (hn : Builtin.Range.rangeSize a₀ b₀ 1 = (n : Int)) (F : Fr h₀ env.locals s.heap m₀) (N : News h₀ env.locals s.heap news) (hJ : J 0 news)
    (turn : ∀ i k t (u : Str → Option Value) h tk I oI news₁, i < n → J i news₁ → (oI.cls ≠ .type "tuple" ∧ ∀ vs q t, oI.data = .fields vs → vs[1]? ≠ some (.str q t)) → (∀ p ∈ news₁, p.1 ≠ I) → Fr h₀ env.locals h (fun y => if y = x then some (.int k t) else if stored.contains y then u y else m₀ y) → News h₀ env.locals h ((I, oI) :: news₁) →
      wpAny (model prog w) A (execs body env) (TurnJ h₀ env.locals x stored m₀ (J (i + 1)) I oI { s with heap := h, toks := tk } Q) E { s with heap := h, toks := tk })
    (done : ∀ (u : Str → Option Value) h tk news', J n news' → Fr h₀ env.locals h (fun y => if y = x then u y else if stored.contains y then u y else m₀ y) → News h₀ env.locals h news' → Q .next { s with heap := h, toks := tk }) :
    wpAny (model prog w) A (pyIter (.ref r)) (fun it s₂ => LoopAtV prog w A h₀ env x body Q E it s₂) E s := by
  refine wpAny_pyIter_range hr hsmall ?_
  have W : Walks prog w A s.heap.objs.size [s.heap.objs.size] [s.heap.objs.size] n (fun i v => i < n ∧ ∃ t, v = .int (a₀ + i * 1) t)
      (fun i h => IsRangeIter h s.heap.objs.size (a₀ + (i : Nat) * 1) ((n : Int) - (i : Nat)) 1) := (Walks.range hh _ a₀ 1 n).bound
  refine ⟨_, _, _, n, _, _, m₀, news, fun i m₁ news₁ => J i news₁ ∧ ∀ y, y ≠ x → stored.contains y = false → m₁ y = m₀ y, rfl, W, ?_, ?_, ?_, (by show IsRangeIter _ _ _ _ _; rw [hn]; simpa using Heap.get?_push_size _ rfl), F.push _, (fun p hp => ⟨Heap.get?_push_of_some _ (N p hp).1, (N p hp).2⟩), ⟨hJ, fun _ _ _ => rfl⟩, ?_, ?_⟩
  · intro hm
    exact absurd F.ns.lt ((List.mem_singleton.mp hm) ▸ Nat.lt_irrefl _)
  · intro b hb
    rw [List.mem_singleton.mp hb]
    exact next_is_new F
  · intro p hp hI
    exact absurd (Heap.lt_size (N p hp).1) ((List.mem_singleton.mp hI) ▸ Nat.lt_irrefl _)
  · rintro i v m₁ news₁ s₁ own ⟨hh', tk', rfl⟩ hin hP ⟨hJ₁, hm₁⟩ hoff hown hown2 hfp hst F₁ N₁
    obtain ⟨_, t, rfl⟩ := hP
    obtain ⟨oI, hI, hIq⟩ : ∃ oI, hh'.get? s.heap.objs.size = some oI ∧ (oI.cls ≠ .type "tuple" ∧ ∀ vs q t, oI.data = .fields vs → vs[1]? ≠ some (.str q t)) := ⟨_, hst, riter_ne, fun vs q t e => by cases e; simp [rawInt]⟩
    have hmem := hfp s.heap.objs.size (.head _) (next_is_new F) _ hI
    have N₂ : News h₀ env.locals hh' ((s.heap.objs.size, oI) :: news₁) := fun p hp => by
      rcases List.mem_cons.mp hp with rfl | hp
      · exact N₁ _ (List.mem_append_left _ hmem)
      · exact N₁ p (List.mem_append_right _ hp)
    have e : (fun y => if y = x then some (Value.int (a₀ + i * 1) t) else m₁ y) = fun y => if y = x then some (Value.int (a₀ + i * 1) t) else if stored.contains y then m₁ y else m₀ y := by
      funext y
      by_cases h1 : y = x
      · simp [h1]
      · simp only [if_neg h1]
        cases h2 : stored.contains y with
        | true => simp
        | false => simp only [Bool.false_eq_true, if_false]; exact hm₁ y h1 h2
    rw [e] at F₁
    refine wpAny_mono (turn i _ t m₁ hh' tk' _ oI news₁ hin hJ₁ hIq (fun p hp q => hoff p hp (by rw [q]; exact .head _)) F₁ N₂) (fun f s₂ p => ?_) fun _ _ e => e
    have fin : TurnEndJ h₀ env.locals x stored m₀ (J (i + 1)) s.heap.objs.size oI { s with heap := hh', toks := tk' } s₂ → LoopStepU h₀ env.locals [s.heap.objs.size] own (fun m₁ news₁ => J (i + 1) news₁ ∧ ∀ y, y ≠ x → stored.contains y = false → m₁ y = m₀ y) { s with heap := hh', toks := tk' } .next s₂ := by
      rintro ⟨h', tk, m', news', e, F', N', hc, hj, hm⟩
      refine ⟨rfl, h', tk, m', news', e, F', fun p hp => ?_, fun p hp q => ?_, hj, hm⟩
      · rcases List.mem_append.mp hp with hp | hp
        · have h3 := N₁ p (List.mem_append_left _ hp)
          have h4 : p.1 = s.heap.objs.size := List.mem_singleton.mp (hown p hp)
          have h5 := h3.1
          rw [h4, hI] at h5
          have h6 := N' _ (.head _)
          refine ⟨?_, h3.2⟩
          rw [h4, h6.1]
          exact congrArg some (Option.some.inj h5)
        · exact N' p (.tail _ hp)
      · exact hc p hp (List.mem_singleton.mp q)
    cases f with
    | ret v => exact p
    | brk => exact p
    | next => exact fin p
    | cont => exact fin p
  · rintro h' tk m' news' F' N' _ ⟨hj, hm⟩
    refine done m' h' tk news' hj ?_ N'
    have e : (fun y => if y = x then m' y else if stored.contains y then m' y else m₀ y) = m' := by
      funext y
      by_cases h1 : y = x
      · simp [h1]
      · simp only [if_neg h1]
        cases h2 : stored.contains y with
        | true => simp
        | false => simp only [Bool.false_eq_true, if_false]; exact (hm y h1 h2).symm
    rw [e]; exact F'
end

end
section
theorem kwo_Lst : True := by
  k_with_none
  w_top off
  k_with "execs cons Assign cons" => (with_reducible refine seqN ?_); intro Qk1 nk1
  k_with "execs cons AugAssign cons" => (with_reducible refine seqN ?_); intro Qk1 nk1
  k_with "execs cons Expr cons" => (with_reducible refine seqN ?_); intro Qk1 nk1
  k_with "execs cons If cons" => (with_reducible refine seqQ ?_); intro Qk1 nk1 rk1
  k_with "execs cons For cons" => (with_reducible refine seqQ ?_); intro Qk1 nk1 rk1
  k_with "execs cons" => (with_reducible refine seq1 ?_)
  k_with "eval Constant int" => (with_reducible refine cInt ?_); intro tq1 kq1
  k_with "eval Constant str" => (with_reducible refine cStr ?_); intro tq1 kq1
  k_with "eval Name" => (k_here; k_dflt (refine' nameL ?Fn1 ?bn1 ?vn1 ?_; (case bn1 => decide +kernel); (case Fn1 => with_reducible assumption); (case vn1 => exact rfl); k_whole))
  exact trivial
/-! the law's state, told over the ledger -/
structure LA where
  (src nm dN bi dv df hh fx pr dP tL tt to : Addr)
structure Ord (c : LA) : Prop where
  a : @LT.lt Nat _ 410 c.src ∧ @LT.lt Nat _ 417 c.src ∧ @LT.lt Nat _ c.src c.bi ∧ @LT.lt Nat _ c.bi c.dN ∧ @LT.lt Nat _ c.dN c.nm ∧ @LT.lt Nat _ c.nm c.dv ∧ @LT.lt Nat _ c.dv c.df ∧ @LT.lt Nat _ c.df c.dP ∧ @LT.lt Nat _ c.dP c.pr ∧ @LT.lt Nat _ c.pr c.tL ∧ @LT.lt Nat _ c.tL c.tt ∧ @LT.lt Nat _ c.tt c.to ∧ @LT.lt Nat _ c.to c.hh ∧ @LT.lt Nat _ c.hh c.fx
def TabG (q : Str) (g : Heap) (R : List (Addr × Obj)) (ps : Array Value) : Prop := ∀ h : Heap, (∀ b o, g.get? b = some o → h.get? b = some o) → (∀ p ∈ R, h.get? p.1 = some p.2) → TabOk q h ps
theorem TabG.mono {q : Str} {g : Heap} {R R' : List (Addr × Obj)} {ps : Array Value} (H : TabG q g R ps) (s : ∀ p ∈ R, p ∈ R') : TabG q g R' ps := fun h k t => H h k fun p hp => t p (s p hp)
/-! what no deed of the law changes -/
def Quiet (o : Obj) : Prop := o.cls = .type "tuple" ∨ ∃ q vs t, o.data = .fields vs ∧ vs[1]? = some (.str q t)
def QT (T : List (Addr × Obj)) : Prop := ∀ p ∈ T, Quiet p.2
theorem QT.app {T T' : List (Addr × Obj)} (a : QT T) (b : QT T') : QT (T ++ T') := fun p hp => (List.mem_append.mp hp).elim (a p) (b p)
theorem QT.of {T : List (Addr × Obj)} (a : Tups T) : QT T := fun p hp => .inl (a p hp)
theorem quiet_list {xs : Array Value} {n : Nat} : ¬ Quiet (listOf xs n) := fun h => h.elim (fun e => list_ne_tup e) fun ⟨_, _, _, e, _⟩ => by cases e
theorem quiet_dict {xs : List DictEntry} {n : Nat} : ¬ Quiet (dictOf xs n) := fun h => h.elim (fun e => dict_ne_tup e) fun ⟨_, _, _, e, _⟩ => by cases e
theorem quiet_isd {w : World} {o : Obj} {kvs : List (Str × Value)} (h : o.IsDictOf (SD w) kvs) : ¬ Quiet o := fun q => q.elim (dict_cls h) fun ⟨q, vs, t, e, f⟩ => dict_nf h vs t e f
theorem quiet_tab {ps : Array Value} (h : TriplesOk ps.toList) : ¬ Quiet (tabObj ps) := fun q => q.elim nofun fun ⟨q, vs, t, e, f⟩ => by
  cases e
  simpa using triples_no_str h q t (by simpa using f)
theorem quiet_off {g h : Heap} {L : Addr} {R T : List (Addr × Obj)} {d : Addr} {o : Obj} (N : News g L h R) (hm : (d, o) ∈ R) (nq : ¬ Quiet o) (hT : QT T) (s : ∀ p ∈ T, p ∈ R) : ∀ p ∈ T, p.1 ≠ d := fun p hp q => by
  have e1 := (N p (s p hp)).1
  have e2 := (N _ hm).1
  rw [q, e2] at e1
  have e3 : o = p.2 := Option.some.inj e1
  exact nq (by rw [e3]; exact hT p hp)
structure GlS (w : World) (g : Heap) (c : LA) (i : Nat) (R T : List (Addr × Obj)) (kvs kf : List (Str × Value)) : Prop where
  nm : (c.nm, instObj 201 c.dN) ∈ R
  dN : ∃ ha hb hc ta tb tc n, (c.dN, gD c.bi c.dv c.df ha hb hc ta tb tc n) ∈ R
  bi : ∃ o, (c.bi, o) ∈ R ∧ o.IsDictOf (SD w) kB
  dv : ∃ o, (c.dv, o) ∈ R ∧ o.IsDictOf (SD w) kvs
  df : ∃ o, (c.df, o) ∈ R ∧ o.IsDictOf (SD w) kf
  hh : ∃ o, (c.hh, o) ∈ R ∧ o.IsDictOf (SD w) kvs
  fx : ∃ o, (c.fx, o) ∈ R ∧ o.IsDictOf (SD w) kf
  V : VG g T kvs
  k : ∀ p ∈ kf, ∃ v, valueAt kvs p.1 = some v
  l1 : kvs.length ≤ 20 + i
  l2 : kf.length ≤ 20 + i
structure PrS (c : LA) (i : Nat) (R : List (Addr × Obj)) : Prop where
  pr : (c.pr, instObj 229 c.dP) ∈ R
  st : ∃ many its mt nn nt nl a b t u v, (c.dP, gP c.tL many a b t u v) ∈ R ∧ (c.tL, listOf its nl) ∈ R ∧ (c.to, listOf #[.int many mt, .ref c.tt] nn) ∈ R ∧ (c.tt, listOf its nt) ∈ R ∧ 0 ≤ many ∧ many ≤ 30001 * i ∧ its.size ≤ i ∧ TxtsP its
structure SrS (c : LA) (R : List (Addr × Obj)) : Prop where
  s : ∃ x y tx ty n, (c.src, listOf #[.int x tx, .int y ty] n) ∈ R ∧ 0 ≤ x ∧ 0 ≤ y ∧ y < 4294967296
structure TbS (g : Heap) (R T : List (Addr × Obj)) : Prop where
  t : ∃ ps, (410, tabObj ps) ∈ R ∧ TabG qT g T ps ∧ TriplesOk ps.toList
  p : ∃ ps, (417, tabObj ps) ∈ R ∧ TabG qP g T ps ∧ TriplesOk ps.toList
structure LSt (w : World) (g : Heap) (c : LA) (i : Nat) (R : List (Addr × Obj)) : Prop where
  h : ∃ T kvs kf, QT T ∧ (∀ p ∈ T, p ∈ R) ∧ GlS w g c i R T kvs kf ∧ PrS c i R ∧ SrS c R ∧ TbS g R T
/-! what is needed of a list that keeps all but some addresses -/
def Cut (as : List Nat) (R R' : List (Addr × Obj)) : Prop := ∀ p ∈ R, p.1 ∉ as → p ∈ R'
theorem GlS.cut {w : World} {g : Heap} {c : LA} {i j : Nat} {as : List Nat} {R R' T T' : List (Addr × Obj)} {kvs kf : List (Str × Value)} (H : GlS w g c i R T kvs kf) (s : Cut as R R') (sT : ∀ p ∈ T, p ∈ T') (hj : i ≤ j)
    (n : c.nm ∉ as ∧ c.dN ∉ as ∧ c.bi ∉ as ∧ c.dv ∉ as ∧ c.df ∉ as ∧ c.hh ∉ as ∧ c.fx ∉ as) : GlS w g c j R' T' kvs kf where
  nm := s _ H.nm n.1
  dN := let ⟨a, b, c, d, e, f, k, h⟩ := H.dN; ⟨a, b, c, d, e, f, k, s _ h n.2.1⟩
  bi := let ⟨o, a, b⟩ := H.bi; ⟨o, s _ a n.2.2.1, b⟩
  dv := let ⟨o, a, b⟩ := H.dv; ⟨o, s _ a n.2.2.2.1, b⟩
  df := let ⟨o, a, b⟩ := H.df; ⟨o, s _ a n.2.2.2.2.1, b⟩
  hh := let ⟨o, a, b⟩ := H.hh; ⟨o, s _ a n.2.2.2.2.2.1, b⟩
  fx := let ⟨o, a, b⟩ := H.fx; ⟨o, s _ a n.2.2.2.2.2.2, b⟩
  V := H.V.mono sT
  k := H.k
  l1 := Nat.le_trans H.l1 (Nat.add_le_add_left hj _)
  l2 := Nat.le_trans H.l2 (Nat.add_le_add_left hj _)
theorem PrS.cut {c : LA} {i j : Nat} {as : List Nat} {R R' : List (Addr × Obj)} (H : PrS c i R) (s : Cut as R R') (hj : i ≤ j) (n : c.pr ∉ as ∧ c.dP ∉ as ∧ c.tL ∉ as ∧ c.to ∉ as ∧ c.tt ∉ as) : PrS c j R' := by
  obtain ⟨h1, many, its, mt, nn, nt, nl, a, b, t, u, v, e1, e2, e3, e4, e5, e6, e7, e8⟩ := H
  exact ⟨s _ h1 n.1, many, its, mt, nn, nt, nl, a, b, t, u, v, s _ e1 n.2.1, s _ e2 n.2.2.1, s _ e3 n.2.2.2.1, s _ e4 n.2.2.2.2, e5, by have : (i : Int) ≤ j := Int.ofNat_le.mpr hj; omega, Nat.le_trans e7 hj, e8⟩
theorem SrS.cut {c : LA} {as : List Nat} {R R' : List (Addr × Obj)} (H : SrS c R) (s : Cut as R R') (n : c.src ∉ as) : SrS c R' := by
  obtain ⟨x, y, tx, ty, k, h, r⟩ := H
  exact ⟨x, y, tx, ty, k, s _ h n, r⟩
theorem TbS.cut {g : Heap} {as : List Nat} {R R' T T' : List (Addr × Obj)} (H : TbS g R T) (s : Cut as R R') (sT : ∀ p ∈ T, p ∈ T') (n : (410 : Nat) ∉ as ∧ (417 : Nat) ∉ as) : TbS g R' T' := by
  obtain ⟨⟨p1, a1, b1, c1⟩, ⟨p2, a2, b2, c2⟩⟩ := H
  exact ⟨⟨p1, s _ a1 n.1, b1.mono sT, c1⟩, ⟨p2, s _ a2 n.2, b2.mono sT, c2⟩⟩
/-! all but some addresses -/
def but (as : List Nat) (R : List (Addr × Obj)) : List (Addr × Obj) := R.filter fun p => decide ((p.1 : Nat) ∉ as)
theorem but_cut {as : List Nat} {R R' : List (Addr × Obj)} (s : ∀ p ∈ but as R, p ∈ R') : Cut as R R' := fun p hp n => s p (List.mem_filter.mpr ⟨hp, decide_eq_true n⟩)
theorem mem_but {as : List Nat} {R : List (Addr × Obj)} {p : Addr × Obj} (h : p ∈ but as R) : p ∈ R ∧ p.1 ∉ as := let ⟨a, b⟩ := List.mem_filter.mp h; ⟨a, of_decide_eq_true b⟩
theorem code_mem {pos : Pos} : ∀ {l : List Value} {cv : Value}, codeAmong pos l = some cv → cv ∈ l := by
  intro l
  fun_induction codeAmong pos l with
  | case1 a t b u c rest q => intro cv e; cases e; exact .tail _ (.tail _ (.head _))
  | case2 a t b u c rest q ih => intro cv e; exact .tail _ (.tail _ (.tail _ (ih e)))
  | case3 => intro cv e; cases e
/-! the values, told again behind a change of some objects that are no tuples -/
theorem TVG.of {g h : Heap} {L : Addr} {m : Str → Option Value} {v : Value} {d : PyData} (F : Fr g L h m) (t : TV h v d) : ∃ T, Tups T ∧ News g L h T ∧ TVG g T v d := tv_tail F t
/-! the codes of a table, as a tail -/
theorem tab_tail {g h : Heap} {L : Addr} {m : Str → Option Value} {q : Str} {ps : Array Value} (F : Fr g L h m) (T : TabOk q h ps) : ∃ C, QT C ∧ News g L h C ∧ TabG q g C ps := by
  have key : ∀ c', h.CodeRec (.ref c') q → ∃ C, QT C ∧ News g L h C ∧ ∀ h' : Heap, (∀ b o, g.get? b = some o → h'.get? b = some o) → (∀ p ∈ C, h'.get? p.1 = some p.2) → h'.CodeRec (.ref c') q := by
    intro c' ⟨c, o, vs, t, e1, e2, e3, e4⟩
    cases e1
    cases z : g.get? c' with
    | some o' =>
      have : h.get? c' = some o' := F.keep _ _ z
      rw [e2] at this
      cases this
      exact ⟨[], List.forall_mem_nil _, List.forall_mem_nil _, fun h' k _ => ⟨c', o, vs, t, rfl, k _ _ z, e3, e4⟩⟩
    | none =>
      refine ⟨[(c', o)], List.forall_mem_cons.mpr ⟨.inr ⟨_, _, _, e3, e4⟩, List.forall_mem_nil _⟩, List.forall_mem_cons.mpr ⟨⟨e2, fun q' => ?_, z⟩, List.forall_mem_nil _⟩, fun h' _ k => ⟨c', o, vs, t, rfl, k (c', o) (.head _), e3, e4⟩⟩
      obtain ⟨oL, es, ep, hL, hLd, _⟩ := F.ns
      have q2 : c' = L := q'
      rw [q2, hL] at e2
      cases e2
      rw [hLd] at e3; cases e3
  have all : ∀ l : List Value, ∃ C, QT C ∧ News g L h C ∧ ∀ h' : Heap, (∀ b o, g.get? b = some o → h'.get? b = some o) → (∀ p ∈ C, h'.get? p.1 = some p.2) → ∀ v ∈ l, (∃ c', v = .ref c' ∧ h.CodeRec (.ref c') q) → h'.CodeRec v q := by
    intro l
    induction l with
    | nil => exact ⟨[], List.forall_mem_nil _, List.forall_mem_nil _, fun _ _ _ => List.forall_mem_nil _⟩
    | cons a l ih =>
      obtain ⟨C, qc, n, H⟩ := ih
      by_cases z : ∃ c', a = .ref c' ∧ h.CodeRec (.ref c') q
      · obtain ⟨c', rfl, r⟩ := z
        obtain ⟨C', qc', n', H'⟩ := key c' r
        refine ⟨C ++ C', qc.app qc', News.app n n', fun h' k t => List.forall_mem_cons.mpr ⟨fun _ => H' h' k fun p hp => t p (List.mem_append_right _ hp), H h' k fun p hp => t p (List.mem_append_left _ hp)⟩⟩
      · exact ⟨C, qc, n, fun h' k t => List.forall_mem_cons.mpr ⟨fun y => absurd y z, H h' k t⟩⟩
  obtain ⟨C, qc, n, H⟩ := all ps.toList
  refine ⟨C, qc, n, fun h' k t => ⟨T.1, fun pos cv e => ?_⟩⟩
  obtain ⟨c', rfl, r⟩ := T.2 pos cv e
  exact ⟨c', rfl, H h' k t (.ref c') (code_mem e) ⟨c', rfl, r⟩⟩

end
section
theorem kwo_Lsd : True := by
  k_with_none
  w_top off
  k_with "execs cons Assign cons" => (with_reducible refine seqN ?_); intro Qk1 nk1
  k_with "execs cons AugAssign cons" => (with_reducible refine seqN ?_); intro Qk1 nk1
  k_with "execs cons Expr cons" => (with_reducible refine seqN ?_); intro Qk1 nk1
  k_with "execs cons If cons" => (with_reducible refine seqQ ?_); intro Qk1 nk1 rk1
  k_with "execs cons For cons" => (with_reducible refine seqQ ?_); intro Qk1 nk1 rk1
  k_with "execs cons" => (with_reducible refine seq1 ?_)
  k_with "eval Constant int" => (with_reducible refine cInt ?_); intro tq1 kq1
  k_with "eval Constant str" => (with_reducible refine cStr ?_); intro tq1 kq1
  k_with "eval Name" => (k_here; k_dflt (refine' nameL ?Fn1 ?bn1 ?vn1 ?_; (case bn1 => decide +kernel); (case Fn1 => with_reducible assumption); (case vn1 => exact rfl); k_whole))
  exact trivial
def LA.all (c : LA) : List Nat := [c.src, c.nm, c.dN, c.bi, c.dv, c.df, c.hh, c.fx, c.pr, c.dP, c.tL, c.tt, c.to, 410, 417]
theorem TabG.ok {q : Str} {g h : Heap} {L : Addr} {m : Str → Option Value} {T W : List (Addr × Obj)} {ps : Array Value} (H : TabG q g T ps) (F : Fr g L h m) (N : News g L h W) (s : ∀ p ∈ T, p ∈ W) : TabOk q h ps := H h F.keep fun p hp => (N p (s p hp)).1
theorem VG.st {g : Heap} {T : List (Addr × Obj)} {kvs : List (Str × Value)} {k : Str} {r : Value} {d : PyData} (V : VG g T kvs) (t : TVG g T r d) (n : Nice d) (nn : r ≠ .none) : VG g T (stored kvs k r) := fun x q e => by
  rcases vs_or e with ⟨_, rfl⟩ | ⟨_, e⟩
  · exact ⟨nn, d, t, n⟩
  · exact V x q e
theorem stored_at {kvs : List (Str × Value)} {x y : Str} {v r : Value} (h : valueAt kvs y = some r) : ∃ r', valueAt (stored kvs x v) y = some r' := by
  by_cases q : x = y
  · subst q; exact ⟨v, vs_same⟩
  · exact ⟨r, vs_at q h⟩
theorem stored_mem {kf : List (Str × Value)} {x : Str} {v : Value} {p : Str × Value} (h : p ∈ stored kf x v) : p.1 = x ∨ ∃ p' ∈ kf, p'.1 = p.1 := by
  have h1 : p.1 ∈ (stored kf x v).map (·.1) := List.mem_map_of_mem h
  rw [stored_keys] at h1
  split at h1
  · obtain ⟨p', a, b⟩ := List.mem_map.mp h1; exact .inr ⟨p', a, b⟩
  · rcases List.mem_append.mp h1 with h1 | h1
    · obtain ⟨p', a, b⟩ := List.mem_map.mp h1; exact .inr ⟨p', a, b⟩
    · exact .inl (List.mem_singleton.mp h1)
section
variable {w : World} {A A₀ : Around} {S g : Heap} {L : Addr} {m : Str → Option Value} {env : Env} {p : Program} {loose : List Str} {mean : ExcName → Option Value} {mg mb : Str → Option Value} {s : Shared} {Q E : Value → Shared → Prop} {R : List (Addr × Obj)} {c : LA} {i : Nat} {h' : Heap} {as : List Addr}
theorem rel_F (F : Fr g L s.heap m) (N : News g L s.heap R) (hf : env.frame = some L) (Rl : Rel as [env] s.heap h') (has : ∀ a ∈ as, ∃ o, (a, o) ∈ R) : Fr g L h' m ∧ (∀ p ∈ R, p.1 ∉ as → h'.get? p.1 = some p.2 ∧ p.1 ≠ L ∧ g.get? p.1 = none) := by
  have fl : ([env].filterMap (·.frame)) = [L] := by rw [List.filterMap_cons, hf]; rfl
  refine ⟨⟨?_, fun b o e => Rl.1 b o (F.keep b o e) (fun q => ?_) (fun q => ?_), F.above⟩, fun p hp n => ⟨Rl.1 _ _ (N p hp).1 n (fun q => ?_), (N p hp).2⟩⟩
  · obtain ⟨oL, es, ep, hL, hLd, hLk, hLf⟩ := F.ns
    obtain ⟨sl, e1⟩ := Rl.2 L (by rw [fl]; exact .head _) oL hL
    exact ⟨_, es, ep, e1, hLd, hLk, hLf⟩
  · obtain ⟨o', ho'⟩ := has b q
    rw [(N _ ho').2.2] at e; cases e
  · rw [fl] at q
    have q' := List.mem_singleton.mp q
    rw [q'] at e
    exact absurd (Heap.lt_size e) (Nat.not_lt.mpr F.above)
  · rw [fl] at q
    exact (N p hp).2.1 (List.mem_singleton.mp q)
theorem kp_F {b : Addr} {ob : Obj} (F : Fr g L s.heap m) (N : News g L s.heap R) (k : Kp [b] s.heap h') (hb : (b, ob) ∈ R) : Fr g L h' m ∧ (∀ p ∈ R, p.1 ∉ [b] → h'.get? p.1 = some p.2 ∧ p.1 ≠ L ∧ g.get? p.1 = none) :=
  ⟨kp_fr F k (Ne.symm (N _ hb).2.1) (N _ hb).2.2, fun p hp n => ⟨k _ _ (N p hp).1 n, (N p hp).2⟩⟩
theorem digit_L {k : Int} {tk : Tok} (hA : A.handled = none) (hfr : A.frames = some [env]) (hdp : A.depth ≤ 580) (hu : A.units ≤ 3700) (B : Below A₀ S [] g) (F : Fr g L s.heap m) (N : News g L s.heap R) (hf : env.frame = some L) (hk : env.scope.kind = .function)
    (X : (hd.heap_1 w.params).In S) (T : Top p loose mean mg mb S) (O : Ord c) (H : LSt w g c i R) (hk0 : 0 < k) (hk2 : k ≤ 16)
    (hret : ∀ r t R' h' tk', 0 ≤ r → r < k → LSt w g c i R' → Cut c.all R R' → Fr g L h' m → News g L h' R' → Q (.int r t) { s with heap := h', toks := tk' }) :
    wpAny (model pg w) A (PySem.call (.ref 380) [.ref c.src, .int k tk]) Q E s := by
  obtain ⟨TT, kvs, kf, hT, sT, G, P, ⟨x, y, tx, ty, n, ms, hx, hy, hy2⟩, TB⟩ := H
  have o := O.a
  refine wpAny_up (A' := Ap 9 [env]) (digit_spec (site B F hf hk) X T (N.get ms) (off B N ms hf).1 (off B N ms hf).2 hx hy hy2 hk0 hk2 ?_) hA hdp (fun l e => by cases e; exact hfr) rfl hu
  intro r t x' y' tx' ty' n' h' tk' r0 r1 a1 a2 a3 e1 e2
  obtain ⟨F', K⟩ := kp_F F N e2 ms
  have oT := quiet_off N ms quiet_list hT sT
  have cut : Cut [c.src] R ((c.src, listOf #[.int x' tx', .int y' ty'] n') :: but [c.src] R) := but_cut fun p hp => .tail _ hp
  have sT' : ∀ p ∈ TT, p ∈ (c.src, listOf #[.int x' tx', .int y' ty'] n') :: but [c.src] R := fun p hp => cut p (sT p hp) fun q => oT p hp (List.mem_singleton.mp q)
  refine hret r t ((c.src, listOf #[.int x' tx', .int y' ty'] n') :: but [c.src] R) h' tk' r0 r1 ⟨TT, kvs, kf, hT, sT', G.cut cut (fun _ h => h) (Nat.le_refl _) ?_, P.cut cut (Nat.le_refl _) ?_, ⟨x', y', tx', ty', n', .head _, a1, a2, a3⟩, TB.cut cut (fun _ h => h) ?_⟩ (fun p hp q => cut p hp fun z => q ?_) F' ?_
  · simp only [List.mem_cons, List.not_mem_nil, or_false, not_or]; repeat' (first | k_ne | refine And.intro ?_ ?_)
  · simp only [List.mem_cons, List.not_mem_nil, or_false, not_or]; repeat' (first | k_ne | refine And.intro ?_ ?_)
  · simp only [List.mem_cons, List.not_mem_nil, or_false, not_or]; repeat' (first | k_ne | refine And.intro ?_ ?_)
  · have z' := List.mem_singleton.mp z
    rw [z']; exact .head _
  · refine List.forall_mem_cons.mpr ⟨⟨e1, (N _ ms).2⟩, fun p hp => ?_⟩
    obtain ⟨a, b⟩ := mem_but hp
    exact K p a b
end

end
section
theorem kwo_Lse : True := by
  k_with_none
  w_top off
  k_with "execs cons Assign cons" => (with_reducible refine seqN ?_); intro Qk1 nk1
  k_with "execs cons AugAssign cons" => (with_reducible refine seqN ?_); intro Qk1 nk1
  k_with "execs cons Expr cons" => (with_reducible refine seqN ?_); intro Qk1 nk1
  k_with "execs cons If cons" => (with_reducible refine seqQ ?_); intro Qk1 nk1 rk1
  k_with "execs cons For cons" => (with_reducible refine seqQ ?_); intro Qk1 nk1 rk1
  k_with "execs cons" => (with_reducible refine seq1 ?_)
  k_with "eval Constant int" => (with_reducible refine cInt ?_); intro tq1 kq1
  k_with "eval Constant str" => (with_reducible refine cStr ?_); intro tq1 kq1
  k_with "eval Name" => (k_here; k_dflt (refine' nameL ?Fn1 ?bn1 ?vn1 ?_; (case bn1 => decide +kernel); (case Fn1 => with_reducible assumption); (case vn1 => exact rfl); k_whole))
  exact trivial
section
variable {w : World} {A A₀ : Around} {S g : Heap} {L : Addr} {m : Str → Option Value} {env : Env} {p : Program} {loose : List Str} {mean : ExcName → Option Value} {mg mb : Str → Option Value} {s : Shared} {Q E : Value → Shared → Prop} {R : List (Addr × Obj)} {c : LA} {i : Nat} {h' : Heap} {as : List Addr}
set_option maxHeartbeats 2000000 in
theorem turned_L (hA : A.handled = none) (hfr : A.frames = some [env]) (hdp : A.depth ≤ 460) (hu : A.units ≤ 1900) (B : Below A₀ S [] g) (F : Fr g L s.heap m) (N : News g L s.heap R) (hf : env.frame = some L) (hk : env.scope.kind = .function)
    (X : (hd.heap_1 w.params).In S) (H0 : S.get? 0 = some (boot_o_0 w.params)) (H1 : S.get? 1 = some (boot_o_1 w.params)) (T : Top p loose mean mg mb S) (O : Ord c) (H : LSt w g c i R) (hi : i ≤ 20)
    (hret : ∀ R' h' tk', LSt w g c (i + 1) R' → Cut c.all R R' → Fr g L h' m → News g L h' R' → Q (.bool true) { s with heap := h', toks := tk' }) :
    wpAny (model pg w) A (PySem.call (.ref 415) [.ref c.src, .ref c.nm, .ref c.hh, .ref c.fx]) Q E s := by
  obtain ⟨TT, kvs, kf, hT, sT, G, P, ⟨x, y, tx, ty, n, ms, hx, hy, hy2⟩, TB⟩ := H
  have o := O.a
  obtain ⟨gnm, ⟨ha, hb, hc, ta, tb, tc, nn, gdN⟩, ⟨ob, gbi, hob⟩, ⟨odv, gdv, hdv⟩, ⟨odf, gdf, hdf⟩, ⟨oh, ghh, hdh⟩, ⟨ofx, gfx, hdfx⟩, gV, gk, l1, l2⟩ := id G
  obtain ⟨⟨ps1, t1, t2, t3⟩, ⟨ps2, u1, u2, u3⟩⟩ := id TB
  refine wpAny_up (A' := Ap 3 [env]) (turned_spec (site B F hf hk) X H0 H1 T (N.get ms) hx hy hy2 ⟨N.get gnm, ⟨_, _, _, _, _, _, _, N.get gdN⟩, ⟨ob, N.get gbi, hob⟩⟩ (N.get gdv) hdv (N.get gdf) hdf (N.get ghh) hdh (N.get gfx) hdfx (N.get t1) (t2.ok F N sT)
    (off B N ms hf) (off B N gnm hf) (off B N gdN hf) (off B N gbi hf) (off B N gdv hf) (off B N gdf hf) (off B N ghh hf) (off B N gfx hf) (off B N t1 hf) ?ord (gV.vals F N sT) (by omega) (by omega) ?_) hA hdp (fun l e => by cases e; exact hfr) rfl hu
  case ord => refine ⟨?_, ?_, ?_, ?_, ?_, ?_, ?_, ?_⟩ <;> omega
  intro h' tk' x' y' tx' ty' n' o1 o2 o3 o4 kvs' kf' ps' Rl a1 a2 a3 e0 e1 d1 e2 d2 e3 d3 e4 d4 e5 tab' chg
  have has : ∀ a ∈ [c.src, c.dv, c.df, c.hh, c.fx, 410], ∃ o, (a, o) ∈ R := List.forall_mem_cons.mpr ⟨⟨_, ms⟩, List.forall_mem_cons.mpr ⟨⟨_, gdv⟩, List.forall_mem_cons.mpr ⟨⟨_, gdf⟩, List.forall_mem_cons.mpr ⟨⟨_, ghh⟩, List.forall_mem_cons.mpr ⟨⟨_, gfx⟩, List.forall_mem_cons.mpr ⟨⟨_, t1⟩, List.forall_mem_nil _⟩⟩⟩⟩⟩⟩
  obtain ⟨F', K⟩ := rel_F F N hf Rl has
  obtain ⟨C, qc, NC, tabC⟩ := tab_tail F' tab'
  have q1 := quiet_off N ms quiet_list hT sT
  have q2 := quiet_off N gdv (quiet_isd hdv) hT sT
  have q3 := quiet_off N gdf (quiet_isd hdf) hT sT
  have q4 := quiet_off N ghh (quiet_isd hdh) hT sT
  have q5 := quiet_off N gfx (quiet_isd hdfx) hT sT
  have q6 := quiet_off N t1 (quiet_tab t3) hT sT
  have key : ∀ Tv kvs' kf', QT Tv → News g L h' Tv → VG g (TT ++ (Tv ++ C)) kvs' → (∀ p ∈ kf', ∃ v, valueAt kvs' p.1 = some v) → kvs'.length ≤ 20 + (i + 1) → kf'.length ≤ 20 + (i + 1) → o1.IsDictOf (SD w) kvs' → o2.IsDictOf (SD w) kf' → o3.IsDictOf (SD w) kvs' → o4.IsDictOf (SD w) kf' → Q (.bool true) { s with heap := h', toks := tk' } := by
    intro Tv kvs' kf' qv NV V' k' l1' l2' d1 d2 d3 d4
    have cut : Cut [c.src, c.dv, c.df, c.hh, c.fx, 410] R ((c.src, listOf #[.int x' tx', .int y' ty'] n') :: (c.dv, o1) :: (c.df, o2) :: (c.hh, o3) :: (c.fx, o4) :: (410, tabObj ps') :: (but [c.src, c.dv, c.df, c.hh, c.fx, 410] R ++ (Tv ++ C))) :=
      but_cut fun p hp => .tail _ (.tail _ (.tail _ (.tail _ (.tail _ (.tail _ (List.mem_append_left _ hp))))))
    have sT' : ∀ p ∈ TT ++ (Tv ++ C), p ∈ ((c.src, listOf #[.int x' tx', .int y' ty'] n') :: (c.dv, o1) :: (c.df, o2) :: (c.hh, o3) :: (c.fx, o4) :: (410, tabObj ps') :: (but [c.src, c.dv, c.df, c.hh, c.fx, 410] R ++ (Tv ++ C))) := fun p hp => by
      rcases List.mem_append.mp hp with hp | hp
      · refine cut p (sT p hp) ?_
        simp only [List.mem_cons, List.not_mem_nil, or_false, not_or]
        exact ⟨q1 p hp, q2 p hp, q3 p hp, q4 p hp, q5 p hp, q6 p hp⟩
      · exact .tail _ (.tail _ (.tail _ (.tail _ (.tail _ (.tail _ (List.mem_append_right _ hp))))))
    have cT : ∀ p ∈ TT, p ∈ TT ++ (Tv ++ C) := fun p hp => List.mem_append_left _ hp
    refine hret _ h' tk' ⟨TT ++ (Tv ++ C), kvs', kf', hT.app (qv.app qc), sT', ?g, P.cut cut (Nat.le_succ _) ?pn, ⟨x', y', tx', ty', n', .head _, a1, a2, a3⟩, ⟨⟨ps', .tail _ (.tail _ (.tail _ (.tail _ (.tail _ (.head _))))), tabC.mono fun p hp => List.mem_append_right _ (List.mem_append_right _ hp), tab'.1⟩, ⟨ps2, cut _ u1 ?n417, u2.mono cT, u3⟩⟩⟩ (fun p hp q => cut p hp fun z => q ?za) F' ?nn
    case g =>
      refine ⟨cut _ gnm ?z1, ⟨_, _, _, _, _, _, _, cut _ gdN ?z2⟩, ⟨ob, cut _ gbi ?z3, hob⟩, ⟨o1, .tail _ (.head _), d1⟩, ⟨o2, .tail _ (.tail _ (.head _)), d2⟩, ⟨o3, .tail _ (.tail _ (.tail _ (.head _))), d3⟩, ⟨o4, .tail _ (.tail _ (.tail _ (.tail _ (.head _)))), d4⟩, V', k', l1', l2'⟩ <;> (simp only [List.mem_cons, List.not_mem_nil, or_false, not_or]; repeat' (first | k_ne | refine And.intro ?_ ?_))
    case nn =>
      refine List.forall_mem_cons.mpr ⟨⟨e0, (N _ ms).2⟩, List.forall_mem_cons.mpr ⟨⟨e1, (N _ gdv).2⟩, List.forall_mem_cons.mpr ⟨⟨e2, (N _ gdf).2⟩, List.forall_mem_cons.mpr ⟨⟨e3, (N _ ghh).2⟩, List.forall_mem_cons.mpr ⟨⟨e4, (N _ gfx).2⟩, List.forall_mem_cons.mpr ⟨⟨e5, (N _ t1).2⟩, ?_⟩⟩⟩⟩⟩⟩
      refine News.app (fun p hp => ?_) (News.app NV NC)
      obtain ⟨a, b⟩ := mem_but hp
      exact K p a b
    case za =>
      simp only [List.mem_cons, List.not_mem_nil, or_false] at z
      simp only [LA.all, List.mem_cons, List.not_mem_nil, or_false]
      rcases z with z | z | z | z | z | z <;> simp only [z, true_or, or_true]
    all_goals (simp only [List.mem_cons, List.not_mem_nil, or_false, not_or]; repeat' (first | k_ne | refine And.intro ?_ ?_))
  rcases chg with ⟨rfl, rfl⟩ | ⟨nx, v, d, tv, nd, nv, rfl, hkf⟩
  · exact key [] kvs' kf' (List.forall_mem_nil _) (List.forall_mem_nil _) (gV.mono fun p hp => List.mem_append_left _ hp) gk (by omega) (by omega) d1 d2 d3 d4
  · obtain ⟨Tv, qv, NV, tvg⟩ := tv_tail F' tv
    have sl := stored_length_le kvs nx v
    have V' : VG g (TT ++ (Tv ++ C)) (stored kvs nx v) := (gV.mono fun p hp => List.mem_append_left _ hp).st (tvg.mono fun p hp => List.mem_append_right _ (List.mem_append_left _ hp)) nd nv
    have up : ∀ p ∈ kf, ∃ r, valueAt (stored kvs nx v) p.1 = some r := fun p hp => let ⟨r, e⟩ := gk p hp; stored_at e
    rcases hkf with rfl | rfl
    · exact key Tv _ _ (QT.of qv) NV V' up (by omega) (by omega) d1 d2 d3 d4
    · have sl2 := stored_length_le kf nx (.bool true)
      refine key Tv _ _ (QT.of qv) NV V' (fun p hp => ?_) (by omega) (by omega) d1 d2 d3 d4
      rcases stored_mem hp with e | ⟨p', hp', e⟩
      · rw [e]; exact ⟨v, vs_same⟩
      · rw [← e]; exact up p' hp'
end

end
section
theorem kwo_Lsf : True := by
  k_with_none
  w_top off
  k_with "execs cons Assign cons" => (with_reducible refine seqN ?_); intro Qk1 nk1
  k_with "execs cons AugAssign cons" => (with_reducible refine seqN ?_); intro Qk1 nk1
  k_with "execs cons Expr cons" => (with_reducible refine seqN ?_); intro Qk1 nk1
  k_with "execs cons If cons" => (with_reducible refine seqQ ?_); intro Qk1 nk1 rk1
  k_with "execs cons For cons" => (with_reducible refine seqQ ?_); intro Qk1 nk1 rk1
  k_with "execs cons" => (with_reducible refine seq1 ?_)
  k_with "eval Constant int" => (with_reducible refine cInt ?_); intro tq1 kq1
  k_with "eval Constant str" => (with_reducible refine cStr ?_); intro tq1 kq1
  k_with "eval Name" => (k_here; k_dflt (refine' nameL ?Fn1 ?bn1 ?vn1 ?_; (case bn1 => decide +kernel); (case Fn1 => with_reducible assumption); (case vn1 => exact rfl); k_whole))
  exact trivial
section
variable {w : World} {A A₀ : Around} {S g : Heap} {L : Addr} {m : Str → Option Value} {env : Env} {p : Program} {loose : List Str} {mean : ExcName → Option Value} {mg mb : Str → Option Value} {s : Shared} {Q E : Value → Shared → Prop} {R : List (Addr × Obj)} {c : LA} {i : Nat} {h' : Heap} {as : List Addr}
set_option maxHeartbeats 2000000 in
theorem printed_L (hA : A.handled = none) (hfr : A.frames = some [env]) (hdp : A.depth ≤ 460) (hu : A.units ≤ 1900) (B : Below A₀ S [] g) (F : Fr g L s.heap m) (N : News g L s.heap R) (hf : env.frame = some L) (hk : env.scope.kind = .function)
    (X : (hd.heap_1 w.params).In S) (H0 : S.get? 0 = some (boot_o_0 w.params)) (H1 : S.get? 1 = some (boot_o_1 w.params)) (T : Top p loose mean mg mb S) (O : Ord c) (H : LSt w g c i R) (hi : i ≤ 20)
    (hret : ∀ R' h' tk', LSt w g c (i + 1) R' → Cut c.all R R' → Fr g L h' m → News g L h' R' → Q (.bool true) { s with heap := h', toks := tk' }) :
    wpAny (model pg w) A (PySem.call (.ref 422) [.ref c.src, .ref c.pr, .ref c.to]) Q E s := by
  obtain ⟨TT, kvs, kf, hT, sT, G, ⟨ppr, many, its, mt, nn, nt, nl, a, b, t, u, v, pdP, ptL, pto, ptt, m0, m1, si, tx0⟩, ⟨x, y, tx, ty, n, ms, hx, hy, hy2⟩, TB⟩ := H
  have o := O.a
  obtain ⟨⟨ps1, t1, t2, t3⟩, ⟨ps2, u1, u2, u3⟩⟩ := id TB
  have hi' : (i : Int) ≤ 20 := by omega
  refine wpAny_up (A' := Ap 3 [env]) (printed_spec (site B F hf hk) X H0 H1 T (N.get ms) hx hy hy2 (N.get pto) (N.get ptt) (N.get ppr) (N.get pdP) (N.get ptL) (N.get u1) (u2.ok F N sT)
    (off B N ms hf) (off B N pto hf) (off B N ptt hf) (off B N ppr hf) (off B N pdP hf) (off B N ptL hf) (off B N u1 hf) ?ord m0 (by omega) (by omega) tx0 ?_) hA hdp (fun l e => by cases e; exact hfr) rfl hu
  case ord => refine ⟨?_, ?_, ?_, ?_, ?_, ?_⟩ <;> omega
  intro h' tk' x' y' tx' ty' n' many' its' mt' nn' nt' nl' a' b' t' u' v' ps' Rl a1 a2 a3 e0 b1 b2 b3 b4 e1 e2 e3 e4 e5 tab'
  have has : ∀ a ∈ [c.src, c.dP, c.tL, c.to, c.tt, 417], ∃ o, (a, o) ∈ R := List.forall_mem_cons.mpr ⟨⟨_, ms⟩, List.forall_mem_cons.mpr ⟨⟨_, pdP⟩, List.forall_mem_cons.mpr ⟨⟨_, ptL⟩, List.forall_mem_cons.mpr ⟨⟨_, pto⟩, List.forall_mem_cons.mpr ⟨⟨_, ptt⟩, List.forall_mem_cons.mpr ⟨⟨_, u1⟩, List.forall_mem_nil _⟩⟩⟩⟩⟩⟩
  obtain ⟨F', K⟩ := rel_F F N hf Rl has
  obtain ⟨C, qc, NC, tabC⟩ := tab_tail F' tab'
  have q1 := quiet_off N ms quiet_list hT sT
  have q2 := quiet_off N pdP quiet_dict hT sT
  have q3 := quiet_off N ptL quiet_list hT sT
  have q4 := quiet_off N pto quiet_list hT sT
  have q5 := quiet_off N ptt quiet_list hT sT
  have q6 := quiet_off N u1 (quiet_tab u3) hT sT
  have cut : Cut [c.src, c.dP, c.tL, c.to, c.tt, 417] R ((c.src, listOf #[.int x' tx', .int y' ty'] n') :: (c.dP, gP c.tL many' a' b' t' u' v') :: (c.tL, listOf its' nl') :: (c.to, listOf #[.int many' mt', .ref c.tt] nn') :: (c.tt, listOf its' nt') :: (417, tabObj ps') :: (but [c.src, c.dP, c.tL, c.to, c.tt, 417] R ++ C)) :=
    but_cut fun p hp => .tail _ (.tail _ (.tail _ (.tail _ (.tail _ (.tail _ (List.mem_append_left _ hp))))))
  have sT' : ∀ p ∈ TT ++ C, p ∈ ((c.src, listOf #[.int x' tx', .int y' ty'] n') :: (c.dP, gP c.tL many' a' b' t' u' v') :: (c.tL, listOf its' nl') :: (c.to, listOf #[.int many' mt', .ref c.tt] nn') :: (c.tt, listOf its' nt') :: (417, tabObj ps') :: (but [c.src, c.dP, c.tL, c.to, c.tt, 417] R ++ C)) := fun p hp => by
    rcases List.mem_append.mp hp with hp | hp
    · refine cut p (sT p hp) ?_
      simp only [List.mem_cons, List.not_mem_nil, or_false, not_or]
      exact ⟨q1 p hp, q2 p hp, q3 p hp, q4 p hp, q5 p hp, q6 p hp⟩
    · exact .tail _ (.tail _ (.tail _ (.tail _ (.tail _ (.tail _ (List.mem_append_right _ hp))))))
  have cT : ∀ p ∈ TT, p ∈ TT ++ C := fun p hp => List.mem_append_left _ hp
  refine hret _ h' tk' ⟨TT ++ C, kvs, kf, hT.app qc, sT', G.cut cut cT (Nat.le_succ _) ?gn, ⟨cut _ ppr ?pn, many', its', mt', nn', nt', nl', a', b', t', u', v', .tail _ (.head _), .tail _ (.tail _ (.head _)), .tail _ (.tail _ (.tail _ (.head _))), .tail _ (.tail _ (.tail _ (.tail _ (.head _)))), b1, ?mb, Nat.le_trans b3 (Nat.add_le_add_right si 1), b4⟩, ⟨x', y', tx', ty', n', .head _, a1, a2, a3⟩, ⟨⟨ps1, cut _ t1 ?n410, t2.mono cT, t3⟩, ⟨ps', .tail _ (.tail _ (.tail _ (.tail _ (.tail _ (.head _))))), tabC.mono fun p hp => List.mem_append_right _ hp, tab'.1⟩⟩⟩ (fun p hp q => cut p hp fun z => q ?za) F' ?nn
  case mb =>
    have : ((i + 1 : Nat) : Int) = (i : Int) + 1 := by omega
    rw [this]; omega
  case nn =>
    refine List.forall_mem_cons.mpr ⟨⟨e0, (N _ ms).2⟩, List.forall_mem_cons.mpr ⟨⟨e4, (N _ pdP).2⟩, List.forall_mem_cons.mpr ⟨⟨e3, (N _ ptL).2⟩, List.forall_mem_cons.mpr ⟨⟨e1, (N _ pto).2⟩, List.forall_mem_cons.mpr ⟨⟨e2, (N _ ptt).2⟩, List.forall_mem_cons.mpr ⟨⟨e5, (N _ u1).2⟩, ?_⟩⟩⟩⟩⟩⟩
    refine News.app (fun p hp => ?_) NC
    obtain ⟨a, b⟩ := mem_but hp
    exact K p a b
  case za =>
    simp only [List.mem_cons, List.not_mem_nil, or_false] at z
    simp only [LA.all, List.mem_cons, List.not_mem_nil, or_false]
    rcases z with z | z | z | z | z | z <;> simp only [z, true_or, or_true]
  all_goals (simp only [List.mem_cons, List.not_mem_nil, or_false, not_or]; repeat' (first | k_ne | refine And.intro ?_ ?_))
/-! what a name has: told by any data that fit -/
def HDat (g : Heap) (T : List (Addr × Obj)) (kvs : List (Str × Value)) (x : Str) (d : PyData) : Prop := match valueAt kvs x with
  | some r => TVG g T r d
  | none => d = if isB x then .tuple [.str (Str.ofString "builtin"), .str x] else .none
theorem hdat_ex {T : List (Addr × Obj)} {kvs : List (Str × Value)} (V : VG g T kvs) (x : Str) (hx : PyData.strOk x = true) : ∃ d, HDat g T kvs x d ∧ Nice d := by
  unfold HDat
  cases e : valueAt kvs x with
  | some r => obtain ⟨_, d, a, b⟩ := V x r e; exact ⟨d, a, b⟩
  | none =>
    cases z : isB x with
    | true => exact ⟨_, rfl, nice_two (by decide +kernel) hx⟩
    | false => exact ⟨_, rfl, nice_none⟩
/-- a value in hand: its data, told by the ground, the tail and one object more -/
theorem held_val {T W : List (Addr × Obj)} {kvs : List (Str × Value)} {x : Str} {d : PyData} {h₀ h' : Heap} {v : Value} (F : Fr g L h₀ m) (N : News g L h₀ W) (N' : News g L h' W) (sT : ∀ p ∈ T, p ∈ W) (st : Kp [] h₀ h') (D : HDat g T kvs x d) (hv : HeldV h₀ h' kvs x v) {q : Addr × Obj} (hq : q ∈ W) :
    ∃ t o, News g L h' ((t, o) :: W) ∧ TVG g ((t, o) :: T) v d ∧ ((t, o) = q ∨ (h₀.get? t = none)) := by
  unfold HDat at D
  unfold HeldV at hv
  cases e : valueAt kvs x with
  | some r =>
    rw [e] at D hv
    subst hv
    exact ⟨q.1, q.2, List.forall_mem_cons.mpr ⟨N' q hq, N'⟩, D.mono fun p hp => .tail _ hp, .inl rfl⟩
  | none =>
    rw [e] at D hv
    cases z : isB x with
    | true =>
      rw [z] at hv
      dsimp only at D
      rw [z, if_pos rfl] at D
      obtain ⟨t, a, b, rfl, e1, e2⟩ := hv
      subst D
      exact ⟨t, twoTup x a b, (adds F N N' t _ e1 e2).1, fun h k n => .tup (n (t, twoTup x a b) (.head _)) rfl rfl (.cons (.str _ _) (.cons (.str _ _) .nil)), .inr e2⟩
    | false =>
      rw [z] at hv
      dsimp only at D
      rw [z] at D
      subst hv
      subst D
      exact ⟨q.1, q.2, List.forall_mem_cons.mpr ⟨N' q hq, N'⟩, fun h k n => .none, .inl rfl⟩
end

end
section
theorem kwo_Lsg : True := by
  k_with_none
  w_top off
  k_with "execs cons Assign cons" => (with_reducible refine seqN ?_); intro Qk1 nk1
  k_with "execs cons AugAssign cons" => (with_reducible refine seqN ?_); intro Qk1 nk1
  k_with "execs cons Expr cons" => (with_reducible refine seqN ?_); intro Qk1 nk1
  k_with "execs cons If cons" => (with_reducible refine seqQ ?_); intro Qk1 nk1 rk1
  k_with "execs cons For cons" => (with_reducible refine seqQ ?_); intro Qk1 nk1 rk1
  k_with "execs cons" => (with_reducible refine seq1 ?_)
  k_with "eval Constant int" => (with_reducible refine cInt ?_); intro tq1 kq1
  k_with "eval Constant str" => (with_reducible refine cStr ?_); intro tq1 kq1
  k_with "eval Name" => (k_here; k_dflt (refine' nameL ?Fn1 ?bn1 ?vn1 ?_; (case bn1 => decide +kernel); (case Fn1 => with_reducible assumption); (case vn1 => exact rfl); k_whole))
  exact trivial
theorem shaped_nice {d : PyData} (h : Nice d) : SeqAt.shaped d = true := by
  unfold SeqAt.shaped
  rw [h.1, Bool.true_and]
  have := h.2.1
  exact decide_eq_true (by omega)
section
variable {w : World} {A A₀ : Around} {S g : Heap} {L : Addr} {m : Str → Option Value} {env : Env} {p : Program} {loose : List Str} {mean : ExcName → Option Value} {mg mb : Str → Option Value} {s : Shared} {Q E : Value → Shared → Prop} {R W TT : List (Addr × Obj)} {c : LA} {i : Nat} {h' : Heap} {as : List Addr} {kvs kf : List (Str × Value)}
theorem off_iter {W : List (Addr × Obj)} {h : Heap} {it o : Obj} {I' t : Addr} {dN : Addr} (N : News g L h W) (mi : (I', it) ∈ W) (hit : it.cls = .type "list_iterator") (hq : (t, o) = (c.nm, instObj 201 dN) ∨ h.get? t = none) (hn : (c.nm, instObj 201 dN) ∈ W) : @Ne Nat t I' := fun q => by
  rcases hq with e | e
  · have e1 : t = c.nm := congrArg Prod.fst e
    have e2 := (N _ hn).1
    have e3 := (N _ mi).1
    rw [show (c.nm, instObj 201 dN).1 = t from e1.symm, show t = I' from q, e3] at e2
    have e4 := Option.some.inj e2
    rw [show it = instObj 201 dN from e4] at hit
    cases hit
  · have e3 := (N _ mi).1
    rw [show (I', it).1 = t from (show t = I' from q).symm, e] at e3
    cases e3
theorem valueOf_L {x : Str} {tk : Tok} {d : PyData} {I' : Addr} {it : Obj} (hA : A.handled = none) (hfr : A.frames = some [env]) (hdp : A.depth ≤ 580) (hu : A.units ≤ 3700) (B : Below A₀ S [] g) (F : Fr g L s.heap m) (N : News g L s.heap W) (hf : env.frame = some L) (hk : env.scope.kind = .function)
    (X : (hd.heap_1 w.params).In S) (H1 : S.get? 1 = some (boot_o_1 w.params)) (T : Top p loose mean mg mb S) (G : GlS w g c i R TT kvs kf) (sT : ∀ p ∈ TT, p ∈ R) (sR : ∀ p ∈ R, p ∈ W) (D : HDat g TT kvs x d) (mi : (I', it) ∈ W) (hit : it.cls = .type "list_iterator")
    (hret : ∀ v t o h' tk', TVG g ((t, o) :: TT) v d → Fr g L h' m → News g L h' ((t, o) :: W) → @Ne Nat t I' → Q v { s with heap := h', toks := tk' }) :
    wpAny (model pg w) A (PySem.call (.ref 179) [.ref c.nm, .str x tk]) Q E s := by
  obtain ⟨gnm, ⟨ha, hb, hc, ta, tb, tc, nn, gdN⟩, ⟨ob, gbi, hob⟩, ⟨odv, gdv, hdv⟩, _⟩ := id G
  refine wpAny_up (A' := Ap 9 [env]) (valueOf_spec (df := c.df) (site B F hf hk) X H1 T ⟨N.get (sR _ gnm), ⟨_, _, _, _, _, _, _, N.get (sR _ gdN)⟩, ⟨ob, N.get (sR _ gbi), hob⟩⟩ (N.get (sR _ gdv)) hdv (off B N (sR _ gnm) hf) (off B N (sR _ gdN) hf) (off B N (sR _ gbi) hf) (off B N (sR _ gdv) hf) ?_) hA hdp (fun l e => by cases e; exact hfr) rfl hu
  intro v h' tk' hv k
  have k' : ∀ b o, s.heap.get? b = some o → h'.get? b = some o := fun b o e => k b o e (fun q => nomatch q)
  have N' : News g L h' W := fun p hp => ⟨k' _ _ (N p hp).1, (N p hp).2⟩
  obtain ⟨t, o, n1, n2, n3⟩ := held_val F N N' (fun p hp => sR _ (sT p hp)) k D hv (sR _ gnm)
  exact hret v t o h' tk' n2 (F.keeps k') n1 (off_iter N mi hit n3 (sR _ gnm))
theorem held_L {x : Str} {tk : Tok} {d : PyData} {I' : Addr} {it : Obj} (hA : A.handled = none) (hfr : A.frames = some [env]) (hdp : A.depth ≤ 560) (hu : A.units ≤ 3400) (B : Below A₀ S [] g) (F : Fr g L s.heap m) (N : News g L s.heap W) (hf : env.frame = some L) (hk : env.scope.kind = .function)
    (X : (hd.heap_1 w.params).In S) (H1 : S.get? 1 = some (boot_o_1 w.params)) (T : Top p loose mean mg mb S) (G : GlS w g c i R TT kvs kf) (sT : ∀ p ∈ TT, p ∈ R) (sR : ∀ p ∈ R, p ∈ W) (D : HDat g TT kvs x d) (mi : (I', it) ∈ W) (hit : it.cls = .type "list_iterator")
    (hret : ∀ v t o h' tk', TVG g ((t, o) :: TT) v d → Fr g L h' m → News g L h' ((t, o) :: W) → @Ne Nat t I' → Q v { s with heap := h', toks := tk' }) :
    wpAny (model pg w) A (PySem.call (.ref 408) [.ref c.hh, .str x tk]) Q E s := by
  have gnm := G.nm
  obtain ⟨oh, ghh, hdh⟩ := G.hh
  refine wpAny_up (A' := Ap 8 [env]) (held_spec (site B F hf hk) X H1 T (N.get (sR _ ghh)) hdh (off B N (sR _ ghh) hf).1 (off B N (sR _ ghh) hf).2 ?_) hA hdp (fun l e => by cases e; exact hfr) rfl hu
  intro v h' tk' hv k
  have k' : ∀ b o, s.heap.get? b = some o → h'.get? b = some o := fun b o e => k b o e (fun q => nomatch q)
  have N' : News g L h' W := fun p hp => ⟨k' _ _ (N p hp).1, (N p hp).2⟩
  obtain ⟨t, o, n1, n2, n3⟩ := held_val F N N' (fun p hp => sR _ (sT p hp)) k D hv (sR _ gnm)
  exact hret v t o h' tk' n2 (F.keeps k') n1 (off_iter N mi hit n3 (sR _ gnm))
theorem ne_L {v v' : Value} {d : PyData} {T1 T2 : List (Addr × Obj)} (F : Fr g L s.heap m) (N : News g L s.heap W) (t1 : TVG g T1 v d) (t2 : TVG g T2 v' d) (s1 : ∀ p ∈ T1, p ∈ W) (s2 : ∀ p ∈ T2, p ∈ W) (nd : Nice d) (hu : A.units ≤ 5000) (h : Q (.bool false) s) :
    wpAny (model pg w) A (compareOp .NotEq v v') Q E s :=
  ne_tv true (t1.tv F N s1) (t2.tv F N s2) (shaped_nice nd) (shaped_nice nd) hu nd.2.2 h
theorem LSt.mono (H : LSt w g c i R) (s : ∀ p ∈ R, p ∈ W) : LSt w g c i W := by
  obtain ⟨TT, kvs, kf, hT, sT, G, P, Sr, TB⟩ := H
  have cut : Cut [] R W := fun p hp _ => s p hp
  exact ⟨TT, kvs, kf, hT, fun p hp => s p (sT p hp), G.cut cut (fun _ h => h) (Nat.le_refl _) (by simp), P.cut cut (Nat.le_refl _) (by simp), Sr.cut cut (by simp), TB.cut cut (fun _ h => h) (by simp)⟩
theorem LSt.drop {I : Addr} {oI : Obj} {h : Heap} (H : LSt w g c i R) (N : News g L h R) (hI : (I, oI) ∈ R) (nq : ¬ Quiet oI) (na : I ∉ c.all) : LSt w g c i (but [I] R) := by
  obtain ⟨TT, kvs, kf, hT, sT, G, P, Sr, TB⟩ := H
  have cut : Cut [I] R (but [I] R) := but_cut fun _ h => h
  have q := quiet_off N hI nq hT sT
  simp only [LA.all, List.mem_cons, List.not_mem_nil, or_false, not_or] at na
  obtain ⟨n1, n2, n3, n4, n5, n6, n7, n8, n9, n10, n11, n12, n13, n14, n15⟩ := na
  have e : ∀ {a : Nat}, ¬ I = a → a ∉ [I] := fun z y => z (List.mem_singleton.mp y).symm
  exact ⟨TT, kvs, kf, hT, fun p hp => cut p (sT p hp) fun z => q p hp (List.mem_singleton.mp z), G.cut cut (fun _ h => h) (Nat.le_refl _) ⟨e n2, e n3, e n4, e n5, e n6, e n7, e n8⟩, P.cut cut (Nat.le_refl _) ⟨e n9, e n10, e n11, e n13, e n12⟩, Sr.cut cut (e n1), TB.cut cut (fun _ h => h) ⟨e n14, e n15⟩⟩
theorem LSt.off_all {I : Addr} (H : LSt w g c i R) (n : ∀ p ∈ R, p.1 ≠ I) : I ∉ c.all := fun q => by
  obtain ⟨TT, kvs, kf, hT, sT, ⟨gnm, ⟨ha, hb, hc, ta, tb, tc, nn, gdN⟩, ⟨ob, gbi, hob⟩, ⟨odv, gdv, hdv⟩, ⟨odf, gdf, hdf⟩, ⟨oh, ghh, hdh⟩, ⟨ofx, gfx, hdfx⟩, _⟩, ⟨ppr, many, its, mt, nn, nt, nl, a, b, t, u, v, pdP, ptL, pto, ptt, _⟩, ⟨x, y, tx, ty, k, ms, _⟩, ⟨⟨ps1, t1, _⟩, ⟨ps2, u1, _⟩⟩⟩ := H
  simp only [LA.all, List.mem_cons, List.not_mem_nil, or_false] at q
  rcases q with q | q | q | q | q | q | q | q | q | q | q | q | q | q | q
  · exact n _ ms q.symm
  · exact n _ gnm q.symm
  · exact n _ gdN q.symm
  · exact n _ gbi q.symm
  · exact n _ gdv q.symm
  · exact n _ gdf q.symm
  · exact n _ ghh q.symm
  · exact n _ gfx q.symm
  · exact n _ ppr q.symm
  · exact n _ pdP q.symm
  · exact n _ ptL q.symm
  · exact n _ ptt q.symm
  · exact n _ pto q.symm
  · exact n _ t1 q.symm
  · exact n _ u1 q.symm
end

end
section
theorem kwo_Lsh : True := by
  k_with_none
  w_top off
  k_with "execs cons Assign cons" => (with_reducible refine seqN ?_); intro Qk1 nk1
  k_with "execs cons AugAssign cons" => (with_reducible refine seqN ?_); intro Qk1 nk1
  k_with "execs cons Expr cons" => (with_reducible refine seqN ?_); intro Qk1 nk1
  k_with "execs cons If cons" => (with_reducible refine seqQ ?_); intro Qk1 nk1 rk1
  k_with "execs cons For cons" => (with_reducible refine seqQ ?_); intro Qk1 nk1 rk1
  k_with "execs cons" => (with_reducible refine seq1 ?_)
  k_with "eval Constant int" => (with_reducible refine cInt ?_); intro tq1 kq1
  k_with "eval Constant str" => (with_reducible refine cStr ?_); intro tq1 kq1
  k_with "eval Name" => (k_here; k_dflt (refine' nameL ?Fn1 ?bn1 ?vn1 ?_; (case bn1 => decide +kernel); (case Fn1 => with_reducible assumption); (case vn1 => exact rfl); k_whole))
  exact trivial
theorem tab0 {q : Str} {g : Heap} {T : List (Addr × Obj)} : TabG q g T #[] := fun _ _ _ => ⟨trivial, fun pos cv e => by cases e⟩
theorem merged_mem : ∀ (ks acc : List (Str × Value)) (p : Str × Value), p ∈ merged acc ks → p.1 ∈ acc.map (·.1) ∨ p.1 ∈ ks.map (·.1)
  | [], acc, p, h => .inl (List.mem_map_of_mem h)
  | a :: ks, acc, p, h => by
    rcases merged_mem ks (stored acc a.1 a.2) p h with h | h
    · obtain ⟨p', h1, h2⟩ := List.mem_map.mp h
      rcases stored_mem h1 with e | ⟨q, hq, e⟩
      · exact .inr (by rw [← h2, e]; exact .head _)
      · exact .inl (by rw [← h2, ← e]; exact List.mem_map_of_mem hq)
    · exact .inr (.tail _ h)
theorem va_of_mem {k : Str} : ∀ {kvs : List (Str × Value)}, k ∈ kvs.map (·.1) → ∃ v, valueAt kvs k = some v
  | a :: t, h => by
    rw [va_cons]
    by_cases q : a.1 = k
    · exact ⟨_, by rw [if_pos q]⟩
    · rw [if_neg q]
      rcases List.mem_cons.mp h with h | h
      · exact absurd h.symm q
      · exact va_of_mem h
/-! the same, by the addresses one by one -/
section
variable {w : World} {A A₀ : Around} {S g : Heap} {L : Addr} {m : Str → Option Value} {env : Env} {p : Program} {loose : List Str} {mean : ExcName → Option Value} {mg mb : Str → Option Value} {s : Shared} {Q E : Value → Shared → Prop} {R W TT : List (Addr × Obj)} {i : Nat} {kvs kf : List (Str × Value)} {src nm dN bi dv df hh fx pr dP tL tt to : Addr}
theorem digit_X {k : Int} {tk : Tok} (hA : A.handled = none) (hfr : A.frames = some [env]) (hdp : A.depth ≤ 580) (hu : A.units ≤ 3700) (B : Below A₀ S [] g) (F : Fr g L s.heap m) (N : News g L s.heap R) (hf : env.frame = some L) (hk : env.scope.kind = .function)
    (X : (hd.heap_1 w.params).In S) (T : Top p loose mean mg mb S) (O : Ord ⟨src, nm, dN, bi, dv, df, hh, fx, pr, dP, tL, tt, to⟩) (H : LSt w g ⟨src, nm, dN, bi, dv, df, hh, fx, pr, dP, tL, tt, to⟩ i R) (hk0 : 0 < k) (hk2 : k ≤ 16)
    (hret : ∀ r t R' h' tk', 0 ≤ r → r < k → LSt w g ⟨src, nm, dN, bi, dv, df, hh, fx, pr, dP, tL, tt, to⟩ i R' → Cut (LA.all ⟨src, nm, dN, bi, dv, df, hh, fx, pr, dP, tL, tt, to⟩) R R' → Fr g L h' m → News g L h' R' → Q (.int r t) { s with heap := h', toks := tk' }) :
    wpAny (model pg w) A (PySem.call (.ref 380) [.ref src, .int k tk]) Q E s := digit_L hA hfr hdp hu B F N hf hk X T O H hk0 hk2 hret
theorem turned_X (hA : A.handled = none) (hfr : A.frames = some [env]) (hdp : A.depth ≤ 460) (hu : A.units ≤ 1900) (B : Below A₀ S [] g) (F : Fr g L s.heap m) (N : News g L s.heap R) (hf : env.frame = some L) (hk : env.scope.kind = .function)
    (X : (hd.heap_1 w.params).In S) (H0 : S.get? 0 = some (boot_o_0 w.params)) (H1 : S.get? 1 = some (boot_o_1 w.params)) (T : Top p loose mean mg mb S) (O : Ord ⟨src, nm, dN, bi, dv, df, hh, fx, pr, dP, tL, tt, to⟩) (H : LSt w g ⟨src, nm, dN, bi, dv, df, hh, fx, pr, dP, tL, tt, to⟩ i R) (hi : i ≤ 20)
    (hret : ∀ R' h' tk', LSt w g ⟨src, nm, dN, bi, dv, df, hh, fx, pr, dP, tL, tt, to⟩ (i + 1) R' → Cut (LA.all ⟨src, nm, dN, bi, dv, df, hh, fx, pr, dP, tL, tt, to⟩) R R' → Fr g L h' m → News g L h' R' → Q (.bool true) { s with heap := h', toks := tk' }) :
    wpAny (model pg w) A (PySem.call (.ref 415) [.ref src, .ref nm, .ref hh, .ref fx]) Q E s := turned_L hA hfr hdp hu B F N hf hk X H0 H1 T O H hi hret
theorem printed_X (hA : A.handled = none) (hfr : A.frames = some [env]) (hdp : A.depth ≤ 460) (hu : A.units ≤ 1900) (B : Below A₀ S [] g) (F : Fr g L s.heap m) (N : News g L s.heap R) (hf : env.frame = some L) (hk : env.scope.kind = .function)
    (X : (hd.heap_1 w.params).In S) (H0 : S.get? 0 = some (boot_o_0 w.params)) (H1 : S.get? 1 = some (boot_o_1 w.params)) (T : Top p loose mean mg mb S) (O : Ord ⟨src, nm, dN, bi, dv, df, hh, fx, pr, dP, tL, tt, to⟩) (H : LSt w g ⟨src, nm, dN, bi, dv, df, hh, fx, pr, dP, tL, tt, to⟩ i R) (hi : i ≤ 20)
    (hret : ∀ R' h' tk', LSt w g ⟨src, nm, dN, bi, dv, df, hh, fx, pr, dP, tL, tt, to⟩ (i + 1) R' → Cut (LA.all ⟨src, nm, dN, bi, dv, df, hh, fx, pr, dP, tL, tt, to⟩) R R' → Fr g L h' m → News g L h' R' → Q (.bool true) { s with heap := h', toks := tk' }) :
    wpAny (model pg w) A (PySem.call (.ref 422) [.ref src, .ref pr, .ref to]) Q E s := printed_L hA hfr hdp hu B F N hf hk X H0 H1 T O H hi hret
theorem valueOf_X {x : Str} {tk : Tok} {d : PyData} {I' : Addr} {it : Obj} (hA : A.handled = none) (hfr : A.frames = some [env]) (hdp : A.depth ≤ 580) (hu : A.units ≤ 3700) (B : Below A₀ S [] g) (F : Fr g L s.heap m) (N : News g L s.heap W) (hf : env.frame = some L) (hk : env.scope.kind = .function)
    (X : (hd.heap_1 w.params).In S) (H1 : S.get? 1 = some (boot_o_1 w.params)) (T : Top p loose mean mg mb S) (G : GlS w g ⟨src, nm, dN, bi, dv, df, hh, fx, pr, dP, tL, tt, to⟩ i R TT kvs kf) (sT : ∀ p ∈ TT, p ∈ R) (sR : ∀ p ∈ R, p ∈ W) (D : HDat g TT kvs x d) (mi : (I', it) ∈ W) (hit : it.cls = .type "list_iterator")
    (hret : ∀ v t o h' tk', TVG g ((t, o) :: TT) v d → Fr g L h' m → News g L h' ((t, o) :: W) → @Ne Nat t I' → Q v { s with heap := h', toks := tk' }) :
    wpAny (model pg w) A (PySem.call (.ref 179) [.ref nm, .str x tk]) Q E s := valueOf_L hA hfr hdp hu B F N hf hk X H1 T G sT sR D mi hit hret
theorem held_X {x : Str} {tk : Tok} {d : PyData} {I' : Addr} {it : Obj} (hA : A.handled = none) (hfr : A.frames = some [env]) (hdp : A.depth ≤ 560) (hu : A.units ≤ 3400) (B : Below A₀ S [] g) (F : Fr g L s.heap m) (N : News g L s.heap W) (hf : env.frame = some L) (hk : env.scope.kind = .function)
    (X : (hd.heap_1 w.params).In S) (H1 : S.get? 1 = some (boot_o_1 w.params)) (T : Top p loose mean mg mb S) (G : GlS w g ⟨src, nm, dN, bi, dv, df, hh, fx, pr, dP, tL, tt, to⟩ i R TT kvs kf) (sT : ∀ p ∈ TT, p ∈ R) (sR : ∀ p ∈ R, p ∈ W) (D : HDat g TT kvs x d) (mi : (I', it) ∈ W) (hit : it.cls = .type "list_iterator")
    (hret : ∀ v t o h' tk', TVG g ((t, o) :: TT) v d → Fr g L h' m → News g L h' ((t, o) :: W) → @Ne Nat t I' → Q v { s with heap := h', toks := tk' }) :
    wpAny (model pg w) A (PySem.call (.ref 408) [.ref hh, .str x tk]) Q E s := held_L hA hfr hdp hu B F N hf hk X H1 T G sT sR D mi hit hret
/-! the state at the start of the loop -/
theorem ord_start (_H : LSt w g ⟨src, nm, dN, bi, dv, df, hh, fx, pr, dP, tL, tt, to⟩ i R) (a : @LT.lt Nat _ 410 src ∧ @LT.lt Nat _ 417 src ∧ @LT.lt Nat _ src bi ∧ @LT.lt Nat _ bi dN ∧ @LT.lt Nat _ dN nm ∧ @LT.lt Nat _ nm dv ∧ @LT.lt Nat _ dv df ∧ @LT.lt Nat _ df dP ∧ @LT.lt Nat _ dP pr ∧ @LT.lt Nat _ pr tL ∧ @LT.lt Nat _ tL tt ∧ @LT.lt Nat _ tt to ∧ @LT.lt Nat _ to hh ∧ @LT.lt Nat _ hh fx) : Ord ⟨src, nm, dN, bi, dv, df, hh, fx, pr, dP, tL, tt, to⟩ := ⟨a⟩
theorem pack {h : Heap} {c : LA} (N : News g L h R) (H : LSt w g c i R) : ∃ R, News g L h R ∧ LSt w g c i R := ⟨R, N, H⟩
theorem lst_start {h : Heap} {x y : Int} {tx ty : Tok} {n nn nt nl : Nat} {mt : Tok} {a b : Int} {t u v : Tok} {ob odv odf oh ofx : Obj} {ha hb hc : Int} {ta tb tc : Tok} {n0 : Nat} {tl : List (Addr × Obj)} {ks ks2 : List (Str × Value)}
    (_N : News g L h W) (ms : (src, listOf #[.int x tx, .int y ty] n) ∈ W) (hx : 0 ≤ x) (hy : 0 ≤ y) (hy2 : y < 4294967296) (g1 : (nm, instObj 201 dN) ∈ W) (g2 : (dN, gD bi dv df ha hb hc ta tb tc n0) ∈ W) (g3 : (bi, ob) ∈ W) (hob : ob.IsDictOf (SD w) kB) (g4 : (dv, odv) ∈ W) (hdv : odv.IsDictOf (SD w) kvs) (g5 : (df, odf) ∈ W) (hdf : odf.IsDictOf (SD w) (merged [] ks))
    (g6 : (hh, oh) ∈ W) (hdh : oh.IsDictOf (SD w) kvs) (g7 : (fx, ofx) ∈ W) (hfx : ofx.IsDictOf (SD w) (merged [] ks2)) (e1 : ks.map (·.1) = kvs.map (·.1)) (e2 : ks2.map (·.1) = kvs.map (·.1)) (v1 : ∀ p ∈ ks, p.2 = .bool true) (v2 : ∀ p ∈ ks2, p.2 = .bool true) (hT : Tups tl) (sT : ∀ p ∈ tl, p ∈ W) (V : VG g tl kvs) (hl : kvs.length ≤ 20)
    (p1 : (pr, instObj 229 dP) ∈ W) (p2 : (dP, gP tL 0 a b t u v) ∈ W) (p3 : (tL, listOf #[] nl) ∈ W) (p4 : (to, listOf #[.int 0 mt, .ref tt] nn) ∈ W) (p5 : (tt, listOf #[] nt) ∈ W) (t1 : (410, tabObj #[]) ∈ W) (t2 : (417, tabObj #[]) ∈ W) : LSt w g ⟨src, nm, dN, bi, dv, df, hh, fx, pr, dP, tL, tt, to⟩ 0 W := by
  have ek : ks = ks2 := by
    refine List.ext_getElem? fun j => ?_
    have h1 : (ks.map (·.1))[j]? = (ks2.map (·.1))[j]? := by rw [e1, e2]
    rw [List.getElem?_map, List.getElem?_map] at h1
    cases z1 : ks[j]? with
    | none => rw [z1] at h1; cases z2 : ks2[j]? with
      | none => rfl
      | some q => rw [z2] at h1; cases h1
    | some q1 =>
      rw [z1] at h1
      cases z2 : ks2[j]? with
      | none => rw [z2] at h1; cases h1
      | some q2 =>
        rw [z2] at h1
        have a1 := v1 q1 (List.mem_of_getElem? z1)
        have a2 := v2 q2 (List.mem_of_getElem? z2)
        have a3 : q1.1 = q2.1 := Option.some.inj h1
        exact congrArg some (Prod.ext a3 (a1.trans a2.symm))
  subst ek
  have lk : ks.length = kvs.length := lenK e1
  have ml := merged_length_le [] ks
  simp only [List.length_nil] at ml
  refine ⟨tl, kvs, merged [] ks, QT.of hT, sT, ⟨g1, ⟨_, _, _, _, _, _, _, g2⟩, ⟨_, g3, hob⟩, ⟨_, g4, hdv⟩, ⟨_, g5, hdf⟩, ⟨_, g6, hdh⟩, ⟨_, g7, hfx⟩, V, ?_, by omega, by omega⟩, ⟨p1, 0, #[], mt, nn, nt, nl, a, b, t, u, v, p2, p3, p4, p5, by omega, by omega, by simp, ?_⟩, ⟨x, y, tx, ty, n, ms, hx, hy, hy2⟩, ⟨⟨#[], t1, tab0, trivial⟩, ⟨#[], t2, tab0, trivial⟩⟩⟩
  · intro p hp
    rcases merged_mem ks [] p hp with h | h
    · cases h
    · exact va_of_mem (e1 ▸ h)
  · intro v hv; cases hv
theorem ne_LR {v v' : Value} {d : PyData} {q1 q2 : Addr × Obj} (F : Fr g L s.heap m) (N : News g L s.heap W) (t1 : TVG g (q1 :: TT) v d) (t2 : TVG g (q2 :: TT) v' d) (m1 : q1 ∈ W) (m2 : q2 ∈ W) (sT : ∀ p ∈ TT, p ∈ R) (sR : ∀ p ∈ R, p ∈ W) (nd : Nice d) (hu : A.units ≤ 5000) (h : Q (.bool false) s) :
    wpAny (model pg w) A (compareOp .NotEq v v') Q E s :=
  ne_L F N t1 t2 (List.forall_mem_cons.mpr ⟨m1, fun p hp => sR p (sT p hp)⟩) (List.forall_mem_cons.mpr ⟨m2, fun p hp => sR p (sT p hp)⟩) nd hu h
def MidP (w : World) (g : Heap) (L : Addr) (m : Str → Option Value) (c : LA) (i : Nat) (I : Addr) (oI : Obj) (s : Shared) (f : Flow) (s' : Shared) : Prop :=
  f = .next ∧ ∃ h' tk R', s' = { s with heap := h', toks := tk } ∧ Fr g L h' m ∧ News g L h' R' ∧ LSt w g c i R' ∧ (I, oI) ∈ R'
theorem MidP.intro {h' : Heap} {tk : Nat} {c : LA} {I : Addr} {oI : Obj} (F : Fr g L h' m) (N : News g L h' R) (H : LSt w g c i R) (hI : (I, oI) ∈ R) : MidP w g L m c i I oI s .next { s with heap := h', toks := tk } := ⟨rfl, h', tk, R, rfl, F, N, H, hI⟩
theorem iter_rangeL {env : Env} {x : Str} {body : List Stmt} {Q : Flow → Shared → Prop} {c : LA} {r : Addr} {b₀ : Int} {t₀ u₀ v₀ : Tok} {m₀ : Str → Option Value} (stored : List Str)
    (hh : A.handled = none) (hr : IsRange s.heap r 0 b₀ 1 t₀ u₀ v₀) (hb : 0 ≤ b₀) (hb2 : b₀ ≤ 17) (F : Fr g env.locals s.heap m₀) (N : News g env.locals s.heap R) (H : LSt w g c 0 R)
    (turn : ∀ i k t (u : Str → Option Value) h tk I oI R₁, i < 17 → LSt w g c i R₁ → ¬ Quiet oI → I ∉ c.all → (I, oI) ∈ R₁ → Fr g env.locals h (fun y => if y = x then some (.int k t) else if stored.contains y then u y else m₀ y) → News g env.locals h R₁ →
      wpAny (model pg w) A (execs body env) (TurnJ g env.locals x stored m₀ (fun R' => LSt w g c (i + 1) R') I oI { s with heap := h, toks := tk } Q) E { s with heap := h, toks := tk })
    (done : ∀ i (u : Str → Option Value) h tk R', i < 18 → LSt w g c i R' → Fr g env.locals h (fun y => if y = x then u y else if stored.contains y then u y else m₀ y) → News g env.locals h R' → Q .next { s with heap := h, toks := tk }) :
    wpAny (model pg w) A (pyIter (.ref r)) (fun it s₂ => LoopAtV pg w A g env x body Q E it s₂) E s := by
  refine iter_rangeJ (J := fun i R' => LSt w g c i R') stored hh hr (small_one (by decide) (by decide) (by omega) (by omega)) (rangeSize_nat _ _) F N H (fun i k t u h tk I oI R₁ hi hJ hq hoff F₁ N₁ => ?_) (fun u h tk R' hJ F' N' => done _ u h tk R' (by omega) hJ F' N')
  exact turn i k t u h tk I oI ((I, oI) :: R₁) (by omega) (hJ.mono fun p hp => .tail _ hp) (fun z => z.elim hq.1 fun ⟨q, vs, t, e, f⟩ => hq.2 vs q t e f) (hJ.off_all hoff) (.head _) F₁ N₁
theorem turn_end {x : Str} {stored : List Str} {m₀ m' : Str → Option Value} {c : LA} {I : Addr} {oI : Obj} {s₁ : Shared} {h' : Heap} {tk : Nat} (F : Fr g L h' m') (N : News g L h' W) (sR : ∀ p ∈ R, p ∈ W) (H : LSt w g c i R) (hI : (I, oI) ∈ R) (nq : ¬ Quiet oI) (na : I ∉ c.all) (hm : ∀ y, y ≠ x → stored.contains y = false → m' y = m₀ y) :
    TurnEndJ g L x stored m₀ (fun R' => LSt w g c i R') I oI s₁ { s₁ with heap := h', toks := tk } := by
  have NR : News g L h' R := fun p hp => N p (sR p hp)
  refine ⟨h', tk, m', but [I] R, rfl, F, List.forall_mem_cons.mpr ⟨NR _ hI, fun p hp => NR p (mem_but hp).1⟩, fun p hp q => (mem_but hp).2 (List.mem_singleton.mpr q), H.drop NR hI nq na, hm⟩
theorem turn_cut {env : Env} {st : Stmt} {ss : List Stmt} {Q : Flow → Shared → Prop} {c : LA} {I : Addr} {oI : Obj} (F : Fr g L s.heap m) (_H : LSt w g c i R) (_hI : (I, oI) ∈ R) (first : wpAny (model pg w) A (exec st env) (MidP w g L m c (i + 1) I oI s) E s)
    (rest : ∀ h' tk R', Fr g L h' m → News g L h' R' → LSt w g c (i + 1) R' → (I, oI) ∈ R' → wpAny (model pg w) A (execs ss env) Q E { s with heap := h', toks := tk }) : wpAny (model pg w) A (execs (st :: ss) env) Q E s := by
  refine wpAny_execs_cons (wpAny_mono first (fun f s' M => ?_) fun _ _ e => e)
  obtain ⟨rfl, h', tk, R', rfl, F', N', H', hI'⟩ := M
  exact rest h' tk R' F' N' H' hI'
theorem cut_mem {as : List Nat} {R' : List (Addr × Obj)} {I : Addr} {oI : Obj} (C : Cut as R R') (h : (I, oI) ∈ R) (n : I ∉ as) : (I, oI) ∈ R' := C _ h n
theorem unr_end {I : Addr} {it : Obj} {rest : (Str → Option Value) → List (Addr × Obj) → Prop} {s₁ : Shared} {h' : Heap} {tk : Nat} {m' : Str → Option Value} (F : Fr g L h' m') (N : News g L h' ((I, it) :: W)) (l1 : ∀ p ∈ W, p.1 < I) (r : rest m' W) : UnrEnd g L s₁ I it rest { s₁ with heap := h', toks := tk } :=
  ⟨h', tk, m', W, rfl, F, N, fun p hp => Nat.ne_of_lt (l1 p hp), r⟩
theorem names_front {h' : Heap} (N : News g L h' R) (G : GlS w g ⟨src, nm, dN, bi, dv, df, hh, fx, pr, dP, tL, tt, to⟩ i R TT kvs kf) : ∃ ha hb hc ta tb tc nn, News g L h' ((nm, instObj 201 dN) :: (dN, gD bi dv df ha hb hc ta tb tc nn) :: R) :=
  let ⟨a, b, c, d, e, f, n, h⟩ := G.dN
  ⟨a, b, c, d, e, f, n, List.forall_mem_cons.mpr ⟨N _ G.nm, List.forall_mem_cons.mpr ⟨N _ h, N⟩⟩⟩
end

end
section
theorem kwo_Lod : True := by
  k_with_none
  w_top off
  k_with "execs cons Assign cons" => (with_reducible refine seqN ?_); intro Qk1 nk1
  k_with "execs cons AugAssign cons" => (with_reducible refine seqN ?_); intro Qk1 nk1
  k_with "execs cons Expr cons" => (with_reducible refine seqN ?_); intro Qk1 nk1
  k_with "execs cons If cons" => (with_reducible refine seqQ ?_); intro Qk1 nk1 rk1
  k_with "execs cons For cons" => (with_reducible refine seqQ ?_); intro Qk1 nk1 rk1
  k_with "execs cons" => (with_reducible refine seq1 ?_)
  k_with "eval Constant int" => (with_reducible refine cInt ?_); intro tq1 kq1
  k_with "eval Constant str" => (with_reducible refine cStr ?_); intro tq1 kq1
  k_with "eval Name" => (k_here; k_dflt (refine' nameL ?Fn1 ?bn1 ?vn1 ?_; (case bn1 => decide +kernel); (case Fn1 => with_reducible assumption); (case vn1 => exact rfl); k_whole))
  exact trivial
section
variable {w : World} {A : Around} {E : Value → Shared → Prop} {s : Shared} {env : Env} {g : Heap} {x : Str} {body : List Stmt} {Q : Flow → Shared → Prop}
/-! a loop over a dict that fills another one -/
def TurnEndD (g : Heap) (L : Addr) (x : Str) (stored : List Str) (m₀ : Str → Option Value) (J : Obj → Prop) (du I : Addr) (oI : Obj) (W : List (Addr × Obj)) (s₁ s₂ : Shared) : Prop :=
  ∃ h' tk m' o', s₂ = { s₁ with heap := h', toks := tk } ∧ Fr g L h' m' ∧ News g L h' ((du, o') :: (I, oI) :: W) ∧ J o' ∧ ∀ y, y ≠ x → stored.contains y = false → m' y = m₀ y
def TurnD (g : Heap) (L : Addr) (x : Str) (stored : List Str) (m₀ : Str → Option Value) (J : Obj → Prop) (du I : Addr) (oI : Obj) (W : List (Addr × Obj)) (s₁ : Shared) (Q : Flow → Shared → Prop) (f : Flow) (s₂ : Shared) : Prop :=
  match f with
  | .ret v => Q (.ret v) s₂
  | .brk => Q .next s₂
  | _ => TurnEndD g L x stored m₀ J du I oI W s₁ s₂
theorem iter_dictJ {d du : Addr} {od o₀ : Obj} {kvs : List (Str × Value)} {m₀ : Str → Option Value} {W : List (Addr × Obj)} (stored : List Str) (J : Nat → Obj → Prop)
    (hh : A.handled = none) (F : Fr g env.locals s.heap m₀) (N : News g env.locals s.heap ((du, o₀) :: W)) (hm : (d, od) ∈ W) (hd : od.IsDictOf (SD w) kvs) (lo : (d == sysModules) = false) (hW : ∀ p ∈ W, p.1 ≠ du) (hJ : J 0 o₀)
    (turn : ∀ i k y t (u : Str → Option Value) h tk I oI o₁, kvs[i]? = some (k, y) → J i o₁ → (∀ p ∈ (I, oI) :: W, p.1 ≠ du) → Fr g env.locals h (fun y => if y = x then some (.str k t) else if stored.contains y then u y else m₀ y) → News g env.locals h ((du, o₁) :: (I, oI) :: W) →
      wpAny (model pg w) A (execs body env) (TurnD g env.locals x stored m₀ (J (i + 1)) du I oI W { s with heap := h, toks := tk } Q) E { s with heap := h, toks := tk })
    (done : ∀ (u : Str → Option Value) h tk o', J kvs.length o' → Fr g env.locals h (fun y => if y = x then u y else if stored.contains y then u y else m₀ y) → News g env.locals h ((du, o') :: W) → Q .next { s with heap := h, toks := tk }) :
    wpAny (model pg w) A (pyIter (.ref d)) (fun it s₂ => LoopAtV pg w A g env x body Q E it s₂) E s := by
  obtain ⟨ep, ha⟩ := KdkAt.of hd
  have nd := N (d, od) (.tail _ hm)
  have hdt := ha.dictAt nd.1
  have hlt : d < s.heap.objs.size := Heap.lt_size nd.1
  refine wpAny_pyIter_dict lo hdt ?_
  have up : ∀ b o, s.heap.get? b = some o → (s.heap.push { cls := .type "dict_keyiterator", data := .fields #[.ref d, .int 0 0, .int (kvs.length : Int) 0, .int (ep : Int) 0] }).get? b = some o := fun b o e => Heap.get?_push_of_some _ e
  refine ⟨_, _, _, kvs.length, _, _, m₀, (du, o₀) :: W, fun i m₁ news₁ => (∃ o, news₁ = (du, o) :: W ∧ J i o) ∧ ∀ y, y ≠ x → stored.contains y = false → m₁ y = m₀ y, rfl, Walks.dictKeys (knd := SD w) hh s.heap.objs.size d (Nat.ne_of_lt hlt) kvs ep, ?_, ?_, ?_, ⟨⟨_, Heap.get?_push_size _ rfl, rfl, rfl⟩, ha.dictAt (up _ _ nd.1)⟩, F.push _, (fun p hp => ⟨up _ _ (N p hp).1, (N p hp).2⟩), ⟨⟨o₀, rfl, hJ⟩, fun _ _ _ => rfl⟩, ?_, ?_⟩
  · intro q
    rcases List.mem_cons.mp q with q | q
    · exact absurd F.ns.lt (q ▸ Nat.lt_irrefl _)
    · exact nd.2.1 (List.mem_singleton.mp q).symm
  · intro b hb
    rw [List.mem_singleton.mp hb]
    exact next_is_new F
  · intro p hp hI
    exact absurd (Heap.lt_size (N p hp).1) ((List.mem_singleton.mp hI) ▸ Nat.lt_irrefl _)
  · rintro i v m₁ news₁ s₁ own ⟨hh', tk', rfl⟩ hin ⟨k, y, e1, e2⟩ ⟨⟨o₁, rfl, hJ₁⟩, hm₁⟩ hoff hown hown2 hfp hst F₁ N₁
    obtain ⟨t, rfl⟩ := PySem.Value.isStrOf_shape e2
    obtain ⟨oI, hI, _⟩ := id hst.1
    have hmem := hfp s.heap.objs.size (.head _) (next_is_new F) _ hI
    have N₂ : News g env.locals hh' ((du, o₁) :: (s.heap.objs.size, oI) :: W) := fun p hp => by
      rcases List.mem_cons.mp hp with rfl | hp
      · exact N₁ _ (List.mem_append_right _ (.head _))
      · rcases List.mem_cons.mp hp with rfl | hp
        · exact N₁ _ (List.mem_append_left _ hmem)
        · exact N₁ p (List.mem_append_right _ (.tail _ hp))
    have e : (fun y => if y = x then some (Value.str k t) else m₁ y) = fun y => if y = x then some (Value.str k t) else if stored.contains y then m₁ y else m₀ y := by
      funext y
      by_cases h1 : y = x
      · simp [h1]
      · simp only [if_neg h1]
        cases h2 : stored.contains y with
        | true => simp
        | false => simp only [Bool.false_eq_true, if_false]; exact hm₁ y h1 h2
    rw [e] at F₁
    have duI : du ≠ s.heap.objs.size := fun q => hoff (du, o₁) (.head _) (by rw [show (du, o₁).1 = s.heap.objs.size from q]; exact .head _)
    have ho : ∀ p ∈ (s.heap.objs.size, oI) :: W, p.1 ≠ du := List.forall_mem_cons.mpr ⟨Ne.symm duI, hW⟩
    refine wpAny_mono (turn i k y t m₁ hh' tk' _ oI o₁ e1 hJ₁ ho F₁ N₂) (fun f s₂ p => ?_) fun _ _ e => e
    have fin : TurnEndD g env.locals x stored m₀ (J (i + 1)) du s.heap.objs.size oI W { s with heap := hh', toks := tk' } s₂ → LoopStepU g env.locals [s.heap.objs.size] own (fun m₁ news₁ => (∃ o, news₁ = (du, o) :: W ∧ J (i + 1) o) ∧ ∀ y, y ≠ x → stored.contains y = false → m₁ y = m₀ y) { s with heap := hh', toks := tk' } .next s₂ := by
      rintro ⟨h', tk, m', o', e, F', N', hj, hm'⟩
      refine ⟨rfl, h', tk, m', (du, o') :: W, e, F', fun p hp => ?_, fun p hp q => ?_, ⟨o', rfl, hj⟩, hm'⟩
      · rcases List.mem_append.mp hp with hp | hp
        · have h3 := hown2 p hp
          rcases List.mem_cons.mp (hown p hp) with h4 | h4
          · rw [h4, hI] at h3
            have h5 : p = (s.heap.objs.size, oI) := Prod.ext h4 (Option.some.inj h3).symm
            rw [h5]; exact N' _ (.tail _ (.head _))
          · have h4' := List.mem_singleton.mp h4
            have h6 := (N₁ (d, od) (List.mem_append_right _ (.tail _ hm))).1
            rw [h4', h6] at h3
            have h5 : p = (d, od) := Prod.ext h4' (Option.some.inj h3).symm
            rw [h5]; exact N' _ (.tail _ (.tail _ hm))
        · rcases List.mem_cons.mp hp with rfl | hp
          · exact N' _ (.head _)
          · exact N' p (.tail _ (.tail _ hp))
      · have q' := List.mem_singleton.mp q
        rcases List.mem_cons.mp hp with rfl | hp
        · exact duI q'
        · exact absurd (Heap.lt_size (N p (.tail _ hp)).1) (by rw [q']; exact Nat.lt_irrefl _)
    cases f with
    | ret v => exact p
    | brk => exact p
    | next => exact fin p
    | cont => exact fin p
  · rintro h' tk m' news' F' N' _ ⟨⟨o', rfl, hj⟩, hm'⟩
    refine done m' h' tk o' hj ?_ N'
    have e : (fun y => if y = x then m' y else if stored.contains y then m' y else m₀ y) = m' := by
      funext y
      by_cases h1 : y = x
      · simp [h1]
      · simp only [if_neg h1]
        cases h2 : stored.contains y with
        | true => simp
        | false => simp only [Bool.false_eq_true, if_false]; exact (hm' y h1 h2).symm
    rw [e]; exact F'
end

end
section
theorem kwo_Lke : True := by
  k_with_none
  w_top off
  k_with "execs cons Assign cons" => (with_reducible refine seqN ?_); intro Qk1 nk1
  k_with "execs cons AugAssign cons" => (with_reducible refine seqN ?_); intro Qk1 nk1
  k_with "execs cons Expr cons" => (with_reducible refine seqN ?_); intro Qk1 nk1
  k_with "execs cons If cons" => (with_reducible refine seqQ ?_); intro Qk1 nk1 rk1
  k_with "execs cons For cons" => (with_reducible refine seqQ ?_); intro Qk1 nk1 rk1
  k_with "execs cons" => (with_reducible refine seq1 ?_)
  k_with "eval Constant int" => (with_reducible refine cInt ?_); intro tq1 kq1
  k_with "eval Constant str" => (with_reducible refine cStr ?_); intro tq1 kq1
  k_with "eval Name" => (k_here; k_dflt (refine' nameL ?Fn1 ?bn1 ?vn1 ?_; (case bn1 => decide +kernel); (case Fn1 => with_reducible assumption); (case vn1 => exact rfl); k_whole))
  exact trivial
section
variable {w : World} {g : Heap} {L : Addr} {R W TT : List (Addr × Obj)} {i : Nat} {kvs kf : List (Str × Value)} {src nm dN bi dv df hh fx pr dP tL tt to : Addr} {h' : Heap}
theorem done_front (N : News g L h' R) (G : GlS w g ⟨src, nm, dN, bi, dv, df, hh, fx, pr, dP, tL, tt, to⟩ i R TT kvs kf) : ∃ ha hb hc ta tb tc nn odv oh ofx, odv.IsDictOf (SD w) kvs ∧ oh.IsDictOf (SD w) kvs ∧ ofx.IsDictOf (SD w) kf ∧ (dv, odv) ∈ R ∧ (hh, oh) ∈ R ∧ (fx, ofx) ∈ R ∧ News g L h' ((nm, instObj 201 dN) :: (dN, gD bi dv df ha hb hc ta tb tc nn) :: (dv, odv) :: (hh, oh) :: (fx, ofx) :: R) :=
  let ⟨a, b, c, d, e, f, n, h⟩ := G.dN
  let ⟨o1, m1, d1⟩ := G.dv
  let ⟨o2, m2, d2⟩ := G.hh
  let ⟨o3, m3, d3⟩ := G.fx
  ⟨a, b, c, d, e, f, n, o1, o2, o3, d1, d2, d3, m1, m2, m3, List.forall_mem_cons.mpr ⟨N _ G.nm, List.forall_mem_cons.mpr ⟨N _ h, List.forall_mem_cons.mpr ⟨N _ m1, List.forall_mem_cons.mpr ⟨N _ m2, List.forall_mem_cons.mpr ⟨N _ m3, N⟩⟩⟩⟩⟩⟩
theorem split_off {du : Addr} {odu : Obj} {kd : List (Str × Value)} (N : News g L h' W) (hd : odu.IsDictOf (SD w) kd) (m : (du, odu) ∈ W) : ∃ R3, News g L h' ((du, odu) :: R3) ∧ (∀ p ∈ R3, p.1 ≠ du) ∧ Cut [du] W R3 :=
  ⟨but [du] W, List.forall_mem_cons.mpr ⟨N _ m, fun p hp => N p (mem_but hp).1⟩, fun p hp q => (mem_but hp).2 (List.mem_singleton.mpr q), but_cut fun _ h => h⟩
end
abbrev kD0 (v1 v2 : Value) : List (Str × Value) := [(Str.ofString "add", v1), (Str.ofString "sub", v2)]
abbrev dBi (x : Str) : PyData := .tuple [.str (Str.ofString "builtin"), .str x]
theorem due_base {du t1 t2 : Addr} {odu : Obj} {a b c d : Tok} (N : News g L h' W) (hd : odu.IsDictOf (SD w) (kD0 (.ref t1) (.ref t2))) (m1 : (t1, twoTup (Str.ofString "add") a b) ∈ W) (m2 : (t2, twoTup (Str.ofString "sub") c d) ∈ W) (m : (du, odu) ∈ W) :
    ∃ R3 v1 v2, News g L h' ((du, odu) :: R3) ∧ odu.IsDictOf (SD w) (kD0 v1 v2) ∧ TVG g R3 v1 (dBi (Str.ofString "add")) ∧ TVG g R3 v2 (dBi (Str.ofString "sub")) ∧ (∀ p ∈ R3, p.1 ≠ du) ∧ Cut [du] W R3 := by
  obtain ⟨R3, n3, o3, c3⟩ := split_off N hd m
  have off : ∀ {t : Addr} {x : Str} {a b : Tok}, (t, twoTup x a b) ∈ W → (t, twoTup x a b) ∈ R3 := fun {t x a b} q => c3 _ q fun z => by
    have z' : t = du := List.mem_singleton.mp z
    have e1 := (N _ q).1
    have e2 := (N _ m).1
    rw [show (t, twoTup x a b).1 = du from z', e2] at e1
    have e3 : odu = twoTup x a b := Option.some.inj e1
    exact dict_cls hd (by rw [e3]; rfl)
  exact ⟨R3, _, _, n3, hd, fun h k n => .tup (n _ (off m1)) rfl rfl (.cons (.str _ _) (.cons (.str _ _) .nil)), fun h k n => .tup (n _ (off m2)) rfl rfl (.cons (.str _ _) (.cons (.str _ _) .nil)), o3, c3⟩
theorem pick_vals {kvs : List (Str × Value)} : ∀ {kf : List (Str × Value)}, (∀ p ∈ kf, ∃ v, valueAt kvs p.1 = some v) → ∃ ks : List (Str × Value), ks.map (·.1) = kf.map (·.1) ∧ ∀ p ∈ ks, valueAt kvs p.1 = some p.2
  | [], _ => ⟨[], rfl, List.forall_mem_nil _⟩
  | a :: t, h => by
    obtain ⟨v, e⟩ := h a (.head _)
    obtain ⟨ks, e1, e2⟩ := pick_vals (kf := t) fun p hp => h p (.tail _ hp)
    exact ⟨(a.1, v) :: ks, by rw [List.map_cons, List.map_cons, e1], List.forall_mem_cons.mpr ⟨e, e2⟩⟩
theorem pick_at {kvs ks kf : List (Str × Value)} (e1 : ks.map (·.1) = kf.map (·.1)) (e2 : ∀ p ∈ ks, valueAt kvs p.1 = some p.2) {j : Nat} {k : Str} {y : Value} (e : kf[j]? = some (k, y)) : ∃ v, ks[j]? = some (k, v) ∧ valueAt kvs k = some v := by
  have h1 : (ks.map (·.1))[j]? = (kf.map (·.1))[j]? := by rw [e1]
  rw [List.getElem?_map, List.getElem?_map, e] at h1
  cases z : ks[j]? with
  | none => rw [z] at h1; cases h1
  | some q =>
    rw [z] at h1
    have h2 : q.1 = k := Option.some.inj h1
    have h3 := e2 q (List.mem_of_getElem? z)
    rw [h2] at h3
    exact ⟨q.2, congrArg some (Prod.ext h2 rfl), h3⟩
theorem alt_ne {d : Nat} {l : List (Addr × Obj)} : AllLt d l → ∀ p ∈ l, p.1 ≠ d := by
  induction l with
  | nil => intro _ p hp; cases hp
  | cons a t ih =>
    intro h p hp
    obtain ⟨h1, h2⟩ : @LT.lt Nat _ a.1 d ∧ AllLt d t := h
    rcases List.mem_cons.mp hp with rfl | hp
    · exact Nat.ne_of_lt h1
    · exact ih h2 p hp
/-! two dicts compared -/
section
variable {w : World} {A : Around} {E : Value → Shared → Prop} {s : Shared} {g : Heap} {L : Addr} {m : Str → Option Value} {W : List (Addr × Obj)} {Q : Value → Shared → Prop}
theorem isd_nodup {o : Obj} {kvs : List (Str × Value)} (h : o.IsDictOf (SD w) kvs) : (kvs.map (·.1)).Nodup := let ⟨_, _, _, _, _, _, n⟩ := h; n
theorem hits_same {kvs : List (Str × Value)} : ∀ l : List (Str × Value), (∀ p ∈ l, valueAt kvs p.1 = some p.2) → KeqHits A s kvs l true
  | [], _ => .nil
  | (k, v) :: r, h => .hit (e := true) (b := true) (h (k, v) (.head _)) (SeqAt.EqAt.same v) (hits_same r fun p hp => h p (.tail _ hp))
theorem va_self {kvs : List (Str × Value)} (n : (kvs.map (·.1)).Nodup) : ∀ p ∈ kvs, valueAt kvs p.1 = some p.2 := fun p hp => by
  obtain ⟨i, hi⟩ := List.mem_iff_getElem?.mp hp
  exact valueAt_of_get n (by rw [hi])
theorem eq_same {a b : Addr} {oa ob : Obj} {kvs : List (Str × Value)} (N : News g L s.heap W) (ma : (a, oa) ∈ W) (mb : (b, ob) ∈ W) (ha : oa.IsDictOf (SD w) kvs) (hb : ob.IsDictOf (SD w) kvs) (la : (a == sysModules) = false) (lb : (b == sysModules) = false) (hu : A.units ≤ 5000) (h : Q (.bool true) s) :
    wpAny (model pg w) A (compareOp .Eq (.ref a) (.ref b)) Q E s := by
  refine keq_eq (r := true) la lb (kda_dict N ma ha) (kda_dict N mb hb) (by have e : cLine = 9900 := rfl; omega) (fun _ => hits_same _ (va_self (isd_nodup ha))) ?_
  simpa using h
/-! pointwise -/
def PW (h : Heap) (ka kb : List (Str × Value)) : Prop := ∀ k, (valueAt ka k = none ∧ valueAt kb k = none) ∨ ∃ v v' d, valueAt ka k = some v ∧ valueAt kb k = some v' ∧ TV h v d ∧ TV h v' d ∧ Nice d
theorem pw_stored {h : Heap} {ka kb : List (Str × Value)} {k : Str} {v : Value} {d : PyData} (H : PW h ka kb) (t : TV h v d) (n : Nice d) : PW h (stored ka k v) (stored kb k v) := fun x => by
  by_cases q : k = x
  · subst q; exact .inr ⟨v, v, d, vs_same, vs_same, t, t, n⟩
  · rw [vs_skip q, vs_skip q]; exact H x
theorem pw_merged {h : Heap} : ∀ (more : List (Str × Value)) {ka kb : List (Str × Value)}, PW h ka kb → (∀ p ∈ more, ∃ d, TV h p.2 d ∧ Nice d) → PW h (merged ka more) (merged kb more)
  | [], _, _, H, _ => H
  | p :: r, _, _, H, hv => by
    obtain ⟨d, t, n⟩ := hv p (.head _)
    exact pw_merged r (pw_stored (k := p.1) H t n) fun q hq => hv q (.tail _ hq)
theorem any_keys {ka kb : List (Str × Value)} (e : ka.map (·.1) = kb.map (·.1)) (k : Str) : ka.any (fun kv => kv.1 = k) = kb.any (fun kv => kv.1 = k) := by
  have h : ∀ l : List (Str × Value), l.any (fun kv => kv.1 = k) = (l.map (·.1)).any (fun x => x = k) := fun l => by rw [List.any_map]; rfl
  rw [h, h, e]
theorem keys_stored {ka kb : List (Str × Value)} (e : ka.map (·.1) = kb.map (·.1)) (k : Str) (v v' : Value) : (stored ka k v).map (·.1) = (stored kb k v').map (·.1) := by
  rw [stored_keys, stored_keys, any_keys e k, e]
theorem keys_merged : ∀ (more : List (Str × Value)) {ka kb : List (Str × Value)}, ka.map (·.1) = kb.map (·.1) → (merged ka more).map (·.1) = (merged kb more).map (·.1)
  | [], _, _, e => e
  | p :: r, _, _, e => keys_merged r (keys_stored e p.1 p.2 p.2)
theorem hits_pw {ka kb : List (Str × Value)} (H : PW s.heap ka kb) (n : (ka.map (·.1)).Nodup) (hu : A.units ≤ 5001) : ∀ l : List (Str × Value), (∀ p ∈ l, p ∈ ka) → KeqHits A s kb l true
  | [], _ => .nil
  | (k, v) :: r, h => by
    have e := va_self n (k, v) (h _ (.head _))
    rcases H k with ⟨q, _⟩ | ⟨v1, v2, d, q1, q2, t1, t2, nd⟩
    · rw [e] at q; cases q
    · rw [e] at q1
      cases q1
      refine .hit (e := true) (b := true) q2 ?_ (hits_pw H n hu r fun p hp => h p (.tail _ hp))
      have z := PySem.SeqAt.eqAt_reads d d A s v v2 [] [] t1.reads t2.reads nd.1 nd.1 (by have := nd.2.1; have e : cLine = 9900 := rfl; omega)
      rw [nd.2.2] at z
      exact z
theorem eq_pw {a b : Addr} {oa ob : Obj} {ka kb : List (Str × Value)} (N : News g L s.heap W) (ma : (a, oa) ∈ W) (mb : (b, ob) ∈ W) (ha : oa.IsDictOf (SD w) ka) (hb : ob.IsDictOf (SD w) kb) (la : (a == sysModules) = false) (lb : (b == sysModules) = false) (H : PW s.heap ka kb) (ek : ka.map (·.1) = kb.map (·.1)) (hu : A.units ≤ 5000) (h : Q (.bool true) s) :
    wpAny (model pg w) A (compareOp .Eq (.ref a) (.ref b)) Q E s := by
  refine keq_eq (r := true) la lb (kda_dict N ma ha) (kda_dict N mb hb) (by have e : cLine = 9900 := rfl; omega) (fun _ => hits_pw (A := A.in1) H (isd_nodup ha) (by show A.units + 1 ≤ 5001; omega) _ fun _ h => h) ?_
  have : ka.length = kb.length := by rw [← List.length_map (f := (·.1)) (as := ka), ek, List.length_map]
  simpa [this] using h
end

end
section
theorem kwo_Lkf : True := by
  k_with_none
  w_top off
  k_with "execs cons Assign cons" => (with_reducible refine seqN ?_); intro Qk1 nk1
  k_with "execs cons AugAssign cons" => (with_reducible refine seqN ?_); intro Qk1 nk1
  k_with "execs cons Expr cons" => (with_reducible refine seqN ?_); intro Qk1 nk1
  k_with "execs cons If cons" => (with_reducible refine seqQ ?_); intro Qk1 nk1 rk1
  k_with "execs cons For cons" => (with_reducible refine seqQ ?_); intro Qk1 nk1 rk1
  k_with "execs cons" => (with_reducible refine seq1 ?_)
  k_with "eval Constant int" => (with_reducible refine cInt ?_); intro tq1 kq1
  k_with "eval Constant str" => (with_reducible refine cStr ?_); intro tq1 kq1
  k_with "eval Name" => (k_here; k_dflt (refine' nameL ?Fn1 ?bn1 ?vn1 ?_; (case bn1 => decide +kernel); (case Fn1 => with_reducible assumption); (case vn1 => exact rfl); k_whole))
  exact trivial
section
variable {w : World} {A A₀ : Around} {S g : Heap} {L : Addr} {m : Str → Option Value} {env : Env} {p : Program} {loose : List Str} {mean : ExcName → Option Value} {mg mb : Str → Option Value} {s : Shared} {Q E : Value → Shared → Prop} {R W TT : List (Addr × Obj)} {i : Nat} {kvs kf : List (Str × Value)} {src nm dN bi dv df hh fx pr dP tL tt to : Addr}
theorem constants_L (hA : A.handled = none) (hfr : A.frames = some [env]) (hdp : A.depth ≤ 460) (hu : A.units ≤ 1900) (B : Below A₀ S [] g) (F : Fr g L s.heap m) (N : News g L s.heap W) (hf : env.frame = some L) (hk : env.scope.kind = .function)
    (X : (hd.heap_1 w.params).In S) (H1 : S.get? 1 = some (boot_o_1 w.params)) (T : Top p loose mean mg mb S) (O : Ord ⟨src, nm, dN, bi, dv, df, hh, fx, pr, dP, tL, tt, to⟩) (G : GlS w g ⟨src, nm, dN, bi, dv, df, hh, fx, pr, dP, tL, tt, to⟩ i R TT kvs kf) (sR : ∀ p ∈ R, p ∈ W) (hi : i ≤ 20)
    (hret : ∀ d od ks ks2 h' tk', od.IsDictOf (SD w) (merged (merged [] ks) ks2) → ks.map (·.1) = kB.map (·.1) → (∀ p ∈ ks, ∃ t a b, p.2 = .ref t ∧ h'.get? t = some (twoTup p.1 a b)) → ks2.map (·.1) = kf.map (·.1) → (∀ p ∈ ks2, valueAt kvs p.1 = some p.2) → Fr g L h' m → News g L h' ((d, od) :: W) → Q (.ref d) { s with heap := h', toks := tk' }) :
    wpAny (model pg w) A (PySem.call (.ref 184) [.ref nm]) Q E s := by
  obtain ⟨gnm, ⟨ha, hb, hc, ta, tb, tc, nn, gdN⟩, ⟨ob, gbi, hob⟩, ⟨odv, gdv, hdv⟩, ⟨odf, gdf, hdf⟩, _, _, gV, gk, l1, l2⟩ := id G
  have o := O.a
  dsimp only at o
  refine wpAny_up (A' := Ap 3 [env]) (constants_spec (site B F hf hk) X H1 T ⟨N.get (sR _ gnm), ⟨_, _, _, _, _, _, _, N.get (sR _ gdN)⟩, ⟨ob, N.get (sR _ gbi), hob⟩⟩ (N.get (sR _ gdv)) hdv (N.get (sR _ gdf)) hdf (off B N (sR _ gnm) hf) (off B N (sR _ gdN) hf) (off B N (sR _ gbi) hf) (off B N (sR _ gdv) hf) (off B N (sR _ gdf) hf) ⟨o.2.2.2.1, o.2.2.2.2.1, o.2.2.2.2.2.1, o.2.2.2.2.2.2.1⟩ gk (by omega) (by omega) ?_) hA hdp (fun l e => by cases e; exact hfr) rfl hu
  intro d od ks ks2 h' tk' e1 e2 e3 e4 e5 e6 st hn
  exact hret d od ks ks2 h' tk' e2 e3 e4 e5 e6 (F.keeps st) (adds F N (fun p hp => ⟨st _ _ (N p hp).1, (N p hp).2⟩) d _ e1 hn).1
theorem front2 {h : Heap} {a b : Addr × Obj} (N : News g L h W) (m1 : a ∈ W) (m2 : b ∈ W) : News g L h (a :: b :: W) := List.forall_mem_cons.mpr ⟨N _ m1, List.forall_mem_cons.mpr ⟨N _ m2, N⟩⟩
theorem same_pick {kvs ks ks' kf : List (Str × Value)} (a1 : ks.map (·.1) = kf.map (·.1)) (a2 : ∀ p ∈ ks, valueAt kvs p.1 = some p.2) (b1 : ks'.map (·.1) = kf.map (·.1)) (b2 : ∀ p ∈ ks', valueAt kvs p.1 = some p.2) : ks = ks' := by
  refine List.ext_getElem? fun j => ?_
  have h1 : (ks.map (·.1))[j]? = (ks'.map (·.1))[j]? := by rw [a1, b1]
  rw [List.getElem?_map, List.getElem?_map] at h1
  cases z1 : ks[j]? with
  | none => rw [z1] at h1; cases z2 : ks'[j]? with
    | none => rfl
    | some q => rw [z2] at h1; cases h1
  | some q1 =>
    rw [z1] at h1
    cases z2 : ks'[j]? with
    | none => rw [z2] at h1; cases h1
    | some q2 =>
      rw [z2] at h1
      have c1 := a2 q1 (List.mem_of_getElem? z1)
      have c2 := b2 q2 (List.mem_of_getElem? z2)
      have c3 : q1.1 = q2.1 := Option.some.inj h1
      rw [c3, c2] at c1
      exact congrArg some (Prod.ext c3 (Option.some.inj c1).symm)
theorem n_as : Str.ofString "add" ≠ Str.ofString "sub" := by decide +kernel
theorem pw_base {h : Heap} {x y v1 v2 : Value} (a : TV h x (dBi (Str.ofString "add"))) (b : TV h v1 (dBi (Str.ofString "add"))) (c : TV h y (dBi (Str.ofString "sub"))) (d : TV h v2 (dBi (Str.ofString "sub"))) : PW h (kD0 x y) (kD0 v1 v2) := fun k => by
  by_cases q : Str.ofString "add" = k
  · subst q
    exact .inr ⟨x, v1, _, by rw [va_cons, if_pos rfl], by rw [va_cons, if_pos rfl], a, b, nice_two (by decide +kernel) (by decide +kernel)⟩
  · by_cases q2 : Str.ofString "sub" = k
    · subst q2
      exact .inr ⟨y, v2, _, by rw [va_cons, if_neg q, va_cons, if_pos rfl], by rw [va_cons, if_neg q, va_cons, if_pos rfl], c, d, nice_two (by decide +kernel) (by decide +kernel)⟩
    · exact .inl ⟨by rw [va_cons, if_neg q, va_cons, if_neg q2]; rfl, by rw [va_cons, if_neg q, va_cons, if_neg q2]; rfl⟩
theorem base2 {ks : List (Str × Value)} (e : ks.map (·.1) = kB.map (·.1)) : ∃ x y, ks = kD0 x y ∧ merged [] ks = kD0 x y := by
  match ks, e with
  | [(k1, x), (k2, y)], e =>
    have e' : [k1, k2] = [Str.ofString "add", Str.ofString "sub"] := e
    injection e' with e1 e2
    injection e2 with e2 _
    subst e1 e2
    refine ⟨x, y, rfl, merged_nil_of_nodup _ ?_⟩
    show [Str.ofString "add", Str.ofString "sub"].Nodup
    decide +kernel
theorem two_tv {h : Heap} {t : Addr} {x : Str} {a b : Tok} (e : h.get? t = some (twoTup x a b)) : TV h (.ref t) (dBi x) := .tup e rfl rfl (.cons (.str _ _) (.cons (.str _ _) .nil))
theorem due_pw {h₁ : Heap} {ks ks3 : List (Str × Value)} {v1 v2 : Value} {R3 : List (Addr × Obj)} (F : Fr g L h₁ m) (N : News g L h₁ W) (s3 : ∀ p ∈ R3, p ∈ W) (sT : ∀ p ∈ TT, p ∈ W) (e : ks.map (·.1) = kB.map (·.1)) (h3 : ∀ p ∈ ks, ∃ t a b, p.2 = .ref t ∧ h₁.get? t = some (twoTup p.1 a b)) (t1 : TVG g R3 v1 (dBi (Str.ofString "add"))) (t2 : TVG g R3 v2 (dBi (Str.ofString "sub"))) (V : VG g TT kvs) (vk : ∀ p ∈ ks3, valueAt kvs p.1 = some p.2) :
    PW h₁ (merged (merged [] ks) ks3) (merged (kD0 v1 v2) ks3) ∧ (merged (merged [] ks) ks3).map (·.1) = (merged (kD0 v1 v2) ks3).map (·.1) := by
  obtain ⟨x, y, rfl, em⟩ := base2 e
  rw [em]
  obtain ⟨ta, a1, b1, ex, ea⟩ := h3 (Str.ofString "add", x) (.head _)
  obtain ⟨tb, a2, b2, ey, eb⟩ := h3 (Str.ofString "sub", y) (.tail _ (.head _))
  have ex' : x = .ref ta := ex
  have ey' : y = .ref tb := ey
  subst ex' ey'
  exact ⟨pw_merged ks3 (pw_base (two_tv ea) (t1.tv F N s3) (two_tv eb) (t2.tv F N s3)) fun p hp => let ⟨_, d, t, n⟩ := V _ _ (vk p hp); ⟨d, t.tv F N sT, n⟩, keys_merged ks3 rfl⟩
end

end
end
local macro_rules | `(tactic| walk_at $s:str) => `(tactic| k_extra $s)
local macro_rules | `(tactic| walk_at "qstep") => `(tactic| k_end; first | (with_reducible refine Nx.use (by with_reducible assumption) ?_; (try (rename Nx _ _ => nz1; clear nz1)); (try walk_at "qnorm")) | with_reducible refine Rv.use (by with_reducible assumption) ?_ | with_reducible refine Rt.ret (by with_reducible assumption) ?_ | with_reducible refine Rt.brk (by with_reducible assumption) ?_ | with_reducible refine Rt.cont (by with_reducible assumption) ?_)
local macro_rules | `(tactic| k_steps) => `(tactic| repeat' (first | walk_at "qstep" | (k_unfold; (try dsimp only)) | (k_end; kc_close) | walk1 | (dsimp only; walk1) | (leave1; walk_say "STEP leave1"; (try dsimp only)) | fail "no step"))
section
theorem kwo_LawP : True := by
  k_with_none
  w_top off
  k_with "execs cons Assign cons" => (with_reducible refine seqN ?_); intro Qk1 nk1
  k_with "execs cons AugAssign cons" => (with_reducible refine seqN ?_); intro Qk1 nk1
  k_with "execs cons Expr cons" => (with_reducible refine seqN ?_); intro Qk1 nk1
  k_with "execs cons If cons" => (with_reducible refine seqQ ?_); intro Qk1 nk1 rk1
  k_with "execs cons For cons" => (with_reducible refine seqQ ?_); intro Qk1 nk1 rk1
  k_with "execs cons" => (with_reducible refine seq1 ?_)
  k_with "eval Constant int" => (with_reducible refine cInt ?_); intro tq1 kq1
  k_with "eval Constant str" => (with_reducible refine cStr ?_); intro tq1 kq1
  k_with "eval Name" => (k_here; k_dflt (refine' nameL ?Fn1 ?bn1 ?vn1 ?_; (case bn1 => decide +kernel); (case Fn1 => with_reducible assumption); (case vn1 => exact rfl); k_whole))
  exact trivial
theorem ret_bool {r : RowW} (hr : r.returns = .bool) (hp : r.post = .eq .res (.lit (.bool true))) (args : List WData) : r.claim.post args (.bool true) args = true := by
  refine postW_of (X := true) ?_ ?_ rfl
  · rw [hr]; rfl
  · rw [hp]; simp [WTm.value, PySem.W.same]
theorem genP {M : Model} {A : Around} {t : Sem Flow} {Q : Flow → Shared → Prop} {E : Value → Shared → Prop} {s : Shared} (h : ∀ Q₁ : Flow → Shared → Prop, (∀ v s', Q (.ret v) s' → Q₁ (.ret v) s') → wpAny M A t Q₁ (fun _ _ => False) s) : wpAny M A t Q E s := wpAny_mono (h Q fun _ _ h => h) (fun _ _ h => h) fun _ _ h => h.elim
theorem genEnv {M : Model} {A : Around} {b : List Stmt} {n : Str} {sc : Scope} {L f : Addr} {cd : Value} {Q : Flow → Shared → Prop} {E : Value → Shared → Prop} {s : Shared} (h : let env := envX n sc L f cd []; wpAny M (A.deeper env) (execs b env) Q E s) : wpAny M (A.deeper (envOf n sc L f cd)) (execs b (envOf n sc L f cd)) Q E s := h
theorem list_ne_dict : Value.type "list" ≠ Value.type "dict" := by decide
theorem fillit49 (P : Params) : hd.heap_1 P = hd.heap_1 P ∧ PySem.Challenge.rw_pq0711_01 = PySem.Challenge.rw_pq0711_01 := by
  k_fill
  exact ⟨rfl, rfl⟩
theorem kw_LawP_1 : True := by
  k_with "qnorm" => dsimp only
  exact trivial
local macro_rules | `(tactic| lcg_sub) => `(tactic| first | exact List.forall_mem_nil _ | refine List.forall_mem_cons.mpr ⟨by k_mem, by lcg_sub⟩)
local macro_rules | `(tactic| k_in) => `(tactic| first | with_reducible assumption | exact Frag.In.keeps (by with_reducible assumption) (Fr.keep (by with_reducible assumption)))
local macro_rules | `(tactic| k_all) => `(tactic| first | exact List.forall_mem_nil _ | (exact alt_ne (And.right (And.right (And.right (And.right (And.right (by assumption))))))) | (refine' tail_ne ?N ?T ?s ?m ?c; (case N => k_asm); (case T => assumption); (case m => k_mem); (case s => exact fun p hp => by repeat' (first | exact hp | refine List.Mem.tail _ ?_)); (case c => first | exact dict_cls (by assumption) | exact dict_ne_tup | exact list_ne_tup | exact ref_ne_tup | exact iter_ne_tup (by assumption))) | (refine' List.forall_mem_cons.mpr ⟨?a, ?b⟩; (case a => k_ne); (case b => k_all)))
theorem kw_LawP_2 : True := by
  k_with "call ref" => (k_here; (with_reducible show wpAny _ _ (PySem.call (Value.ref 373) _) _ _ _); refine hold ?_)
  exact trivial
theorem kw_LawP_3 : True := by
  k_with "call ref" => (k_here; (with_reducible show wpAny _ _ (PySem.call (Value.ref 387) _) _ _ _); refine hold ?_)
  exact trivial
theorem kw_LawP_4 : True := by
  k_with "call type:dict" => (k_here; refine hold ?_)
  exact trivial
theorem kw_LawP_5 : True := by
  k_with "eval ListComp" => (k_here; k_dflt (refine ListComp_D (by k_asm) (by with_unfolding_all rfl) (by decide) (by rfl) (by decide) (by rfl) ?_))
  exact trivial
theorem kw_LawP_6 : True := by
  k_with "subscriptTail" => (k_here; (with_reducible show wpAny _ _ (subscriptTail _ _ (Value.ref _) (Value.str _ _)) _ _ _); k_dflt (refine' kda_item (knd := PySem.strKind _ _) ?NKw ?mKw ?dKw (strKind_is _ _ _ _) ?vKw ?_; (case NKw => k_asm); (case mKw => first | k_mem | exact List.Mem.tail _ (List.Mem.tail _ (by assumption))); (case dKw => with_reducible assumption); (case vKw => with_reducible assumption)))
  exact trivial
theorem kw_LawP_7 : True := by
  k_with "compareOp NotEq" => (k_here; (with_reducible show wpAny _ _ (compareOp CmpOp.NotEq _ _) _ _ _); refine hold ?_)
  exact trivial
theorem kw_LawP_8 : True := by
  k_with "compareOp NotEq ref" => (k_here; (with_reducible show wpAny _ _ (compareOp CmpOp.NotEq _ _) _ _ _); refine hold ?_)
  exact trivial
theorem kw_LawP_9 : True := by
  k_with "call ref" => (k_here; (with_reducible show wpAny _ _ (PySem.call (Value.ref 179) _) _ _ _); k_dflt (refine' valueOf_X rfl rfl ?hdpKw ?huKw ?BKw ?FKw ?NKw rfl rfl ?XKw ?H1Kw ?TKw ?GKw ?sTKw ?sRKw ?DKw ?miKw ?hitKw ?_; (case hdpKw => exact Nat.le_of_ble_eq_true rfl); (case huKw => exact Nat.le_of_ble_eq_true rfl); (case BKw => with_reducible assumption); (case FKw => k_asm); (case NKw => k_asm); (case XKw => with_reducible assumption); (case H1Kw => with_reducible assumption); (case TKw => with_reducible assumption); (case GKw => with_reducible assumption); (case sTKw => with_reducible assumption); (case sRKw => exact fun p hp => by repeat' (first | exact hp | refine List.Mem.tail _ ?_)); (case DKw => with_reducible assumption); (case hitKw => with_reducible assumption); (case miKw => k_mem)); intro v'q t'q o'q h'q tk'q tv'q F'q N'q l1q; (try dsimp only); (try k_sweep))
  exact trivial
theorem kw_LawP_10 : True := by
  k_with "call ref" => (k_here; (with_reducible show wpAny _ _ (PySem.call (Value.ref 408) _) _ _ _); k_dflt (refine' held_X rfl rfl ?hdpKw ?huKw ?BKw ?FKw ?NKw rfl rfl ?XKw ?H1Kw ?TKw ?GKw ?sTKw ?sRKw ?DKw ?miKw ?hitKw ?_; (case hdpKw => exact Nat.le_of_ble_eq_true rfl); (case huKw => exact Nat.le_of_ble_eq_true rfl); (case BKw => with_reducible assumption); (case FKw => k_asm); (case NKw => k_asm); (case XKw => with_reducible assumption); (case H1Kw => with_reducible assumption); (case TKw => with_reducible assumption); (case GKw => with_reducible assumption); (case sTKw => with_reducible assumption); (case sRKw => exact fun p hp => by repeat' (first | exact hp | refine List.Mem.tail _ ?_)); (case DKw => with_reducible assumption); (case hitKw => with_reducible assumption); (case miKw => k_mem)); intro v'q t'q o'q h'q tk'q tv'q F'q N'q l1q; (try dsimp only); (try k_sweep))
  exact trivial
theorem kw_LawP_11 : True := by
  k_with "compareOp NotEq" => (k_here; (with_reducible show wpAny _ _ (compareOp CmpOp.NotEq _ _) _ _ _); k_dflt (refine' ne_LR ?FKw ?NKw ?t1Kw ?t2Kw ?m1Kw ?m2Kw ?sTKw ?sRKw ?ndKw ?huKw ?_; (case FKw => k_asm); (case NKw => k_asm); (case t1Kw => with_reducible assumption); (case t2Kw => with_reducible assumption); (case m1Kw => k_mem); (case m2Kw => k_mem); (case sTKw => with_reducible assumption); (case sRKw => exact fun p hp => by repeat' (first | exact hp | refine List.Mem.tail _ ?_)); (case ndKw => with_reducible assumption); (case huKw => exact Nat.le_of_ble_eq_true rfl)); (rename News _ _ _ _ => Nz'q); (have Ny'q := ntail (ntail Nz'q)); (clear Nz'q); (rename @Ne Nat _ _ => z1'q); (clear z1'q); (rename @Ne Nat _ _ => z2'q); (clear z2'q); (rename TVG _ _ _ _ => z3'q); (clear z3'q); (rename TVG _ _ _ _ => z4'q); (clear z4'q))
  exact trivial
theorem kw_LawP_12 : True := by
  k_with "compareOp NotIn str ref" => (k_here; k_dflt (refine kdg_notin (knd := PySem.strKind _ _) (by k_asm) (by k_mem) (by k_asm) (by assumption) (strKind_is _ _ _ _) true (by simp only [*]; rfl) ?_); (try dsimp only [Bool.not_true, Bool.not_false]))
  exact trivial
theorem kw_LawP_13 : True := by
  k_with "exec For Name Name cons nil" => (k_here; refine hold ?_)
  exact trivial
theorem kw_LawP_14 : True := by
  k_with "exec For Name Call cons nil" => (k_here; refine hold ?_)
  exact trivial
theorem kw_LawP_15 : True := by
  k_with "call ref" => (k_here; (with_reducible show wpAny _ _ (PySem.call (Value.ref 380) _) _ _ _); k_dflt (refine' digit_X rfl rfl ?hdpKw ?huKw ?BKw ?FKw ?NKw rfl rfl ?XKw ?TKw ?OKw ?HKw ?k0Kw ?k2Kw ?_; (case hdpKw => exact Nat.le_of_ble_eq_true rfl); (case huKw => exact Nat.le_of_ble_eq_true rfl); (case BKw => with_reducible assumption); (case FKw => k_asm); (case NKw => k_asm); (case XKw => with_reducible assumption); (case TKw => with_reducible assumption); (case HKw => with_reducible assumption); (case OKw => with_reducible assumption); (case k0Kw => decide); (case k2Kw => decide)); intro r'q t'q R'q h'q tk'q r0'q r1'q H'q C'q F'q N'q; (try (have hI'q := cut_mem C'q (by assumption) (by assumption))); (try dsimp only); (try k_sweep))
  exact trivial
theorem kw_LawP_16 : True := by
  k_with "call ref" => (k_here; (with_reducible show wpAny _ _ (PySem.call (Value.ref 415) _) _ _ _); k_dflt (refine' turned_X rfl rfl ?hdpKw ?huKw ?BKw ?FKw ?NKw rfl rfl ?XKw ?H0Kw ?H1Kw ?TKw ?OKw ?HKw ?hiKw ?_; (case hdpKw => exact Nat.le_of_ble_eq_true rfl); (case huKw => exact Nat.le_of_ble_eq_true rfl); (case BKw => with_reducible assumption); (case FKw => k_asm); (case NKw => k_asm); (case XKw => with_reducible assumption); (case H0Kw => with_reducible assumption); (case H1Kw => with_reducible assumption); (case TKw => with_reducible assumption); (case HKw => with_reducible assumption); (case OKw => with_reducible assumption); (case hiKw => omega)); intro R'q h'q tk'q H'q C'q F'q N'q; (try (have hI'q := cut_mem C'q (by assumption) (by assumption))); (try dsimp only); (try k_sweep))
  exact trivial
theorem kw_LawP_17 : True := by
  k_with "call ref" => (k_here; (with_reducible show wpAny _ _ (PySem.call (Value.ref 422) _) _ _ _); k_dflt (refine' printed_X rfl rfl ?hdpKw ?huKw ?BKw ?FKw ?NKw rfl rfl ?XKw ?H0Kw ?H1Kw ?TKw ?OKw ?HKw ?hiKw ?_; (case hdpKw => exact Nat.le_of_ble_eq_true rfl); (case huKw => exact Nat.le_of_ble_eq_true rfl); (case BKw => with_reducible assumption); (case FKw => k_asm); (case NKw => k_asm); (case XKw => with_reducible assumption); (case H0Kw => with_reducible assumption); (case H1Kw => with_reducible assumption); (case TKw => with_reducible assumption); (case HKw => with_reducible assumption); (case OKw => with_reducible assumption); (case hiKw => omega)); intro R'q h'q tk'q H'q C'q F'q N'q; (try (have hI'q := cut_mem C'q (by assumption) (by assumption))); (try dsimp only); (try k_sweep))
  exact trivial
theorem kw_LawP_18 : True := by
  k_with "pyIter ref" => (k_here; refine hold ?_)
  exact trivial
theorem kw_LawP_19 : True := by
  k_with "UnrEnd" => (k_dflt (refine' unr_end ?FKw ?NKw ?lKw ⟨?mKw, ?_⟩; (case FKw => k_asm); (case NKw => k_asm); (case lKw => with_reducible assumption); (case mKw => k_mem)))
  exact trivial
theorem kw_LawP_20 : True := by
  k_with "newTuple" => (k_here; k_dflt (refine' kup_newTuple ?FKw ?NKw ?_ ?zKw; (case FKw => k_asm); (case NKw => k_asm); (case zKw => kmk_size)); intro D'q h'q F'q N'q l1q; (try k_lt l1q); (try k_sweep))
  exact trivial
theorem kw_LawP_21 : True := by
  k_with "eval Dict" => (k_here; k_dflt (refine' kdn_str ?qKw ?FKw ?NKw ?bKw ?aKw ?lKw ?eKw ?nKw ?_; (case qKw => rfl); (case FKw => k_asm); (case NKw => k_asm); (case bKw => exact Top.nolimit (by k_asm)); (case aKw => rfl); (case lKw => rfl); (case eKw => exact List.cons_ne_nil _ _); (case nKw => exact Nat.le_of_ble_eq_true rfl)); intro d'q h'q o'q F'q N'q l1q lo'q hd'q; (try k_lt l1q))
  exact trivial
theorem kw_LawP_22 : True := by
  k_with "setItem ref str" => (k_here; k_dflt (refine' kda_set (knd := PySem.strKind _ _) ?FKw ?NKw (UpdF.head ?oKw) ?dKw (strKind_is _ _ _ _) ?zKw ?_; (case FKw => k_asm); (case NKw => k_asm); (case oKw => assumption); (case dKw => with_reducible assumption); (case zKw => assumption)); intro h'q o'q F'q N'q hd'q; (try dsimp only at N'q); (try k_sweep))
  exact trivial
theorem kw_LawP_23 : True := by
  k_with "compareOp Eq ref ref" => (k_here; refine hold ?_)
  exact trivial
theorem kw_LawP_24 : True := by
  k_with "call ref" => (k_here; (with_reducible show wpAny _ _ (PySem.call (Value.ref 184) _) _ _ _); refine hold ?_)
  exact trivial
theorem kw_LawP_25 : True := by
  k_with "SrcD" => (refine hold ?_)
  exact trivial
theorem kw_LawP_26 : True := by
  k_with "ElemEnd" => (refine hold ?_)
  exact trivial
set_option maxHeartbeats 0 in
theorem law1 : PySem.Challenge.rw_pq0711_01.Holds := hd (by
  k_fill
  intro w s₀ s₁ mg mb G Y fa o pm cd doc dV kV ho hd hcd hD hmg hg args vals as hpre hlay hrd hwl hlo
  obtain ⟨Y, H0, H1⟩ := Y
  have KX := km_in_of Y
  km_tabs Y
  have X := (Ground.X G).1
  have V := (Ground.X G).2
  refine Ground.open G ?_
  intro T B D TE TW
  try (refine guard_noD D (by decide +kernel) ?_; clear D)
  km_lay T hmg ho hd cd
  clear hmg
  wrow_args hpre hlay hrd hwl hlo
  all_goals (
    first | refine callC_kw (enter_call ?_) | refine enter_call ?_
    w_top on
    kn_posts
    w_call any ho hd hcd hD T F
    clear hd
    kn_ghosts F T
    k_drop
    skip)
  all_goals (try clear hcd)
  all_goals (try clear hD)
  have H0g := ghost_ne (tabs := [(421, 417), (414, 410)]) H0 (by decide)
  have H1g := ghost_ne (tabs := [(421, 417), (414, 410)]) H1 (by decide)
  refine genP ?_
  intro Q₁ rq
  generalize hg0 : PySem.W.ghostOf s₁.heap [(421, 417), (414, 410)] = g₀ at *
  generalize hL0 : s₁.heap.objs.size = L₀ at *
  refine genEnv ?_
  intro env
  k_steps
  refine unhold ?_
  rename Fr _ _ _ _ => Fx
  rename News _ _ _ _ => Nx
  rename Below _ _ _ _ => Bx
  rename Top _ _ _ _ _ _ => Tx
  rename Frag.In _ _ => Xx
  rename Heap.IsList _ _ _ => lx
  rename IntsAre _ _ => ix
  rename ¬ (_ < _) => cx
  refine source_K rfl rfl (Nat.le_of_ble_eq_true rfl) (Nat.le_of_ble_eq_true rfl) Bx Fx Nx rfl rfl Xx Tx lx ix (by omega) (.head _) (.tail _ (.head _)) ?_
  intro src x y tx ty n h' tk' hx hy hy2 F' N' lt
  obtain ⟨la, lb⟩ := lt
  rename CodeHd _ _ _ => ch
  clear ch
  rename CodeHd _ _ _ => ch
  clear ch
  k_sweep
  k_steps
  refine unhold ?_
  rename Fr _ _ _ _ => Fx
  rename News _ _ _ _ => Nx
  refine glb_K (z := src) rfl rfl (Nat.le_of_ble_eq_true rfl) (Nat.le_of_ble_eq_true rfl) Bx Fx Nx rfl rfl Xx H0g H1g Tx (.head _) list_ne_tup list_ne_dict ?_
  intro nm dN bi dv df ob odv odf kvs ks ha hb hc ta tb tc nn tl h' tk' hob hdv hdf ek1 ek2 hT hV hP hI hTu hl F' N' ⟨l1, l2, l3, l4, l5⟩
  simp only [List.cons_append, List.nil_append] at N'
  clear Fx Nx
  have lodv := dict_low H1g (site_new Bx N' (.tail _ (.head _)))
  k_steps
  refine unhold ?_
  rename Fr _ _ _ _ => Fx
  rename News _ _ _ _ => Nx
  refine dcopy_K Fx Nx (by k_mem) hdv lodv (by have e : sizeLine = 16777216 := rfl; omega) ?_
  intro hh oh h' hdh F' N' lt
  k_lt lt
  clear Fx Nx
  have lohh := dict_low H1g (site_new Bx N' (.head _))
  k_steps
  refine unhold ?_
  rename Fr _ _ _ _ => Fx
  rename News _ _ _ _ => Nx
  refine SrcD.intro rfl Fx Nx (by k_mem) hdh lohh (by have e : sizeLine = 16777216 := rfl; omega) fun g' => ?_
  refine rest_all (fun _ _ v => v = .bool true) (fun _ _ _ _ h => h) (by k_mem) ?_ ?_
  · intro i k y v tups ys I oI C' oC D m₂ h tk E' e1 e2 hoC hmx Fy Ny off ne
    obtain ⟨t', rfl⟩ := PySem.Value.isStrOf_shape e2
    have off0 := off
    simp only [List.cons_append] at Ny off
    simp only [LCg.Off3] at off
    clear Fx Nx
    k_steps
    refine unhold ?_
    rename Fr _ _ _ _ => Fz
    rename News _ _ _ _ => Nz
    refine ElemEnd.intro [_] Fz Nz off0 (by repeat' (first | exact fun p hp => by repeat' (first | exact List.mem_append_left _ hp | refine List.Mem.tail _ ?_) | refine List.forall_mem_cons.mpr ⟨by k_mem, ?_⟩)) (by lcg_sub) (fun p hp => by repeat' (first | exact List.mem_append_right _ hp | refine List.Mem.tail _ ?_)) (by lcg_off) (.head _) rfl rfl e2 rfl
  · intro ys tups ks2 hp hk hr
    unfold LCg.FinE
    intro D' h' tk F' N' o1'
    clear Fx Nx
    simp only [List.cons_append] at N'
    k_steps
    refine unhold ?_
    rename Fr _ _ _ _ => Fx
    rename News _ _ _ _ => Nx
    refine dict_K rfl Fx Nx (.head _) (hp.mono fun p hp => .tail _ hp) (by rw [lenK hk]; have e : sizeLine = 16777216 := rfl; omega) ?_
    intro fx ofx h2 tk2 hfx F2 N2 l2 st2
    clear Fx Nx
    have lfx : @LT.lt Nat _ hh fx := l2 (hh, oh) (by k_mem)
    clear l2 st2
    obtain ⟨rP, eP, tP⟩ := hP
    obtain ⟨rI, eI, eI64⟩ := hI
    obtain ⟨rT, eT⟩ := hTu
    k_steps
    refine unhold ?_
    rename Fr _ _ _ _ => Fx
    rename News _ _ _ _ => Nx
    refine' ne_tv (da := .tuple [.str (Str.ofString "type"), .tuple [.str (Str.ofString "name"), .str (Str.ofString "P"), .tuple []]]) (db := .tuple [.str (Str.ofString "type"), .tuple [.str (Str.ofString "name"), .str (Str.ofString "P"), .tuple []]]) true (tP.tv Fx Nx (fun p hp => by repeat' (first | exact List.mem_append_left _ hp | refine List.Mem.tail _ ?_))) ?rb (by decide +kernel) (by decide +kernel) (Nat.le_of_ble_eq_true rfl) (by decide +kernel) ?_
    case rb => repeat' (first | exact TV.str _ _ | refine' tup3 (Nx.get (by k_mem)) ?_ ?_ ?_ | refine' tup0 (Nx.get (by k_mem)) | refine' tup2 (Nx.get (by k_mem)) ?_ ?_)
    dsimp only [Bool.not_true]
    k_steps
    refine unhold ?_
    obtain ⟨_, dI, tI, nI⟩ := hV _ _ eI
    refine' ne_L Fx Nx tI tI ?s1 ?s1 nI (Nat.le_of_ble_eq_true rfl) ?_
    case s1 => exact (fun p hp => by repeat' (first | exact List.mem_append_left _ hp | refine List.Mem.tail _ ?_))
    k_steps
    refine unhold ?_
    rename Fr _ _ _ _ => Fx
    rename News _ _ _ _ => Nx
    have HL := lst_start Nx (by k_mem) hx hy hy2 (by k_mem) (by k_mem) (by k_mem) hob (by k_mem) hdv (by k_mem) hdf (by k_mem) hdh (by k_mem) hfx ek1 hk ek2 hr hT (fun p hp => by repeat' (first | exact List.mem_append_left _ hp | refine List.Mem.tail _ ?_)) hV hl (by k_mem) (by k_mem) (by k_mem) (by k_mem) (by k_mem) (by k_mem) (by k_mem)
    have OR := ord_start HL (by refine ⟨?_, ?_, ?_, ?_, ?_, ?_, ?_, ?_, ?_, ?_, ?_, ?_, ?_, ?_⟩ <;> omega)
    obtain ⟨R, NR, HR⟩ := pack Nx HL
    clear Nx HL
    k_here
    refine' For_invVF Fx ?k1 ?k2 ?_
    (case k1 => exact rfl)
    (case k2 => exact rfl)
    k_steps
    refine unhold ?_
    rename IsRange _ _ _ _ _ _ _ _ => rgX
    rename Fr _ _ _ _ => Fx
    rename News _ _ _ _ => Nx
    rename LSt _ _ _ _ _ => Hx
    refine iter_rangeL [Str.ofString "name"] rfl rgX (by omega) (by omega) Fx Nx Hx ?turn ?done
    case turn =>
      (try clear rgX)
      (try clear Fx)
      (try clear Nx)
      (try clear Hx)
      (try clear HR)
      (try clear tI)
      (try clear nI)
      (try clear eP)
      (try clear tP)
      (try clear eI)
      (try clear eI64)
      (try clear eT)
      (try clear hV)
      (try clear hT)
      (try clear hob)
      (try clear hdv)
      (try clear hdf)
      (try clear hdh)
      (try clear hfx)
      intro i k t u h tk I oI R₁ hi HL₁ nq na hI F₁ N₁
      refine turn_cut F₁ HL₁ hI ?first ?rest
      case first =>
        k_steps
        all_goals (try dsimp only)
        all_goals (exact MidP.intro (by assumption) (by assumption) (by assumption) (by assumption))
      case rest =>
        (try clear HL₁)
        (try clear hI)
        (try clear F₁)
        (try clear N₁)
        intro h' tk' R' F' N' H' hI'
        obtain ⟨TT, kvs1, kf1, hTT, sTT, GG, _, _, _⟩ := id H'
        obtain ⟨ha1, hb1, hc1, ta1, tb1, tc1, nn1, N2⟩ := names_front N' GG
        clear N'
        obtain ⟨d0, D0, n0⟩ := hdat_ex GG.V (Str.ofString "f") (by decide +kernel)
        obtain ⟨d1, D1, n1⟩ := hdat_ex GG.V (Str.ofString "g") (by decide +kernel)
        obtain ⟨d2, D2, n2⟩ := hdat_ex GG.V (Str.ofString "add") (by decide +kernel)
        obtain ⟨d3, D3, n3⟩ := hdat_ex GG.V (Str.ofString "sub") (by decide +kernel)
        obtain ⟨d4, D4, n4⟩ := hdat_ex GG.V (Str.ofString "P") (by decide +kernel)
        obtain ⟨d5, D5, n5⟩ := hdat_ex GG.V (Str.ofString "x") (by decide +kernel)
        obtain ⟨d6, D6, n6⟩ := hdat_ex GG.V (Str.ofString "none") (by decide +kernel)
        k_steps
        refine unhold ?_
        rename Fr _ _ _ _ => Fy
        rename News _ _ _ _ => Ny
        with_unfolding_all refine' iter_listUnr (vs := [_, _, _, _, _, _, _]) ?h1 Fy Ny ?h2 ?h3 ?h4 ?_
        (case h1 => exact rfl)
        (case h2 => exact List.Mem.head _)
        (case h3 => exact rfl)
        (case h4 => exact rfl)
        intro I' l1
        (try clear Fy)
        (try clear Ny)
        k_steps
        rename Fr _ _ _ _ => Fz
        rename News _ _ _ _ => Nz
        refine turn_end Fz Nz (fun p hp => by repeat' (first | exact hp | refine List.Mem.tail _ ?_)) H' hI' nq na ?_
        intro y h1 h2
        have h3 : ¬ y = Str.ofString "name" := fun q => by subst q; simp at h2
        simp only [if_neg h3, if_neg h1, h2, Bool.false_eq_true, if_false]
    case done =>
      (try clear rgX)
      (try clear Fx)
      (try clear Nx)
      (try clear Hx)
      (try clear HR)
      (try clear tI)
      (try clear tP)
      (try clear eP eI eI64 eT)
      (try clear hV)
      (try clear hob hdv hdf hdh hfx)
      intro i u h tk R' hi H' F' N'
      obtain ⟨TT, kvs1, kf1, hTT, sTT, GG, PP, SS, TB⟩ := id H'
      obtain ⟨ha1, hb1, hc1, ta1, tb1, tc1, nn1, odv1, oh1, ofx1, hdv1, hdh1, hdx1, mv1, mh1, mx1, N2⟩ := done_front N' GG
      clear N'
      k_steps
      refine unhold ?_
      rename Fr _ _ _ _ => Fx
      rename News _ _ _ _ => Nx
      rename Obj.IsDictOf _ _ _ => hdu
      obtain ⟨R3, v1, v2, N3, hdu3, tv1, tv2, ne3, cut3⟩ := due_base Nx hdu (by k_mem) (by k_mem) (by k_mem)
      have mh3 : (hh, oh1) ∈ R3 := cut3 _ (by k_mem) (fun q => absurd (List.mem_singleton.mp q) (neN (by omega)))
      have mx3 : (fx, ofx1) ∈ R3 := cut3 _ (by k_mem) (fun q => absurd (List.mem_singleton.mp q) (neN (by omega)))
      have mn3 : (nm, instObj 201 dN) ∈ R3 := cut3 _ (by k_mem) (fun q => absurd (List.mem_singleton.mp q) (neN (by omega)))
      have md3 := cut3 (dN, gD bi dv df ha1 hb1 hc1 ta1 tb1 tc1 nn1) (by k_mem) (fun q => absurd (List.mem_singleton.mp q) (neN (by omega)))
      have mv3 : (dv, odv1) ∈ R3 := cut3 _ (by k_mem) (fun q => absurd (List.mem_singleton.mp q) (neN (by omega)))
      have sR3 : ∀ p ∈ R', p ∈ R3 := fun p hp => cut3 p (by repeat' (first | exact hp | refine List.Mem.tail _ ?_)) (fun q => alt_ne (And.right (And.right (And.right (And.right (And.right (by assumption)))))) p hp (List.mem_singleton.mp q))
      clear Nx hdu
      have lofx := dict_low H1g (site_new Bx N3 (.tail _ mx3))
      k_here
      refine' For_invVF Fx ?k1 ?k2 ?_
      (case k1 => exact rfl)
      (case k2 => exact rfl)
      k_steps
      refine unhold ?_
      rename Fr _ _ _ _ => Fx
      obtain ⟨ks3, ek3, vk3⟩ := pick_vals GG.k
      have lk3 : ks3.length ≤ 40 := by
        have z1 := lenK ek3
        have z2 := GG.l2
        omega
      have lm3 : ∀ j, (merged (kD0 v1 v2) (ks3.take j)).length ≤ sizeLine := fun j => by
        have z1 := merged_length_le (kD0 v1 v2) (ks3.take j)
        have z2 : (ks3.take j).length ≤ ks3.length := by rw [List.length_take]; exact Nat.min_le_right _ _
        have z3 : (kD0 v1 v2).length = 2 := rfl
        have z4 : sizeLine = 16777216 := rfl
        omega
      with_unfolding_all refine' iter_dictJ (od := ofx1) (kvs := kf1) [] (fun j o => o.IsDictOf (SD w) (merged (kD0 v1 v2) (ks3.take j))) ?h1 Fx N3 mx3 hdx1 lofx ne3 hdu3 ?turn2 ?done2
      case h1 => exact rfl
      case turn2 =>
        (try clear Fx N3)
        intro j kk yy t u h tk I oI o₁ ej hJ₁ ho F₁ N₁
        (try dsimp only at hJ₁)
        obtain ⟨vv, e3, ev⟩ := pick_at ek3 vk3 ej
        have lz := lm3 j
        k_steps
        rename Fr _ _ _ _ => Fz
        rename News _ _ _ _ => Nz
        rename Obj.IsDictOf _ _ _ => hz
        refine ⟨_, _, _, _, rfl, Fz, Nz, ?_, fun y h1 h2 => by simp only [if_neg h1, h2, Bool.false_eq_true, if_false]⟩
        rw [merged_take_succ _ _ _ _ e3]
        exact hz
      case done2 =>
        intro u h tk o' hJ₂ F₂ N₂
        have N5 := front2 N₂ (.tail _ mn3) (.tail _ md3)
        clear N₂
        k_steps
        refine unhold ?_
        rename News _ _ _ _ => Nx
        refine eq_same Nx (.tail _ (.tail _ (.tail _ mv3))) (.tail _ (.tail _ (.tail _ mh3))) hdv1 hdh1 lodv lohh (Nat.le_of_ble_eq_true rfl) ?_
        k_steps
        refine unhold ?_
        rename Fr _ _ _ _ => Fx
        rename News _ _ _ _ => Nx
        refine constants_L rfl rfl (Nat.le_of_ble_eq_true rfl) (Nat.le_of_ble_eq_true rfl) Bx Fx Nx rfl rfl Xx H1g Tx OR GG (fun p hp => .tail _ (.tail _ (.tail _ (sR3 p hp)))) (by omega) ?_
        intro d od4 ks4 ks5 h' tk' c1 c2 c3 c4 c5 F' N'
        have eq5 := same_pick c4 c5 ek3 vk3
        subst eq5
        have loD := dict_low H1g (site_new Bx N' (.head _))
        have loDu := dict_low H1g (site_new Bx N' (.tail _ (.tail _ (.tail _ (.head _)))))
        rw [List.take_of_length_le (by rw [lenK c4]; exact Nat.le_refl _)] at hJ₂
        clear Fx Nx
        k_steps
        refine unhold ?_
        rename Fr _ _ _ _ => Fy
        rename News _ _ _ _ => Ny
        obtain ⟨pw, kw⟩ := due_pw Fy Ny (R3 := R3) (fun p hp => .tail _ (.tail _ (.tail _ (.tail _ hp)))) (fun p hp => .tail _ (.tail _ (.tail _ (.tail _ (sR3 p (sTT p hp)))))) c2 c3 tv1 tv2 GG.V c5
        refine eq_pw Ny (.head _) (.tail _ (.tail _ (.tail _ (.head _)))) c1 hJ₂ loD loDu pw kw (Nat.le_of_ble_eq_true rfl) ?_
        k_steps
        refine rq _ _ (And.intro ?_ ?_)
        all_goals first
          | (refine' goodW_bool Fy ?ga ?gb ?gc ?gd; (case gd => rfl); (case ga => exact hg); (case gb => first | exact fun _ => rfl | exact raisesW_false (fun _ h => nomatch h) | exact raisesW_false (by wrow_none_raised)); (case gc => exact ret_bool (r := PySem.Challenge.rw_pq0711_01.row.toRowW) rfl rfl _))
          | exact ⟨⟨_, (Ny _ (.tail _ (.tail _ (.tail _ (.tail _ (sR3 _ TB.p.choose_spec.1)))))).1⟩, ⟨_, (Ny _ (.tail _ (.tail _ (.tail _ (.tail _ (sR3 _ TB.t.choose_spec.1)))))).1⟩, trivial⟩)

end
end Mine
theorem PySem.Challenge.cw_pq0711_01_holds : PySem.Challenge.rw_pq0711_01.Holds :=
  Mine.law1
