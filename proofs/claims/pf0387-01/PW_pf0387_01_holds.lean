import PyProof.Rows.All
import Wide.All
import OpenK.AllK
import Wide.FinOn
import Lean
import PySem.Challenge.RW_pf0387_01
open PySem PySem.W PyProof.Rows PySem.Calls
set_option Elab.async false
set_option maxRecDepth 100000
namespace Mine
def topRunT (stp : SharedT → Thread → Option (SharedT × Thread)) (ok : Thread → Bool) : Nat → SharedT → Thread → Option SharedT
  | 0, _, _ => none
  | n + 1, s, t => match through t with
    | true => some s
    | false => match ok t with
      | false => none
      | true => match stp s t with
        | some (s', t') => topRunT stp ok n s' t'
        | none => none
def topGoT (stp : SharedT → Thread → Option (SharedT × Thread)) (ok : Thread → Bool) : Nat → SharedT → Thread → Option (SharedT × Thread)
  | 0, s, t => some (s, t)
  | n + 1, s, t => match through t with
    | true => none
    | false => match ok t with
      | false => none
      | true => match stp s t with
        | some (s', t') => topGoT stp ok n s' t'
        | none => none
theorem topRunT_of {tb : String → Option Builtin} {p : Program} {w : World} {n₀ : Nat} {ann : Option Value} : ∀ (n : Nat) (s : SharedT) (t : Thread) (r : SharedT),
    topRunT (stepT (denote tb) p w) (stepOk n₀ ann) n s t = some r → topRun tb p w n₀ ann n s.abs t = some r.abs
  | 0, _, _, _, h => by cases h
  | n + 1, s, t, r, h => by
    unfold topRunT at h
    unfold topRun
    cases ht : through t with
    | true => rw [ht] at h; cases h; rfl
    | false =>
      rw [ht] at h
      cases hk : stepOk n₀ ann t with
      | false => rw [hk] at h; cases h
      | true =>
        rw [hk] at h
        cases hs : stepT (denote tb) p w s t with
        | none => rw [hs] at h; cases h
        | some x =>
          obtain ⟨s', t'⟩ := x
          rw [hs] at h
          have := stepT_spec hs
          simp only [this]
          exact topRunT_of n s' t' r h
theorem topGoT_run {stp : SharedT → Thread → Option (SharedT × Thread)} {ok : Thread → Bool} : ∀ {n N : Nat} {s s' : SharedT} {t t' : Thread} {r : SharedT},
    topGoT stp ok n s t = some (s', t') → topRunT stp ok N s' t' = some r → topRunT stp ok (n + N) s t = some r
  | 0, N, s, s', t, t', r, h, k => by
    obtain ⟨rfl, rfl⟩ : s = s' ∧ t = t' := by simpa [topGoT] using h
    rw [Nat.zero_add]; exact k
  | n + 1, N, s, s', t, t', r, h, k => by
    rw [show n + 1 + N = n + N + 1 by omega]
    unfold topGoT at h
    unfold topRunT
    cases ht : through t with
    | true => rw [ht] at h; cases h
    | false =>
      rw [ht] at h
      cases hk : ok t with
      | false => rw [hk] at h; cases h
      | true =>
        rw [hk] at h
        cases hs : stp s t with
        | none => rw [hs] at h; cases h
        | some x =>
          obtain ⟨s₂, t₂⟩ := x
          rw [hs] at h
          exact topGoT_run h k
/-- the boot's heap as a tree: node (2 a, a + b) left, (2 a, 2 a + b) right -/
def mkBT (os : List Obj) : Nat → Nat → Nat → BT
  | 0, _, _ => .nil
  | f + 1, a, b => match os[b]? with
    | some o => .node o (mkBT os f (2 * a) (a + b)) (mkBT os f (2 * a) (2 * a + b))
    | none => .nil
noncomputable def bootT (w : World) (os : OsState) : SharedT := ⟨mkBT (boot_heap w.params).objs.toList 6 1 0, 11, (boot_heap w.params).life, #[], boot_drawn, boot_toks, os⟩
theorem bootT_abs (w : World) (os : OsState) : (bootT w os).abs = ⟨boot_heap w.params, #[], boot_drawn, boot_toks, os⟩ := rfl
def vw : Program := view PySem.Challenge.pw_pf0387_01 [1, 2, 3, 5, 6, 7, 8, 9, 10, 12, 13, 14, 15, 16, 17, 19, 20, 21, 22, 23, 24, 25, 26, 27, 28, 29, 30, 31, 32, 33, 35, 36, 39, 40, 41, 42, 43, 44, 45, 46, 47, 49, 50, 51, 52, 53, 54, 55, 56, 57, 58]
def lsn : List Str := [Str.ofString "HALF_TABLE", Str.ofString "TAG_KINDS", Str.ofString "Frame", Str.ofString "pack_frame", Str.ofString "unpack_frame"]
def lvn : List (Str × WData) := [(Str.ofString "HALF_TABLE", WData.tuple [WData.int 0, WData.int 498536548, WData.int 997073096, WData.int 651767980, WData.int 1994146192, WData.int 1802195444, WData.int 1303535960, WData.int 1342533948, WData.int 3988292384, WData.int 4027552580, WData.int 3604390888, WData.int 3412177804, WData.int 2607071920, WData.int 2262029012, WData.int 2685067896, WData.int 3183342108]), (Str.ofString "TAG_KINDS", WData.tuple [WData.int 33024, WData.int 34984])]

noncomputable def wT (w : World) : World := w.withFollow "comprehension-iter-twice" true
noncomputable def wF (w : World) : World := w.withFollow "comprehension-iter-twice" false
noncomputable def goP (w : World) (n : Nat) (os : OsState) : Option (SharedT × Thread) :=
  topGoT (stepT (denote treeTable) PySem.Challenge.pw_pf0387_01 w) (stepOk 11 (some (.ref 6))) n (bootT w os) (topStub PySem.Challenge.pw_pf0387_01)
def xtn (s : Shared) : Bool := xlAt vw lvn s && recOk (RowW.records PySem.Challenge.rw_pf0387_01.row.toRowW) s
/-- the two ways to the first turn of the table's comprehension meet -/
def Meets (w : World) : Prop := (fun os => goP w 786 os) = fun os => goP (wT w) 776 os
/-- the run from there to the top's end, and what is looked at -/
def Runs {α : Type} (Yf : Shared → α) (Ya : World → α) (w : World) : Prop :=
  (fun os => ((goP (wT w) 776 os).bind fun st => topRunT (stepT (denote treeTable) PySem.Challenge.pw_pf0387_01 w) (stepOk 11 (some (.ref 6))) 9000 st.1 st.2).map fun s =>
    ((staticsOk (importedModules PySem.Challenge.pw_pf0387_01.main.body) (boot_heap w.params) s.abs.heap && namesBound PySem.Challenge.pw_pf0387_01 s.abs.heap && gensDone s.abs && laidKept (boot_heap w.params) s.abs.heap),
      openSeen vw lsn (importedModules PySem.Challenge.pw_pf0387_01.main.body) xtn true s.abs, Yf s.abs)) = fun _ => some (true, openGood vw lsn, Ya w)
/-- the same run, one look at its end -/
def RunsL {β : Type} (look : World → Shared → β) (val : World → β) (w : World) : Prop :=
  (fun os => ((goP (wT w) 776 os).bind fun st => topRunT (stepT (denote treeTable) PySem.Challenge.pw_pf0387_01 w) (stepOk 11 (some (.ref 6))) 9000 st.1 st.2).map fun s => look w s.abs) = fun _ => some (val w)
noncomputable def lookD {α : Type} (Yf : Shared → α) (w : World) (s : Shared) :=
  ((staticsOk (importedModules PySem.Challenge.pw_pf0387_01.main.body) (boot_heap w.params) s.heap && namesBound PySem.Challenge.pw_pf0387_01 s.heap && gensDone s && laidKept (boot_heap w.params) s.heap), (openSeen vw lsn (importedModules PySem.Challenge.pw_pf0387_01.main.body) xtn true s).1, Yf s)
noncomputable def lookE (_ : World) (s : Shared) := (openSeen vw lsn (importedModules PySem.Challenge.pw_pf0387_01.main.body) xtn true s).2
theorem runs_of {α : Type} {Yf : Shared → α} {Ya : World → α} {w : World} (hD : RunsL (lookD Yf) (fun w => (true, (openGood vw lsn).1, Ya w)) w) (hE : RunsL lookE (fun _ => (openGood vw lsn).2) w) : Runs Yf Ya w := by
  unfold Runs
  funext os
  obtain ⟨S, hS, h1⟩ := Option.map_eq_some_iff.mp (congrFun hD os)
  obtain ⟨S', hS', h2⟩ := Option.map_eq_some_iff.mp (congrFun hE os)
  have e : S = S' := Option.some.inj (hS.symm.trans hS')
  subst e
  refine Option.map_eq_some_iff.mpr ⟨S, hS, ?_⟩
  unfold lookD at h1
  obtain ⟨a, b, c⟩ : _ ∧ _ ∧ _ := by simpa only [Prod.mk.injEq] using h1
  exact Prod.ext a (Prod.ext (Prod.ext b h2) c)
set_option maxHeartbeats 0 in
theorem meetsF (w : World) : Meets ((wF w).withFollow "special-get-raises" false) := by
  unfold Meets goP
  rw [PySem.W.Fast.te10156331382660048174, PySem.W.Fast.te6613529449190102663, PySem.W.Fast.te11892475500146522536, PySem.W.Fast.te14364793385576792824]
  kernel_rfl
set_option maxHeartbeats 0 in
theorem meetsT (w : World) : Meets ((wF w).withFollow "special-get-raises" true) := by
  unfold Meets goP
  rw [PySem.W.Fast.te10156331382660048174, PySem.W.Fast.te6613529449190102663, PySem.W.Fast.te11892475500146522536, PySem.W.Fast.te14364793385576792824]
  kernel_rfl
set_option maxHeartbeats 0 in
theorem opened (w : World) : (fencedOpening treeTable PySem.Challenge.pw_pf0387_01 w 20000).map (fun s => (s.heap, s.gens, s.drawn, s.toks)) = some (boot_heap w.params, #[], boot_drawn, boot_toks) := by
  rw [PySem.W.Fast.te14364793385576792824]
  kernel_rfl
theorem left_of {α : Type} {Yf : Shared → α} {Ya : World → α} (hF : ∀ w : World, Runs Yf Ya (w.withFollow "special-get-raises" false)) (hT : ∀ w : World, Runs Yf Ya (w.withFollow "special-get-raises" true)) :
    LeftO PySem.Challenge.pw_pf0387_01 vw lsn xtn Yf Ya 20000 := fun w => by
  have hr : Runs Yf Ya w := by
    have e := World.withFollow_self w "special-get-raises"
    cases hb : w.params.followText "special-get-raises" with
    | false => rw [hb] at e; exact e ▸ hF w
    | true => rw [hb] at e; exact e ▸ hT w
  obtain ⟨⟨h, gs, d, k, os⟩, e, e'⟩ := Option.map_eq_some_iff.mp (opened w)
  obtain ⟨rfl, rfl, rfl, rfl⟩ : h = boot_heap w.params ∧ gs = #[] ∧ d = boot_drawn ∧ k = boot_toks := by simpa using e'
  obtain ⟨S, hS, hl⟩ := Option.map_eq_some_iff.mp (congrFun hr os)
  obtain ⟨⟨s₁, t₁⟩, hg, hrun⟩ := Option.bind_eq_some_iff.mp hS
  obtain ⟨l1, l2, l3⟩ : _ ∧ _ ∧ _ := by simpa only [Prod.mk.injEq] using hl
  have r : topRun treeTable PySem.Challenge.pw_pf0387_01 w 11 (some (.ref 6)) 20000 ⟨boot_heap w.params, #[], boot_drawn, boot_toks, os⟩ (topStub PySem.Challenge.pw_pf0387_01) = some S.abs := by
    have go : ∃ n, n ≤ 786 ∧ goP w n os = some (s₁, t₁) := by
      have e := World.withFollow_self w "comprehension-iter-twice"
      have e2 := World.withFollow_self w "special-get-raises"
      cases hb : w.params.followText "comprehension-iter-twice" with
      | true => rw [hb] at e; exact ⟨776, by decide, by rw [← hg]; unfold wT; rw [e]⟩
      | false =>
        rw [hb] at e
        refine ⟨786, by decide, ?_⟩
        rw [← hg]
        have m : Meets w := by
          cases hc : w.params.followText "special-get-raises" with
          | false => rw [hc] at e2; have := meetsF w; unfold wF at this; rwa [e, e2] at this
          | true => rw [hc] at e2; have := meetsT w; unfold wF at this; rwa [e, e2] at this
        exact congrFun m os
    obtain ⟨n, hn, go⟩ := go
    have r1 := topGoT_run go hrun
    have r2 := topRunT_of _ _ _ _ r1
    rw [bootT_abs] at r2
    have r3 := topRun_mono (20000 - (n + 9000)) _ _ _ _ r2
    rw [show n + 9000 + (20000 - (n + 9000)) = 20000 by omega] at r3
    exact r3
  have t : topFrom treeTable PySem.Challenge.pw_pf0387_01 w 20000 ⟨boot_heap w.params, #[], boot_drawn, boot_toks, os⟩ = some S.abs := by
    have z : ((boot_heap w.params).isNs mainGlobals && (#[] : Array GenState).size == 0, (boot_heap w.params).objs.size, (boot_heap w.params).nsMap mainGlobals "__annotations__") = (true, 11, some (Value.ref 6)) := by kernel_rfl
    obtain ⟨z1, z2, z3⟩ : _ ∧ _ ∧ _ := by simpa only [Prod.mk.injEq] using z
    unfold topFrom
    dsimp only
    rw [z1, z2, z3, r]
    show (match staticsOk (importedModules PySem.Challenge.pw_pf0387_01.main.body) (boot_heap w.params) S.abs.heap && namesBound PySem.Challenge.pw_pf0387_01 S.abs.heap && gensDone S.abs && laidKept (boot_heap w.params) S.abs.heap with | true => _ | false => _) = _
    rw [l1]
  unfold openEnds
  rw [e]
  show (topFrom treeTable PySem.Challenge.pw_pf0387_01 w 20000 _).map _ = _
  rw [t]
  exact congrArg some (Prod.ext l2 l3)
section
local macro_rules | `(tactic| o_head $_H:term) => `(tactic| assumption)
theorem kept : PySem.Challenge.rw_pf0387_01.row.Holds → PySem.Challenge.rw_pf0387_01.row.Holds := by
  intro h
  k_head
end
def adrs : List Addr := [2, 3, 15, 22, 24, 25, 27, 28, 29, 30, 31, 32, 35, 42, 43, 44, 47, 54, 55, 56, 153, 154, 156, 157, 159, 160, 161, 164, 165, 166, 169, 170, 171, 173, 174, 176, 177, 178, 180, 181, 183, 184, 185, 187, 188, 190, 191, 192, 194, 195, 197, 198, 199, 201, 202, 204, 205, 206, 214, 216, 217, 219, 220, 221, 223, 224, 226, 227, 228, 229, 230, 231, 232, 242, 244, 245, 247, 248, 249, 252, 253, 254, 255, 257, 258, 260, 261, 262, 263, 264, 265, 266, 269, 271, 272, 274, 275, 276, 278, 279, 281, 282, 283, 284, 287, 288, 289, 291, 292, 294, 295, 296, 298, 299, 301, 302, 303, 304, 306, 307, 309, 310, 318, 320, 321, 323, 324, 325, 327, 328, 330, 331, 332, 333, 334, 335, 336, 339, 341, 342, 344, 345, 346, 348, 349, 351, 352, 353, 355, 356, 358, 359, 360, 362, 363, 365, 366, 367, 369, 370, 372, 373, 374, 376, 377, 379, 380, 381, 383, 384, 386, 387, 388, 390, 391, 393, 394, 395, 397, 398, 400, 401, 402, 404, 405, 407, 408, 409, 411, 412, 414, 415, 416, 418, 419, 421, 422, 423, 425, 426, 428, 429, 430, 433, 434, 435, 437, 438, 440, 441]
theorem adrs_of : ∀ P, adrs = (Mine.kept.heap_1 P).map (·.1) := fun _ => by kernel_rfl
set_option maxHeartbeats 0 in
theorem runFD : ∀ w : World, RunsL (lookD (Hook.obs (kmHook Mine.kept.heap_1 adrs adrs_of [424, 417, 431, 436]))) (fun w => (true, (openGood vw lsn).1, Hook.val (kmHook Mine.kept.heap_1 adrs adrs_of [424, 417, 431, 436]) w)) (w.withFollow "special-get-raises" false) := by
  intro w
  unfold RunsL lookD goP
  rw [PySem.W.Fast.te10156331382660048174, PySem.W.Fast.te6613529449190102663, PySem.W.Fast.te11892475500146522536, PySem.W.Fast.te14364793385576792824]
  kernel_rfl
set_option maxHeartbeats 0 in
theorem runFE : ∀ w : World, RunsL lookE (fun _ => (openGood vw lsn).2) (w.withFollow "special-get-raises" false) := by
  intro w
  unfold RunsL lookE goP xtn
  rw [PySem.W.Fast.te10156331382660048174, PySem.W.Fast.te6613529449190102663, PySem.W.Fast.te11892475500146522536, PySem.W.Fast.te14364793385576792824, PySem.W.Fast.te4187177175401517315, PySem.W.Fast.te5923862056798008813]
  kernel_rfl
theorem runF : ∀ w : World, Runs (Hook.obs (kmHook Mine.kept.heap_1 adrs adrs_of [424, 417, 431, 436])) (Hook.val (kmHook Mine.kept.heap_1 adrs adrs_of [424, 417, 431, 436])) (w.withFollow "special-get-raises" false) := fun w => runs_of (runFD w) (runFE w)
set_option maxHeartbeats 0 in
theorem runTD : ∀ w : World, RunsL (lookD (Hook.obs (kmHook Mine.kept.heap_1 adrs adrs_of [424, 417, 431, 436]))) (fun w => (true, (openGood vw lsn).1, Hook.val (kmHook Mine.kept.heap_1 adrs adrs_of [424, 417, 431, 436]) w)) (w.withFollow "special-get-raises" true) := by
  intro w
  unfold RunsL lookD goP
  rw [PySem.W.Fast.te10156331382660048174, PySem.W.Fast.te6613529449190102663, PySem.W.Fast.te11892475500146522536, PySem.W.Fast.te14364793385576792824]
  kernel_rfl
set_option maxHeartbeats 0 in
theorem runTE : ∀ w : World, RunsL lookE (fun _ => (openGood vw lsn).2) (w.withFollow "special-get-raises" true) := by
  intro w
  unfold RunsL lookE goP xtn
  rw [PySem.W.Fast.te10156331382660048174, PySem.W.Fast.te6613529449190102663, PySem.W.Fast.te11892475500146522536, PySem.W.Fast.te14364793385576792824, PySem.W.Fast.te4187177175401517315, PySem.W.Fast.te5923862056798008813]
  kernel_rfl
theorem runT : ∀ w : World, Runs (Hook.obs (kmHook Mine.kept.heap_1 adrs adrs_of [424, 417, 431, 436])) (Hook.val (kmHook Mine.kept.heap_1 adrs adrs_of [424, 417, 431, 436])) (w.withFollow "special-get-raises" true) := fun w => runs_of (runTD w) (runTE w)
section
set_option maxHeartbeats 0 in
theorem well : PySem.Challenge.rw_pf0387_01.wellSaid = true := by kernel_rfl
theorem kw_head : True := by
  k_with "mine khead" => (refine holds_open (q := vw) (loose := lsn) (Xt := xtn) (XP := XL vw lvn) (Yf := Hook.obs (kmHook Mine.kept.heap_1 adrs adrs_of [424, 417, 431, 436])) (Ya := Hook.val (kmHook Mine.kept.heap_1 adrs adrs_of [424, 417, 431, 436])) (YP := Hook.says (kmHook Mine.kept.heap_1 adrs adrs_of [424, 417, 431, 436])) (N := 20000) (left_of runF runT) (Hook.of _) (Hook.keeps _) (fun s e => xl_of s (Bool.and_eq_true_iff.mp e).1) XL.keeps (by rfl) (by rfl) (by rfl) (fun s e => recFacts_of (Bool.and_eq_true_iff.mp e).2) (by rfl) (by first | assumption | decide +kernel) (by decide +kernel) ⟨rfl, rfl, rfl, rfl, rfl, by decide +kernel⟩ ?hw ?hc)
  k_with "mine olaw" => (refine holds_law well fun said => ?_)
  trivial
local macro_rules | `(tactic| k_head) => `(tactic| walk_at "mine khead")
local macro_rules | `(tactic| o_law) => `(tactic| walk_at "mine olaw")
set_option maxHeartbeats 0
open_top hd2 for PySem.Challenge.rw_pf0387_01
end
theorem top_off_Base : True := by
  w_top off
  trivial
/-- what a call of a def of the text (its address f) does, from any def's frame: it ends with a value v and a ledger nx that satisfy R -/
def Spec (lv : Nat) (w : World) (f : Addr) (vs : List Value) (news : List (Addr × Obj)) (R : Value → List (Addr × Obj) → Prop) : Prop :=
  ∀ (p : Program) (loose : List Str) (mean : ExcName → Option Value) (mg mb : Str → Option Value) (dp un : Nat) (gd : Option (List Code)) (cn : Str) (cs : Scope) (a : Addr) (ccd : Value) (cl : List (Str × Addr)) (outer : List Env) (A₀ : Around) (base h₀ : Heap) (L : Addr) (m : Str → Option Value) (s : Shared) (Q E : Value → Shared → Prop),
  Below A₀ base outer h₀ → Fr h₀ L s.heap m → (Mine.kept.heap_1 w.params).In h₀ → News h₀ L s.heap news →
  Top p loose mean mg mb h₀ → cs.kind = .function →
  dp + lv < recursionLimit → un + 20 * lv < cLine →
  (∀ (v : Value) (nx : List (Addr × Obj)) (h' : Heap) (tk' : Nat), Fr h₀ L h' m → News h₀ L h' nx → R v nx → Q v { s with heap := h', toks := tk' }) →
  wpAny (model PySem.Challenge.rw_pf0387_01.row.prog w) (ktrTop dp un gd cn cs L a ccd cl outer) (call (.ref f) vs) Q E s
theorem and15_lo (x : Int) : 0 ≤ Builtin.bitAnd x 15 := (bitAnd_range x (by decide)).1
theorem and15_hi (x : Int) : Builtin.bitAnd x 15 < 16 := by have := (bitAnd_range x (y := 15) (by decide)).2; omega
theorem and255_lo (x : Int) : 0 ≤ Builtin.bitAnd x 255 := (bitAnd_range x (by decide)).1
theorem and255_hi (x : Int) : Builtin.bitAnd x 255 < 256 := by have := (bitAnd_range x (y := 255) (by decide)).2; omega
noncomputable def halfT : List Int := [0, 498536548, 997073096, 651767980, 1994146192, 1802195444, 1303535960, 1342533948, 3988292384, 4027552580, 3604390888, 3412177804, 2607071920, 2262029012, 2685067896, 3183342108]
noncomputable def crcHalf (w o : Int) : Int := Builtin.bitXor (w.fdiv (2 ^ (4 : Int).toNat)) (halfT.getD (Builtin.bitAnd (Builtin.bitXor w o) 15).toNat 0)
noncomputable def crcStep (w o : Int) : Int := crcHalf (crcHalf w o) (o.fdiv (2 ^ (4 : Int).toNat))
noncomputable def crcF (ks : List Int) : Int := Builtin.bitXor (ks.foldl crcStep 4294967295) 4294967295
theorem all_ne {news : List (Addr × Obj)} {L x : Addr} (l : ∀ p ∈ news, p.1 < L) (h : @LE.le Nat _ L x) : ∀ p ∈ news, p.1 ≠ x := fun p hp => Nat.ne_of_lt (Nat.lt_of_lt_of_le (l p hp) h)
theorem room_1 {dp k j : Nat} (h : dp + k < recursionLimit) (l : Nat.ble (1 + j) k = true) : dp + 1 + j < recursionLimit := by
  have := Nat.le_of_ble_eq_true l; omega
theorem room_j {dp k j : Nat} (h : dp + k < recursionLimit) (l : Nat.ble j k = true) : dp + j < recursionLimit := by
  have := Nat.le_of_ble_eq_true l; omega
theorem room_0 {dp k : Nat} (h : dp + k < recursionLimit) : dp < recursionLimit := by omega
theorem units_1 {un k j : Nat} (h : un + 20 * k < cLine) (l : Nat.ble (3 + 20 * j) (20 * k) = true) : un + 3 + 20 * j < cLine := by
  have := Nat.le_of_ble_eq_true l; omega
theorem units_j {un k j : Nat} (h : un + 20 * k < cLine) (l : Nat.ble (20 * j) (20 * k) = true) : un + 20 * j < cLine := by
  have := Nat.le_of_ble_eq_true l; omega
theorem me0 {a : Addr × Obj} {l : List (Addr × Obj)} : a ∈ a :: l := by simp
theorem me1 {x0 a : Addr × Obj} {l : List (Addr × Obj)} : a ∈ x0 :: a :: l := by simp
theorem me2 {x0 x1 a : Addr × Obj} {l : List (Addr × Obj)} : a ∈ x0 :: x1 :: a :: l := by simp
theorem me3 {x0 x1 x2 a : Addr × Obj} {l : List (Addr × Obj)} : a ∈ x0 :: x1 :: x2 :: a :: l := by simp
theorem me4 {x0 x1 x2 x3 a : Addr × Obj} {l : List (Addr × Obj)} : a ∈ x0 :: x1 :: x2 :: x3 :: a :: l := by simp
theorem me5 {x0 x1 x2 x3 x4 a : Addr × Obj} {l : List (Addr × Obj)} : a ∈ x0 :: x1 :: x2 :: x3 :: x4 :: a :: l := by simp
theorem me6 {x0 x1 x2 x3 x4 x5 a : Addr × Obj} {l : List (Addr × Obj)} : a ∈ x0 :: x1 :: x2 :: x3 :: x4 :: x5 :: a :: l := by simp
theorem me7 {x0 x1 x2 x3 x4 x5 x6 a : Addr × Obj} {l : List (Addr × Obj)} : a ∈ x0 :: x1 :: x2 :: x3 :: x4 :: x5 :: x6 :: a :: l := by simp
theorem me8 {x0 x1 x2 x3 x4 x5 x6 x7 a : Addr × Obj} {l : List (Addr × Obj)} : a ∈ x0 :: x1 :: x2 :: x3 :: x4 :: x5 :: x6 :: x7 :: a :: l := by simp
theorem me9 {x0 x1 x2 x3 x4 x5 x6 x7 x8 a : Addr × Obj} {l : List (Addr × Obj)} : a ∈ x0 :: x1 :: x2 :: x3 :: x4 :: x5 :: x6 :: x7 :: x8 :: a :: l := by simp
theorem me10 {x0 x1 x2 x3 x4 x5 x6 x7 x8 x9 a : Addr × Obj} {l : List (Addr × Obj)} : a ∈ x0 :: x1 :: x2 :: x3 :: x4 :: x5 :: x6 :: x7 :: x8 :: x9 :: a :: l := by simp
theorem me11 {x0 x1 x2 x3 x4 x5 x6 x7 x8 x9 x10 a : Addr × Obj} {l : List (Addr × Obj)} : a ∈ x0 :: x1 :: x2 :: x3 :: x4 :: x5 :: x6 :: x7 :: x8 :: x9 :: x10 :: a :: l := by simp
theorem me12 {x0 x1 x2 x3 x4 x5 x6 x7 x8 x9 x10 x11 a : Addr × Obj} {l : List (Addr × Obj)} : a ∈ x0 :: x1 :: x2 :: x3 :: x4 :: x5 :: x6 :: x7 :: x8 :: x9 :: x10 :: x11 :: a :: l := by simp
theorem me13 {x0 x1 x2 x3 x4 x5 x6 x7 x8 x9 x10 x11 x12 a : Addr × Obj} {l : List (Addr × Obj)} : a ∈ x0 :: x1 :: x2 :: x3 :: x4 :: x5 :: x6 :: x7 :: x8 :: x9 :: x10 :: x11 :: x12 :: a :: l := by simp
theorem me14 {x0 x1 x2 x3 x4 x5 x6 x7 x8 x9 x10 x11 x12 x13 a : Addr × Obj} {l : List (Addr × Obj)} : a ∈ x0 :: x1 :: x2 :: x3 :: x4 :: x5 :: x6 :: x7 :: x8 :: x9 :: x10 :: x11 :: x12 :: x13 :: a :: l := by simp
theorem me15 {x0 x1 x2 x3 x4 x5 x6 x7 x8 x9 x10 x11 x12 x13 x14 a : Addr × Obj} {l : List (Addr × Obj)} : a ∈ x0 :: x1 :: x2 :: x3 :: x4 :: x5 :: x6 :: x7 :: x8 :: x9 :: x10 :: x11 :: x12 :: x13 :: x14 :: a :: l := by simp
theorem me16 {x0 x1 x2 x3 x4 x5 x6 x7 x8 x9 x10 x11 x12 x13 x14 x15 a : Addr × Obj} {l : List (Addr × Obj)} : a ∈ x0 :: x1 :: x2 :: x3 :: x4 :: x5 :: x6 :: x7 :: x8 :: x9 :: x10 :: x11 :: x12 :: x13 :: x14 :: x15 :: a :: l := by simp
theorem me17 {x0 x1 x2 x3 x4 x5 x6 x7 x8 x9 x10 x11 x12 x13 x14 x15 x16 a : Addr × Obj} {l : List (Addr × Obj)} : a ∈ x0 :: x1 :: x2 :: x3 :: x4 :: x5 :: x6 :: x7 :: x8 :: x9 :: x10 :: x11 :: x12 :: x13 :: x14 :: x15 :: x16 :: a :: l := by simp
theorem me18 {x0 x1 x2 x3 x4 x5 x6 x7 x8 x9 x10 x11 x12 x13 x14 x15 x16 x17 a : Addr × Obj} {l : List (Addr × Obj)} : a ∈ x0 :: x1 :: x2 :: x3 :: x4 :: x5 :: x6 :: x7 :: x8 :: x9 :: x10 :: x11 :: x12 :: x13 :: x14 :: x15 :: x16 :: x17 :: a :: l := by simp
theorem sk0 {l : List (Addr × Obj)} : ∀ q ∈ l, q ∈ l := by intro q hq; simp [hq]
theorem sk1 {x0 : Addr × Obj} {l : List (Addr × Obj)} : ∀ q ∈ l, q ∈ x0 :: l := by intro q hq; simp [hq]
theorem sk2 {x0 x1 : Addr × Obj} {l : List (Addr × Obj)} : ∀ q ∈ l, q ∈ x0 :: x1 :: l := by intro q hq; simp [hq]
theorem sk3 {x0 x1 x2 : Addr × Obj} {l : List (Addr × Obj)} : ∀ q ∈ l, q ∈ x0 :: x1 :: x2 :: l := by intro q hq; simp [hq]
theorem sk4 {x0 x1 x2 x3 : Addr × Obj} {l : List (Addr × Obj)} : ∀ q ∈ l, q ∈ x0 :: x1 :: x2 :: x3 :: l := by intro q hq; simp [hq]
theorem sk5 {x0 x1 x2 x3 x4 : Addr × Obj} {l : List (Addr × Obj)} : ∀ q ∈ l, q ∈ x0 :: x1 :: x2 :: x3 :: x4 :: l := by intro q hq; simp [hq]
theorem sk6 {x0 x1 x2 x3 x4 x5 : Addr × Obj} {l : List (Addr × Obj)} : ∀ q ∈ l, q ∈ x0 :: x1 :: x2 :: x3 :: x4 :: x5 :: l := by intro q hq; simp [hq]
theorem sk7 {x0 x1 x2 x3 x4 x5 x6 : Addr × Obj} {l : List (Addr × Obj)} : ∀ q ∈ l, q ∈ x0 :: x1 :: x2 :: x3 :: x4 :: x5 :: x6 :: l := by intro q hq; simp [hq]
theorem sk8 {x0 x1 x2 x3 x4 x5 x6 x7 : Addr × Obj} {l : List (Addr × Obj)} : ∀ q ∈ l, q ∈ x0 :: x1 :: x2 :: x3 :: x4 :: x5 :: x6 :: x7 :: l := by intro q hq; simp [hq]
theorem sk9 {x0 x1 x2 x3 x4 x5 x6 x7 x8 : Addr × Obj} {l : List (Addr × Obj)} : ∀ q ∈ l, q ∈ x0 :: x1 :: x2 :: x3 :: x4 :: x5 :: x6 :: x7 :: x8 :: l := by intro q hq; simp [hq]
theorem sk10 {x0 x1 x2 x3 x4 x5 x6 x7 x8 x9 : Addr × Obj} {l : List (Addr × Obj)} : ∀ q ∈ l, q ∈ x0 :: x1 :: x2 :: x3 :: x4 :: x5 :: x6 :: x7 :: x8 :: x9 :: l := by intro q hq; simp [hq]
theorem sk11 {x0 x1 x2 x3 x4 x5 x6 x7 x8 x9 x10 : Addr × Obj} {l : List (Addr × Obj)} : ∀ q ∈ l, q ∈ x0 :: x1 :: x2 :: x3 :: x4 :: x5 :: x6 :: x7 :: x8 :: x9 :: x10 :: l := by intro q hq; simp [hq]
theorem sk12 {x0 x1 x2 x3 x4 x5 x6 x7 x8 x9 x10 x11 : Addr × Obj} {l : List (Addr × Obj)} : ∀ q ∈ l, q ∈ x0 :: x1 :: x2 :: x3 :: x4 :: x5 :: x6 :: x7 :: x8 :: x9 :: x10 :: x11 :: l := by intro q hq; simp [hq]
theorem sk13 {x0 x1 x2 x3 x4 x5 x6 x7 x8 x9 x10 x11 x12 : Addr × Obj} {l : List (Addr × Obj)} : ∀ q ∈ l, q ∈ x0 :: x1 :: x2 :: x3 :: x4 :: x5 :: x6 :: x7 :: x8 :: x9 :: x10 :: x11 :: x12 :: l := by intro q hq; simp [hq]
theorem sk14 {x0 x1 x2 x3 x4 x5 x6 x7 x8 x9 x10 x11 x12 x13 : Addr × Obj} {l : List (Addr × Obj)} : ∀ q ∈ l, q ∈ x0 :: x1 :: x2 :: x3 :: x4 :: x5 :: x6 :: x7 :: x8 :: x9 :: x10 :: x11 :: x12 :: x13 :: l := by intro q hq; simp [hq]
theorem sk15 {x0 x1 x2 x3 x4 x5 x6 x7 x8 x9 x10 x11 x12 x13 x14 : Addr × Obj} {l : List (Addr × Obj)} : ∀ q ∈ l, q ∈ x0 :: x1 :: x2 :: x3 :: x4 :: x5 :: x6 :: x7 :: x8 :: x9 :: x10 :: x11 :: x12 :: x13 :: x14 :: l := by intro q hq; simp [hq]
theorem sk16 {x0 x1 x2 x3 x4 x5 x6 x7 x8 x9 x10 x11 x12 x13 x14 x15 : Addr × Obj} {l : List (Addr × Obj)} : ∀ q ∈ l, q ∈ x0 :: x1 :: x2 :: x3 :: x4 :: x5 :: x6 :: x7 :: x8 :: x9 :: x10 :: x11 :: x12 :: x13 :: x14 :: x15 :: l := by intro q hq; simp [hq]
theorem sk17 {x0 x1 x2 x3 x4 x5 x6 x7 x8 x9 x10 x11 x12 x13 x14 x15 x16 : Addr × Obj} {l : List (Addr × Obj)} : ∀ q ∈ l, q ∈ x0 :: x1 :: x2 :: x3 :: x4 :: x5 :: x6 :: x7 :: x8 :: x9 :: x10 :: x11 :: x12 :: x13 :: x14 :: x15 :: x16 :: l := by intro q hq; simp [hq]
theorem sk18 {x0 x1 x2 x3 x4 x5 x6 x7 x8 x9 x10 x11 x12 x13 x14 x15 x16 x17 : Addr × Obj} {l : List (Addr × Obj)} : ∀ q ∈ l, q ∈ x0 :: x1 :: x2 :: x3 :: x4 :: x5 :: x6 :: x7 :: x8 :: x9 :: x10 :: x11 :: x12 :: x13 :: x14 :: x15 :: x16 :: x17 :: l := by intro q hq; simp [hq]
theorem all_l {N M : List (Addr × Obj)} {x : Addr} (h : ∀ p ∈ N, p.1 < x) (s : ∀ p ∈ M, p ∈ N) : ∀ p ∈ M, p.1 ≠ x := fun p hp => Nat.ne_of_lt (h p (s p hp))
theorem all_l2 {N M : List (Addr × Obj)} {d x : Addr} (k : d < x) (h : ∀ p ∈ N, p.1 < d) (s : ∀ p ∈ M, p ∈ N) : ∀ p ∈ M, p.1 ≠ x := fun p hp => Nat.ne_of_lt (Nat.lt_trans (h p (s p hp)) k)
theorem all_l1 {N M : List (Addr × Obj)} {x : Addr} (h : ∀ p ∈ N, p.1 < x) (s : ∀ p ∈ M, p ∈ N) : ∀ p ∈ M, p.1 ≠ x + 1 := fun p hp => Nat.ne_of_lt (Nat.lt_succ_of_lt (h p (s p hp)))
theorem all_l11 {N M : List (Addr × Obj)} {x : Addr} (h : ∀ p ∈ N, p.1 < x) (s : ∀ p ∈ M, p ∈ N) : ∀ p ∈ M, p.1 ≠ x + 1 + 1 := fun p hp => Nat.ne_of_lt (Nat.lt_succ_of_lt (Nat.lt_succ_of_lt (h p (s p hp))))
theorem ne_l {N : List (Addr × Obj)} {a x : Addr} {o : Obj} (h : ∀ p ∈ N, p.1 < x) (m : (a, o) ∈ N) : a ≠ x := Nat.ne_of_lt (h _ m)
theorem ne_r {N : List (Addr × Obj)} {a x : Addr} {o : Obj} (h : ∀ p ∈ N, p.1 < x) (m : (a, o) ∈ N) : x ≠ a := Nat.ne_of_gt (h _ m)
theorem ne_l2 {N : List (Addr × Obj)} {a d x : Addr} {o : Obj} (k : d < x) (h : ∀ p ∈ N, p.1 < d) (m : (a, o) ∈ N) : a ≠ x := Nat.ne_of_lt (Nat.lt_trans (h _ m) k)
theorem ne_r2 {N : List (Addr × Obj)} {a d x : Addr} {o : Obj} (k : d < x) (h : ∀ p ∈ N, p.1 < d) (m : (a, o) ∈ N) : x ≠ a := Nat.ne_of_gt (Nat.lt_trans (h _ m) k)
theorem ne_l1 {N : List (Addr × Obj)} {a x : Addr} {o : Obj} (h : ∀ p ∈ N, p.1 < x) (m : (a, o) ∈ N) : a ≠ x + 1 := Nat.ne_of_lt (Nat.lt_succ_of_lt (h _ m))
theorem ne_r1 {N : List (Addr × Obj)} {a x : Addr} {o : Obj} (h : ∀ p ∈ N, p.1 < x) (m : (a, o) ∈ N) : x + 1 ≠ a := Nat.ne_of_gt (Nat.lt_succ_of_lt (h _ m))
theorem ne_l11 {N : List (Addr × Obj)} {a x : Addr} {o : Obj} (h : ∀ p ∈ N, p.1 < x) (m : (a, o) ∈ N) : a ≠ x + 1 + 1 := Nat.ne_of_lt (Nat.lt_succ_of_lt (Nat.lt_succ_of_lt (h _ m)))
theorem ne_r11 {N : List (Addr × Obj)} {a x : Addr} {o : Obj} (h : ∀ p ∈ N, p.1 < x) (m : (a, o) ∈ N) : x + 1 + 1 ≠ a := Nat.ne_of_gt (Nat.lt_succ_of_lt (Nat.lt_succ_of_lt (h _ m)))
theorem ne_s1 {x : Nat} : x ≠ x + 1 := Nat.ne_of_lt (Nat.lt_succ_self x)
theorem ne_s2 {x : Nat} : x + 1 ≠ x := Nat.ne_of_gt (Nat.lt_succ_self x)
theorem ne_b1 {x a : Nat} (h : @LT.lt Nat _ 436 x) (l : Nat.ble a 436 = true) : x ≠ a := Nat.ne_of_gt (Nat.lt_of_le_of_lt (Nat.le_of_ble_eq_true l) h)
theorem ne_b2 {x a : Nat} (h : @LT.lt Nat _ 436 x) (l : Nat.ble a 436 = true) : a ≠ x := Nat.ne_of_lt (Nat.lt_of_le_of_lt (Nat.le_of_ble_eq_true l) h)
theorem lt_t0 {N : List (Addr × Obj)} {a x : Nat} {o : Obj} (h : ∀ p ∈ N, p.1 < x) (m : ((a : Addr), o) ∈ N) : @LT.lt Nat _ a x := h _ m
theorem lt_sub {N M : List (Addr × Obj)} {x : Addr} (h : ∀ p ∈ N, p.1 < x) (s : ∀ p ∈ M, p ∈ N) : ∀ p ∈ M, @LT.lt Nat _ p.1 x := fun p hp => h p (s p hp)
theorem lt_t1 {N : List (Addr × Obj)} {b a x : Nat} {o : Obj} (k : @LT.lt Nat _ b a) (h : ∀ p ∈ N, p.1 < x) (m : ((a : Addr), o) ∈ N) : @LT.lt Nat _ b x := Nat.lt_trans k (h _ m)
theorem lt_t2 {N : List (Addr × Obj)} {b a d x : Nat} {o : Obj} (k : @LT.lt Nat _ b a) (l : @LT.lt Addr _ d x) (h : ∀ p ∈ N, p.1 < d) (m : ((a : Addr), o) ∈ N) : @LT.lt Nat _ b x := Nat.lt_trans k (Nat.lt_trans (h _ m) l)
theorem o_0 {s : Shared} {Q : Value → Shared → Prop} {h₀ : Heap} {L : Addr} {m : Str → Option Value} {A0 : Type} {f : A0 → Value} {g : A0 → List (Addr × Obj)}
    (k : ∀ a0, ∀ h' tk', Fr h₀ L h' m → News h₀ L h' (g a0) → Q (f a0) { s with heap := h', toks := tk' }) :
    ∀ v nx h' tk', Fr h₀ L h' m → News h₀ L h' nx → (∃ a0, v = f a0 ∧ nx = g a0) → Q v { s with heap := h', toks := tk' } := by
  rintro v nx h' tk' F N ⟨a0, rfl, rfl⟩
  exact k a0 h' tk' F N
theorem o_1 {s : Shared} {Q : Value → Shared → Prop} {h₀ : Heap} {L : Addr} {m : Str → Option Value} {A0 A1 : Type} {f : A0 → A1 → Value} {P1 : A0 → A1 → Prop} {g : A0 → A1 → List (Addr × Obj)}
    (k : ∀ a0, ∀ a1, ∀ h' tk', Fr h₀ L h' m → News h₀ L h' (g a0 a1) → P1 a0 a1 → Q (f a0 a1) { s with heap := h', toks := tk' }) :
    ∀ v nx h' tk', Fr h₀ L h' m → News h₀ L h' nx → (∃ a0, ∃ a1, v = f a0 a1 ∧ P1 a0 a1 ∧ nx = g a0 a1) → Q v { s with heap := h', toks := tk' } := by
  rintro v nx h' tk' F N ⟨a0, a1, rfl, p1, rfl⟩
  exact k a0 a1 h' tk' F N p1
theorem o_2 {s : Shared} {Q : Value → Shared → Prop} {h₀ : Heap} {L : Addr} {m : Str → Option Value} {A0 : Type} {P1 : Prop} {P2 : Prop} {f : A0 → Value} {g : A0 → List (Addr × Obj)}
    (k : ∀ a0, ∀ h' tk', Fr h₀ L h' m → News h₀ L h' (g a0) → P1 → P2 → Q (f a0) { s with heap := h', toks := tk' }) :
    ∀ v nx h' tk', Fr h₀ L h' m → News h₀ L h' nx → ((P1 ∧ P2) ∧ ∃ a0, v = f a0 ∧ nx = g a0) → Q v { s with heap := h', toks := tk' } := by
  rintro v nx h' tk' F N ⟨⟨p1, p2⟩, a0, rfl, rfl⟩
  exact k a0 h' tk' F N p1 p2
theorem o_3 {s : Shared} {Q : Value → Shared → Prop} {h₀ : Heap} {L : Addr} {m : Str → Option Value} {A0 : Type} {P1 : Prop} {P2 : Prop} {P3 : Prop} {P4 : Prop} {f : A0 → Value} {g : A0 → List (Addr × Obj)}
    (k : ∀ a0, ∀ h' tk', Fr h₀ L h' m → News h₀ L h' (g a0) → P1 → P2 → P3 → P4 → Q (f a0) { s with heap := h', toks := tk' }) :
    ∀ v nx h' tk', Fr h₀ L h' m → News h₀ L h' nx → (((P1 ∧ P2) ∧ P3 ∧ P4) ∧ ∃ a0, v = f a0 ∧ nx = g a0) → Q v { s with heap := h', toks := tk' } := by
  rintro v nx h' tk' F N ⟨⟨⟨p1, p2⟩, p3, p4⟩, a0, rfl, rfl⟩
  exact k a0 h' tk' F N p1 p2 p3 p4
theorem o_4 {s : Shared} {Q : Value → Shared → Prop} {h₀ : Heap} {L : Addr} {m : Str → Option Value} {A0 A1 A2 A3 A4 A5 : Type} {f : A0 → A1 → A2 → A3 → A4 → A5 → Value} {g : A0 → A1 → A2 → A3 → A4 → A5 → List (Addr × Obj)} {P1 : A0 → A1 → A2 → A3 → A4 → A5 → Prop} {P2 : A0 → A1 → A2 → A3 → A4 → A5 → Prop}
    (k : ∀ a0, ∀ a1, ∀ a2, ∀ a3, ∀ a4, ∀ a5, ∀ h' tk', Fr h₀ L h' m → News h₀ L h' (g a0 a1 a2 a3 a4 a5) → P1 a0 a1 a2 a3 a4 a5 → P2 a0 a1 a2 a3 a4 a5 → Q (f a0 a1 a2 a3 a4 a5) { s with heap := h', toks := tk' }) :
    ∀ v nx h' tk', Fr h₀ L h' m → News h₀ L h' nx → (∃ a0, ∃ a1, ∃ a2, ∃ a3, ∃ a4, ∃ a5, v = f a0 a1 a2 a3 a4 a5 ∧ nx = g a0 a1 a2 a3 a4 a5 ∧ P1 a0 a1 a2 a3 a4 a5 ∧ P2 a0 a1 a2 a3 a4 a5) → Q v { s with heap := h', toks := tk' } := by
  rintro v nx h' tk' F N ⟨a0, a1, a2, a3, a4, a5, rfl, rfl, p1, p2⟩
  exact k a0 a1 a2 a3 a4 a5 h' tk' F N p1 p2
theorem o_5 {s : Shared} {Q : Value → Shared → Prop} {h₀ : Heap} {L : Addr} {m : Str → Option Value} {A0 A1 : Type} {f : A0 → A1 → Value} {P1 : A0 → A1 → Prop} {g : List (Addr × Obj)}
    (k : ∀ a0, ∀ a1, ∀ h' tk', Fr h₀ L h' m → News h₀ L h' g → P1 a0 a1 → Q (f a0 a1) { s with heap := h', toks := tk' }) :
    ∀ v nx h' tk', Fr h₀ L h' m → News h₀ L h' nx → ((∃ a0, ∃ a1, v = f a0 a1 ∧ P1 a0 a1) ∧ nx = g) → Q v { s with heap := h', toks := tk' } := by
  rintro v nx h' tk' F N ⟨⟨a0, a1, rfl, p1⟩, rfl⟩
  exact k a0 a1 h' tk' F N p1
theorem o_6 {s : Shared} {Q : Value → Shared → Prop} {h₀ : Heap} {L : Addr} {m : Str → Option Value} {A0 A1 A2 A3 A4 A5 A6 : Type} {f : A0 → A1 → A2 → A3 → A4 → A5 → A6 → Value} {g : A0 → A1 → A2 → A3 → A4 → A5 → A6 → List (Addr × Obj)} {P1 : A0 → A1 → A2 → A3 → A4 → A5 → A6 → Prop} {P2 : A0 → A1 → A2 → A3 → A4 → A5 → A6 → Prop} {P3 : A0 → A1 → A2 → A3 → A4 → A5 → A6 → Prop} {P4 : A0 → A1 → A2 → A3 → A4 → A5 → A6 → Prop} {P5 : A0 → A1 → A2 → A3 → A4 → A5 → A6 → Prop}
    (k : ∀ a0, ∀ a1, ∀ a2, ∀ a3, ∀ a4, ∀ a5, ∀ a6, ∀ h' tk', Fr h₀ L h' m → News h₀ L h' (g a0 a1 a2 a3 a4 a5 a6) → P1 a0 a1 a2 a3 a4 a5 a6 → P2 a0 a1 a2 a3 a4 a5 a6 → P3 a0 a1 a2 a3 a4 a5 a6 → P4 a0 a1 a2 a3 a4 a5 a6 → P5 a0 a1 a2 a3 a4 a5 a6 → Q (f a0 a1 a2 a3 a4 a5 a6) { s with heap := h', toks := tk' }) :
    ∀ v nx h' tk', Fr h₀ L h' m → News h₀ L h' nx → (∃ a0, ∃ a1, ∃ a2, ∃ a3, ∃ a4, ∃ a5, ∃ a6, v = f a0 a1 a2 a3 a4 a5 a6 ∧ nx = g a0 a1 a2 a3 a4 a5 a6 ∧ P1 a0 a1 a2 a3 a4 a5 a6 ∧ P2 a0 a1 a2 a3 a4 a5 a6 ∧ P3 a0 a1 a2 a3 a4 a5 a6 ∧ P4 a0 a1 a2 a3 a4 a5 a6 ∧ P5 a0 a1 a2 a3 a4 a5 a6) → Q v { s with heap := h', toks := tk' } := by
  rintro v nx h' tk' F N ⟨a0, a1, a2, a3, a4, a5, a6, rfl, rfl, p1, p2, p3, p4, p5⟩
  exact k a0 a1 a2 a3 a4 a5 a6 h' tk' F N p1 p2 p3 p4 p5
theorem o_7 {s : Shared} {Q : Value → Shared → Prop} {h₀ : Heap} {L : Addr} {m : Str → Option Value} {A0 A1 A2 A3 A4 A5 A6 : Type} {f : A0 → A1 → A2 → A3 → A4 → A5 → A6 → Value} {P1 : A0 → A1 → A2 → A3 → A4 → A5 → A6 → Prop} {P2 : A0 → A1 → A2 → A3 → A4 → A5 → A6 → Prop} {g : A0 → A1 → A2 → A3 → A4 → A5 → A6 → List (Addr × Obj)} {P3 : A0 → A1 → A2 → A3 → A4 → A5 → A6 → Prop} {P4 : A0 → A1 → A2 → A3 → A4 → A5 → A6 → Prop} {P5 : A0 → A1 → A2 → A3 → A4 → A5 → A6 → Prop}
    (k : ∀ a0, ∀ a1, ∀ a2, ∀ a3, ∀ a4, ∀ a5, ∀ a6, ∀ h' tk', Fr h₀ L h' m → News h₀ L h' (g a0 a1 a2 a3 a4 a5 a6) → P1 a0 a1 a2 a3 a4 a5 a6 → P2 a0 a1 a2 a3 a4 a5 a6 → P3 a0 a1 a2 a3 a4 a5 a6 → P4 a0 a1 a2 a3 a4 a5 a6 → P5 a0 a1 a2 a3 a4 a5 a6 → Q (f a0 a1 a2 a3 a4 a5 a6) { s with heap := h', toks := tk' }) :
    ∀ v nx h' tk', Fr h₀ L h' m → News h₀ L h' nx → (∃ a0, ∃ a1, ∃ a2, ∃ a3, ∃ a4, ∃ a5, ∃ a6, v = f a0 a1 a2 a3 a4 a5 a6 ∧ P1 a0 a1 a2 a3 a4 a5 a6 ∧ P2 a0 a1 a2 a3 a4 a5 a6 ∧ nx = g a0 a1 a2 a3 a4 a5 a6 ∧ P3 a0 a1 a2 a3 a4 a5 a6 ∧ P4 a0 a1 a2 a3 a4 a5 a6 ∧ P5 a0 a1 a2 a3 a4 a5 a6) → Q v { s with heap := h', toks := tk' } := by
  rintro v nx h' tk' F N ⟨a0, a1, a2, a3, a4, a5, a6, rfl, p1, p2, rfl, p3, p4, p5⟩
  exact k a0 a1 a2 a3 a4 a5 a6 h' tk' F N p1 p2 p3 p4 p5
theorem o_8 {s : Shared} {Q : Value → Shared → Prop} {h₀ : Heap} {L : Addr} {m : Str → Option Value} {f : Value} {g : List (Addr × Obj)}
    (k : ∀ h' tk', Fr h₀ L h' m → News h₀ L h' g → Q f { s with heap := h', toks := tk' }) :
    ∀ v nx h' tk', Fr h₀ L h' m → News h₀ L h' nx → (v = f ∧ nx = g) → Q v { s with heap := h', toks := tk' } := by
  rintro v nx h' tk' F N ⟨rfl, rfl⟩
  exact k h' tk' F N
theorem o_9 {s : Shared} {Q : Value → Shared → Prop} {h₀ : Heap} {L : Addr} {m : Str → Option Value} {A0 A1 A2 A3 A4 A5 : Type} {f : A0 → A1 → A2 → A3 → A4 → A5 → Value} {g : A0 → A1 → A2 → A3 → A4 → A5 → List (Addr × Obj)} {P1 : A0 → A1 → A2 → A3 → A4 → A5 → Prop}
    (k : ∀ a0, ∀ a1, ∀ a2, ∀ a3, ∀ a4, ∀ a5, ∀ h' tk', Fr h₀ L h' m → News h₀ L h' (g a0 a1 a2 a3 a4 a5) → P1 a0 a1 a2 a3 a4 a5 → Q (f a0 a1 a2 a3 a4 a5) { s with heap := h', toks := tk' }) :
    ∀ v nx h' tk', Fr h₀ L h' m → News h₀ L h' nx → (∃ a0, ∃ a1, ∃ a2, ∃ a3, ∃ a4, ∃ a5, v = f a0 a1 a2 a3 a4 a5 ∧ nx = g a0 a1 a2 a3 a4 a5 ∧ P1 a0 a1 a2 a3 a4 a5) → Q v { s with heap := h', toks := tk' } := by
  rintro v nx h' tk' F N ⟨a0, a1, a2, a3, a4, a5, rfl, rfl, p1⟩
  exact k a0 a1 a2 a3 a4 a5 h' tk' F N p1
theorem o_10 {s : Shared} {Q : Value → Shared → Prop} {h₀ : Heap} {L : Addr} {m : Str → Option Value} {A0 A1 A2 A3 A4 A5 A6 : Type} {f : A0 → A1 → A2 → A3 → A4 → A5 → A6 → Value} {g : A0 → A1 → A2 → A3 → A4 → A5 → A6 → List (Addr × Obj)} {P1 : A0 → A1 → A2 → A3 → A4 → A5 → A6 → Prop} {P2 : A0 → A1 → A2 → A3 → A4 → A5 → A6 → Prop}
    (k : ∀ a0, ∀ a1, ∀ a2, ∀ a3, ∀ a4, ∀ a5, ∀ a6, ∀ h' tk', Fr h₀ L h' m → News h₀ L h' (g a0 a1 a2 a3 a4 a5 a6) → P1 a0 a1 a2 a3 a4 a5 a6 → P2 a0 a1 a2 a3 a4 a5 a6 → Q (f a0 a1 a2 a3 a4 a5 a6) { s with heap := h', toks := tk' }) :
    ∀ v nx h' tk', Fr h₀ L h' m → News h₀ L h' nx → (∃ a0, ∃ a1, ∃ a2, ∃ a3, ∃ a4, ∃ a5, ∃ a6, v = f a0 a1 a2 a3 a4 a5 a6 ∧ nx = g a0 a1 a2 a3 a4 a5 a6 ∧ P1 a0 a1 a2 a3 a4 a5 a6 ∧ P2 a0 a1 a2 a3 a4 a5 a6) → Q v { s with heap := h', toks := tk' } := by
  rintro v nx h' tk' F N ⟨a0, a1, a2, a3, a4, a5, a6, rfl, rfl, p1, p2⟩
  exact k a0 a1 a2 a3 a4 a5 a6 h' tk' F N p1 p2
theorem o_11 {s : Shared} {Q : Value → Shared → Prop} {h₀ : Heap} {L : Addr} {m : Str → Option Value} {A0 A1 A2 A3 A4 A5 : Type} {f : A0 → A1 → A2 → A3 → A4 → A5 → Value} {g : A0 → A1 → A2 → A3 → A4 → A5 → List (Addr × Obj)}
    (k : ∀ a0, ∀ a1, ∀ a2, ∀ a3, ∀ a4, ∀ a5, ∀ h' tk', Fr h₀ L h' m → News h₀ L h' (g a0 a1 a2 a3 a4 a5) → Q (f a0 a1 a2 a3 a4 a5) { s with heap := h', toks := tk' }) :
    ∀ v nx h' tk', Fr h₀ L h' m → News h₀ L h' nx → (∃ a0, ∃ a1, ∃ a2, ∃ a3, ∃ a4, ∃ a5, v = f a0 a1 a2 a3 a4 a5 ∧ nx = g a0 a1 a2 a3 a4 a5) → Q v { s with heap := h', toks := tk' } := by
  rintro v nx h' tk' F N ⟨a0, a1, a2, a3, a4, a5, rfl, rfl⟩
  exact k a0 a1 a2 a3 a4 a5 h' tk' F N
theorem o_12 {s : Shared} {Q : Value → Shared → Prop} {h₀ : Heap} {L : Addr} {m : Str → Option Value} {A0 A1 A2 A3 A4 : Type} {f : A0 → A1 → A2 → A3 → A4 → Value} {g : A0 → A1 → A2 → A3 → A4 → List (Addr × Obj)}
    (k : ∀ a0, ∀ a1, ∀ a2, ∀ a3, ∀ a4, ∀ h' tk', Fr h₀ L h' m → News h₀ L h' (g a0 a1 a2 a3 a4) → Q (f a0 a1 a2 a3 a4) { s with heap := h', toks := tk' }) :
    ∀ v nx h' tk', Fr h₀ L h' m → News h₀ L h' nx → (∃ a0, ∃ a1, ∃ a2, ∃ a3, ∃ a4, v = f a0 a1 a2 a3 a4 ∧ nx = g a0 a1 a2 a3 a4) → Q v { s with heap := h', toks := tk' } := by
  rintro v nx h' tk' F N ⟨a0, a1, a2, a3, a4, rfl, rfl⟩
  exact k a0 a1 a2 a3 a4 h' tk' F N
theorem o_13 {s : Shared} {Q : Value → Shared → Prop} {h₀ : Heap} {L : Addr} {m : Str → Option Value} {A0 A1 A2 A3 A4 A5 A6 A7 A8 A9 : Type} {f : A0 → A1 → A2 → A3 → A4 → A5 → A6 → A7 → A8 → A9 → Value} {g : A0 → A1 → A2 → A3 → A4 → A5 → A6 → A7 → A8 → A9 → List (Addr × Obj)} {P1 : A0 → A1 → A2 → A3 → A4 → A5 → A6 → A7 → A8 → A9 → Prop} {P2 : A0 → A1 → A2 → A3 → A4 → A5 → A6 → A7 → A8 → A9 → Prop}
    (k : ∀ a0, ∀ a1, ∀ a2, ∀ a3, ∀ a4, ∀ a5, ∀ a6, ∀ a7, ∀ a8, ∀ a9, ∀ h' tk', Fr h₀ L h' m → News h₀ L h' (g a0 a1 a2 a3 a4 a5 a6 a7 a8 a9) → P1 a0 a1 a2 a3 a4 a5 a6 a7 a8 a9 → P2 a0 a1 a2 a3 a4 a5 a6 a7 a8 a9 → Q (f a0 a1 a2 a3 a4 a5 a6 a7 a8 a9) { s with heap := h', toks := tk' }) :
    ∀ v nx h' tk', Fr h₀ L h' m → News h₀ L h' nx → (∃ a0, ∃ a1, ∃ a2, ∃ a3, ∃ a4, ∃ a5, ∃ a6, ∃ a7, ∃ a8, ∃ a9, v = f a0 a1 a2 a3 a4 a5 a6 a7 a8 a9 ∧ nx = g a0 a1 a2 a3 a4 a5 a6 a7 a8 a9 ∧ P1 a0 a1 a2 a3 a4 a5 a6 a7 a8 a9 ∧ P2 a0 a1 a2 a3 a4 a5 a6 a7 a8 a9) → Q v { s with heap := h', toks := tk' } := by
  rintro v nx h' tk' F N ⟨a0, a1, a2, a3, a4, a5, a6, a7, a8, a9, rfl, rfl, p1, p2⟩
  exact k a0 a1 a2 a3 a4 a5 a6 a7 a8 a9 h' tk' F N p1 p2
theorem o_14 {s : Shared} {Q : Value → Shared → Prop} {h₀ : Heap} {L : Addr} {m : Str → Option Value} {A0 A1 A2 A3 A4 A5 A6 A7 A8 A9 A10 A11 A12 A13 : Type} {f : A0 → A1 → A2 → A3 → A4 → A5 → A6 → A7 → A8 → A9 → A10 → A11 → A12 → A13 → Value} {g : A0 → A1 → A2 → A3 → A4 → A5 → A6 → A7 → A8 → A9 → A10 → A11 → A12 → A13 → List (Addr × Obj)} {P1 : A0 → A1 → A2 → A3 → A4 → A5 → A6 → A7 → A8 → A9 → A10 → A11 → A12 → A13 → Prop} {P2 : A0 → A1 → A2 → A3 → A4 → A5 → A6 → A7 → A8 → A9 → A10 → A11 → A12 → A13 → Prop} {P3 : A0 → A1 → A2 → A3 → A4 → A5 → A6 → A7 → A8 → A9 → A10 → A11 → A12 → A13 → Prop}
    (k : ∀ a0, ∀ a1, ∀ a2, ∀ a3, ∀ a4, ∀ a5, ∀ a6, ∀ a7, ∀ a8, ∀ a9, ∀ a10, ∀ a11, ∀ a12, ∀ a13, ∀ h' tk', Fr h₀ L h' m → News h₀ L h' (g a0 a1 a2 a3 a4 a5 a6 a7 a8 a9 a10 a11 a12 a13) → P1 a0 a1 a2 a3 a4 a5 a6 a7 a8 a9 a10 a11 a12 a13 → P2 a0 a1 a2 a3 a4 a5 a6 a7 a8 a9 a10 a11 a12 a13 → P3 a0 a1 a2 a3 a4 a5 a6 a7 a8 a9 a10 a11 a12 a13 → Q (f a0 a1 a2 a3 a4 a5 a6 a7 a8 a9 a10 a11 a12 a13) { s with heap := h', toks := tk' }) :
    ∀ v nx h' tk', Fr h₀ L h' m → News h₀ L h' nx → (∃ a0, ∃ a1, ∃ a2, ∃ a3, ∃ a4, ∃ a5, ∃ a6, ∃ a7, ∃ a8, ∃ a9, ∃ a10, ∃ a11, ∃ a12, ∃ a13, v = f a0 a1 a2 a3 a4 a5 a6 a7 a8 a9 a10 a11 a12 a13 ∧ nx = g a0 a1 a2 a3 a4 a5 a6 a7 a8 a9 a10 a11 a12 a13 ∧ P1 a0 a1 a2 a3 a4 a5 a6 a7 a8 a9 a10 a11 a12 a13 ∧ P2 a0 a1 a2 a3 a4 a5 a6 a7 a8 a9 a10 a11 a12 a13 ∧ P3 a0 a1 a2 a3 a4 a5 a6 a7 a8 a9 a10 a11 a12 a13) → Q v { s with heap := h', toks := tk' } := by
  rintro v nx h' tk' F N ⟨a0, a1, a2, a3, a4, a5, a6, a7, a8, a9, a10, a11, a12, a13, rfl, rfl, p1, p2, p3⟩
  exact k a0 a1 a2 a3 a4 a5 a6 a7 a8 a9 a10 a11 a12 a13 h' tk' F N p1 p2 p3
theorem o_15 {s : Shared} {Q : Value → Shared → Prop} {h₀ base : Heap} {L : Addr} {m : Str → Option Value} {fs : List Addr} {A : Around} {outer : List Env} {K : Frag} {p : Program} {loose : List Str} {mean : ExcName → Option Value} {mg mb : Str → Option Value} {A0 : Type} {f : A0 → Value} {g : List (Addr × Obj)}
    (k : ∀ a0, ∀ h' tk' h₁, KtsTurn fs h₀ h₁ → Below A base outer h₁ → Fr h₁ L h' m → K.In h₁ → News h₁ L h' g → Top p loose mean mg mb h₁ → KtsDicts fs h₁ → Q (f a0) { s with heap := h', toks := tk' }) :
    ∀ v nx h' tk' h₁, KtsTurn fs h₀ h₁ → Below A base outer h₁ → Fr h₁ L h' m → K.In h₁ → News h₁ L h' nx → Top p loose mean mg mb h₁ → KtsDicts fs h₁ → ((∃ a0, v = f a0) ∧ nx = g) → Q v { s with heap := h', toks := tk' } := by
  rintro v nx h' tk' h₁ W B F X N T D ⟨⟨a0, rfl⟩, rfl⟩
  exact k a0 h' tk' h₁ W B F X N T D
theorem o_16 {s : Shared} {Q : Value → Shared → Prop} {h₀ : Heap} {L : Addr} {m : Str → Option Value} {A0 A1 : Type} {f : A0 → A1 → Value} {g : A0 → A1 → List (Addr × Obj)} {P1 : A0 → A1 → Prop}
    (k : ∀ a0, ∀ a1, ∀ h' tk', Fr h₀ L h' m → News h₀ L h' (g a0 a1) → P1 a0 a1 → Q (f a0 a1) { s with heap := h', toks := tk' }) :
    ∀ v nx h' tk', Fr h₀ L h' m → News h₀ L h' nx → (∃ a0, ∃ a1, v = f a0 a1 ∧ nx = g a0 a1 ∧ P1 a0 a1) → Q v { s with heap := h', toks := tk' } := by
  rintro v nx h' tk' F N ⟨a0, a1, rfl, rfl, p1⟩
  exact k a0 a1 h' tk' F N p1
theorem o_17 {s : Shared} {Q : Value → Shared → Prop} {h₀ base : Heap} {L : Addr} {m : Str → Option Value} {fs : List Addr} {A : Around} {outer : List Env} {K : Frag} {p : Program} {loose : List Str} {mean : ExcName → Option Value} {mg mb : Str → Option Value} {A0 A1 : Type} {g : A0 → A1 → List (Addr × Obj)} {f : A0 → A1 → Value} {P1 : A0 → A1 → Prop} {P2 : A0 → A1 → Prop}
    (k : ∀ a0, ∀ a1, ∀ h' tk' h₁, KtsTurn fs h₀ h₁ → Below A base outer h₁ → Fr h₁ L h' m → K.In h₁ → News h₁ L h' (g a0 a1) → Top p loose mean mg mb h₁ → KtsDicts fs h₁ → P1 a0 a1 → P2 a0 a1 → Q (f a0 a1) { s with heap := h', toks := tk' }) :
    ∀ v nx h' tk' h₁, KtsTurn fs h₀ h₁ → Below A base outer h₁ → Fr h₁ L h' m → K.In h₁ → News h₁ L h' nx → Top p loose mean mg mb h₁ → KtsDicts fs h₁ → (∃ a0, ∃ a1, nx = g a0 a1 ∧ v = f a0 a1 ∧ P1 a0 a1 ∧ P2 a0 a1) → Q v { s with heap := h', toks := tk' } := by
  rintro v nx h' tk' h₁ W B F X N T D ⟨a0, a1, rfl, rfl, p1, p2⟩
  exact k a0 a1 h' tk' h₁ W B F X N T D p1 p2
theorem o_18 {s : Shared} {Q : Value → Shared → Prop} {h₀ : Heap} {L : Addr} {m : Str → Option Value} {A0 A1 A2 A3 A4 A5 A6 A7 A8 A9 A10 : Type} {f : A0 → A1 → A2 → A3 → A4 → A5 → A6 → A7 → A8 → A9 → A10 → Value} {g : A0 → A1 → A2 → A3 → A4 → A5 → A6 → A7 → A8 → A9 → A10 → List (Addr × Obj)} {P1 : A0 → A1 → A2 → A3 → A4 → A5 → A6 → A7 → A8 → A9 → A10 → Prop} {P2 : A0 → A1 → A2 → A3 → A4 → A5 → A6 → A7 → A8 → A9 → A10 → Prop} {P3 : A0 → A1 → A2 → A3 → A4 → A5 → A6 → A7 → A8 → A9 → A10 → Prop}
    (k : ∀ a0, ∀ a1, ∀ a2, ∀ a3, ∀ a4, ∀ a5, ∀ a6, ∀ a7, ∀ a8, ∀ a9, ∀ a10, ∀ h' tk', Fr h₀ L h' m → News h₀ L h' (g a0 a1 a2 a3 a4 a5 a6 a7 a8 a9 a10) → P1 a0 a1 a2 a3 a4 a5 a6 a7 a8 a9 a10 → P2 a0 a1 a2 a3 a4 a5 a6 a7 a8 a9 a10 → P3 a0 a1 a2 a3 a4 a5 a6 a7 a8 a9 a10 → Q (f a0 a1 a2 a3 a4 a5 a6 a7 a8 a9 a10) { s with heap := h', toks := tk' }) :
    ∀ v nx h' tk', Fr h₀ L h' m → News h₀ L h' nx → (∃ a0, ∃ a1, ∃ a2, ∃ a3, ∃ a4, ∃ a5, ∃ a6, ∃ a7, ∃ a8, ∃ a9, ∃ a10, v = f a0 a1 a2 a3 a4 a5 a6 a7 a8 a9 a10 ∧ nx = g a0 a1 a2 a3 a4 a5 a6 a7 a8 a9 a10 ∧ P1 a0 a1 a2 a3 a4 a5 a6 a7 a8 a9 a10 ∧ P2 a0 a1 a2 a3 a4 a5 a6 a7 a8 a9 a10 ∧ P3 a0 a1 a2 a3 a4 a5 a6 a7 a8 a9 a10) → Q v { s with heap := h', toks := tk' } := by
  rintro v nx h' tk' F N ⟨a0, a1, a2, a3, a4, a5, a6, a7, a8, a9, a10, rfl, rfl, p1, p2, p3⟩
  exact k a0 a1 a2 a3 a4 a5 a6 a7 a8 a9 a10 h' tk' F N p1 p2 p3
theorem o_19 {s : Shared} {Q : Value → Shared → Prop} {h₀ : Heap} {L : Addr} {m : Str → Option Value} {A0 A1 A2 A3 A4 A5 A6 A7 A8 A9 A10 A11 A12 : Type} {f : A0 → A1 → A2 → A3 → A4 → A5 → A6 → A7 → A8 → A9 → A10 → A11 → A12 → Value} {g : A0 → A1 → A2 → A3 → A4 → A5 → A6 → A7 → A8 → A9 → A10 → A11 → A12 → List (Addr × Obj)} {P1 : A0 → A1 → A2 → A3 → A4 → A5 → A6 → A7 → A8 → A9 → A10 → A11 → A12 → Prop}
    (k : ∀ a0, ∀ a1, ∀ a2, ∀ a3, ∀ a4, ∀ a5, ∀ a6, ∀ a7, ∀ a8, ∀ a9, ∀ a10, ∀ a11, ∀ a12, ∀ h' tk', Fr h₀ L h' m → News h₀ L h' (g a0 a1 a2 a3 a4 a5 a6 a7 a8 a9 a10 a11 a12) → P1 a0 a1 a2 a3 a4 a5 a6 a7 a8 a9 a10 a11 a12 → Q (f a0 a1 a2 a3 a4 a5 a6 a7 a8 a9 a10 a11 a12) { s with heap := h', toks := tk' }) :
    ∀ v nx h' tk', Fr h₀ L h' m → News h₀ L h' nx → (∃ a0, ∃ a1, ∃ a2, ∃ a3, ∃ a4, ∃ a5, ∃ a6, ∃ a7, ∃ a8, ∃ a9, ∃ a10, ∃ a11, ∃ a12, v = f a0 a1 a2 a3 a4 a5 a6 a7 a8 a9 a10 a11 a12 ∧ nx = g a0 a1 a2 a3 a4 a5 a6 a7 a8 a9 a10 a11 a12 ∧ P1 a0 a1 a2 a3 a4 a5 a6 a7 a8 a9 a10 a11 a12) → Q v { s with heap := h', toks := tk' } := by
  rintro v nx h' tk' F N ⟨a0, a1, a2, a3, a4, a5, a6, a7, a8, a9, a10, a11, a12, rfl, rfl, p1⟩
  exact k a0 a1 a2 a3 a4 a5 a6 a7 a8 a9 a10 a11 a12 h' tk' F N p1
theorem o_20 {s : Shared} {Q : Value → Shared → Prop} {h₀ : Heap} {L : Addr} {m : Str → Option Value} {A0 A1 A2 A3 A4 A5 A6 A7 A8 A9 A10 A11 A12 A13 : Type} {f : A0 → A1 → A2 → A3 → A4 → A5 → A6 → A7 → A8 → A9 → A10 → A11 → A12 → A13 → Value} {g : A0 → A1 → A2 → A3 → A4 → A5 → A6 → A7 → A8 → A9 → A10 → A11 → A12 → A13 → List (Addr × Obj)} {P1 : A0 → A1 → A2 → A3 → A4 → A5 → A6 → A7 → A8 → A9 → A10 → A11 → A12 → A13 → Prop}
    (k : ∀ a0, ∀ a1, ∀ a2, ∀ a3, ∀ a4, ∀ a5, ∀ a6, ∀ a7, ∀ a8, ∀ a9, ∀ a10, ∀ a11, ∀ a12, ∀ a13, ∀ h' tk', Fr h₀ L h' m → News h₀ L h' (g a0 a1 a2 a3 a4 a5 a6 a7 a8 a9 a10 a11 a12 a13) → P1 a0 a1 a2 a3 a4 a5 a6 a7 a8 a9 a10 a11 a12 a13 → Q (f a0 a1 a2 a3 a4 a5 a6 a7 a8 a9 a10 a11 a12 a13) { s with heap := h', toks := tk' }) :
    ∀ v nx h' tk', Fr h₀ L h' m → News h₀ L h' nx → (∃ a0, ∃ a1, ∃ a2, ∃ a3, ∃ a4, ∃ a5, ∃ a6, ∃ a7, ∃ a8, ∃ a9, ∃ a10, ∃ a11, ∃ a12, ∃ a13, v = f a0 a1 a2 a3 a4 a5 a6 a7 a8 a9 a10 a11 a12 a13 ∧ nx = g a0 a1 a2 a3 a4 a5 a6 a7 a8 a9 a10 a11 a12 a13 ∧ P1 a0 a1 a2 a3 a4 a5 a6 a7 a8 a9 a10 a11 a12 a13) → Q v { s with heap := h', toks := tk' } := by
  rintro v nx h' tk' F N ⟨a0, a1, a2, a3, a4, a5, a6, a7, a8, a9, a10, a11, a12, a13, rfl, rfl, p1⟩
  exact k a0 a1 a2 a3 a4 a5 a6 a7 a8 a9 a10 a11 a12 a13 h' tk' F N p1
theorem o_21 {s : Shared} {Q : Value → Shared → Prop} {h₀ : Heap} {L : Addr} {m : Str → Option Value} {A0 A1 A2 A3 A4 A5 : Type} {f : A0 → A1 → A2 → A3 → A4 → A5 → Value} {g : A0 → A1 → A2 → A3 → A4 → A5 → List (Addr × Obj)} {P1 : A0 → A1 → A2 → A3 → A4 → A5 → Prop} {P2 : A0 → A1 → A2 → A3 → A4 → A5 → Prop} {P3 : A0 → A1 → A2 → A3 → A4 → A5 → Prop} {P4 : A0 → A1 → A2 → A3 → A4 → A5 → Prop}
    (k : ∀ a0, ∀ a1, ∀ a2, ∀ a3, ∀ a4, ∀ a5, ∀ h' tk', Fr h₀ L h' m → News h₀ L h' (g a0 a1 a2 a3 a4 a5) → P1 a0 a1 a2 a3 a4 a5 → P2 a0 a1 a2 a3 a4 a5 → P3 a0 a1 a2 a3 a4 a5 → P4 a0 a1 a2 a3 a4 a5 → Q (f a0 a1 a2 a3 a4 a5) { s with heap := h', toks := tk' }) :
    ∀ v nx h' tk', Fr h₀ L h' m → News h₀ L h' nx → (∃ a0, ∃ a1, ∃ a2, ∃ a3, ∃ a4, ∃ a5, v = f a0 a1 a2 a3 a4 a5 ∧ nx = g a0 a1 a2 a3 a4 a5 ∧ P1 a0 a1 a2 a3 a4 a5 ∧ P2 a0 a1 a2 a3 a4 a5 ∧ P3 a0 a1 a2 a3 a4 a5 ∧ P4 a0 a1 a2 a3 a4 a5) → Q v { s with heap := h', toks := tk' } := by
  rintro v nx h' tk' F N ⟨a0, a1, a2, a3, a4, a5, rfl, rfl, p1, p2, p3, p4⟩
  exact k a0 a1 a2 a3 a4 a5 h' tk' F N p1 p2 p3 p4
theorem o_22 {s : Shared} {Q : Value → Shared → Prop} {h₀ : Heap} {L : Addr} {m : Str → Option Value} {A0 A1 A2 A3 A4 A5 A6 A7 A8 A9 A10 A11 A12 A13 A14 : Type} {f : A0 → A1 → A2 → A3 → A4 → A5 → A6 → A7 → A8 → A9 → A10 → A11 → A12 → A13 → A14 → Value} {g : A0 → A1 → A2 → A3 → A4 → A5 → A6 → A7 → A8 → A9 → A10 → A11 → A12 → A13 → A14 → List (Addr × Obj)} {P1 : A0 → A1 → A2 → A3 → A4 → A5 → A6 → A7 → A8 → A9 → A10 → A11 → A12 → A13 → A14 → Prop} {P2 : A0 → A1 → A2 → A3 → A4 → A5 → A6 → A7 → A8 → A9 → A10 → A11 → A12 → A13 → A14 → Prop} {P3 : A0 → A1 → A2 → A3 → A4 → A5 → A6 → A7 → A8 → A9 → A10 → A11 → A12 → A13 → A14 → Prop} {P4 : A0 → A1 → A2 → A3 → A4 → A5 → A6 → A7 → A8 → A9 → A10 → A11 → A12 → A13 → A14 → Prop} {P5 : A0 → A1 → A2 → A3 → A4 → A5 → A6 → A7 → A8 → A9 → A10 → A11 → A12 → A13 → A14 → Prop} {P6 : A0 → A1 → A2 → A3 → A4 → A5 → A6 → A7 → A8 → A9 → A10 → A11 → A12 → A13 → A14 → Prop} {P7 : A0 → A1 → A2 → A3 → A4 → A5 → A6 → A7 → A8 → A9 → A10 → A11 → A12 → A13 → A14 → Prop} {P8 : A0 → A1 → A2 → A3 → A4 → A5 → A6 → A7 → A8 → A9 → A10 → A11 → A12 → A13 → A14 → Prop} {P9 : A0 → A1 → A2 → A3 → A4 → A5 → A6 → A7 → A8 → A9 → A10 → A11 → A12 → A13 → A14 → Prop} {P10 : A0 → A1 → A2 → A3 → A4 → A5 → A6 → A7 → A8 → A9 → A10 → A11 → A12 → A13 → A14 → Prop} {P11 : A0 → A1 → A2 → A3 → A4 → A5 → A6 → A7 → A8 → A9 → A10 → A11 → A12 → A13 → A14 → Prop} {P12 : A0 → A1 → A2 → A3 → A4 → A5 → A6 → A7 → A8 → A9 → A10 → A11 → A12 → A13 → A14 → Prop}
    (k : ∀ a0, ∀ a1, ∀ a2, ∀ a3, ∀ a4, ∀ a5, ∀ a6, ∀ a7, ∀ a8, ∀ a9, ∀ a10, ∀ a11, ∀ a12, ∀ a13, ∀ a14, ∀ h' tk', Fr h₀ L h' m → News h₀ L h' (g a0 a1 a2 a3 a4 a5 a6 a7 a8 a9 a10 a11 a12 a13 a14) → P1 a0 a1 a2 a3 a4 a5 a6 a7 a8 a9 a10 a11 a12 a13 a14 → P2 a0 a1 a2 a3 a4 a5 a6 a7 a8 a9 a10 a11 a12 a13 a14 → P3 a0 a1 a2 a3 a4 a5 a6 a7 a8 a9 a10 a11 a12 a13 a14 → P4 a0 a1 a2 a3 a4 a5 a6 a7 a8 a9 a10 a11 a12 a13 a14 → P5 a0 a1 a2 a3 a4 a5 a6 a7 a8 a9 a10 a11 a12 a13 a14 → P6 a0 a1 a2 a3 a4 a5 a6 a7 a8 a9 a10 a11 a12 a13 a14 → P7 a0 a1 a2 a3 a4 a5 a6 a7 a8 a9 a10 a11 a12 a13 a14 → P8 a0 a1 a2 a3 a4 a5 a6 a7 a8 a9 a10 a11 a12 a13 a14 → P9 a0 a1 a2 a3 a4 a5 a6 a7 a8 a9 a10 a11 a12 a13 a14 → P10 a0 a1 a2 a3 a4 a5 a6 a7 a8 a9 a10 a11 a12 a13 a14 → P11 a0 a1 a2 a3 a4 a5 a6 a7 a8 a9 a10 a11 a12 a13 a14 → P12 a0 a1 a2 a3 a4 a5 a6 a7 a8 a9 a10 a11 a12 a13 a14 → Q (f a0 a1 a2 a3 a4 a5 a6 a7 a8 a9 a10 a11 a12 a13 a14) { s with heap := h', toks := tk' }) :
    ∀ v nx h' tk', Fr h₀ L h' m → News h₀ L h' nx → (∃ a0, ∃ a1, ∃ a2, ∃ a3, ∃ a4, ∃ a5, ∃ a6, ∃ a7, ∃ a8, ∃ a9, ∃ a10, ∃ a11, ∃ a12, ∃ a13, ∃ a14, v = f a0 a1 a2 a3 a4 a5 a6 a7 a8 a9 a10 a11 a12 a13 a14 ∧ nx = g a0 a1 a2 a3 a4 a5 a6 a7 a8 a9 a10 a11 a12 a13 a14 ∧ P1 a0 a1 a2 a3 a4 a5 a6 a7 a8 a9 a10 a11 a12 a13 a14 ∧ P2 a0 a1 a2 a3 a4 a5 a6 a7 a8 a9 a10 a11 a12 a13 a14 ∧ P3 a0 a1 a2 a3 a4 a5 a6 a7 a8 a9 a10 a11 a12 a13 a14 ∧ P4 a0 a1 a2 a3 a4 a5 a6 a7 a8 a9 a10 a11 a12 a13 a14 ∧ P5 a0 a1 a2 a3 a4 a5 a6 a7 a8 a9 a10 a11 a12 a13 a14 ∧ P6 a0 a1 a2 a3 a4 a5 a6 a7 a8 a9 a10 a11 a12 a13 a14 ∧ P7 a0 a1 a2 a3 a4 a5 a6 a7 a8 a9 a10 a11 a12 a13 a14 ∧ P8 a0 a1 a2 a3 a4 a5 a6 a7 a8 a9 a10 a11 a12 a13 a14 ∧ P9 a0 a1 a2 a3 a4 a5 a6 a7 a8 a9 a10 a11 a12 a13 a14 ∧ P10 a0 a1 a2 a3 a4 a5 a6 a7 a8 a9 a10 a11 a12 a13 a14 ∧ P11 a0 a1 a2 a3 a4 a5 a6 a7 a8 a9 a10 a11 a12 a13 a14 ∧ P12 a0 a1 a2 a3 a4 a5 a6 a7 a8 a9 a10 a11 a12 a13 a14) → Q v { s with heap := h', toks := tk' } := by
  rintro v nx h' tk' F N ⟨a0, a1, a2, a3, a4, a5, a6, a7, a8, a9, a10, a11, a12, a13, a14, rfl, rfl, p1, p2, p3, p4, p5, p6, p7, p8, p9, p10, p11, p12⟩
  exact k a0 a1 a2 a3 a4 a5 a6 a7 a8 a9 a10 a11 a12 a13 a14 h' tk' F N p1 p2 p3 p4 p5 p6 p7 p8 p9 p10 p11 p12
theorem o_23 {s : Shared} {Q : Value → Shared → Prop} {h₀ base : Heap} {L : Addr} {m : Str → Option Value} {fs : List Addr} {A : Around} {outer : List Env} {K : Frag} {p : Program} {loose : List Str} {mean : ExcName → Option Value} {mg mb : Str → Option Value} {A0 A1 A2 A3 A4 A5 A6 A7 A8 : Type} {f : Value} {g : A0 → A1 → A2 → A3 → A4 → A5 → A6 → A7 → A8 → List (Addr × Obj)} {P1 : A0 → A1 → A2 → A3 → A4 → A5 → A6 → A7 → A8 → Prop} {P2 : A0 → A1 → A2 → A3 → A4 → A5 → A6 → A7 → A8 → Prop} {P3 : A0 → A1 → A2 → A3 → A4 → A5 → A6 → A7 → A8 → Prop} {P4 : A0 → A1 → A2 → A3 → A4 → A5 → A6 → A7 → A8 → Prop} {P5 : A0 → A1 → A2 → A3 → A4 → A5 → A6 → A7 → A8 → Prop} {P6 : A0 → A1 → A2 → A3 → A4 → A5 → A6 → A7 → A8 → Prop} {P7 : A0 → A1 → A2 → A3 → A4 → A5 → A6 → A7 → A8 → Prop}
    (k : ∀ a0, ∀ a1, ∀ a2, ∀ a3, ∀ a4, ∀ a5, ∀ a6, ∀ a7, ∀ a8, ∀ h' tk' h₁, KtsTurn fs h₀ h₁ → Below A base outer h₁ → Fr h₁ L h' m → K.In h₁ → News h₁ L h' (g a0 a1 a2 a3 a4 a5 a6 a7 a8) → Top p loose mean mg mb h₁ → KtsDicts fs h₁ → P1 a0 a1 a2 a3 a4 a5 a6 a7 a8 → P2 a0 a1 a2 a3 a4 a5 a6 a7 a8 → P3 a0 a1 a2 a3 a4 a5 a6 a7 a8 → P4 a0 a1 a2 a3 a4 a5 a6 a7 a8 → P5 a0 a1 a2 a3 a4 a5 a6 a7 a8 → P6 a0 a1 a2 a3 a4 a5 a6 a7 a8 → P7 a0 a1 a2 a3 a4 a5 a6 a7 a8 → Q f { s with heap := h', toks := tk' }) :
    ∀ v nx h' tk' h₁, KtsTurn fs h₀ h₁ → Below A base outer h₁ → Fr h₁ L h' m → K.In h₁ → News h₁ L h' nx → Top p loose mean mg mb h₁ → KtsDicts fs h₁ → (v = f ∧ ∃ a0, ∃ a1, ∃ a2, ∃ a3, ∃ a4, ∃ a5, ∃ a6, ∃ a7, ∃ a8, nx = g a0 a1 a2 a3 a4 a5 a6 a7 a8 ∧ P1 a0 a1 a2 a3 a4 a5 a6 a7 a8 ∧ P2 a0 a1 a2 a3 a4 a5 a6 a7 a8 ∧ P3 a0 a1 a2 a3 a4 a5 a6 a7 a8 ∧ P4 a0 a1 a2 a3 a4 a5 a6 a7 a8 ∧ P5 a0 a1 a2 a3 a4 a5 a6 a7 a8 ∧ P6 a0 a1 a2 a3 a4 a5 a6 a7 a8 ∧ P7 a0 a1 a2 a3 a4 a5 a6 a7 a8) → Q v { s with heap := h', toks := tk' } := by
  rintro v nx h' tk' h₁ W B F X N T D ⟨rfl, a0, a1, a2, a3, a4, a5, a6, a7, a8, rfl, p1, p2, p3, p4, p5, p6, p7⟩
  exact k a0 a1 a2 a3 a4 a5 a6 a7 a8 h' tk' h₁ W B F X N T D p1 p2 p3 p4 p5 p6 p7
local macro_rules | `(tactic| walk_at $s:str) => `(tactic| k_extra $s)
theorem top_off_P1 : True := by
  w_top off
  trivial
local macro_rules | `(tactic| k_enter) => `(tactic| walk_at "mine kenter")
local macro_rules | `(tactic| kba_bound) => `(tactic| walk_at "mine kbabound")
local macro_rules | `(tactic| ktr_room) => `(tactic| walk_at "mine room")
local macro_rules | `(tactic| ktr_units) => `(tactic| walk_at "mine units")
local macro_rules | `(tactic| k_ne) => `(tactic| walk_at "mine kne")
local macro_rules | `(tactic| k_all) => `(tactic| walk_at "mine kall")
local macro_rules | `(tactic| k_lt $_h:ident) => `(tactic| skip)
theorem kw_1 : True := by
  k_with "mine kenter" => (k_dflt (first
  | (refine' code_def ?k1 ?k2 ?k3 ?k4 ?k5 ?qzkA ?qzkF ?kK ?qzk6 ?qzk7 ?qzk8 ?qzk9 ?qzkB ?_ ?qzc2 ?qzc3 ?qzc4 ?qzc5; (case qzkA => exact rfl); (case qzkF => exact rfl); (case kK => assumption); (case k1 => k_asm); (case k2 => k_asm); (case k3 => k_asm); (case k4 => k_asm); (case k5 => k_asm); (case qzk6 => k_is); (case qzk7 => k_is); (case qzk8 => ktr_room); (case qzk9 => first | exact BindsTo.of_eq rfl | exact binds_K (by k_in) rfl (by k_is) rfl rfl rfl); (case qzc5 => decide); (case qzkB => exact locs rfl); (case qzc2 => exact rfl); (case qzc3 => exact rfl); (case qzc4 => exact rfl); k_whole; intro g' L' h' FG' F' N' B' X' T'; (try dsimp only); (try k_lift B'); (try k_fold))
  | (refine' code_defC ?k1 ?k2 ?k3 ?k4 ?k5 ?qzkA ?qzkF ?kK ?qzk6 ?qzk7 ?qzk8 ?qzk9 ?qzkB ?qzkD ?_ ?qzc2 ?qzc3 ?qzc4; (case qzkA => exact rfl); (case qzkF => exact rfl); (case kK => assumption); (case k1 => k_asm); (case k2 => k_asm); (case k3 => k_asm); (case k4 => k_asm); (case k5 => k_asm); (case qzk6 => k_is); (case qzk7 => k_is); (case qzk8 => ktr_room); (case qzk9 => first | exact BindsTo.of_eq rfl | exact binds_K (by k_in) rfl (by k_is) rfl rfl rfl); (case qzkB => exact rfl); (case qzkD => decide +kernel); (case qzc2 => exact rfl); (case qzc3 => exact rfl); (case qzc4 => exact rfl); k_whole; intro g' L' h' tk' cells' FG' F' N' Y' B' X' T' l1; (try k_lt l1); k_cells Y'; (try simp only [List.cons_append, List.nil_append] at N'); (try dsimp only); (try k_lift B'); (try k_fold))))
  k_with "mine enter" => ((refine wpAny_call ?_; k_dflt (first
  | (refine' code_def ?k1 ?k2 ?k3 ?k4 ?k5 ?qzkA ?qzkF ?kK ?qzk6 ?qzk7 ?qzk8 ?qzk9 ?qzkB ?_ ?qzc2 ?qzc3 ?qzc4 ?qzc5; (case qzkA => exact rfl); (case qzkF => exact rfl); (case kK => assumption); (case k1 => k_asm); (case k2 => k_asm); (case k3 => k_asm); (case k4 => k_asm); (case k5 => k_asm); (case qzk6 => k_is); (case qzk7 => k_is); (case qzk8 => ktr_room); (case qzk9 => first | exact BindsTo.of_eq rfl | exact binds_K (by k_in) rfl (by k_is) rfl rfl rfl); (case qzc5 => decide); (case qzkB => exact locs rfl); (case qzc2 => exact rfl); (case qzc3 => exact rfl); (case qzc4 => exact rfl); k_whole; intro g' L' h' FG' F' N' B' X' T'; (try dsimp only); (try k_lift B'); (try k_fold))
  | (refine' code_defC ?k1 ?k2 ?k3 ?k4 ?k5 ?qzkA ?qzkF ?kK ?qzk6 ?qzk7 ?qzk8 ?qzk9 ?qzkB ?qzkD ?_ ?qzc2 ?qzc3 ?qzc4; (case qzkA => exact rfl); (case qzkF => exact rfl); (case kK => assumption); (case k1 => k_asm); (case k2 => k_asm); (case k3 => k_asm); (case k4 => k_asm); (case k5 => k_asm); (case qzk6 => k_is); (case qzk7 => k_is); (case qzk8 => ktr_room); (case qzk9 => first | exact BindsTo.of_eq rfl | exact binds_K (by k_in) rfl (by k_is) rfl rfl rfl); (case qzkB => exact rfl); (case qzkD => decide +kernel); (case qzc2 => exact rfl); (case qzc3 => exact rfl); (case qzc4 => exact rfl); k_whole; intro g' L' h' tk' cells' FG' F' N' Y' B' X' T' l1; (try k_lt l1); k_cells Y'; (try simp only [List.cons_append, List.nil_append] at N'); (try dsimp only); (try k_lift B'); (try k_fold)))))
  k_with "mine side" => (((case k1 => k_asm); (case k2 => k_asm); (case k3 => k_asm); (case k4 => k_asm); (case k5 => k_asm); (case kK => first | exact rfl | assumption); (case kd => ktr_room); (case ku => ktr_units)))
  k_with "mine kbabound" => (((try dsimp only); first | exact and255_lo _ | exact and255_hi _))
  k_with "mine news" => (first | k_asm | (refine cb_drop (by assumption) ?_; intro p9 hp9; (repeat (first | exact hp9 | refine List.mem_cons_of_mem _ ?_))))
  k_with "mine room" => (((with_reducible rename @LT.lt Nat _ (_ + _) recursionLimit => hq9); k_dflt (first | exact room_1 hq9 (by exact rfl) | exact room_j hq9 (by exact rfl) | exact room_0 hq9)))
  k_with "mine units" => (((with_reducible rename @LT.lt Nat _ (_ + _) cLine => hq9); k_dflt (first | exact units_1 hq9 (by exact rfl) | exact units_j hq9 (by exact rfl))))
  k_with "mine me" => (first | with_reducible exact me0 | with_reducible exact me1 | with_reducible exact me2 | with_reducible exact me3 | with_reducible exact me4 | with_reducible exact me5 | with_reducible exact me6 | with_reducible exact me7 | with_reducible exact me8 | with_reducible exact me9 | with_reducible exact me10 | with_reducible exact me11 | with_reducible exact me12 | with_reducible exact me13 | with_reducible exact me14 | with_reducible exact me15 | with_reducible exact me16 | with_reducible exact me17 | with_reducible exact me18 | with_reducible assumption | k_mem)
  k_with "mine ltall" => (((repeat ((with_reducible rename (∀ p ∈ _, Prod.fst p < _) => h7); replace h7 := allLt_of h7; simp only [AllLt, and_true] at h7))))
  k_with "mine kne" => ((refine neN ?_; (try dsimp only); first | with_reducible assumption | decide | exact Nat.ne_of_gt (by with_reducible assumption) | exact Nat.ne_of_lt (by with_reducible assumption) | exact ne_l (by with_reducible assumption) (by walk_at "mine me") | exact ne_r (by with_reducible assumption) (by walk_at "mine me") | exact ne_l2 (by with_reducible assumption) (by with_reducible assumption) (by walk_at "mine me") | exact ne_r2 (by with_reducible assumption) (by with_reducible assumption) (by walk_at "mine me") | exact ne_l1 (by with_reducible assumption) (by walk_at "mine me") | exact ne_r1 (by with_reducible assumption) (by walk_at "mine me") | exact ne_l11 (by with_reducible assumption) (by walk_at "mine me") | exact ne_r11 (by with_reducible assumption) (by walk_at "mine me") | exact ne_s1 | exact ne_s2 | exact ne_b1 (by with_reducible assumption) rfl | exact ne_b2 (by with_reducible assumption) rfl | exact Ne.symm (by with_reducible assumption) | (trace_state; walk_at "mine ltall"; omega)))
  k_with "mine sk" => (first | with_reducible exact sk0 | with_reducible exact sk1 | with_reducible exact sk2 | with_reducible exact sk3 | with_reducible exact sk4 | with_reducible exact sk5 | with_reducible exact sk6 | with_reducible exact sk7 | with_reducible exact sk8 | with_reducible exact sk9 | with_reducible exact sk10 | with_reducible exact sk11 | with_reducible exact sk12 | with_reducible exact sk13 | with_reducible exact sk14 | with_reducible exact sk15 | with_reducible exact sk16 | with_reducible exact sk17 | with_reducible exact sk18)
  k_with "mine kall" => (first | with_reducible assumption | exact all_l (by with_reducible assumption) (by walk_at "mine sk") | exact all_l2 (by with_reducible assumption) (by with_reducible assumption) (by walk_at "mine sk") | exact all_l1 (by with_reducible assumption) (by walk_at "mine sk") | exact all_l11 (by with_reducible assumption) (by walk_at "mine sk") | (with_reducible exact List.forall_mem_nil _) | (refine' List.forall_mem_cons.mpr ⟨?qza, ?qzb⟩; (case qza => k_ne); (case qzb => k_all)) | (trace_state; exact all_ne (by assumption) (by walk_at "mine ltall"; omega)))
  k_with "mine lt" => (first | with_reducible assumption | exact lt_t0 (by with_reducible assumption) (by walk_at "mine me") | exact lt_t1 (by with_reducible assumption) (by with_reducible assumption) (by walk_at "mine me") | exact lt_t2 (by with_reducible assumption) (by with_reducible assumption) (by with_reducible assumption) (by walk_at "mine me") | (trace_state; walk_at "mine ltall"; omega))
  trivial
theorem kwp_P1_1 : True := by
  k_with "subscriptTail" => ((k_here; (with_reducible show wpAny _ _ (subscriptTail _ _ (Value.ref 153) (Value.int _ _)) _ _ _); (with_unfolding_all refine' topTupAny_K ?qzF ?qzX ?qzl ?qzi ?k3 ?k4 ?k5 ?_; (case qzF => k_asm); (case qzX => k_asm); (case qzl => k_is); (case qzi => l_ints); (case k3 => exact and15_lo _); (case k4 => exact and15_hi _); (case k5 => exact Int.lt_trans (and15_hi _) (by decide)); k_whole); intro _))
  k_with "pyIter bytes" => (((with_reducible show wpAny _ _ (pyIter (Value.bytes _ _)) (fun it s₂ => LoopAtV _ _ _ _ _ _ _ _ _ it s₂) _ _); (with_unfolding_all refine' KBw.iterBytes_acc1 (y := Str.ofString "word") crcStep (by kba_ints) (by rfl) (by k_asm) (by k_asm) (by rfl) (fun k' t' a' ta' h' tk' own' hmem' hlo' hhi' hoff' F' N' => ?_) (fun u' t' h' tk' F' N' => ?_)); (all_goals (try k_fold))))
  k_with "InvEndN" => ((refine InvEndN.intro (by assumption) (by assumption) ⟨rfl, ⟨_, by with_unfolding_all rfl⟩, by k_same2⟩ (by rfl) (fun p hp => List.mem_append_left _ hp) (fun p hp => List.mem_append_right _ hp)))
  trivial
set_option maxHeartbeats 4000000 in
theorem crc_sp (w : World) (b : Array UInt8) (ks : List Int) (tb : Tok) (hb : KBw.bInts b = ks) (news : List (Addr × Obj)) :
   Spec 2 w 160 [.bytes b tb] news (fun v nx => ∃ (t : Tok), v = .int (crcF ks) t ∧ nx = news) := by
  unfold Spec
  k_fill
  intro p loose mean mg mb dp un gd cn cs a ccd cl outer A₀ base h₀ L m s Q E B F X N T hck hdp hun hret
  refine wpAny_call ?_
  k_dflt cell_enter
  k_steps
  all_goals exact hret _ _ _ _ (by k_asm) (by k_asm) ⟨_, rfl, rfl⟩
theorem kw_2 : True := by
  k_with_none
  k_with "mine kenter" => (k_dflt (first
  | (refine' code_def ?k1 ?k2 ?k3 ?k4 ?k5 ?qzkA ?qzkF ?kK ?qzk6 ?qzk7 ?qzk8 ?qzk9 ?qzkB ?_ ?qzc2 ?qzc3 ?qzc4 ?qzc5; (case qzkA => exact rfl); (case qzkF => exact rfl); (case kK => assumption); (case k1 => k_asm); (case k2 => k_asm); (case k3 => k_asm); (case k4 => k_asm); (case k5 => k_asm); (case qzk6 => k_is); (case qzk7 => k_is); (case qzk8 => ktr_room); (case qzk9 => first | exact BindsTo.of_eq rfl | exact binds_K (by k_in) rfl (by k_is) rfl rfl rfl); (case qzc5 => decide); (case qzkB => exact locs rfl); (case qzc2 => exact rfl); (case qzc3 => exact rfl); (case qzc4 => exact rfl); k_whole; intro g' L' h' FG' F' N' B' X' T'; (try dsimp only); (try k_lift B'); (try k_fold))
  | (refine' code_defC ?k1 ?k2 ?k3 ?k4 ?k5 ?qzkA ?qzkF ?kK ?qzk6 ?qzk7 ?qzk8 ?qzk9 ?qzkB ?qzkD ?_ ?qzc2 ?qzc3 ?qzc4; (case qzkA => exact rfl); (case qzkF => exact rfl); (case kK => assumption); (case k1 => k_asm); (case k2 => k_asm); (case k3 => k_asm); (case k4 => k_asm); (case k5 => k_asm); (case qzk6 => k_is); (case qzk7 => k_is); (case qzk8 => ktr_room); (case qzk9 => first | exact BindsTo.of_eq rfl | exact binds_K (by k_in) rfl (by k_is) rfl rfl rfl); (case qzkB => exact rfl); (case qzkD => decide +kernel); (case qzc2 => exact rfl); (case qzc3 => exact rfl); (case qzc4 => exact rfl); k_whole; intro g' L' h' tk' cells' FG' F' N' Y' B' X' T' l1; (try k_lt l1); k_cells Y'; (try simp only [List.cons_append, List.nil_append] at N'); (try dsimp only); (try k_lift B'); (try k_fold))))
  k_with "mine enter" => ((refine wpAny_call ?_; k_dflt (first
  | (refine' code_def ?k1 ?k2 ?k3 ?k4 ?k5 ?qzkA ?qzkF ?kK ?qzk6 ?qzk7 ?qzk8 ?qzk9 ?qzkB ?_ ?qzc2 ?qzc3 ?qzc4 ?qzc5; (case qzkA => exact rfl); (case qzkF => exact rfl); (case kK => assumption); (case k1 => k_asm); (case k2 => k_asm); (case k3 => k_asm); (case k4 => k_asm); (case k5 => k_asm); (case qzk6 => k_is); (case qzk7 => k_is); (case qzk8 => ktr_room); (case qzk9 => first | exact BindsTo.of_eq rfl | exact binds_K (by k_in) rfl (by k_is) rfl rfl rfl); (case qzc5 => decide); (case qzkB => exact locs rfl); (case qzc2 => exact rfl); (case qzc3 => exact rfl); (case qzc4 => exact rfl); k_whole; intro g' L' h' FG' F' N' B' X' T'; (try dsimp only); (try k_lift B'); (try k_fold))
  | (refine' code_defC ?k1 ?k2 ?k3 ?k4 ?k5 ?qzkA ?qzkF ?kK ?qzk6 ?qzk7 ?qzk8 ?qzk9 ?qzkB ?qzkD ?_ ?qzc2 ?qzc3 ?qzc4; (case qzkA => exact rfl); (case qzkF => exact rfl); (case kK => assumption); (case k1 => k_asm); (case k2 => k_asm); (case k3 => k_asm); (case k4 => k_asm); (case k5 => k_asm); (case qzk6 => k_is); (case qzk7 => k_is); (case qzk8 => ktr_room); (case qzk9 => first | exact BindsTo.of_eq rfl | exact binds_K (by k_in) rfl (by k_is) rfl rfl rfl); (case qzkB => exact rfl); (case qzkD => decide +kernel); (case qzc2 => exact rfl); (case qzc3 => exact rfl); (case qzc4 => exact rfl); k_whole; intro g' L' h' tk' cells' FG' F' N' Y' B' X' T' l1; (try k_lt l1); k_cells Y'; (try simp only [List.cons_append, List.nil_append] at N'); (try dsimp only); (try k_lift B'); (try k_fold)))))
  k_with "mine side" => (((case k1 => k_asm); (case k2 => k_asm); (case k3 => k_asm); (case k4 => k_asm); (case k5 => k_asm); (case kK => first | exact rfl | assumption); (case kd => ktr_room); (case ku => ktr_units)))
  k_with "mine kbabound" => (((try dsimp only); first | exact and255_lo _ | exact and255_hi _))
  k_with "mine news" => (first | k_asm | (refine cb_drop (by assumption) ?_; intro p9 hp9; (repeat (first | exact hp9 | refine List.mem_cons_of_mem _ ?_))))
  k_with "mine room" => (((with_reducible rename @LT.lt Nat _ (_ + _) recursionLimit => hq9); k_dflt (first | exact room_1 hq9 (by exact rfl) | exact room_j hq9 (by exact rfl) | exact room_0 hq9)))
  k_with "mine units" => (((with_reducible rename @LT.lt Nat _ (_ + _) cLine => hq9); k_dflt (first | exact units_1 hq9 (by exact rfl) | exact units_j hq9 (by exact rfl))))
  k_with "mine me" => (first | with_reducible exact me0 | with_reducible exact me1 | with_reducible exact me2 | with_reducible exact me3 | with_reducible exact me4 | with_reducible exact me5 | with_reducible exact me6 | with_reducible exact me7 | with_reducible exact me8 | with_reducible exact me9 | with_reducible exact me10 | with_reducible exact me11 | with_reducible exact me12 | with_reducible exact me13 | with_reducible exact me14 | with_reducible exact me15 | with_reducible exact me16 | with_reducible exact me17 | with_reducible exact me18 | with_reducible assumption | k_mem)
  k_with "mine ltall" => (((repeat ((with_reducible rename (∀ p ∈ _, Prod.fst p < _) => h7); replace h7 := allLt_of h7; simp only [AllLt, and_true] at h7))))
  k_with "mine kne" => ((refine neN ?_; (try dsimp only); first | with_reducible assumption | decide | exact Nat.ne_of_gt (by with_reducible assumption) | exact Nat.ne_of_lt (by with_reducible assumption) | exact ne_l (by with_reducible assumption) (by walk_at "mine me") | exact ne_r (by with_reducible assumption) (by walk_at "mine me") | exact ne_l2 (by with_reducible assumption) (by with_reducible assumption) (by walk_at "mine me") | exact ne_r2 (by with_reducible assumption) (by with_reducible assumption) (by walk_at "mine me") | exact ne_l1 (by with_reducible assumption) (by walk_at "mine me") | exact ne_r1 (by with_reducible assumption) (by walk_at "mine me") | exact ne_l11 (by with_reducible assumption) (by walk_at "mine me") | exact ne_r11 (by with_reducible assumption) (by walk_at "mine me") | exact ne_s1 | exact ne_s2 | exact ne_b1 (by with_reducible assumption) rfl | exact ne_b2 (by with_reducible assumption) rfl | exact Ne.symm (by with_reducible assumption) | (trace_state; walk_at "mine ltall"; omega)))
  k_with "mine sk" => (first | with_reducible exact sk0 | with_reducible exact sk1 | with_reducible exact sk2 | with_reducible exact sk3 | with_reducible exact sk4 | with_reducible exact sk5 | with_reducible exact sk6 | with_reducible exact sk7 | with_reducible exact sk8 | with_reducible exact sk9 | with_reducible exact sk10 | with_reducible exact sk11 | with_reducible exact sk12 | with_reducible exact sk13 | with_reducible exact sk14 | with_reducible exact sk15 | with_reducible exact sk16 | with_reducible exact sk17 | with_reducible exact sk18)
  k_with "mine kall" => (first | with_reducible assumption | exact all_l (by with_reducible assumption) (by walk_at "mine sk") | exact all_l2 (by with_reducible assumption) (by with_reducible assumption) (by walk_at "mine sk") | exact all_l1 (by with_reducible assumption) (by walk_at "mine sk") | exact all_l11 (by with_reducible assumption) (by walk_at "mine sk") | (with_reducible exact List.forall_mem_nil _) | (refine' List.forall_mem_cons.mpr ⟨?qza, ?qzb⟩; (case qza => k_ne); (case qzb => k_all)) | (trace_state; exact all_ne (by assumption) (by walk_at "mine ltall"; omega)))
  k_with "mine lt" => (first | with_reducible assumption | exact lt_t0 (by with_reducible assumption) (by walk_at "mine me") | exact lt_t1 (by with_reducible assumption) (by with_reducible assumption) (by walk_at "mine me") | exact lt_t2 (by with_reducible assumption) (by with_reducible assumption) (by with_reducible assumption) (by walk_at "mine me") | (trace_state; walk_at "mine ltall"; omega))
  trivial
theorem top_off_P2 : True := by
  w_top off
  trivial
theorem kwp_P2_1 : True := by
  k_with "call ref" => ((k_here; (with_reducible show wpAny _ _ (call (Value.ref 160) [Value.bytes _ _]) _ _ _); k_dflt (refine' crc_sp _ _ _ _ (by kba_ints) _ _ _ _ _ _ _ _ _ _ _ _ _ _ _ _ _ _ _ _ _ _ _ ?k1 ?k2 ?k3 ?k4 ?k5 ?kK ?kd ?ku ?qzkR; walk_at "mine side"); intro v9 nx9 h9 tk9 F9 N9 r9; obtain ⟨t9, e9, f9⟩ := r9; subst e9; subst f9; (try dsimp only); (try k_fold)))
  trivial
noncomputable def sumF (ks : List Int) : List Int := (rangeKs 0 (4 - 0 : Int).toNat).map fun k => Builtin.bitAnd ((crcF ks).fdiv (2 ^ (8 * k).toNat)) 255
set_option maxHeartbeats 4000000 in
theorem sum_sp (w : World) (b : Array UInt8) (ks : List Int) (tb : Tok) (hb : KBw.bInts b = ks) (news : List (Addr × Obj)) :
   Spec 4 w 165 [.bytes b tb] news (fun v nx => ∃ (c : Array UInt8) (t : Tok), v = .bytes c t ∧ KBw.bInts c = sumF ks ∧ nx = news) := by
  unfold Spec
  k_fill
  intro p loose mean mg mb dp un gd cn cs a ccd cl outer A₀ base h₀ L m s Q E B F X N T hck hdp hun hret
  walk_at "mine enter"
  k_steps
  all_goals exact hret _ _ _ _ (by k_asm) (by walk_at "mine news") ⟨_, _, rfl, by kba_ints, rfl⟩
theorem kw_3 : True := by
  k_with_none
  k_with "mine kenter" => (k_dflt (first
  | (refine' code_def ?k1 ?k2 ?k3 ?k4 ?k5 ?qzkA ?qzkF ?kK ?qzk6 ?qzk7 ?qzk8 ?qzk9 ?qzkB ?_ ?qzc2 ?qzc3 ?qzc4 ?qzc5; (case qzkA => exact rfl); (case qzkF => exact rfl); (case kK => assumption); (case k1 => k_asm); (case k2 => k_asm); (case k3 => k_asm); (case k4 => k_asm); (case k5 => k_asm); (case qzk6 => k_is); (case qzk7 => k_is); (case qzk8 => ktr_room); (case qzk9 => first | exact BindsTo.of_eq rfl | exact binds_K (by k_in) rfl (by k_is) rfl rfl rfl); (case qzc5 => decide); (case qzkB => exact locs rfl); (case qzc2 => exact rfl); (case qzc3 => exact rfl); (case qzc4 => exact rfl); k_whole; intro g' L' h' FG' F' N' B' X' T'; (try dsimp only); (try k_lift B'); (try k_fold))
  | (refine' code_defC ?k1 ?k2 ?k3 ?k4 ?k5 ?qzkA ?qzkF ?kK ?qzk6 ?qzk7 ?qzk8 ?qzk9 ?qzkB ?qzkD ?_ ?qzc2 ?qzc3 ?qzc4; (case qzkA => exact rfl); (case qzkF => exact rfl); (case kK => assumption); (case k1 => k_asm); (case k2 => k_asm); (case k3 => k_asm); (case k4 => k_asm); (case k5 => k_asm); (case qzk6 => k_is); (case qzk7 => k_is); (case qzk8 => ktr_room); (case qzk9 => first | exact BindsTo.of_eq rfl | exact binds_K (by k_in) rfl (by k_is) rfl rfl rfl); (case qzkB => exact rfl); (case qzkD => decide +kernel); (case qzc2 => exact rfl); (case qzc3 => exact rfl); (case qzc4 => exact rfl); k_whole; intro g' L' h' tk' cells' FG' F' N' Y' B' X' T' l1; (try k_lt l1); k_cells Y'; (try simp only [List.cons_append, List.nil_append] at N'); (try dsimp only); (try k_lift B'); (try k_fold))))
  k_with "mine enter" => ((refine wpAny_call ?_; k_dflt (first
  | (refine' code_def ?k1 ?k2 ?k3 ?k4 ?k5 ?qzkA ?qzkF ?kK ?qzk6 ?qzk7 ?qzk8 ?qzk9 ?qzkB ?_ ?qzc2 ?qzc3 ?qzc4 ?qzc5; (case qzkA => exact rfl); (case qzkF => exact rfl); (case kK => assumption); (case k1 => k_asm); (case k2 => k_asm); (case k3 => k_asm); (case k4 => k_asm); (case k5 => k_asm); (case qzk6 => k_is); (case qzk7 => k_is); (case qzk8 => ktr_room); (case qzk9 => first | exact BindsTo.of_eq rfl | exact binds_K (by k_in) rfl (by k_is) rfl rfl rfl); (case qzc5 => decide); (case qzkB => exact locs rfl); (case qzc2 => exact rfl); (case qzc3 => exact rfl); (case qzc4 => exact rfl); k_whole; intro g' L' h' FG' F' N' B' X' T'; (try dsimp only); (try k_lift B'); (try k_fold))
  | (refine' code_defC ?k1 ?k2 ?k3 ?k4 ?k5 ?qzkA ?qzkF ?kK ?qzk6 ?qzk7 ?qzk8 ?qzk9 ?qzkB ?qzkD ?_ ?qzc2 ?qzc3 ?qzc4; (case qzkA => exact rfl); (case qzkF => exact rfl); (case kK => assumption); (case k1 => k_asm); (case k2 => k_asm); (case k3 => k_asm); (case k4 => k_asm); (case k5 => k_asm); (case qzk6 => k_is); (case qzk7 => k_is); (case qzk8 => ktr_room); (case qzk9 => first | exact BindsTo.of_eq rfl | exact binds_K (by k_in) rfl (by k_is) rfl rfl rfl); (case qzkB => exact rfl); (case qzkD => decide +kernel); (case qzc2 => exact rfl); (case qzc3 => exact rfl); (case qzc4 => exact rfl); k_whole; intro g' L' h' tk' cells' FG' F' N' Y' B' X' T' l1; (try k_lt l1); k_cells Y'; (try simp only [List.cons_append, List.nil_append] at N'); (try dsimp only); (try k_lift B'); (try k_fold)))))
  k_with "mine side" => (((case k1 => k_asm); (case k2 => k_asm); (case k3 => k_asm); (case k4 => k_asm); (case k5 => k_asm); (case kK => first | exact rfl | assumption); (case kd => ktr_room); (case ku => ktr_units)))
  k_with "mine kbabound" => (((try dsimp only); first | exact and255_lo _ | exact and255_hi _))
  k_with "mine news" => (first | k_asm | (refine cb_drop (by assumption) ?_; intro p9 hp9; (repeat (first | exact hp9 | refine List.mem_cons_of_mem _ ?_))))
  k_with "mine room" => (((with_reducible rename @LT.lt Nat _ (_ + _) recursionLimit => hq9); k_dflt (first | exact room_1 hq9 (by exact rfl) | exact room_j hq9 (by exact rfl) | exact room_0 hq9)))
  k_with "mine units" => (((with_reducible rename @LT.lt Nat _ (_ + _) cLine => hq9); k_dflt (first | exact units_1 hq9 (by exact rfl) | exact units_j hq9 (by exact rfl))))
  k_with "mine me" => (first | with_reducible exact me0 | with_reducible exact me1 | with_reducible exact me2 | with_reducible exact me3 | with_reducible exact me4 | with_reducible exact me5 | with_reducible exact me6 | with_reducible exact me7 | with_reducible exact me8 | with_reducible exact me9 | with_reducible exact me10 | with_reducible exact me11 | with_reducible exact me12 | with_reducible exact me13 | with_reducible exact me14 | with_reducible exact me15 | with_reducible exact me16 | with_reducible exact me17 | with_reducible exact me18 | with_reducible assumption | k_mem)
  k_with "mine ltall" => (((repeat ((with_reducible rename (∀ p ∈ _, Prod.fst p < _) => h7); replace h7 := allLt_of h7; simp only [AllLt, and_true] at h7))))
  k_with "mine kne" => ((refine neN ?_; (try dsimp only); first | with_reducible assumption | decide | exact Nat.ne_of_gt (by with_reducible assumption) | exact Nat.ne_of_lt (by with_reducible assumption) | exact ne_l (by with_reducible assumption) (by walk_at "mine me") | exact ne_r (by with_reducible assumption) (by walk_at "mine me") | exact ne_l2 (by with_reducible assumption) (by with_reducible assumption) (by walk_at "mine me") | exact ne_r2 (by with_reducible assumption) (by with_reducible assumption) (by walk_at "mine me") | exact ne_l1 (by with_reducible assumption) (by walk_at "mine me") | exact ne_r1 (by with_reducible assumption) (by walk_at "mine me") | exact ne_l11 (by with_reducible assumption) (by walk_at "mine me") | exact ne_r11 (by with_reducible assumption) (by walk_at "mine me") | exact ne_s1 | exact ne_s2 | exact ne_b1 (by with_reducible assumption) rfl | exact ne_b2 (by with_reducible assumption) rfl | exact Ne.symm (by with_reducible assumption) | (trace_state; walk_at "mine ltall"; omega)))
  k_with "mine sk" => (first | with_reducible exact sk0 | with_reducible exact sk1 | with_reducible exact sk2 | with_reducible exact sk3 | with_reducible exact sk4 | with_reducible exact sk5 | with_reducible exact sk6 | with_reducible exact sk7 | with_reducible exact sk8 | with_reducible exact sk9 | with_reducible exact sk10 | with_reducible exact sk11 | with_reducible exact sk12 | with_reducible exact sk13 | with_reducible exact sk14 | with_reducible exact sk15 | with_reducible exact sk16 | with_reducible exact sk17 | with_reducible exact sk18)
  k_with "mine kall" => (first | with_reducible assumption | exact all_l (by with_reducible assumption) (by walk_at "mine sk") | exact all_l2 (by with_reducible assumption) (by with_reducible assumption) (by walk_at "mine sk") | exact all_l1 (by with_reducible assumption) (by walk_at "mine sk") | exact all_l11 (by with_reducible assumption) (by walk_at "mine sk") | (with_reducible exact List.forall_mem_nil _) | (refine' List.forall_mem_cons.mpr ⟨?qza, ?qzb⟩; (case qza => k_ne); (case qzb => k_all)) | (trace_state; exact all_ne (by assumption) (by walk_at "mine ltall"; omega)))
  k_with "mine lt" => (first | with_reducible assumption | exact lt_t0 (by with_reducible assumption) (by walk_at "mine me") | exact lt_t1 (by with_reducible assumption) (by with_reducible assumption) (by walk_at "mine me") | exact lt_t2 (by with_reducible assumption) (by with_reducible assumption) (by with_reducible assumption) (by walk_at "mine me") | (trace_state; walk_at "mine ltall"; omega))
  trivial
theorem top_off_D1 : True := by
  w_top off
  trivial
def downKs (a : Int) (n : Nat) : List Int := (List.range n).map fun (i : Nat) => a + (i : Int) * (-1)
section
variable {prog : Program} {w : World} {A : Around} {E : Value → Shared → Prop} {s : Shared} {h₀ : Heap} {L : Addr} {m : Str → Option Value} {env : Env}
def DownSrc (prog : Program) (w : World) (A : Around) (h₀ : Heap) (L : Addr) (m : Str → Option Value) (env : Env) (elt : Expr) (x : Str) (scope : Scope) (cl : List (Str × Addr)) (Fin : Shared → List Value → List (Addr × Obj) → Prop) (xv : Value) (s₁ : Shared) : Prop :=
  ∃ r a b t u v n news, xv = .ref r ∧ A.handled = none ∧ Fr h₀ L s₁.heap m ∧ News h₀ L s₁.heap news ∧ IsRange s₁.heap r a b (-1) t u v ∧ Builtin.Range.small a b (-1) = true ∧ Builtin.Range.rangeSize a b (-1) = ((n : Nat) : Int) ∧ n ≤ sizeLine ∧
    ∀ s₂ : Shared, (∃ h, s₂ = { s₁ with heap := h }) → LCg.CompRest prog w A h₀ L m env elt x scope cl s₂ (fun _ => True) (fun i v => ∃ t, v = .int (a + (i : Int) * (-1)) t) (Fin s₂) n 0 [] news
theorem DownSrc.intro {elt : Expr} {x : Str} {scope : Scope} {cl : List (Str × Addr)} {Fin : Shared → List Value → List (Addr × Obj) → Prop} {r : Addr} {a b : Int} {t u v : Tok} {n : Nat} {news : List (Addr × Obj)} {s₁ : Shared}
    (hh : A.handled = none) (F : Fr h₀ L s₁.heap m) (N : News h₀ L s₁.heap news) (hr : IsRange s₁.heap r a b (-1) t u v) (hsm : Builtin.Range.small a b (-1) = true) (hn : Builtin.Range.rangeSize a b (-1) = ((n : Nat) : Int)) (hsz : n ≤ sizeLine)
    (h : ∀ g, LCg.CompRest prog w A h₀ L m env elt x scope cl { s₁ with heap := g } (fun _ => True) (fun i v => ∃ t, v = .int (a + (i : Int) * (-1)) t) (Fin { s₁ with heap := g }) n 0 [] news) :
    DownSrc prog w A h₀ L m env elt x scope cl Fin (.ref r) s₁ := ⟨r, a, b, t, u, v, n, news, rfl, hh, F, N, hr, hsm, hn, hsz, fun _ ⟨g, e⟩ => e ▸ h g⟩
theorem down_st {I : Addr} {a : Int} {n : Nat} : ∀ i (h h' : Heap) (o : Obj) (nw : List (Addr × Obj)), IsRangeIter h I (a + (i : Nat) * (-1)) ((n : Int) - (i : Nat)) (-1) → h.get? I = some o → h'.get? I = some o → (∀ b o, h₀.get? b = some o → h'.get? b = some o) → News h₀ L h' nw → True → IsRangeIter h' I (a + (i : Nat) * (-1)) ((n : Int) - (i : Nat)) (-1) :=
  fun i h h' o nw st e e' _ _ _ => by
    have st' : h.get? I = some _ := st
    show h'.get? I = some _
    rw [e', ← e]; exact st'
theorem listComp_down {elt iter : Expr} {x : Str} {px : Pos} {scope : Scope} {cl : List (Str × Addr)} {pos : Pos} {Q : Value → Shared → Prop} (_F₀ : Fr h₀ L s.heap m)
    (hclos : closureFor scope env = pure cl) (hcell : ∀ y ∈ scope.names, y.2 ≠ .cell) (hkind : scope.kind = .function)
    (hnames : ∀ y ∈ scope.names, y.2 = .local → scope.names.lookup y.1 = some .local) (hx : scope.names.lookup x = some .local)
    (h : wpAny (model prog w) A (eval iter env) (DownSrc prog w A h₀ L m env elt x scope cl (fun s₂ => LCg.FinE h₀ L m s₂ Q)) E s)
    (hs : ∀ x, foldedSetIterable iter env x = pure x := by intro _; rfl) :
    wpAny (model prog w) A (eval (.ListComp elt [⟨.Name x px, iter, [], 0⟩] scope pos) env) Q E s := by
  rw [eval_ListComp]
  refine wpAny_comprehension_free (use := none) rfl hs hclos hkind hnames (wpAny_mono h (fun xv s₁ h₁ => ?_) fun _ _ e => e)
  obtain ⟨r, a, b, t, u, v, n, news, rfl, hh, F, N, hr, hsm, hn, hsz, R⟩ := h₁
  refine wpAny_pyIter_range hr hsm ?_
  refine LCg.block_U (Walks.range hh s₁.heap.objs.size a (-1) n) hsz (fun i h st => ⟨_, st⟩) down_st hcell hkind hx (by show IsRangeIter _ _ _ _ _; rw [hn]; simpa using Heap.get?_push_size _ rfl) (fun b hb => ?_)
    (F.keeps fun _ _ e => Heap.get?_push_of_some _ e) (N.grown fun _ _ e => Heap.get?_push_of_some _ e) (Nat.ne_of_lt F.ns.lt) (next_is_new F) (fun p hp => Nat.ne_of_lt (Heap.lt_size (N p hp).1)) trivial (R _ ⟨_, rfl⟩) ?_
  · rw [List.mem_singleton.mp hb]
    show s₁.heap.objs.size < (s₁.heap.push _).objs.size
    rw [Heap.size_push]; exact Nat.lt_succ_self _
  · intro D C h tk m' ys news' F' N' o1 hn hC₀ hD₀ hCL hDL hCD offC fin
    refine ⟨m', hn, fun h'' hs'' => fin D h'' tk (F'.change hs'' hCL hC₀) (fun p hp => ?_) o1⟩
    refine ⟨hs''.extBut _ _ ?_ (N' p hp).1, (N' p hp).2⟩
    rcases List.mem_cons.mp hp with rfl | hp
    · exact Ne.symm hCD
    · exact offC p hp
theorem rest_down {n : Nat} {a : Int} {elt : Expr} {x : Str} {scope : Scope} {cl : List (Str × Addr)} {S : List (Addr × Obj) → Prop} {Fin : List Value → List (Addr × Obj) → Prop} {news : List (Addr × Obj)} (g : Int → Int)
    (turn : ∀ k t I oI C oC D m₂ ys h tk (E' : Value → Shared → Prop), k ∈ downKs a n → LCg.NsObj oC m₂ → m₂ x = some (.int k t) → Fr h₀ L h m → News h₀ L h ((I, oI) :: (C, oC) :: (D, LCg.lst ys) :: news) → LCg.Off3 I C D news → ((@Ne Nat I C) ∧ (@Ne Nat I D) ∧ (@Ne Nat C D)) → KPfMark →
      wpAny (model prog w) A (eval elt (compEnvC scope cl C env)) (LCg.CompEnd h₀ L m { s with heap := h, toks := tk } I oI C oC D (LCg.lst ys) S (fun y news' => KCfEl news (g k) y news')) E' { s with heap := h, toks := tk })
    (fin : KPfDone (∀ ys, IntsAre ys ((downKs a n).map g) → Fin ys news)) : LCg.CompRest prog w A h₀ L m env elt x scope cl s S (fun i v => ∃ t, v = .int (a + (i : Int) * (-1)) t) Fin n 0 [] news :=
  kcf_rest (ks := downKs a n) g (by simp [downKs]) (fun i v hi hv => by
    obtain ⟨t, e⟩ := hv
    exact ⟨a + (i : Int) * (-1), t, by simp [downKs, hi], e⟩) turn fin
end
theorem down_use {a k : Int} {n : Nat} {P : Prop} (hk : k ∈ downKs a n) (hn : (n : Int) ≤ a + 1) (h : 0 ≤ k → k ≤ a → P) : P := by
  obtain ⟨i, hi, rfl⟩ := List.mem_map.mp hk
  have := List.mem_range.mp hi
  exact h (by omega) (by omega)
theorem lt_word {n : Int} {k : Int} {c : Int} (hx : ¬ n < 1 * 2 ^ (8 * k).toNat) (h : n < c) (e : (1 : Int) * 2 ^ (8 * k).toNat = c) : False := hx (e ▸ h)
theorem fdiv_lit (n : Int) {c : Int} {k : Nat} (e : (2 : Int) ^ k = c) (h : 0 < c) : n.fdiv (2 ^ k) = n / c := by
  rw [e, Int.fdiv_eq_ediv_of_nonneg _ (Int.le_of_lt h)]
theorem put1_ints {n : Int} (h0 : 0 ≤ n) (h1 : n < 256) : (downKs (1 - 1) 1).map (fun k => Builtin.bitAnd (Int.fdiv n (2 ^ (8 * k).toNat)) 255) = [n] := by
  show [Builtin.bitAnd (Int.fdiv n (2 ^ 0)) 255] = [n]
  rw [bitAnd_m8, fdiv_lit n (c := 1) (by decide) (by decide), Int.ediv_one, Int.emod_eq_of_lt h0 h1]
theorem put2_ints {n : Int} (h0 : 0 ≤ n) (h1 : n < 65536) : (downKs (2 - 1) 2).map (fun k => Builtin.bitAnd (Int.fdiv n (2 ^ (8 * k).toNat)) 255) = [n / 256, n % 256] := by
  show [Builtin.bitAnd (Int.fdiv n (2 ^ 8)) 255, Builtin.bitAnd (Int.fdiv n (2 ^ 0)) 255] = [n / 256, n % 256]
  rw [bitAnd_m8, bitAnd_m8, fdiv_lit n (c := 256) (by decide) (by decide), fdiv_lit n (c := 1) (by decide) (by decide), Int.ediv_one]
  have : n / 256 % 256 = n / 256 := Int.emod_eq_of_lt (by omega) (by omega)
  rw [this]
theorem put6_ints {n : Int} (h0 : 0 ≤ n) (h1 : n < 256) : (downKs (6 - 1) 6).map (fun k => Builtin.bitAnd (Int.fdiv n (2 ^ (8 * k).toNat)) 255) = [0, 0, 0, 0, 0, n] := by
  show [Builtin.bitAnd (Int.fdiv n (2 ^ 40)) 255, Builtin.bitAnd (Int.fdiv n (2 ^ 32)) 255, Builtin.bitAnd (Int.fdiv n (2 ^ 24)) 255, Builtin.bitAnd (Int.fdiv n (2 ^ 16)) 255, Builtin.bitAnd (Int.fdiv n (2 ^ 8)) 255, Builtin.bitAnd (Int.fdiv n (2 ^ 0)) 255] = _
  simp only [bitAnd_m8]
  rw [fdiv_lit n (c := 1099511627776) (k := 40) (by decide) (by decide), fdiv_lit n (c := 4294967296) (k := 32) (by decide) (by decide), fdiv_lit n (c := 16777216) (k := 24) (by decide) (by decide), fdiv_lit n (c := 65536) (k := 16) (by decide) (by decide), fdiv_lit n (c := 256) (k := 8) (by decide) (by decide), fdiv_lit n (c := 1) (k := 0) (by decide) (by decide), Int.ediv_one]
  have e1 : n / 1099511627776 = 0 := by omega
  have e2 : n / 4294967296 = 0 := by omega
  have e3 : n / 16777216 = 0 := by omega
  have e4 : n / 65536 = 0 := by omega
  have e5 : n / 256 = 0 := by omega
  have e6 : n % 256 = n := by omega
  rw [e1, e2, e3, e4, e5, e6]; rfl
theorem downKs_length (a : Int) (n : Nat) : (downKs a n).length = n := by simp [downKs]
theorem invPost_mono {h₀ : Heap} {L : Addr} {J J' : (Str → Option Value) → List (Addr × Obj) → Prop} {own : List (Addr × Obj)} {adr : List Addr} {s₁ : Shared} {Q : Flow → Shared → Prop} {f : Flow} {s₂ : Shared}
    (hJ : ∀ m nx, J m nx → J' m nx) (h : InvPostN h₀ L J own adr s₁ Q f s₂) : InvPostN h₀ L J' own adr s₁ Q f s₂ := by
  have up : InvEndN h₀ L J own adr s₁ s₂ → InvEndN h₀ L J' own adr s₁ s₂ := by
    rintro ⟨h', tk, m', news', nx, e, F, N, hn, ho, ha, hj⟩
    exact ⟨h', tk, m', news', nx, e, F, N, hn, ho, ha, hJ _ _ hj⟩
  cases f with
  | ret v => exact h
  | brk => exact h
  | next => exact up h
  | cont => exact up h
section
variable {prog : Program} {w : World} {A : Around} {E : Value → Shared → Prop} {s : Shared} {env : Env} {h₀ : Heap} {x : Str} {body : List Stmt} {Q : Flow → Shared → Prop} {b : Array UInt8} {tb : Tok} {ks : List Int}
  {m₀ : Str → Option Value} {news : List (Addr × Obj)}
/-- a loop over bytes whose one stored int is a function of what has been taken -/
theorem bytes_fold {y : Str} {c₀ : Int} {tc : Tok} (val : List Int → Int) (h0 : c₀ = val [])
    (hk : KBw.bInts b = ks) (hh : A.handled = none) (F : Fr h₀ env.locals s.heap m₀) (N : News h₀ env.locals s.heap news) (hy : m₀ y = some (.int c₀ tc))
    (turn : ∀ pre k post t ta h tk own, ks = pre ++ k :: post → 0 ≤ k → k < 256 → OwnOff own (news.map (·.1)) → Fr h₀ env.locals h (fun z => if z = x then some (.int k t) else if z = y then some (.int (val pre) ta) else m₀ z) → News h₀ env.locals h (news ++ own) →
      wpAny (model prog w) A (execs body env) (InvPostN h₀ env.locals (fun m' nx => nx = news ∧ (∃ t', m' y = some (.int (val (pre ++ [k])) t')) ∧ ∀ z, z ≠ x → z ≠ y → m' z = m₀ z) own (news.map (·.1)) { s with heap := h, toks := tk } Q) E { s with heap := h, toks := tk })
    (done : ∀ (u : Str → Option Value) t h tk, Fr h₀ env.locals h (fun z => if z = x then u z else if z = y then some (.int (val ks) t) else m₀ z) → News h₀ env.locals h news → Q .next { s with heap := h, toks := tk }) :
    wpAny (model prog w) A (pyIter (.bytes b tb)) (fun it s₂ => LoopAtV prog w A h₀ env x body Q E it s₂) E s := by
  refine KStb.kst_bytes (σ := Int × Tok) (fun _ => news) (fun c => [(y, .int c.1 c.2)]) (fun _ => True) [] (fun pre c => c.1 = val pre) (c₀, tc) hk rfl hh F N trivial (fun p hp => ?_) h0 ?_ ?_
  · rw [List.mem_singleton.mp hp]; exact hy
  · rintro ⟨c, tc'⟩ pre post n t u h tk own e _ hlo hhi hoff _ hp F' N'
    obtain rfl : c = val pre := hp
    refine wpAny_mono (turn pre n post t tc' h tk own e hlo hhi hoff F' N') (fun f s₂ hq => invPost_mono (fun m' nx hj => ?_) hq) fun _ _ z => z
    obtain ⟨rfl, ⟨t', hv⟩, hs⟩ := hj
    exact ⟨(val (pre ++ [n]), t'), rfl, trivial, fun p hp => by rw [List.mem_singleton.mp hp]; exact hv, fun z hz hn _ => hs z hz (hn (y, _) (List.mem_singleton.mpr rfl)), rfl⟩
  · rintro ⟨c, tc'⟩ u h tk _ _ hp F' N'
    obtain rfl : c = val ks := hp
    exact done u tc' h tk F' N'
end
def cut (ks : List Int) (i j : Int) : List Int := (ks.drop i.toNat).take (j.toNat - i.toNat)
theorem cut_eq {ks : List Int} {i j : Int} (h0 : 0 ≤ i) (h1 : i ≤ j) (h2 : j ≤ ks.length) : (ks.drop (clipAt ks.length i)).take (clipAt ks.length j - clipAt ks.length i) = cut ks i j := by
  rw [clipAt_in h0 (by omega), clipAt_in (by omega) h2]; rfl
theorem cut_len {ks : List Int} {i j : Int} (h0 : 0 ≤ i) (h1 : i ≤ j) (h2 : j ≤ ks.length) : ((cut ks i j).length : Int) = j - i := by
  unfold cut; rw [List.length_take, List.length_drop]; omega
def getF (l : List Int) : Int := l.foldl (fun a o => Builtin.bitOr (a * 2 ^ (8 : Int).toNat) o) 0
theorem getF_snoc (l : List Int) (k : Int) : getF (l ++ [k]) = Builtin.bitOr (getF l * 2 ^ (8 : Int).toNat) k := by unfold getF; rw [List.foldl_append]; rfl
theorem and_zero (m k : Nat) (hk : k < 2 ^ 8) : (m * 2 ^ 8) &&& k = 0 := by
  apply Nat.eq_of_testBit_eq
  intro i
  rw [Nat.testBit_and, Nat.zero_testBit, Nat.testBit_mul_two_pow]
  by_cases h : 8 ≤ i
  · have : k.testBit i = false := Nat.testBit_lt_two_pow (Nat.lt_of_lt_of_le hk (Nat.pow_le_pow_right (by decide) h))
    rw [this, Bool.and_false]
  · simp [h]
theorem or_byte {a k : Int} (h0 : 0 ≤ a) (k0 : 0 ≤ k) (k1 : k < 256) : Builtin.bitOr (a * 2 ^ (8 : Int).toNat) k = a * 256 + k := by
  have e : a * 2 ^ (8 : Int).toNat = a * 256 := rfl
  have hz : Builtin.bitAnd (a * 256) k = 0 := by
    unfold Builtin.bitAnd
    have p : 0 ≤ a * 256 := by omega
    simp only [p, k0, decide_true]
    have q : (a * 256).toNat = a.toNat * 2 ^ 8 := by omega
    rw [q, and_zero _ _ (by omega)]; rfl
  rw [e, bitOr_and, hz]; omega
theorem getF_fold : ∀ (l : List Int) (a : Int), 0 ≤ a → (∀ k ∈ l, 0 ≤ k ∧ k < 256) → 0 ≤ l.foldl (fun a o => Builtin.bitOr (a * 2 ^ (8 : Int).toNat) o) a ∧ l.foldl (fun a o => Builtin.bitOr (a * 2 ^ (8 : Int).toNat) o) a < (a + 1) * 256 ^ l.length
  | [], a, h, _ => ⟨h, by simp; omega⟩
  | k :: r, a, h, hl => by
    have hk := hl k List.mem_cons_self
    have e := or_byte h hk.1 hk.2
    have ih := getF_fold r (a * 256 + k) (by omega) fun j hj => hl j (List.mem_cons_of_mem _ hj)
    rw [List.foldl_cons, e]
    refine ⟨ih.1, Int.lt_of_lt_of_le ih.2 ?_⟩
    rw [List.length_cons, Int.pow_succ, Int.mul_comm (256 ^ r.length) 256, ← Int.mul_assoc]
    exact Int.mul_le_mul_of_nonneg_right (by omega) (Int.pow_nonneg (by decide))
theorem getF_bound {l : List Int} (h : ∀ k ∈ l, 0 ≤ k ∧ k < 256) : 0 ≤ getF l ∧ getF l < 256 ^ l.length := by
  have := getF_fold l 0 (by decide) h
  unfold getF
  refine ⟨this.1, ?_⟩
  have e : ((0 : Int) + 1) * 256 ^ l.length = 256 ^ l.length := by rw [Int.zero_add, Int.one_mul]
  rw [← e]; exact this.2
theorem getF_small {b : Array UInt8} {ks pre post : List Int} {k : Int} (hb : KBw.bInts b = ks) (hl : ks.length ≤ 7) (e : ks = pre ++ k :: post) : (getF pre).natAbs < 2 ^ 64 := by
  have hp : ∀ j ∈ pre, 0 ≤ j ∧ j < 256 := fun j hj => KBw.ints_in (b := b) (by rw [hb, e]; exact List.mem_append_left _ hj)
  have h := getF_bound hp
  have hn : pre.length ≤ 6 := by
    have := congrArg List.length e
    rw [List.length_append, List.length_cons] at this
    omega
  have : (256 : Int) ^ pre.length ≤ 256 ^ 6 := by
    have : (256 : Nat) ^ pre.length ≤ 256 ^ 6 := Nat.pow_le_pow_right (by decide) hn
    exact_mod_cast this
  have e6 : (256 : Int) ^ 6 = 281474976710656 := by decide
  omega
theorem cut_le {b : Array UInt8} {ks : List Int} {i j : Int} (_hb : KBw.bInts b = cut ks i j) (h0 : 0 ≤ i) (h1 : i ≤ j) (h2 : j ≤ ks.length) (h3 : j - i ≤ 7) : (cut ks i j).length ≤ 7 := by
  have := cut_len h0 h1 h2
  omega
theorem top_off_P3 : True := by
  w_top off
  trivial
theorem kwp_P3_1 : True := by
  k_with "eval ListComp" => ((k_here; (with_reducible show wpAny _ _ (eval (Expr.ListComp _ [⟨Expr.Name _ _, Expr.Call (Expr.Name _ _) [_, Expr.UnaryOp _ _ _, Expr.UnaryOp _ _ _] _ _, [], 0⟩] _ _) _) _ _ _); k_dflt (refine listComp_down (by k_asm) (by with_unfolding_all rfl) (by decide) (by rfl) (by decide) (by rfl) ?_)))
  k_with "DownSrc" => ((k_here; k_dflt (refine DownSrc.intro (by rfl) (by k_asm) (by k_asm) (by assumption) (by decide) (by first | rfl | decide) (by first | size_fits | exact Nat.le_of_ble_eq_true rfl) ?_; intro g'; (refine' rest_down (fun k => Builtin.bitAnd (Int.fdiv _ (2 ^ (8 * k).toNat)) 255) (fun k' t' I' oI' C' oC' D' m' ys' h' tk' E' hk' hC' hx' F' N' off' ne' hMark' => down_use hk' (by decide) (fun hlo9 hhi9 => ?_)) ?_); kcf_last)))
  k_with "call type:bytes" => ((k_here; (with_reducible show wpAny _ _ (call (Value.type "bytes") [Value.ref _]) _ _ _); k_dflt (refine' KBa.make_K ?qzkbaF ?qzkbaN ?qzkbah ?qzkbal ?qzkbai ?qzkbar ?qzkban ?_; (case qzkbaF => k_asm); (case qzkbaN => k_asm); (case qzkbah => rfl); (case qzkbal => kba_isList); (case qzkbai => kba_listInts); (case qzkbar => kba_in); (case qzkban => ((simp only [List.length_map, downKs_length]); exact Nat.le_of_ble_eq_true rfl))); intro _ _ _ F' N' kbaIn))
  k_with "exec Raise some none" => ((exact (lt_word (by assumption) (by assumption) (by decide)).elim))
  trivial
set_option maxHeartbeats 1000000 in
theorem put1_sp (w : World) (n : Int) (t u : Tok) (h0 : 0 ≤ n) (h1 : n < 256) (news : List (Addr × Obj)) :
   Spec 4 w 170 [.int n t, .int 1 u] news (fun v nx => ∃ (c : Array UInt8) (t : Tok), v = .bytes c t ∧ KBw.bInts c = [n] ∧ nx = news) := by
  unfold Spec
  k_fill
  intro p loose mean mg mb dp un gd cn cs a ccd cl outer A₀ base h₀ L m s Q E B F X N T hck hdp hun hret
  walk_at "mine enter"
  k_steps
  all_goals exact hret _ _ _ _ (by k_asm) (by walk_at "mine news") ⟨_, _, rfl, Eq.trans (by kba_ints) (put1_ints h0 h1), rfl⟩
set_option maxHeartbeats 1000000 in
theorem put2_sp (w : World) (n : Int) (t u : Tok) (h0 : 0 ≤ n) (h1 : n < 65536) (news : List (Addr × Obj)) :
   Spec 4 w 170 [.int n t, .int 2 u] news (fun v nx => ∃ (c : Array UInt8) (t : Tok), v = .bytes c t ∧ KBw.bInts c = [n / 256, n % 256] ∧ nx = news) := by
  unfold Spec
  k_fill
  intro p loose mean mg mb dp un gd cn cs a ccd cl outer A₀ base h₀ L m s Q E B F X N T hck hdp hun hret
  walk_at "mine enter"
  k_steps
  all_goals exact hret _ _ _ _ (by k_asm) (by walk_at "mine news") ⟨_, _, rfl, Eq.trans (by kba_ints) (put2_ints h0 h1), rfl⟩
set_option maxHeartbeats 1000000 in
theorem put6_sp (w : World) (n : Int) (t u : Tok) (h0 : 0 ≤ n) (h1 : n < 256) (news : List (Addr × Obj)) :
   Spec 4 w 170 [.int n t, .int 6 u] news (fun v nx => ∃ (c : Array UInt8) (t : Tok), v = .bytes c t ∧ KBw.bInts c = [0, 0, 0, 0, 0, n] ∧ nx = news) := by
  have h2 : n < 281474976710656 := by omega
  unfold Spec
  k_fill
  intro p loose mean mg mb dp un gd cn cs a ccd cl outer A₀ base h₀ L m s Q E B F X N T hck hdp hun hret
  walk_at "mine enter"
  k_steps
  all_goals exact hret _ _ _ _ (by k_asm) (by walk_at "mine news") ⟨_, _, rfl, Eq.trans (by kba_ints) (put6_ints h0 h1), rfl⟩
theorem kw_4 : True := by
  k_with_none
  k_with "mine kenter" => (k_dflt (first
  | (refine' code_def ?k1 ?k2 ?k3 ?k4 ?k5 ?qzkA ?qzkF ?kK ?qzk6 ?qzk7 ?qzk8 ?qzk9 ?qzkB ?_ ?qzc2 ?qzc3 ?qzc4 ?qzc5; (case qzkA => exact rfl); (case qzkF => exact rfl); (case kK => assumption); (case k1 => k_asm); (case k2 => k_asm); (case k3 => k_asm); (case k4 => k_asm); (case k5 => k_asm); (case qzk6 => k_is); (case qzk7 => k_is); (case qzk8 => ktr_room); (case qzk9 => first | exact BindsTo.of_eq rfl | exact binds_K (by k_in) rfl (by k_is) rfl rfl rfl); (case qzc5 => decide); (case qzkB => exact locs rfl); (case qzc2 => exact rfl); (case qzc3 => exact rfl); (case qzc4 => exact rfl); k_whole; intro g' L' h' FG' F' N' B' X' T'; (try dsimp only); (try k_lift B'); (try k_fold))
  | (refine' code_defC ?k1 ?k2 ?k3 ?k4 ?k5 ?qzkA ?qzkF ?kK ?qzk6 ?qzk7 ?qzk8 ?qzk9 ?qzkB ?qzkD ?_ ?qzc2 ?qzc3 ?qzc4; (case qzkA => exact rfl); (case qzkF => exact rfl); (case kK => assumption); (case k1 => k_asm); (case k2 => k_asm); (case k3 => k_asm); (case k4 => k_asm); (case k5 => k_asm); (case qzk6 => k_is); (case qzk7 => k_is); (case qzk8 => ktr_room); (case qzk9 => first | exact BindsTo.of_eq rfl | exact binds_K (by k_in) rfl (by k_is) rfl rfl rfl); (case qzkB => exact rfl); (case qzkD => decide +kernel); (case qzc2 => exact rfl); (case qzc3 => exact rfl); (case qzc4 => exact rfl); k_whole; intro g' L' h' tk' cells' FG' F' N' Y' B' X' T' l1; (try k_lt l1); k_cells Y'; (try simp only [List.cons_append, List.nil_append] at N'); (try dsimp only); (try k_lift B'); (try k_fold))))
  k_with "mine enter" => ((refine wpAny_call ?_; k_dflt (first
  | (refine' code_def ?k1 ?k2 ?k3 ?k4 ?k5 ?qzkA ?qzkF ?kK ?qzk6 ?qzk7 ?qzk8 ?qzk9 ?qzkB ?_ ?qzc2 ?qzc3 ?qzc4 ?qzc5; (case qzkA => exact rfl); (case qzkF => exact rfl); (case kK => assumption); (case k1 => k_asm); (case k2 => k_asm); (case k3 => k_asm); (case k4 => k_asm); (case k5 => k_asm); (case qzk6 => k_is); (case qzk7 => k_is); (case qzk8 => ktr_room); (case qzk9 => first | exact BindsTo.of_eq rfl | exact binds_K (by k_in) rfl (by k_is) rfl rfl rfl); (case qzc5 => decide); (case qzkB => exact locs rfl); (case qzc2 => exact rfl); (case qzc3 => exact rfl); (case qzc4 => exact rfl); k_whole; intro g' L' h' FG' F' N' B' X' T'; (try dsimp only); (try k_lift B'); (try k_fold))
  | (refine' code_defC ?k1 ?k2 ?k3 ?k4 ?k5 ?qzkA ?qzkF ?kK ?qzk6 ?qzk7 ?qzk8 ?qzk9 ?qzkB ?qzkD ?_ ?qzc2 ?qzc3 ?qzc4; (case qzkA => exact rfl); (case qzkF => exact rfl); (case kK => assumption); (case k1 => k_asm); (case k2 => k_asm); (case k3 => k_asm); (case k4 => k_asm); (case k5 => k_asm); (case qzk6 => k_is); (case qzk7 => k_is); (case qzk8 => ktr_room); (case qzk9 => first | exact BindsTo.of_eq rfl | exact binds_K (by k_in) rfl (by k_is) rfl rfl rfl); (case qzkB => exact rfl); (case qzkD => decide +kernel); (case qzc2 => exact rfl); (case qzc3 => exact rfl); (case qzc4 => exact rfl); k_whole; intro g' L' h' tk' cells' FG' F' N' Y' B' X' T' l1; (try k_lt l1); k_cells Y'; (try simp only [List.cons_append, List.nil_append] at N'); (try dsimp only); (try k_lift B'); (try k_fold)))))
  k_with "mine side" => (((case k1 => k_asm); (case k2 => k_asm); (case k3 => k_asm); (case k4 => k_asm); (case k5 => k_asm); (case kK => first | exact rfl | assumption); (case kd => ktr_room); (case ku => ktr_units)))
  k_with "mine kbabound" => (((try dsimp only); first | exact and255_lo _ | exact and255_hi _))
  k_with "mine news" => (first | k_asm | (refine cb_drop (by assumption) ?_; intro p9 hp9; (repeat (first | exact hp9 | refine List.mem_cons_of_mem _ ?_))))
  k_with "mine room" => (((with_reducible rename @LT.lt Nat _ (_ + _) recursionLimit => hq9); k_dflt (first | exact room_1 hq9 (by exact rfl) | exact room_j hq9 (by exact rfl) | exact room_0 hq9)))
  k_with "mine units" => (((with_reducible rename @LT.lt Nat _ (_ + _) cLine => hq9); k_dflt (first | exact units_1 hq9 (by exact rfl) | exact units_j hq9 (by exact rfl))))
  k_with "mine me" => (first | with_reducible exact me0 | with_reducible exact me1 | with_reducible exact me2 | with_reducible exact me3 | with_reducible exact me4 | with_reducible exact me5 | with_reducible exact me6 | with_reducible exact me7 | with_reducible exact me8 | with_reducible exact me9 | with_reducible exact me10 | with_reducible exact me11 | with_reducible exact me12 | with_reducible exact me13 | with_reducible exact me14 | with_reducible exact me15 | with_reducible exact me16 | with_reducible exact me17 | with_reducible exact me18 | with_reducible assumption | k_mem)
  k_with "mine ltall" => (((repeat ((with_reducible rename (∀ p ∈ _, Prod.fst p < _) => h7); replace h7 := allLt_of h7; simp only [AllLt, and_true] at h7))))
  k_with "mine kne" => ((refine neN ?_; (try dsimp only); first | with_reducible assumption | decide | exact Nat.ne_of_gt (by with_reducible assumption) | exact Nat.ne_of_lt (by with_reducible assumption) | exact ne_l (by with_reducible assumption) (by walk_at "mine me") | exact ne_r (by with_reducible assumption) (by walk_at "mine me") | exact ne_l2 (by with_reducible assumption) (by with_reducible assumption) (by walk_at "mine me") | exact ne_r2 (by with_reducible assumption) (by with_reducible assumption) (by walk_at "mine me") | exact ne_l1 (by with_reducible assumption) (by walk_at "mine me") | exact ne_r1 (by with_reducible assumption) (by walk_at "mine me") | exact ne_l11 (by with_reducible assumption) (by walk_at "mine me") | exact ne_r11 (by with_reducible assumption) (by walk_at "mine me") | exact ne_s1 | exact ne_s2 | exact ne_b1 (by with_reducible assumption) rfl | exact ne_b2 (by with_reducible assumption) rfl | exact Ne.symm (by with_reducible assumption) | (trace_state; walk_at "mine ltall"; omega)))
  k_with "mine sk" => (first | with_reducible exact sk0 | with_reducible exact sk1 | with_reducible exact sk2 | with_reducible exact sk3 | with_reducible exact sk4 | with_reducible exact sk5 | with_reducible exact sk6 | with_reducible exact sk7 | with_reducible exact sk8 | with_reducible exact sk9 | with_reducible exact sk10 | with_reducible exact sk11 | with_reducible exact sk12 | with_reducible exact sk13 | with_reducible exact sk14 | with_reducible exact sk15 | with_reducible exact sk16 | with_reducible exact sk17 | with_reducible exact sk18)
  k_with "mine kall" => (first | with_reducible assumption | exact all_l (by with_reducible assumption) (by walk_at "mine sk") | exact all_l2 (by with_reducible assumption) (by with_reducible assumption) (by walk_at "mine sk") | exact all_l1 (by with_reducible assumption) (by walk_at "mine sk") | exact all_l11 (by with_reducible assumption) (by walk_at "mine sk") | (with_reducible exact List.forall_mem_nil _) | (refine' List.forall_mem_cons.mpr ⟨?qza, ?qzb⟩; (case qza => k_ne); (case qzb => k_all)) | (trace_state; exact all_ne (by assumption) (by walk_at "mine ltall"; omega)))
  k_with "mine lt" => (first | with_reducible assumption | exact lt_t0 (by with_reducible assumption) (by walk_at "mine me") | exact lt_t1 (by with_reducible assumption) (by with_reducible assumption) (by walk_at "mine me") | exact lt_t2 (by with_reducible assumption) (by with_reducible assumption) (by with_reducible assumption) (by walk_at "mine me") | (trace_state; walk_at "mine ltall"; omega))
  trivial
theorem top_off_P4 : True := by
  w_top off
  trivial
theorem kwp_P4_1 : True := by
  k_with "exec For Name Subscript cons nil" => ((k_here; (rename Fr _ _ _ _ => lF'); (with_unfolding_all refine' For_invVF lF' ?k1 ?k2 ?_; (case k1 => exact rfl); (case k2 => exact rfl); k_whole)))
  k_with "pyIter bytes" => (((with_reducible show wpAny _ _ (pyIter (Value.bytes _ _)) (fun it s₂ => LoopAtV _ _ _ _ _ _ _ _ _ it s₂) _ _); (rename (KBw.bInts (KBy.picked _ _ _) = _) => kq9); (rw [cut_eq (by omega) (by omega) (by omega)] at kq9); (have kl9 : (cut _ _ _).length ≤ 7 := cut_le kq9 (by omega) (by omega) (by omega) (by omega)); (with_unfolding_all refine' bytes_fold (y := Str.ofString "found") getF (by rfl) kq9 (by rfl) (by k_asm) (by k_asm) (by rfl) (fun pre' k' post' t' ta' h' tk' own' he' hlo' hhi' hoff' F' N' => ?_) (fun u' t' h' tk' F' N' => ?_)); (all_goals (try k_fold))))
  k_with "binaryOp LShift int int" => ((k_here; (with_reducible refine lshift_int_small ?qzkb1 ?qzkb2 ?qzkb3 ?_); (case qzkb1 => decide); (case qzkb2 => decide); (case qzkb3 => exact getF_small (by assumption) (by assumption) (by assumption))))
  k_with "InvEndN" => ((refine InvEndN.intro (by assumption) (by assumption) ⟨rfl, ⟨_, by rw [getF_snoc]; with_unfolding_all rfl⟩, by k_same2⟩ (by rfl) (fun p hp => List.mem_append_left _ hp) (fun p hp => List.mem_append_right _ hp)))
  trivial
set_option maxHeartbeats 1000000 in
theorem get_sp (w : World) (b : Array UInt8) (ks : List Int) (tb : Tok) (hb : KBw.bInts b = ks) (hl : ks.length ≤ 1000) (at_ many : Int) (t u : Tok) (h0 : 0 ≤ at_) (h1 : 0 ≤ many) (h3 : many ≤ 7) (h2 : at_ + many ≤ ks.length) (news : List (Addr × Obj)) :
   Spec 4 w 177 [.bytes b tb, .int at_ t, .int many u] news (fun v nx => ∃ (t : Tok), v = .int (getF (cut ks at_ (at_ + many))) t ∧ nx = news) := by
  unfold Spec
  k_fill
  intro p loose mean mg mb dp un gd cn cs a ccd cl outer A₀ base h₀ L m s Q E B F X N T hck hdp hun hret
  walk_at "mine enter"
  k_steps
  all_goals exact hret _ _ _ _ (by k_asm) (by walk_at "mine news") ⟨_, rfl, rfl⟩
theorem kw_5 : True := by
  k_with_none
  k_with "mine kenter" => (k_dflt (first
  | (refine' code_def ?k1 ?k2 ?k3 ?k4 ?k5 ?qzkA ?qzkF ?kK ?qzk6 ?qzk7 ?qzk8 ?qzk9 ?qzkB ?_ ?qzc2 ?qzc3 ?qzc4 ?qzc5; (case qzkA => exact rfl); (case qzkF => exact rfl); (case kK => assumption); (case k1 => k_asm); (case k2 => k_asm); (case k3 => k_asm); (case k4 => k_asm); (case k5 => k_asm); (case qzk6 => k_is); (case qzk7 => k_is); (case qzk8 => ktr_room); (case qzk9 => first | exact BindsTo.of_eq rfl | exact binds_K (by k_in) rfl (by k_is) rfl rfl rfl); (case qzc5 => decide); (case qzkB => exact locs rfl); (case qzc2 => exact rfl); (case qzc3 => exact rfl); (case qzc4 => exact rfl); k_whole; intro g' L' h' FG' F' N' B' X' T'; (try dsimp only); (try k_lift B'); (try k_fold))
  | (refine' code_defC ?k1 ?k2 ?k3 ?k4 ?k5 ?qzkA ?qzkF ?kK ?qzk6 ?qzk7 ?qzk8 ?qzk9 ?qzkB ?qzkD ?_ ?qzc2 ?qzc3 ?qzc4; (case qzkA => exact rfl); (case qzkF => exact rfl); (case kK => assumption); (case k1 => k_asm); (case k2 => k_asm); (case k3 => k_asm); (case k4 => k_asm); (case k5 => k_asm); (case qzk6 => k_is); (case qzk7 => k_is); (case qzk8 => ktr_room); (case qzk9 => first | exact BindsTo.of_eq rfl | exact binds_K (by k_in) rfl (by k_is) rfl rfl rfl); (case qzkB => exact rfl); (case qzkD => decide +kernel); (case qzc2 => exact rfl); (case qzc3 => exact rfl); (case qzc4 => exact rfl); k_whole; intro g' L' h' tk' cells' FG' F' N' Y' B' X' T' l1; (try k_lt l1); k_cells Y'; (try simp only [List.cons_append, List.nil_append] at N'); (try dsimp only); (try k_lift B'); (try k_fold))))
  k_with "mine enter" => ((refine wpAny_call ?_; k_dflt (first
  | (refine' code_def ?k1 ?k2 ?k3 ?k4 ?k5 ?qzkA ?qzkF ?kK ?qzk6 ?qzk7 ?qzk8 ?qzk9 ?qzkB ?_ ?qzc2 ?qzc3 ?qzc4 ?qzc5; (case qzkA => exact rfl); (case qzkF => exact rfl); (case kK => assumption); (case k1 => k_asm); (case k2 => k_asm); (case k3 => k_asm); (case k4 => k_asm); (case k5 => k_asm); (case qzk6 => k_is); (case qzk7 => k_is); (case qzk8 => ktr_room); (case qzk9 => first | exact BindsTo.of_eq rfl | exact binds_K (by k_in) rfl (by k_is) rfl rfl rfl); (case qzc5 => decide); (case qzkB => exact locs rfl); (case qzc2 => exact rfl); (case qzc3 => exact rfl); (case qzc4 => exact rfl); k_whole; intro g' L' h' FG' F' N' B' X' T'; (try dsimp only); (try k_lift B'); (try k_fold))
  | (refine' code_defC ?k1 ?k2 ?k3 ?k4 ?k5 ?qzkA ?qzkF ?kK ?qzk6 ?qzk7 ?qzk8 ?qzk9 ?qzkB ?qzkD ?_ ?qzc2 ?qzc3 ?qzc4; (case qzkA => exact rfl); (case qzkF => exact rfl); (case kK => assumption); (case k1 => k_asm); (case k2 => k_asm); (case k3 => k_asm); (case k4 => k_asm); (case k5 => k_asm); (case qzk6 => k_is); (case qzk7 => k_is); (case qzk8 => ktr_room); (case qzk9 => first | exact BindsTo.of_eq rfl | exact binds_K (by k_in) rfl (by k_is) rfl rfl rfl); (case qzkB => exact rfl); (case qzkD => decide +kernel); (case qzc2 => exact rfl); (case qzc3 => exact rfl); (case qzc4 => exact rfl); k_whole; intro g' L' h' tk' cells' FG' F' N' Y' B' X' T' l1; (try k_lt l1); k_cells Y'; (try simp only [List.cons_append, List.nil_append] at N'); (try dsimp only); (try k_lift B'); (try k_fold)))))
  k_with "mine side" => (((case k1 => k_asm); (case k2 => k_asm); (case k3 => k_asm); (case k4 => k_asm); (case k5 => k_asm); (case kK => first | exact rfl | assumption); (case kd => ktr_room); (case ku => ktr_units)))
  k_with "mine kbabound" => (((try dsimp only); first | exact and255_lo _ | exact and255_hi _))
  k_with "mine news" => (first | k_asm | (refine cb_drop (by assumption) ?_; intro p9 hp9; (repeat (first | exact hp9 | refine List.mem_cons_of_mem _ ?_))))
  k_with "mine room" => (((with_reducible rename @LT.lt Nat _ (_ + _) recursionLimit => hq9); k_dflt (first | exact room_1 hq9 (by exact rfl) | exact room_j hq9 (by exact rfl) | exact room_0 hq9)))
  k_with "mine units" => (((with_reducible rename @LT.lt Nat _ (_ + _) cLine => hq9); k_dflt (first | exact units_1 hq9 (by exact rfl) | exact units_j hq9 (by exact rfl))))
  k_with "mine me" => (first | with_reducible exact me0 | with_reducible exact me1 | with_reducible exact me2 | with_reducible exact me3 | with_reducible exact me4 | with_reducible exact me5 | with_reducible exact me6 | with_reducible exact me7 | with_reducible exact me8 | with_reducible exact me9 | with_reducible exact me10 | with_reducible exact me11 | with_reducible exact me12 | with_reducible exact me13 | with_reducible exact me14 | with_reducible exact me15 | with_reducible exact me16 | with_reducible exact me17 | with_reducible exact me18 | with_reducible assumption | k_mem)
  k_with "mine ltall" => (((repeat ((with_reducible rename (∀ p ∈ _, Prod.fst p < _) => h7); replace h7 := allLt_of h7; simp only [AllLt, and_true] at h7))))
  k_with "mine kne" => ((refine neN ?_; (try dsimp only); first | with_reducible assumption | decide | exact Nat.ne_of_gt (by with_reducible assumption) | exact Nat.ne_of_lt (by with_reducible assumption) | exact ne_l (by with_reducible assumption) (by walk_at "mine me") | exact ne_r (by with_reducible assumption) (by walk_at "mine me") | exact ne_l2 (by with_reducible assumption) (by with_reducible assumption) (by walk_at "mine me") | exact ne_r2 (by with_reducible assumption) (by with_reducible assumption) (by walk_at "mine me") | exact ne_l1 (by with_reducible assumption) (by walk_at "mine me") | exact ne_r1 (by with_reducible assumption) (by walk_at "mine me") | exact ne_l11 (by with_reducible assumption) (by walk_at "mine me") | exact ne_r11 (by with_reducible assumption) (by walk_at "mine me") | exact ne_s1 | exact ne_s2 | exact ne_b1 (by with_reducible assumption) rfl | exact ne_b2 (by with_reducible assumption) rfl | exact Ne.symm (by with_reducible assumption) | (trace_state; walk_at "mine ltall"; omega)))
  k_with "mine sk" => (first | with_reducible exact sk0 | with_reducible exact sk1 | with_reducible exact sk2 | with_reducible exact sk3 | with_reducible exact sk4 | with_reducible exact sk5 | with_reducible exact sk6 | with_reducible exact sk7 | with_reducible exact sk8 | with_reducible exact sk9 | with_reducible exact sk10 | with_reducible exact sk11 | with_reducible exact sk12 | with_reducible exact sk13 | with_reducible exact sk14 | with_reducible exact sk15 | with_reducible exact sk16 | with_reducible exact sk17 | with_reducible exact sk18)
  k_with "mine kall" => (first | with_reducible assumption | exact all_l (by with_reducible assumption) (by walk_at "mine sk") | exact all_l2 (by with_reducible assumption) (by with_reducible assumption) (by walk_at "mine sk") | exact all_l1 (by with_reducible assumption) (by walk_at "mine sk") | exact all_l11 (by with_reducible assumption) (by walk_at "mine sk") | (with_reducible exact List.forall_mem_nil _) | (refine' List.forall_mem_cons.mpr ⟨?qza, ?qzb⟩; (case qza => k_ne); (case qzb => k_all)) | (trace_state; exact all_ne (by assumption) (by walk_at "mine ltall"; omega)))
  k_with "mine lt" => (first | with_reducible assumption | exact lt_t0 (by with_reducible assumption) (by walk_at "mine me") | exact lt_t1 (by with_reducible assumption) (by with_reducible assumption) (by walk_at "mine me") | exact lt_t2 (by with_reducible assumption) (by with_reducible assumption) (by with_reducible assumption) (by walk_at "mine me") | (trace_state; walk_at "mine ltall"; omega))
  trivial
theorem top_off_P5 : True := by
  w_top off
  trivial
theorem kwp_P5_1 : True := by
  k_with "call ref" => ((k_here; (with_reducible show wpAny _ _ (call (Value.ref 170) [Value.int _ _, Value.int _ _]) _ _ _); k_dflt (first
  | (refine' put2_sp _ _ _ _ ?qzh0 ?qzh1 _ _ _ _ _ _ _ _ _ _ _ _ _ _ _ _ _ _ _ _ _ _ _ ?k1 ?k2 ?k3 ?k4 ?k5 ?kK ?kd ?ku ?qzkR; (case qzh0 => omega); (case qzh1 => omega); walk_at "mine side")
  | (refine' put6_sp _ _ _ _ ?qzh0 ?qzh1 _ _ _ _ _ _ _ _ _ _ _ _ _ _ _ _ _ _ _ _ _ _ _ ?k1 ?k2 ?k3 ?k4 ?k5 ?kK ?kd ?ku ?qzkR; (case qzh0 => omega); (case qzh1 => omega); walk_at "mine side")); intro v9 nx9 h9 tk9 F9 N9 r9; obtain ⟨c9, t9, e9, b9, f9⟩ := r9; subst e9; subst f9; (try dsimp only); (try k_fold)))
  k_with "call ref" => ((k_here; (with_reducible show wpAny _ _ (call (Value.ref 177) [Value.bytes _ _, Value.int _ _, Value.int _ _]) _ _ _); k_dflt (refine' get_sp _ _ _ _ (by kba_ints) ?qzh0 _ _ _ _ ?qzh1 ?qzh2 ?qzh3 ?qzh4 _ _ _ _ _ _ _ _ _ _ _ _ _ _ _ _ _ _ _ _ _ _ _ ?k1 ?k2 ?k3 ?k4 ?k5 ?kK ?kd ?ku ?qzkR; (case qzh0 => omega); (case qzh1 => omega); (case qzh2 => omega); (case qzh3 => omega); (case qzh4 => omega); walk_at "mine side"); intro v9 nx9 h9 tk9 F9 N9 r9; obtain ⟨t9, e9, f9⟩ := r9; subst e9; subst f9; (try dsimp only); (try k_fold)))
  trivial
set_option maxHeartbeats 1000000 in
theorem put16_sp (w : World) (n : Int) (t : Tok) (h0 : 0 ≤ n) (h1 : n < 65536) (news : List (Addr × Obj)) :
   Spec 6 w 184 [.int n t] news (fun v nx => ∃ (c : Array UInt8) (t : Tok), v = .bytes c t ∧ KBw.bInts c = [n / 256, n % 256] ∧ nx = news) := by
  unfold Spec
  k_fill
  intro p loose mean mg mb dp un gd cn cs a ccd cl outer A₀ base h₀ L m s Q E B F X N T hck hdp hun hret
  walk_at "mine enter"
  k_steps
  all_goals exact hret _ _ _ _ (by k_asm) (by walk_at "mine news") ⟨_, _, rfl, by kba_ints, rfl⟩
set_option maxHeartbeats 1000000 in
theorem put48_sp (w : World) (n : Int) (t : Tok) (h0 : 0 ≤ n) (h1 : n < 256) (news : List (Addr × Obj)) :
   Spec 6 w 191 [.int n t] news (fun v nx => ∃ (c : Array UInt8) (t : Tok), v = .bytes c t ∧ KBw.bInts c = [0, 0, 0, 0, 0, n] ∧ nx = news) := by
  unfold Spec
  k_fill
  intro p loose mean mg mb dp un gd cn cs a ccd cl outer A₀ base h₀ L m s Q E B F X N T hck hdp hun hret
  walk_at "mine enter"
  k_steps
  all_goals exact hret _ _ _ _ (by k_asm) (by walk_at "mine news") ⟨_, _, rfl, by kba_ints, rfl⟩
set_option maxHeartbeats 1000000 in
theorem get16_sp (w : World) (b : Array UInt8) (ks : List Int) (tb : Tok) (hb : KBw.bInts b = ks) (hl : ks.length ≤ 1000) (at_ : Int) (t : Tok) (h0 : 0 ≤ at_) (h2 : at_ + 2 ≤ ks.length) (news : List (Addr × Obj)) :
   Spec 6 w 198 [.bytes b tb, .int at_ t] news (fun v nx => ∃ (t : Tok), v = .int (getF (cut ks at_ (at_ + 2))) t ∧ nx = news) := by
  unfold Spec
  k_fill
  intro p loose mean mg mb dp un gd cn cs a ccd cl outer A₀ base h₀ L m s Q E B F X N T hck hdp hun hret
  walk_at "mine enter"
  k_steps
  all_goals exact hret _ _ _ _ (by k_asm) (by walk_at "mine news") ⟨_, rfl, rfl⟩
set_option maxHeartbeats 1000000 in
theorem get48_sp (w : World) (b : Array UInt8) (ks : List Int) (tb : Tok) (hb : KBw.bInts b = ks) (hl : ks.length ≤ 1000) (at_ : Int) (t : Tok) (h0 : 0 ≤ at_) (h2 : at_ + 6 ≤ ks.length) (news : List (Addr × Obj)) :
   Spec 6 w 205 [.bytes b tb, .int at_ t] news (fun v nx => ∃ (t : Tok), v = .int (getF (cut ks at_ (at_ + 6))) t ∧ nx = news) := by
  unfold Spec
  k_fill
  intro p loose mean mg mb dp un gd cn cs a ccd cl outer A₀ base h₀ L m s Q E B F X N T hck hdp hun hret
  walk_at "mine enter"
  k_steps
  all_goals exact hret _ _ _ _ (by k_asm) (by walk_at "mine news") ⟨_, rfl, rfl⟩
theorem short_eq (n : Int) : (Builtin.bitAnd n 3 == 3) = decide (n % 4 = 3) := by rw [bitAnd_m2]; rfl
set_option maxHeartbeats 1000000 in
theorem short_sp (w : World) (n : Int) (t : Tok) (news : List (Addr × Obj)) :
   Spec 2 w 345 [.int n t] news (fun v nx => v = .bool (decide (n % 4 = 3)) ∧ nx = news) := by
  unfold Spec
  k_fill
  intro p loose mean mg mb dp un gd cn cs a ccd cl outer A₀ base h₀ L m s Q E B F X N T hck hdp hun hret
  walk_at "mine enter"
  k_steps
  all_goals exact hret _ _ _ _ (by k_asm) (by walk_at "mine news") ⟨congrArg Value.bool (short_eq _), rfl⟩
theorem kw_6 : True := by
  k_with_none
  k_with "mine kenter" => (k_dflt (first
  | (refine' code_def ?k1 ?k2 ?k3 ?k4 ?k5 ?qzkA ?qzkF ?kK ?qzk6 ?qzk7 ?qzk8 ?qzk9 ?qzkB ?_ ?qzc2 ?qzc3 ?qzc4 ?qzc5; (case qzkA => exact rfl); (case qzkF => exact rfl); (case kK => assumption); (case k1 => k_asm); (case k2 => k_asm); (case k3 => k_asm); (case k4 => k_asm); (case k5 => k_asm); (case qzk6 => k_is); (case qzk7 => k_is); (case qzk8 => ktr_room); (case qzk9 => first | exact BindsTo.of_eq rfl | exact binds_K (by k_in) rfl (by k_is) rfl rfl rfl); (case qzc5 => decide); (case qzkB => exact locs rfl); (case qzc2 => exact rfl); (case qzc3 => exact rfl); (case qzc4 => exact rfl); k_whole; intro g' L' h' FG' F' N' B' X' T'; (try dsimp only); (try k_lift B'); (try k_fold))
  | (refine' code_defC ?k1 ?k2 ?k3 ?k4 ?k5 ?qzkA ?qzkF ?kK ?qzk6 ?qzk7 ?qzk8 ?qzk9 ?qzkB ?qzkD ?_ ?qzc2 ?qzc3 ?qzc4; (case qzkA => exact rfl); (case qzkF => exact rfl); (case kK => assumption); (case k1 => k_asm); (case k2 => k_asm); (case k3 => k_asm); (case k4 => k_asm); (case k5 => k_asm); (case qzk6 => k_is); (case qzk7 => k_is); (case qzk8 => ktr_room); (case qzk9 => first | exact BindsTo.of_eq rfl | exact binds_K (by k_in) rfl (by k_is) rfl rfl rfl); (case qzkB => exact rfl); (case qzkD => decide +kernel); (case qzc2 => exact rfl); (case qzc3 => exact rfl); (case qzc4 => exact rfl); k_whole; intro g' L' h' tk' cells' FG' F' N' Y' B' X' T' l1; (try k_lt l1); k_cells Y'; (try simp only [List.cons_append, List.nil_append] at N'); (try dsimp only); (try k_lift B'); (try k_fold))))
  k_with "mine enter" => ((refine wpAny_call ?_; k_dflt (first
  | (refine' code_def ?k1 ?k2 ?k3 ?k4 ?k5 ?qzkA ?qzkF ?kK ?qzk6 ?qzk7 ?qzk8 ?qzk9 ?qzkB ?_ ?qzc2 ?qzc3 ?qzc4 ?qzc5; (case qzkA => exact rfl); (case qzkF => exact rfl); (case kK => assumption); (case k1 => k_asm); (case k2 => k_asm); (case k3 => k_asm); (case k4 => k_asm); (case k5 => k_asm); (case qzk6 => k_is); (case qzk7 => k_is); (case qzk8 => ktr_room); (case qzk9 => first | exact BindsTo.of_eq rfl | exact binds_K (by k_in) rfl (by k_is) rfl rfl rfl); (case qzc5 => decide); (case qzkB => exact locs rfl); (case qzc2 => exact rfl); (case qzc3 => exact rfl); (case qzc4 => exact rfl); k_whole; intro g' L' h' FG' F' N' B' X' T'; (try dsimp only); (try k_lift B'); (try k_fold))
  | (refine' code_defC ?k1 ?k2 ?k3 ?k4 ?k5 ?qzkA ?qzkF ?kK ?qzk6 ?qzk7 ?qzk8 ?qzk9 ?qzkB ?qzkD ?_ ?qzc2 ?qzc3 ?qzc4; (case qzkA => exact rfl); (case qzkF => exact rfl); (case kK => assumption); (case k1 => k_asm); (case k2 => k_asm); (case k3 => k_asm); (case k4 => k_asm); (case k5 => k_asm); (case qzk6 => k_is); (case qzk7 => k_is); (case qzk8 => ktr_room); (case qzk9 => first | exact BindsTo.of_eq rfl | exact binds_K (by k_in) rfl (by k_is) rfl rfl rfl); (case qzkB => exact rfl); (case qzkD => decide +kernel); (case qzc2 => exact rfl); (case qzc3 => exact rfl); (case qzc4 => exact rfl); k_whole; intro g' L' h' tk' cells' FG' F' N' Y' B' X' T' l1; (try k_lt l1); k_cells Y'; (try simp only [List.cons_append, List.nil_append] at N'); (try dsimp only); (try k_lift B'); (try k_fold)))))
  k_with "mine side" => (((case k1 => k_asm); (case k2 => k_asm); (case k3 => k_asm); (case k4 => k_asm); (case k5 => k_asm); (case kK => first | exact rfl | assumption); (case kd => ktr_room); (case ku => ktr_units)))
  k_with "mine kbabound" => (((try dsimp only); first | exact and255_lo _ | exact and255_hi _))
  k_with "mine news" => (first | k_asm | (refine cb_drop (by assumption) ?_; intro p9 hp9; (repeat (first | exact hp9 | refine List.mem_cons_of_mem _ ?_))))
  k_with "mine room" => (((with_reducible rename @LT.lt Nat _ (_ + _) recursionLimit => hq9); k_dflt (first | exact room_1 hq9 (by exact rfl) | exact room_j hq9 (by exact rfl) | exact room_0 hq9)))
  k_with "mine units" => (((with_reducible rename @LT.lt Nat _ (_ + _) cLine => hq9); k_dflt (first | exact units_1 hq9 (by exact rfl) | exact units_j hq9 (by exact rfl))))
  k_with "mine me" => (first | with_reducible exact me0 | with_reducible exact me1 | with_reducible exact me2 | with_reducible exact me3 | with_reducible exact me4 | with_reducible exact me5 | with_reducible exact me6 | with_reducible exact me7 | with_reducible exact me8 | with_reducible exact me9 | with_reducible exact me10 | with_reducible exact me11 | with_reducible exact me12 | with_reducible exact me13 | with_reducible exact me14 | with_reducible exact me15 | with_reducible exact me16 | with_reducible exact me17 | with_reducible exact me18 | with_reducible assumption | k_mem)
  k_with "mine ltall" => (((repeat ((with_reducible rename (∀ p ∈ _, Prod.fst p < _) => h7); replace h7 := allLt_of h7; simp only [AllLt, and_true] at h7))))
  k_with "mine kne" => ((refine neN ?_; (try dsimp only); first | with_reducible assumption | decide | exact Nat.ne_of_gt (by with_reducible assumption) | exact Nat.ne_of_lt (by with_reducible assumption) | exact ne_l (by with_reducible assumption) (by walk_at "mine me") | exact ne_r (by with_reducible assumption) (by walk_at "mine me") | exact ne_l2 (by with_reducible assumption) (by with_reducible assumption) (by walk_at "mine me") | exact ne_r2 (by with_reducible assumption) (by with_reducible assumption) (by walk_at "mine me") | exact ne_l1 (by with_reducible assumption) (by walk_at "mine me") | exact ne_r1 (by with_reducible assumption) (by walk_at "mine me") | exact ne_l11 (by with_reducible assumption) (by walk_at "mine me") | exact ne_r11 (by with_reducible assumption) (by walk_at "mine me") | exact ne_s1 | exact ne_s2 | exact ne_b1 (by with_reducible assumption) rfl | exact ne_b2 (by with_reducible assumption) rfl | exact Ne.symm (by with_reducible assumption) | (trace_state; walk_at "mine ltall"; omega)))
  k_with "mine sk" => (first | with_reducible exact sk0 | with_reducible exact sk1 | with_reducible exact sk2 | with_reducible exact sk3 | with_reducible exact sk4 | with_reducible exact sk5 | with_reducible exact sk6 | with_reducible exact sk7 | with_reducible exact sk8 | with_reducible exact sk9 | with_reducible exact sk10 | with_reducible exact sk11 | with_reducible exact sk12 | with_reducible exact sk13 | with_reducible exact sk14 | with_reducible exact sk15 | with_reducible exact sk16 | with_reducible exact sk17 | with_reducible exact sk18)
  k_with "mine kall" => (first | with_reducible assumption | exact all_l (by with_reducible assumption) (by walk_at "mine sk") | exact all_l2 (by with_reducible assumption) (by with_reducible assumption) (by walk_at "mine sk") | exact all_l1 (by with_reducible assumption) (by walk_at "mine sk") | exact all_l11 (by with_reducible assumption) (by walk_at "mine sk") | (with_reducible exact List.forall_mem_nil _) | (refine' List.forall_mem_cons.mpr ⟨?qza, ?qzb⟩; (case qza => k_ne); (case qzb => k_all)) | (trace_state; exact all_ne (by assumption) (by walk_at "mine ltall"; omega)))
  k_with "mine lt" => (first | with_reducible assumption | exact lt_t0 (by with_reducible assumption) (by walk_at "mine me") | exact lt_t1 (by with_reducible assumption) (by with_reducible assumption) (by walk_at "mine me") | exact lt_t2 (by with_reducible assumption) (by with_reducible assumption) (by with_reducible assumption) (by walk_at "mine me") | (trace_state; walk_at "mine ltall"; omega))
  trivial
theorem top_off_X1 : True := by
  w_top off
  trivial
theorem meta_exc : typeOf (.type "Exception") = pure (.type "type") := by
  first | rfl | (unfold typeOf; kernel_rfl) | kernel_rfl
section
variable {prog : Program} {w : World} {A : Around} {E : Value → Shared → Prop} {h : Heap} {g : Array GenState} {d : Drawn} {t : Nat} {os : OsState}
variable {nm q : Str} {C N : Addr} {bs bm bmB : List Value} {hdct : Bool} {sn : List Str} {sub : List Value} {ab : Bool} {col : Option Bool} {dd : Option Addr} {k0 k1 k2 k3 k5 : Option Value} {B newId initId newId' : String}
theorem check_init_own (F : ExcBaseFacts B newId initId bmB) (hcB : (Value.ref C :: bm).contains (.type B) = true) {M : Model} {e : Addr} {oe : Obj} {rest : List Value} {Q : Unit → Shared → Prop}
    (hC : h.get? C = some (excClassObj nm q C N bs bm hdct sn sub ab col dd k0 k1 k2 k3 k5 newId')) (he : h.get? e = some oe) (hcls : oe.cls = .ref C) (hq : Q () ⟨h, g, d, t, os⟩) :
    wpAny M A (checkBuiltinCall initId ⟨.ref e :: rest, []⟩) Q E ⟨h, g, d, t, os⟩ := by
  have hshort := F.noStar
  simp only [checkBuiltinCall, F.initKind, F.initSplit, F.initRow]
  repeat (first | (with_reducible refine wpAny_loadPart_at he ?_; rw [hcls]) | with_reducible refine wpAny_loadPart_at hC ?_ | (with_reducible refine wpAny_isSubtype_exc hC ?_; rw [hcB]) | wp_step)
  refine wpAny_onRaise ?_
  rw [show ∀ (a b : String) (n : Nat), Bind.check ⟨.positional, "*", B, .self, [⟨"args", .varPos, false⟩]⟩ a b n (List.map (fun x => x.fst) ({ pos := Value.ref e :: rest } : Args).kw) = pure () from
    fun a b n => check_star_args _ _ _ _ _ _]
  exact wpAny_pure hq
theorem call_init_own (F : ExcBaseFacts B newId initId bmB) (hcB : (Value.ref C :: bm).contains (.type B) = true) {e a0 : Addr} {rest : List Value} {Q : Value → Shared → Prop}
    (hC : h.get? C = some (excClassObj nm q C N bs bm hdct sn sub ab col dd k0 k1 k2 k3 k5 newId')) (he : h.get? e = some { cls := .ref C, data := .fields #[.ref a0, .none, .none, .none, .bool false, .none] }) (hrest : rest.length ≤ sizeLine)
    (hq : Q .none ⟨(h.push { cls := .type "tuple", data := .seq rest.toArray }).update e (Obj.mapFields (·.setIfInBounds 0 (.ref h.objs.size))), g, d, t, os⟩) :
    wpAny (model prog w) A (call (.builtin initId) (.ref e :: rest)) Q E ⟨h, g, d, t, os⟩ := by
  refine wpAny_call (codeAny_call_builtin F.init.plain F.initEntry (check_init_own F hcB hC he rfl ?_))
  wp_walk
  exact hq
end
theorem top_off_X2 : True := by
  w_top off
  trivial
section
open PySem.Builtin PySem.Builtin.ObjectAttr
variable {prog : Program} {w : World} {A : Around} {s : Shared} {K : Frag} {e C D : Addr} {name : Str} {v : Value} {fs : Array Value} {cd : ClassData} {sl : Array (Option Value)}
theorem exc_inst {h : Heap} (he : h.get? e = some ⟨.ref C, none, .fields fs, sl⟩) : InstAt h e ⟨.ref C, none, .fields fs, sl⟩ C none := ⟨he, rfl, rfl, trivial⟩
theorem exc_store_open {tk : Tok} {R : Result → Shared → Prop} (X : K.In s.heap) (he : s.heap.get? e = some ⟨.ref C, none, .fields fs, sl⟩) (hc : clsIn K C = some cd)
    (hm : cd.mro = [.ref C, .ref D, .type "Exception", .type "BaseException", .type "object"]) (ht : findIn K (.ref C) name = some none)
    (h : ∀ b, wpAny (model prog w) A.in1 (storeInOwnDict (.ref e) (.ref C) (.str name tk) name v b)
      (fun fin s' => match fin with | .done f => R (.ok f) s' | .again c' => c'.quiet = true ∧ codeAny (model prog w) A c' R s') (fun e s' => R (.error e) s') s) :
    codeAny (model prog w) A (.call (.builtin "object.__setattr__") ⟨[.ref e, .str name tk, v], []⟩) R s := by
  have SF := PySem.F.store_object
  have I := exc_inst he
  have sub : Looks (model prog w) s.heap (isInstance (.ref e) (.type "object")) true := I.type.andThen (looks_mroIn X (by unfold mroIn; rw [hc, Option.bind_some, hm]; rfl))
  refine codeAny_call_builtin SF.slot.plain SF.entry (@check_slot (model prog w) _ _ s "object.__setattr__" "object" "__setattr__" (.ref e) [.str name tk, v] [] _ SF.kind SF.split sub (SF.args (.ref e) (.str name tk) v) ?_)
  have hmm : Looks (model prog w) s.heap (mroOf (.ref C)) cd.mro := (looks_clsIn X hc).andThen .now
  have L3 : Looks (model prog w) s.heap (storeTaker? none) none := .now
  rw [osa_eq, refuse_eq]
  refine wpAny_bind (wpAny_bind (I.type.here (wpAny_bind (hmm.here ?_))))
  rw [hm, refuseLoop_ref, refuseLoop_ref, PySem.F.store_Exception.passes]
  refine wpAny_pure (wpAny_bind (I.type.here (wpAny_bind ((looks_findIn X ht).here (wpAny_bind (L3.here ?_))))))
  exact h _
theorem exc_set {E : Value → Shared → Prop} {Q : Unit → Shared → Prop} (X : K.In s.heap) (he : s.heap.get? e = some ⟨.ref C, none, .fields fs, sl⟩) (hc : clsIn K C = some cd)
    (hm : cd.mro = [.ref C, .ref D, .type "Exception", .type "BaseException", .type "object"]) (hdict : cd.hasDict = true) (ht : findIn K (.ref C) name = some none)
    (hs : findIn K (.ref C) "__setattr__" = some (some (.builtin "object.__setattr__")))
    (hq : ∀ h' tk' dd, (∀ b o, b ≠ e → s.heap.get? b = some o → h'.get? b = some o) → h'.get? e = some ⟨.ref C, dd, .fields fs, sl⟩ → Q () { s with heap := h', toks := tk' }) :
    wpAny (model prog w) A (setAttr (.ref e) name v) Q E s := by
  obtain ⟨h, g, d, t, os⟩ := s
  have X' : K.In h := X
  refine set_plain X (exc_inst he) hs (exc_store_open (s := ⟨h, g, d, t + 1, os⟩) X he hc hm ht fun b => ?_)
  refine wpAny_bind (wpAny_pure (wpAny_bind (wpAny_bind (wpAny_loadPart he (wpAny_bind ((looks_clsIn X' hc).here (s := ⟨h, g, d, t + 1, os⟩) ?_))))))
  rw [hdict]
  have hx₁ : (h.push { cls := .type "dict", data := .dict #[] }).get? e = some ⟨.ref C, none, .fields fs, sl⟩ := Heap.get?_push_of_some _ he
  have hxs : e ≠ h.objs.size := Nat.ne_of_lt (Heap.lt_size he)
  refine wpAny_bind (wpAny_alloc' ?_)
  refine wpAny_bind (wpAny_update' hx₁ ?_)
  refine wpAny_pure ?_
  have hgd : ((h.push { cls := .type "dict", data := .dict #[] }).update e fun o => { cls := o.cls, dict := some h.objs.size, data := o.data, slots := o.slots }).get? h.objs.size
      = some { cls := .type "dict", data := .dict #[] } :=
    (Heap.get?_update_ne _ _ _ _ hxs.symm).trans (Heap.get?_push_at rfl rfl)
  have hnd : ((h.push { cls := .type "dict", data := .dict #[] }).update e fun o => { cls := o.cls, dict := some h.objs.size, data := o.data, slots := o.slots }).Ns h.objs.size (fun _ => none) :=
    ⟨_, #[], _, hgd, rfl, fun e he => absurd he (by simp), fun _ => rfl⟩
  show wpAny _ _ (storeInDict h.objs.size _ name v) _ _ _
  unfold storeInDict newKeyGuard
  refine wpAny_bind (wpAny_pure (wpAny_bind (wpAny_nsSet1 (Heap.Ns1.of_empty hnd) fun h' hn' hs => ?_)))
  obtain ⟨oD, esD, epD, hoD, hdD, hcD⟩ := hn'.count (Within.cons name v Within.nil)
  refine wpAny_bind (wpAny_lookBehind hoD (by rw [hdD]; exact pastItsLine_dict (Nat.le_trans hcD (by rw [List.length_cons, List.length_nil, sizeLine_eq]; omega))) ?_)
  wp_walk
  refine hq h' _ (some h.objs.size) (fun b ob hbx hb => ?_) ?_
  · exact (hs.2 b (Nat.ne_of_lt (Heap.lt_size hb))).trans ((Heap.get?_update_ne _ _ _ _ hbx).trans (Heap.get?_push_of_some _ hb))
  · exact (hs.2 e hxs).trans (Heap.get?_update_self _ hx₁ rfl)
end
theorem top_off_X3 : True := by
  w_top off
  trivial
section
open PySem.Builtin
variable {prog : Program} {w : World} {A : Around} {E : Value → Shared → Prop} {h : Heap} {g : Array GenState} {d : Drawn} {t : Nat} {os : OsState} {K : Frag}
variable {nm q : Str} {C N : Addr} {bs bm bmB : List Value} {hdct : Bool} {sn : List Str} {sub : List Value} {ab : Bool} {col : Option Bool} {dd : Option Addr} {k0 k1 k2 k3 k5 : Option Value} {B newId initId : String}
theorem check_new_own (F : ExcBaseFacts B newId initId bmB) (hcB : (Value.ref C :: bm).contains (.type B) = true) {M : Model} {rest : List Value} {Q : Unit → Shared → Prop} (hC : h.get? C = some (excClassObj nm q C N bs bm hdct sn sub ab col dd k0 k1 k2 k3 k5 newId))
    (hq : Q () ⟨h, g, d, t, os⟩) : wpAny M A (checkBuiltinCall newId ⟨.ref C :: rest, []⟩) Q E ⟨h, g, d, t, os⟩ := by
  have hstar := F.noStar
  simp only [checkBuiltinCall, F.newKind, F.newSplit, F.newRow]
  repeat (first | refine wpAny_loadPart_at hC ?_ | (refine wpAny_isSubtype_exc hC ?_; rw [hcB]) | refine wpAny_staticBase_exc hC ?_ | refine wpAny_madeBy_exc hC ?_ | simp only [bne_self_eq_false, Bool.false_eq_true, if_false] | wp_step)
  exact hq
theorem new_own (F : ExcBaseFacts B newId initId bmB) (hcB : (Value.ref C :: bm).contains (.type B) = true) (hcA : (Value.ref C :: bm).contains (.type "AttributeError") = false) (hcN : (Value.ref C :: bm).contains (.type "NameError") = false)
    {R : Result → Shared → Prop} {rest : List Value} (hC : h.get? C = some (excClassObj nm q C N bs bm hdct sn sub ab col dd k0 k1 k2 k3 k5 newId))
    (hq : R (.ok (.ret (.ref (h.objs.size + 1)))) ⟨(h.push { cls := .type "tuple", data := .seq rest.toArray }).push
      { cls := .ref C, data := .fields #[.ref h.objs.size, .none, .none, .none, .bool false, .none] }, g, d, t, os⟩) (hrest : rest.length ≤ sizeLine) :
    codeAny (model prog w) A (.builtin newId ⟨.ref C :: rest, []⟩) R ⟨h, g, d, t, os⟩ := by
  have hends := F.ends
  refine codeAny_builtinAt F.entry ?_
  unfold Builtin.«BaseException.__new__»
  refine PySem.wpAt_bind ?_
  show PySem.wpAt _ _ _ (PySem.stack >>= _) _ _ _
  refine PySem.wpAt_bind (PySem.wpAt_stack fun p below => PySem.wpAt_of_wpAny ?_)
  wp_walk
  refine PySem.wpAt_of_wpAny ?_
  rw [F.owner]
  repeat (first | with_reducible refine wpAny_madeHere_exc F.canon hC ?_ | with_reducible refine wpAny_loadPart_at hC ?_ | (with_reducible refine wpAny_isSubtype_exc hC ?_; first | rw [hcB] | rw [hcA] | rw [hcN]) | wp_step)
  show R _ _
  rw [Heap.size_push]
  exact hq
theorem type_call_own (F : ExcBaseFacts B newId initId bmB) (hcB : (Value.ref C :: bm).contains (.type B) = true) (hcA : (Value.ref C :: bm).contains (.type "AttributeError") = false) (hcN : (Value.ref C :: bm).contains (.type "NameError") = false)
    {rest : List Value} {fI : Addr} {Q : Fin → Shared → Prop}
    (X : K.In h) (hC : h.get? C = some (excClassObj nm q C N bs bm hdct sn sub ab col dd k0 k1 k2 k3 k5 newId)) (hi : findIn K (.ref C) "__init__" = some (some (.ref fI))) (hf : typeIn K (.ref fI) = some (.type "function"))
    (hq : ∀ h' e, Heap.MadeExcOf h h' e (.ref C) rest →
      wpAny (model prog w) A (call (.ref fI) (.ref e :: rest)) (fun r s' => r = .none ∧ Q (.done (.ret (.ref e))) s') E ⟨h', g, d, t, os⟩) (hrest : rest.length ≤ sizeLine) :
    wpAny (model prog w) A (Builtin.«type.__call__» ⟨.ref C :: rest, []⟩) Q E ⟨h, g, d, t, os⟩ := by
  repeat (first | with_reducible refine wpAny_loadPart_at hC ?_ | with_reducible refine wpAny_madeBy_exc hC ?_ | wp_step)
  refine codeAny_call_builtin_code (Code.quiet_builtin _ F.quiet) (check_new_own F hcB hC ?_)
  refine new_own F hcB hcA hcN hC ?_ hrest
  show wpAny _ _ _ _ _ _
  have up : ∀ b o, h.get? b = some o → ((h.push { cls := .type "tuple", data := .seq rest.toArray }).push { cls := .ref C, data := .fields #[.ref h.objs.size, .none, .none, .none, .bool false, .none] }).get? b = some o :=
    fun b o e => Heap.get?_push_of_some _ (Heap.get?_push_of_some _ e)
  have hC₁ := up _ _ hC
  have X₁ : K.In ((h.push { cls := .type "tuple", data := .seq rest.toArray }).push { cls := .ref C, data := .fields #[.ref h.objs.size, .none, .none, .none, .bool false, .none] }) := X.keeps up
  have hget : ((h.push { cls := .type "tuple", data := .seq rest.toArray }).push
      { cls := .ref C, data := .fields #[.ref h.objs.size, .none, .none, .none, .bool false, .none] }).get? (h.objs.size + 1) = some
      { cls := .ref C, data := .fields #[.ref h.objs.size, .none, .none, .none, .bool false, .none] } := by heap_get
  have hcC : (Value.ref C :: bm).contains (.ref C) = true := by simp
  unfold isInstance
  repeat (first | with_reducible refine wpAny_loadPart_at hget ?_ | (with_reducible refine wpAny_isSubtype_exc hC₁ ?_; rw [hcC]) | wp_step)
  show wpAny _ _ (typeLookup (.ref C) _) _ _ _
  refine (looks_findIn X₁ hi).here (s := ⟨_, g, d, t, os⟩) ?_
  refine wpAny_holding (wpAny_bind ((bind_fn X₁ _ hf).here (s := ⟨_, g, d, t, os⟩) ?_))
  refine wpAny_bind (wpAny_mono (hq _ (h.objs.size + 1) ⟨up, Heap.get?_none_of_le (Nat.le_succ _), h.objs.size, hget, Heap.get?_none_of_le (Nat.le_refl _), ?_⟩) (fun r s' hr => ?_) fun _ _ x => x)
  · exact Heap.get?_push_of_some _ (Heap.get?_push_at rfl rfl)
  · obtain ⟨rfl, hQ⟩ := hr
    wp_walk
    exact hQ
theorem call_own (F : ExcBaseFacts B newId initId bmB) (hcB : (Value.ref C :: bm).contains (.type B) = true) (hcA : (Value.ref C :: bm).contains (.type "AttributeError") = false) (hcN : (Value.ref C :: bm).contains (.type "NameError") = false)
    {rest : List Value} {fI : Addr} {Q : Value → Shared → Prop}
    (X : K.In h) (hC : h.get? C = some (excClassObj nm q C N bs bm hdct sn sub ab col dd k0 k1 k2 k3 k5 newId)) (hi : findIn K (.ref C) "__init__" = some (some (.ref fI))) (hf : typeIn K (.ref fI) = some (.type "function"))
    (hq : ∀ h' e, Heap.MadeExcOf h h' e (.ref C) rest →
      wpAny (model prog w) (A.under (.builtin "type.__call__" ⟨.ref C :: rest, []⟩)) (call (.ref fI) (.ref e :: rest)) (fun r s' => r = .none ∧ Q (.ref e) s') E ⟨h', g, d, t, os⟩) (hrest : rest.length ≤ sizeLine) :
    wpAny (model prog w) A (call (.ref C) rest) Q E ⟨h, g, d, t, os⟩ := by
  have f1 := tc_lookup
  have f2 := tc_bind (.ref C)
  have hT : (⟨h, g, d, t, os⟩ : Shared).TypeIs (.ref C) "type" := ⟨_, hC, rfl⟩
  refine wpAny_call (codeAny_of_tree ?_)
  show wpAny _ _ (callAny (.ref C) _) _ _ _
  repeat (any_goals (first | assumption | with_reducible refine wpAny_loadPart_at hC ?_ | wp_step))
  refine ⟨rfl, ?_⟩
  refine codeAny_call_builtin_at (Code.quiet_builtin _ (by decide +kernel)) entry_typeCall (wpAny_check_type_call_sub hC (type_call_own F hcB hcA hcN X hC hi hf (fun h' e hm => ?_) hrest))
  exact hq h' e hm
end
theorem top_off_X4 : True := by
  w_top off
  trivial
abbrev excTail : List Value := [.ref 31, .type "Exception", .type "BaseException", .type "object"]
abbrev excObj (C : Addr) (dd : Option Addr) (t : Addr) : Obj := ⟨.ref C, dd, .fields #[.ref t, .none, .none, .none, .bool false, .none], #[]⟩
def excOk (K : Frag) (C : Addr) : Bool := match K.lookup C with
  | some ⟨.type "type", _, .cls cd, sl⟩ => (match sl.toList with | [_, _, _, _, some (.builtin n), _] => n == "Exception.__new__" | _ => false) && cd.mro == (.ref C :: excTail) && cd.hasDict && !cd.hasDel
  | _ => false
theorem exc_of {K : Frag} {C : Addr} (q : excOk K C = true) : ∃ (nm qn : Str) (N : Addr) (bs : List Value) (sn : List Str) (sub : List Value) (ab : Bool) (col : Option Bool) (dd : Option Addr) (k0 k1 k2 k3 k5 : Option Value),
    K.lookup C = some (excClassObj nm qn C N bs excTail true sn sub ab col dd k0 k1 k2 k3 k5 "Exception.__new__") := by
  unfold excOk at q
  split at q
  · rename_i dd cd sl ho
    split at q
    · rename_i k0 k1 k2 k3 n k5 hs
      simp only [Bool.and_eq_true, beq_iff_eq, Bool.not_eq_true'] at q
      obtain ⟨⟨⟨hn, hm⟩, hd⟩, hdel⟩ := q
      obtain ⟨nm, bs, mro, ns, qn, hdct, sn, sub, ab, col, del⟩ := cd
      dsimp only at hm hd hdel
      subst hm hd hdel hn
      have hsl : sl = #[k0, k1, k2, k3, some (.builtin "Exception.__new__"), k5] := by
        obtain ⟨l⟩ := sl
        simp only at hs
        rw [hs]
      subst hsl
      exact ⟨nm, qn, ns, bs, sn, sub, ab, col, dd, k0, k1, k2, k3, k5, ho⟩
    · cases q
  · cases q
theorem exc_cls {K : Frag} {C : Addr} (q : excOk K C = true) : ∃ cd, clsIn K C = some cd ∧ cd.mro = (.ref C :: excTail) ∧ cd.hasDict = true := by
  obtain ⟨nm, qn, N, bs, sn, sub, ab, col, dd, k0, k1, k2, k3, k5, h⟩ := exc_of q
  refine ⟨{ name := nm, bases := bs, mro := .ref C :: excTail, ns := N, qualname := qn, hasDict := true, slotNames := sn, subclasses := sub, abstract := ab, collection := col, hasDel := false }, ?_, rfl, rfl⟩
  unfold clsIn; rw [h]
theorem tail_B (C : Addr) : (Value.ref C :: excTail).contains (.type "Exception") = true := by
  rw [List.contains_cons]; simp
theorem tail_BB (C : Addr) : (Value.ref C :: excTail).contains (.type "BaseException") = true := by
  rw [List.contains_cons]; simp
theorem tail_A (C : Addr) : (Value.ref C :: excTail).contains (.type "AttributeError") = false := by
  rw [List.contains_cons]; rfl
theorem tail_N (C : Addr) : (Value.ref C :: excTail).contains (.type "NameError") = false := by
  rw [List.contains_cons]; rfl
theorem ok44 (P : Params) : excOk (Mine.kept.heap_1 P) 44 = true := by kernel_rfl
theorem ok56 (P : Params) : excOk (Mine.kept.heap_1 P) 56 = true := by kernel_rfl
theorem init44 (P : Params) : findIn (Mine.kept.heap_1 P) (.ref 44) "__init__" = some (some (.ref 28)) := by kernel_rfl
theorem init56 (P : Params) : findIn (Mine.kept.heap_1 P) (.ref 56) "__init__" = some (some (.ref 28)) := by kernel_rfl
theorem fn28 (P : Params) : typeIn (Mine.kept.heap_1 P) (.ref 28) = some (.type "function") := by kernel_rfl
theorem sa44 (P : Params) : findIn (Mine.kept.heap_1 P) (.ref 44) "__setattr__" = some (some (.builtin "object.__setattr__")) := by kernel_rfl
theorem sa56 (P : Params) : findIn (Mine.kept.heap_1 P) (.ref 56) "__setattr__" = some (some (.builtin "object.__setattr__")) := by kernel_rfl
theorem ms44 (P : Params) : findIn (Mine.kept.heap_1 P) (.ref 44) "message" = some none := by kernel_rfl
theorem ms56 (P : Params) : findIn (Mine.kept.heap_1 P) (.ref 56) "message" = some none := by kernel_rfl
section
variable {prog : Program} {w : World} {A : Around} {E : Value → Shared → Prop} {s : Shared} {h₀ : Heap} {L e C t : Addr} {m : Str → Option Value} {news : List (Addr × Obj)} {K : Frag} {v : Value}
/-- a heap in which e alone has been changed -/
theorem news_one {h' : Heap} {o o' : Obj} (F : Fr h₀ L s.heap m) (N : News h₀ L s.heap ((e, o) :: news)) (hne : ∀ p ∈ news, p.1 ≠ e) (hk : ∀ b ob, b ≠ e → s.heap.get? b = some ob → h'.get? b = some ob) (he : h'.get? e = some o') :
    Fr h₀ L h' m ∧ News h₀ L h' ((e, o') :: news) := by
  have ne := N (e, o) List.mem_cons_self
  refine ⟨⟨F.ns.at' fun ob hb => hk L ob (Ne.symm ne.2.1) hb, fun b ob hb => hk b ob (fun q => by rw [q, ne.2.2] at hb; cases hb) (F.keep b ob hb), F.above⟩, fun p hp => ?_⟩
  rcases List.mem_cons.mp hp with rfl | hp
  · exact ⟨he, ne.2⟩
  · have np := N p (List.mem_cons_of_mem _ hp)
    exact ⟨hk _ _ (hne p hp) np.1, np.2⟩
theorem exc_init_K {Q : Value → Shared → Prop} (q : excOk K C = true) (F : Fr h₀ L s.heap m) (X : K.In h₀) (N : News h₀ L s.heap ((e, excObj C none t) :: news)) (hne : ∀ p ∈ news, p.1 ≠ e)
    (h : ∀ h' t', Fr h₀ L h' m → News h₀ L h' ((e, excObj C none t') :: news) → Q .none { s with heap := h' }) :
    wpAny (model prog w) A (call (.builtin "Exception.__init__") [.ref e, v]) Q E s := by
  obtain ⟨nm, qn, N', bs, sn, sub, ab, col, dd, k0, k1, k2, k3, k5, hl⟩ := exc_of q
  have he := (N (e, excObj C none t) List.mem_cons_self).1
  obtain ⟨hp, g, d, tk, os⟩ := s
  refine call_init_own PySem.F.excBase_Exception (tail_B C) (X.keeps F.keep _ _ hl) he (by rw [sizeLine_eq]; exact Nat.le_of_ble_eq_true rfl) ?_
  have up : (hp.push { cls := .type "tuple", data := .seq [v].toArray }).get? e = some (excObj C none t) := Heap.get?_push_of_some _ he
  obtain ⟨F', N''⟩ := news_one (s := ⟨hp, g, d, tk, os⟩) (o' := excObj C none hp.objs.size) (h' := (hp.push { cls := .type "tuple", data := .seq [v].toArray }).update e (Obj.mapFields (·.setIfInBounds 0 (.ref hp.objs.size)))) F N hne
    (fun b ob hb hg => (Heap.get?_update_other _ _ (Ne.symm hb)).trans (Heap.get?_push_of_some _ hg)) (Heap.get?_update_self _ up rfl)
  exact h _ _ F' N''
theorem exc_set_K {Q : Unit → Shared → Prop} {name : Str} (q : excOk K C = true) (hs : findIn K (.ref C) "__setattr__" = some (some (.builtin "object.__setattr__"))) (hm : findIn K (.ref C) name = some none)
    (F : Fr h₀ L s.heap m) (X : K.In h₀) (N : News h₀ L s.heap ((e, excObj C none t) :: news)) (hne : ∀ p ∈ news, p.1 ≠ e)
    (h : ∀ h' tk dd, Fr h₀ L h' m → News h₀ L h' ((e, excObj C dd t) :: news) → Q () { s with heap := h', toks := tk }) :
    wpAny (model prog w) A (setAttr (.ref e) name v) Q E s := by
  obtain ⟨cd, hc, hmro, hd⟩ := exc_cls q
  have he := (N (e, excObj C none t) List.mem_cons_self).1
  refine exc_set (X.keeps F.keep) he hc hmro hd hm hs fun h' tk dd hk hn => ?_
  obtain ⟨F', N'⟩ := news_one F N hne hk hn
  exact h _ _ _ F' N'
end
theorem top_off_X5 : True := by
  w_top off
  trivial
theorem kwp_X5_1 : True := by
  k_with "getMethod type:Exception" => ((k_here; refine' method_type ?qzF ?qzX ?qzm (by decide +kernel) ?qze ?qzh ?_; (case qzF => k_asm); (case qzX => k_asm); (case qzm => exact meta_exc); (case qze => k_dflt k_is); (case qzh => k_handed)))
  k_with "call builtin:Exception.__init__" => ((k_here; refine' exc_init_K (by assumption) ?k1 ?k2 ?k3 (by assumption) ?_; (case k1 => k_asm); (case k2 => k_asm); (case k3 => k_asm); intro h' t' F' N'))
  k_with "setAttr ref" => ((k_here; refine' exc_set_K (by assumption) (by assumption) (by assumption) ?k1 ?k2 ?k3 (by assumption) ?_; (case k1 => k_asm); (case k2 => k_asm); (case k3 => k_asm); intro h' tk' dd' F' N'))
  trivial
theorem init_sp (w : World) (e t : Addr) (C : Addr) (msg : Str) (tm : Tok) (news : List (Addr × Obj)) (hC : C = 44 ∨ C = 56) (hne : ∀ p ∈ news, p.1 ≠ e) :
    Spec 3 w 28 [.ref e, .str msg tm] ((e, excObj C none t) :: news) (fun v nx => v = .none ∧ ∃ dd t2, nx = (e, excObj C dd t2) :: news) := by
  unfold Spec
  k_fill
  intro p loose mean mg mb dp un gd cn cs a ccd cl outer A₀ base h₀ L m s Q E B F X N T hck hdp hun hret
  have hok : excOk (Mine.kept.heap_1 w.params) C = true := by (rcases hC with rfl | rfl); exact ok44 _; exact ok56 _
  have hsa : findIn (Mine.kept.heap_1 w.params) (.ref C) "__setattr__" = some (some (.builtin "object.__setattr__")) := by (rcases hC with rfl | rfl); exact sa44 _; exact sa56 _
  have hms : findIn (Mine.kept.heap_1 w.params) (.ref C) (Str.ofString "message") = some none := by (rcases hC with rfl | rfl); exact ms44 _; exact ms56 _
  walk_at "mine enter"
  k_steps
  all_goals exact hret _ _ _ _ (by k_asm) (by walk_at "mine news") ⟨rfl, _, _, rfl⟩
theorem kw_7 : True := by
  k_with_none
  k_with "mine kenter" => (k_dflt (first
  | (refine' code_def ?k1 ?k2 ?k3 ?k4 ?k5 ?qzkA ?qzkF ?kK ?qzk6 ?qzk7 ?qzk8 ?qzk9 ?qzkB ?_ ?qzc2 ?qzc3 ?qzc4 ?qzc5; (case qzkA => exact rfl); (case qzkF => exact rfl); (case kK => assumption); (case k1 => k_asm); (case k2 => k_asm); (case k3 => k_asm); (case k4 => k_asm); (case k5 => k_asm); (case qzk6 => k_is); (case qzk7 => k_is); (case qzk8 => ktr_room); (case qzk9 => first | exact BindsTo.of_eq rfl | exact binds_K (by k_in) rfl (by k_is) rfl rfl rfl); (case qzc5 => decide); (case qzkB => exact locs rfl); (case qzc2 => exact rfl); (case qzc3 => exact rfl); (case qzc4 => exact rfl); k_whole; intro g' L' h' FG' F' N' B' X' T'; (try dsimp only); (try k_lift B'); (try k_fold))
  | (refine' code_defC ?k1 ?k2 ?k3 ?k4 ?k5 ?qzkA ?qzkF ?kK ?qzk6 ?qzk7 ?qzk8 ?qzk9 ?qzkB ?qzkD ?_ ?qzc2 ?qzc3 ?qzc4; (case qzkA => exact rfl); (case qzkF => exact rfl); (case kK => assumption); (case k1 => k_asm); (case k2 => k_asm); (case k3 => k_asm); (case k4 => k_asm); (case k5 => k_asm); (case qzk6 => k_is); (case qzk7 => k_is); (case qzk8 => ktr_room); (case qzk9 => first | exact BindsTo.of_eq rfl | exact binds_K (by k_in) rfl (by k_is) rfl rfl rfl); (case qzkB => exact rfl); (case qzkD => decide +kernel); (case qzc2 => exact rfl); (case qzc3 => exact rfl); (case qzc4 => exact rfl); k_whole; intro g' L' h' tk' cells' FG' F' N' Y' B' X' T' l1; (try k_lt l1); k_cells Y'; (try simp only [List.cons_append, List.nil_append] at N'); (try dsimp only); (try k_lift B'); (try k_fold))))
  k_with "mine enter" => ((refine wpAny_call ?_; k_dflt (first
  | (refine' code_def ?k1 ?k2 ?k3 ?k4 ?k5 ?qzkA ?qzkF ?kK ?qzk6 ?qzk7 ?qzk8 ?qzk9 ?qzkB ?_ ?qzc2 ?qzc3 ?qzc4 ?qzc5; (case qzkA => exact rfl); (case qzkF => exact rfl); (case kK => assumption); (case k1 => k_asm); (case k2 => k_asm); (case k3 => k_asm); (case k4 => k_asm); (case k5 => k_asm); (case qzk6 => k_is); (case qzk7 => k_is); (case qzk8 => ktr_room); (case qzk9 => first | exact BindsTo.of_eq rfl | exact binds_K (by k_in) rfl (by k_is) rfl rfl rfl); (case qzc5 => decide); (case qzkB => exact locs rfl); (case qzc2 => exact rfl); (case qzc3 => exact rfl); (case qzc4 => exact rfl); k_whole; intro g' L' h' FG' F' N' B' X' T'; (try dsimp only); (try k_lift B'); (try k_fold))
  | (refine' code_defC ?k1 ?k2 ?k3 ?k4 ?k5 ?qzkA ?qzkF ?kK ?qzk6 ?qzk7 ?qzk8 ?qzk9 ?qzkB ?qzkD ?_ ?qzc2 ?qzc3 ?qzc4; (case qzkA => exact rfl); (case qzkF => exact rfl); (case kK => assumption); (case k1 => k_asm); (case k2 => k_asm); (case k3 => k_asm); (case k4 => k_asm); (case k5 => k_asm); (case qzk6 => k_is); (case qzk7 => k_is); (case qzk8 => ktr_room); (case qzk9 => first | exact BindsTo.of_eq rfl | exact binds_K (by k_in) rfl (by k_is) rfl rfl rfl); (case qzkB => exact rfl); (case qzkD => decide +kernel); (case qzc2 => exact rfl); (case qzc3 => exact rfl); (case qzc4 => exact rfl); k_whole; intro g' L' h' tk' cells' FG' F' N' Y' B' X' T' l1; (try k_lt l1); k_cells Y'; (try simp only [List.cons_append, List.nil_append] at N'); (try dsimp only); (try k_lift B'); (try k_fold)))))
  k_with "mine side" => (((case k1 => k_asm); (case k2 => k_asm); (case k3 => k_asm); (case k4 => k_asm); (case k5 => k_asm); (case kK => first | exact rfl | assumption); (case kd => ktr_room); (case ku => ktr_units)))
  k_with "mine kbabound" => (((try dsimp only); first | exact and255_lo _ | exact and255_hi _))
  k_with "mine news" => (first | k_asm | (refine cb_drop (by assumption) ?_; intro p9 hp9; (repeat (first | exact hp9 | refine List.mem_cons_of_mem _ ?_))))
  k_with "mine room" => (((with_reducible rename @LT.lt Nat _ (_ + _) recursionLimit => hq9); k_dflt (first | exact room_1 hq9 (by exact rfl) | exact room_j hq9 (by exact rfl) | exact room_0 hq9)))
  k_with "mine units" => (((with_reducible rename @LT.lt Nat _ (_ + _) cLine => hq9); k_dflt (first | exact units_1 hq9 (by exact rfl) | exact units_j hq9 (by exact rfl))))
  k_with "mine me" => (first | with_reducible exact me0 | with_reducible exact me1 | with_reducible exact me2 | with_reducible exact me3 | with_reducible exact me4 | with_reducible exact me5 | with_reducible exact me6 | with_reducible exact me7 | with_reducible exact me8 | with_reducible exact me9 | with_reducible exact me10 | with_reducible exact me11 | with_reducible exact me12 | with_reducible exact me13 | with_reducible exact me14 | with_reducible exact me15 | with_reducible exact me16 | with_reducible exact me17 | with_reducible exact me18 | with_reducible assumption | k_mem)
  k_with "mine ltall" => (((repeat ((with_reducible rename (∀ p ∈ _, Prod.fst p < _) => h7); replace h7 := allLt_of h7; simp only [AllLt, and_true] at h7))))
  k_with "mine kne" => ((refine neN ?_; (try dsimp only); first | with_reducible assumption | decide | exact Nat.ne_of_gt (by with_reducible assumption) | exact Nat.ne_of_lt (by with_reducible assumption) | exact ne_l (by with_reducible assumption) (by walk_at "mine me") | exact ne_r (by with_reducible assumption) (by walk_at "mine me") | exact ne_l2 (by with_reducible assumption) (by with_reducible assumption) (by walk_at "mine me") | exact ne_r2 (by with_reducible assumption) (by with_reducible assumption) (by walk_at "mine me") | exact ne_l1 (by with_reducible assumption) (by walk_at "mine me") | exact ne_r1 (by with_reducible assumption) (by walk_at "mine me") | exact ne_l11 (by with_reducible assumption) (by walk_at "mine me") | exact ne_r11 (by with_reducible assumption) (by walk_at "mine me") | exact ne_s1 | exact ne_s2 | exact ne_b1 (by with_reducible assumption) rfl | exact ne_b2 (by with_reducible assumption) rfl | exact Ne.symm (by with_reducible assumption) | (trace_state; walk_at "mine ltall"; omega)))
  k_with "mine sk" => (first | with_reducible exact sk0 | with_reducible exact sk1 | with_reducible exact sk2 | with_reducible exact sk3 | with_reducible exact sk4 | with_reducible exact sk5 | with_reducible exact sk6 | with_reducible exact sk7 | with_reducible exact sk8 | with_reducible exact sk9 | with_reducible exact sk10 | with_reducible exact sk11 | with_reducible exact sk12 | with_reducible exact sk13 | with_reducible exact sk14 | with_reducible exact sk15 | with_reducible exact sk16 | with_reducible exact sk17 | with_reducible exact sk18)
  k_with "mine kall" => (first | with_reducible assumption | exact all_l (by with_reducible assumption) (by walk_at "mine sk") | exact all_l2 (by with_reducible assumption) (by with_reducible assumption) (by walk_at "mine sk") | exact all_l1 (by with_reducible assumption) (by walk_at "mine sk") | exact all_l11 (by with_reducible assumption) (by walk_at "mine sk") | (with_reducible exact List.forall_mem_nil _) | (refine' List.forall_mem_cons.mpr ⟨?qza, ?qzb⟩; (case qza => k_ne); (case qzb => k_all)) | (trace_state; exact all_ne (by assumption) (by walk_at "mine ltall"; omega)))
  k_with "mine lt" => (first | with_reducible assumption | exact lt_t0 (by with_reducible assumption) (by walk_at "mine me") | exact lt_t1 (by with_reducible assumption) (by with_reducible assumption) (by walk_at "mine me") | exact lt_t2 (by with_reducible assumption) (by with_reducible assumption) (by with_reducible assumption) (by walk_at "mine me") | (trace_state; walk_at "mine ltall"; omega))
  trivial
theorem top_off_X7 : True := by
  w_top off
  trivial
theorem ktr_under (dp un : Nat) (gd : Option (List Code)) (cn : Str) (cs : Scope) (L a : Addr) (ccd : Value) (cl : List (Str × Addr)) (outer : List Env) (C : Addr) (vals : List Value) :
    (ktrTop dp un gd cn cs L a ccd cl outer).under (.builtin "type.__call__" ⟨.ref C :: vals, []⟩) = ktrTop (dp + 1) (un + (Code.builtin "type.__call__" ⟨.ref C :: vals, []⟩).cUnits) (pushGuards (Code.builtin "type.__call__" ⟨.ref C :: vals, []⟩).guards gd) cn cs L a ccd cl outer := rfl
theorem cUnits_le (C : Addr) (vals : List Value) : (Code.builtin "type.__call__" ⟨.ref C :: vals, []⟩).cUnits ≤ 20 := by
  exact Nat.le_of_ble_eq_true rfl
theorem exc_call_sp (w : World) (C : Addr) (msg : Str) (tm : Tok) (news : List (Addr × Obj)) (hC : C = 44 ∨ C = 56) :
    Spec 4 w C [.str msg tm] news (fun v nx => ∃ e dd t, v = .ref e ∧ nx = (e, excObj C dd t) :: news ∧ ∀ p ∈ news, p.1 ≠ e) := by
  intro p loose mean mg mb dp un gd cn cs a ccd cl outer A₀ base h₀ L m s Q E B F X N T hck hdp hun hret
  have hok : excOk (Mine.kept.heap_1 w.params) C = true := by (rcases hC with rfl | rfl); exact ok44 _; exact ok56 _
  have hin : findIn (Mine.kept.heap_1 w.params) (.ref C) "__init__" = some (some (.ref 28)) := by (rcases hC with rfl | rfl); exact init44 _; exact init56 _
  obtain ⟨nm, qn, N', bs, sn, sub, ab, col, dd, k0, k1, k2, k3, k5, hl⟩ := exc_of hok
  obtain ⟨hp, g, d, tk, os⟩ := s
  refine call_own PySem.F.excBase_Exception (tail_B C) (tail_A C) (tail_N C) (X.keeps F.keep) (X.keeps F.keep _ _ hl) hin (fn28 _) (fun h' e hm => ?_) (by rw [sizeLine_eq]; exact Nat.le_of_ble_eq_true rfl)
  obtain ⟨t, he, htn, ht⟩ := hm.there
  have F' := F.keeps hm.keeps
  have hfr : h₀.get? e = none := by
    cases q : h₀.get? e with
    | none => rfl
    | some o => have := F.keep _ _ q; rw [hm.new] at this; cases this
  have N₁ := News.more F' (N.grown hm.keeps) he (fun es n q => by cases q) hfr
  have hne : ∀ p ∈ news, p.1 ≠ e := fun p hp q => by have := (N p hp).1; rw [q] at this; rw [hm.new] at this; cases this
  rw [ktr_under]
  have hcu := cUnits_le C [.str msg tm]
  refine init_sp w e t C msg tm news hC hne p loose mean mg mb _ _ _ cn cs a ccd cl outer A₀ base h₀ L m ⟨h', g, d, tk, os⟩ _ E B F' X N₁ T hck (by omega) (by omega) fun v nx h'' tk' F'' N'' hR => ?_
  obtain ⟨rfl, dd', t2, rfl⟩ := hR
  exact ⟨rfl, hret _ _ _ _ F'' N'' ⟨e, dd', t2, rfl, rfl, hne⟩⟩
def RaiseEnd (K : Frag) (C : Addr) (E : Value → Shared → Prop) (v : Value) (s₁ : Shared) : Prop :=
  ∃ e dd t, v = .ref e ∧ K.In s₁.heap ∧ s₁.heap.get? e = some (excObj C dd t) ∧ E (.ref e) s₁
theorem RaiseEnd.intro {K : Frag} {C e t : Addr} {dd : Option Addr} {E : Value → Shared → Prop} {s₁ : Shared} {h₀ : Heap} {L : Addr} {m : Str → Option Value} {news : List (Addr × Obj)}
    (F : Fr h₀ L s₁.heap m) (X : K.In h₀) (N : News h₀ L s₁.heap ((e, excObj C dd t) :: news)) (h : E (.ref e) s₁) : RaiseEnd K C E (.ref e) s₁ :=
  ⟨e, dd, t, rfl, X.keeps F.keep, (N _ List.mem_cons_self).1, h⟩
section
variable {M : Model} {A : Around} {E : Value → Shared → Prop} {s : Shared} {env : Env} {K : Frag} {C : Addr} {pos : Pos} {Q : Flow → Shared → Prop}
theorem raise_stmt {x : Sem Value} (q : excOk K C = true) (hh : A.handled = none) (h : wpAny M A x (RaiseEnd K C E) E s) : wpAny M A (raiseStmt env (some x) none) Q E s := by
  unfold raiseStmt
  refine wpAny_bind (wpAny_mono h (fun v s₁ h₁ => ?_) fun _ _ x => x)
  obtain ⟨e, dd, t, rfl, X, he, hE⟩ := h₁
  obtain ⟨nm, qn, N', bs, sn, sub, ab, col, dd', k0, k1, k2, k3, k5, hl⟩ := exc_of q
  have hC := X _ _ hl
  have hcB := tail_BB C
  obtain ⟨hp, g, d, tk, os⟩ := s₁
  repeat (first | with_reducible refine wpAny_loadPart_at he ?_ | with_reducible refine wpAny_loadPart_at hC ?_ | (with_reducible refine wpAny_isSubtype_exc hC ?_; rw [hcB]) | wp_step)
  exact wpAny_raiseNew_none hh hE
theorem raise_mine {x : Expr} (q : excOk K C = true) (hh : A.handled = none) (h : wpAny M A (eval x env) (RaiseEnd K C E) E s) :
    wpAny M A (exec (.Raise (some x) none pos) env) Q E s := by
  rw [arm_exec_Raise]
  first
    | exact wpAny_bind (wpAny_standAt (raise_stmt q hh (wpAny_bind (wpAny_mono h (fun v s₁ h₁ => wpAny_bind (wpAny_standAt (wpAny_pure h₁))) fun _ _ x => x))))
    | (simp only [evalOpt, Option.map]; exact wpAny_bind (wpAny_standAt (raise_stmt q hh (wpAny_bind (wpAny_mono h (fun v s₁ h₁ => wpAny_bind (wpAny_standAt (wpAny_pure h₁))) fun _ _ x => x)))))
end
/-- an exception of class C on its way, up to the frames' slots -/
theorem frames_mem {env : Env} {L b : Addr} {outer : List Env} (hf : env.frame = some L) (hm : b ∈ (env :: outer).filterMap (·.frame)) : b = L ∨ b ∈ outer.filterMap (·.frame) := by
  obtain ⟨env', he, hf'⟩ := List.mem_filterMap.mp hm
  rcases List.mem_cons.mp he with rfl | he
  · exact .inl (Option.some.inj (hf'.symm.trans hf))
  · exact .inr (List.mem_filterMap.mpr ⟨env', he, hf'⟩)
section
variable {M : Model} {A : Around} {E : Value → Shared → Prop} {s' : Shared} {base g g₂ : Heap} {outer : List Env} {L e t C : Addr} {dd : Option Addr} {m : Str → Option Value} {env : Env} {Q : Unit → Shared → Prop} {news : List (Addr × Obj)}
theorem leave_mine (K : Below A base outer g) (F : Fr g L s'.heap m) (N : News g L s'.heap ((e, excObj C dd t) :: news)) (hne : ∀ p ∈ news, p.1 ≠ e) (hf : env.frame = some L) (hk : env.scope.kind = .function)
    (hQ : ∀ h', RaisedSN base g outer e (.ref C) news h' → g.UpToSlots h' → Q () { s' with heap := h' }) :
    wpAny M (A.deeper env) (leaving env (.ref e)) Q E s' := by
  have K' := pushX K F hf hk
  have he := N _ List.mem_cons_self
  have hen : e ∉ (env :: outer).filterMap (·.frame) := fun hm => by
    rcases frames_mem hf hm with z | z
    · exact he.2.1 z
    · obtain ⟨o, ho, _⟩ := (K.frames.mem z).2
      rw [he.2.2] at ho; cases ho
  have hin : ∀ env' ∈ (env :: outer), ∀ b, env'.frame = some b → b ∈ (e :: (env :: outer).filterMap (·.frame)) := fun env' he' b hb => List.mem_cons_of_mem _ (List.mem_filterMap.mpr ⟨env', he', hb⟩)
  have be : base.get? e = none := fresh_of_stays K.stays he.2.2
  have st : base.StaysIn (hideAll s'.heap (e :: (env :: outer).filterMap (·.frame))) := fun b o q => hideAll_get _ (K'.stays b o q) fun hm => by
    rcases List.mem_cons.mp hm with rfl | hm
    · rw [be] at q; cases q
    · rw [(K'.frames.mem hm).1] at q; cases q
  have sg : ∀ b o, g.get? b = some o → b ∉ outer.filterMap (·.frame) → (hideAll s'.heap (e :: (env :: outer).filterMap (·.frame))).get? b = some o := fun b o q nm => hideAll_get _ (F.keep b o q) fun hm => by
    rcases List.mem_cons.mp hm with rfl | hm
    · rw [he.2.2] at q; cases q
    · rcases frames_mem hf hm with z | z
      · rw [z, kts_self F] at q; cases q
      · exact nm z
  have hl : ∀ q ∈ news, (hideAll s'.heap (e :: (env :: outer).filterMap (·.frame))).get? q.1 = some q.2 ∧ g.get? q.1 = none ∧ base.get? q.1 = none := fun q hq => by
    have nq := N q (List.mem_cons_of_mem _ hq)
    refine ⟨hideAll_get _ nq.1 fun hm => ?_, nq.2.2, fresh_of_stays K.stays nq.2.2⟩
    rcases List.mem_cons.mp hm with z | hm
    · exact hne q hq z
    · rcases frames_mem hf hm with z | z
      · exact nq.2.1 z
      · obtain ⟨o, ho, _⟩ := (K.frames.mem z).2
        rw [nq.2.2] at ho; cases ho
  refine wpAny_leaving_firstW (a0 := .ref t) K'.stack (funFrames_hide K'.frames hin) hf he.1 (fun b o hb => of_hideAll _ hb) (hideAll_none _ List.mem_cons_self) rfl rfl rfl fun h' hL => ?_
  obtain ⟨k1, ⟨_, _, k2⟩, k3, k4⟩ := hL
  exact hQ h' ⟨_, .ref t, st, sg, hl, k1, hideAll_none _ List.mem_cons_self, k2, k3⟩ ((Heap.UpToSlots.of_keeps F.keep).trans k4)
theorem leave_mineOn {cls : Value} (K : Below A base outer g) (F : Fr g L g₂ m) (R : RaisedSN base g₂ (env :: outer) e cls news s'.heap) (hsm : g₂.UpToSlots s'.heap) (hf : env.frame = some L)
    (hQ : ∀ h', RaisedSN base g outer e cls news h' → g.UpToSlots h' → Q () { s' with heap := h' }) :
    wpAny M (A.deeper env) (leaving env (.ref e)) Q E s' := by
  obtain ⟨B, a0, hB, hBG, hl, hfl⟩ := R
  exact wpAny_leaves_onW (Around.frames_deeper K.stack) hf hfl fun h' x1 x2 =>
    hQ h' ⟨B, a0, hB, fun b o q nm => hBG b o (F.keep b o q) (fun hm => by
      rcases frames_mem hf hm with z | z
      · rw [z, kts_self F] at q; cases q
      · exact nm z), fun q hq => ⟨(hl q hq).1, kts_none F.keep (hl q hq).2.1, (hl q hq).2.2⟩, x1⟩ ((Heap.UpToSlots.of_keeps F.keep).trans (hsm.trans x2))
end
theorem top_off_X6 : True := by
  w_top off
  trivial
def SpecE (lv : Nat) (w : World) (f : Addr) (vs : List Value) (news : List (Addr × Obj)) (C : Addr) : Prop :=
  ∀ (p : Program) (loose : List Str) (mean : ExcName → Option Value) (mg mb : Str → Option Value) (dp un : Nat) (gd : Option (List Code)) (cn : Str) (cs : Scope) (a : Addr) (ccd : Value) (cl : List (Str × Addr)) (outer : List Env) (A₀ : Around) (base h₀ : Heap) (L : Addr) (m : Str → Option Value) (s : Shared) (Q E : Value → Shared → Prop),
  Below A₀ base outer h₀ → Fr h₀ L s.heap m → (Mine.kept.heap_1 w.params).In h₀ → News h₀ L s.heap news →
  Top p loose mean mg mb h₀ → cs.kind = .function →
  dp + lv < recursionLimit → un + 20 * lv < cLine →
  (∀ (e : Addr) (G h' : Heap) (tk' : Nat), Fr h₀ L G m → RaisedSN base G (envX cn cs L a ccd cl :: outer) e (.ref C) news h' → G.UpToSlots h' → E (.ref e) { s with heap := h', toks := tk' }) →
  wpAny (model PySem.Challenge.rw_pf0387_01.row.prog w) (ktrTop dp un gd cn cs L a ccd cl outer) (call (.ref f) vs) Q E s
theorem raise56 {P : Params} {h₀ : Heap} {M : Model} {A : Around} {E : Value → Shared → Prop} {s : Shared} {env : Env} {pos : Pos} {Q : Flow → Shared → Prop} {x : Expr} (_X : (Mine.kept.heap_1 P).In h₀) (hh : A.handled = none) (h : wpAny M A (eval x env) (RaiseEnd (Mine.kept.heap_1 P) 56 E) E s) :
    wpAny M A (exec (.Raise (some x) none pos) env) Q E s := raise_mine (ok56 P) hh h
theorem raise44 {P : Params} {h₀ : Heap} {M : Model} {A : Around} {E : Value → Shared → Prop} {s : Shared} {env : Env} {pos : Pos} {Q : Flow → Shared → Prop} {x : Expr} (_X : (Mine.kept.heap_1 P).In h₀) (hh : A.handled = none) (h : wpAny M A (eval x env) (RaiseEnd (Mine.kept.heap_1 P) 44 E) E s) :
    wpAny M A (exec (.Raise (some x) none pos) env) Q E s := raise_mine (ok44 P) hh h
theorem kwp_X6_1 : True := by
  k_with "exec Raise some none" => ((k_here; (with_reducible show wpAny _ _ (exec (Stmt.Raise (some (Expr.Call (Expr.Name ("SizeError" : Str) _) _ [] _)) none _) _) _ _ _); refine' raise56 ?k1 ?k2 ?_; (case k1 => k_asm); (case k2 => k_dflt (exact rfl))))
  k_with "exec Raise some none" => ((k_here; (with_reducible show wpAny _ _ (exec (Stmt.Raise (some (Expr.Call (Expr.Name ("FormError" : Str) _) _ [] _)) none _) _) _ _ _); refine' raise44 ?k1 ?k2 ?_; (case k1 => k_asm); (case k2 => k_dflt (exact rfl))))
  k_with "call ref" => ((k_here; (first | (with_reducible show wpAny _ _ (call (Value.ref 56) [Value.str _ _]) _ _ _) | (with_reducible show wpAny _ _ (call (Value.ref 44) [Value.str _ _]) _ _ _)); k_dflt (refine' exc_call_sp _ _ _ _ _ ?qzhC _ _ _ _ _ _ _ _ _ _ _ _ _ _ _ _ _ _ _ _ _ _ ?k1 ?k2 ?k3 ?k4 ?k5 ?kK ?kd ?ku ?_; (case qzhC => decide); walk_at "mine side"); intro v9 nx9 h9 tk9 F9 N9 r9; obtain ⟨e9, d9, t9, q9, f9, n9⟩ := r9; subst q9; subst f9; (try dsimp only); (try k_fold)))
  k_with "RaiseEnd" => ((k_here; refine' RaiseEnd.intro ?k1 ?k2 ?k3 ?_; (case k1 => k_asm); (case k2 => k_asm); (case k3 => k_asm); (try dsimp only)))
  k_with "leaving ref" => ((k_here; refine' leave_mine ?k1 ?k2 ?k3 ?k4 ?k5 ?qzk6 ?_; (case k1 => k_asm); (case k2 => k_asm); (case k3 => k_asm); (case k4 => assumption); (case k5 => k_dflt (exact rfl)); (case qzk6 => k_dflt (exact rfl)); intro h' R' U'; (try dsimp only)))
  trivial
theorem ge_word {n : Int} {k : Int} {c : Int} (hx : n < 1 * 2 ^ (8 * k).toNat) (h : c ≤ n) (e : (1 : Int) * 2 ^ (8 * k).toNat = c) : False := Int.not_lt.mpr h (e ▸ hx)
theorem raised_end {base G : Heap} {l : List Env} {e : Addr} {cls : Value} {news news' : List (Addr × Obj)} {h₀ h' : Heap} {L : Addr} {m : Str → Option Value} {tk : Tok} {P : Addr → Heap → Tok → Prop}
    (hret : ∀ (e : Addr) (G h' : Heap) (tk' : Nat), Fr h₀ L G m → RaisedSN base G l e cls news h' → G.UpToSlots h' → P e h' tk') (F : Fr h₀ L G m) (R : RaisedSN base G l e cls news' h') (U : G.UpToSlots h') (hs : ∀ q ∈ news, q ∈ news') : P e h' tk := by
  obtain ⟨B, a0, hB, hBG, hl, hfl⟩ := R
  exact hret e G h' tk F ⟨B, a0, hB, hBG, fun q hq => hl q (hs q hq), hfl⟩ U
theorem kwp_X6_2 : True := by
  k_with "exec Return some" => ((exact (ge_word (by assumption) (by assumption) (by decide)).elim))
  trivial
set_option maxHeartbeats 400000 in
theorem put1_raise (w : World) (n : Int) (t t2 : Tok) (h1 : 256 ≤ n) (news : List (Addr × Obj)) :
   SpecE 5 w 170 [.int n t, .int 1 t2] news 56 := by
  unfold SpecE
  k_fill
  intro p loose mean mg mb dp un gd cn cs a ccd cl outer A₀ base h₀ L m s Q E B F X N T hck hdp hun hret
  walk_at "mine enter"
  k_steps
  all_goals exact raised_end hret (by assumption) (by assumption) (by assumption) (by intro q9 hq9; (repeat (first | exact hq9 | refine List.mem_cons_of_mem _ ?_)))
theorem kw_8 : True := by
  k_with_none
  k_with "mine kenter" => (k_dflt (first
  | (refine' code_def ?k1 ?k2 ?k3 ?k4 ?k5 ?qzkA ?qzkF ?kK ?qzk6 ?qzk7 ?qzk8 ?qzk9 ?qzkB ?_ ?qzc2 ?qzc3 ?qzc4 ?qzc5; (case qzkA => exact rfl); (case qzkF => exact rfl); (case kK => assumption); (case k1 => k_asm); (case k2 => k_asm); (case k3 => k_asm); (case k4 => k_asm); (case k5 => k_asm); (case qzk6 => k_is); (case qzk7 => k_is); (case qzk8 => ktr_room); (case qzk9 => first | exact BindsTo.of_eq rfl | exact binds_K (by k_in) rfl (by k_is) rfl rfl rfl); (case qzc5 => decide); (case qzkB => exact locs rfl); (case qzc2 => exact rfl); (case qzc3 => exact rfl); (case qzc4 => exact rfl); k_whole; intro g' L' h' FG' F' N' B' X' T'; (try dsimp only); (try k_lift B'); (try k_fold))
  | (refine' code_defC ?k1 ?k2 ?k3 ?k4 ?k5 ?qzkA ?qzkF ?kK ?qzk6 ?qzk7 ?qzk8 ?qzk9 ?qzkB ?qzkD ?_ ?qzc2 ?qzc3 ?qzc4; (case qzkA => exact rfl); (case qzkF => exact rfl); (case kK => assumption); (case k1 => k_asm); (case k2 => k_asm); (case k3 => k_asm); (case k4 => k_asm); (case k5 => k_asm); (case qzk6 => k_is); (case qzk7 => k_is); (case qzk8 => ktr_room); (case qzk9 => first | exact BindsTo.of_eq rfl | exact binds_K (by k_in) rfl (by k_is) rfl rfl rfl); (case qzkB => exact rfl); (case qzkD => decide +kernel); (case qzc2 => exact rfl); (case qzc3 => exact rfl); (case qzc4 => exact rfl); k_whole; intro g' L' h' tk' cells' FG' F' N' Y' B' X' T' l1; (try k_lt l1); k_cells Y'; (try simp only [List.cons_append, List.nil_append] at N'); (try dsimp only); (try k_lift B'); (try k_fold))))
  k_with "mine enter" => ((refine wpAny_call ?_; k_dflt (first
  | (refine' code_def ?k1 ?k2 ?k3 ?k4 ?k5 ?qzkA ?qzkF ?kK ?qzk6 ?qzk7 ?qzk8 ?qzk9 ?qzkB ?_ ?qzc2 ?qzc3 ?qzc4 ?qzc5; (case qzkA => exact rfl); (case qzkF => exact rfl); (case kK => assumption); (case k1 => k_asm); (case k2 => k_asm); (case k3 => k_asm); (case k4 => k_asm); (case k5 => k_asm); (case qzk6 => k_is); (case qzk7 => k_is); (case qzk8 => ktr_room); (case qzk9 => first | exact BindsTo.of_eq rfl | exact binds_K (by k_in) rfl (by k_is) rfl rfl rfl); (case qzc5 => decide); (case qzkB => exact locs rfl); (case qzc2 => exact rfl); (case qzc3 => exact rfl); (case qzc4 => exact rfl); k_whole; intro g' L' h' FG' F' N' B' X' T'; (try dsimp only); (try k_lift B'); (try k_fold))
  | (refine' code_defC ?k1 ?k2 ?k3 ?k4 ?k5 ?qzkA ?qzkF ?kK ?qzk6 ?qzk7 ?qzk8 ?qzk9 ?qzkB ?qzkD ?_ ?qzc2 ?qzc3 ?qzc4; (case qzkA => exact rfl); (case qzkF => exact rfl); (case kK => assumption); (case k1 => k_asm); (case k2 => k_asm); (case k3 => k_asm); (case k4 => k_asm); (case k5 => k_asm); (case qzk6 => k_is); (case qzk7 => k_is); (case qzk8 => ktr_room); (case qzk9 => first | exact BindsTo.of_eq rfl | exact binds_K (by k_in) rfl (by k_is) rfl rfl rfl); (case qzkB => exact rfl); (case qzkD => decide +kernel); (case qzc2 => exact rfl); (case qzc3 => exact rfl); (case qzc4 => exact rfl); k_whole; intro g' L' h' tk' cells' FG' F' N' Y' B' X' T' l1; (try k_lt l1); k_cells Y'; (try simp only [List.cons_append, List.nil_append] at N'); (try dsimp only); (try k_lift B'); (try k_fold)))))
  k_with "mine side" => (((case k1 => k_asm); (case k2 => k_asm); (case k3 => k_asm); (case k4 => k_asm); (case k5 => k_asm); (case kK => first | exact rfl | assumption); (case kd => ktr_room); (case ku => ktr_units)))
  k_with "mine kbabound" => (((try dsimp only); first | exact and255_lo _ | exact and255_hi _))
  k_with "mine news" => (first | k_asm | (refine cb_drop (by assumption) ?_; intro p9 hp9; (repeat (first | exact hp9 | refine List.mem_cons_of_mem _ ?_))))
  k_with "mine room" => (((with_reducible rename @LT.lt Nat _ (_ + _) recursionLimit => hq9); k_dflt (first | exact room_1 hq9 (by exact rfl) | exact room_j hq9 (by exact rfl) | exact room_0 hq9)))
  k_with "mine units" => (((with_reducible rename @LT.lt Nat _ (_ + _) cLine => hq9); k_dflt (first | exact units_1 hq9 (by exact rfl) | exact units_j hq9 (by exact rfl))))
  k_with "mine me" => (first | with_reducible exact me0 | with_reducible exact me1 | with_reducible exact me2 | with_reducible exact me3 | with_reducible exact me4 | with_reducible exact me5 | with_reducible exact me6 | with_reducible exact me7 | with_reducible exact me8 | with_reducible exact me9 | with_reducible exact me10 | with_reducible exact me11 | with_reducible exact me12 | with_reducible exact me13 | with_reducible exact me14 | with_reducible exact me15 | with_reducible exact me16 | with_reducible exact me17 | with_reducible exact me18 | with_reducible assumption | k_mem)
  k_with "mine ltall" => (((repeat ((with_reducible rename (∀ p ∈ _, Prod.fst p < _) => h7); replace h7 := allLt_of h7; simp only [AllLt, and_true] at h7))))
  k_with "mine kne" => ((refine neN ?_; (try dsimp only); first | with_reducible assumption | decide | exact Nat.ne_of_gt (by with_reducible assumption) | exact Nat.ne_of_lt (by with_reducible assumption) | exact ne_l (by with_reducible assumption) (by walk_at "mine me") | exact ne_r (by with_reducible assumption) (by walk_at "mine me") | exact ne_l2 (by with_reducible assumption) (by with_reducible assumption) (by walk_at "mine me") | exact ne_r2 (by with_reducible assumption) (by with_reducible assumption) (by walk_at "mine me") | exact ne_l1 (by with_reducible assumption) (by walk_at "mine me") | exact ne_r1 (by with_reducible assumption) (by walk_at "mine me") | exact ne_l11 (by with_reducible assumption) (by walk_at "mine me") | exact ne_r11 (by with_reducible assumption) (by walk_at "mine me") | exact ne_s1 | exact ne_s2 | exact ne_b1 (by with_reducible assumption) rfl | exact ne_b2 (by with_reducible assumption) rfl | exact Ne.symm (by with_reducible assumption) | (trace_state; walk_at "mine ltall"; omega)))
  k_with "mine sk" => (first | with_reducible exact sk0 | with_reducible exact sk1 | with_reducible exact sk2 | with_reducible exact sk3 | with_reducible exact sk4 | with_reducible exact sk5 | with_reducible exact sk6 | with_reducible exact sk7 | with_reducible exact sk8 | with_reducible exact sk9 | with_reducible exact sk10 | with_reducible exact sk11 | with_reducible exact sk12 | with_reducible exact sk13 | with_reducible exact sk14 | with_reducible exact sk15 | with_reducible exact sk16 | with_reducible exact sk17 | with_reducible exact sk18)
  k_with "mine kall" => (first | with_reducible assumption | exact all_l (by with_reducible assumption) (by walk_at "mine sk") | exact all_l2 (by with_reducible assumption) (by with_reducible assumption) (by walk_at "mine sk") | exact all_l1 (by with_reducible assumption) (by walk_at "mine sk") | exact all_l11 (by with_reducible assumption) (by walk_at "mine sk") | (with_reducible exact List.forall_mem_nil _) | (refine' List.forall_mem_cons.mpr ⟨?qza, ?qzb⟩; (case qza => k_ne); (case qzb => k_all)) | (trace_state; exact all_ne (by assumption) (by walk_at "mine ltall"; omega)))
  k_with "mine lt" => (first | with_reducible assumption | exact lt_t0 (by with_reducible assumption) (by walk_at "mine me") | exact lt_t1 (by with_reducible assumption) (by with_reducible assumption) (by walk_at "mine me") | exact lt_t2 (by with_reducible assumption) (by with_reducible assumption) (by with_reducible assumption) (by walk_at "mine me") | (trace_state; walk_at "mine ltall"; omega))
  trivial
theorem top_off_BY : True := by
  w_top off
  trivial
theorem by_look_bytes : typeLookup (.type "bytes") "__bytes__" = pure (some (.builtin "bytes.__bytes__")) := by rw [typeLookup_type, builtinLookup_eq_fast]; kernel_rfl
theorem by_look_int : typeLookup (.type "int") "__bytes__" = pure none := by rw [typeLookup_type, builtinLookup_eq_fast]; kernel_rfl
section
variable {prog : Program} {w : World} {A : Around} {E : Value → Shared → Prop} {s : Shared}
theorem by_new_bytes {b : Array UInt8} {t : Tok} {Q : Value → Shared → Prop} (hQ : Q (.bytes b t) s) :
    codeAny (model prog w) A (.call (.builtin "bytes.__new__") ⟨[.type "bytes", .bytes b t], []⟩) (wants Q E) s := by
  refine codeAny_of_tree ?_
  show wpAny _ A.in1 (do checkBuiltinCall "bytes.__new__" ⟨[.type "bytes", .bytes b t], []⟩; again (.builtin "bytes.__new__" ⟨[.type "bytes", .bytes b t], []⟩)) _ _ s
  refine wpAny_bind (wpAny_of_eq (F.bm_newCall _) (wpAny_pure ⟨plainId_quiet F.bm_plain _, codeAny_builtin F.bm_entry ?_⟩))
  rw [Around.under_plainId F.bm_plain _]
  have hT : s.TypeIs (.bytes b t) "bytes" := PySem.W.typeIs_bytes _ _ _
  unfold Builtin.«bytes.__new__»
  refine wpAny_bind (wpAny_of_eq (a := true) rfl ?_)
  refine bm_if_false rfl ?_
  refine wpAny_bind (wpAny_of_eq F.bm_sub ?_)
  refine bm_if_false rfl ?_
  refine wpAny_bind (wpAny_of_eq (F.bm_bind _) ?_)
  refine wpAny_bind (wpAny_of_eq (a := ()) rfl ?_)
  refine wpAny_bind (wpAny_of_eq (a := ()) rfl ?_)
  refine bm_if_false rfl ?_
  refine wpAny_bind (wpAny_specialOf hT by_look_bytes ?_)
  refine wpAny_bind (wpAny_rule ?_)
  refine wpAny_bind (wpAny_typeOf hT ?_)
  refine bm_if_true (by decide) ?_
  show wpAny _ _ (if (Value.type "bytes" == Value.type "bytes") = true then _ else _) _ _ _
  refine bm_if_true (by decide) ?_
  first
    | exact wpAny_pure hQ
    | exact wpAny_bind (wpAny_pure (wpAny_pure hQ))
theorem call_bytes_bytes {b : Array UInt8} {t : Tok} {Q : Value → Shared → Prop} (hQ : Q (.bytes b t) s) : wpAny (model prog w) A (call (.type "bytes") [.bytes b t]) Q E s := by
  refine callType_codes (Q₁ := fun obj s₁ => s₁.TypeIs obj "bytes" ∧ Q obj s₁) F.bm_called (F.bm_typeCall _) F.entry_object_init
    (by_new_bytes ⟨PySem.W.typeIs_bytes _ _ _, hQ⟩) fun obj s₁ h₁ => ?_
  exact ⟨h₁.1, F.args_object_init_2 obj _, object_init_meets F.bm_called.init.lookup F.bm_called.made (by decide) prog w A.in1 _ s₁ ⟨h₁.1, rfl, h₁.2⟩⟩
theorem by_new_count {n : Int} {t : Tok} {Q : Value → Shared → Prop} (h0 : 0 ≤ n) (h1 : n ≤ 16777216) (hQ : ∀ u k, Q (.bytes (Array.replicate n.toNat 0) u) { s with toks := k }) :
    codeAny (model prog w) A (.call (.builtin "bytes.__new__") ⟨[.type "bytes", .int n t], []⟩) (wants Q E) s := by
  refine codeAny_of_tree ?_
  show wpAny _ A.in1 (do checkBuiltinCall "bytes.__new__" ⟨[.type "bytes", .int n t], []⟩; again (.builtin "bytes.__new__" ⟨[.type "bytes", .int n t], []⟩)) _ _ s
  refine wpAny_bind (wpAny_of_eq (F.bm_newCall _) (wpAny_pure ⟨plainId_quiet F.bm_plain _, codeAny_builtin F.bm_entry ?_⟩))
  rw [Around.under_plainId F.bm_plain _]
  have hT : s.TypeIs (.int n t) "int" := by first | exact rfl | exact PySem.W.typeIs_int _ _ _
  unfold Builtin.«bytes.__new__»
  refine wpAny_bind (wpAny_of_eq (a := true) rfl ?_)
  refine bm_if_false rfl ?_
  refine wpAny_bind (wpAny_of_eq F.bm_sub ?_)
  refine bm_if_false rfl ?_
  refine wpAny_bind (wpAny_of_eq (F.bm_bind _) ?_)
  refine wpAny_bind (wpAny_of_eq (a := ()) rfl ?_)
  refine wpAny_bind (wpAny_of_eq (a := ()) rfl ?_)
  refine bm_if_false rfl ?_
  refine wpAny_bind (wpAny_specialOf hT by_look_int ?_)
  refine wpAny_bind (wpAny_of_eq (a := false) rfl ?_)
  refine bm_if_false rfl ?_
  refine wpAny_bind (wpAny_specialOf hT int_index ?_)
  refine bm_if_false rfl ?_
  refine wpAny_bind (wpAny_attempt (wpAny_of_eq (rfl : asIndex (.int n t) = pure n) ?_))
  dsimp only
  refine bm_if_false (by simp [Builtin.Bytes.fitsIndex]; omega) ?_
  rw [if_neg (by omega), if_neg (by omega)]
  refine bm_if_false (by simp [Builtin.Bytes.tooLong, sizeLine_eq]; omega) ?_
  refine wpAny_bind (wpAny_rule ?_)
  refine wpAny_bind (wpAny_mkBytes ?_ (by rw [sizeLine_eq, Array.size_replicate]; omega))
  show wpAny _ _ (if (Value.type "bytes" == Value.type "bytes") = true then _ else _) _ _ _
  refine bm_if_true (by decide) ?_
  first
    | exact wpAny_pure (hQ _ _)
    | exact wpAny_bind (wpAny_pure (wpAny_pure (hQ _ _)))
theorem call_bytes_count {n : Int} {t : Tok} {Q : Value → Shared → Prop} (h0 : 0 ≤ n) (h1 : n ≤ 16777216) (hQ : ∀ u k, Q (.bytes (Array.replicate n.toNat 0) u) { s with toks := k }) : wpAny (model prog w) A (call (.type "bytes") [.int n t]) Q E s := by
  refine callType_codes (Q₁ := fun obj s₁ => s₁.TypeIs obj "bytes" ∧ Q obj s₁) F.bm_called (F.bm_typeCall _) F.entry_object_init
    (by_new_count h0 h1 fun u k => ⟨PySem.W.typeIs_bytes _ _ _, hQ u k⟩) fun obj s₁ h₁ => ?_
  exact ⟨h₁.1, F.args_object_init_2 obj _, object_init_meets F.bm_called.init.lookup F.bm_called.made (by decide) prog w A.in1 _ s₁ ⟨h₁.1, rfl, h₁.2⟩⟩
end
theorem top_off_L1 : True := by
  w_top off
  trivial
theorem kw_9 : True := by
  k_with "exec Raise some none" => ((k_here; (with_reducible show wpAny _ _ (exec (Stmt.Raise (some (Expr.Call (Expr.Name ("SizeError" : Str) _) _ [] _)) none _) _) _ _ _); refine' raise56 ?k1 ?k2 ?_; (case k1 => k_asm); (case k2 => k_dflt (exact rfl))))
  k_with "exec Raise some none" => ((k_here; (with_reducible show wpAny _ _ (exec (Stmt.Raise (some (Expr.Call (Expr.Name ("FormError" : Str) _) _ [] _)) none _) _) _ _ _); refine' raise44 ?k1 ?k2 ?_; (case k1 => k_asm); (case k2 => k_dflt (exact rfl))))
  k_with "call ref" => ((k_here; (first | (with_reducible show wpAny _ _ (call (Value.ref 56) [Value.str _ _]) _ _ _) | (with_reducible show wpAny _ _ (call (Value.ref 44) [Value.str _ _]) _ _ _)); k_dflt (refine' exc_call_sp _ _ _ _ _ ?qzhC _ _ _ _ _ _ _ _ _ _ _ _ _ _ _ _ _ _ _ _ _ _ ?k1 ?k2 ?k3 ?k4 ?k5 ?kK ?kd ?ku ?_; (case qzhC => decide); walk_at "mine side"); intro v9 nx9 h9 tk9 F9 N9 r9; obtain ⟨e9, d9, t9, q9, f9, n9⟩ := r9; subst q9; rw [f9] at N9; clear f9; (try dsimp only); (try k_fold)))
  k_with "RaiseEnd" => ((k_here; refine' RaiseEnd.intro ?k1 ?k2 ?k3 ?_; (case k1 => k_asm); (case k2 => k_asm); (case k3 => k_asm); (try dsimp only)))
  k_with "leaving ref" => ((k_here; refine' leave_mine ?k1 ?k2 ?k3 ?k4 ?k5 ?qzk6 ?_; (case k1 => k_asm); (case k2 => k_asm); (case k3 => k_asm); (case k4 => assumption); (case k5 => k_dflt (exact rfl)); (case qzk6 => k_dflt (exact rfl)); intro h' R' U'; (try dsimp only)))
  k_with "call type:bytes" => ((k_here; (with_reducible show wpAny _ _ (call (Value.type "bytes") [Value.bytes _ _]) _ _ _); with_reducible refine call_bytes_bytes ?_))
  k_with "call type:bytes" => ((k_here; (with_reducible show wpAny _ _ (call (Value.type "bytes") [Value.int _ _]) _ _ _); (refine' call_bytes_zeros ?k1 ?k2 ?_; (case k1 => omega); (case k2 => omega); intro c9 zs9 u9 k9 b9 z9 n9; (try dsimp only))))
  k_with "call type:bytes" => ((k_here; (with_reducible show wpAny _ _ (call (Value.type "bytes") [Value.ref _]) _ _ _); k_dflt (refine' KBa.make_K ?qzkbaF ?qzkbaN ?qzkbah ?qzkbal ?qzkbai ?qzkbar ?qzkban ?_; (case qzkbaF => k_asm); (case qzkbaN => k_asm); (case qzkbah => rfl); (case qzkbal => kba_isList); (case qzkbai => kba_listInts); (case qzkbar => walk_at "mine in"); (case qzkban => kba_size)); intro _ _ _ F' N' kbaIn))
  k_with "mine in" => (first | exact in_one (by omega) (by omega) | (refine in_cons (by omega) (by omega) ?_; walk_at "mine in"; done) | exact in_nil | kba_in)
  k_with "mine sub" => ((repeat (first | exact sub_refl | refine sub_keep ?_ | refine sub_skip ?_)))
  k_with "mine raised" => (first | (intro q9 hq9; (repeat (first | exact hq9 | refine List.mem_cons_of_mem _ ?_)); done) | (walk_at "mine sub"; done))
  k_with "mine news" => (first | k_asm | (refine cb_drop (by assumption) ?_; first | (intro p9 hp9; (repeat (first | exact hp9 | refine List.mem_cons_of_mem _ ?_)); done) | (walk_at "mine sub"; done)))
  k_with "mine absurd" => (first | (exfalso; omega) | (exfalso; (rename ((_ && _ : Bool) = _) => hx9); (simp only [Bool.and_eq_true, Bool.and_eq_false_iff, beq_iff_eq, beq_eq_false_iff_ne, ne_eq] at hx9); omega))
  k_with "compareOp In int ref" => ((k_here; (with_reducible show wpAny _ _ (compareOp CmpOp.In (Value.int _ _) (Value.ref 206)) _ _ _); first | (refine' in206_t ?k1 ?k2 ?k3 ?_; (case k1 => k_asm); (case k2 => k_asm); (case k3 => omega)) | (refine' in206_f ?k1 ?k2 ?k3 ?_; (case k1 => k_asm); (case k2 => k_asm); (case k3 => omega))))
  k_with "compareOp NotIn int ref" => ((k_here; (with_reducible show wpAny _ _ (compareOp CmpOp.NotIn (Value.int _ _) (Value.ref 206)) _ _ _); refine' notin206_t ?k1 ?k2 ?k3 ?_; (case k1 => k_asm); (case k2 => k_asm); (case k3 => omega)))
  k_with "mine mem" => (first | assumption | (refine List.forall_mem_cons.mpr ⟨by k_mem, List.forall_mem_cons.mpr ⟨by k_mem, List.forall_mem_nil _⟩⟩))
  k_with "getMethod bytes" => ((k_here; with_reducible refine join_method ?_))
  k_with "call builtin:bytes.join" => ((k_here; (with_reducible show wpAny _ _ (call (Value.builtin "bytes.join") [Value.bytes _ _, Value.ref _]) _ _ _); k_dflt (first | (refine' call_join0 ?k1 ?_; (case k1 => kba_isList); intro u9 k9; (have j9 := ints_nil)) | (refine' call_join1 ?k1 ?_; (case k1 => kba_isList)))))
  k_with "eval ListComp" => ((k_here; (with_reducible show wpAny _ _ (eval (Expr.ListComp _ [⟨Expr.Name _ _, Expr.Attribute _ _ _, [], 0⟩] _ _) _) _ _ _); k_dflt (refine listComp_tup (by k_asm) (by with_unfolding_all rfl) (by decide) (by rfl) (by decide) (by rfl) ?_)))
  k_with "TupSrc" => ((k_here; k_dflt (refine' TupSrc.intro ?k1 ?k2 ?k3 ?k4 ?k5 ?_; (case k1 => rfl); (case k2 => k_asm); (case k3 => k_asm); (case k4 => k_mem); (case k5 => exact Nat.le_of_ble_eq_true rfl); intro g'; first | (refine rest_nil rfl ?_) | (refine rest_one rfl (fun I' oI' C' oC' D' m' h' tk' E' hC' hx' F' N' off' ne' => ?_)))))
  k_with "CompEnd" => ((k_dflt (refine' LCg.CompEnd.intro ?k1 ?k2 _ ?k3 ?k4 ?k5 ?_; (case k1 => k_asm); (case k2 => k_asm); (case k3 => exact sub_refl); (case k4 => assumption); (case k5 => k_mem); (try dsimp only))))
  k_with "mine omega" => (first | omega | (simp only [List.length_append, List.length_cons, List.length_nil] <;> omega))
  trivial
theorem Spec.mem {lv : Nat} {w : World} {f : Addr} {vs : List Value} {front news : List (Addr × Obj)} {R : Value → Prop} (h : Spec lv w f vs (front ++ news) (fun v nx => R v ∧ nx = front ++ news)) (hm : ∀ p ∈ front, p ∈ news) :
    Spec lv w f vs news (fun v nx => R v ∧ nx = news) := by
  intro p loose mean mg mb dp un gd cn cs a ccd cl outer A₀ base h₀ L m s Q E B F X N T hck hdp hun hret
  have inn : ∀ q ∈ front ++ news, q ∈ news := fun q hq => (List.mem_append.mp hq).elim (hm q) (fun x => x)
  refine h p loose mean mg mb dp un gd cn cs a ccd cl outer A₀ base h₀ L m s Q E B F X (fun q hq => N q (inn q hq)) T hck hdp hun fun v nx h' tk' F' N' hR => ?_
  obtain ⟨r, rfl⟩ := hR
  exact hret _ _ _ _ F' (fun q hq => N' q (List.mem_append_right _ hq)) ⟨r, rfl⟩
theorem SpecE.mem {lv : Nat} {w : World} {f C : Addr} {vs : List Value} {front news : List (Addr × Obj)} (h : SpecE lv w f vs (front ++ news) C) (hm : ∀ p ∈ front, p ∈ news) : SpecE lv w f vs news C := by
  intro p loose mean mg mb dp un gd cn cs a ccd cl outer A₀ base h₀ L m s Q E B F X N T hck hdp hun hret
  have inn : ∀ q ∈ front ++ news, q ∈ news := fun q hq => (List.mem_append.mp hq).elim (hm q) (fun x => x)
  refine h p loose mean mg mb dp un gd cn cs a ccd cl outer A₀ base h₀ L m s Q E B F X (fun q hq => N q (inn q hq)) T hck hdp hun fun e G h' tk' F' R' U' => ?_
  obtain ⟨B₁, a0, hB, hBG, hl, hfl⟩ := R'
  exact hret e G h' tk' F' ⟨B₁, a0, hB, hBG, fun q hq => hl q (List.mem_append_right _ hq), hfl⟩ U'
def llcD (P : Params) (k1 k2 k3 k4 : Tok) (v1 v2 v3 v4 : Value) : List DictEntry :=
  [{ hash := PyData.keyHash P (Str.ofString "dsap"), key := .str (Str.ofString "dsap") k1, val := v1 }, { hash := PyData.keyHash P (Str.ofString "ssap"), key := .str (Str.ofString "ssap") k2, val := v2 },
   { hash := PyData.keyHash P (Str.ofString "control"), key := .str (Str.ofString "control") k3, val := v3 }, { hash := PyData.keyHash P (Str.ofString "payload"), key := .str (Str.ofString "payload") k4, val := v4 }]
set_option maxHeartbeats 400000 in
theorem llc_sp (w : World) (p' q' c : Int) (t1 t2 t3 tb : Tok) (b : Array UInt8) (news : List (Addr × Obj)) :
   Spec 3 w 334 [.int p' t1, .int q' t2, .int c t3, .bytes b tb] news (fun v nx => ∃ x d k1 k2 k3 k4, v = .ref x ∧ nx = (x, instObj 334 d) :: (d, dictOf (llcD w.params k1 k2 k3 k4 (.int p' t1) (.int q' t2) (.int c t3) (.bytes b tb)) 4) :: news ∧ (∀ p ∈ news, p.1 < d) ∧ d < x) := by
  unfold Spec
  k_fill
  intro p loose mean mg mb dp un gd cn cs a ccd cl outer A₀ base h₀ L m s Q E B F X N T hck hdp hun hret
  k_steps
  all_goals exact hret _ _ _ _ (by k_asm) (by k_asm) ⟨_, _, _, _, _, _, rfl, rfl, by assumption, by assumption⟩
theorem top_off_L2 : True := by
  w_top off
  trivial
theorem fd8 (c : Int) : c.fdiv (2 ^ (8 : Int).toNat) = c / 256 := Int.fdiv_eq_ediv_of_nonneg _ (by decide)
theorem short_t (w : World) (n : Int) (t : Tok) (h : n % 4 = 3) (news : List (Addr × Obj)) : Spec 2 w 345 [.int n t] news (fun v nx => v = .bool true ∧ nx = news) := by
  have e : decide (n % 4 = 3) = true := decide_eq_true h
  have := short_sp w n t news
  rwa [e] at this
theorem short_f (w : World) (n : Int) (t : Tok) (h : ¬ n % 4 = 3) (news : List (Addr × Obj)) : Spec 2 w 345 [.int n t] news (fun v nx => v = .bool false ∧ nx = news) := by
  have e : decide (n % 4 = 3) = false := decide_eq_false h
  have := short_sp w n t news
  rwa [e] at this
theorem in_one {n : Int} (h0 : 0 ≤ n) (h1 : n < 256) : KBa.In [n] := fun k hk => by rw [List.mem_singleton.mp hk]; exact ⟨h0, h1⟩
theorem top_off_L3 : True := by
  w_top off
  trivial
theorem kw_10 : True := by
  k_with "call ref" => ((k_here; (with_reducible show wpAny _ _ (call (Value.ref 160) [Value.bytes _ _]) _ _ _); k_dflt (first | (refine' crc_sp _ _ _ _ (by kba_ints) _ _ _ _ _ _ _ _ _ _ _ _ _ _ _ _ _ _ _ _ _ _ _ ?k1 ?k2 ?k3 ?k4 ?k5 ?kK ?kd ?ku ?_; walk_at "mine side"; refine o_0 ?_; intro t9 h9 tk9 F9 N9; (try dsimp only); (try k_fold)))))
  k_with "call ref" => ((k_here; (with_reducible show wpAny _ _ (call (Value.ref 170) [Value.int _ _, Value.int _ _]) _ _ _); k_dflt (first | (refine' put1_sp _ _ _ _ ?qzh0 ?qzh1 _ _ _ _ _ _ _ _ _ _ _ _ _ _ _ _ _ _ _ _ _ _ _ ?k1 ?k2 ?k3 ?k4 ?k5 ?kK ?kd ?ku ?_; (case qzh0 => walk_at "mine omega"); (case qzh1 => walk_at "mine omega"); walk_at "mine side"; refine o_1 ?_; intro c9 t9 h9 tk9 F9 N9 b9; (try dsimp only); (try k_fold)) | (refine' put1_raise _ _ _ _ ?qzh0 _ _ _ _ _ _ _ _ _ _ _ _ _ _ _ _ _ _ _ _ _ _ _ ?k1 ?k2 ?k3 ?k4 ?k5 ?kK ?kd ?ku ?_; (case qzh0 => walk_at "mine omega"); walk_at "mine side"; intro e9 G9 h9 tk9 F9 R9 U9; (try dsimp only)) | (refine' put2_sp _ _ _ _ ?qzh0 ?qzh1 _ _ _ _ _ _ _ _ _ _ _ _ _ _ _ _ _ _ _ _ _ _ _ ?k1 ?k2 ?k3 ?k4 ?k5 ?kK ?kd ?ku ?_; (case qzh0 => walk_at "mine omega"); (case qzh1 => walk_at "mine omega"); walk_at "mine side"; refine o_1 ?_; intro c9 t9 h9 tk9 F9 N9 b9; (try dsimp only); (try k_fold)) | (refine' put2_raise _ _ _ _ ?qzh0 _ _ _ _ _ _ _ _ _ _ _ _ _ _ _ _ _ _ _ _ _ _ _ ?k1 ?k2 ?k3 ?k4 ?k5 ?kK ?kd ?ku ?_; (case qzh0 => walk_at "mine omega"); walk_at "mine side"; intro e9 G9 h9 tk9 F9 R9 U9; (try dsimp only)) | (refine' put6_sp _ _ _ _ ?qzh0 ?qzh1 _ _ _ _ _ _ _ _ _ _ _ _ _ _ _ _ _ _ _ _ _ _ _ ?k1 ?k2 ?k3 ?k4 ?k5 ?kK ?kd ?ku ?_; (case qzh0 => walk_at "mine omega"); (case qzh1 => walk_at "mine omega"); walk_at "mine side"; refine o_1 ?_; intro c9 t9 h9 tk9 F9 N9 b9; (try dsimp only); (try k_fold)))))
  k_with "call ref" => ((k_here; (with_reducible show wpAny _ _ (call (Value.ref 177) [Value.bytes _ _, Value.int _ _, Value.int _ _]) _ _ _); k_dflt (first | (refine' get1v _ _ _ _ (by kba_ints) ?qzh0 _ _ _ ?qzh1 ?qzh2 _ _ _ _ _ _ _ _ _ _ _ _ _ _ _ _ _ _ _ _ _ _ _ ?k1 ?k2 ?k3 ?k4 ?k5 ?kK ?kd ?ku ?_; (case qzh0 => walk_at "mine omega"); (case qzh1 => walk_at "mine omega"); (case qzh2 => walk_at "mine omega"); walk_at "mine side"; refine o_2 ?_; intro t9 h9 tk9 F9 N9 lo9 hi9; (try dsimp only); (try k_fold)) | (refine' get3v _ _ _ _ (by kba_ints) ?qzh0 _ _ _ ?qzh1 ?qzh2 _ _ _ _ _ _ _ _ _ _ _ _ _ _ _ _ _ _ _ _ _ _ _ ?k1 ?k2 ?k3 ?k4 ?k5 ?kK ?kd ?ku ?_; (case qzh0 => walk_at "mine omega"); (case qzh1 => walk_at "mine omega"); (case qzh2 => walk_at "mine omega"); walk_at "mine side"; refine o_2 ?_; intro t9 h9 tk9 F9 N9 lo9 hi9; (try dsimp only); (try k_fold)) | (refine' get_sp _ _ _ _ (by kba_ints) ?qzh0 _ _ _ _ ?qzh1 ?qzh2 ?qzh3 ?qzh4 _ _ _ _ _ _ _ _ _ _ _ _ _ _ _ _ _ _ _ _ _ _ _ ?k1 ?k2 ?k3 ?k4 ?k5 ?kK ?kd ?ku ?_; (case qzh0 => walk_at "mine omega"); (case qzh1 => walk_at "mine omega"); (case qzh2 => walk_at "mine omega"); (case qzh3 => walk_at "mine omega"); (case qzh4 => walk_at "mine omega"); walk_at "mine side"; refine o_0 ?_; intro t9 h9 tk9 F9 N9; (try dsimp only); (try k_fold)) | (refine' get_raise _ _ _ _ (by kba_ints) ?qzh0 _ _ _ _ ?qzh1 ?qzh2 ?qzh3 ?qzh4 ?qzh5 _ _ _ _ _ _ _ _ _ _ _ _ _ _ _ _ _ _ _ _ _ _ _ ?k1 ?k2 ?k3 ?k4 ?k5 ?kK ?kd ?ku ?_; (case qzh0 => walk_at "mine omega"); (case qzh1 => walk_at "mine omega"); (case qzh2 => walk_at "mine omega"); (case qzh3 => walk_at "mine omega"); (case qzh4 => walk_at "mine omega"); (case qzh5 => walk_at "mine omega"); walk_at "mine side"; intro e9 G9 h9 tk9 F9 R9 U9; (try dsimp only)))))
  k_with "call ref" => ((k_here; (with_reducible show wpAny _ _ (call (Value.ref 184) [Value.int _ _]) _ _ _); k_dflt (first | (refine' put16_sp _ _ _ ?qzh0 ?qzh1 _ _ _ _ _ _ _ _ _ _ _ _ _ _ _ _ _ _ _ _ _ _ _ ?k1 ?k2 ?k3 ?k4 ?k5 ?kK ?kd ?ku ?_; (case qzh0 => walk_at "mine omega"); (case qzh1 => walk_at "mine omega"); walk_at "mine side"; refine o_1 ?_; intro c9 t9 h9 tk9 F9 N9 b9; (try dsimp only); (try k_fold)) | (refine' put16_sp _ _ _ ?qzh0 ?qzh1 _ _ _ _ _ _ _ _ _ _ _ _ _ _ _ _ _ _ _ _ _ _ _ ?k1 ?k2 ?k3 ?k4 ?k5 ?kK ?kd ?ku ?_; walk_at "mine side"; (case qzh0 => decide); (case qzh1 => decide); refine o_1 ?_; intro c9 t9 h9 tk9 F9 N9 b9; (try dsimp only); (try k_fold)) | (refine' put16_raise _ _ _ ?qzh0 _ _ _ _ _ _ _ _ _ _ _ _ _ _ _ _ _ _ _ _ _ _ _ ?k1 ?k2 ?k3 ?k4 ?k5 ?kK ?kd ?ku ?_; (case qzh0 => walk_at "mine omega"); walk_at "mine side"; intro e9 G9 h9 tk9 F9 R9 U9; (try dsimp only)))))
  k_with "call ref" => ((k_here; (with_reducible show wpAny _ _ (call (Value.ref 191) [Value.int _ _]) _ _ _); k_dflt (first | (refine' put48_sp _ _ _ ?qzh0 ?qzh1 _ _ _ _ _ _ _ _ _ _ _ _ _ _ _ _ _ _ _ _ _ _ _ ?k1 ?k2 ?k3 ?k4 ?k5 ?kK ?kd ?ku ?_; (case qzh0 => walk_at "mine omega"); (case qzh1 => walk_at "mine omega"); walk_at "mine side"; refine o_1 ?_; intro c9 t9 h9 tk9 F9 N9 b9; (try dsimp only); (try k_fold)))))
  k_with "call ref" => ((k_here; (with_reducible show wpAny _ _ (call (Value.ref 198) [Value.bytes _ _, Value.int _ _]) _ _ _); k_dflt (first | (refine' get16v _ _ _ _ (by kba_ints) ?qzh0 _ _ ?qzh1 ?qzh2 _ _ _ _ _ _ _ _ _ _ _ _ _ _ _ _ _ _ _ _ _ _ _ ?k1 ?k2 ?k3 ?k4 ?k5 ?kK ?kd ?ku ?_; (case qzh0 => walk_at "mine omega"); (case qzh1 => walk_at "mine omega"); (case qzh2 => walk_at "mine omega"); walk_at "mine side"; refine o_3 ?_; intro t9 h9 tk9 F9 N9 lo9 hi9 lo8 hi8; (try dsimp only); (try k_fold)) | (refine' get16_raise _ _ _ _ (by kba_ints) ?qzh0 _ _ ?qzh1 ?qzh2 ?qzh3 _ _ _ _ _ _ _ _ _ _ _ _ _ _ _ _ _ _ _ _ _ _ _ ?k1 ?k2 ?k3 ?k4 ?k5 ?kK ?kd ?ku ?_; (case qzh0 => walk_at "mine omega"); (case qzh1 => walk_at "mine omega"); (case qzh2 => walk_at "mine omega"); (case qzh3 => walk_at "mine omega"); walk_at "mine side"; intro e9 G9 h9 tk9 F9 R9 U9; (try dsimp only)))))
  k_with "call ref" => ((k_here; (with_reducible show wpAny _ _ (call (Value.ref 198) [Value.bytes _ _, Value.int _ _]) _ _ _); k_dflt (first | (refine' get16c _ _ _ _ (by kba_ints) 12 _ ?qzh9 ?qzh0 _ _ ?qzh1 ?qzh2 _ _ _ _ _ _ _ _ _ _ _ _ _ _ _ _ _ _ _ _ _ _ _ ?k1 ?k2 ?k3 ?k4 ?k5 ?kK ?kd ?ku ?_; (case qzh0 => walk_at "mine omega"); (case qzh2 => walk_at "mine omega"); walk_at "mine side"; (case qzh9 => assumption); (case qzh1 => first | exact rfl | decide); refine o_0 ?_; intro t9 h9 tk9 F9 N9; (try dsimp only); (try k_fold)) | (refine' get16c _ _ _ _ (by kba_ints) 14 _ ?qzh9 ?qzh0 _ _ ?qzh1 ?qzh2 _ _ _ _ _ _ _ _ _ _ _ _ _ _ _ _ _ _ _ _ _ _ _ ?k1 ?k2 ?k3 ?k4 ?k5 ?kK ?kd ?ku ?_; (case qzh0 => walk_at "mine omega"); (case qzh2 => walk_at "mine omega"); walk_at "mine side"; (case qzh9 => assumption); (case qzh1 => first | exact rfl | decide); refine o_0 ?_; intro t9 h9 tk9 F9 N9; (try dsimp only); (try k_fold)) | (refine' get16c _ _ _ _ (by kba_ints) 16 _ ?qzh9 ?qzh0 _ _ ?qzh1 ?qzh2 _ _ _ _ _ _ _ _ _ _ _ _ _ _ _ _ _ _ _ _ _ _ _ ?k1 ?k2 ?k3 ?k4 ?k5 ?kK ?kd ?ku ?_; (case qzh0 => walk_at "mine omega"); (case qzh2 => walk_at "mine omega"); walk_at "mine side"; (case qzh9 => assumption); (case qzh1 => first | exact rfl | decide); refine o_0 ?_; intro t9 h9 tk9 F9 N9; (try dsimp only); (try k_fold)) | (refine' get16v _ _ _ _ (by kba_ints) ?qzh0 _ _ ?qzh1 ?qzh2 _ _ _ _ _ _ _ _ _ _ _ _ _ _ _ _ _ _ _ _ _ _ _ ?k1 ?k2 ?k3 ?k4 ?k5 ?kK ?kd ?ku ?_; (case qzh0 => walk_at "mine omega"); (case qzh1 => walk_at "mine omega"); (case qzh2 => walk_at "mine omega"); walk_at "mine side"; refine o_3 ?_; intro t9 h9 tk9 F9 N9 lo9 hi9 lo8 hi8; (try dsimp only); (try k_fold)) | (refine' get16_raise _ _ _ _ (by kba_ints) ?qzh0 _ _ ?qzh1 ?qzh2 ?qzh3 _ _ _ _ _ _ _ _ _ _ _ _ _ _ _ _ _ _ _ _ _ _ _ ?k1 ?k2 ?k3 ?k4 ?k5 ?kK ?kd ?ku ?_; (case qzh0 => walk_at "mine omega"); (case qzh1 => walk_at "mine omega"); (case qzh2 => walk_at "mine omega"); (case qzh3 => walk_at "mine omega"); walk_at "mine side"; intro e9 G9 h9 tk9 F9 R9 U9; (try dsimp only)))))
  k_with "call ref" => ((k_here; (with_reducible show wpAny _ _ (call (Value.ref 205) [Value.bytes _ _, Value.int _ _]) _ _ _); k_dflt (first | (refine' get48_sp _ _ _ _ (by kba_ints) ?qzh0 _ _ ?qzh1 ?qzh2 _ _ _ _ _ _ _ _ _ _ _ _ _ _ _ _ _ _ _ _ _ _ _ ?k1 ?k2 ?k3 ?k4 ?k5 ?kK ?kd ?ku ?_; (case qzh0 => walk_at "mine omega"); (case qzh1 => walk_at "mine omega"); (case qzh2 => walk_at "mine omega"); walk_at "mine side"; refine o_0 ?_; intro t9 h9 tk9 F9 N9; (try dsimp only); (try k_fold)))))
  k_with "call ref" => ((k_here; (with_reducible show wpAny _ _ (call (Value.ref 334) [Value.int _ _, Value.int _ _, Value.int _ _, Value.bytes _ _]) _ _ _); k_dflt (first | (refine' llc_sp _ _ _ _ _ _ _ _ _ _ _ _ _ _ _ _ _ _ _ _ _ _ _ _ _ _ _ _ _ _ _ _ ?k1 ?k2 ?k3 ?k4 ?k5 ?kK ?kd ?ku ?_; walk_at "mine side"; refine o_4 ?_; intro x9 d9 ka9 kb9 kc9 kd9 h9 tk9 F9 N9 l9 l8; (try unfold llcD at N9); (try k_lt l9); (try k_lt2 l8); (try dsimp only); (try k_fold)))))
  k_with "call ref" => ((k_here; (with_reducible show wpAny _ _ (call (Value.ref 352) [Value.ref _]) _ _ _); k_dflt (first | (refine' pack_sp _ _ _ _ _ _ _ _ _ _ _ _ _ _ _ _ _ ?qzh9 ?qzh0 _ ?qzh1 ?qzh2 ?qzh3 ?qzh8 ?qzh4 _ _ _ _ _ _ _ _ _ _ _ _ _ _ _ _ _ _ _ _ _ _ ?k1 ?k2 ?k3 ?k4 ?k5 ?kK ?kd ?ku ?_; walk_at "mine side"; (case qzh4 => walk_at "mine mem"); (case qzh9 => kba_ints); (case qzh8 => assumption); (case qzh0 => walk_at "mine omega"); (case qzh1 => walk_at "mine omega"); (case qzh2 => walk_at "mine omega"); (case qzh3 => walk_at "mine omega"); refine o_5 ?_; intro c9 t9 h9 tk9 F9 N9 b9; (try dsimp only); (try k_fold)) | (refine' pack_no _ _ _ _ _ _ _ _ _ _ _ _ _ _ _ _ ?qzh9 ?qzh0 _ ?qzh1 ?qzh2 ?qzh3 ?qzh5 ?qzh8 ?qzh4 _ _ _ _ _ _ _ _ _ _ _ _ _ _ _ _ _ _ _ _ _ _ ?k1 ?k2 ?k3 ?k4 ?k5 ?kK ?kd ?ku ?_; walk_at "mine side"; (case qzh4 => walk_at "mine mem"); (case qzh9 => kba_ints); (case qzh8 => assumption); (case qzh0 => walk_at "mine omega"); (case qzh1 => walk_at "mine omega"); (case qzh2 => walk_at "mine omega"); (case qzh3 => walk_at "mine omega"); (case qzh5 => walk_at "mine omega"); intro e9 G9 h9 tk9 F9 R9 U9; (try dsimp only)))))
  k_with "call ref" => ((k_here; (with_reducible show wpAny _ _ (call (Value.ref 394) [Value.ref _, Value.ref _]) _ _ _); k_dflt (first | (refine' one_int _ _ _ _ _ _ _ 60 _ _ _ _ _ ?qzU ?qzh0 ?qzh1 ?qzh2 ?qzh3 ?qzh4 ?qzh6 ?qzh5 ?qzh7 _ _ _ _ _ _ _ _ _ _ _ _ _ _ _ _ _ _ _ _ _ _ ?k1 ?k2 ?k3 ?k4 ?k5 ?kK ?kd ?ku ?_; walk_at "mine side"; (case qzU => walk_at "mine upd"); (case qzh6 => k_mem); (case qzh7 => walk_at "mine ints"); (case qzh0 => walk_at "mine omega"; skip); (case qzh1 => walk_at "mine omega"; skip); (case qzh2 => walk_at "mine omega"; skip); (case qzh3 => exact Nat.le_of_ble_eq_true rfl); (case qzh4 => exact Nat.le_of_ble_eq_true rfl); (case qzh5 => walk_at "mine ane"); refine o_7 ?_; intro dr9 t9 aa9 bb9 u9 v9 m9 h9 tk9 F9 N9 lo9 hi9 aa0 bb0 bb1; (try dsimp only at N9); (try dsimp only); (try k_fold)) | (refine' one_int _ _ _ _ _ _ _ 255 _ _ _ _ _ ?qzU ?qzh0 ?qzh1 ?qzh2 ?qzh3 ?qzh4 ?qzh6 ?qzh5 ?qzh7 _ _ _ _ _ _ _ _ _ _ _ _ _ _ _ _ _ _ _ _ _ _ ?k1 ?k2 ?k3 ?k4 ?k5 ?kK ?kd ?ku ?_; walk_at "mine side"; (case qzU => walk_at "mine upd"); (case qzh6 => k_mem); (case qzh7 => walk_at "mine ints"); (case qzh0 => walk_at "mine omega"; skip); (case qzh1 => walk_at "mine omega"; skip); (case qzh2 => walk_at "mine omega"; skip); (case qzh3 => exact Nat.le_of_ble_eq_true rfl); (case qzh4 => exact Nat.le_of_ble_eq_true rfl); (case qzh5 => walk_at "mine ane"); refine o_7 ?_; intro dr9 t9 aa9 bb9 u9 v9 m9 h9 tk9 F9 N9 lo9 hi9 aa0 bb0 bb1; (try dsimp only at N9); (try dsimp only); (try k_fold)) | (refine' one_int _ _ _ _ _ _ _ 1000 _ _ _ _ _ ?qzU ?qzh0 ?qzh1 ?qzh2 ?qzh3 ?qzh4 ?qzh6 ?qzh5 ?qzh7 _ _ _ _ _ _ _ _ _ _ _ _ _ _ _ _ _ _ _ _ _ _ ?k1 ?k2 ?k3 ?k4 ?k5 ?kK ?kd ?ku ?_; walk_at "mine side"; (case qzU => walk_at "mine upd"); (case qzh6 => k_mem); (case qzh7 => walk_at "mine ints"); (case qzh0 => walk_at "mine omega"; skip); (case qzh1 => walk_at "mine omega"; skip); (case qzh2 => walk_at "mine omega"; skip); (case qzh3 => exact Nat.le_of_ble_eq_true rfl); (case qzh4 => exact Nat.le_of_ble_eq_true rfl); (case qzh5 => walk_at "mine ane"); refine o_7 ?_; intro dr9 t9 aa9 bb9 u9 v9 m9 h9 tk9 F9 N9 lo9 hi9 aa0 bb0 bb1; (try dsimp only at N9); (try dsimp only); (try k_fold)) | (refine' one_int _ _ _ _ _ _ _ 65536 _ _ _ _ _ ?qzU ?qzh0 ?qzh1 ?qzh2 ?qzh3 ?qzh4 ?qzh6 ?qzh5 ?qzh7 _ _ _ _ _ _ _ _ _ _ _ _ _ _ _ _ _ _ _ _ _ _ ?k1 ?k2 ?k3 ?k4 ?k5 ?kK ?kd ?ku ?_; walk_at "mine side"; (case qzU => walk_at "mine upd"); (case qzh6 => k_mem); (case qzh7 => walk_at "mine ints"); (case qzh0 => walk_at "mine omega"; skip); (case qzh1 => walk_at "mine omega"; skip); (case qzh2 => walk_at "mine omega"; skip); (case qzh3 => exact Nat.le_of_ble_eq_true rfl); (case qzh4 => exact Nat.le_of_ble_eq_true rfl); (case qzh5 => walk_at "mine ane"); refine o_7 ?_; intro dr9 t9 aa9 bb9 u9 v9 m9 h9 tk9 F9 N9 lo9 hi9 aa0 bb0 bb1; (try dsimp only at N9); (try dsimp only); (try k_fold)) | (refine' one_int _ _ _ _ _ _ _ 16777219 _ _ _ _ _ ?qzU ?qzh0 ?qzh1 ?qzh2 ?qzh3 ?qzh4 ?qzh6 ?qzh5 ?qzh7 _ _ _ _ _ _ _ _ _ _ _ _ _ _ _ _ _ _ _ _ _ _ ?k1 ?k2 ?k3 ?k4 ?k5 ?kK ?kd ?ku ?_; walk_at "mine side"; (case qzU => walk_at "mine upd"); (case qzh6 => k_mem); (case qzh7 => walk_at "mine ints"); (case qzh0 => walk_at "mine omega"; skip); (case qzh1 => walk_at "mine omega"; skip); (case qzh2 => walk_at "mine omega"; skip); (case qzh3 => exact Nat.le_of_ble_eq_true rfl); (case qzh4 => exact Nat.le_of_ble_eq_true rfl); (case qzh5 => walk_at "mine ane"); refine o_7 ?_; intro dr9 t9 aa9 bb9 u9 v9 m9 h9 tk9 F9 N9 lo9 hi9 aa0 bb0 bb1; (try dsimp only at N9); (try dsimp only); (try k_fold)))))
  k_with "call ref" => ((k_here; (with_reducible show wpAny _ _ (call (Value.ref 366) [Value.ref _]) _ _ _); k_dflt (first | (refine' snap_none_m _ _ _ _ _ _ _ _ _ _ _ _ _ _ _ _ ?qzh0 ?qzh4 _ _ _ _ _ _ _ _ _ _ _ _ _ _ _ _ _ _ _ _ _ _ ?k1 ?k2 ?k3 ?k4 ?k5 ?kK ?kd ?ku ?_; walk_at "mine side"; (case qzh4 => walk_at "mine mem"); (case qzh0 => walk_at "mine omega"; skip); refine o_8 ?_; intro h9 tk9 F9 N9; (try dsimp only); (try k_fold)) | (refine' snap_raise_m _ _ _ _ _ _ _ _ _ _ _ _ _ _ _ _ ?qzh9 ?qzh0 _ ?qzh1 ?qzh2 ?qzh3 ?qzh4 _ _ _ _ _ _ _ _ _ _ _ _ _ _ _ _ _ _ _ _ _ _ ?k1 ?k2 ?k3 ?k4 ?k5 ?kK ?kd ?ku ?_; walk_at "mine side"; (case qzh4 => walk_at "mine mem"); (case qzh9 => kba_ints); (case qzh1 => walk_at "mine omega"; skip); (case qzh2 => walk_at "mine omega"; skip); (case qzh3 => walk_at "mine omega"; skip); (case qzh0 => walk_at "mine omega"; skip); intro e9 G9 h9 tk9 F9 R9 U9; (try dsimp only)) | (refine' snap_ok_m _ _ _ _ _ _ _ _ _ _ _ _ _ _ _ _ ?qzh9 ?qzh0 ?qzh5 _ ?qzh1 ?qzh2 ?qzh3 ?qzh4 _ _ _ _ _ _ _ _ _ _ _ _ _ _ _ _ _ _ _ _ _ _ ?k1 ?k2 ?k3 ?k4 ?k5 ?kK ?kd ?ku ?_; walk_at "mine side"; (case qzh4 => walk_at "mine mem"); (case qzh9 => kba_ints); (case qzh1 => walk_at "mine omega"; skip); (case qzh2 => walk_at "mine omega"; skip); (case qzh3 => walk_at "mine omega"; skip); (case qzh0 => walk_at "mine omega"; skip); (case qzh5 => walk_at "mine omega"; skip); refine o_9 ?_; intro dd9 ka9 t9 u9 v9 c9 h9 tk9 F9 N9 b9; (try dsimp only); (try k_fold)))))
  k_with "call ref" => ((k_here; (with_reducible show wpAny _ _ (call (Value.ref 302) [Value.bytes _ _, Value.int 12 _]) _ _ _); k_dflt (first | (refine' utags1 _ _ _ _ _ _ (by kba_ints) ?qzh0 ?qzh1 ?qzh2 ?qzh3 ?qzh4 ?qzh5 ?qzh6 _ _ _ _ _ _ _ _ _ _ _ _ _ _ _ _ _ _ _ _ _ _ _ ?k1 ?k2 ?k3 ?k4 ?k5 ?kK ?kd ?ku ?_; (case qzh0 => walk_at "mine omega"); (case qzh1 => walk_at "mine omega"); walk_at "mine side"; (case qzh2 => assumption); (case qzh3 => assumption); (case qzh4 => assumption); (case qzh5 => walk_at "mine omega"; skip); (case qzh6 => walk_at "mine omega"; skip); refine o_11 ?_; intro dd9 ff9 t9 ka9 kb9 x9 h9 tk9 F9 N9; (try dsimp only); (try k_fold)) | (refine' utags0 _ _ _ _ _ _ (by kba_ints) ?qzh0 ?qzh1 ?qzh2 ?qzh5 ?qzh6 _ _ _ _ _ _ _ _ _ _ _ _ _ _ _ _ _ _ _ _ _ _ _ ?k1 ?k2 ?k3 ?k4 ?k5 ?kK ?kd ?ku ?_; (case qzh0 => walk_at "mine omega"); (case qzh1 => walk_at "mine omega"); walk_at "mine side"; (case qzh2 => assumption); (case qzh5 => walk_at "mine omega"; skip); (case qzh6 => walk_at "mine omega"; skip); refine o_12 ?_; intro dd9 ff9 t9 ka9 kb9 h9 tk9 F9 N9; (try dsimp only); (try k_fold)))))
  k_with "call ref" => ((k_here; (with_reducible show wpAny _ _ (call (Value.ref 345) [Value.int _ _]) _ _ _); k_dflt (first | (refine' short_t _ _ _ ?qzh0 _ _ _ _ _ _ _ _ _ _ _ _ _ _ _ _ _ _ _ _ _ _ _ ?k1 ?k2 ?k3 ?k4 ?k5 ?kK ?kd ?ku ?_; walk_at "mine side"; (case qzh0 => walk_at "mine mod"); refine o_8 ?_; intro h9 tk9 F9 N9; (try dsimp only); (try k_fold)) | (refine' short_f _ _ _ ?qzh0 _ _ _ _ _ _ _ _ _ _ _ _ _ _ _ _ _ _ _ _ _ _ _ ?k1 ?k2 ?k3 ?k4 ?k5 ?kK ?kd ?ku ?_; walk_at "mine side"; (case qzh0 => walk_at "mine mod"); refine o_8 ?_; intro h9 tk9 F9 N9; (try dsimp only); (try k_fold)))))
  k_with "mine mod" => (((try rw [fd8]); omega))
  k_with "leaving ref" => ((k_here; refine' leave_mineOn ?k1 ?k2 ?k3 ?k4 ?k5 ?_; (case k3 => assumption); (case k2 => assumption); (case k1 => k_asm); (case k4 => assumption); (case k5 => k_dflt (exact rfl)); intro h' R' U'; (try dsimp only)))
  trivial
abbrev LinkAt (P : Params) (x d : Addr) (k1 k2 k3 k4 t1 t2 t3 tb : Tok) (p' q' c : Int) (b : Array UInt8) : List (Addr × Obj) :=
  [(x, instObj 334 d), (d, dictOf (llcD P k1 k2 k3 k4 (.int p' t1) (.int q' t2) (.int c t3) (.bytes b tb)) 4)]
set_option maxHeartbeats 1000000 in
theorem pack1 (w : World) (x d : Addr) (k1 k2 k3 k4 t1 t2 t3 tb : Tok) (p' q' c : Int) (b : Array UInt8) (ks : List Int) (hb : KBw.bInts b = ks) (hl : ks.length ≤ 1000) (news : List (Addr × Obj))
    (hp : 0 ≤ p') (hp2 : p' < 256) (hq : 0 ≤ q') (hq2 : q' < 256) (hc : 0 ≤ c) (hc2 : c < 256) (hs : c % 4 = 3) :
   Spec 8 w 352 [.ref x] (LinkAt w.params x d k1 k2 k3 k4 t1 t2 t3 tb p' q' c b ++ news) (fun v nx => (∃ (c' : Array UInt8) (t : Tok), v = .bytes c' t ∧ KBw.bInts c' = [p', q', c] ++ ks) ∧ nx = LinkAt w.params x d k1 k2 k3 k4 t1 t2 t3 tb p' q' c b ++ news) := by
  unfold Spec
  simp only [List.cons_append, List.nil_append]
  unfold llcD
  k_fill
  intro p loose mean mg mb dp un gd cn cs a ccd cl outer A₀ base h₀ L m s Q E B F X N T hck hdp hun hret
  walk_at "mine enter"
  k_steps
  all_goals exact hret _ _ _ _ (by k_asm) (by walk_at "mine news") ⟨⟨_, _, rfl, Eq.trans (by kba_ints) (by simp)⟩, rfl⟩
set_option maxHeartbeats 1000000 in
theorem pack2 (w : World) (x d : Addr) (k1 k2 k3 k4 t1 t2 t3 tb : Tok) (p' q' c : Int) (b : Array UInt8) (ks : List Int) (hb : KBw.bInts b = ks) (hl : ks.length ≤ 1000) (news : List (Addr × Obj))
    (hp : 0 ≤ p') (hp2 : p' < 256) (hq : 0 ≤ q') (hq2 : q' < 256) (hc : 0 ≤ c) (hc2 : c ≤ 65535) (hs : ¬ (c < 256 ∧ c % 4 = 3)) (hu : ¬ c / 256 % 4 = 3) :
   Spec 8 w 352 [.ref x] (LinkAt w.params x d k1 k2 k3 k4 t1 t2 t3 tb p' q' c b ++ news) (fun v nx => (∃ (c' : Array UInt8) (t : Tok), v = .bytes c' t ∧ KBw.bInts c' = [p', q', c / 256, c % 256] ++ ks) ∧ nx = LinkAt w.params x d k1 k2 k3 k4 t1 t2 t3 tb p' q' c b ++ news) := by
  unfold Spec
  simp only [List.cons_append, List.nil_append]
  unfold llcD
  by_cases hcs : c % 4 = 3
  · have hc3 : ¬ c < 256 := fun h => hs ⟨h, hcs⟩
    k_fill
    intro p loose mean mg mb dp un gd cn cs a ccd cl outer A₀ base h₀ L m s Q E B F X N T hck hdp hun hret
    walk_at "mine enter"
    k_steps
    all_goals exact hret _ _ _ _ (by k_asm) (by walk_at "mine news") ⟨⟨_, _, rfl, Eq.trans (by kba_ints) (by simp)⟩, rfl⟩
  · k_fill
    intro p loose mean mg mb dp un gd cn cs a ccd cl outer A₀ base h₀ L m s Q E B F X N T hck hdp hun hret
    walk_at "mine enter"
    k_steps
    all_goals exact hret _ _ _ _ (by k_asm) (by walk_at "mine news") ⟨⟨_, _, rfl, Eq.trans (by kba_ints) (by simp)⟩, rfl⟩
theorem top_off_X8 : True := by
  w_top off
  trivial
theorem kwp_X8_1 : True := by
  k_with "exec Return some" => ((exact (ge_word (by assumption) (by assumption) (by decide)).elim))
  trivial
set_option maxHeartbeats 400000 in
theorem put2_raise (w : World) (n : Int) (t t2 : Tok) (h1 : 65536 ≤ n) (news : List (Addr × Obj)) :
   SpecE 5 w 170 [.int n t, .int 2 t2] news 56 := by
  unfold SpecE
  k_fill
  intro p loose mean mg mb dp un gd cn cs a ccd cl outer A₀ base h₀ L m s Q E B F X N T hck hdp hun hret
  walk_at "mine enter"
  k_steps
  all_goals exact raised_end hret (by assumption) (by assumption) (by assumption) (by intro q9 hq9; (repeat (first | exact hq9 | refine List.mem_cons_of_mem _ ?_)))
theorem kw_11 : True := by
  k_with_none
  k_with "mine kenter" => (k_dflt (first
  | (refine' code_def ?k1 ?k2 ?k3 ?k4 ?k5 ?qzkA ?qzkF ?kK ?qzk6 ?qzk7 ?qzk8 ?qzk9 ?qzkB ?_ ?qzc2 ?qzc3 ?qzc4 ?qzc5; (case qzkA => exact rfl); (case qzkF => exact rfl); (case kK => assumption); (case k1 => k_asm); (case k2 => k_asm); (case k3 => k_asm); (case k4 => k_asm); (case k5 => k_asm); (case qzk6 => k_is); (case qzk7 => k_is); (case qzk8 => ktr_room); (case qzk9 => first | exact BindsTo.of_eq rfl | exact binds_K (by k_in) rfl (by k_is) rfl rfl rfl); (case qzc5 => decide); (case qzkB => exact locs rfl); (case qzc2 => exact rfl); (case qzc3 => exact rfl); (case qzc4 => exact rfl); k_whole; intro g' L' h' FG' F' N' B' X' T'; (try dsimp only); (try k_lift B'); (try k_fold))
  | (refine' code_defC ?k1 ?k2 ?k3 ?k4 ?k5 ?qzkA ?qzkF ?kK ?qzk6 ?qzk7 ?qzk8 ?qzk9 ?qzkB ?qzkD ?_ ?qzc2 ?qzc3 ?qzc4; (case qzkA => exact rfl); (case qzkF => exact rfl); (case kK => assumption); (case k1 => k_asm); (case k2 => k_asm); (case k3 => k_asm); (case k4 => k_asm); (case k5 => k_asm); (case qzk6 => k_is); (case qzk7 => k_is); (case qzk8 => ktr_room); (case qzk9 => first | exact BindsTo.of_eq rfl | exact binds_K (by k_in) rfl (by k_is) rfl rfl rfl); (case qzkB => exact rfl); (case qzkD => decide +kernel); (case qzc2 => exact rfl); (case qzc3 => exact rfl); (case qzc4 => exact rfl); k_whole; intro g' L' h' tk' cells' FG' F' N' Y' B' X' T' l1; (try k_lt l1); k_cells Y'; (try simp only [List.cons_append, List.nil_append] at N'); (try dsimp only); (try k_lift B'); (try k_fold))))
  k_with "mine enter" => ((refine wpAny_call ?_; k_dflt (first
  | (refine' code_def ?k1 ?k2 ?k3 ?k4 ?k5 ?qzkA ?qzkF ?kK ?qzk6 ?qzk7 ?qzk8 ?qzk9 ?qzkB ?_ ?qzc2 ?qzc3 ?qzc4 ?qzc5; (case qzkA => exact rfl); (case qzkF => exact rfl); (case kK => assumption); (case k1 => k_asm); (case k2 => k_asm); (case k3 => k_asm); (case k4 => k_asm); (case k5 => k_asm); (case qzk6 => k_is); (case qzk7 => k_is); (case qzk8 => ktr_room); (case qzk9 => first | exact BindsTo.of_eq rfl | exact binds_K (by k_in) rfl (by k_is) rfl rfl rfl); (case qzc5 => decide); (case qzkB => exact locs rfl); (case qzc2 => exact rfl); (case qzc3 => exact rfl); (case qzc4 => exact rfl); k_whole; intro g' L' h' FG' F' N' B' X' T'; (try dsimp only); (try k_lift B'); (try k_fold))
  | (refine' code_defC ?k1 ?k2 ?k3 ?k4 ?k5 ?qzkA ?qzkF ?kK ?qzk6 ?qzk7 ?qzk8 ?qzk9 ?qzkB ?qzkD ?_ ?qzc2 ?qzc3 ?qzc4; (case qzkA => exact rfl); (case qzkF => exact rfl); (case kK => assumption); (case k1 => k_asm); (case k2 => k_asm); (case k3 => k_asm); (case k4 => k_asm); (case k5 => k_asm); (case qzk6 => k_is); (case qzk7 => k_is); (case qzk8 => ktr_room); (case qzk9 => first | exact BindsTo.of_eq rfl | exact binds_K (by k_in) rfl (by k_is) rfl rfl rfl); (case qzkB => exact rfl); (case qzkD => decide +kernel); (case qzc2 => exact rfl); (case qzc3 => exact rfl); (case qzc4 => exact rfl); k_whole; intro g' L' h' tk' cells' FG' F' N' Y' B' X' T' l1; (try k_lt l1); k_cells Y'; (try simp only [List.cons_append, List.nil_append] at N'); (try dsimp only); (try k_lift B'); (try k_fold)))))
  k_with "mine side" => (((case k1 => k_asm); (case k2 => k_asm); (case k3 => k_asm); (case k4 => k_asm); (case k5 => k_asm); (case kK => first | exact rfl | assumption); (case kd => ktr_room); (case ku => ktr_units)))
  k_with "mine kbabound" => (((try dsimp only); first | exact and255_lo _ | exact and255_hi _))
  k_with "mine news" => (first | k_asm | (refine cb_drop (by assumption) ?_; intro p9 hp9; (repeat (first | exact hp9 | refine List.mem_cons_of_mem _ ?_))))
  k_with "mine room" => (((with_reducible rename @LT.lt Nat _ (_ + _) recursionLimit => hq9); k_dflt (first | exact room_1 hq9 (by exact rfl) | exact room_j hq9 (by exact rfl) | exact room_0 hq9)))
  k_with "mine units" => (((with_reducible rename @LT.lt Nat _ (_ + _) cLine => hq9); k_dflt (first | exact units_1 hq9 (by exact rfl) | exact units_j hq9 (by exact rfl))))
  k_with "mine me" => (first | with_reducible exact me0 | with_reducible exact me1 | with_reducible exact me2 | with_reducible exact me3 | with_reducible exact me4 | with_reducible exact me5 | with_reducible exact me6 | with_reducible exact me7 | with_reducible exact me8 | with_reducible exact me9 | with_reducible exact me10 | with_reducible exact me11 | with_reducible exact me12 | with_reducible exact me13 | with_reducible exact me14 | with_reducible exact me15 | with_reducible exact me16 | with_reducible exact me17 | with_reducible exact me18 | with_reducible assumption | k_mem)
  k_with "mine ltall" => (((repeat ((with_reducible rename (∀ p ∈ _, Prod.fst p < _) => h7); replace h7 := allLt_of h7; simp only [AllLt, and_true] at h7))))
  k_with "mine kne" => ((refine neN ?_; (try dsimp only); first | with_reducible assumption | decide | exact Nat.ne_of_gt (by with_reducible assumption) | exact Nat.ne_of_lt (by with_reducible assumption) | exact ne_l (by with_reducible assumption) (by walk_at "mine me") | exact ne_r (by with_reducible assumption) (by walk_at "mine me") | exact ne_l2 (by with_reducible assumption) (by with_reducible assumption) (by walk_at "mine me") | exact ne_r2 (by with_reducible assumption) (by with_reducible assumption) (by walk_at "mine me") | exact ne_l1 (by with_reducible assumption) (by walk_at "mine me") | exact ne_r1 (by with_reducible assumption) (by walk_at "mine me") | exact ne_l11 (by with_reducible assumption) (by walk_at "mine me") | exact ne_r11 (by with_reducible assumption) (by walk_at "mine me") | exact ne_s1 | exact ne_s2 | exact ne_b1 (by with_reducible assumption) rfl | exact ne_b2 (by with_reducible assumption) rfl | exact Ne.symm (by with_reducible assumption) | (trace_state; walk_at "mine ltall"; omega)))
  k_with "mine sk" => (first | with_reducible exact sk0 | with_reducible exact sk1 | with_reducible exact sk2 | with_reducible exact sk3 | with_reducible exact sk4 | with_reducible exact sk5 | with_reducible exact sk6 | with_reducible exact sk7 | with_reducible exact sk8 | with_reducible exact sk9 | with_reducible exact sk10 | with_reducible exact sk11 | with_reducible exact sk12 | with_reducible exact sk13 | with_reducible exact sk14 | with_reducible exact sk15 | with_reducible exact sk16 | with_reducible exact sk17 | with_reducible exact sk18)
  k_with "mine kall" => (first | with_reducible assumption | exact all_l (by with_reducible assumption) (by walk_at "mine sk") | exact all_l2 (by with_reducible assumption) (by with_reducible assumption) (by walk_at "mine sk") | exact all_l1 (by with_reducible assumption) (by walk_at "mine sk") | exact all_l11 (by with_reducible assumption) (by walk_at "mine sk") | (with_reducible exact List.forall_mem_nil _) | (refine' List.forall_mem_cons.mpr ⟨?qza, ?qzb⟩; (case qza => k_ne); (case qzb => k_all)) | (trace_state; exact all_ne (by assumption) (by walk_at "mine ltall"; omega)))
  k_with "mine lt" => (first | with_reducible assumption | exact lt_t0 (by with_reducible assumption) (by walk_at "mine me") | exact lt_t1 (by with_reducible assumption) (by with_reducible assumption) (by walk_at "mine me") | exact lt_t2 (by with_reducible assumption) (by with_reducible assumption) (by with_reducible assumption) (by walk_at "mine me") | (trace_state; walk_at "mine ltall"; omega))
  k_with "exec Raise some none" => ((k_here; (with_reducible show wpAny _ _ (exec (Stmt.Raise (some (Expr.Call (Expr.Name ("SizeError" : Str) _) _ [] _)) none _) _) _ _ _); refine' raise56 ?k1 ?k2 ?_; (case k1 => k_asm); (case k2 => k_dflt (exact rfl))))
  k_with "exec Raise some none" => ((k_here; (with_reducible show wpAny _ _ (exec (Stmt.Raise (some (Expr.Call (Expr.Name ("FormError" : Str) _) _ [] _)) none _) _) _ _ _); refine' raise44 ?k1 ?k2 ?_; (case k1 => k_asm); (case k2 => k_dflt (exact rfl))))
  k_with "call ref" => ((k_here; (first | (with_reducible show wpAny _ _ (call (Value.ref 56) [Value.str _ _]) _ _ _) | (with_reducible show wpAny _ _ (call (Value.ref 44) [Value.str _ _]) _ _ _)); k_dflt (refine' exc_call_sp _ _ _ _ _ ?qzhC _ _ _ _ _ _ _ _ _ _ _ _ _ _ _ _ _ _ _ _ _ _ ?k1 ?k2 ?k3 ?k4 ?k5 ?kK ?kd ?ku ?_; (case qzhC => decide); walk_at "mine side"); intro v9 nx9 h9 tk9 F9 N9 r9; obtain ⟨e9, d9, t9, q9, f9, n9⟩ := r9; subst q9; rw [f9] at N9; clear f9; (try dsimp only); (try k_fold)))
  k_with "RaiseEnd" => ((k_here; refine' RaiseEnd.intro ?k1 ?k2 ?k3 ?_; (case k1 => k_asm); (case k2 => k_asm); (case k3 => k_asm); (try dsimp only)))
  k_with "leaving ref" => ((k_here; refine' leave_mine ?k1 ?k2 ?k3 ?k4 ?k5 ?qzk6 ?_; (case k1 => k_asm); (case k2 => k_asm); (case k3 => k_asm); (case k4 => assumption); (case k5 => k_dflt (exact rfl)); (case qzk6 => k_dflt (exact rfl)); intro h' R' U'; (try dsimp only)))
  k_with "call type:bytes" => ((k_here; (with_reducible show wpAny _ _ (call (Value.type "bytes") [Value.bytes _ _]) _ _ _); with_reducible refine call_bytes_bytes ?_))
  k_with "call type:bytes" => ((k_here; (with_reducible show wpAny _ _ (call (Value.type "bytes") [Value.int _ _]) _ _ _); (refine' call_bytes_zeros ?k1 ?k2 ?_; (case k1 => omega); (case k2 => omega); intro c9 zs9 u9 k9 b9 z9 n9; (try dsimp only))))
  k_with "call type:bytes" => ((k_here; (with_reducible show wpAny _ _ (call (Value.type "bytes") [Value.ref _]) _ _ _); k_dflt (refine' KBa.make_K ?qzkbaF ?qzkbaN ?qzkbah ?qzkbal ?qzkbai ?qzkbar ?qzkban ?_; (case qzkbaF => k_asm); (case qzkbaN => k_asm); (case qzkbah => rfl); (case qzkbal => kba_isList); (case qzkbai => kba_listInts); (case qzkbar => walk_at "mine in"); (case qzkban => kba_size)); intro _ _ _ F' N' kbaIn))
  k_with "mine in" => (first | exact in_one (by omega) (by omega) | (refine in_cons (by omega) (by omega) ?_; walk_at "mine in"; done) | exact in_nil | kba_in)
  k_with "mine sub" => ((repeat (first | exact sub_refl | refine sub_keep ?_ | refine sub_skip ?_)))
  k_with "mine raised" => (first | (intro q9 hq9; (repeat (first | exact hq9 | refine List.mem_cons_of_mem _ ?_)); done) | (walk_at "mine sub"; done))
  k_with "mine news" => (first | k_asm | (refine cb_drop (by assumption) ?_; first | (intro p9 hp9; (repeat (first | exact hp9 | refine List.mem_cons_of_mem _ ?_)); done) | (walk_at "mine sub"; done)))
  k_with "mine absurd" => (first | (exfalso; omega) | (exfalso; (rename ((_ && _ : Bool) = _) => hx9); (simp only [Bool.and_eq_true, Bool.and_eq_false_iff, beq_iff_eq, beq_eq_false_iff_ne, ne_eq] at hx9); omega))
  k_with "compareOp In int ref" => ((k_here; (with_reducible show wpAny _ _ (compareOp CmpOp.In (Value.int _ _) (Value.ref 206)) _ _ _); first | (refine' in206_t ?k1 ?k2 ?k3 ?_; (case k1 => k_asm); (case k2 => k_asm); (case k3 => omega)) | (refine' in206_f ?k1 ?k2 ?k3 ?_; (case k1 => k_asm); (case k2 => k_asm); (case k3 => omega))))
  k_with "compareOp NotIn int ref" => ((k_here; (with_reducible show wpAny _ _ (compareOp CmpOp.NotIn (Value.int _ _) (Value.ref 206)) _ _ _); refine' notin206_t ?k1 ?k2 ?k3 ?_; (case k1 => k_asm); (case k2 => k_asm); (case k3 => omega)))
  k_with "mine mem" => (first | assumption | (refine List.forall_mem_cons.mpr ⟨by k_mem, List.forall_mem_cons.mpr ⟨by k_mem, List.forall_mem_nil _⟩⟩))
  k_with "getMethod bytes" => ((k_here; with_reducible refine join_method ?_))
  k_with "call builtin:bytes.join" => ((k_here; (with_reducible show wpAny _ _ (call (Value.builtin "bytes.join") [Value.bytes _ _, Value.ref _]) _ _ _); k_dflt (first | (refine' call_join0 ?k1 ?_; (case k1 => kba_isList); intro u9 k9; (have j9 := ints_nil)) | (refine' call_join1 ?k1 ?_; (case k1 => kba_isList)))))
  k_with "eval ListComp" => ((k_here; (with_reducible show wpAny _ _ (eval (Expr.ListComp _ [⟨Expr.Name _ _, Expr.Attribute _ _ _, [], 0⟩] _ _) _) _ _ _); k_dflt (refine listComp_tup (by k_asm) (by with_unfolding_all rfl) (by decide) (by rfl) (by decide) (by rfl) ?_)))
  k_with "TupSrc" => ((k_here; k_dflt (refine' TupSrc.intro ?k1 ?k2 ?k3 ?k4 ?k5 ?_; (case k1 => rfl); (case k2 => k_asm); (case k3 => k_asm); (case k4 => k_mem); (case k5 => exact Nat.le_of_ble_eq_true rfl); intro g'; first | (refine rest_nil rfl ?_) | (refine rest_one rfl (fun I' oI' C' oC' D' m' h' tk' E' hC' hx' F' N' off' ne' => ?_)))))
  k_with "CompEnd" => ((k_dflt (refine' LCg.CompEnd.intro ?k1 ?k2 _ ?k3 ?k4 ?k5 ?_; (case k1 => k_asm); (case k2 => k_asm); (case k3 => exact sub_refl); (case k4 => assumption); (case k5 => k_mem); (try dsimp only))))
  k_with "mine omega" => (first | omega | (simp only [List.length_append, List.length_cons, List.length_nil] <;> omega))
  k_with "call ref" => ((k_here; (with_reducible show wpAny _ _ (call (Value.ref 160) [Value.bytes _ _]) _ _ _); k_dflt (first | (refine' crc_sp _ _ _ _ (by kba_ints) _ _ _ _ _ _ _ _ _ _ _ _ _ _ _ _ _ _ _ _ _ _ _ ?k1 ?k2 ?k3 ?k4 ?k5 ?kK ?kd ?ku ?_; walk_at "mine side"; refine o_0 ?_; intro t9 h9 tk9 F9 N9; (try dsimp only); (try k_fold)))))
  k_with "call ref" => ((k_here; (with_reducible show wpAny _ _ (call (Value.ref 170) [Value.int _ _, Value.int _ _]) _ _ _); k_dflt (first | (refine' put1_sp _ _ _ _ ?qzh0 ?qzh1 _ _ _ _ _ _ _ _ _ _ _ _ _ _ _ _ _ _ _ _ _ _ _ ?k1 ?k2 ?k3 ?k4 ?k5 ?kK ?kd ?ku ?_; (case qzh0 => walk_at "mine omega"); (case qzh1 => walk_at "mine omega"); walk_at "mine side"; refine o_1 ?_; intro c9 t9 h9 tk9 F9 N9 b9; (try dsimp only); (try k_fold)) | (refine' put1_raise _ _ _ _ ?qzh0 _ _ _ _ _ _ _ _ _ _ _ _ _ _ _ _ _ _ _ _ _ _ _ ?k1 ?k2 ?k3 ?k4 ?k5 ?kK ?kd ?ku ?_; (case qzh0 => walk_at "mine omega"); walk_at "mine side"; intro e9 G9 h9 tk9 F9 R9 U9; (try dsimp only)) | (refine' put2_sp _ _ _ _ ?qzh0 ?qzh1 _ _ _ _ _ _ _ _ _ _ _ _ _ _ _ _ _ _ _ _ _ _ _ ?k1 ?k2 ?k3 ?k4 ?k5 ?kK ?kd ?ku ?_; (case qzh0 => walk_at "mine omega"); (case qzh1 => walk_at "mine omega"); walk_at "mine side"; refine o_1 ?_; intro c9 t9 h9 tk9 F9 N9 b9; (try dsimp only); (try k_fold)) | (refine' put2_raise _ _ _ _ ?qzh0 _ _ _ _ _ _ _ _ _ _ _ _ _ _ _ _ _ _ _ _ _ _ _ ?k1 ?k2 ?k3 ?k4 ?k5 ?kK ?kd ?ku ?_; (case qzh0 => walk_at "mine omega"); walk_at "mine side"; intro e9 G9 h9 tk9 F9 R9 U9; (try dsimp only)) | (refine' put6_sp _ _ _ _ ?qzh0 ?qzh1 _ _ _ _ _ _ _ _ _ _ _ _ _ _ _ _ _ _ _ _ _ _ _ ?k1 ?k2 ?k3 ?k4 ?k5 ?kK ?kd ?ku ?_; (case qzh0 => walk_at "mine omega"); (case qzh1 => walk_at "mine omega"); walk_at "mine side"; refine o_1 ?_; intro c9 t9 h9 tk9 F9 N9 b9; (try dsimp only); (try k_fold)))))
  k_with "call ref" => ((k_here; (with_reducible show wpAny _ _ (call (Value.ref 177) [Value.bytes _ _, Value.int _ _, Value.int _ _]) _ _ _); k_dflt (first | (refine' get1v _ _ _ _ (by kba_ints) ?qzh0 _ _ _ ?qzh1 ?qzh2 _ _ _ _ _ _ _ _ _ _ _ _ _ _ _ _ _ _ _ _ _ _ _ ?k1 ?k2 ?k3 ?k4 ?k5 ?kK ?kd ?ku ?_; (case qzh0 => walk_at "mine omega"); (case qzh1 => walk_at "mine omega"); (case qzh2 => walk_at "mine omega"); walk_at "mine side"; refine o_2 ?_; intro t9 h9 tk9 F9 N9 lo9 hi9; (try dsimp only); (try k_fold)) | (refine' get3v _ _ _ _ (by kba_ints) ?qzh0 _ _ _ ?qzh1 ?qzh2 _ _ _ _ _ _ _ _ _ _ _ _ _ _ _ _ _ _ _ _ _ _ _ ?k1 ?k2 ?k3 ?k4 ?k5 ?kK ?kd ?ku ?_; (case qzh0 => walk_at "mine omega"); (case qzh1 => walk_at "mine omega"); (case qzh2 => walk_at "mine omega"); walk_at "mine side"; refine o_2 ?_; intro t9 h9 tk9 F9 N9 lo9 hi9; (try dsimp only); (try k_fold)) | (refine' get_sp _ _ _ _ (by kba_ints) ?qzh0 _ _ _ _ ?qzh1 ?qzh2 ?qzh3 ?qzh4 _ _ _ _ _ _ _ _ _ _ _ _ _ _ _ _ _ _ _ _ _ _ _ ?k1 ?k2 ?k3 ?k4 ?k5 ?kK ?kd ?ku ?_; (case qzh0 => walk_at "mine omega"); (case qzh1 => walk_at "mine omega"); (case qzh2 => walk_at "mine omega"); (case qzh3 => walk_at "mine omega"); (case qzh4 => walk_at "mine omega"); walk_at "mine side"; refine o_0 ?_; intro t9 h9 tk9 F9 N9; (try dsimp only); (try k_fold)) | (refine' get_raise _ _ _ _ (by kba_ints) ?qzh0 _ _ _ _ ?qzh1 ?qzh2 ?qzh3 ?qzh4 ?qzh5 _ _ _ _ _ _ _ _ _ _ _ _ _ _ _ _ _ _ _ _ _ _ _ ?k1 ?k2 ?k3 ?k4 ?k5 ?kK ?kd ?ku ?_; (case qzh0 => walk_at "mine omega"); (case qzh1 => walk_at "mine omega"); (case qzh2 => walk_at "mine omega"); (case qzh3 => walk_at "mine omega"); (case qzh4 => walk_at "mine omega"); (case qzh5 => walk_at "mine omega"); walk_at "mine side"; intro e9 G9 h9 tk9 F9 R9 U9; (try dsimp only)))))
  k_with "call ref" => ((k_here; (with_reducible show wpAny _ _ (call (Value.ref 184) [Value.int _ _]) _ _ _); k_dflt (first | (refine' put16_sp _ _ _ ?qzh0 ?qzh1 _ _ _ _ _ _ _ _ _ _ _ _ _ _ _ _ _ _ _ _ _ _ _ ?k1 ?k2 ?k3 ?k4 ?k5 ?kK ?kd ?ku ?_; (case qzh0 => walk_at "mine omega"); (case qzh1 => walk_at "mine omega"); walk_at "mine side"; refine o_1 ?_; intro c9 t9 h9 tk9 F9 N9 b9; (try dsimp only); (try k_fold)) | (refine' put16_sp _ _ _ ?qzh0 ?qzh1 _ _ _ _ _ _ _ _ _ _ _ _ _ _ _ _ _ _ _ _ _ _ _ ?k1 ?k2 ?k3 ?k4 ?k5 ?kK ?kd ?ku ?_; walk_at "mine side"; (case qzh0 => decide); (case qzh1 => decide); refine o_1 ?_; intro c9 t9 h9 tk9 F9 N9 b9; (try dsimp only); (try k_fold)) | (refine' put16_raise _ _ _ ?qzh0 _ _ _ _ _ _ _ _ _ _ _ _ _ _ _ _ _ _ _ _ _ _ _ ?k1 ?k2 ?k3 ?k4 ?k5 ?kK ?kd ?ku ?_; (case qzh0 => walk_at "mine omega"); walk_at "mine side"; intro e9 G9 h9 tk9 F9 R9 U9; (try dsimp only)))))
  k_with "call ref" => ((k_here; (with_reducible show wpAny _ _ (call (Value.ref 191) [Value.int _ _]) _ _ _); k_dflt (first | (refine' put48_sp _ _ _ ?qzh0 ?qzh1 _ _ _ _ _ _ _ _ _ _ _ _ _ _ _ _ _ _ _ _ _ _ _ ?k1 ?k2 ?k3 ?k4 ?k5 ?kK ?kd ?ku ?_; (case qzh0 => walk_at "mine omega"); (case qzh1 => walk_at "mine omega"); walk_at "mine side"; refine o_1 ?_; intro c9 t9 h9 tk9 F9 N9 b9; (try dsimp only); (try k_fold)))))
  k_with "call ref" => ((k_here; (with_reducible show wpAny _ _ (call (Value.ref 198) [Value.bytes _ _, Value.int _ _]) _ _ _); k_dflt (first | (refine' get16v _ _ _ _ (by kba_ints) ?qzh0 _ _ ?qzh1 ?qzh2 _ _ _ _ _ _ _ _ _ _ _ _ _ _ _ _ _ _ _ _ _ _ _ ?k1 ?k2 ?k3 ?k4 ?k5 ?kK ?kd ?ku ?_; (case qzh0 => walk_at "mine omega"); (case qzh1 => walk_at "mine omega"); (case qzh2 => walk_at "mine omega"); walk_at "mine side"; refine o_3 ?_; intro t9 h9 tk9 F9 N9 lo9 hi9 lo8 hi8; (try dsimp only); (try k_fold)) | (refine' get16_raise _ _ _ _ (by kba_ints) ?qzh0 _ _ ?qzh1 ?qzh2 ?qzh3 _ _ _ _ _ _ _ _ _ _ _ _ _ _ _ _ _ _ _ _ _ _ _ ?k1 ?k2 ?k3 ?k4 ?k5 ?kK ?kd ?ku ?_; (case qzh0 => walk_at "mine omega"); (case qzh1 => walk_at "mine omega"); (case qzh2 => walk_at "mine omega"); (case qzh3 => walk_at "mine omega"); walk_at "mine side"; intro e9 G9 h9 tk9 F9 R9 U9; (try dsimp only)))))
  k_with "call ref" => ((k_here; (with_reducible show wpAny _ _ (call (Value.ref 198) [Value.bytes _ _, Value.int _ _]) _ _ _); k_dflt (first | (refine' get16c _ _ _ _ (by kba_ints) 12 _ ?qzh9 ?qzh0 _ _ ?qzh1 ?qzh2 _ _ _ _ _ _ _ _ _ _ _ _ _ _ _ _ _ _ _ _ _ _ _ ?k1 ?k2 ?k3 ?k4 ?k5 ?kK ?kd ?ku ?_; (case qzh0 => walk_at "mine omega"); (case qzh2 => walk_at "mine omega"); walk_at "mine side"; (case qzh9 => assumption); (case qzh1 => first | exact rfl | decide); refine o_0 ?_; intro t9 h9 tk9 F9 N9; (try dsimp only); (try k_fold)) | (refine' get16c _ _ _ _ (by kba_ints) 14 _ ?qzh9 ?qzh0 _ _ ?qzh1 ?qzh2 _ _ _ _ _ _ _ _ _ _ _ _ _ _ _ _ _ _ _ _ _ _ _ ?k1 ?k2 ?k3 ?k4 ?k5 ?kK ?kd ?ku ?_; (case qzh0 => walk_at "mine omega"); (case qzh2 => walk_at "mine omega"); walk_at "mine side"; (case qzh9 => assumption); (case qzh1 => first | exact rfl | decide); refine o_0 ?_; intro t9 h9 tk9 F9 N9; (try dsimp only); (try k_fold)) | (refine' get16c _ _ _ _ (by kba_ints) 16 _ ?qzh9 ?qzh0 _ _ ?qzh1 ?qzh2 _ _ _ _ _ _ _ _ _ _ _ _ _ _ _ _ _ _ _ _ _ _ _ ?k1 ?k2 ?k3 ?k4 ?k5 ?kK ?kd ?ku ?_; (case qzh0 => walk_at "mine omega"); (case qzh2 => walk_at "mine omega"); walk_at "mine side"; (case qzh9 => assumption); (case qzh1 => first | exact rfl | decide); refine o_0 ?_; intro t9 h9 tk9 F9 N9; (try dsimp only); (try k_fold)) | (refine' get16v _ _ _ _ (by kba_ints) ?qzh0 _ _ ?qzh1 ?qzh2 _ _ _ _ _ _ _ _ _ _ _ _ _ _ _ _ _ _ _ _ _ _ _ ?k1 ?k2 ?k3 ?k4 ?k5 ?kK ?kd ?ku ?_; (case qzh0 => walk_at "mine omega"); (case qzh1 => walk_at "mine omega"); (case qzh2 => walk_at "mine omega"); walk_at "mine side"; refine o_3 ?_; intro t9 h9 tk9 F9 N9 lo9 hi9 lo8 hi8; (try dsimp only); (try k_fold)) | (refine' get16_raise _ _ _ _ (by kba_ints) ?qzh0 _ _ ?qzh1 ?qzh2 ?qzh3 _ _ _ _ _ _ _ _ _ _ _ _ _ _ _ _ _ _ _ _ _ _ _ ?k1 ?k2 ?k3 ?k4 ?k5 ?kK ?kd ?ku ?_; (case qzh0 => walk_at "mine omega"); (case qzh1 => walk_at "mine omega"); (case qzh2 => walk_at "mine omega"); (case qzh3 => walk_at "mine omega"); walk_at "mine side"; intro e9 G9 h9 tk9 F9 R9 U9; (try dsimp only)))))
  k_with "call ref" => ((k_here; (with_reducible show wpAny _ _ (call (Value.ref 205) [Value.bytes _ _, Value.int _ _]) _ _ _); k_dflt (first | (refine' get48_sp _ _ _ _ (by kba_ints) ?qzh0 _ _ ?qzh1 ?qzh2 _ _ _ _ _ _ _ _ _ _ _ _ _ _ _ _ _ _ _ _ _ _ _ ?k1 ?k2 ?k3 ?k4 ?k5 ?kK ?kd ?ku ?_; (case qzh0 => walk_at "mine omega"); (case qzh1 => walk_at "mine omega"); (case qzh2 => walk_at "mine omega"); walk_at "mine side"; refine o_0 ?_; intro t9 h9 tk9 F9 N9; (try dsimp only); (try k_fold)))))
  k_with "call ref" => ((k_here; (with_reducible show wpAny _ _ (call (Value.ref 334) [Value.int _ _, Value.int _ _, Value.int _ _, Value.bytes _ _]) _ _ _); k_dflt (first | (refine' llc_sp _ _ _ _ _ _ _ _ _ _ _ _ _ _ _ _ _ _ _ _ _ _ _ _ _ _ _ _ _ _ _ _ ?k1 ?k2 ?k3 ?k4 ?k5 ?kK ?kd ?ku ?_; walk_at "mine side"; refine o_4 ?_; intro x9 d9 ka9 kb9 kc9 kd9 h9 tk9 F9 N9 l9 l8; (try unfold llcD at N9); (try k_lt l9); (try k_lt2 l8); (try dsimp only); (try k_fold)))))
  k_with "call ref" => ((k_here; (with_reducible show wpAny _ _ (call (Value.ref 352) [Value.ref _]) _ _ _); k_dflt (first | (refine' pack_sp _ _ _ _ _ _ _ _ _ _ _ _ _ _ _ _ _ ?qzh9 ?qzh0 _ ?qzh1 ?qzh2 ?qzh3 ?qzh8 ?qzh4 _ _ _ _ _ _ _ _ _ _ _ _ _ _ _ _ _ _ _ _ _ _ ?k1 ?k2 ?k3 ?k4 ?k5 ?kK ?kd ?ku ?_; walk_at "mine side"; (case qzh4 => walk_at "mine mem"); (case qzh9 => kba_ints); (case qzh8 => assumption); (case qzh0 => walk_at "mine omega"); (case qzh1 => walk_at "mine omega"); (case qzh2 => walk_at "mine omega"); (case qzh3 => walk_at "mine omega"); refine o_5 ?_; intro c9 t9 h9 tk9 F9 N9 b9; (try dsimp only); (try k_fold)) | (refine' pack_no _ _ _ _ _ _ _ _ _ _ _ _ _ _ _ _ ?qzh9 ?qzh0 _ ?qzh1 ?qzh2 ?qzh3 ?qzh5 ?qzh8 ?qzh4 _ _ _ _ _ _ _ _ _ _ _ _ _ _ _ _ _ _ _ _ _ _ ?k1 ?k2 ?k3 ?k4 ?k5 ?kK ?kd ?ku ?_; walk_at "mine side"; (case qzh4 => walk_at "mine mem"); (case qzh9 => kba_ints); (case qzh8 => assumption); (case qzh0 => walk_at "mine omega"); (case qzh1 => walk_at "mine omega"); (case qzh2 => walk_at "mine omega"); (case qzh3 => walk_at "mine omega"); (case qzh5 => walk_at "mine omega"); intro e9 G9 h9 tk9 F9 R9 U9; (try dsimp only)))))
  k_with "call ref" => ((k_here; (with_reducible show wpAny _ _ (call (Value.ref 394) [Value.ref _, Value.ref _]) _ _ _); k_dflt (first | (refine' one_int _ _ _ _ _ _ _ 60 _ _ _ _ _ ?qzU ?qzh0 ?qzh1 ?qzh2 ?qzh3 ?qzh4 ?qzh6 ?qzh5 ?qzh7 _ _ _ _ _ _ _ _ _ _ _ _ _ _ _ _ _ _ _ _ _ _ ?k1 ?k2 ?k3 ?k4 ?k5 ?kK ?kd ?ku ?_; walk_at "mine side"; (case qzU => walk_at "mine upd"); (case qzh6 => k_mem); (case qzh7 => walk_at "mine ints"); (case qzh0 => walk_at "mine omega"; skip); (case qzh1 => walk_at "mine omega"; skip); (case qzh2 => walk_at "mine omega"; skip); (case qzh3 => exact Nat.le_of_ble_eq_true rfl); (case qzh4 => exact Nat.le_of_ble_eq_true rfl); (case qzh5 => walk_at "mine ane"); refine o_7 ?_; intro dr9 t9 aa9 bb9 u9 v9 m9 h9 tk9 F9 N9 lo9 hi9 aa0 bb0 bb1; (try dsimp only at N9); (try dsimp only); (try k_fold)) | (refine' one_int _ _ _ _ _ _ _ 255 _ _ _ _ _ ?qzU ?qzh0 ?qzh1 ?qzh2 ?qzh3 ?qzh4 ?qzh6 ?qzh5 ?qzh7 _ _ _ _ _ _ _ _ _ _ _ _ _ _ _ _ _ _ _ _ _ _ ?k1 ?k2 ?k3 ?k4 ?k5 ?kK ?kd ?ku ?_; walk_at "mine side"; (case qzU => walk_at "mine upd"); (case qzh6 => k_mem); (case qzh7 => walk_at "mine ints"); (case qzh0 => walk_at "mine omega"; skip); (case qzh1 => walk_at "mine omega"; skip); (case qzh2 => walk_at "mine omega"; skip); (case qzh3 => exact Nat.le_of_ble_eq_true rfl); (case qzh4 => exact Nat.le_of_ble_eq_true rfl); (case qzh5 => walk_at "mine ane"); refine o_7 ?_; intro dr9 t9 aa9 bb9 u9 v9 m9 h9 tk9 F9 N9 lo9 hi9 aa0 bb0 bb1; (try dsimp only at N9); (try dsimp only); (try k_fold)) | (refine' one_int _ _ _ _ _ _ _ 1000 _ _ _ _ _ ?qzU ?qzh0 ?qzh1 ?qzh2 ?qzh3 ?qzh4 ?qzh6 ?qzh5 ?qzh7 _ _ _ _ _ _ _ _ _ _ _ _ _ _ _ _ _ _ _ _ _ _ ?k1 ?k2 ?k3 ?k4 ?k5 ?kK ?kd ?ku ?_; walk_at "mine side"; (case qzU => walk_at "mine upd"); (case qzh6 => k_mem); (case qzh7 => walk_at "mine ints"); (case qzh0 => walk_at "mine omega"; skip); (case qzh1 => walk_at "mine omega"; skip); (case qzh2 => walk_at "mine omega"; skip); (case qzh3 => exact Nat.le_of_ble_eq_true rfl); (case qzh4 => exact Nat.le_of_ble_eq_true rfl); (case qzh5 => walk_at "mine ane"); refine o_7 ?_; intro dr9 t9 aa9 bb9 u9 v9 m9 h9 tk9 F9 N9 lo9 hi9 aa0 bb0 bb1; (try dsimp only at N9); (try dsimp only); (try k_fold)) | (refine' one_int _ _ _ _ _ _ _ 65536 _ _ _ _ _ ?qzU ?qzh0 ?qzh1 ?qzh2 ?qzh3 ?qzh4 ?qzh6 ?qzh5 ?qzh7 _ _ _ _ _ _ _ _ _ _ _ _ _ _ _ _ _ _ _ _ _ _ ?k1 ?k2 ?k3 ?k4 ?k5 ?kK ?kd ?ku ?_; walk_at "mine side"; (case qzU => walk_at "mine upd"); (case qzh6 => k_mem); (case qzh7 => walk_at "mine ints"); (case qzh0 => walk_at "mine omega"; skip); (case qzh1 => walk_at "mine omega"; skip); (case qzh2 => walk_at "mine omega"; skip); (case qzh3 => exact Nat.le_of_ble_eq_true rfl); (case qzh4 => exact Nat.le_of_ble_eq_true rfl); (case qzh5 => walk_at "mine ane"); refine o_7 ?_; intro dr9 t9 aa9 bb9 u9 v9 m9 h9 tk9 F9 N9 lo9 hi9 aa0 bb0 bb1; (try dsimp only at N9); (try dsimp only); (try k_fold)) | (refine' one_int _ _ _ _ _ _ _ 16777219 _ _ _ _ _ ?qzU ?qzh0 ?qzh1 ?qzh2 ?qzh3 ?qzh4 ?qzh6 ?qzh5 ?qzh7 _ _ _ _ _ _ _ _ _ _ _ _ _ _ _ _ _ _ _ _ _ _ ?k1 ?k2 ?k3 ?k4 ?k5 ?kK ?kd ?ku ?_; walk_at "mine side"; (case qzU => walk_at "mine upd"); (case qzh6 => k_mem); (case qzh7 => walk_at "mine ints"); (case qzh0 => walk_at "mine omega"; skip); (case qzh1 => walk_at "mine omega"; skip); (case qzh2 => walk_at "mine omega"; skip); (case qzh3 => exact Nat.le_of_ble_eq_true rfl); (case qzh4 => exact Nat.le_of_ble_eq_true rfl); (case qzh5 => walk_at "mine ane"); refine o_7 ?_; intro dr9 t9 aa9 bb9 u9 v9 m9 h9 tk9 F9 N9 lo9 hi9 aa0 bb0 bb1; (try dsimp only at N9); (try dsimp only); (try k_fold)))))
  k_with "call ref" => ((k_here; (with_reducible show wpAny _ _ (call (Value.ref 366) [Value.ref _]) _ _ _); k_dflt (first | (refine' snap_none_m _ _ _ _ _ _ _ _ _ _ _ _ _ _ _ _ ?qzh0 ?qzh4 _ _ _ _ _ _ _ _ _ _ _ _ _ _ _ _ _ _ _ _ _ _ ?k1 ?k2 ?k3 ?k4 ?k5 ?kK ?kd ?ku ?_; walk_at "mine side"; (case qzh4 => walk_at "mine mem"); (case qzh0 => walk_at "mine omega"; skip); refine o_8 ?_; intro h9 tk9 F9 N9; (try dsimp only); (try k_fold)) | (refine' snap_raise_m _ _ _ _ _ _ _ _ _ _ _ _ _ _ _ _ ?qzh9 ?qzh0 _ ?qzh1 ?qzh2 ?qzh3 ?qzh4 _ _ _ _ _ _ _ _ _ _ _ _ _ _ _ _ _ _ _ _ _ _ ?k1 ?k2 ?k3 ?k4 ?k5 ?kK ?kd ?ku ?_; walk_at "mine side"; (case qzh4 => walk_at "mine mem"); (case qzh9 => kba_ints); (case qzh1 => walk_at "mine omega"; skip); (case qzh2 => walk_at "mine omega"; skip); (case qzh3 => walk_at "mine omega"; skip); (case qzh0 => walk_at "mine omega"; skip); intro e9 G9 h9 tk9 F9 R9 U9; (try dsimp only)) | (refine' snap_ok_m _ _ _ _ _ _ _ _ _ _ _ _ _ _ _ _ ?qzh9 ?qzh0 ?qzh5 _ ?qzh1 ?qzh2 ?qzh3 ?qzh4 _ _ _ _ _ _ _ _ _ _ _ _ _ _ _ _ _ _ _ _ _ _ ?k1 ?k2 ?k3 ?k4 ?k5 ?kK ?kd ?ku ?_; walk_at "mine side"; (case qzh4 => walk_at "mine mem"); (case qzh9 => kba_ints); (case qzh1 => walk_at "mine omega"; skip); (case qzh2 => walk_at "mine omega"; skip); (case qzh3 => walk_at "mine omega"; skip); (case qzh0 => walk_at "mine omega"; skip); (case qzh5 => walk_at "mine omega"; skip); refine o_9 ?_; intro dd9 ka9 t9 u9 v9 c9 h9 tk9 F9 N9 b9; (try dsimp only); (try k_fold)))))
  k_with "call ref" => ((k_here; (with_reducible show wpAny _ _ (call (Value.ref 302) [Value.bytes _ _, Value.int 12 _]) _ _ _); k_dflt (first | (refine' utags1 _ _ _ _ _ _ (by kba_ints) ?qzh0 ?qzh1 ?qzh2 ?qzh3 ?qzh4 ?qzh5 ?qzh6 _ _ _ _ _ _ _ _ _ _ _ _ _ _ _ _ _ _ _ _ _ _ _ ?k1 ?k2 ?k3 ?k4 ?k5 ?kK ?kd ?ku ?_; (case qzh0 => walk_at "mine omega"); (case qzh1 => walk_at "mine omega"); walk_at "mine side"; (case qzh2 => assumption); (case qzh3 => assumption); (case qzh4 => assumption); (case qzh5 => walk_at "mine omega"; skip); (case qzh6 => walk_at "mine omega"; skip); refine o_11 ?_; intro dd9 ff9 t9 ka9 kb9 x9 h9 tk9 F9 N9; (try dsimp only); (try k_fold)) | (refine' utags0 _ _ _ _ _ _ (by kba_ints) ?qzh0 ?qzh1 ?qzh2 ?qzh5 ?qzh6 _ _ _ _ _ _ _ _ _ _ _ _ _ _ _ _ _ _ _ _ _ _ _ ?k1 ?k2 ?k3 ?k4 ?k5 ?kK ?kd ?ku ?_; (case qzh0 => walk_at "mine omega"); (case qzh1 => walk_at "mine omega"); walk_at "mine side"; (case qzh2 => assumption); (case qzh5 => walk_at "mine omega"; skip); (case qzh6 => walk_at "mine omega"; skip); refine o_12 ?_; intro dd9 ff9 t9 ka9 kb9 h9 tk9 F9 N9; (try dsimp only); (try k_fold)))))
  k_with "call ref" => ((k_here; (with_reducible show wpAny _ _ (call (Value.ref 345) [Value.int _ _]) _ _ _); k_dflt (first | (refine' short_t _ _ _ ?qzh0 _ _ _ _ _ _ _ _ _ _ _ _ _ _ _ _ _ _ _ _ _ _ _ ?k1 ?k2 ?k3 ?k4 ?k5 ?kK ?kd ?ku ?_; walk_at "mine side"; (case qzh0 => walk_at "mine mod"); refine o_8 ?_; intro h9 tk9 F9 N9; (try dsimp only); (try k_fold)) | (refine' short_f _ _ _ ?qzh0 _ _ _ _ _ _ _ _ _ _ _ _ _ _ _ _ _ _ _ _ _ _ _ ?k1 ?k2 ?k3 ?k4 ?k5 ?kK ?kd ?ku ?_; walk_at "mine side"; (case qzh0 => walk_at "mine mod"); refine o_8 ?_; intro h9 tk9 F9 N9; (try dsimp only); (try k_fold)))))
  k_with "mine mod" => (((try rw [fd8]); omega))
  k_with "leaving ref" => ((k_here; refine' leave_mineOn ?k1 ?k2 ?k3 ?k4 ?k5 ?_; (case k3 => assumption); (case k2 => assumption); (case k1 => k_asm); (case k4 => assumption); (case k5 => k_dflt (exact rfl)); intro h' R' U'; (try dsimp only)))
  trivial
theorem top_off_X9 : True := by
  w_top off
  trivial
set_option maxHeartbeats 400000 in
theorem put16_raise (w : World) (n : Int) (t : Tok) (h1 : 65536 ≤ n) (news : List (Addr × Obj)) :
   SpecE 6 w 184 [.int n t] news 56 := by
  unfold SpecE
  k_fill
  intro p loose mean mg mb dp un gd cn cs a ccd cl outer A₀ base h₀ L m s Q E B F X N T hck hdp hun hret
  walk_at "mine enter"
  k_steps
  all_goals exact raised_end hret (by assumption) (by assumption) (by assumption) (by walk_at "mine raised")
set_option maxHeartbeats 400000 in
theorem get_raise (w : World) (b : Array UInt8) (ks : List Int) (tb : Tok) (hb : KBw.bInts b = ks) (hl : ks.length ≤ 1000) (at_ many : Int) (t u : Tok) (h0 : 0 ≤ at_) (h1 : 0 ≤ many) (h3 : many ≤ 7) (h4 : at_ ≤ 1000) (h2 : ks.length < at_ + many) (news : List (Addr × Obj)) :
   SpecE 5 w 177 [.bytes b tb, .int at_ t, .int many u] news 44 := by
  unfold SpecE
  k_fill
  intro p loose mean mg mb dp un gd cn cs a ccd cl outer A₀ base h₀ L m s Q E B F X N T hck hdp hun hret
  walk_at "mine enter"
  k_steps
  all_goals exact raised_end hret (by assumption) (by assumption) (by assumption) (by walk_at "mine raised")
theorem top_off_L4 : True := by
  w_top off
  trivial
set_option maxHeartbeats 1000000 in
theorem get16_raise (w : World) (b : Array UInt8) (ks : List Int) (tb : Tok) (hb : KBw.bInts b = ks) (hl : ks.length ≤ 1000) (at_ : Int) (t : Tok) (h0 : 0 ≤ at_) (h4 : at_ ≤ 1000) (h2 : ks.length < at_ + 2) (news : List (Addr × Obj)) :
   SpecE 7 w 198 [.bytes b tb, .int at_ t] news 44 := by
  unfold SpecE
  k_fill
  intro p loose mean mg mb dp un gd cn cs a ccd cl outer A₀ base h₀ L m s Q E B F X N T hck hdp hun hret
  walk_at "mine enter"
  k_steps
  all_goals exact raised_end hret (by assumption) (by assumption) (by assumption) (by walk_at "mine raised")
set_option maxHeartbeats 2000000 in
theorem pack_raise (w : World) (x d : Addr) (k1 k2 k3 k4 t1 t2 t3 tb : Tok) (p' q' c : Int) (b : Array UInt8) (ks : List Int) (hb : KBw.bInts b = ks) (hl : ks.length ≤ 1000) (news : List (Addr × Obj))
    (hp : 0 ≤ p') (hq : 0 ≤ q') (hc : 0 ≤ c) (hc9 : c < 1000000000) (hd : 255 < p' ∨ 255 < q' ∨ (¬ (c < 256 ∧ c % 4 = 3) ∧ (65535 < c ∨ c / 256 % 4 = 3))) :
   SpecE 9 w 352 [.ref x] (LinkAt w.params x d k1 k2 k3 k4 t1 t2 t3 tb p' q' c b ++ news) 56 := by
  unfold SpecE
  simp only [List.cons_append, List.nil_append]
  unfold llcD
  k_fill
  intro p loose mean mg mb dp un gd cn cs a ccd cl outer A₀ base h₀ L m s Q E B F X N T hck hdp hun hret
  walk_at "mine enter"
  k_steps
  by_cases g1 : c % 4 = 3
  all_goals k_steps
  all_goals (first | (have : c < 256 := by assumption); skip | by_cases g2 : c / 256 % 4 = 3)
  all_goals k_steps
  all_goals first | exact raised_end hret (by assumption) (by assumption) (by assumption) (by walk_at "mine raised") | skip
  all_goals (first | (have : c < 256 := by assumption); skip | by_cases g3 : 65535 < c)
  all_goals k_steps
  all_goals first | exact raised_end hret (by assumption) (by assumption) (by assumption) (by walk_at "mine raised") | skip
  all_goals (by_cases g4 : 255 < p')
  all_goals k_steps
  all_goals first | exact raised_end hret (by assumption) (by assumption) (by assumption) (by walk_at "mine raised") | skip
theorem top_off_U1 : True := by
  w_top off
  trivial
theorem getD_lt {ks : List Int} {i : Nat} (h : i < ks.length) : ks.getD i 0 = ks[i] := by rw [List.getD_eq_getElem?_getD, List.getElem?_eq_getElem h, Option.getD_some]
theorem getD_ge {ks : List Int} {i : Nat} (h : ks.length ≤ i) : ks.getD i 0 = 0 := by rw [List.getD_eq_getElem?_getD, List.getElem?_eq_none h, Option.getD_none]
theorem cut_cons {ks : List Int} {i j : Int} (h0 : 0 ≤ i) (h : i < j) (h2 : j ≤ ks.length) : cut ks i j = ks.getD i.toNat 0 :: cut ks (i + 1) j := by
  have hi : i.toNat < ks.length := by omega
  unfold cut
  rw [List.drop_eq_getElem_cons hi, getD_lt hi]
  have e : j.toNat - i.toNat = (j.toNat - (i + 1).toNat) + 1 := by omega
  have e2 : (i + 1).toNat = i.toNat + 1 := by omega
  rw [e, List.take_succ_cons, e2]
theorem cut_nil {ks : List Int} {i : Int} : cut ks i i = [] := by unfold cut; rw [Nat.sub_self, List.take_zero]
theorem cut1 {ks : List Int} {i : Int} (h0 : 0 ≤ i) (h : i + 1 ≤ ks.length) : cut ks i (i + 1) = [ks.getD i.toNat 0] := by
  rw [cut_cons h0 (by omega) h, cut_nil]
theorem cut2 {ks : List Int} {i : Int} (h0 : 0 ≤ i) (h : i + 2 ≤ ks.length) : cut ks i (i + 2) = [ks.getD i.toNat 0, ks.getD (i + 1).toNat 0] := by
  rw [cut_cons h0 (by omega) h, show i + 2 = (i + 1) + 1 by omega, cut1 (by omega) (by omega)]
theorem cut3 {ks : List Int} {i : Int} (h0 : 0 ≤ i) (h : i + 3 ≤ ks.length) : cut ks i (i + 3) = [ks.getD i.toNat 0, ks.getD (i + 1).toNat 0, ks.getD (i + 2).toNat 0] := by
  rw [cut_cons h0 (by omega) h, show i + 3 = (i + 1) + 2 by omega, cut2 (by omega) (by omega), show i + 1 + 1 = i + 2 by omega]
theorem at_byte {b : Array UInt8} {ks : List Int} (hb : KBw.bInts b = ks) (i : Nat) : 0 ≤ ks.getD i 0 ∧ ks.getD i 0 < 256 := by
  by_cases h : i < ks.length
  · rw [getD_lt h]
    exact KBw.ints_in (b := b) (by rw [hb]; exact List.getElem_mem h)
  · rw [getD_ge (by omega)]; decide
theorem getF1 (k : Int) (h : 0 ≤ k ∧ k < 256) : getF [k] = k := by
  unfold getF
  rw [List.foldl_cons, List.foldl_nil, or_byte (by decide) h.1 h.2]; omega
theorem getF2 (j k : Int) (hj : 0 ≤ j ∧ j < 256) (h : 0 ≤ k ∧ k < 256) : getF [j, k] = j * 256 + k := by
  unfold getF
  rw [List.foldl_cons, List.foldl_cons, List.foldl_nil, or_byte (by decide) hj.1 hj.2, or_byte (by omega) h.1 h.2]; omega
theorem getF3 (i j k : Int) (hi : 0 ≤ i ∧ i < 256) (hj : 0 ≤ j ∧ j < 256) (h : 0 ≤ k ∧ k < 256) : getF [i, j, k] = i * 65536 + j * 256 + k := by
  unfold getF
  rw [List.foldl_cons, List.foldl_cons, List.foldl_cons, List.foldl_nil, or_byte (by decide) hi.1 hi.2, or_byte (by omega) hj.1 hj.2, or_byte (by omega) h.1 h.2]; omega
theorem get1v (w : World) (b : Array UInt8) (ks : List Int) (tb : Tok) (hb : KBw.bInts b = ks) (hl : ks.length ≤ 1000) (at_ : Int) (t u : Tok) (h0 : 0 ≤ at_) (h2 : at_ + 1 ≤ ks.length) (news : List (Addr × Obj)) :
   Spec 4 w 177 [.bytes b tb, .int at_ t, .int 1 u] news (fun v nx => (0 ≤ ks.getD at_.toNat 0 ∧ ks.getD at_.toNat 0 < 256) ∧ ∃ (t : Tok), v = .int (ks.getD at_.toNat 0) t ∧ nx = news) := by
  have e := get_sp w b ks tb hb hl at_ 1 t u h0 (by decide) (by decide) (by omega) news
  rw [cut1 h0 h2, getF1 _ (at_byte hb _)] at e
  intro p loose mean mg mb dp un gd cn cs a ccd cl outer A₀ base h₀ L m s Q E B F X N T hck hdp hun hret
  exact e p loose mean mg mb dp un gd cn cs a ccd cl outer A₀ base h₀ L m s Q E B F X N T hck hdp hun fun v nx h' tk' F' N' r => hret v nx h' tk' F' N' ⟨at_byte hb _, r⟩
theorem get3v (w : World) (b : Array UInt8) (ks : List Int) (tb : Tok) (hb : KBw.bInts b = ks) (hl : ks.length ≤ 1000) (at_ : Int) (t u : Tok) (h0 : 0 ≤ at_) (h2 : at_ + 3 ≤ ks.length) (news : List (Addr × Obj)) :
   Spec 4 w 177 [.bytes b tb, .int at_ t, .int 3 u] news (fun v nx => (0 ≤ ks.getD at_.toNat 0 ∧ ks.getD at_.toNat 0 < 256) ∧ ∃ (t : Tok), v = .int (ks.getD at_.toNat 0 * 65536 + ks.getD (at_ + 1).toNat 0 * 256 + ks.getD (at_ + 2).toNat 0) t ∧ nx = news) := by
  have e := get_sp w b ks tb hb hl at_ 3 t u h0 (by decide) (by decide) (by omega) news
  rw [cut3 h0 h2, getF3 _ _ _ (at_byte hb _) (at_byte hb _) (at_byte hb _)] at e
  intro p loose mean mg mb dp un gd cn cs a ccd cl outer A₀ base h₀ L m s Q E B F X N T hck hdp hun hret
  exact e p loose mean mg mb dp un gd cn cs a ccd cl outer A₀ base h₀ L m s Q E B F X N T hck hdp hun fun v nx h' tk' F' N' r => hret v nx h' tk' F' N' ⟨at_byte hb _, r⟩
theorem get16v (w : World) (b : Array UInt8) (ks : List Int) (tb : Tok) (hb : KBw.bInts b = ks) (hl : ks.length ≤ 1000) (at_ : Int) (t : Tok) (h0 : 0 ≤ at_) (h2 : at_ + 2 ≤ ks.length) (news : List (Addr × Obj)) :
   Spec 6 w 198 [.bytes b tb, .int at_ t] news (fun v nx => ((0 ≤ ks.getD at_.toNat 0 ∧ ks.getD at_.toNat 0 < 256) ∧ 0 ≤ ks.getD (at_ + 1).toNat 0 ∧ ks.getD (at_ + 1).toNat 0 < 256) ∧ ∃ (t : Tok), v = .int (ks.getD at_.toNat 0 * 256 + ks.getD (at_ + 1).toNat 0) t ∧ nx = news) := by
  have e := get16_sp w b ks tb hb hl at_ t h0 h2 news
  rw [cut2 h0 h2, getF2 _ _ (at_byte hb _) (at_byte hb _)] at e
  intro p loose mean mg mb dp un gd cn cs a ccd cl outer A₀ base h₀ L m s Q E B F X N T hck hdp hun hret
  exact e p loose mean mg mb dp un gd cn cs a ccd cl outer A₀ base h₀ L m s Q E B F X N T hck hdp hun fun v nx h' tk' F' N' r => hret v nx h' tk' F' N' ⟨⟨at_byte hb _, at_byte hb _⟩, r⟩
theorem get1at2 (w : World) (b : Array UInt8) (ks : List Int) (tb : Tok) (hb : KBw.bInts b = ks) (hl : ks.length ≤ 1000) (t u : Tok) (h2 : 3 ≤ ks.length) (news : List (Addr × Obj)) :
   Spec 4 w 177 [.bytes b tb, .int 2 t, .int 1 u] news (fun v nx => (0 ≤ ks.getD 2 0 ∧ ks.getD 2 0 < 256) ∧ ∃ (t : Tok), v = .int (ks.getD 2 0) t ∧ nx = news) :=
  get1v w b ks tb hb hl 2 t u (by decide) (by omega) news
theorem get3at0 (w : World) (b : Array UInt8) (ks : List Int) (tb : Tok) (hb : KBw.bInts b = ks) (hl : ks.length ≤ 1000) (t u : Tok) (h2 : 3 ≤ ks.length) (news : List (Addr × Obj)) :
   Spec 4 w 177 [.bytes b tb, .int 0 t, .int 3 u] news (fun v nx => (0 ≤ ks.getD 0 0 ∧ ks.getD 0 0 < 256) ∧ ∃ (t : Tok), v = .int (ks.getD 0 0 * 65536 + ks.getD 1 0 * 256 + ks.getD 2 0) t ∧ nx = news) :=
  get3v w b ks tb hb hl 0 t u (by decide) (by omega) news
theorem get16at (w : World) (b : Array UInt8) (ks : List Int) (tb : Tok) (hb : KBw.bInts b = ks) (hl : ks.length ≤ 1000) (n : Nat) (t : Tok) (h2 : n + 2 ≤ ks.length) (news : List (Addr × Obj)) :
   Spec 6 w 198 [.bytes b tb, .int n t] news (fun v nx => ((0 ≤ ks.getD n 0 ∧ ks.getD n 0 < 256) ∧ 0 ≤ ks.getD (n + 1) 0 ∧ ks.getD (n + 1) 0 < 256) ∧ ∃ (t : Tok), v = .int (ks.getD n 0 * 256 + ks.getD (n + 1) 0) t ∧ nx = news) := by
  have := get16v w b ks tb hb hl n t (by omega) (by omega) news
  rw [show ((n : Int) + 1).toNat = n + 1 by omega, Int.toNat_natCast] at this
  exact this
theorem get16at2 (w : World) (b : Array UInt8) (ks : List Int) (tb : Tok) (hb : KBw.bInts b = ks) (hl : ks.length ≤ 1000) (t : Tok) (h2 : 4 ≤ ks.length) (news : List (Addr × Obj)) :
   Spec 6 w 198 [.bytes b tb, .int 2 t] news (fun v nx => ((0 ≤ ks.getD 2 0 ∧ ks.getD 2 0 < 256) ∧ 0 ≤ ks.getD 3 0 ∧ ks.getD 3 0 < 256) ∧ ∃ (t : Tok), v = .int (ks.getD 2 0 * 256 + ks.getD 3 0) t ∧ nx = news) := get16at w b ks tb hb hl 2 t h2 news
theorem get16at3 (w : World) (b : Array UInt8) (ks : List Int) (tb : Tok) (hb : KBw.bInts b = ks) (hl : ks.length ≤ 1000) (t : Tok) (h2 : 5 ≤ ks.length) (news : List (Addr × Obj)) :
   Spec 6 w 198 [.bytes b tb, .int 3 t] news (fun v nx => ((0 ≤ ks.getD 3 0 ∧ ks.getD 3 0 < 256) ∧ 0 ≤ ks.getD 4 0 ∧ ks.getD 4 0 < 256) ∧ ∃ (t : Tok), v = .int (ks.getD 3 0 * 256 + ks.getD 4 0) t ∧ nx = news) := get16at w b ks tb hb hl 3 t h2 news
theorem cut_tail {c : Array UInt8} {ks : List Int} {i : Int} (h : KBw.bInts c = (ks.drop (clipAt ks.length i)).take (ks.length - clipAt ks.length i)) (h0 : 0 ≤ i) (h1 : i ≤ ks.length) : KBw.bInts c = ks.drop i.toNat := by
  rw [h, clipAt_in h0 h1, List.take_of_length_le (by rw [List.length_drop]; omega)]
theorem cut_tail3 {c : Array UInt8} {ks : List Int} (h : KBw.bInts c = (ks.drop (clipAt ks.length 3)).take (ks.length - clipAt ks.length 3)) (h1 : 3 ≤ ks.length) : KBw.bInts c = ks.drop 3 := cut_tail h (by decide) (by omega)
theorem cut_tail4 {c : Array UInt8} {ks : List Int} (h : KBw.bInts c = (ks.drop (clipAt ks.length 4)).take (ks.length - clipAt ks.length 4)) (h1 : 4 ≤ ks.length) : KBw.bInts c = ks.drop 4 := cut_tail h (by decide) (by omega)
theorem sub_refl {α : Type} {r : List α} : ∀ p ∈ r, p ∈ r := fun _ h => h
theorem sub_keep {α : Type} {r r' : List α} {x : α} (h : ∀ p ∈ r, p ∈ r') : ∀ p ∈ x :: r, p ∈ x :: r' := fun p hp => (List.mem_cons.mp hp).elim (fun e => e ▸ List.mem_cons_self) fun q => List.mem_cons_of_mem _ (h p q)
theorem sub_skip {α : Type} {r r' : List α} {x : α} (h : ∀ p ∈ r, p ∈ r') : ∀ p ∈ r, p ∈ x :: r' := fun p hp => List.mem_cons_of_mem _ (h p hp)
theorem top_off_U2 : True := by
  w_top off
  trivial
theorem kw_12 : True := by
  k_with "call ref" => ((k_here; (with_reducible show wpAny _ _ (call (Value.ref 177) [Value.bytes _ _, Value.int 2 _, Value.int 1 _]) _ _ _); k_dflt (first | (refine' get1at2 _ _ _ _ (by kba_ints) ?qzh0 _ _ ?qzh1 _ _ _ _ _ _ _ _ _ _ _ _ _ _ _ _ _ _ _ _ _ _ _ ?k1 ?k2 ?k3 ?k4 ?k5 ?kK ?kd ?ku ?_; (case qzh0 => walk_at "mine omega"); (case qzh1 => walk_at "mine omega"); walk_at "mine side"; refine o_2 ?_; intro t9 h9 tk9 F9 N9 lo9 hi9; (try dsimp only); (try k_fold)))))
  k_with "call ref" => ((k_here; (with_reducible show wpAny _ _ (call (Value.ref 177) [Value.bytes _ _, Value.int 0 _, Value.int 3 _]) _ _ _); k_dflt (first | (refine' get3at0 _ _ _ _ (by kba_ints) ?qzh0 _ _ ?qzh1 _ _ _ _ _ _ _ _ _ _ _ _ _ _ _ _ _ _ _ _ _ _ _ ?k1 ?k2 ?k3 ?k4 ?k5 ?kK ?kd ?ku ?_; (case qzh0 => walk_at "mine omega"); (case qzh1 => walk_at "mine omega"); walk_at "mine side"; refine o_2 ?_; intro t9 h9 tk9 F9 N9 lo9 hi9; (try dsimp only); (try k_fold)))))
  k_with "call ref" => ((k_here; (with_reducible show wpAny _ _ (call (Value.ref 198) [Value.bytes _ _, Value.int 2 _]) _ _ _); k_dflt (first | (refine' get16at2 _ _ _ _ (by kba_ints) ?qzh0 _ ?qzh1 _ _ _ _ _ _ _ _ _ _ _ _ _ _ _ _ _ _ _ _ _ _ _ ?k1 ?k2 ?k3 ?k4 ?k5 ?kK ?kd ?ku ?_; (case qzh0 => walk_at "mine omega"); (case qzh1 => walk_at "mine omega"); walk_at "mine side"; refine o_3 ?_; intro t9 h9 tk9 F9 N9 lo9 hi9 lo8 hi8; (try dsimp only); (try k_fold)))))
  k_with "call ref" => ((k_here; (with_reducible show wpAny _ _ (call (Value.ref 198) [Value.bytes _ _, Value.int 3 _]) _ _ _); k_dflt (first | (refine' get16at3 _ _ _ _ (by kba_ints) ?qzh0 _ ?qzh1 _ _ _ _ _ _ _ _ _ _ _ _ _ _ _ _ _ _ _ _ _ _ _ ?k1 ?k2 ?k3 ?k4 ?k5 ?kK ?kd ?ku ?_; (case qzh0 => walk_at "mine omega"); (case qzh1 => walk_at "mine omega"); walk_at "mine side"; refine o_3 ?_; intro t9 h9 tk9 F9 N9 lo9 hi9 lo8 hi8; (try dsimp only); (try k_fold)))))
  trivial
set_option maxHeartbeats 1000000 in
theorem unpack1 (w : World) (b : Array UInt8) (ks : List Int) (tb : Tok) (hb : KBw.bInts b = ks) (hl : ks.length ≤ 1000) (hn : 3 ≤ ks.length) (hs : ks.getD 2 0 % 4 = 3) (news : List (Addr × Obj)) :
   Spec 8 w 359 [.bytes b tb] news (fun v nx => ∃ x d k1 k2 k3 k4 t1 t2 t3 t4 c', v = .ref x ∧ nx = LinkAt w.params x d k1 k2 k3 k4 t1 t2 t3 t4 (ks.getD 0 0) (ks.getD 1 0) (ks.getD 2 0) c' ++ news ∧ KBw.bInts c' = ks.drop 3 ∧ (∀ p ∈ news, p.1 < d) ∧ d < x) := by
  unfold Spec
  k_fill
  intro p loose mean mg mb dp un gd cn cs a ccd cl outer A₀ base h₀ L m s Q E B F X N T hck hdp hun hret
  walk_at "mine enter"
  k_steps
  all_goals (rename News h₀ L _ _ => kNN)
  all_goals exact hret _ _ _ _ (by k_asm) kNN ⟨_, _, _, _, _, _, _, _, _, _, _, rfl, rfl, cut_tail3 (by assumption) hn, by assumption, by assumption⟩
set_option maxHeartbeats 1000000 in
theorem unpack2 (w : World) (b : Array UInt8) (ks : List Int) (tb : Tok) (hb : KBw.bInts b = ks) (hl : ks.length ≤ 1000) (hn : 4 ≤ ks.length) (hs : ¬ ks.getD 2 0 % 4 = 3) (hs2 : ¬ (ks.getD 2 0 = 0 ∧ ks.getD 3 0 % 4 = 3)) (news : List (Addr × Obj)) :
   Spec 8 w 359 [.bytes b tb] news (fun v nx => ∃ x d k1 k2 k3 k4 t1 t2 t3 t4 c', v = .ref x ∧ nx = LinkAt w.params x d k1 k2 k3 k4 t1 t2 t3 t4 (ks.getD 0 0) (ks.getD 1 0) (ks.getD 2 0 * 256 + ks.getD 3 0) c' ++ news ∧ KBw.bInts c' = ks.drop 4 ∧ (∀ p ∈ news, p.1 < d) ∧ d < x) := by
  unfold Spec
  by_cases hz : ks.getD 2 0 = 0
  · have hz3 : ¬ ks.getD 3 0 % 4 = 3 := fun h => hs2 ⟨hz, h⟩
    k_fill
    intro p loose mean mg mb dp un gd cn cs a ccd cl outer A₀ base h₀ L m s Q E B F X N T hck hdp hun hret
    walk_at "mine enter"
    k_steps
    all_goals (try (exfalso; omega))
    all_goals (rename News h₀ L _ _ => kNN)
    all_goals exact hret _ _ _ _ (by k_asm) kNN ⟨_, _, _, _, _, _, _, _, _, _, _, rfl, rfl, cut_tail4 (by assumption) hn, by assumption, by assumption⟩
  · k_fill
    intro p loose mean mg mb dp un gd cn cs a ccd cl outer A₀ base h₀ L m s Q E B F X N T hck hdp hun hret
    walk_at "mine enter"
    k_steps
    all_goals (try (exfalso; omega))
    all_goals (rename News h₀ L _ _ => kNN)
    all_goals exact hret _ _ _ _ (by k_asm) kNN ⟨_, _, _, _, _, _, _, _, _, _, _, rfl, rfl, cut_tail4 (by assumption) hn, by assumption, by assumption⟩
set_option maxHeartbeats 1000000 in
theorem unpack_raise (w : World) (b : Array UInt8) (ks : List Int) (tb : Tok) (hb : KBw.bInts b = ks) (hl : ks.length ≤ 1000) (hd : ks.length < 3 ∨ (ks.length = 3 ∧ ¬ ks.getD 2 0 % 4 = 3)) (news : List (Addr × Obj)) :
   SpecE 9 w 359 [.bytes b tb] news 44 := by
  unfold SpecE
  rcases hd with hd | ⟨hd, hs⟩
  · k_fill
    intro p loose mean mg mb dp un gd cn cs a ccd cl outer A₀ base h₀ L m s Q E B F X N T hck hdp hun hret
    walk_at "mine enter"
    k_steps
    all_goals exact raised_end hret (by assumption) (by assumption) (by assumption) (by walk_at "mine raised")
  · k_fill
    intro p loose mean mg mb dp un gd cn cs a ccd cl outer A₀ base h₀ L m s Q E B F X N T hck hdp hun hret
    walk_at "mine enter"
    k_steps
    all_goals exact raised_end hret (by assumption) (by assumption) (by assumption) (by walk_at "mine raised")
theorem top_off_S2 : True := by
  w_top off
  trivial
theorem cut_tail5 {c : Array UInt8} {ks : List Int} (h : KBw.bInts c = (ks.drop (clipAt ks.length 5)).take (ks.length - clipAt ks.length 5)) (h1 : 5 ≤ ks.length) : KBw.bInts c = ks.drop 5 := cut_tail h (by decide) (by omega)
set_option maxHeartbeats 1000000 in
theorem snap_none (w : World) (x d : Addr) (k1 k2 k3 k4 t1 t2 t3 tb : Tok) (p' q' c : Int) (b : Array UInt8) (news : List (Addr × Obj)) (hn : ¬ (p' = 170 ∧ q' = 170 ∧ c = 3)) :
   Spec 8 w 366 [.ref x] (LinkAt w.params x d k1 k2 k3 k4 t1 t2 t3 tb p' q' c b ++ news) (fun v nx => v = .none ∧ nx = LinkAt w.params x d k1 k2 k3 k4 t1 t2 t3 tb p' q' c b ++ news) := by
  unfold Spec
  simp only [List.cons_append, List.nil_append]
  unfold llcD
  k_fill
  intro p loose mean mg mb dp un gd cn cs a ccd cl outer A₀ base h₀ L m s Q E B F X N T hck hdp hun hret
  walk_at "mine enter"
  k_steps
  all_goals first | walk_at "mine absurd" | exact hret _ _ _ _ (by k_asm) (by walk_at "mine news") ⟨rfl, rfl⟩
set_option maxHeartbeats 1000000 in
theorem snap_raise (w : World) (x d : Addr) (k1 k2 k3 k4 t1 t2 t3 tb : Tok) (b : Array UInt8) (ks : List Int) (hb : KBw.bInts b = ks) (hl : ks.length < 5) (news : List (Addr × Obj)) :
   SpecE 8 w 366 [.ref x] (LinkAt w.params x d k1 k2 k3 k4 t1 t2 t3 tb 170 170 3 b ++ news) 44 := by
  unfold SpecE
  simp only [List.cons_append, List.nil_append]
  unfold llcD
  k_fill
  intro p loose mean mg mb dp un gd cn cs a ccd cl outer A₀ base h₀ L m s Q E B F X N T hck hdp hun hret
  walk_at "mine enter"
  k_steps
  all_goals first | walk_at "mine absurd" | exact raised_end hret (by assumption) (by assumption) (by assumption) (by walk_at "mine raised")
set_option maxHeartbeats 1000000 in
theorem snap_ok (w : World) (x d : Addr) (k1 k2 k3 k4 t1 t2 t3 tb : Tok) (b : Array UInt8) (ks : List Int) (hb : KBw.bInts b = ks) (hl : ks.length ≤ 1000) (hn : 5 ≤ ks.length) (news : List (Addr × Obj)) :
   Spec 8 w 366 [.ref x] (LinkAt w.params x d k1 k2 k3 k4 t1 t2 t3 tb 170 170 3 b ++ news) (fun v nx => ∃ D k t1' t2' t3' c', v = .ref D ∧ nx = (D, { cls := .type "tuple", data := .seq #[.int (ks.getD 0 0 * 65536 + ks.getD 1 0 * 256 + ks.getD 2 0) t1', .int (ks.getD 3 0 * 256 + ks.getD 4 0) t2', .bytes c' t3'] k }) :: (LinkAt w.params x d k1 k2 k3 k4 t1 t2 t3 tb 170 170 3 b ++ news) ∧ KBw.bInts c' = ks.drop 5) := by
  unfold Spec
  simp only [List.cons_append, List.nil_append]
  unfold llcD
  k_fill
  intro p loose mean mg mb dp un gd cn cs a ccd cl outer A₀ base h₀ L m s Q E B F X N T hck hdp hun hret
  walk_at "mine enter"
  k_steps
  all_goals first | walk_at "mine absurd" | exact hret _ _ _ _ (by k_asm) (by walk_at "mine news") ⟨_, _, _, _, _, _, rfl, rfl, cut_tail5 (by assumption) hn⟩
theorem top_off_F0 : True := by
  w_top off
  trivial
def tabOk (K : Frag) : Bool := match K.lookup 206 with
  | some ⟨.type "tuple", _, .seq items _, _⟩ => (match items.toList with | [.int 33024 _, .int 34984 _] => true | _ => false)
  | _ => false
theorem tab_ok (P : Params) : tabOk (Mine.kept.heap_1 P) = true := by kernel_rfl
theorem tab_is {K : Frag} {h : Heap} (X : K.In h) (q : tabOk K = true) : ∃ items, IsTup h 206 items ∧ IntsAre items.toList [33024, 34984] := by
  unfold tabOk at q
  split at q
  · rename_i ho
    split at q
    · rename_i hi
      refine ⟨_, ⟨_, X _ _ ho, rfl, _, rfl⟩, ?_⟩
      rw [hi]
      repeat constructor
    · cases q
  · cases q
theorem bInts_inj {b c : Array UInt8} (h : KBw.bInts b = KBw.bInts c) : b = c := by
  have h' : b.toList.map (fun c => ((c.toNat : Nat) : Int)) = c.toList.map (fun c => ((c.toNat : Nat) : Int)) := h
  have : b.toList = c.toList := (List.map_inj_right fun x y e => UInt8.toNat.inj (Int.ofNat.inj e)).mp h'
  exact Array.toList_inj.mp this
section
variable {prog : Program} {w : World} {A : Around} {E : Value → Shared → Prop} {s : Shared} {h₀ : Heap} {L : Addr} {m : Str → Option Value} {P : Params} {x : Int} {u : Tok} {Q : Value → Shared → Prop}
theorem in206_t (F : Fr h₀ L s.heap m) (X : (Mine.kept.heap_1 P).In h₀) (hx : x = 33024 ∨ x = 34984) (h : Q (.bool true) s) : wpAny (model prog w) A (compareOp .In (.int x u) (.ref 206)) Q E s := by
  obtain ⟨items, ht, hi⟩ := tab_is (X.keeps F.keep) (tab_ok P)
  refine in_tuple_ints ht hi ?_
  have e : ([33024, 34984] : List Int).any (· == x) = true := by
    rcases hx with rfl | rfl <;> decide
  rw [e]; exact h
theorem in206_f (F : Fr h₀ L s.heap m) (X : (Mine.kept.heap_1 P).In h₀) (hx : x ≠ 33024 ∧ x ≠ 34984) (h : Q (.bool false) s) : wpAny (model prog w) A (compareOp .In (.int x u) (.ref 206)) Q E s := by
  obtain ⟨items, ht, hi⟩ := tab_is (X.keeps F.keep) (tab_ok P)
  refine in_tuple_ints ht hi ?_
  have e : ([33024, 34984] : List Int).any (· == x) = false := by
    simp [Ne.symm hx.1, Ne.symm hx.2]
  rw [e]; exact h
theorem notin206_t (F : Fr h₀ L s.heap m) (X : (Mine.kept.heap_1 P).In h₀) (hx : x = 33024 ∨ x = 34984) (h : Q (.bool false) s) : wpAny (model prog w) A (compareOp .NotIn (.int x u) (.ref 206)) Q E s := by
  obtain ⟨items, ht, hi⟩ := tab_is (X.keeps F.keep) (tab_ok P)
  refine notin_tuple_ints ht hi ?_
  have e : ([33024, 34984] : List Int).any (· == x) = true := by
    rcases hx with rfl | rfl <;> decide
  rw [e]; exact h
theorem ne_bytes_same {b c : Array UInt8} {t v : Tok} (hb : KBw.bInts b = KBw.bInts c) (h : Q (.bool false) s) : wpAny (model prog w) A (compareOp .NotEq (.bytes b t) (.bytes c v)) Q E s := by
  refine ne_bytes ?_
  rw [bInts_inj hb, bne_self_eq_false]; exact h
theorem eq_bytes_same {b c : Array UInt8} {t v : Tok} (hb : KBw.bInts b = KBw.bInts c) (h : Q (.bool true) s) : wpAny (model prog w) A (compareOp .Eq (.bytes b t) (.bytes c v)) Q E s := by
  refine eq_bytes ?_
  rw [bInts_inj hb, beq_self_eq_true]; exact h
end
theorem top_off_F1 : True := by
  w_top off
  trivial
def dueF (p q c : Int) : Option (List Int) := if 255 < p ∨ 255 < q then none else if c < 256 ∧ c % 4 = 3 then some [p, q, c] else if 65535 < c ∨ c / 256 % 4 = 3 then none else some [p, q, c / 256, c % 256]
theorem pack_sp (w : World) (x d : Addr) (k1 k2 k3 k4 t1 t2 t3 tb : Tok) (p' q' c : Int) (b : Array UInt8) (ks ds : List Int) (hb : KBw.bInts b = ks) (hl : ks.length ≤ 1000) (news : List (Addr × Obj))
    (hp : 0 ≤ p') (hq : 0 ≤ q') (hc : 0 ≤ c) (hd : dueF p' q' c = some ds) (hm : ∀ p ∈ LinkAt w.params x d k1 k2 k3 k4 t1 t2 t3 tb p' q' c b, p ∈ news) :
   Spec 8 w 352 [.ref x] news (fun v nx => (∃ (c' : Array UInt8) (t : Tok), v = .bytes c' t ∧ KBw.bInts c' = ds ++ ks) ∧ nx = news) := by
  unfold dueF at hd
  split at hd
  · cases hd
  · rename_i h1
    split at hd
    · rename_i h2
      cases hd
      exact Spec.mem (pack1 w x d k1 k2 k3 k4 t1 t2 t3 tb p' q' c b ks hb hl news hp (by omega) hq (by omega) hc h2.1 h2.2) hm
    · rename_i h2
      split at hd
      · cases hd
      · rename_i h3
        cases hd
        exact Spec.mem (pack2 w x d k1 k2 k3 k4 t1 t2 t3 tb p' q' c b ks hb hl news hp (by omega) hq (by omega) hc (by omega) h2 (by omega)) hm
theorem pack_no (w : World) (x d : Addr) (k1 k2 k3 k4 t1 t2 t3 tb : Tok) (p' q' c : Int) (b : Array UInt8) (ks : List Int) (hb : KBw.bInts b = ks) (hl : ks.length ≤ 1000) (news : List (Addr × Obj))
    (hp : 0 ≤ p') (hq : 0 ≤ q') (hc : 0 ≤ c) (hc9 : c < 1000000000) (hd : dueF p' q' c = none) (hm : ∀ p ∈ LinkAt w.params x d k1 k2 k3 k4 t1 t2 t3 tb p' q' c b, p ∈ news) :
   SpecE 9 w 352 [.ref x] news 56 := by
  refine SpecE.mem (pack_raise w x d k1 k2 k3 k4 t1 t2 t3 tb p' q' c b ks hb hl news hp hq hc hc9 ?_) hm
  unfold dueF at hd
  split at hd
  · omega
  · split at hd
    · cases hd
    · split at hd
      · rename_i h1 h2 h3
        omega
      · cases hd
theorem due_len {p q c : Int} {ds : List Int} (h : dueF p q c = some ds) : (ds.length = 3 ∧ c % 4 = 3 ∧ ds = [p, q, c]) ∨ (ds.length = 4 ∧ ¬ c / 256 % 4 = 3 ∧ c ≤ 65535 ∧ ¬ (c < 256 ∧ c % 4 = 3) ∧ ds = [p, q, c / 256, c % 256]) := by
  unfold dueF at h
  split at h
  · cases h
  · split at h
    · rename_i h2; cases h; exact .inl ⟨rfl, h2.2, rfl⟩
    · rename_i h2
      split at h
      · cases h
      · rename_i h3; cases h; exact .inr ⟨rfl, by omega, by omega, h2, rfl⟩
def tagD (P : Params) (k1 k2 k3 k4 : Tok) (v1 v2 v3 v4 : Value) : List DictEntry :=
  [{ hash := PyData.keyHash P (Str.ofString "kind"), key := .str (Str.ofString "kind") k1, val := v1 }, { hash := PyData.keyHash P (Str.ofString "priority"), key := .str (Str.ofString "priority") k2, val := v2 },
   { hash := PyData.keyHash P (Str.ofString "may_drop"), key := .str (Str.ofString "may_drop") k3, val := v3 }, { hash := PyData.keyHash P (Str.ofString "vlan"), key := .str (Str.ofString "vlan") k4, val := v4 }]
set_option maxHeartbeats 400000 in
theorem tag_sp (w : World) (a' b' e' : Int) (bb : Bool) (t1 t2 t4 : Tok) (news : List (Addr × Obj)) :
   Spec 3 w 230 [.int a' t1, .int b' t2, .bool bb, .int e' t4] news (fun v nx => ∃ x d k1 k2 k3 k4, v = .ref x ∧ nx = (x, instObj 230 d) :: (d, dictOf (tagD w.params k1 k2 k3 k4 (.int a' t1) (.int b' t2) (.bool bb) (.int e' t4)) 4) :: news ∧ (∀ p ∈ news, p.1 < d) ∧ d < x) := by
  unfold Spec
  k_fill
  intro p loose mean mg mb dp un gd cn cs a ccd cl outer A₀ base h₀ L m s Q E B F X N T hck hdp hun hret
  k_steps
  all_goals exact hret _ _ _ _ (by k_asm) (by k_asm) ⟨_, _, _, _, _, _, rfl, rfl, by assumption, by assumption⟩
abbrev TagAt (P : Params) (x d : Addr) (k1 k2 k3 k4 t1 t2 t4 : Tok) : List (Addr × Obj) :=
  [(x, instObj 230 d), (d, dictOf (tagD P k1 k2 k3 k4 (.int 33024 t1) (.int 1 t2) (.bool false) (.int 5 t4)) 4)]
set_option maxHeartbeats 1000000 in
theorem ptag_sp (w : World) (x d : Addr) (k1 k2 k3 k4 t1 t2 t4 : Tok) (news : List (Addr × Obj)) :
   Spec 8 w 275 [.ref x] (TagAt w.params x d k1 k2 k3 k4 t1 t2 t4 ++ news) (fun v nx => (∃ (c' : Array UInt8) (t : Tok), v = .bytes c' t ∧ KBw.bInts c' = [129, 0, 32, 5]) ∧ nx = TagAt w.params x d k1 k2 k3 k4 t1 t2 t4 ++ news) := by
  unfold Spec
  simp only [List.cons_append, List.nil_append]
  unfold tagD
  k_fill
  intro p loose mean mg mb dp un gd cn cs a ccd cl outer A₀ base h₀ L m s Q E B F X N T hck hdp hun hret
  walk_at "mine enter"
  k_steps
  all_goals exact hret _ _ _ _ (by k_asm) (by walk_at "mine news") ⟨⟨_, _, rfl, Eq.trans (by kba_ints) (by decide)⟩, rfl⟩
theorem top_off_F2 : True := by
  w_top off
  trivial
theorem kw_13 : True := by
  k_with "call ref" => ((k_here; (with_reducible show wpAny _ _ (call (Value.ref 230) [Value.int _ _, Value.int _ _, Value.bool _, Value.int _ _]) _ _ _); k_dflt (first | (refine' tag_sp _ _ _ _ _ _ _ _ _ _ _ _ _ _ _ _ _ _ _ _ _ _ _ _ _ _ _ _ _ _ _ ?k1 ?k2 ?k3 ?k4 ?k5 ?kK ?kd ?ku ?_; walk_at "mine side"; refine o_4 ?_; intro x9 d9 ka9 kb9 kc9 kd9 h9 tk9 F9 N9 l9 l8; (try unfold tagD at N9); (try k_lt l9); (try k_lt2 l8); (try dsimp only); (try k_fold)))))
  trivial
abbrev tupAt (tt : Addr) (items : Array Value) (n : Nat) : Addr × Obj := (tt, { cls := .type "tuple", data := .seq items n })
def frmD (P : Params) (k1 k2 k3 k4 k5 : Tok) (v1 v2 v3 v4 v5 : Value) : List DictEntry :=
  [{ hash := PyData.keyHash P (Str.ofString "target"), key := .str (Str.ofString "target") k1, val := v1 }, { hash := PyData.keyHash P (Str.ofString "source"), key := .str (Str.ofString "source") k2, val := v2 },
   { hash := PyData.keyHash P (Str.ofString "tags"), key := .str (Str.ofString "tags") k3, val := v3 }, { hash := PyData.keyHash P (Str.ofString "kind"), key := .str (Str.ofString "kind") k4, val := v4 }, { hash := PyData.keyHash P (Str.ofString "payload"), key := .str (Str.ofString "payload") k5, val := v5 }]
set_option maxHeartbeats 400000 in
theorem frm_sp0 (w : World) (tt : Addr) (items : Array Value) (n : Nat) (a' b' : Int) (b : Array UInt8) (t1 t2 tb : Tok) (news : List (Addr × Obj)) :
   Spec 3 w 264 [.int a' t1, .int b' t2, .ref tt, .none, .bytes b tb] (tupAt tt items n :: news) (fun v nx => ∃ x d k1 k2 k3 k4 k5, v = .ref x ∧ nx = (x, instObj 264 d) :: (d, dictOf (frmD w.params k1 k2 k3 k4 k5 (.int a' t1) (.int b' t2) (.ref tt) .none (.bytes b tb)) 5) :: tupAt tt items n :: news ∧ (∀ p ∈ tupAt tt items n :: news, p.1 < d) ∧ d < x) := by
  unfold Spec
  k_fill
  intro p loose mean mg mb dp un gd cn cs a ccd cl outer A₀ base h₀ L m s Q E B F X N T hck hdp hun hret
  k_steps
  all_goals exact hret _ _ _ _ (by k_asm) (by k_asm) ⟨_, _, _, _, _, _, _, rfl, rfl, by with_reducible assumption, by with_reducible assumption⟩
abbrev FrmAt (P : Params) (x d : Addr) (k1 k2 k3 k4 k5 t1 t2 tb : Tok) (tt : Addr) (b : Array UInt8) : List (Addr × Obj) :=
  [(x, instObj 264 d), (d, dictOf (frmD P k1 k2 k3 k4 k5 (.int 5 t1) (.int 6 t2) (.ref tt) .none (.bytes b tb)) 5)]
theorem Spec.memX {lv : Nat} {w : World} {f : Addr} {vs : List Value} {front news : List (Addr × Obj)} {R : Value → List (Addr × Obj) → Prop} (h : Spec lv w f vs (front ++ news) (fun v nx => ∃ add, nx = add ++ (front ++ news) ∧ R v add)) (hm : ∀ p ∈ front, p ∈ news) :
    Spec lv w f vs news (fun v nx => ∃ add, nx = add ++ news ∧ R v add) := by
  intro p loose mean mg mb dp un gd cn cs a ccd cl outer A₀ base h₀ L m s Q E B F X N T hck hdp hun hret
  have inn : ∀ q ∈ front ++ news, q ∈ news := fun q hq => (List.mem_append.mp hq).elim (hm q) (fun x => x)
  refine h p loose mean mg mb dp un gd cn cs a ccd cl outer A₀ base h₀ L m s Q E B F X (fun q hq => N q (inn q hq)) T hck hdp hun fun v nx h' tk' F' N' hR => ?_
  obtain ⟨add, rfl, r⟩ := hR
  exact hret _ _ _ _ F' (fun q hq => N' q ((List.mem_append.mp hq).elim (List.mem_append_left _) fun z => List.mem_append_right _ (List.mem_append_right _ z))) ⟨add, rfl, r⟩
theorem Spec.mono {lv : Nat} {w : World} {f : Addr} {vs : List Value} {news : List (Addr × Obj)} {R R' : Value → List (Addr × Obj) → Prop} (h : Spec lv w f vs news R) (hr : ∀ v nx, R v nx → R' v nx) : Spec lv w f vs news R' :=
  fun p loose mean mg mb dp un gd cn cs a ccd cl outer A₀ base h₀ L m s Q E B F X N T hck hdp hun hret => h p loose mean mg mb dp un gd cn cs a ccd cl outer A₀ base h₀ L m s Q E B F X N T hck hdp hun fun v nx h' tk' F' N' r => hret v nx h' tk' F' N' (hr v nx r)
theorem frm_sp (w : World) (tt : Addr) (items : Array Value) (n : Nat) (b : Array UInt8) (t1 t2 tb : Tok) (news : List (Addr × Obj)) (hm : tupAt tt items n ∈ news) :
   Spec 3 w 264 [.int 5 t1, .int 6 t2, .ref tt, .none, .bytes b tb] news (fun v nx => ∃ x d k1 k2 k3 k4 k5, v = .ref x ∧ nx = FrmAt w.params x d k1 k2 k3 k4 k5 t1 t2 tb tt b ++ news ∧ (∀ p ∈ news, p.1 < d) ∧ d < x) := by
  have h := frm_sp0 w tt items n 5 6 b t1 t2 tb news
  have h2 : Spec 3 w 264 [.int 5 t1, .int 6 t2, .ref tt, .none, .bytes b tb] ([tupAt tt items n] ++ news) (fun v nx => ∃ add, nx = add ++ ([tupAt tt items n] ++ news) ∧ ∃ x d k1 k2 k3 k4 k5, v = .ref x ∧ add = FrmAt w.params x d k1 k2 k3 k4 k5 t1 t2 tb tt b ∧ (∀ p ∈ news, p.1 < d) ∧ d < x) :=
    h.mono fun v nx ⟨x, d, k1, k2, k3, k4, k5, e, f, l, l2⟩ => ⟨_, by rw [f]; rfl, x, d, k1, k2, k3, k4, k5, e, rfl, fun p hp => l p (List.mem_cons_of_mem _ hp), l2⟩
  exact (Spec.memX h2 (fun p hp => by rw [List.mem_singleton.mp hp]; exact hm)).mono fun v nx ⟨add, f, x, d, k1, k2, k3, k4, k5, e, g, l⟩ => ⟨x, d, k1, k2, k3, k4, k5, e, by rw [f, g], l⟩
theorem top_off_F3 : True := by
  w_top off
  trivial
theorem kw_14 : True := by
  k_with "call ref" => ((k_here; (with_reducible show wpAny _ _ (call (Value.ref 264) [Value.int 5 _, Value.int 6 _, Value.ref _, Value.none, Value.bytes _ _]) _ _ _); k_dflt (first | (refine' frm_sp _ _ _ _ _ _ _ _ _ ?qzh0 _ _ _ _ _ _ _ _ _ _ _ _ _ _ _ _ _ _ _ _ _ _ ?k1 ?k2 ?k3 ?k4 ?k5 ?kK ?kd ?ku ?_; walk_at "mine side"; (case qzh0 => first | assumption | k_mem); refine o_10 ?_; intro x9 d9 ka9 kb9 kc9 kd9 ke9 h9 tk9 F9 N9 l9 l8; (try simp only [FrmAt, List.cons_append, List.nil_append] at N9); (try unfold frmD at N9); (try k_lt l9); (try k_lt2 l8); (try dsimp only); (try k_fold)))))
  trivial
set_option maxHeartbeats 1000000 in
theorem link_sp (w : World) (x d tt : Addr) (items : Array Value) (n : Nat) (k1 k2 k3 k4 t1 t2 t3 tb u1 u2 : Tok) (p' q' c : Int) (b : Array UInt8) (ks ds : List Int) (hb : KBw.bInts b = ks) (hl : ks.length ≤ 1000) (news : List (Addr × Obj))
    (hp : 0 ≤ p') (hq : 0 ≤ q') (hc : 0 ≤ c) (hd : dueF p' q' c = some ds) (hm : ∀ p ∈ LinkAt w.params x d k1 k2 k3 k4 t1 t2 t3 tb p' q' c b, p ∈ news) (ht : tupAt tt items n ∈ news) :
   Spec 12 w 373 [.int 5 u1, .int 6 u2, .ref tt, .ref x] news (fun v nx => ∃ x d k1 k2 k3 k4 k5 t1 t2 tb c', v = .ref x ∧ nx = FrmAt w.params x d k1 k2 k3 k4 k5 t1 t2 tb tt c' ++ news ∧ KBw.bInts c' = ds ++ ks ∧ (∀ p ∈ news, p.1 < d) ∧ d < x) := by
  unfold Spec
  k_fill
  intro p loose mean mg mb dp un gd cn cs a ccd cl outer A₀ base h₀ L m s Q E B F X N T hck hdp hun hret
  walk_at "mine enter"
  k_steps
  all_goals (rename News h₀ L _ _ => kNN)
  all_goals exact hret _ _ _ _ (by k_asm) kNN ⟨_, _, _, _, _, _, _, _, _, _, _, rfl, rfl, by assumption, by assumption, by assumption⟩
theorem top_off_J1 : True := by
  w_top off
  trivial
theorem slot_bytes_join : Slot "bytes" "join" "bytes.join" :=
  .of (owner := "bytes") (n := "join") (by rw [typeLookup_type, builtinLookup_eq_fast]; kernel_rfl) (by decide +kernel) (by decide +kernel) (by decide +kernel)
    (by first | exact .inl (by decide +kernel) | exact .inr (by decide +kernel)) (by rw [isSubtype_type]; kernel_rfl)
theorem type_bytes_join : typeOf (.builtin "bytes.join") = pure (.type "method_descriptor") := by show builtinType _ = _; rw [builtinType_eq_fast]; kernel_rfl
theorem entry_bytes_join : entryFor table "bytes.join" = some Builtin.«bytes.join» := entryFor_of_tree (by kernel_rfl)
theorem args_bytes_join_2 (a b : Value) : argsOk "bytes.join" ⟨[a, b], []⟩ := by
  unfold argsOk; rw [signature?_of (id := "bytes.join") (n := ['n', 'i', 'o', 'j']) (o := ['s', 'e', 't', 'y', 'b']) (by kernel_rfl) PySem.W.FB.owner_bytes]; kernel_rfl
section
variable {prog : Program} {w : World} {A : Around} {E : Value → Shared → Prop} {s : Shared}
theorem join_method {M : Model} {b : Array UInt8} {t : Tok} {pl : Sem Bool} {Q : Value × List Value → Shared → Prop} (h : Q (.builtin "bytes.join", [.bytes b t]) s) : wpAny M A (getMethod (.bytes b t) "join" pl) Q E s := by
  with_reducible exact KBd.method_of (.bytes b t) (typeIs_bytes _ _ _) slot_bytes_join type_bytes_join KBd.noRef h
theorem meets_join1 {b c : Array UInt8} {t u : Tok} {l : Addr} :
    PySem.Meets (Builtin.«bytes.join» ⟨[.bytes b t, .ref l], []⟩) (fun _ R s => s.heap.IsList l #[.bytes c u] ∧ R (.ok (.ret (.bytes c u))) s) := by
  refine .of_wp fun prog w A R s hS => ?_
  obtain ⟨hl, h⟩ := hS
  obtain ⟨o, ho, hc, n, hd⟩ := id hl
  unfold Builtin.«bytes.join» Builtin.Bytes.joinM
  refine wpAny_bind (wpAny_of_eq (a := (Value.bytes b t, Value.ref l)) rfl ?_)
  refine wpAny_bind ?_
  show wpAny _ _ (Builtin.Bytes.joinItems (.ref l)) _ _ _
  unfold Builtin.Bytes.joinItems
  refine wpAny_bind (wpAny_typeOf hl.typeIs ?_)
  refine bm_if_true (by decide) ?_
  refine wpAny_pure ?_
  refine wpAny_bind (wpAny_bind (wpAny_load ho ?_))
  rw [hd]
  refine wpAny_pure ?_
  dsimp only
  refine bm_if_true (by decide) ?_
  refine wpAny_bind (wpAny_typeOf (typeIs_bytes _ _ _) ?_)
  refine bm_if_true (by decide) ?_
  refine wpAny_bind (wpAny_rule ?_)
  exact wpAny_bind (wpAny_pure (wpAny_pure ⟨_, rfl, h⟩))
theorem meets_join0 {b : Array UInt8} {t : Tok} {l : Addr} :
    PySem.Meets (Builtin.«bytes.join» ⟨[.bytes b t, .ref l], []⟩) (fun _ R s => s.heap.IsList l #[] ∧ ∀ u k, R (.ok (.ret (.bytes #[] u))) { s with toks := k }) := by
  refine .of_wp fun prog w A R s hS => ?_
  obtain ⟨hl, h⟩ := hS
  obtain ⟨o, ho, hc, n, hd⟩ := id hl
  unfold Builtin.«bytes.join» Builtin.Bytes.joinM
  refine wpAny_bind (wpAny_of_eq (a := (Value.bytes b t, Value.ref l)) rfl ?_)
  refine wpAny_bind ?_
  show wpAny _ _ (Builtin.Bytes.joinItems (.ref l)) _ _ _
  unfold Builtin.Bytes.joinItems
  refine wpAny_bind (wpAny_typeOf hl.typeIs ?_)
  refine bm_if_true (by decide) ?_
  refine wpAny_pure ?_
  refine wpAny_bind (wpAny_bind (wpAny_load ho ?_))
  rw [hd]
  refine wpAny_pure ?_
  dsimp only
  refine bm_if_true (by decide) ?_
  refine wpAny_bind (wpAny_of_eq (a := (#[], [])) (by first | kernel_rfl | simp) ?_)
  refine wpAny_bind (wpAny_of_eq (a := b) rfl ?_)
  refine bm_if_false (by simp [Builtin.Bytes.tooLong]) ?_
  refine wpAny_bind ?_
  show wpAny _ _ (mkBytes (Builtin.Bytes.joined b [])) _ _ _
  refine wpAny_mkBytes ?_ (Nat.zero_le _)
  refine wpAny_bind (wpAny_holding (wpAny_point ?_))
  refine wpAny_bind (wpAny_pure ?_)
  exact wpAny_pure ⟨_, rfl, h _ _⟩
theorem call_join1 {b c : Array UInt8} {t u : Tok} {l : Addr} {Q : Value → Shared → Prop} (hl : s.heap.IsList l #[.bytes c u]) (h : Q (.bytes c u) s) : wpAny (model prog w) A (call (.builtin "bytes.join") [.bytes b t, .ref l]) Q E s :=
  call_meets slot_bytes_join (typeIs_bytes _ _ _) entry_bytes_join (args_bytes_join_2 _ _) meets_join1 ⟨hl, h⟩
theorem call_join0 {b : Array UInt8} {t : Tok} {l : Addr} {Q : Value → Shared → Prop} (hl : s.heap.IsList l #[]) (h : ∀ u k, Q (.bytes #[] u) { s with toks := k }) : wpAny (model prog w) A (call (.builtin "bytes.join") [.bytes b t, .ref l]) Q E s :=
  call_meets slot_bytes_join (typeIs_bytes _ _ _) entry_bytes_join (args_bytes_join_2 _ _) meets_join0 ⟨hl, h⟩
end
theorem ints_nil : KBw.bInts #[] = [] := rfl
theorem top_off_F4a : True := by
  w_top off
  trivial
section
variable {prog : Program} {w : World} {A : Around} {E : Value → Shared → Prop} {s : Shared} {h₀ : Heap} {L : Addr} {m : Str → Option Value} {env : Env}
def TupSrc (prog : Program) (w : World) (A : Around) (h₀ : Heap) (L : Addr) (m : Str → Option Value) (env : Env) (elt : Expr) (x : Str) (scope : Scope) (cl : List (Str × Addr)) (Fin : Shared → List Value → List (Addr × Obj) → Prop) (xv : Value) (s₁ : Shared) : Prop :=
  ∃ ax its n news, xv = .ref ax ∧ A.handled = none ∧ Fr h₀ L s₁.heap m ∧ News h₀ L s₁.heap news ∧ tupAt ax its n ∈ news ∧ its.size ≤ sizeLine ∧
    ∀ s₂ : Shared, (∃ h, s₂ = { s₁ with heap := h }) → LCg.CompRest prog w A h₀ L m env elt x scope cl s₂ (fun nw => tupAt ax its n ∈ nw) (fun i v => its[i]? = some v) (Fin s₂) its.size 0 [] news
theorem TupSrc.intro {elt : Expr} {x : Str} {scope : Scope} {cl : List (Str × Addr)} {Fin : Shared → List Value → List (Addr × Obj) → Prop} {ax : Addr} {its : Array Value} {n : Nat} {news : List (Addr × Obj)} {s₁ : Shared}
    (hh : A.handled = none) (F : Fr h₀ L s₁.heap m) (N : News h₀ L s₁.heap news) (hm : tupAt ax its n ∈ news) (hsz : its.size ≤ sizeLine)
    (h : ∀ g, LCg.CompRest prog w A h₀ L m env elt x scope cl { s₁ with heap := g } (fun nw => tupAt ax its n ∈ nw) (fun i v => its[i]? = some v) (Fin { s₁ with heap := g }) its.size 0 [] news) :
    TupSrc prog w A h₀ L m env elt x scope cl Fin (.ref ax) s₁ := ⟨ax, its, n, news, rfl, hh, F, N, hm, hsz, fun _ ⟨g, e⟩ => e ▸ h g⟩
theorem listComp_tup {elt iter : Expr} {x : Str} {px : Pos} {scope : Scope} {cl : List (Str × Addr)} {pos : Pos} {Q : Value → Shared → Prop} (_F₀ : Fr h₀ L s.heap m)
    (hclos : closureFor scope env = pure cl) (hcell : ∀ y ∈ scope.names, y.2 ≠ .cell) (hkind : scope.kind = .function)
    (hnames : ∀ y ∈ scope.names, y.2 = .local → scope.names.lookup y.1 = some .local) (hx : scope.names.lookup x = some .local)
    (h : wpAny (model prog w) A (eval iter env) (TupSrc prog w A h₀ L m env elt x scope cl (fun s₂ => LCg.FinE h₀ L m s₂ Q)) E s)
    (hs : ∀ x, foldedSetIterable iter env x = pure x := by intro _; rfl) :
    wpAny (model prog w) A (eval (.ListComp elt [⟨.Name x px, iter, [], 0⟩] scope pos) env) Q E s := by
  rw [eval_ListComp]
  refine wpAny_comprehension_free (use := none) rfl hs hclos hkind hnames (wpAny_mono h (fun xv s₁ h₁ => ?_) fun _ _ e => e)
  obtain ⟨ax, its, n, news, rfl, hh, F, N, hm, hsz, R⟩ := h₁
  have hl : s₁.heap.IsTuple ax its := ⟨_, (N _ hm).1, rfl, n, rfl⟩
  have hlt : ax < s₁.heap.objs.size := by obtain ⟨_, e, _⟩ := hl; exact Heap.lt_size e
  refine wpAny_pyIter_tuple hl ?_
  have up : ∀ b o, s₁.heap.get? b = some o → (s₁.heap.push { cls := .type "tuple_iterator", data := .fields #[.ref ax, .int 0 0] }).get? b = some o := fun b o e => Heap.get?_push_of_some _ e
  refine LCg.block_U (Walks.tuple hh s₁.heap.objs.size ax (Nat.ne_of_lt hlt) its) hsz (fun i h st => by obtain ⟨o, e, _⟩ := st.1; exact ⟨o, e⟩) ?_ hcell hkind hx ⟨⟨_, Heap.get?_push_size _ rfl, rfl, rfl⟩, hl.push _⟩ (fun b hb => ?_)
    (F.keeps up) (N.grown up) (Nat.ne_of_lt F.ns.lt) (next_is_new F) (fun p hp => Nat.ne_of_lt (Heap.lt_size (N p hp).1)) hm (R _ ⟨_, rfl⟩) ?_
  · intro i h h' o nw st e e' _ N' hS
    obtain ⟨⟨o2, ho2, r⟩, _⟩ := st
    rw [e] at ho2
    cases ho2
    exact ⟨⟨_, e', r⟩, ⟨_, (N' _ hS).1, rfl, n, rfl⟩⟩
  · show b < (s₁.heap.push _).objs.size
    rw [Heap.size_push]
    rcases List.mem_cons.mp hb with rfl | hb
    · exact Nat.lt_succ_self _
    · rw [List.mem_singleton.mp hb]; exact Nat.lt_succ_of_lt hlt
  · intro D C h tk m' ys news' F' N' o1 hn hC₀ hD₀ hCL hDL hCD offC fin
    refine ⟨m', hn, fun h'' hs'' => fin D h'' tk (F'.change hs'' hCL hC₀) (fun p hp => ?_) o1⟩
    refine ⟨hs''.extBut _ _ ?_ (N' p hp).1, (N' p hp).2⟩
    rcases List.mem_cons.mp hp with rfl | hp
    · exact Ne.symm hCD
    · exact offC p hp
theorem rest_nil {elt : Expr} {x : Str} {scope : Scope} {cl : List (Str × Addr)} {S : List (Addr × Obj) → Prop} {P : Nat → Value → Prop} {Fin : List Value → List (Addr × Obj) → Prop} {its : Array Value} {news : List (Addr × Obj)} (hz : its.size = 0) (h : Fin [] news) :
    LCg.CompRest prog w A h₀ L m env elt x scope cl s S P Fin its.size 0 [] news := by rw [hz]; exact h
theorem rest_one {elt : Expr} {x : Str} {scope : Scope} {cl : List (Str × Addr)} {S : List (Addr × Obj) → Prop} {Fin : List Value → List (Addr × Obj) → Prop} {its : Array Value} {u : Value} {news : List (Addr × Obj)} (hz : its = #[u])
    (h : ∀ I oI C oC D m₂ h tk (E' : Value → Shared → Prop), LCg.NsObj oC m₂ → m₂ x = some u → Fr h₀ L h m → News h₀ L h ((I, oI) :: (C, oC) :: (D, LCg.lst []) :: news) → LCg.Off3 I C D news → ((@Ne Nat I C) ∧ (@Ne Nat I D) ∧ (@Ne Nat C D)) →
      wpAny (model prog w) A (eval elt (compEnvC scope cl C env)) (LCg.CompEnd h₀ L m { s with heap := h, toks := tk } I oI C oC D (LCg.lst []) S (fun y news' => Fin [y] news')) E' { s with heap := h, toks := tk }) :
    LCg.CompRest prog w A h₀ L m env elt x scope cl s S (fun i v => its[i]? = some v) Fin its.size 0 [] news := by
  subst hz
  refine LCg.CompRest.succ fun v I oI C oC D m₂ h' tk E' hp hC hx F N off ne => ?_
  cases hp
  exact h I oI C oC D m₂ h' tk E' hC hx F N off ne
end
theorem ints_zero (n : Nat) : KBw.bInts (Array.replicate n 0) = List.replicate n 0 := by
  show ((Array.replicate n (0 : UInt8)).toList.map fun c => ((c.toNat : Nat) : Int)) = _
  rw [Array.toList_replicate, List.map_replicate]; rfl
theorem call_bytes_zeros {prog : Program} {w : World} {A : Around} {E : Value → Shared → Prop} {s : Shared} {n : Int} {t : Tok} {Q : Value → Shared → Prop} (h0 : 0 ≤ n) (h1 : n ≤ 16777216) (hQ : ∀ c zs u k, KBw.bInts c = zs → zs = List.replicate n.toNat 0 → zs.length = n.toNat → Q (.bytes c u) { s with toks := k }) :
    wpAny (model prog w) A (call (.type "bytes") [.int n t]) Q E s :=
  call_bytes_count h0 h1 fun u k => hQ _ _ u k (ints_zero _) rfl (List.length_replicate ..)
theorem sumF_len (ks : List Int) : (sumF ks).length = 4 := by
  unfold sumF
  rw [List.length_map, rangeKs_length]; rfl
theorem sumF_at {c : Array UInt8} {ks : List Int} (_h : KBw.bInts c = sumF ks) : (sumF ks).length = 4 := sumF_len ks
theorem ptag_m (w : World) (x d : Addr) (k1 k2 k3 k4 t1 t2 t4 : Tok) (news : List (Addr × Obj)) (hm : ∀ p ∈ TagAt w.params x d k1 k2 k3 k4 t1 t2 t4, p ∈ news) :
   Spec 8 w 275 [.ref x] news (fun v nx => (∃ (c' : Array UInt8) (t : Tok), v = .bytes c' t ∧ KBw.bInts c' = [129, 0, 32, 5]) ∧ nx = news) := Spec.mem (ptag_sp w x d k1 k2 k3 k4 t1 t2 t4 news) hm
theorem top_off_F4 : True := by
  w_top off
  trivial
theorem kw_15 : True := by
  k_with "call ref" => ((k_here; (with_reducible show wpAny _ _ (call (Value.ref 165) [Value.bytes _ _]) _ _ _); k_dflt (first | (refine' sum_sp _ _ _ _ (by kba_ints) _ _ _ _ _ _ _ _ _ _ _ _ _ _ _ _ _ _ _ _ _ _ _ ?k1 ?k2 ?k3 ?k4 ?k5 ?kK ?kd ?ku ?_; walk_at "mine side"; refine o_1 ?_; intro c9 t9 h9 tk9 F9 N9 b9; (have sl9 := sumF_at b9); (try dsimp only); (try k_fold)))))
  k_with "call ref" => ((k_here; (with_reducible show wpAny _ _ (call (Value.ref 275) [Value.ref _]) _ _ _); k_dflt (first | (refine' ptag_m _ _ _ _ _ _ _ _ _ _ _ ?qzh4 _ _ _ _ _ _ _ _ _ _ _ _ _ _ _ _ _ _ _ _ _ _ ?k1 ?k2 ?k3 ?k4 ?k5 ?kK ?kd ?ku ?_; walk_at "mine side"; (case qzh4 => walk_at "mine mem"); refine o_5 ?_; intro c9 t9 h9 tk9 F9 N9 b9; (try dsimp only); (try k_fold)))))
  trivial
def bodyF (tg ps : List Int) : List Int := [0, 0, 0, 0, 0, 5] ++ [0, 0, 0, 0, 0, 6] ++ tg ++ [(ps.length : Int) / 256, (ps.length : Int) % 256] ++ ps
def paddedF (tg ps : List Int) : List Int := bodyF tg ps ++ List.replicate (60 - (bodyF tg ps).length) 0
noncomputable def frameF (tg ps : List Int) : List Int := paddedF tg ps ++ sumF (paddedF tg ps)
set_option maxHeartbeats 1000000 in
theorem pkind0 (w : World) (x d tt : Addr) (k1 k2 k3 k4 k5 t1 t2 tb : Tok) (b : Array UInt8) (ps : List Int) (hb : KBw.bInts b = ps) (hl : ps.length ≤ 100) (news : List (Addr × Obj)) :
   Spec 8 w 282 [.ref x] (FrmAt w.params x d k1 k2 k3 k4 k5 t1 t2 tb tt b ++ news) (fun v nx => (∃ (c' : Array UInt8) (t : Tok), v = .bytes c' t ∧ KBw.bInts c' = [(ps.length : Int) / 256, (ps.length : Int) % 256]) ∧ nx = FrmAt w.params x d k1 k2 k3 k4 k5 t1 t2 tb tt b ++ news) := by
  unfold Spec
  simp only [List.cons_append, List.nil_append]
  unfold frmD
  k_fill
  intro p loose mean mg mb dp un gd cn cs a ccd cl outer A₀ base h₀ L m s Q E B F X N T hck hdp hun hret
  walk_at "mine enter"
  k_steps
  all_goals exact hret _ _ _ _ (by k_asm) (by walk_at "mine news") ⟨⟨_, _, rfl, Eq.trans (by kba_ints) (by simp)⟩, rfl⟩
theorem pkind_sp (w : World) (x d tt : Addr) (k1 k2 k3 k4 k5 t1 t2 tb : Tok) (b : Array UInt8) (ps : List Int) (hb : KBw.bInts b = ps) (hl : ps.length ≤ 100) (news : List (Addr × Obj)) (hm : ∀ p ∈ FrmAt w.params x d k1 k2 k3 k4 k5 t1 t2 tb tt b, p ∈ news) :
   Spec 8 w 282 [.ref x] news (fun v nx => (∃ (c' : Array UInt8) (t : Tok), v = .bytes c' t ∧ KBw.bInts c' = [(ps.length : Int) / 256, (ps.length : Int) % 256]) ∧ nx = news) :=
  Spec.mem (pkind0 w x d tt k1 k2 k3 k4 k5 t1 t2 tb b ps hb hl news) hm
theorem top_off_F5 : True := by
  w_top off
  trivial
theorem kw_16 : True := by
  k_with "call ref" => ((k_here; (with_reducible show wpAny _ _ (call (Value.ref 282) [Value.ref _]) _ _ _); k_dflt (first | (refine' pkind_sp _ _ _ _ _ _ _ _ _ _ _ _ _ _ ?qzh9 ?qzh0 _ ?qzh4 _ _ _ _ _ _ _ _ _ _ _ _ _ _ _ _ _ _ _ _ _ _ ?k1 ?k2 ?k3 ?k4 ?k5 ?kK ?kd ?ku ?_; walk_at "mine side"; (case qzh4 => walk_at "mine mem"); (case qzh9 => kba_ints); (case qzh0 => walk_at "mine omega"); refine o_5 ?_; intro c9 t9 h9 tk9 F9 N9 b9; (try dsimp only); (try k_fold)))))
  trivial
theorem frameF_eq {tg ps zs : List Int} {n : Nat} (hz : zs = List.replicate (if (60 : Int) - (n : Int) > 0 then (60 : Int) - (n : Int) else 0).toNat 0) (hn : n = (bodyF tg ps).length) :
    ([0, 0, 0, 0, 0, 5] ++ [0, 0, 0, 0, 0, 6] ++ tg ++ [(ps.length : Int) / 256, (ps.length : Int) % 256] ++ ps ++ zs) ++ sumF ([0, 0, 0, 0, 0, 5] ++ [0, 0, 0, 0, 0, 6] ++ tg ++ [(ps.length : Int) / 256, (ps.length : Int) % 256] ++ ps ++ zs) = frameF tg ps := by
  have e : zs = List.replicate (60 - (bodyF tg ps).length) 0 := by
    rw [hz, hn]
    congr 1
    split <;> omega
  unfold frameF paddedF
  rw [e]; rfl
set_option maxHeartbeats 1000000 in
theorem pfr0 (w : World) (x d tt : Addr) (n : Nat) (k1 k2 k3 k4 k5 t1 t2 tb : Tok) (b : Array UInt8) (ps : List Int) (hb : KBw.bInts b = ps) (hl : ps.length ≤ 100) (news : List (Addr × Obj)) :
   Spec 12 w 288 [.ref x] (FrmAt w.params x d k1 k2 k3 k4 k5 t1 t2 tb tt b ++ (tupAt tt #[] n :: news)) (fun v nx => (∃ (c' : Array UInt8) (t : Tok), v = .bytes c' t ∧ KBw.bInts c' = frameF [] ps) ∧ nx = FrmAt w.params x d k1 k2 k3 k4 k5 t1 t2 tb tt b ++ (tupAt tt #[] n :: news)) := by
  unfold Spec
  simp only [List.cons_append, List.nil_append]
  unfold frmD
  k_fill
  intro p loose mean mg mb dp un gd cn cs a ccd cl outer A₀ base h₀ L m s Q E B F X N T hck hdp hun hret
  walk_at "mine enter"
  k_steps
  all_goals exact hret _ _ _ _ (by k_asm) (by walk_at "mine news") ⟨⟨_, _, rfl, Eq.trans (by kba_ints) (frameF_eq (tg := []) (by assumption) (by (simp only [bodyF, List.length_append, List.length_cons, List.length_nil] <;> omega)))⟩, rfl⟩
set_option maxHeartbeats 1000000 in
theorem pfr1 (w : World) (x d tt xt dt : Addr) (q1 q2 q3 q4 r1 r2 r4 : Tok) (n : Nat) (k1 k2 k3 k4 k5 t1 t2 tb : Tok) (b : Array UInt8) (ps : List Int) (hb : KBw.bInts b = ps) (hl : ps.length ≤ 100) (news : List (Addr × Obj)) :
   Spec 12 w 288 [.ref x] (FrmAt w.params x d k1 k2 k3 k4 k5 t1 t2 tb tt b ++ (tupAt tt #[.ref xt] n :: (TagAt w.params xt dt q1 q2 q3 q4 r1 r2 r4 ++ news))) (fun v nx => (∃ (c' : Array UInt8) (t : Tok), v = .bytes c' t ∧ KBw.bInts c' = frameF [129, 0, 32, 5] ps) ∧ nx = FrmAt w.params x d k1 k2 k3 k4 k5 t1 t2 tb tt b ++ (tupAt tt #[.ref xt] n :: (TagAt w.params xt dt q1 q2 q3 q4 r1 r2 r4 ++ news))) := by
  unfold Spec
  simp only [List.cons_append, List.nil_append]
  unfold frmD tagD
  k_fill
  intro p loose mean mg mb dp un gd cn cs a ccd cl outer A₀ base h₀ L m s Q E B F X N T hck hdp hun hret
  walk_at "mine enter"
  k_steps
  all_goals exact hret _ _ _ _ (by k_asm) (by walk_at "mine news") ⟨⟨_, _, rfl, Eq.trans (by kba_ints) (frameF_eq (tg := [129, 0, 32, 5]) (by assumption) (by (simp only [bodyF, List.length_append, List.length_cons, List.length_nil] <;> omega)))⟩, rfl⟩
theorem top_off_G0 : True := by
  w_top off
  trivial
theorem get16c (w : World) (b : Array UInt8) (ks : List Int) (tb : Tok) (hb : KBw.bInts b = ks) (i : Nat) (n : Int) (hv : ks.getD i 0 * 256 + ks.getD (i + 1) 0 = n) (hl : ks.length ≤ 1000) (at_ : Int) (t : Tok) (hat : at_ = i) (h2 : i + 2 ≤ ks.length) (news : List (Addr × Obj)) :
   Spec 6 w 198 [.bytes b tb, .int at_ t] news (fun v nx => ∃ (t : Tok), v = .int n t ∧ nx = news) := by
  subst hat hv
  exact (get16at w b ks tb hb hl i t h2 news).mono fun v nx r => r.2
theorem top_off_G1 : True := by
  w_top off
  trivial
set_option maxHeartbeats 1000000 in
theorem utag (w : World) (b : Array UInt8) (ks : List Int) (tb t0 : Tok) (hb : KBw.bInts b = ks) (hl : ks.length ≤ 1000) (hn : 16 ≤ ks.length) (h12 : ks.getD 12 0 * 256 + ks.getD 13 0 = 33024) (h14 : ks.getD 14 0 * 256 + ks.getD 15 0 = 8197) (news : List (Addr × Obj)) :
   Spec 9 w 295 [.bytes b tb, .int 12 t0] news (fun v nx => ∃ x d k1 k2 k3 k4 v1 v2 v3 v4, v = .ref x ∧ nx = (x, instObj 230 d) :: (d, dictOf (tagD w.params k1 k2 k3 k4 v1 v2 v3 v4) 4) :: news ∧ (∀ p ∈ news, p.1 < d) ∧ d < x) := by
  unfold Spec
  k_fill
  intro p loose mean mg mb dp un gd cn cs a ccd cl outer A₀ base h₀ L m s Q E B F X N T hck hdp hun hret
  walk_at "mine enter"
  k_steps
  all_goals (rename News h₀ L _ _ => kNN)
  all_goals exact hret _ _ _ _ (by k_asm) kNN ⟨_, _, _, _, _, _, _, _, _, _, rfl, rfl, by assumption, by assumption⟩
theorem top_off_G2 : True := by
  w_top off
  trivial
theorem kw_17 : True := by
  k_with "call ref" => ((k_here; (with_reducible show wpAny _ _ (call (Value.ref 295) [Value.bytes _ _, Value.int 12 _]) _ _ _); k_dflt (first | (refine' utag _ _ _ _ _ (by kba_ints) ?qzh0 ?qzh1 ?qzh2 ?qzh3 _ _ _ _ _ _ _ _ _ _ _ _ _ _ _ _ _ _ _ _ _ _ _ ?k1 ?k2 ?k3 ?k4 ?k5 ?kK ?kd ?ku ?_; (case qzh0 => walk_at "mine omega"); (case qzh1 => walk_at "mine omega"); walk_at "mine side"; (case qzh2 => assumption); (case qzh3 => assumption); refine o_13 ?_; intro x9 d9 ka9 kb9 kc9 kd9 va9 vb9 vc9 vd9 h9 tk9 F9 N9 l9 l8; (try unfold tagD at N9); (try k_lt l9); (try k_lt2 l8); (try dsimp only); (try k_fold)))))
  trivial
set_option maxHeartbeats 1000000 in
theorem utags0 (w : World) (b : Array UInt8) (ks : List Int) (tb t0 : Tok) (n : Int) (hb : KBw.bInts b = ks) (hl : ks.length ≤ 1000) (hn : 14 ≤ ks.length) (h12 : ks.getD 12 0 * 256 + ks.getD 13 0 = n) (hn1 : 0 ≤ n) (hn2 : n ≤ 200) (news : List (Addr × Obj)) :
   Spec 12 w 302 [.bytes b tb, .int 12 t0] news (fun v nx => ∃ D F t k1 k2, v = .ref D ∧ nx = tupAt D #[.ref F, .int 12 t] k1 :: tupAt F #[] k2 :: news) := by
  unfold Spec
  k_fill
  intro p loose mean mg mb dp un gd cn cs a ccd cl outer A₀ base h₀ L m s Q E B F X N T hck hdp hun hret
  walk_at "mine enter"
  k_steps
  all_goals exact hret _ _ _ _ (by k_asm) (by walk_at "mine news") ⟨_, _, _, _, _, rfl, rfl⟩
set_option maxHeartbeats 1000000 in
theorem utags1 (w : World) (b : Array UInt8) (ks : List Int) (tb t0 : Tok) (n : Int) (hb : KBw.bInts b = ks) (hl : ks.length ≤ 1000) (hn : 18 ≤ ks.length) (h12 : ks.getD 12 0 * 256 + ks.getD 13 0 = 33024) (h14 : ks.getD 14 0 * 256 + ks.getD 15 0 = 8197) (h16 : ks.getD 16 0 * 256 + ks.getD 17 0 = n) (hn1 : 0 ≤ n) (hn2 : n ≤ 200) (news : List (Addr × Obj)) :
   Spec 14 w 302 [.bytes b tb, .int 12 t0] news (fun v nx => ∃ D F t k1 k2 x, v = .ref D ∧ nx = tupAt D #[.ref F, .int 16 t] k1 :: tupAt F #[.ref x] k2 :: news) := by
  unfold Spec
  k_fill
  intro p loose mean mg mb dp un gd cn cs a ccd cl outer A₀ base h₀ L m s Q E B F X N T hck hdp hun hret
  walk_at "mine enter"
  k_steps
  all_goals exact hret _ _ _ _ (by k_asm) (by walk_at "mine news") ⟨_, _, _, _, _, _, rfl, rfl⟩
theorem frm_g (w : World) (tt : Addr) (items : Array Value) (n : Nat) (a' b' : Int) (b : Array UInt8) (t1 t2 tb : Tok) (news : List (Addr × Obj)) (hm : tupAt tt items n ∈ news) :
   Spec 3 w 264 [.int a' t1, .int b' t2, .ref tt, .none, .bytes b tb] news (fun v nx => ∃ x d k1 k2 k3 k4 k5, v = .ref x ∧ nx = (x, instObj 264 d) :: (d, dictOf (frmD w.params k1 k2 k3 k4 k5 (.int a' t1) (.int b' t2) (.ref tt) .none (.bytes b tb)) 5) :: news ∧ (∀ p ∈ news, p.1 < d) ∧ d < x) := by
  have h := frm_sp0 w tt items n a' b' b t1 t2 tb news
  have h2 : Spec 3 w 264 [.int a' t1, .int b' t2, .ref tt, .none, .bytes b tb] ([tupAt tt items n] ++ news) (fun v nx => ∃ add, nx = add ++ ([tupAt tt items n] ++ news) ∧ ∃ x d k1 k2 k3 k4 k5, v = .ref x ∧ add = [(x, instObj 264 d), (d, dictOf (frmD w.params k1 k2 k3 k4 k5 (.int a' t1) (.int b' t2) (.ref tt) .none (.bytes b tb)) 5)] ∧ (∀ p ∈ news, p.1 < d) ∧ d < x) :=
    h.mono fun v nx ⟨x, d, k1, k2, k3, k4, k5, e, f, l, l2⟩ => ⟨_, by rw [f]; rfl, x, d, k1, k2, k3, k4, k5, e, rfl, fun p hp => l p (List.mem_cons_of_mem _ hp), l2⟩
  exact (Spec.memX h2 (fun p hp => by rw [List.mem_singleton.mp hp]; exact hm)).mono fun v nx ⟨add, f, x, d, k1, k2, k3, k4, k5, e, g, l⟩ => ⟨x, d, k1, k2, k3, k4, k5, e, by rw [f, g]; rfl, l⟩
section
variable {prog : Program} {w : World} {A : Around} {E : Value → Shared → Prop} {s : Shared} {value slice : PySem.Expr} {b : Array UInt8} {t : Tok} {h₀ : Heap} {L : Addr} {m : PySem.Str → Option Value} {news : List (Addr × Obj)} {l u : Value} {Q : Value → Shared → Prop} {front back : List Int} {j : Int}
theorem slice_front (hF : Fr h₀ L s.heap m) (hN : News h₀ L s.heap news) (hk : KBw.bInts b = front ++ back) (hl : IsPart l none) (hu : IsPart u (some j)) (hz : (front ++ back).length ≤ 16777216) (hj : j = front.length)
    (h : ∀ c h' t' k, Fr h₀ L h' m → News h₀ L h' news → KBw.bInts c = front → Q (.bytes c t') { s with heap := h', toks := k })
    (hs : subscripted slice false (.bytes b t) (.ref s.heap.objs.size) = operate [.ref s.heap.objs.size, .bytes b t] (getItem (.bytes b t) (.ref s.heap.objs.size)) := by with_unfolding_all rfl)
    (ht : ∀ r, letTemporaryGo value (.bytes b t) r = pure () := by intro _; with_unfolding_all rfl) :
    wpAny (model prog w) A (subscriptTail value slice (.bytes b t) (.ref s.heap.objs.size)) Q E { s with heap := s.heap.push { cls := .type "slice", data := .fields #[l, u, .none] } } :=
  KBc.slice_K hF hN hk hl hu hz (fun h' t' k F' N' e => h _ h' t' k F' N' (by
    rw [e]
    show ((front ++ back).drop 0).take (clipAt (front ++ back).length j - 0) = front
    have hle : j ≤ ((front ++ back).length : Int) := by rw [List.length_append]; omega
    rw [clipAt_in (by omega) hle, hj, Int.toNat_natCast, List.drop_zero, Nat.sub_zero, List.take_left])) hs ht
theorem slice_back (hF : Fr h₀ L s.heap m) (hN : News h₀ L s.heap news) (hk : KBw.bInts b = front ++ back) (hl : IsPart l (some j)) (hu : IsPart u none) (hz : (front ++ back).length ≤ 16777216) (hj : j = front.length)
    (h : ∀ c h' t' k, Fr h₀ L h' m → News h₀ L h' news → KBw.bInts c = back → Q (.bytes c t') { s with heap := h', toks := k })
    (hs : subscripted slice false (.bytes b t) (.ref s.heap.objs.size) = operate [.ref s.heap.objs.size, .bytes b t] (getItem (.bytes b t) (.ref s.heap.objs.size)) := by with_unfolding_all rfl)
    (ht : ∀ r, letTemporaryGo value (.bytes b t) r = pure () := by intro _; with_unfolding_all rfl) :
    wpAny (model prog w) A (subscriptTail value slice (.bytes b t) (.ref s.heap.objs.size)) Q E { s with heap := s.heap.push { cls := .type "slice", data := .fields #[l, u, .none] } } :=
  KBc.slice_K hF hN hk hl hu hz (fun h' t' k F' N' e => h _ h' t' k F' N' (by
    rw [e]
    show ((front ++ back).drop (clipAt (front ++ back).length j)).take ((front ++ back).length - clipAt (front ++ back).length j) = back
    have hle : j ≤ ((front ++ back).length : Int) := by rw [List.length_append]; omega
    rw [clipAt_in (by omega) hle, hj, Int.toNat_natCast, List.drop_left, List.take_of_length_le (by rw [List.length_append]; omega)])) hs ht
end
theorem top_off_G3 : True := by
  w_top off
  trivial
theorem kw_18 : True := by
  k_with "call ref" => ((k_here; (with_reducible show wpAny _ _ (call (Value.ref 264) [Value.int _ _, Value.int _ _, Value.ref _, Value.none, Value.bytes _ _]) _ _ _); k_dflt (first | (refine' frm_g _ _ _ _ _ _ _ _ _ _ _ ?qzh0 _ _ _ _ _ _ _ _ _ _ _ _ _ _ _ _ _ _ _ _ _ _ ?k1 ?k2 ?k3 ?k4 ?k5 ?kK ?kd ?ku ?_; walk_at "mine side"; (case qzh0 => first | assumption | k_mem); refine o_10 ?_; intro x9 d9 ka9 kb9 kc9 kd9 ke9 h9 tk9 F9 N9 l9 l8; (try unfold frmD at N9); (try k_lt l9); (try k_lt2 l8); (try dsimp only); (try k_fold)))))
  trivial
section
theorem kw_19 : True := by
  k_with "subscriptTail" => ((k_here; (with_reducible show wpAny _ _ (subscriptTail _ (Expr.Slice none (some _) none _) (Value.bytes _ _) (Value.ref _)) _ _ _); (with_reducible rename Fr _ _ _ _ => F'); (with_reducible rename News _ _ _ _ => N'); (refine slice_front (s := ⟨_, _, _, _, _⟩) F' N' (by assumption) (by constructor) (by constructor) (by kba_size) (by walk_at "mine len") ?_); intro c9 h9 t9 k9 F9 N9 b9; (try dsimp only)))
  k_with "subscriptTail" => ((k_here; (with_reducible show wpAny _ _ (subscriptTail _ (Expr.Slice (some _) none none _) (Value.bytes _ _) (Value.ref _)) _ _ _); (with_reducible rename Fr _ _ _ _ => F'); (with_reducible rename News _ _ _ _ => N'); (refine slice_back (s := ⟨_, _, _, _, _⟩) F' N' (by assumption) (by constructor) (by constructor) (by kba_size) (by walk_at "mine len") ?_); intro c9 h9 t9 k9 F9 N9 b9; (try dsimp only)))
  k_with "mine len" => (first | omega | (simp only [List.length_append] <;> omega))
  k_with "compareOp NotEq bytes bytes" => ((k_here; refine ne_bytes_same (Eq.trans (by assumption) (Eq.symm (by assumption))) ?_))
  trivial
set_option maxHeartbeats 1000000 in
theorem ufr0 (w : World) (b : Array UInt8) (hdr ps zs : List Int) (tb : Tok) (n : Int) (hb : KBw.bInts b = (hdr ++ (ps ++ zs)) ++ sumF (hdr ++ (ps ++ zs))) (hh : hdr.length = 14) (hps : (ps.length : Int) = n) (hl : ps.length ≤ 100) (hz : 46 ≤ (ps ++ zs).length) (hz2 : (ps ++ zs).length ≤ 200)
    (h12 : (hdr ++ (ps ++ zs)).getD 12 0 * 256 + (hdr ++ (ps ++ zs)).getD 13 0 = n) (news : List (Addr × Obj)) :
   Spec 16 w 310 [.bytes b tb] news (fun v nx => ∃ x d k1 k2 k3 k4 k5 v1 v2 c t F k, v = .ref x ∧ nx = (x, instObj 264 d) :: (d, dictOf (frmD w.params k1 k2 k3 k4 k5 v1 v2 (.ref F) .none (.bytes c t)) 5) :: tupAt F #[] k :: news ∧ KBw.bInts c = ps) := by
  have hs4 := sumF_len (hdr ++ (ps ++ zs))
  have hn1 : 0 ≤ n := by omega
  have hn2 : n ≤ 200 := by omega
  rw [List.length_append] at hz hz2
  unfold Spec
  k_fill
  intro p loose mean mg mb dp un gd cn cs a ccd cl outer A₀ base h₀ L m s Q E B F X N T hck hdp hun hret
  walk_at "mine enter"
  k_steps
  all_goals exact hret _ _ _ _ (by k_asm) (by walk_at "mine news") ⟨_, _, _, _, _, _, _, _, _, _, _, _, _, rfl, rfl, by assumption⟩
set_option maxHeartbeats 1000000 in
theorem ufr1 (w : World) (b : Array UInt8) (hdr ps zs : List Int) (tb : Tok) (n : Int) (hb : KBw.bInts b = (hdr ++ (ps ++ zs)) ++ sumF (hdr ++ (ps ++ zs))) (hh : hdr.length = 18) (hps : (ps.length : Int) = n) (hl : ps.length ≤ 100) (hz : 42 ≤ (ps ++ zs).length) (hz2 : (ps ++ zs).length ≤ 200)
    (h12 : (hdr ++ (ps ++ zs)).getD 12 0 * 256 + (hdr ++ (ps ++ zs)).getD 13 0 = 33024) (h14 : (hdr ++ (ps ++ zs)).getD 14 0 * 256 + (hdr ++ (ps ++ zs)).getD 15 0 = 8197) (h16 : (hdr ++ (ps ++ zs)).getD 16 0 * 256 + (hdr ++ (ps ++ zs)).getD 17 0 = n) (news : List (Addr × Obj)) :
   Spec 18 w 310 [.bytes b tb] news (fun v nx => ∃ x d k1 k2 k3 k4 k5 v1 v2 c t F k xt, v = .ref x ∧ nx = (x, instObj 264 d) :: (d, dictOf (frmD w.params k1 k2 k3 k4 k5 v1 v2 (.ref F) .none (.bytes c t)) 5) :: tupAt F #[.ref xt] k :: news ∧ KBw.bInts c = ps) := by
  have hs4 := sumF_len (hdr ++ (ps ++ zs))
  have hn1 : 0 ≤ n := by omega
  have hn2 : n ≤ 200 := by omega
  rw [List.length_append] at hz hz2
  unfold Spec
  k_fill
  intro p loose mean mg mb dp un gd cn cs a ccd cl outer A₀ base h₀ L m s Q E B F X N T hck hdp hun hret
  walk_at "mine enter"
  k_steps
  all_goals exact hret _ _ _ _ (by k_asm) (by walk_at "mine news") ⟨_, _, _, _, _, _, _, _, _, _, _, _, _, _, rfl, rfl, by assumption⟩
end
theorem kw_20 : True := by
  k_with_none
  k_with "mine kenter" => (k_dflt (first
  | (refine' code_def ?k1 ?k2 ?k3 ?k4 ?k5 ?qzkA ?qzkF ?kK ?qzk6 ?qzk7 ?qzk8 ?qzk9 ?qzkB ?_ ?qzc2 ?qzc3 ?qzc4 ?qzc5; (case qzkA => exact rfl); (case qzkF => exact rfl); (case kK => assumption); (case k1 => k_asm); (case k2 => k_asm); (case k3 => k_asm); (case k4 => k_asm); (case k5 => k_asm); (case qzk6 => k_is); (case qzk7 => k_is); (case qzk8 => ktr_room); (case qzk9 => first | exact BindsTo.of_eq rfl | exact binds_K (by k_in) rfl (by k_is) rfl rfl rfl); (case qzc5 => decide); (case qzkB => exact locs rfl); (case qzc2 => exact rfl); (case qzc3 => exact rfl); (case qzc4 => exact rfl); k_whole; intro g' L' h' FG' F' N' B' X' T'; (try dsimp only); (try k_lift B'); (try k_fold))
  | (refine' code_defC ?k1 ?k2 ?k3 ?k4 ?k5 ?qzkA ?qzkF ?kK ?qzk6 ?qzk7 ?qzk8 ?qzk9 ?qzkB ?qzkD ?_ ?qzc2 ?qzc3 ?qzc4; (case qzkA => exact rfl); (case qzkF => exact rfl); (case kK => assumption); (case k1 => k_asm); (case k2 => k_asm); (case k3 => k_asm); (case k4 => k_asm); (case k5 => k_asm); (case qzk6 => k_is); (case qzk7 => k_is); (case qzk8 => ktr_room); (case qzk9 => first | exact BindsTo.of_eq rfl | exact binds_K (by k_in) rfl (by k_is) rfl rfl rfl); (case qzkB => exact rfl); (case qzkD => decide +kernel); (case qzc2 => exact rfl); (case qzc3 => exact rfl); (case qzc4 => exact rfl); k_whole; intro g' L' h' tk' cells' FG' F' N' Y' B' X' T' l1; (try k_lt l1); k_cells Y'; (try simp only [List.cons_append, List.nil_append] at N'); (try dsimp only); (try k_lift B'); (try k_fold))))
  k_with "mine enter" => ((refine wpAny_call ?_; k_dflt (first
  | (refine' code_def ?k1 ?k2 ?k3 ?k4 ?k5 ?qzkA ?qzkF ?kK ?qzk6 ?qzk7 ?qzk8 ?qzk9 ?qzkB ?_ ?qzc2 ?qzc3 ?qzc4 ?qzc5; (case qzkA => exact rfl); (case qzkF => exact rfl); (case kK => assumption); (case k1 => k_asm); (case k2 => k_asm); (case k3 => k_asm); (case k4 => k_asm); (case k5 => k_asm); (case qzk6 => k_is); (case qzk7 => k_is); (case qzk8 => ktr_room); (case qzk9 => first | exact BindsTo.of_eq rfl | exact binds_K (by k_in) rfl (by k_is) rfl rfl rfl); (case qzc5 => decide); (case qzkB => exact locs rfl); (case qzc2 => exact rfl); (case qzc3 => exact rfl); (case qzc4 => exact rfl); k_whole; intro g' L' h' FG' F' N' B' X' T'; (try dsimp only); (try k_lift B'); (try k_fold))
  | (refine' code_defC ?k1 ?k2 ?k3 ?k4 ?k5 ?qzkA ?qzkF ?kK ?qzk6 ?qzk7 ?qzk8 ?qzk9 ?qzkB ?qzkD ?_ ?qzc2 ?qzc3 ?qzc4; (case qzkA => exact rfl); (case qzkF => exact rfl); (case kK => assumption); (case k1 => k_asm); (case k2 => k_asm); (case k3 => k_asm); (case k4 => k_asm); (case k5 => k_asm); (case qzk6 => k_is); (case qzk7 => k_is); (case qzk8 => ktr_room); (case qzk9 => first | exact BindsTo.of_eq rfl | exact binds_K (by k_in) rfl (by k_is) rfl rfl rfl); (case qzkB => exact rfl); (case qzkD => decide +kernel); (case qzc2 => exact rfl); (case qzc3 => exact rfl); (case qzc4 => exact rfl); k_whole; intro g' L' h' tk' cells' FG' F' N' Y' B' X' T' l1; (try k_lt l1); k_cells Y'; (try simp only [List.cons_append, List.nil_append] at N'); (try dsimp only); (try k_lift B'); (try k_fold)))))
  k_with "mine side" => (((case k1 => k_asm); (case k2 => k_asm); (case k3 => k_asm); (case k4 => k_asm); (case k5 => k_asm); (case kK => first | exact rfl | assumption); (case kd => ktr_room); (case ku => ktr_units)))
  k_with "mine kbabound" => (((try dsimp only); first | exact and255_lo _ | exact and255_hi _))
  k_with "mine news" => (first | k_asm | (refine cb_drop (by assumption) ?_; intro p9 hp9; (repeat (first | exact hp9 | refine List.mem_cons_of_mem _ ?_))))
  k_with "mine room" => (((with_reducible rename @LT.lt Nat _ (_ + _) recursionLimit => hq9); k_dflt (first | exact room_1 hq9 (by exact rfl) | exact room_j hq9 (by exact rfl) | exact room_0 hq9)))
  k_with "mine units" => (((with_reducible rename @LT.lt Nat _ (_ + _) cLine => hq9); k_dflt (first | exact units_1 hq9 (by exact rfl) | exact units_j hq9 (by exact rfl))))
  k_with "mine me" => (first | with_reducible exact me0 | with_reducible exact me1 | with_reducible exact me2 | with_reducible exact me3 | with_reducible exact me4 | with_reducible exact me5 | with_reducible exact me6 | with_reducible exact me7 | with_reducible exact me8 | with_reducible exact me9 | with_reducible exact me10 | with_reducible exact me11 | with_reducible exact me12 | with_reducible exact me13 | with_reducible exact me14 | with_reducible exact me15 | with_reducible exact me16 | with_reducible exact me17 | with_reducible exact me18 | with_reducible assumption | k_mem)
  k_with "mine ltall" => (((repeat ((with_reducible rename (∀ p ∈ _, Prod.fst p < _) => h7); replace h7 := allLt_of h7; simp only [AllLt, and_true] at h7))))
  k_with "mine kne" => ((refine neN ?_; (try dsimp only); first | with_reducible assumption | decide | exact Nat.ne_of_gt (by with_reducible assumption) | exact Nat.ne_of_lt (by with_reducible assumption) | exact ne_l (by with_reducible assumption) (by walk_at "mine me") | exact ne_r (by with_reducible assumption) (by walk_at "mine me") | exact ne_l2 (by with_reducible assumption) (by with_reducible assumption) (by walk_at "mine me") | exact ne_r2 (by with_reducible assumption) (by with_reducible assumption) (by walk_at "mine me") | exact ne_l1 (by with_reducible assumption) (by walk_at "mine me") | exact ne_r1 (by with_reducible assumption) (by walk_at "mine me") | exact ne_l11 (by with_reducible assumption) (by walk_at "mine me") | exact ne_r11 (by with_reducible assumption) (by walk_at "mine me") | exact ne_s1 | exact ne_s2 | exact ne_b1 (by with_reducible assumption) rfl | exact ne_b2 (by with_reducible assumption) rfl | exact Ne.symm (by with_reducible assumption) | (trace_state; walk_at "mine ltall"; omega)))
  k_with "mine sk" => (first | with_reducible exact sk0 | with_reducible exact sk1 | with_reducible exact sk2 | with_reducible exact sk3 | with_reducible exact sk4 | with_reducible exact sk5 | with_reducible exact sk6 | with_reducible exact sk7 | with_reducible exact sk8 | with_reducible exact sk9 | with_reducible exact sk10 | with_reducible exact sk11 | with_reducible exact sk12 | with_reducible exact sk13 | with_reducible exact sk14 | with_reducible exact sk15 | with_reducible exact sk16 | with_reducible exact sk17 | with_reducible exact sk18)
  k_with "mine kall" => (first | with_reducible assumption | exact all_l (by with_reducible assumption) (by walk_at "mine sk") | exact all_l2 (by with_reducible assumption) (by with_reducible assumption) (by walk_at "mine sk") | exact all_l1 (by with_reducible assumption) (by walk_at "mine sk") | exact all_l11 (by with_reducible assumption) (by walk_at "mine sk") | (with_reducible exact List.forall_mem_nil _) | (refine' List.forall_mem_cons.mpr ⟨?qza, ?qzb⟩; (case qza => k_ne); (case qzb => k_all)) | (trace_state; exact all_ne (by assumption) (by walk_at "mine ltall"; omega)))
  k_with "mine lt" => (first | with_reducible assumption | exact lt_t0 (by with_reducible assumption) (by walk_at "mine me") | exact lt_t1 (by with_reducible assumption) (by with_reducible assumption) (by walk_at "mine me") | exact lt_t2 (by with_reducible assumption) (by with_reducible assumption) (by with_reducible assumption) (by walk_at "mine me") | (trace_state; walk_at "mine ltall"; omega))
  k_with "exec Raise some none" => ((k_here; (with_reducible show wpAny _ _ (exec (Stmt.Raise (some (Expr.Call (Expr.Name ("SizeError" : Str) _) _ [] _)) none _) _) _ _ _); refine' raise56 ?k1 ?k2 ?_; (case k1 => k_asm); (case k2 => k_dflt (exact rfl))))
  k_with "exec Raise some none" => ((k_here; (with_reducible show wpAny _ _ (exec (Stmt.Raise (some (Expr.Call (Expr.Name ("FormError" : Str) _) _ [] _)) none _) _) _ _ _); refine' raise44 ?k1 ?k2 ?_; (case k1 => k_asm); (case k2 => k_dflt (exact rfl))))
  k_with "call ref" => ((k_here; (first | (with_reducible show wpAny _ _ (call (Value.ref 56) [Value.str _ _]) _ _ _) | (with_reducible show wpAny _ _ (call (Value.ref 44) [Value.str _ _]) _ _ _)); k_dflt (refine' exc_call_sp _ _ _ _ _ ?qzhC _ _ _ _ _ _ _ _ _ _ _ _ _ _ _ _ _ _ _ _ _ _ ?k1 ?k2 ?k3 ?k4 ?k5 ?kK ?kd ?ku ?_; (case qzhC => decide); walk_at "mine side"); intro v9 nx9 h9 tk9 F9 N9 r9; obtain ⟨e9, d9, t9, q9, f9, n9⟩ := r9; subst q9; rw [f9] at N9; clear f9; (try dsimp only); (try k_fold)))
  k_with "RaiseEnd" => ((k_here; refine' RaiseEnd.intro ?k1 ?k2 ?k3 ?_; (case k1 => k_asm); (case k2 => k_asm); (case k3 => k_asm); (try dsimp only)))
  k_with "leaving ref" => ((k_here; refine' leave_mine ?k1 ?k2 ?k3 ?k4 ?k5 ?qzk6 ?_; (case k1 => k_asm); (case k2 => k_asm); (case k3 => k_asm); (case k4 => assumption); (case k5 => k_dflt (exact rfl)); (case qzk6 => k_dflt (exact rfl)); intro h' R' U'; (try dsimp only)))
  k_with "call type:bytes" => ((k_here; (with_reducible show wpAny _ _ (call (Value.type "bytes") [Value.bytes _ _]) _ _ _); with_reducible refine call_bytes_bytes ?_))
  k_with "call type:bytes" => ((k_here; (with_reducible show wpAny _ _ (call (Value.type "bytes") [Value.int _ _]) _ _ _); (refine' call_bytes_zeros ?k1 ?k2 ?_; (case k1 => omega); (case k2 => omega); intro c9 zs9 u9 k9 b9 z9 n9; (try dsimp only))))
  k_with "call type:bytes" => ((k_here; (with_reducible show wpAny _ _ (call (Value.type "bytes") [Value.ref _]) _ _ _); k_dflt (refine' KBa.make_K ?qzkbaF ?qzkbaN ?qzkbah ?qzkbal ?qzkbai ?qzkbar ?qzkban ?_; (case qzkbaF => k_asm); (case qzkbaN => k_asm); (case qzkbah => rfl); (case qzkbal => kba_isList); (case qzkbai => kba_listInts); (case qzkbar => walk_at "mine in"); (case qzkban => kba_size)); intro _ _ _ F' N' kbaIn))
  k_with "mine in" => (first | exact in_one (by omega) (by omega) | (refine in_cons (by omega) (by omega) ?_; walk_at "mine in"; done) | exact in_nil | kba_in)
  k_with "mine sub" => ((repeat (first | exact sub_refl | refine sub_keep ?_ | refine sub_skip ?_)))
  k_with "mine raised" => (first | (intro q9 hq9; (repeat (first | exact hq9 | refine List.mem_cons_of_mem _ ?_)); done) | (walk_at "mine sub"; done))
  k_with "mine news" => (first | k_asm | (refine cb_drop (by assumption) ?_; first | (intro p9 hp9; (repeat (first | exact hp9 | refine List.mem_cons_of_mem _ ?_)); done) | (walk_at "mine sub"; done)))
  k_with "mine absurd" => (first | (exfalso; omega) | (exfalso; (rename ((_ && _ : Bool) = _) => hx9); (simp only [Bool.and_eq_true, Bool.and_eq_false_iff, beq_iff_eq, beq_eq_false_iff_ne, ne_eq] at hx9); omega))
  k_with "compareOp In int ref" => ((k_here; (with_reducible show wpAny _ _ (compareOp CmpOp.In (Value.int _ _) (Value.ref 206)) _ _ _); first | (refine' in206_t ?k1 ?k2 ?k3 ?_; (case k1 => k_asm); (case k2 => k_asm); (case k3 => omega)) | (refine' in206_f ?k1 ?k2 ?k3 ?_; (case k1 => k_asm); (case k2 => k_asm); (case k3 => omega))))
  k_with "compareOp NotIn int ref" => ((k_here; (with_reducible show wpAny _ _ (compareOp CmpOp.NotIn (Value.int _ _) (Value.ref 206)) _ _ _); refine' notin206_t ?k1 ?k2 ?k3 ?_; (case k1 => k_asm); (case k2 => k_asm); (case k3 => omega)))
  k_with "mine mem" => (first | assumption | (refine List.forall_mem_cons.mpr ⟨by k_mem, List.forall_mem_cons.mpr ⟨by k_mem, List.forall_mem_nil _⟩⟩))
  k_with "getMethod bytes" => ((k_here; with_reducible refine join_method ?_))
  k_with "call builtin:bytes.join" => ((k_here; (with_reducible show wpAny _ _ (call (Value.builtin "bytes.join") [Value.bytes _ _, Value.ref _]) _ _ _); k_dflt (first | (refine' call_join0 ?k1 ?_; (case k1 => kba_isList); intro u9 k9; (have j9 := ints_nil)) | (refine' call_join1 ?k1 ?_; (case k1 => kba_isList)))))
  k_with "eval ListComp" => ((k_here; (with_reducible show wpAny _ _ (eval (Expr.ListComp _ [⟨Expr.Name _ _, Expr.Attribute _ _ _, [], 0⟩] _ _) _) _ _ _); k_dflt (refine listComp_tup (by k_asm) (by with_unfolding_all rfl) (by decide) (by rfl) (by decide) (by rfl) ?_)))
  k_with "TupSrc" => ((k_here; k_dflt (refine' TupSrc.intro ?k1 ?k2 ?k3 ?k4 ?k5 ?_; (case k1 => rfl); (case k2 => k_asm); (case k3 => k_asm); (case k4 => k_mem); (case k5 => exact Nat.le_of_ble_eq_true rfl); intro g'; first | (refine rest_nil rfl ?_) | (refine rest_one rfl (fun I' oI' C' oC' D' m' h' tk' E' hC' hx' F' N' off' ne' => ?_)))))
  k_with "CompEnd" => ((k_dflt (refine' LCg.CompEnd.intro ?k1 ?k2 _ ?k3 ?k4 ?k5 ?_; (case k1 => k_asm); (case k2 => k_asm); (case k3 => exact sub_refl); (case k4 => assumption); (case k5 => k_mem); (try dsimp only))))
  k_with "mine omega" => (first | omega | (simp only [List.length_append, List.length_cons, List.length_nil] <;> omega))
  k_with "call ref" => ((k_here; (with_reducible show wpAny _ _ (call (Value.ref 160) [Value.bytes _ _]) _ _ _); k_dflt (first | (refine' crc_sp _ _ _ _ (by kba_ints) _ _ _ _ _ _ _ _ _ _ _ _ _ _ _ _ _ _ _ _ _ _ _ ?k1 ?k2 ?k3 ?k4 ?k5 ?kK ?kd ?ku ?_; walk_at "mine side"; refine o_0 ?_; intro t9 h9 tk9 F9 N9; (try dsimp only); (try k_fold)))))
  k_with "call ref" => ((k_here; (with_reducible show wpAny _ _ (call (Value.ref 170) [Value.int _ _, Value.int _ _]) _ _ _); k_dflt (first | (refine' put1_sp _ _ _ _ ?qzh0 ?qzh1 _ _ _ _ _ _ _ _ _ _ _ _ _ _ _ _ _ _ _ _ _ _ _ ?k1 ?k2 ?k3 ?k4 ?k5 ?kK ?kd ?ku ?_; (case qzh0 => walk_at "mine omega"); (case qzh1 => walk_at "mine omega"); walk_at "mine side"; refine o_1 ?_; intro c9 t9 h9 tk9 F9 N9 b9; (try dsimp only); (try k_fold)) | (refine' put1_raise _ _ _ _ ?qzh0 _ _ _ _ _ _ _ _ _ _ _ _ _ _ _ _ _ _ _ _ _ _ _ ?k1 ?k2 ?k3 ?k4 ?k5 ?kK ?kd ?ku ?_; (case qzh0 => walk_at "mine omega"); walk_at "mine side"; intro e9 G9 h9 tk9 F9 R9 U9; (try dsimp only)) | (refine' put2_sp _ _ _ _ ?qzh0 ?qzh1 _ _ _ _ _ _ _ _ _ _ _ _ _ _ _ _ _ _ _ _ _ _ _ ?k1 ?k2 ?k3 ?k4 ?k5 ?kK ?kd ?ku ?_; (case qzh0 => walk_at "mine omega"); (case qzh1 => walk_at "mine omega"); walk_at "mine side"; refine o_1 ?_; intro c9 t9 h9 tk9 F9 N9 b9; (try dsimp only); (try k_fold)) | (refine' put2_raise _ _ _ _ ?qzh0 _ _ _ _ _ _ _ _ _ _ _ _ _ _ _ _ _ _ _ _ _ _ _ ?k1 ?k2 ?k3 ?k4 ?k5 ?kK ?kd ?ku ?_; (case qzh0 => walk_at "mine omega"); walk_at "mine side"; intro e9 G9 h9 tk9 F9 R9 U9; (try dsimp only)) | (refine' put6_sp _ _ _ _ ?qzh0 ?qzh1 _ _ _ _ _ _ _ _ _ _ _ _ _ _ _ _ _ _ _ _ _ _ _ ?k1 ?k2 ?k3 ?k4 ?k5 ?kK ?kd ?ku ?_; (case qzh0 => walk_at "mine omega"); (case qzh1 => walk_at "mine omega"); walk_at "mine side"; refine o_1 ?_; intro c9 t9 h9 tk9 F9 N9 b9; (try dsimp only); (try k_fold)))))
  k_with "call ref" => ((k_here; (with_reducible show wpAny _ _ (call (Value.ref 177) [Value.bytes _ _, Value.int _ _, Value.int _ _]) _ _ _); k_dflt (first | (refine' get1v _ _ _ _ (by kba_ints) ?qzh0 _ _ _ ?qzh1 ?qzh2 _ _ _ _ _ _ _ _ _ _ _ _ _ _ _ _ _ _ _ _ _ _ _ ?k1 ?k2 ?k3 ?k4 ?k5 ?kK ?kd ?ku ?_; (case qzh0 => walk_at "mine omega"); (case qzh1 => walk_at "mine omega"); (case qzh2 => walk_at "mine omega"); walk_at "mine side"; refine o_2 ?_; intro t9 h9 tk9 F9 N9 lo9 hi9; (try dsimp only); (try k_fold)) | (refine' get3v _ _ _ _ (by kba_ints) ?qzh0 _ _ _ ?qzh1 ?qzh2 _ _ _ _ _ _ _ _ _ _ _ _ _ _ _ _ _ _ _ _ _ _ _ ?k1 ?k2 ?k3 ?k4 ?k5 ?kK ?kd ?ku ?_; (case qzh0 => walk_at "mine omega"); (case qzh1 => walk_at "mine omega"); (case qzh2 => walk_at "mine omega"); walk_at "mine side"; refine o_2 ?_; intro t9 h9 tk9 F9 N9 lo9 hi9; (try dsimp only); (try k_fold)) | (refine' get_sp _ _ _ _ (by kba_ints) ?qzh0 _ _ _ _ ?qzh1 ?qzh2 ?qzh3 ?qzh4 _ _ _ _ _ _ _ _ _ _ _ _ _ _ _ _ _ _ _ _ _ _ _ ?k1 ?k2 ?k3 ?k4 ?k5 ?kK ?kd ?ku ?_; (case qzh0 => walk_at "mine omega"); (case qzh1 => walk_at "mine omega"); (case qzh2 => walk_at "mine omega"); (case qzh3 => walk_at "mine omega"); (case qzh4 => walk_at "mine omega"); walk_at "mine side"; refine o_0 ?_; intro t9 h9 tk9 F9 N9; (try dsimp only); (try k_fold)) | (refine' get_raise _ _ _ _ (by kba_ints) ?qzh0 _ _ _ _ ?qzh1 ?qzh2 ?qzh3 ?qzh4 ?qzh5 _ _ _ _ _ _ _ _ _ _ _ _ _ _ _ _ _ _ _ _ _ _ _ ?k1 ?k2 ?k3 ?k4 ?k5 ?kK ?kd ?ku ?_; (case qzh0 => walk_at "mine omega"); (case qzh1 => walk_at "mine omega"); (case qzh2 => walk_at "mine omega"); (case qzh3 => walk_at "mine omega"); (case qzh4 => walk_at "mine omega"); (case qzh5 => walk_at "mine omega"); walk_at "mine side"; intro e9 G9 h9 tk9 F9 R9 U9; (try dsimp only)))))
  k_with "call ref" => ((k_here; (with_reducible show wpAny _ _ (call (Value.ref 184) [Value.int _ _]) _ _ _); k_dflt (first | (refine' put16_sp _ _ _ ?qzh0 ?qzh1 _ _ _ _ _ _ _ _ _ _ _ _ _ _ _ _ _ _ _ _ _ _ _ ?k1 ?k2 ?k3 ?k4 ?k5 ?kK ?kd ?ku ?_; (case qzh0 => walk_at "mine omega"); (case qzh1 => walk_at "mine omega"); walk_at "mine side"; refine o_1 ?_; intro c9 t9 h9 tk9 F9 N9 b9; (try dsimp only); (try k_fold)) | (refine' put16_sp _ _ _ ?qzh0 ?qzh1 _ _ _ _ _ _ _ _ _ _ _ _ _ _ _ _ _ _ _ _ _ _ _ ?k1 ?k2 ?k3 ?k4 ?k5 ?kK ?kd ?ku ?_; walk_at "mine side"; (case qzh0 => decide); (case qzh1 => decide); refine o_1 ?_; intro c9 t9 h9 tk9 F9 N9 b9; (try dsimp only); (try k_fold)) | (refine' put16_raise _ _ _ ?qzh0 _ _ _ _ _ _ _ _ _ _ _ _ _ _ _ _ _ _ _ _ _ _ _ ?k1 ?k2 ?k3 ?k4 ?k5 ?kK ?kd ?ku ?_; (case qzh0 => walk_at "mine omega"); walk_at "mine side"; intro e9 G9 h9 tk9 F9 R9 U9; (try dsimp only)))))
  k_with "call ref" => ((k_here; (with_reducible show wpAny _ _ (call (Value.ref 191) [Value.int _ _]) _ _ _); k_dflt (first | (refine' put48_sp _ _ _ ?qzh0 ?qzh1 _ _ _ _ _ _ _ _ _ _ _ _ _ _ _ _ _ _ _ _ _ _ _ ?k1 ?k2 ?k3 ?k4 ?k5 ?kK ?kd ?ku ?_; (case qzh0 => walk_at "mine omega"); (case qzh1 => walk_at "mine omega"); walk_at "mine side"; refine o_1 ?_; intro c9 t9 h9 tk9 F9 N9 b9; (try dsimp only); (try k_fold)))))
  k_with "call ref" => ((k_here; (with_reducible show wpAny _ _ (call (Value.ref 198) [Value.bytes _ _, Value.int _ _]) _ _ _); k_dflt (first | (refine' get16v _ _ _ _ (by kba_ints) ?qzh0 _ _ ?qzh1 ?qzh2 _ _ _ _ _ _ _ _ _ _ _ _ _ _ _ _ _ _ _ _ _ _ _ ?k1 ?k2 ?k3 ?k4 ?k5 ?kK ?kd ?ku ?_; (case qzh0 => walk_at "mine omega"); (case qzh1 => walk_at "mine omega"); (case qzh2 => walk_at "mine omega"); walk_at "mine side"; refine o_3 ?_; intro t9 h9 tk9 F9 N9 lo9 hi9 lo8 hi8; (try dsimp only); (try k_fold)) | (refine' get16_raise _ _ _ _ (by kba_ints) ?qzh0 _ _ ?qzh1 ?qzh2 ?qzh3 _ _ _ _ _ _ _ _ _ _ _ _ _ _ _ _ _ _ _ _ _ _ _ ?k1 ?k2 ?k3 ?k4 ?k5 ?kK ?kd ?ku ?_; (case qzh0 => walk_at "mine omega"); (case qzh1 => walk_at "mine omega"); (case qzh2 => walk_at "mine omega"); (case qzh3 => walk_at "mine omega"); walk_at "mine side"; intro e9 G9 h9 tk9 F9 R9 U9; (try dsimp only)))))
  k_with "call ref" => ((k_here; (with_reducible show wpAny _ _ (call (Value.ref 198) [Value.bytes _ _, Value.int _ _]) _ _ _); k_dflt (first | (refine' get16c _ _ _ _ (by kba_ints) 12 _ ?qzh9 ?qzh0 _ _ ?qzh1 ?qzh2 _ _ _ _ _ _ _ _ _ _ _ _ _ _ _ _ _ _ _ _ _ _ _ ?k1 ?k2 ?k3 ?k4 ?k5 ?kK ?kd ?ku ?_; (case qzh0 => walk_at "mine omega"); (case qzh2 => walk_at "mine omega"); walk_at "mine side"; (case qzh9 => assumption); (case qzh1 => first | exact rfl | decide); refine o_0 ?_; intro t9 h9 tk9 F9 N9; (try dsimp only); (try k_fold)) | (refine' get16c _ _ _ _ (by kba_ints) 14 _ ?qzh9 ?qzh0 _ _ ?qzh1 ?qzh2 _ _ _ _ _ _ _ _ _ _ _ _ _ _ _ _ _ _ _ _ _ _ _ ?k1 ?k2 ?k3 ?k4 ?k5 ?kK ?kd ?ku ?_; (case qzh0 => walk_at "mine omega"); (case qzh2 => walk_at "mine omega"); walk_at "mine side"; (case qzh9 => assumption); (case qzh1 => first | exact rfl | decide); refine o_0 ?_; intro t9 h9 tk9 F9 N9; (try dsimp only); (try k_fold)) | (refine' get16c _ _ _ _ (by kba_ints) 16 _ ?qzh9 ?qzh0 _ _ ?qzh1 ?qzh2 _ _ _ _ _ _ _ _ _ _ _ _ _ _ _ _ _ _ _ _ _ _ _ ?k1 ?k2 ?k3 ?k4 ?k5 ?kK ?kd ?ku ?_; (case qzh0 => walk_at "mine omega"); (case qzh2 => walk_at "mine omega"); walk_at "mine side"; (case qzh9 => assumption); (case qzh1 => first | exact rfl | decide); refine o_0 ?_; intro t9 h9 tk9 F9 N9; (try dsimp only); (try k_fold)) | (refine' get16v _ _ _ _ (by kba_ints) ?qzh0 _ _ ?qzh1 ?qzh2 _ _ _ _ _ _ _ _ _ _ _ _ _ _ _ _ _ _ _ _ _ _ _ ?k1 ?k2 ?k3 ?k4 ?k5 ?kK ?kd ?ku ?_; (case qzh0 => walk_at "mine omega"); (case qzh1 => walk_at "mine omega"); (case qzh2 => walk_at "mine omega"); walk_at "mine side"; refine o_3 ?_; intro t9 h9 tk9 F9 N9 lo9 hi9 lo8 hi8; (try dsimp only); (try k_fold)) | (refine' get16_raise _ _ _ _ (by kba_ints) ?qzh0 _ _ ?qzh1 ?qzh2 ?qzh3 _ _ _ _ _ _ _ _ _ _ _ _ _ _ _ _ _ _ _ _ _ _ _ ?k1 ?k2 ?k3 ?k4 ?k5 ?kK ?kd ?ku ?_; (case qzh0 => walk_at "mine omega"); (case qzh1 => walk_at "mine omega"); (case qzh2 => walk_at "mine omega"); (case qzh3 => walk_at "mine omega"); walk_at "mine side"; intro e9 G9 h9 tk9 F9 R9 U9; (try dsimp only)))))
  k_with "call ref" => ((k_here; (with_reducible show wpAny _ _ (call (Value.ref 205) [Value.bytes _ _, Value.int _ _]) _ _ _); k_dflt (first | (refine' get48_sp _ _ _ _ (by kba_ints) ?qzh0 _ _ ?qzh1 ?qzh2 _ _ _ _ _ _ _ _ _ _ _ _ _ _ _ _ _ _ _ _ _ _ _ ?k1 ?k2 ?k3 ?k4 ?k5 ?kK ?kd ?ku ?_; (case qzh0 => walk_at "mine omega"); (case qzh1 => walk_at "mine omega"); (case qzh2 => walk_at "mine omega"); walk_at "mine side"; refine o_0 ?_; intro t9 h9 tk9 F9 N9; (try dsimp only); (try k_fold)))))
  k_with "call ref" => ((k_here; (with_reducible show wpAny _ _ (call (Value.ref 334) [Value.int _ _, Value.int _ _, Value.int _ _, Value.bytes _ _]) _ _ _); k_dflt (first | (refine' llc_sp _ _ _ _ _ _ _ _ _ _ _ _ _ _ _ _ _ _ _ _ _ _ _ _ _ _ _ _ _ _ _ _ ?k1 ?k2 ?k3 ?k4 ?k5 ?kK ?kd ?ku ?_; walk_at "mine side"; refine o_4 ?_; intro x9 d9 ka9 kb9 kc9 kd9 h9 tk9 F9 N9 l9 l8; (try unfold llcD at N9); (try k_lt l9); (try k_lt2 l8); (try dsimp only); (try k_fold)))))
  k_with "call ref" => ((k_here; (with_reducible show wpAny _ _ (call (Value.ref 352) [Value.ref _]) _ _ _); k_dflt (first | (refine' pack_sp _ _ _ _ _ _ _ _ _ _ _ _ _ _ _ _ _ ?qzh9 ?qzh0 _ ?qzh1 ?qzh2 ?qzh3 ?qzh8 ?qzh4 _ _ _ _ _ _ _ _ _ _ _ _ _ _ _ _ _ _ _ _ _ _ ?k1 ?k2 ?k3 ?k4 ?k5 ?kK ?kd ?ku ?_; walk_at "mine side"; (case qzh4 => walk_at "mine mem"); (case qzh9 => kba_ints); (case qzh8 => assumption); (case qzh0 => walk_at "mine omega"); (case qzh1 => walk_at "mine omega"); (case qzh2 => walk_at "mine omega"); (case qzh3 => walk_at "mine omega"); refine o_5 ?_; intro c9 t9 h9 tk9 F9 N9 b9; (try dsimp only); (try k_fold)) | (refine' pack_no _ _ _ _ _ _ _ _ _ _ _ _ _ _ _ _ ?qzh9 ?qzh0 _ ?qzh1 ?qzh2 ?qzh3 ?qzh5 ?qzh8 ?qzh4 _ _ _ _ _ _ _ _ _ _ _ _ _ _ _ _ _ _ _ _ _ _ ?k1 ?k2 ?k3 ?k4 ?k5 ?kK ?kd ?ku ?_; walk_at "mine side"; (case qzh4 => walk_at "mine mem"); (case qzh9 => kba_ints); (case qzh8 => assumption); (case qzh0 => walk_at "mine omega"); (case qzh1 => walk_at "mine omega"); (case qzh2 => walk_at "mine omega"); (case qzh3 => walk_at "mine omega"); (case qzh5 => walk_at "mine omega"); intro e9 G9 h9 tk9 F9 R9 U9; (try dsimp only)))))
  k_with "call ref" => ((k_here; (with_reducible show wpAny _ _ (call (Value.ref 394) [Value.ref _, Value.ref _]) _ _ _); k_dflt (first | (refine' one_int _ _ _ _ _ _ _ 60 _ _ _ _ _ ?qzU ?qzh0 ?qzh1 ?qzh2 ?qzh3 ?qzh4 ?qzh6 ?qzh5 ?qzh7 _ _ _ _ _ _ _ _ _ _ _ _ _ _ _ _ _ _ _ _ _ _ ?k1 ?k2 ?k3 ?k4 ?k5 ?kK ?kd ?ku ?_; walk_at "mine side"; (case qzU => walk_at "mine upd"); (case qzh6 => k_mem); (case qzh7 => walk_at "mine ints"); (case qzh0 => walk_at "mine omega"; skip); (case qzh1 => walk_at "mine omega"; skip); (case qzh2 => walk_at "mine omega"; skip); (case qzh3 => exact Nat.le_of_ble_eq_true rfl); (case qzh4 => exact Nat.le_of_ble_eq_true rfl); (case qzh5 => walk_at "mine ane"); refine o_7 ?_; intro dr9 t9 aa9 bb9 u9 v9 m9 h9 tk9 F9 N9 lo9 hi9 aa0 bb0 bb1; (try dsimp only at N9); (try dsimp only); (try k_fold)) | (refine' one_int _ _ _ _ _ _ _ 255 _ _ _ _ _ ?qzU ?qzh0 ?qzh1 ?qzh2 ?qzh3 ?qzh4 ?qzh6 ?qzh5 ?qzh7 _ _ _ _ _ _ _ _ _ _ _ _ _ _ _ _ _ _ _ _ _ _ ?k1 ?k2 ?k3 ?k4 ?k5 ?kK ?kd ?ku ?_; walk_at "mine side"; (case qzU => walk_at "mine upd"); (case qzh6 => k_mem); (case qzh7 => walk_at "mine ints"); (case qzh0 => walk_at "mine omega"; skip); (case qzh1 => walk_at "mine omega"; skip); (case qzh2 => walk_at "mine omega"; skip); (case qzh3 => exact Nat.le_of_ble_eq_true rfl); (case qzh4 => exact Nat.le_of_ble_eq_true rfl); (case qzh5 => walk_at "mine ane"); refine o_7 ?_; intro dr9 t9 aa9 bb9 u9 v9 m9 h9 tk9 F9 N9 lo9 hi9 aa0 bb0 bb1; (try dsimp only at N9); (try dsimp only); (try k_fold)) | (refine' one_int _ _ _ _ _ _ _ 1000 _ _ _ _ _ ?qzU ?qzh0 ?qzh1 ?qzh2 ?qzh3 ?qzh4 ?qzh6 ?qzh5 ?qzh7 _ _ _ _ _ _ _ _ _ _ _ _ _ _ _ _ _ _ _ _ _ _ ?k1 ?k2 ?k3 ?k4 ?k5 ?kK ?kd ?ku ?_; walk_at "mine side"; (case qzU => walk_at "mine upd"); (case qzh6 => k_mem); (case qzh7 => walk_at "mine ints"); (case qzh0 => walk_at "mine omega"; skip); (case qzh1 => walk_at "mine omega"; skip); (case qzh2 => walk_at "mine omega"; skip); (case qzh3 => exact Nat.le_of_ble_eq_true rfl); (case qzh4 => exact Nat.le_of_ble_eq_true rfl); (case qzh5 => walk_at "mine ane"); refine o_7 ?_; intro dr9 t9 aa9 bb9 u9 v9 m9 h9 tk9 F9 N9 lo9 hi9 aa0 bb0 bb1; (try dsimp only at N9); (try dsimp only); (try k_fold)) | (refine' one_int _ _ _ _ _ _ _ 65536 _ _ _ _ _ ?qzU ?qzh0 ?qzh1 ?qzh2 ?qzh3 ?qzh4 ?qzh6 ?qzh5 ?qzh7 _ _ _ _ _ _ _ _ _ _ _ _ _ _ _ _ _ _ _ _ _ _ ?k1 ?k2 ?k3 ?k4 ?k5 ?kK ?kd ?ku ?_; walk_at "mine side"; (case qzU => walk_at "mine upd"); (case qzh6 => k_mem); (case qzh7 => walk_at "mine ints"); (case qzh0 => walk_at "mine omega"; skip); (case qzh1 => walk_at "mine omega"; skip); (case qzh2 => walk_at "mine omega"; skip); (case qzh3 => exact Nat.le_of_ble_eq_true rfl); (case qzh4 => exact Nat.le_of_ble_eq_true rfl); (case qzh5 => walk_at "mine ane"); refine o_7 ?_; intro dr9 t9 aa9 bb9 u9 v9 m9 h9 tk9 F9 N9 lo9 hi9 aa0 bb0 bb1; (try dsimp only at N9); (try dsimp only); (try k_fold)) | (refine' one_int _ _ _ _ _ _ _ 16777219 _ _ _ _ _ ?qzU ?qzh0 ?qzh1 ?qzh2 ?qzh3 ?qzh4 ?qzh6 ?qzh5 ?qzh7 _ _ _ _ _ _ _ _ _ _ _ _ _ _ _ _ _ _ _ _ _ _ ?k1 ?k2 ?k3 ?k4 ?k5 ?kK ?kd ?ku ?_; walk_at "mine side"; (case qzU => walk_at "mine upd"); (case qzh6 => k_mem); (case qzh7 => walk_at "mine ints"); (case qzh0 => walk_at "mine omega"; skip); (case qzh1 => walk_at "mine omega"; skip); (case qzh2 => walk_at "mine omega"; skip); (case qzh3 => exact Nat.le_of_ble_eq_true rfl); (case qzh4 => exact Nat.le_of_ble_eq_true rfl); (case qzh5 => walk_at "mine ane"); refine o_7 ?_; intro dr9 t9 aa9 bb9 u9 v9 m9 h9 tk9 F9 N9 lo9 hi9 aa0 bb0 bb1; (try dsimp only at N9); (try dsimp only); (try k_fold)))))
  k_with "call ref" => ((k_here; (with_reducible show wpAny _ _ (call (Value.ref 366) [Value.ref _]) _ _ _); k_dflt (first | (refine' snap_none_m _ _ _ _ _ _ _ _ _ _ _ _ _ _ _ _ ?qzh0 ?qzh4 _ _ _ _ _ _ _ _ _ _ _ _ _ _ _ _ _ _ _ _ _ _ ?k1 ?k2 ?k3 ?k4 ?k5 ?kK ?kd ?ku ?_; walk_at "mine side"; (case qzh4 => walk_at "mine mem"); (case qzh0 => walk_at "mine omega"; skip); refine o_8 ?_; intro h9 tk9 F9 N9; (try dsimp only); (try k_fold)) | (refine' snap_raise_m _ _ _ _ _ _ _ _ _ _ _ _ _ _ _ _ ?qzh9 ?qzh0 _ ?qzh1 ?qzh2 ?qzh3 ?qzh4 _ _ _ _ _ _ _ _ _ _ _ _ _ _ _ _ _ _ _ _ _ _ ?k1 ?k2 ?k3 ?k4 ?k5 ?kK ?kd ?ku ?_; walk_at "mine side"; (case qzh4 => walk_at "mine mem"); (case qzh9 => kba_ints); (case qzh1 => walk_at "mine omega"; skip); (case qzh2 => walk_at "mine omega"; skip); (case qzh3 => walk_at "mine omega"; skip); (case qzh0 => walk_at "mine omega"; skip); intro e9 G9 h9 tk9 F9 R9 U9; (try dsimp only)) | (refine' snap_ok_m _ _ _ _ _ _ _ _ _ _ _ _ _ _ _ _ ?qzh9 ?qzh0 ?qzh5 _ ?qzh1 ?qzh2 ?qzh3 ?qzh4 _ _ _ _ _ _ _ _ _ _ _ _ _ _ _ _ _ _ _ _ _ _ ?k1 ?k2 ?k3 ?k4 ?k5 ?kK ?kd ?ku ?_; walk_at "mine side"; (case qzh4 => walk_at "mine mem"); (case qzh9 => kba_ints); (case qzh1 => walk_at "mine omega"; skip); (case qzh2 => walk_at "mine omega"; skip); (case qzh3 => walk_at "mine omega"; skip); (case qzh0 => walk_at "mine omega"; skip); (case qzh5 => walk_at "mine omega"; skip); refine o_9 ?_; intro dd9 ka9 t9 u9 v9 c9 h9 tk9 F9 N9 b9; (try dsimp only); (try k_fold)))))
  k_with "call ref" => ((k_here; (with_reducible show wpAny _ _ (call (Value.ref 302) [Value.bytes _ _, Value.int 12 _]) _ _ _); k_dflt (first | (refine' utags1 _ _ _ _ _ _ (by kba_ints) ?qzh0 ?qzh1 ?qzh2 ?qzh3 ?qzh4 ?qzh5 ?qzh6 _ _ _ _ _ _ _ _ _ _ _ _ _ _ _ _ _ _ _ _ _ _ _ ?k1 ?k2 ?k3 ?k4 ?k5 ?kK ?kd ?ku ?_; (case qzh0 => walk_at "mine omega"); (case qzh1 => walk_at "mine omega"); walk_at "mine side"; (case qzh2 => assumption); (case qzh3 => assumption); (case qzh4 => assumption); (case qzh5 => walk_at "mine omega"; skip); (case qzh6 => walk_at "mine omega"; skip); refine o_11 ?_; intro dd9 ff9 t9 ka9 kb9 x9 h9 tk9 F9 N9; (try dsimp only); (try k_fold)) | (refine' utags0 _ _ _ _ _ _ (by kba_ints) ?qzh0 ?qzh1 ?qzh2 ?qzh5 ?qzh6 _ _ _ _ _ _ _ _ _ _ _ _ _ _ _ _ _ _ _ _ _ _ _ ?k1 ?k2 ?k3 ?k4 ?k5 ?kK ?kd ?ku ?_; (case qzh0 => walk_at "mine omega"); (case qzh1 => walk_at "mine omega"); walk_at "mine side"; (case qzh2 => assumption); (case qzh5 => walk_at "mine omega"; skip); (case qzh6 => walk_at "mine omega"; skip); refine o_12 ?_; intro dd9 ff9 t9 ka9 kb9 h9 tk9 F9 N9; (try dsimp only); (try k_fold)))))
  k_with "call ref" => ((k_here; (with_reducible show wpAny _ _ (call (Value.ref 345) [Value.int _ _]) _ _ _); k_dflt (first | (refine' short_t _ _ _ ?qzh0 _ _ _ _ _ _ _ _ _ _ _ _ _ _ _ _ _ _ _ _ _ _ _ ?k1 ?k2 ?k3 ?k4 ?k5 ?kK ?kd ?ku ?_; walk_at "mine side"; (case qzh0 => walk_at "mine mod"); refine o_8 ?_; intro h9 tk9 F9 N9; (try dsimp only); (try k_fold)) | (refine' short_f _ _ _ ?qzh0 _ _ _ _ _ _ _ _ _ _ _ _ _ _ _ _ _ _ _ _ _ _ _ ?k1 ?k2 ?k3 ?k4 ?k5 ?kK ?kd ?ku ?_; walk_at "mine side"; (case qzh0 => walk_at "mine mod"); refine o_8 ?_; intro h9 tk9 F9 N9; (try dsimp only); (try k_fold)))))
  k_with "mine mod" => (((try rw [fd8]); omega))
  k_with "leaving ref" => ((k_here; refine' leave_mineOn ?k1 ?k2 ?k3 ?k4 ?k5 ?_; (case k3 => assumption); (case k2 => assumption); (case k1 => k_asm); (case k4 => assumption); (case k5 => k_dflt (exact rfl)); intro h' R' U'; (try dsimp only)))
  k_with "call ref" => ((k_here; (with_reducible show wpAny _ _ (call (Value.ref 177) [Value.bytes _ _, Value.int 2 _, Value.int 1 _]) _ _ _); k_dflt (first | (refine' get1at2 _ _ _ _ (by kba_ints) ?qzh0 _ _ ?qzh1 _ _ _ _ _ _ _ _ _ _ _ _ _ _ _ _ _ _ _ _ _ _ _ ?k1 ?k2 ?k3 ?k4 ?k5 ?kK ?kd ?ku ?_; (case qzh0 => walk_at "mine omega"); (case qzh1 => walk_at "mine omega"); walk_at "mine side"; refine o_2 ?_; intro t9 h9 tk9 F9 N9 lo9 hi9; (try dsimp only); (try k_fold)))))
  k_with "call ref" => ((k_here; (with_reducible show wpAny _ _ (call (Value.ref 177) [Value.bytes _ _, Value.int 0 _, Value.int 3 _]) _ _ _); k_dflt (first | (refine' get3at0 _ _ _ _ (by kba_ints) ?qzh0 _ _ ?qzh1 _ _ _ _ _ _ _ _ _ _ _ _ _ _ _ _ _ _ _ _ _ _ _ ?k1 ?k2 ?k3 ?k4 ?k5 ?kK ?kd ?ku ?_; (case qzh0 => walk_at "mine omega"); (case qzh1 => walk_at "mine omega"); walk_at "mine side"; refine o_2 ?_; intro t9 h9 tk9 F9 N9 lo9 hi9; (try dsimp only); (try k_fold)))))
  k_with "call ref" => ((k_here; (with_reducible show wpAny _ _ (call (Value.ref 198) [Value.bytes _ _, Value.int 2 _]) _ _ _); k_dflt (first | (refine' get16at2 _ _ _ _ (by kba_ints) ?qzh0 _ ?qzh1 _ _ _ _ _ _ _ _ _ _ _ _ _ _ _ _ _ _ _ _ _ _ _ ?k1 ?k2 ?k3 ?k4 ?k5 ?kK ?kd ?ku ?_; (case qzh0 => walk_at "mine omega"); (case qzh1 => walk_at "mine omega"); walk_at "mine side"; refine o_3 ?_; intro t9 h9 tk9 F9 N9 lo9 hi9 lo8 hi8; (try dsimp only); (try k_fold)))))
  k_with "call ref" => ((k_here; (with_reducible show wpAny _ _ (call (Value.ref 198) [Value.bytes _ _, Value.int 3 _]) _ _ _); k_dflt (first | (refine' get16at3 _ _ _ _ (by kba_ints) ?qzh0 _ ?qzh1 _ _ _ _ _ _ _ _ _ _ _ _ _ _ _ _ _ _ _ _ _ _ _ ?k1 ?k2 ?k3 ?k4 ?k5 ?kK ?kd ?ku ?_; (case qzh0 => walk_at "mine omega"); (case qzh1 => walk_at "mine omega"); walk_at "mine side"; refine o_3 ?_; intro t9 h9 tk9 F9 N9 lo9 hi9 lo8 hi8; (try dsimp only); (try k_fold)))))
  k_with "call ref" => ((k_here; (with_reducible show wpAny _ _ (call (Value.ref 230) [Value.int _ _, Value.int _ _, Value.bool _, Value.int _ _]) _ _ _); k_dflt (first | (refine' tag_sp _ _ _ _ _ _ _ _ _ _ _ _ _ _ _ _ _ _ _ _ _ _ _ _ _ _ _ _ _ _ _ ?k1 ?k2 ?k3 ?k4 ?k5 ?kK ?kd ?ku ?_; walk_at "mine side"; refine o_4 ?_; intro x9 d9 ka9 kb9 kc9 kd9 h9 tk9 F9 N9 l9 l8; (try unfold tagD at N9); (try k_lt l9); (try k_lt2 l8); (try dsimp only); (try k_fold)))))
  k_with "call ref" => ((k_here; (with_reducible show wpAny _ _ (call (Value.ref 264) [Value.int 5 _, Value.int 6 _, Value.ref _, Value.none, Value.bytes _ _]) _ _ _); k_dflt (first | (refine' frm_sp _ _ _ _ _ _ _ _ _ ?qzh0 _ _ _ _ _ _ _ _ _ _ _ _ _ _ _ _ _ _ _ _ _ _ ?k1 ?k2 ?k3 ?k4 ?k5 ?kK ?kd ?ku ?_; walk_at "mine side"; (case qzh0 => first | assumption | k_mem); refine o_10 ?_; intro x9 d9 ka9 kb9 kc9 kd9 ke9 h9 tk9 F9 N9 l9 l8; (try simp only [FrmAt, List.cons_append, List.nil_append] at N9); (try unfold frmD at N9); (try k_lt l9); (try k_lt2 l8); (try dsimp only); (try k_fold)))))
  k_with "call ref" => ((k_here; (with_reducible show wpAny _ _ (call (Value.ref 165) [Value.bytes _ _]) _ _ _); k_dflt (first | (refine' sum_sp _ _ _ _ (by kba_ints) _ _ _ _ _ _ _ _ _ _ _ _ _ _ _ _ _ _ _ _ _ _ _ ?k1 ?k2 ?k3 ?k4 ?k5 ?kK ?kd ?ku ?_; walk_at "mine side"; refine o_1 ?_; intro c9 t9 h9 tk9 F9 N9 b9; (have sl9 := sumF_at b9); (try dsimp only); (try k_fold)))))
  k_with "call ref" => ((k_here; (with_reducible show wpAny _ _ (call (Value.ref 275) [Value.ref _]) _ _ _); k_dflt (first | (refine' ptag_m _ _ _ _ _ _ _ _ _ _ _ ?qzh4 _ _ _ _ _ _ _ _ _ _ _ _ _ _ _ _ _ _ _ _ _ _ ?k1 ?k2 ?k3 ?k4 ?k5 ?kK ?kd ?ku ?_; walk_at "mine side"; (case qzh4 => walk_at "mine mem"); refine o_5 ?_; intro c9 t9 h9 tk9 F9 N9 b9; (try dsimp only); (try k_fold)))))
  k_with "call ref" => ((k_here; (with_reducible show wpAny _ _ (call (Value.ref 282) [Value.ref _]) _ _ _); k_dflt (first | (refine' pkind_sp _ _ _ _ _ _ _ _ _ _ _ _ _ _ ?qzh9 ?qzh0 _ ?qzh4 _ _ _ _ _ _ _ _ _ _ _ _ _ _ _ _ _ _ _ _ _ _ ?k1 ?k2 ?k3 ?k4 ?k5 ?kK ?kd ?ku ?_; walk_at "mine side"; (case qzh4 => walk_at "mine mem"); (case qzh9 => kba_ints); (case qzh0 => walk_at "mine omega"); refine o_5 ?_; intro c9 t9 h9 tk9 F9 N9 b9; (try dsimp only); (try k_fold)))))
  k_with "call ref" => ((k_here; (with_reducible show wpAny _ _ (call (Value.ref 295) [Value.bytes _ _, Value.int 12 _]) _ _ _); k_dflt (first | (refine' utag _ _ _ _ _ (by kba_ints) ?qzh0 ?qzh1 ?qzh2 ?qzh3 _ _ _ _ _ _ _ _ _ _ _ _ _ _ _ _ _ _ _ _ _ _ _ ?k1 ?k2 ?k3 ?k4 ?k5 ?kK ?kd ?ku ?_; (case qzh0 => walk_at "mine omega"); (case qzh1 => walk_at "mine omega"); walk_at "mine side"; (case qzh2 => assumption); (case qzh3 => assumption); refine o_13 ?_; intro x9 d9 ka9 kb9 kc9 kd9 va9 vb9 vc9 vd9 h9 tk9 F9 N9 l9 l8; (try unfold tagD at N9); (try k_lt l9); (try k_lt2 l8); (try dsimp only); (try k_fold)))))
  k_with "call ref" => ((k_here; (with_reducible show wpAny _ _ (call (Value.ref 264) [Value.int _ _, Value.int _ _, Value.ref _, Value.none, Value.bytes _ _]) _ _ _); k_dflt (first | (refine' frm_g _ _ _ _ _ _ _ _ _ _ _ ?qzh0 _ _ _ _ _ _ _ _ _ _ _ _ _ _ _ _ _ _ _ _ _ _ ?k1 ?k2 ?k3 ?k4 ?k5 ?kK ?kd ?ku ?_; walk_at "mine side"; (case qzh0 => first | assumption | k_mem); refine o_10 ?_; intro x9 d9 ka9 kb9 kc9 kd9 ke9 h9 tk9 F9 N9 l9 l8; (try unfold frmD at N9); (try k_lt l9); (try k_lt2 l8); (try dsimp only); (try k_fold)))))
  trivial
theorem top_off_W0 : True := by
  w_top off
  trivial
section
variable {prog : Program} {w : World} {A : Around} {E : Value → Shared → Prop} {s : Shared} {value slice : PySem.Expr} {l : Addr} {items : Array Value} {k : Int} {u : Tok} {v : Value} {Q : Value → Shared → Prop}
theorem list_item (hl : s.heap.IsList l items) (h0 : 0 ≤ k) (hfit : k < 2 ^ 63) (hx : items[k.toNat]? = some v) (h : Q v s)
    (hs : subscripted slice false (.ref l) (.int k u) = operate [.ref l, .int k u] (getItem (.ref l) (.int k u)) := by with_unfolding_all rfl) :
    wpAny (model prog w) A (subscriptTail value slice (.ref l) (.int k u)) Q E s := tail_any hl.typeIs slot_list_getitem.lookup (wpAny_getItem_list hl h0 hfit hx h) hs
theorem list_at0 {v0 v1 : Value} (hl : s.heap.IsList l #[v0, v1]) (h : Q v0 s)
    (hs : subscripted slice false (.ref l) (.int 0 u) = operate [.ref l, .int 0 u] (getItem (.ref l) (.int 0 u)) := by with_unfolding_all rfl) :
    wpAny (model prog w) A (subscriptTail value slice (.ref l) (.int 0 u)) Q E s := list_item hl (by decide) (by decide) rfl h hs
theorem list_at1 {v0 v1 : Value} (hl : s.heap.IsList l #[v0, v1]) (h : Q v1 s)
    (hs : subscripted slice false (.ref l) (.int 1 u) = operate [.ref l, .int 1 u] (getItem (.ref l) (.int 1 u)) := by with_unfolding_all rfl) :
    wpAny (model prog w) A (subscriptTail value slice (.ref l) (.int 1 u)) Q E s := list_item hl (by decide) (by decide) rfl h hs
theorem list_some (hl : s.heap.IsList l items) (h0 : 0 ≤ k) (h1 : k < items.size) (hsz : items.size ≤ 1000) (h : ∀ v, items[k.toNat]? = some v → Q v s)
    (hs : subscripted slice false (.ref l) (.int k u) = operate [.ref l, .int k u] (getItem (.ref l) (.int k u)) := by with_unfolding_all rfl) :
    wpAny (model prog w) A (subscriptTail value slice (.ref l) (.int k u)) Q E s := by
  have hi : k.toNat < items.size := by omega
  exact list_item hl h0 (by omega) (Array.getElem?_eq_getElem hi) (h _ (Array.getElem?_eq_getElem hi)) hs
end
theorem isList_in {h₀ h : Heap} {L a : Addr} {news : List (Addr × Obj)} {items : Array Value} {n : Nat} (N : News h₀ L h news) (hm : (a, W.listOf items n) ∈ news) : h.IsList a items := ⟨_, (N _ hm).1, rfl, _, rfl⟩
theorem in_cons {n : Int} {r : List Int} (h0 : 0 ≤ n) (h1 : n < 256) (h : KBa.In r) : KBa.In (n :: r) := fun k hk => (List.mem_cons.mp hk).elim (fun e => e ▸ ⟨h0, h1⟩) (h k)
theorem in_nil : KBa.In [] := fun _ h => nomatch h
theorem top_off_W1 : True := by
  w_top off
  trivial
section
theorem kw_21 : True := by
  k_with "subscriptTail Name Constant ref int" => ((k_here; (with_reducible show wpAny _ _ (subscriptTail _ _ (Value.ref _) (Value.int 0 _)) _ _ _); k_dflt (refine' list_at0 ?k1 ?_ ?qzk6; (case k1 => (refine' isList_in ?qzkN ?qzkM; (case qzkN => k_asm); (case qzkM => k_mem))); (case qzk6 => with_unfolding_all rfl))))
  k_with "subscriptTail Name Constant ref int" => ((k_here; (with_reducible show wpAny _ _ (subscriptTail _ _ (Value.ref _) (Value.int 1 _)) _ _ _); k_dflt (refine' list_at1 ?k1 ?_ ?qzk6; (case k1 => (refine' isList_in ?qzkN ?qzkM; (case qzkN => k_asm); (case qzkM => k_mem))); (case qzk6 => with_unfolding_all rfl))))
  k_with "mine ne" => (first | assumption | k_all)
  trivial
set_option maxHeartbeats 1000000 in
theorem take_sp (w : World) (src : Addr) (n : Nat) (a' b' top : Int) (t1 t2 tt : Tok) (news : List (Addr × Obj)) (ha : 0 ≤ a') (hb : 0 ≤ b') (hb2 : b' < 2147483647) (ht : 0 < top) (ht2 : top ≤ 100000) (hne : ∀ p ∈ news, p.1 ≠ src) :
   Spec 3 w 387 [.ref src, .int top tt] ((src, W.listOf #[.int a' t1, .int b' t2] n) :: news) (fun v nx => ∃ d t a2 b2 u1 u2 n2, v = .int d t ∧ nx = (src, W.listOf #[.int a2 u1, .int b2 u2] n2) :: news ∧ 0 ≤ d ∧ d < top ∧ 0 ≤ a2 ∧ 0 ≤ b2 ∧ b2 < 2147483647) := by
  unfold Spec
  k_fill
  intro p loose mean mg mb dp un gd cn cs a ccd cl outer A₀ base h₀ L m s Q E B F X N T hck hdp hun hret
  walk_at "mine enter"
  k_steps
  all_goals (rename News h₀ L _ _ => kNN)
  · exact hret _ _ _ _ (by k_asm) kNN ⟨_, _, _, _, _, _, _, rfl, rfl, fmod_lo _ ht, fmod_hi _ ht, Int.fdiv_nonneg ha (Int.le_of_lt ht), hb, hb2⟩
  · exact hret _ _ _ _ (by k_asm) kNN ⟨_, _, _, _, _, _, _, rfl, rfl, fmod_lo _ ht, fmod_hi _ ht, ha, fmod_lo _ (by decide), fmod_hi _ (by decide)⟩
theorem top_off_W2 : True := by
  w_top off
  trivial
theorem kw_22 : True := by
  k_with "call ref" => ((k_here; (with_reducible show wpAny _ _ (call (Value.ref 387) [Value.ref _, Value.int _ _]) _ _ _); k_dflt (first | (refine' take_sp _ _ _ _ _ _ _ _ _ _ ?qzh0 ?qzh1 ?qzh2 ?qzh3 ?qzh4 ?qzh5 _ _ _ _ _ _ _ _ _ _ _ _ _ _ _ _ _ _ _ _ _ _ ?k1 ?k2 ?k3 ?k4 ?k5 ?kK ?kd ?ku ?_; walk_at "mine side"; (case qzh0 => walk_at "mine omega"; skip); (case qzh1 => walk_at "mine omega"; skip); (case qzh2 => walk_at "mine omega"; skip); (case qzh3 => walk_at "mine omega"; skip); (case qzh4 => walk_at "mine omega"; skip); (case qzh5 => walk_at "mine ne"); refine o_6 ?_; intro dr9 t9 aa9 bb9 u9 v9 m9 h9 tk9 F9 N9 lo9 hi9 aa0 bb0 bb1; (try dsimp only); (try k_fold)))))
  trivial
section
local macro_rules | `(tactic| k_mem) => `(tactic| walk_at "mine kmem")
theorem kw_23 : True := by
  k_with "call builtin:len" => ((k_here; (with_reducible show wpAny _ _ (call (Value.builtin "len") [Value.ref _]) _ _ _); k_dflt (refine' call_len_list ?k1 ?k2 ?_; (case k1 => (refine' isList_in ?qzkN ?qzkM; (case qzkN => k_asm); (case qzkM => k_mem))); (case k2 => omega))))
  k_with "subscriptTail" => ((k_here; (with_reducible show wpAny _ _ (subscriptTail _ _ (Value.ref _) (Value.int _ _)) _ _ _); k_dflt (refine' list_some ?k1 ?k2 ?k3 ?k4 ?_ ?qzk6; (case k1 => (refine' isList_in ?qzkN ?qzkM; (case qzkN => k_asm); (case qzkM => k_mem))); (case k2 => omega); (case k3 => omega); (case k4 => omega); (case qzk6 => with_unfolding_all rfl); intro v9 i9)))
  k_with "mine kmem" => (first | assumption | exact List.mem_cons_of_mem _ (by assumption) | exact List.mem_cons_of_mem _ (List.mem_cons_of_mem _ (by assumption)) | exact List.mem_cons_of_mem _ (List.mem_cons_of_mem _ (List.mem_cons_of_mem _ (by assumption))) | exact List.mem_cons_of_mem _ (List.mem_cons_of_mem _ (List.mem_cons_of_mem _ (List.mem_cons_of_mem _ (by assumption)))) | exact List.mem_cons_of_mem _ (List.mem_cons_of_mem _ (List.mem_cons_of_mem _ (List.mem_cons_of_mem _ (List.mem_cons_of_mem _ (by assumption))))) | exact List.mem_cons_of_mem _ (List.mem_cons_of_mem _ (List.mem_cons_of_mem _ (List.mem_cons_of_mem _ (List.mem_cons_of_mem _ (List.mem_cons_of_mem _ (by assumption)))))) | exact List.mem_cons_of_mem _ (List.mem_cons_of_mem _ (List.mem_cons_of_mem _ (List.mem_cons_of_mem _ (List.mem_cons_of_mem _ (List.mem_cons_of_mem _ (List.mem_cons_of_mem _ (by assumption))))))) | exact List.mem_cons_of_mem _ (List.mem_cons_of_mem _ (List.mem_cons_of_mem _ (List.mem_cons_of_mem _ (List.mem_cons_of_mem _ (List.mem_cons_of_mem _ (List.mem_cons_of_mem _ (List.mem_cons_of_mem _ (by assumption)))))))))
  trivial
set_option maxHeartbeats 1000000 in
theorem one_sp (w : World) (src ll : Addr) (n k : Nat) (a' b' : Int) (items : Array Value) (t1 t2 : Tok) (news : List (Addr × Obj)) (ha : 0 ≤ a') (hb : 0 ≤ b') (hb2 : b' < 2147483647) (hs : 0 < items.size) (hs2 : items.size ≤ 1000) (hne : ∀ p ∈ news, p.1 ≠ src) (hm : (ll, W.listOf items k) ∈ news) :
   Spec 6 w 394 [.ref src, .ref ll] ((src, W.listOf #[.int a' t1, .int b' t2] n) :: news) (fun v nx => ∃ (i : Nat) (a2 b2 : Int) (u1 u2 : Tok) (n2 : Nat), items[i]? = some v ∧ nx = (src, W.listOf #[.int a2 u1, .int b2 u2] n2) :: news ∧ 0 ≤ a2 ∧ 0 ≤ b2 ∧ b2 < 2147483647) := by
  unfold Spec
  k_fill
  intro p loose mean mg mb dp un gd cn cs a ccd cl outer A₀ base h₀ L m s Q E B F X N T hck hdp hun hret
  walk_at "mine enter"
  k_steps
  all_goals (rename News h₀ L _ _ => kNN)
  all_goals exact hret _ _ _ _ (by k_asm) kNN ⟨_, _, _, _, _, _, by assumption, rfl, by assumption, by assumption, by assumption⟩
end
end
theorem kw_24 : True := by
  k_with_none
  k_with "mine kenter" => (k_dflt (first
  | (refine' code_def ?k1 ?k2 ?k3 ?k4 ?k5 ?qzkA ?qzkF ?kK ?qzk6 ?qzk7 ?qzk8 ?qzk9 ?qzkB ?_ ?qzc2 ?qzc3 ?qzc4 ?qzc5; (case qzkA => exact rfl); (case qzkF => exact rfl); (case kK => assumption); (case k1 => k_asm); (case k2 => k_asm); (case k3 => k_asm); (case k4 => k_asm); (case k5 => k_asm); (case qzk6 => k_is); (case qzk7 => k_is); (case qzk8 => ktr_room); (case qzk9 => first | exact BindsTo.of_eq rfl | exact binds_K (by k_in) rfl (by k_is) rfl rfl rfl); (case qzc5 => decide); (case qzkB => exact locs rfl); (case qzc2 => exact rfl); (case qzc3 => exact rfl); (case qzc4 => exact rfl); k_whole; intro g' L' h' FG' F' N' B' X' T'; (try dsimp only); (try k_lift B'); (try k_fold))
  | (refine' code_defC ?k1 ?k2 ?k3 ?k4 ?k5 ?qzkA ?qzkF ?kK ?qzk6 ?qzk7 ?qzk8 ?qzk9 ?qzkB ?qzkD ?_ ?qzc2 ?qzc3 ?qzc4; (case qzkA => exact rfl); (case qzkF => exact rfl); (case kK => assumption); (case k1 => k_asm); (case k2 => k_asm); (case k3 => k_asm); (case k4 => k_asm); (case k5 => k_asm); (case qzk6 => k_is); (case qzk7 => k_is); (case qzk8 => ktr_room); (case qzk9 => first | exact BindsTo.of_eq rfl | exact binds_K (by k_in) rfl (by k_is) rfl rfl rfl); (case qzkB => exact rfl); (case qzkD => decide +kernel); (case qzc2 => exact rfl); (case qzc3 => exact rfl); (case qzc4 => exact rfl); k_whole; intro g' L' h' tk' cells' FG' F' N' Y' B' X' T' l1; (try k_lt l1); k_cells Y'; (try simp only [List.cons_append, List.nil_append] at N'); (try dsimp only); (try k_lift B'); (try k_fold))))
  k_with "mine enter" => ((refine wpAny_call ?_; k_dflt (first
  | (refine' code_def ?k1 ?k2 ?k3 ?k4 ?k5 ?qzkA ?qzkF ?kK ?qzk6 ?qzk7 ?qzk8 ?qzk9 ?qzkB ?_ ?qzc2 ?qzc3 ?qzc4 ?qzc5; (case qzkA => exact rfl); (case qzkF => exact rfl); (case kK => assumption); (case k1 => k_asm); (case k2 => k_asm); (case k3 => k_asm); (case k4 => k_asm); (case k5 => k_asm); (case qzk6 => k_is); (case qzk7 => k_is); (case qzk8 => ktr_room); (case qzk9 => first | exact BindsTo.of_eq rfl | exact binds_K (by k_in) rfl (by k_is) rfl rfl rfl); (case qzc5 => decide); (case qzkB => exact locs rfl); (case qzc2 => exact rfl); (case qzc3 => exact rfl); (case qzc4 => exact rfl); k_whole; intro g' L' h' FG' F' N' B' X' T'; (try dsimp only); (try k_lift B'); (try k_fold))
  | (refine' code_defC ?k1 ?k2 ?k3 ?k4 ?k5 ?qzkA ?qzkF ?kK ?qzk6 ?qzk7 ?qzk8 ?qzk9 ?qzkB ?qzkD ?_ ?qzc2 ?qzc3 ?qzc4; (case qzkA => exact rfl); (case qzkF => exact rfl); (case kK => assumption); (case k1 => k_asm); (case k2 => k_asm); (case k3 => k_asm); (case k4 => k_asm); (case k5 => k_asm); (case qzk6 => k_is); (case qzk7 => k_is); (case qzk8 => ktr_room); (case qzk9 => first | exact BindsTo.of_eq rfl | exact binds_K (by k_in) rfl (by k_is) rfl rfl rfl); (case qzkB => exact rfl); (case qzkD => decide +kernel); (case qzc2 => exact rfl); (case qzc3 => exact rfl); (case qzc4 => exact rfl); k_whole; intro g' L' h' tk' cells' FG' F' N' Y' B' X' T' l1; (try k_lt l1); k_cells Y'; (try simp only [List.cons_append, List.nil_append] at N'); (try dsimp only); (try k_lift B'); (try k_fold)))))
  k_with "mine side" => (((case k1 => k_asm); (case k2 => k_asm); (case k3 => k_asm); (case k4 => k_asm); (case k5 => k_asm); (case kK => first | exact rfl | assumption); (case kd => ktr_room); (case ku => ktr_units)))
  k_with "mine kbabound" => (((try dsimp only); first | exact and255_lo _ | exact and255_hi _))
  k_with "mine news" => (first | k_asm | (refine cb_drop (by assumption) ?_; intro p9 hp9; (repeat (first | exact hp9 | refine List.mem_cons_of_mem _ ?_))))
  k_with "mine room" => (((with_reducible rename @LT.lt Nat _ (_ + _) recursionLimit => hq9); k_dflt (first | exact room_1 hq9 (by exact rfl) | exact room_j hq9 (by exact rfl) | exact room_0 hq9)))
  k_with "mine units" => (((with_reducible rename @LT.lt Nat _ (_ + _) cLine => hq9); k_dflt (first | exact units_1 hq9 (by exact rfl) | exact units_j hq9 (by exact rfl))))
  k_with "mine me" => (first | with_reducible exact me0 | with_reducible exact me1 | with_reducible exact me2 | with_reducible exact me3 | with_reducible exact me4 | with_reducible exact me5 | with_reducible exact me6 | with_reducible exact me7 | with_reducible exact me8 | with_reducible exact me9 | with_reducible exact me10 | with_reducible exact me11 | with_reducible exact me12 | with_reducible exact me13 | with_reducible exact me14 | with_reducible exact me15 | with_reducible exact me16 | with_reducible exact me17 | with_reducible exact me18 | with_reducible assumption | k_mem)
  k_with "mine ltall" => (((repeat ((with_reducible rename (∀ p ∈ _, Prod.fst p < _) => h7); replace h7 := allLt_of h7; simp only [AllLt, and_true] at h7))))
  k_with "mine kne" => ((refine neN ?_; (try dsimp only); first | with_reducible assumption | decide | exact Nat.ne_of_gt (by with_reducible assumption) | exact Nat.ne_of_lt (by with_reducible assumption) | exact ne_l (by with_reducible assumption) (by walk_at "mine me") | exact ne_r (by with_reducible assumption) (by walk_at "mine me") | exact ne_l2 (by with_reducible assumption) (by with_reducible assumption) (by walk_at "mine me") | exact ne_r2 (by with_reducible assumption) (by with_reducible assumption) (by walk_at "mine me") | exact ne_l1 (by with_reducible assumption) (by walk_at "mine me") | exact ne_r1 (by with_reducible assumption) (by walk_at "mine me") | exact ne_l11 (by with_reducible assumption) (by walk_at "mine me") | exact ne_r11 (by with_reducible assumption) (by walk_at "mine me") | exact ne_s1 | exact ne_s2 | exact ne_b1 (by with_reducible assumption) rfl | exact ne_b2 (by with_reducible assumption) rfl | exact Ne.symm (by with_reducible assumption) | (trace_state; walk_at "mine ltall"; omega)))
  k_with "mine sk" => (first | with_reducible exact sk0 | with_reducible exact sk1 | with_reducible exact sk2 | with_reducible exact sk3 | with_reducible exact sk4 | with_reducible exact sk5 | with_reducible exact sk6 | with_reducible exact sk7 | with_reducible exact sk8 | with_reducible exact sk9 | with_reducible exact sk10 | with_reducible exact sk11 | with_reducible exact sk12 | with_reducible exact sk13 | with_reducible exact sk14 | with_reducible exact sk15 | with_reducible exact sk16 | with_reducible exact sk17 | with_reducible exact sk18)
  k_with "mine kall" => (first | with_reducible assumption | exact all_l (by with_reducible assumption) (by walk_at "mine sk") | exact all_l2 (by with_reducible assumption) (by with_reducible assumption) (by walk_at "mine sk") | exact all_l1 (by with_reducible assumption) (by walk_at "mine sk") | exact all_l11 (by with_reducible assumption) (by walk_at "mine sk") | (with_reducible exact List.forall_mem_nil _) | (refine' List.forall_mem_cons.mpr ⟨?qza, ?qzb⟩; (case qza => k_ne); (case qzb => k_all)) | (trace_state; exact all_ne (by assumption) (by walk_at "mine ltall"; omega)))
  k_with "mine lt" => (first | with_reducible assumption | exact lt_t0 (by with_reducible assumption) (by walk_at "mine me") | exact lt_t1 (by with_reducible assumption) (by with_reducible assumption) (by walk_at "mine me") | exact lt_t2 (by with_reducible assumption) (by with_reducible assumption) (by with_reducible assumption) (by walk_at "mine me") | (trace_state; walk_at "mine ltall"; omega))
  k_with "exec Raise some none" => ((k_here; (with_reducible show wpAny _ _ (exec (Stmt.Raise (some (Expr.Call (Expr.Name ("SizeError" : Str) _) _ [] _)) none _) _) _ _ _); refine' raise56 ?k1 ?k2 ?_; (case k1 => k_asm); (case k2 => k_dflt (exact rfl))))
  k_with "exec Raise some none" => ((k_here; (with_reducible show wpAny _ _ (exec (Stmt.Raise (some (Expr.Call (Expr.Name ("FormError" : Str) _) _ [] _)) none _) _) _ _ _); refine' raise44 ?k1 ?k2 ?_; (case k1 => k_asm); (case k2 => k_dflt (exact rfl))))
  k_with "call ref" => ((k_here; (first | (with_reducible show wpAny _ _ (call (Value.ref 56) [Value.str _ _]) _ _ _) | (with_reducible show wpAny _ _ (call (Value.ref 44) [Value.str _ _]) _ _ _)); k_dflt (refine' exc_call_sp _ _ _ _ _ ?qzhC _ _ _ _ _ _ _ _ _ _ _ _ _ _ _ _ _ _ _ _ _ _ ?k1 ?k2 ?k3 ?k4 ?k5 ?kK ?kd ?ku ?_; (case qzhC => decide); walk_at "mine side"); intro v9 nx9 h9 tk9 F9 N9 r9; obtain ⟨e9, d9, t9, q9, f9, n9⟩ := r9; subst q9; rw [f9] at N9; clear f9; (try dsimp only); (try k_fold)))
  k_with "RaiseEnd" => ((k_here; refine' RaiseEnd.intro ?k1 ?k2 ?k3 ?_; (case k1 => k_asm); (case k2 => k_asm); (case k3 => k_asm); (try dsimp only)))
  k_with "leaving ref" => ((k_here; refine' leave_mine ?k1 ?k2 ?k3 ?k4 ?k5 ?qzk6 ?_; (case k1 => k_asm); (case k2 => k_asm); (case k3 => k_asm); (case k4 => assumption); (case k5 => k_dflt (exact rfl)); (case qzk6 => k_dflt (exact rfl)); intro h' R' U'; (try dsimp only)))
  k_with "call type:bytes" => ((k_here; (with_reducible show wpAny _ _ (call (Value.type "bytes") [Value.bytes _ _]) _ _ _); with_reducible refine call_bytes_bytes ?_))
  k_with "call type:bytes" => ((k_here; (with_reducible show wpAny _ _ (call (Value.type "bytes") [Value.int _ _]) _ _ _); (refine' call_bytes_zeros ?k1 ?k2 ?_; (case k1 => omega); (case k2 => omega); intro c9 zs9 u9 k9 b9 z9 n9; (try dsimp only))))
  k_with "call type:bytes" => ((k_here; (with_reducible show wpAny _ _ (call (Value.type "bytes") [Value.ref _]) _ _ _); k_dflt (refine' KBa.make_K ?qzkbaF ?qzkbaN ?qzkbah ?qzkbal ?qzkbai ?qzkbar ?qzkban ?_; (case qzkbaF => k_asm); (case qzkbaN => k_asm); (case qzkbah => rfl); (case qzkbal => kba_isList); (case qzkbai => kba_listInts); (case qzkbar => walk_at "mine in"); (case qzkban => kba_size)); intro _ _ _ F' N' kbaIn))
  k_with "mine in" => (first | exact in_one (by omega) (by omega) | (refine in_cons (by omega) (by omega) ?_; walk_at "mine in"; done) | exact in_nil | kba_in)
  k_with "mine sub" => ((repeat (first | exact sub_refl | refine sub_keep ?_ | refine sub_skip ?_)))
  k_with "mine raised" => (first | (intro q9 hq9; (repeat (first | exact hq9 | refine List.mem_cons_of_mem _ ?_)); done) | (walk_at "mine sub"; done))
  k_with "mine news" => (first | k_asm | (refine cb_drop (by assumption) ?_; first | (intro p9 hp9; (repeat (first | exact hp9 | refine List.mem_cons_of_mem _ ?_)); done) | (walk_at "mine sub"; done)))
  k_with "mine absurd" => (first | (exfalso; omega) | (exfalso; (rename ((_ && _ : Bool) = _) => hx9); (simp only [Bool.and_eq_true, Bool.and_eq_false_iff, beq_iff_eq, beq_eq_false_iff_ne, ne_eq] at hx9); omega))
  k_with "compareOp In int ref" => ((k_here; (with_reducible show wpAny _ _ (compareOp CmpOp.In (Value.int _ _) (Value.ref 206)) _ _ _); first | (refine' in206_t ?k1 ?k2 ?k3 ?_; (case k1 => k_asm); (case k2 => k_asm); (case k3 => omega)) | (refine' in206_f ?k1 ?k2 ?k3 ?_; (case k1 => k_asm); (case k2 => k_asm); (case k3 => omega))))
  k_with "compareOp NotIn int ref" => ((k_here; (with_reducible show wpAny _ _ (compareOp CmpOp.NotIn (Value.int _ _) (Value.ref 206)) _ _ _); refine' notin206_t ?k1 ?k2 ?k3 ?_; (case k1 => k_asm); (case k2 => k_asm); (case k3 => omega)))
  k_with "mine mem" => (first | assumption | (refine List.forall_mem_cons.mpr ⟨by k_mem, List.forall_mem_cons.mpr ⟨by k_mem, List.forall_mem_nil _⟩⟩))
  k_with "getMethod bytes" => ((k_here; with_reducible refine join_method ?_))
  k_with "call builtin:bytes.join" => ((k_here; (with_reducible show wpAny _ _ (call (Value.builtin "bytes.join") [Value.bytes _ _, Value.ref _]) _ _ _); k_dflt (first | (refine' call_join0 ?k1 ?_; (case k1 => kba_isList); intro u9 k9; (have j9 := ints_nil)) | (refine' call_join1 ?k1 ?_; (case k1 => kba_isList)))))
  k_with "eval ListComp" => ((k_here; (with_reducible show wpAny _ _ (eval (Expr.ListComp _ [⟨Expr.Name _ _, Expr.Attribute _ _ _, [], 0⟩] _ _) _) _ _ _); k_dflt (refine listComp_tup (by k_asm) (by with_unfolding_all rfl) (by decide) (by rfl) (by decide) (by rfl) ?_)))
  k_with "TupSrc" => ((k_here; k_dflt (refine' TupSrc.intro ?k1 ?k2 ?k3 ?k4 ?k5 ?_; (case k1 => rfl); (case k2 => k_asm); (case k3 => k_asm); (case k4 => k_mem); (case k5 => exact Nat.le_of_ble_eq_true rfl); intro g'; first | (refine rest_nil rfl ?_) | (refine rest_one rfl (fun I' oI' C' oC' D' m' h' tk' E' hC' hx' F' N' off' ne' => ?_)))))
  k_with "CompEnd" => ((k_dflt (refine' LCg.CompEnd.intro ?k1 ?k2 _ ?k3 ?k4 ?k5 ?_; (case k1 => k_asm); (case k2 => k_asm); (case k3 => exact sub_refl); (case k4 => assumption); (case k5 => k_mem); (try dsimp only))))
  k_with "mine omega" => (first | omega | (simp only [List.length_append, List.length_cons, List.length_nil] <;> omega))
  k_with "call ref" => ((k_here; (with_reducible show wpAny _ _ (call (Value.ref 160) [Value.bytes _ _]) _ _ _); k_dflt (first | (refine' crc_sp _ _ _ _ (by kba_ints) _ _ _ _ _ _ _ _ _ _ _ _ _ _ _ _ _ _ _ _ _ _ _ ?k1 ?k2 ?k3 ?k4 ?k5 ?kK ?kd ?ku ?_; walk_at "mine side"; refine o_0 ?_; intro t9 h9 tk9 F9 N9; (try dsimp only); (try k_fold)))))
  k_with "call ref" => ((k_here; (with_reducible show wpAny _ _ (call (Value.ref 170) [Value.int _ _, Value.int _ _]) _ _ _); k_dflt (first | (refine' put1_sp _ _ _ _ ?qzh0 ?qzh1 _ _ _ _ _ _ _ _ _ _ _ _ _ _ _ _ _ _ _ _ _ _ _ ?k1 ?k2 ?k3 ?k4 ?k5 ?kK ?kd ?ku ?_; (case qzh0 => walk_at "mine omega"); (case qzh1 => walk_at "mine omega"); walk_at "mine side"; refine o_1 ?_; intro c9 t9 h9 tk9 F9 N9 b9; (try dsimp only); (try k_fold)) | (refine' put1_raise _ _ _ _ ?qzh0 _ _ _ _ _ _ _ _ _ _ _ _ _ _ _ _ _ _ _ _ _ _ _ ?k1 ?k2 ?k3 ?k4 ?k5 ?kK ?kd ?ku ?_; (case qzh0 => walk_at "mine omega"); walk_at "mine side"; intro e9 G9 h9 tk9 F9 R9 U9; (try dsimp only)) | (refine' put2_sp _ _ _ _ ?qzh0 ?qzh1 _ _ _ _ _ _ _ _ _ _ _ _ _ _ _ _ _ _ _ _ _ _ _ ?k1 ?k2 ?k3 ?k4 ?k5 ?kK ?kd ?ku ?_; (case qzh0 => walk_at "mine omega"); (case qzh1 => walk_at "mine omega"); walk_at "mine side"; refine o_1 ?_; intro c9 t9 h9 tk9 F9 N9 b9; (try dsimp only); (try k_fold)) | (refine' put2_raise _ _ _ _ ?qzh0 _ _ _ _ _ _ _ _ _ _ _ _ _ _ _ _ _ _ _ _ _ _ _ ?k1 ?k2 ?k3 ?k4 ?k5 ?kK ?kd ?ku ?_; (case qzh0 => walk_at "mine omega"); walk_at "mine side"; intro e9 G9 h9 tk9 F9 R9 U9; (try dsimp only)) | (refine' put6_sp _ _ _ _ ?qzh0 ?qzh1 _ _ _ _ _ _ _ _ _ _ _ _ _ _ _ _ _ _ _ _ _ _ _ ?k1 ?k2 ?k3 ?k4 ?k5 ?kK ?kd ?ku ?_; (case qzh0 => walk_at "mine omega"); (case qzh1 => walk_at "mine omega"); walk_at "mine side"; refine o_1 ?_; intro c9 t9 h9 tk9 F9 N9 b9; (try dsimp only); (try k_fold)))))
  k_with "call ref" => ((k_here; (with_reducible show wpAny _ _ (call (Value.ref 177) [Value.bytes _ _, Value.int _ _, Value.int _ _]) _ _ _); k_dflt (first | (refine' get1v _ _ _ _ (by kba_ints) ?qzh0 _ _ _ ?qzh1 ?qzh2 _ _ _ _ _ _ _ _ _ _ _ _ _ _ _ _ _ _ _ _ _ _ _ ?k1 ?k2 ?k3 ?k4 ?k5 ?kK ?kd ?ku ?_; (case qzh0 => walk_at "mine omega"); (case qzh1 => walk_at "mine omega"); (case qzh2 => walk_at "mine omega"); walk_at "mine side"; refine o_2 ?_; intro t9 h9 tk9 F9 N9 lo9 hi9; (try dsimp only); (try k_fold)) | (refine' get3v _ _ _ _ (by kba_ints) ?qzh0 _ _ _ ?qzh1 ?qzh2 _ _ _ _ _ _ _ _ _ _ _ _ _ _ _ _ _ _ _ _ _ _ _ ?k1 ?k2 ?k3 ?k4 ?k5 ?kK ?kd ?ku ?_; (case qzh0 => walk_at "mine omega"); (case qzh1 => walk_at "mine omega"); (case qzh2 => walk_at "mine omega"); walk_at "mine side"; refine o_2 ?_; intro t9 h9 tk9 F9 N9 lo9 hi9; (try dsimp only); (try k_fold)) | (refine' get_sp _ _ _ _ (by kba_ints) ?qzh0 _ _ _ _ ?qzh1 ?qzh2 ?qzh3 ?qzh4 _ _ _ _ _ _ _ _ _ _ _ _ _ _ _ _ _ _ _ _ _ _ _ ?k1 ?k2 ?k3 ?k4 ?k5 ?kK ?kd ?ku ?_; (case qzh0 => walk_at "mine omega"); (case qzh1 => walk_at "mine omega"); (case qzh2 => walk_at "mine omega"); (case qzh3 => walk_at "mine omega"); (case qzh4 => walk_at "mine omega"); walk_at "mine side"; refine o_0 ?_; intro t9 h9 tk9 F9 N9; (try dsimp only); (try k_fold)) | (refine' get_raise _ _ _ _ (by kba_ints) ?qzh0 _ _ _ _ ?qzh1 ?qzh2 ?qzh3 ?qzh4 ?qzh5 _ _ _ _ _ _ _ _ _ _ _ _ _ _ _ _ _ _ _ _ _ _ _ ?k1 ?k2 ?k3 ?k4 ?k5 ?kK ?kd ?ku ?_; (case qzh0 => walk_at "mine omega"); (case qzh1 => walk_at "mine omega"); (case qzh2 => walk_at "mine omega"); (case qzh3 => walk_at "mine omega"); (case qzh4 => walk_at "mine omega"); (case qzh5 => walk_at "mine omega"); walk_at "mine side"; intro e9 G9 h9 tk9 F9 R9 U9; (try dsimp only)))))
  k_with "call ref" => ((k_here; (with_reducible show wpAny _ _ (call (Value.ref 184) [Value.int _ _]) _ _ _); k_dflt (first | (refine' put16_sp _ _ _ ?qzh0 ?qzh1 _ _ _ _ _ _ _ _ _ _ _ _ _ _ _ _ _ _ _ _ _ _ _ ?k1 ?k2 ?k3 ?k4 ?k5 ?kK ?kd ?ku ?_; (case qzh0 => walk_at "mine omega"); (case qzh1 => walk_at "mine omega"); walk_at "mine side"; refine o_1 ?_; intro c9 t9 h9 tk9 F9 N9 b9; (try dsimp only); (try k_fold)) | (refine' put16_sp _ _ _ ?qzh0 ?qzh1 _ _ _ _ _ _ _ _ _ _ _ _ _ _ _ _ _ _ _ _ _ _ _ ?k1 ?k2 ?k3 ?k4 ?k5 ?kK ?kd ?ku ?_; walk_at "mine side"; (case qzh0 => decide); (case qzh1 => decide); refine o_1 ?_; intro c9 t9 h9 tk9 F9 N9 b9; (try dsimp only); (try k_fold)) | (refine' put16_raise _ _ _ ?qzh0 _ _ _ _ _ _ _ _ _ _ _ _ _ _ _ _ _ _ _ _ _ _ _ ?k1 ?k2 ?k3 ?k4 ?k5 ?kK ?kd ?ku ?_; (case qzh0 => walk_at "mine omega"); walk_at "mine side"; intro e9 G9 h9 tk9 F9 R9 U9; (try dsimp only)))))
  k_with "call ref" => ((k_here; (with_reducible show wpAny _ _ (call (Value.ref 191) [Value.int _ _]) _ _ _); k_dflt (first | (refine' put48_sp _ _ _ ?qzh0 ?qzh1 _ _ _ _ _ _ _ _ _ _ _ _ _ _ _ _ _ _ _ _ _ _ _ ?k1 ?k2 ?k3 ?k4 ?k5 ?kK ?kd ?ku ?_; (case qzh0 => walk_at "mine omega"); (case qzh1 => walk_at "mine omega"); walk_at "mine side"; refine o_1 ?_; intro c9 t9 h9 tk9 F9 N9 b9; (try dsimp only); (try k_fold)))))
  k_with "call ref" => ((k_here; (with_reducible show wpAny _ _ (call (Value.ref 198) [Value.bytes _ _, Value.int _ _]) _ _ _); k_dflt (first | (refine' get16v _ _ _ _ (by kba_ints) ?qzh0 _ _ ?qzh1 ?qzh2 _ _ _ _ _ _ _ _ _ _ _ _ _ _ _ _ _ _ _ _ _ _ _ ?k1 ?k2 ?k3 ?k4 ?k5 ?kK ?kd ?ku ?_; (case qzh0 => walk_at "mine omega"); (case qzh1 => walk_at "mine omega"); (case qzh2 => walk_at "mine omega"); walk_at "mine side"; refine o_3 ?_; intro t9 h9 tk9 F9 N9 lo9 hi9 lo8 hi8; (try dsimp only); (try k_fold)) | (refine' get16_raise _ _ _ _ (by kba_ints) ?qzh0 _ _ ?qzh1 ?qzh2 ?qzh3 _ _ _ _ _ _ _ _ _ _ _ _ _ _ _ _ _ _ _ _ _ _ _ ?k1 ?k2 ?k3 ?k4 ?k5 ?kK ?kd ?ku ?_; (case qzh0 => walk_at "mine omega"); (case qzh1 => walk_at "mine omega"); (case qzh2 => walk_at "mine omega"); (case qzh3 => walk_at "mine omega"); walk_at "mine side"; intro e9 G9 h9 tk9 F9 R9 U9; (try dsimp only)))))
  k_with "call ref" => ((k_here; (with_reducible show wpAny _ _ (call (Value.ref 198) [Value.bytes _ _, Value.int _ _]) _ _ _); k_dflt (first | (refine' get16c _ _ _ _ (by kba_ints) 12 _ ?qzh9 ?qzh0 _ _ ?qzh1 ?qzh2 _ _ _ _ _ _ _ _ _ _ _ _ _ _ _ _ _ _ _ _ _ _ _ ?k1 ?k2 ?k3 ?k4 ?k5 ?kK ?kd ?ku ?_; (case qzh0 => walk_at "mine omega"); (case qzh2 => walk_at "mine omega"); walk_at "mine side"; (case qzh9 => assumption); (case qzh1 => first | exact rfl | decide); refine o_0 ?_; intro t9 h9 tk9 F9 N9; (try dsimp only); (try k_fold)) | (refine' get16c _ _ _ _ (by kba_ints) 14 _ ?qzh9 ?qzh0 _ _ ?qzh1 ?qzh2 _ _ _ _ _ _ _ _ _ _ _ _ _ _ _ _ _ _ _ _ _ _ _ ?k1 ?k2 ?k3 ?k4 ?k5 ?kK ?kd ?ku ?_; (case qzh0 => walk_at "mine omega"); (case qzh2 => walk_at "mine omega"); walk_at "mine side"; (case qzh9 => assumption); (case qzh1 => first | exact rfl | decide); refine o_0 ?_; intro t9 h9 tk9 F9 N9; (try dsimp only); (try k_fold)) | (refine' get16c _ _ _ _ (by kba_ints) 16 _ ?qzh9 ?qzh0 _ _ ?qzh1 ?qzh2 _ _ _ _ _ _ _ _ _ _ _ _ _ _ _ _ _ _ _ _ _ _ _ ?k1 ?k2 ?k3 ?k4 ?k5 ?kK ?kd ?ku ?_; (case qzh0 => walk_at "mine omega"); (case qzh2 => walk_at "mine omega"); walk_at "mine side"; (case qzh9 => assumption); (case qzh1 => first | exact rfl | decide); refine o_0 ?_; intro t9 h9 tk9 F9 N9; (try dsimp only); (try k_fold)) | (refine' get16v _ _ _ _ (by kba_ints) ?qzh0 _ _ ?qzh1 ?qzh2 _ _ _ _ _ _ _ _ _ _ _ _ _ _ _ _ _ _ _ _ _ _ _ ?k1 ?k2 ?k3 ?k4 ?k5 ?kK ?kd ?ku ?_; (case qzh0 => walk_at "mine omega"); (case qzh1 => walk_at "mine omega"); (case qzh2 => walk_at "mine omega"); walk_at "mine side"; refine o_3 ?_; intro t9 h9 tk9 F9 N9 lo9 hi9 lo8 hi8; (try dsimp only); (try k_fold)) | (refine' get16_raise _ _ _ _ (by kba_ints) ?qzh0 _ _ ?qzh1 ?qzh2 ?qzh3 _ _ _ _ _ _ _ _ _ _ _ _ _ _ _ _ _ _ _ _ _ _ _ ?k1 ?k2 ?k3 ?k4 ?k5 ?kK ?kd ?ku ?_; (case qzh0 => walk_at "mine omega"); (case qzh1 => walk_at "mine omega"); (case qzh2 => walk_at "mine omega"); (case qzh3 => walk_at "mine omega"); walk_at "mine side"; intro e9 G9 h9 tk9 F9 R9 U9; (try dsimp only)))))
  k_with "call ref" => ((k_here; (with_reducible show wpAny _ _ (call (Value.ref 205) [Value.bytes _ _, Value.int _ _]) _ _ _); k_dflt (first | (refine' get48_sp _ _ _ _ (by kba_ints) ?qzh0 _ _ ?qzh1 ?qzh2 _ _ _ _ _ _ _ _ _ _ _ _ _ _ _ _ _ _ _ _ _ _ _ ?k1 ?k2 ?k3 ?k4 ?k5 ?kK ?kd ?ku ?_; (case qzh0 => walk_at "mine omega"); (case qzh1 => walk_at "mine omega"); (case qzh2 => walk_at "mine omega"); walk_at "mine side"; refine o_0 ?_; intro t9 h9 tk9 F9 N9; (try dsimp only); (try k_fold)))))
  k_with "call ref" => ((k_here; (with_reducible show wpAny _ _ (call (Value.ref 334) [Value.int _ _, Value.int _ _, Value.int _ _, Value.bytes _ _]) _ _ _); k_dflt (first | (refine' llc_sp _ _ _ _ _ _ _ _ _ _ _ _ _ _ _ _ _ _ _ _ _ _ _ _ _ _ _ _ _ _ _ _ ?k1 ?k2 ?k3 ?k4 ?k5 ?kK ?kd ?ku ?_; walk_at "mine side"; refine o_4 ?_; intro x9 d9 ka9 kb9 kc9 kd9 h9 tk9 F9 N9 l9 l8; (try unfold llcD at N9); (try k_lt l9); (try k_lt2 l8); (try dsimp only); (try k_fold)))))
  k_with "call ref" => ((k_here; (with_reducible show wpAny _ _ (call (Value.ref 352) [Value.ref _]) _ _ _); k_dflt (first | (refine' pack_sp _ _ _ _ _ _ _ _ _ _ _ _ _ _ _ _ _ ?qzh9 ?qzh0 _ ?qzh1 ?qzh2 ?qzh3 ?qzh8 ?qzh4 _ _ _ _ _ _ _ _ _ _ _ _ _ _ _ _ _ _ _ _ _ _ ?k1 ?k2 ?k3 ?k4 ?k5 ?kK ?kd ?ku ?_; walk_at "mine side"; (case qzh4 => walk_at "mine mem"); (case qzh9 => kba_ints); (case qzh8 => assumption); (case qzh0 => walk_at "mine omega"); (case qzh1 => walk_at "mine omega"); (case qzh2 => walk_at "mine omega"); (case qzh3 => walk_at "mine omega"); refine o_5 ?_; intro c9 t9 h9 tk9 F9 N9 b9; (try dsimp only); (try k_fold)) | (refine' pack_no _ _ _ _ _ _ _ _ _ _ _ _ _ _ _ _ ?qzh9 ?qzh0 _ ?qzh1 ?qzh2 ?qzh3 ?qzh5 ?qzh8 ?qzh4 _ _ _ _ _ _ _ _ _ _ _ _ _ _ _ _ _ _ _ _ _ _ ?k1 ?k2 ?k3 ?k4 ?k5 ?kK ?kd ?ku ?_; walk_at "mine side"; (case qzh4 => walk_at "mine mem"); (case qzh9 => kba_ints); (case qzh8 => assumption); (case qzh0 => walk_at "mine omega"); (case qzh1 => walk_at "mine omega"); (case qzh2 => walk_at "mine omega"); (case qzh3 => walk_at "mine omega"); (case qzh5 => walk_at "mine omega"); intro e9 G9 h9 tk9 F9 R9 U9; (try dsimp only)))))
  k_with "call ref" => ((k_here; (with_reducible show wpAny _ _ (call (Value.ref 394) [Value.ref _, Value.ref _]) _ _ _); k_dflt (first | (refine' one_int _ _ _ _ _ _ _ 60 _ _ _ _ _ ?qzU ?qzh0 ?qzh1 ?qzh2 ?qzh3 ?qzh4 ?qzh6 ?qzh5 ?qzh7 _ _ _ _ _ _ _ _ _ _ _ _ _ _ _ _ _ _ _ _ _ _ ?k1 ?k2 ?k3 ?k4 ?k5 ?kK ?kd ?ku ?_; walk_at "mine side"; (case qzU => walk_at "mine upd"); (case qzh6 => k_mem); (case qzh7 => walk_at "mine ints"); (case qzh0 => walk_at "mine omega"; skip); (case qzh1 => walk_at "mine omega"; skip); (case qzh2 => walk_at "mine omega"; skip); (case qzh3 => exact Nat.le_of_ble_eq_true rfl); (case qzh4 => exact Nat.le_of_ble_eq_true rfl); (case qzh5 => walk_at "mine ane"); refine o_7 ?_; intro dr9 t9 aa9 bb9 u9 v9 m9 h9 tk9 F9 N9 lo9 hi9 aa0 bb0 bb1; (try dsimp only at N9); (try dsimp only); (try k_fold)) | (refine' one_int _ _ _ _ _ _ _ 255 _ _ _ _ _ ?qzU ?qzh0 ?qzh1 ?qzh2 ?qzh3 ?qzh4 ?qzh6 ?qzh5 ?qzh7 _ _ _ _ _ _ _ _ _ _ _ _ _ _ _ _ _ _ _ _ _ _ ?k1 ?k2 ?k3 ?k4 ?k5 ?kK ?kd ?ku ?_; walk_at "mine side"; (case qzU => walk_at "mine upd"); (case qzh6 => k_mem); (case qzh7 => walk_at "mine ints"); (case qzh0 => walk_at "mine omega"; skip); (case qzh1 => walk_at "mine omega"; skip); (case qzh2 => walk_at "mine omega"; skip); (case qzh3 => exact Nat.le_of_ble_eq_true rfl); (case qzh4 => exact Nat.le_of_ble_eq_true rfl); (case qzh5 => walk_at "mine ane"); refine o_7 ?_; intro dr9 t9 aa9 bb9 u9 v9 m9 h9 tk9 F9 N9 lo9 hi9 aa0 bb0 bb1; (try dsimp only at N9); (try dsimp only); (try k_fold)) | (refine' one_int _ _ _ _ _ _ _ 1000 _ _ _ _ _ ?qzU ?qzh0 ?qzh1 ?qzh2 ?qzh3 ?qzh4 ?qzh6 ?qzh5 ?qzh7 _ _ _ _ _ _ _ _ _ _ _ _ _ _ _ _ _ _ _ _ _ _ ?k1 ?k2 ?k3 ?k4 ?k5 ?kK ?kd ?ku ?_; walk_at "mine side"; (case qzU => walk_at "mine upd"); (case qzh6 => k_mem); (case qzh7 => walk_at "mine ints"); (case qzh0 => walk_at "mine omega"; skip); (case qzh1 => walk_at "mine omega"; skip); (case qzh2 => walk_at "mine omega"; skip); (case qzh3 => exact Nat.le_of_ble_eq_true rfl); (case qzh4 => exact Nat.le_of_ble_eq_true rfl); (case qzh5 => walk_at "mine ane"); refine o_7 ?_; intro dr9 t9 aa9 bb9 u9 v9 m9 h9 tk9 F9 N9 lo9 hi9 aa0 bb0 bb1; (try dsimp only at N9); (try dsimp only); (try k_fold)) | (refine' one_int _ _ _ _ _ _ _ 65536 _ _ _ _ _ ?qzU ?qzh0 ?qzh1 ?qzh2 ?qzh3 ?qzh4 ?qzh6 ?qzh5 ?qzh7 _ _ _ _ _ _ _ _ _ _ _ _ _ _ _ _ _ _ _ _ _ _ ?k1 ?k2 ?k3 ?k4 ?k5 ?kK ?kd ?ku ?_; walk_at "mine side"; (case qzU => walk_at "mine upd"); (case qzh6 => k_mem); (case qzh7 => walk_at "mine ints"); (case qzh0 => walk_at "mine omega"; skip); (case qzh1 => walk_at "mine omega"; skip); (case qzh2 => walk_at "mine omega"; skip); (case qzh3 => exact Nat.le_of_ble_eq_true rfl); (case qzh4 => exact Nat.le_of_ble_eq_true rfl); (case qzh5 => walk_at "mine ane"); refine o_7 ?_; intro dr9 t9 aa9 bb9 u9 v9 m9 h9 tk9 F9 N9 lo9 hi9 aa0 bb0 bb1; (try dsimp only at N9); (try dsimp only); (try k_fold)) | (refine' one_int _ _ _ _ _ _ _ 16777219 _ _ _ _ _ ?qzU ?qzh0 ?qzh1 ?qzh2 ?qzh3 ?qzh4 ?qzh6 ?qzh5 ?qzh7 _ _ _ _ _ _ _ _ _ _ _ _ _ _ _ _ _ _ _ _ _ _ ?k1 ?k2 ?k3 ?k4 ?k5 ?kK ?kd ?ku ?_; walk_at "mine side"; (case qzU => walk_at "mine upd"); (case qzh6 => k_mem); (case qzh7 => walk_at "mine ints"); (case qzh0 => walk_at "mine omega"; skip); (case qzh1 => walk_at "mine omega"; skip); (case qzh2 => walk_at "mine omega"; skip); (case qzh3 => exact Nat.le_of_ble_eq_true rfl); (case qzh4 => exact Nat.le_of_ble_eq_true rfl); (case qzh5 => walk_at "mine ane"); refine o_7 ?_; intro dr9 t9 aa9 bb9 u9 v9 m9 h9 tk9 F9 N9 lo9 hi9 aa0 bb0 bb1; (try dsimp only at N9); (try dsimp only); (try k_fold)))))
  k_with "call ref" => ((k_here; (with_reducible show wpAny _ _ (call (Value.ref 366) [Value.ref _]) _ _ _); k_dflt (first | (refine' snap_none_m _ _ _ _ _ _ _ _ _ _ _ _ _ _ _ _ ?qzh0 ?qzh4 _ _ _ _ _ _ _ _ _ _ _ _ _ _ _ _ _ _ _ _ _ _ ?k1 ?k2 ?k3 ?k4 ?k5 ?kK ?kd ?ku ?_; walk_at "mine side"; (case qzh4 => walk_at "mine mem"); (case qzh0 => walk_at "mine omega"; skip); refine o_8 ?_; intro h9 tk9 F9 N9; (try dsimp only); (try k_fold)) | (refine' snap_raise_m _ _ _ _ _ _ _ _ _ _ _ _ _ _ _ _ ?qzh9 ?qzh0 _ ?qzh1 ?qzh2 ?qzh3 ?qzh4 _ _ _ _ _ _ _ _ _ _ _ _ _ _ _ _ _ _ _ _ _ _ ?k1 ?k2 ?k3 ?k4 ?k5 ?kK ?kd ?ku ?_; walk_at "mine side"; (case qzh4 => walk_at "mine mem"); (case qzh9 => kba_ints); (case qzh1 => walk_at "mine omega"; skip); (case qzh2 => walk_at "mine omega"; skip); (case qzh3 => walk_at "mine omega"; skip); (case qzh0 => walk_at "mine omega"; skip); intro e9 G9 h9 tk9 F9 R9 U9; (try dsimp only)) | (refine' snap_ok_m _ _ _ _ _ _ _ _ _ _ _ _ _ _ _ _ ?qzh9 ?qzh0 ?qzh5 _ ?qzh1 ?qzh2 ?qzh3 ?qzh4 _ _ _ _ _ _ _ _ _ _ _ _ _ _ _ _ _ _ _ _ _ _ ?k1 ?k2 ?k3 ?k4 ?k5 ?kK ?kd ?ku ?_; walk_at "mine side"; (case qzh4 => walk_at "mine mem"); (case qzh9 => kba_ints); (case qzh1 => walk_at "mine omega"; skip); (case qzh2 => walk_at "mine omega"; skip); (case qzh3 => walk_at "mine omega"; skip); (case qzh0 => walk_at "mine omega"; skip); (case qzh5 => walk_at "mine omega"; skip); refine o_9 ?_; intro dd9 ka9 t9 u9 v9 c9 h9 tk9 F9 N9 b9; (try dsimp only); (try k_fold)))))
  k_with "call ref" => ((k_here; (with_reducible show wpAny _ _ (call (Value.ref 302) [Value.bytes _ _, Value.int 12 _]) _ _ _); k_dflt (first | (refine' utags1 _ _ _ _ _ _ (by kba_ints) ?qzh0 ?qzh1 ?qzh2 ?qzh3 ?qzh4 ?qzh5 ?qzh6 _ _ _ _ _ _ _ _ _ _ _ _ _ _ _ _ _ _ _ _ _ _ _ ?k1 ?k2 ?k3 ?k4 ?k5 ?kK ?kd ?ku ?_; (case qzh0 => walk_at "mine omega"); (case qzh1 => walk_at "mine omega"); walk_at "mine side"; (case qzh2 => assumption); (case qzh3 => assumption); (case qzh4 => assumption); (case qzh5 => walk_at "mine omega"; skip); (case qzh6 => walk_at "mine omega"; skip); refine o_11 ?_; intro dd9 ff9 t9 ka9 kb9 x9 h9 tk9 F9 N9; (try dsimp only); (try k_fold)) | (refine' utags0 _ _ _ _ _ _ (by kba_ints) ?qzh0 ?qzh1 ?qzh2 ?qzh5 ?qzh6 _ _ _ _ _ _ _ _ _ _ _ _ _ _ _ _ _ _ _ _ _ _ _ ?k1 ?k2 ?k3 ?k4 ?k5 ?kK ?kd ?ku ?_; (case qzh0 => walk_at "mine omega"); (case qzh1 => walk_at "mine omega"); walk_at "mine side"; (case qzh2 => assumption); (case qzh5 => walk_at "mine omega"; skip); (case qzh6 => walk_at "mine omega"; skip); refine o_12 ?_; intro dd9 ff9 t9 ka9 kb9 h9 tk9 F9 N9; (try dsimp only); (try k_fold)))))
  k_with "call ref" => ((k_here; (with_reducible show wpAny _ _ (call (Value.ref 345) [Value.int _ _]) _ _ _); k_dflt (first | (refine' short_t _ _ _ ?qzh0 _ _ _ _ _ _ _ _ _ _ _ _ _ _ _ _ _ _ _ _ _ _ _ ?k1 ?k2 ?k3 ?k4 ?k5 ?kK ?kd ?ku ?_; walk_at "mine side"; (case qzh0 => walk_at "mine mod"); refine o_8 ?_; intro h9 tk9 F9 N9; (try dsimp only); (try k_fold)) | (refine' short_f _ _ _ ?qzh0 _ _ _ _ _ _ _ _ _ _ _ _ _ _ _ _ _ _ _ _ _ _ _ ?k1 ?k2 ?k3 ?k4 ?k5 ?kK ?kd ?ku ?_; walk_at "mine side"; (case qzh0 => walk_at "mine mod"); refine o_8 ?_; intro h9 tk9 F9 N9; (try dsimp only); (try k_fold)))))
  k_with "mine mod" => (((try rw [fd8]); omega))
  k_with "leaving ref" => ((k_here; refine' leave_mineOn ?k1 ?k2 ?k3 ?k4 ?k5 ?_; (case k3 => assumption); (case k2 => assumption); (case k1 => k_asm); (case k4 => assumption); (case k5 => k_dflt (exact rfl)); intro h' R' U'; (try dsimp only)))
  k_with "call ref" => ((k_here; (with_reducible show wpAny _ _ (call (Value.ref 177) [Value.bytes _ _, Value.int 2 _, Value.int 1 _]) _ _ _); k_dflt (first | (refine' get1at2 _ _ _ _ (by kba_ints) ?qzh0 _ _ ?qzh1 _ _ _ _ _ _ _ _ _ _ _ _ _ _ _ _ _ _ _ _ _ _ _ ?k1 ?k2 ?k3 ?k4 ?k5 ?kK ?kd ?ku ?_; (case qzh0 => walk_at "mine omega"); (case qzh1 => walk_at "mine omega"); walk_at "mine side"; refine o_2 ?_; intro t9 h9 tk9 F9 N9 lo9 hi9; (try dsimp only); (try k_fold)))))
  k_with "call ref" => ((k_here; (with_reducible show wpAny _ _ (call (Value.ref 177) [Value.bytes _ _, Value.int 0 _, Value.int 3 _]) _ _ _); k_dflt (first | (refine' get3at0 _ _ _ _ (by kba_ints) ?qzh0 _ _ ?qzh1 _ _ _ _ _ _ _ _ _ _ _ _ _ _ _ _ _ _ _ _ _ _ _ ?k1 ?k2 ?k3 ?k4 ?k5 ?kK ?kd ?ku ?_; (case qzh0 => walk_at "mine omega"); (case qzh1 => walk_at "mine omega"); walk_at "mine side"; refine o_2 ?_; intro t9 h9 tk9 F9 N9 lo9 hi9; (try dsimp only); (try k_fold)))))
  k_with "call ref" => ((k_here; (with_reducible show wpAny _ _ (call (Value.ref 198) [Value.bytes _ _, Value.int 2 _]) _ _ _); k_dflt (first | (refine' get16at2 _ _ _ _ (by kba_ints) ?qzh0 _ ?qzh1 _ _ _ _ _ _ _ _ _ _ _ _ _ _ _ _ _ _ _ _ _ _ _ ?k1 ?k2 ?k3 ?k4 ?k5 ?kK ?kd ?ku ?_; (case qzh0 => walk_at "mine omega"); (case qzh1 => walk_at "mine omega"); walk_at "mine side"; refine o_3 ?_; intro t9 h9 tk9 F9 N9 lo9 hi9 lo8 hi8; (try dsimp only); (try k_fold)))))
  k_with "call ref" => ((k_here; (with_reducible show wpAny _ _ (call (Value.ref 198) [Value.bytes _ _, Value.int 3 _]) _ _ _); k_dflt (first | (refine' get16at3 _ _ _ _ (by kba_ints) ?qzh0 _ ?qzh1 _ _ _ _ _ _ _ _ _ _ _ _ _ _ _ _ _ _ _ _ _ _ _ ?k1 ?k2 ?k3 ?k4 ?k5 ?kK ?kd ?ku ?_; (case qzh0 => walk_at "mine omega"); (case qzh1 => walk_at "mine omega"); walk_at "mine side"; refine o_3 ?_; intro t9 h9 tk9 F9 N9 lo9 hi9 lo8 hi8; (try dsimp only); (try k_fold)))))
  k_with "call ref" => ((k_here; (with_reducible show wpAny _ _ (call (Value.ref 230) [Value.int _ _, Value.int _ _, Value.bool _, Value.int _ _]) _ _ _); k_dflt (first | (refine' tag_sp _ _ _ _ _ _ _ _ _ _ _ _ _ _ _ _ _ _ _ _ _ _ _ _ _ _ _ _ _ _ _ ?k1 ?k2 ?k3 ?k4 ?k5 ?kK ?kd ?ku ?_; walk_at "mine side"; refine o_4 ?_; intro x9 d9 ka9 kb9 kc9 kd9 h9 tk9 F9 N9 l9 l8; (try unfold tagD at N9); (try k_lt l9); (try k_lt2 l8); (try dsimp only); (try k_fold)))))
  k_with "call ref" => ((k_here; (with_reducible show wpAny _ _ (call (Value.ref 264) [Value.int 5 _, Value.int 6 _, Value.ref _, Value.none, Value.bytes _ _]) _ _ _); k_dflt (first | (refine' frm_sp _ _ _ _ _ _ _ _ _ ?qzh0 _ _ _ _ _ _ _ _ _ _ _ _ _ _ _ _ _ _ _ _ _ _ ?k1 ?k2 ?k3 ?k4 ?k5 ?kK ?kd ?ku ?_; walk_at "mine side"; (case qzh0 => first | assumption | k_mem); refine o_10 ?_; intro x9 d9 ka9 kb9 kc9 kd9 ke9 h9 tk9 F9 N9 l9 l8; (try simp only [FrmAt, List.cons_append, List.nil_append] at N9); (try unfold frmD at N9); (try k_lt l9); (try k_lt2 l8); (try dsimp only); (try k_fold)))))
  k_with "call ref" => ((k_here; (with_reducible show wpAny _ _ (call (Value.ref 165) [Value.bytes _ _]) _ _ _); k_dflt (first | (refine' sum_sp _ _ _ _ (by kba_ints) _ _ _ _ _ _ _ _ _ _ _ _ _ _ _ _ _ _ _ _ _ _ _ ?k1 ?k2 ?k3 ?k4 ?k5 ?kK ?kd ?ku ?_; walk_at "mine side"; refine o_1 ?_; intro c9 t9 h9 tk9 F9 N9 b9; (have sl9 := sumF_at b9); (try dsimp only); (try k_fold)))))
  k_with "call ref" => ((k_here; (with_reducible show wpAny _ _ (call (Value.ref 275) [Value.ref _]) _ _ _); k_dflt (first | (refine' ptag_m _ _ _ _ _ _ _ _ _ _ _ ?qzh4 _ _ _ _ _ _ _ _ _ _ _ _ _ _ _ _ _ _ _ _ _ _ ?k1 ?k2 ?k3 ?k4 ?k5 ?kK ?kd ?ku ?_; walk_at "mine side"; (case qzh4 => walk_at "mine mem"); refine o_5 ?_; intro c9 t9 h9 tk9 F9 N9 b9; (try dsimp only); (try k_fold)))))
  k_with "call ref" => ((k_here; (with_reducible show wpAny _ _ (call (Value.ref 282) [Value.ref _]) _ _ _); k_dflt (first | (refine' pkind_sp _ _ _ _ _ _ _ _ _ _ _ _ _ _ ?qzh9 ?qzh0 _ ?qzh4 _ _ _ _ _ _ _ _ _ _ _ _ _ _ _ _ _ _ _ _ _ _ ?k1 ?k2 ?k3 ?k4 ?k5 ?kK ?kd ?ku ?_; walk_at "mine side"; (case qzh4 => walk_at "mine mem"); (case qzh9 => kba_ints); (case qzh0 => walk_at "mine omega"); refine o_5 ?_; intro c9 t9 h9 tk9 F9 N9 b9; (try dsimp only); (try k_fold)))))
  k_with "call ref" => ((k_here; (with_reducible show wpAny _ _ (call (Value.ref 295) [Value.bytes _ _, Value.int 12 _]) _ _ _); k_dflt (first | (refine' utag _ _ _ _ _ (by kba_ints) ?qzh0 ?qzh1 ?qzh2 ?qzh3 _ _ _ _ _ _ _ _ _ _ _ _ _ _ _ _ _ _ _ _ _ _ _ ?k1 ?k2 ?k3 ?k4 ?k5 ?kK ?kd ?ku ?_; (case qzh0 => walk_at "mine omega"); (case qzh1 => walk_at "mine omega"); walk_at "mine side"; (case qzh2 => assumption); (case qzh3 => assumption); refine o_13 ?_; intro x9 d9 ka9 kb9 kc9 kd9 va9 vb9 vc9 vd9 h9 tk9 F9 N9 l9 l8; (try unfold tagD at N9); (try k_lt l9); (try k_lt2 l8); (try dsimp only); (try k_fold)))))
  k_with "call ref" => ((k_here; (with_reducible show wpAny _ _ (call (Value.ref 264) [Value.int _ _, Value.int _ _, Value.ref _, Value.none, Value.bytes _ _]) _ _ _); k_dflt (first | (refine' frm_g _ _ _ _ _ _ _ _ _ _ _ ?qzh0 _ _ _ _ _ _ _ _ _ _ _ _ _ _ _ _ _ _ _ _ _ _ ?k1 ?k2 ?k3 ?k4 ?k5 ?kK ?kd ?ku ?_; walk_at "mine side"; (case qzh0 => first | assumption | k_mem); refine o_10 ?_; intro x9 d9 ka9 kb9 kc9 kd9 ke9 h9 tk9 F9 N9 l9 l8; (try unfold frmD at N9); (try k_lt l9); (try k_lt2 l8); (try dsimp only); (try k_fold)))))
  k_with "call ref" => ((k_here; (with_reducible show wpAny _ _ (call (Value.ref 387) [Value.ref _, Value.int _ _]) _ _ _); k_dflt (first | (refine' take_sp _ _ _ _ _ _ _ _ _ _ ?qzh0 ?qzh1 ?qzh2 ?qzh3 ?qzh4 ?qzh5 _ _ _ _ _ _ _ _ _ _ _ _ _ _ _ _ _ _ _ _ _ _ ?k1 ?k2 ?k3 ?k4 ?k5 ?kK ?kd ?ku ?_; walk_at "mine side"; (case qzh0 => walk_at "mine omega"; skip); (case qzh1 => walk_at "mine omega"; skip); (case qzh2 => walk_at "mine omega"; skip); (case qzh3 => walk_at "mine omega"; skip); (case qzh4 => walk_at "mine omega"; skip); (case qzh5 => walk_at "mine ne"); refine o_6 ?_; intro dr9 t9 aa9 bb9 u9 v9 m9 h9 tk9 F9 N9 lo9 hi9 aa0 bb0 bb1; (try dsimp only); (try k_fold)))))
  trivial
theorem top_off_W3 : True := by
  w_top off
  trivial
def SpecL (lv : Nat) (w : World) (sc : Addr) (xs : List Value) (f : Addr) (vs : List Value) (news : List (Addr × Obj)) (R : Value → List (Addr × Obj) → Prop) : Prop :=
  ∀ (p : Program) (loose : List Str) (mean : ExcName → Option Value) (mg mb : Str → Option Value) (dp un : Nat) (gd : Option (List Code)) (cn : Str) (cs : Scope) (a : Addr) (ccd : Value) (cl : List (Str × Addr)) (outer : List Env) (A₀ : Around) (base h₀ : Heap) (L : Addr) (m : Str → Option Value) (s : Shared) (Q E : Value → Shared → Prop),
  Below A₀ base outer h₀ → Fr h₀ L s.heap m → (Mine.kept.heap_1 w.params).In h₀ → News h₀ L s.heap news →
  Top p loose mean mg mb h₀ → cs.kind = .function →
  dp + lv < recursionLimit → un + 20 * lv < cLine → base.IsList sc xs.toArray →
  (∀ (v : Value) (nx : List (Addr × Obj)) (h' : Heap) (tk' : Nat), Fr h₀ L h' m → News h₀ L h' nx → R v nx → Q v { s with heap := h', toks := tk' }) →
  wpAny (model PySem.Challenge.rw_pf0387_01.row.prog w) (ktrTop dp un gd cn cs L a ccd cl outer) (call (.ref f) vs) Q E s
set_option maxHeartbeats 1000000 in
theorem pool_sp (w : World) (sc : Addr) (xs : List Value) (ns : List Int) (hi : IntsAre xs ns) (hlen : ns.length ≤ 63) (k : Int) (tk0 : Tok) (hk0 : 0 ≤ k) (hk : k ≤ 2) (news : List (Addr × Obj)) :
   SpecL 6 w sc xs 380 [.ref sc, .int k tk0] news (fun v nx => ∃ src n a2 b2 u1 u2, v = .ref src ∧ nx = (src, W.listOf #[.int a2 u1, .int b2 u2] n) :: news ∧ 0 ≤ a2 ∧ 0 ≤ b2 ∧ b2 < 2147483647 ∧ ∀ p ∈ news, p.1 < src) := by
  unfold SpecL
  k_fill
  intro p loose mean mg mb dp un gd cn cs a ccd cl outer A₀ base h₀ L m s Q E B F X N T hck hdp hun hlst hret
  walk_at "mine enter"
  k_steps
  all_goals (rename News h₀ L _ _ => kNN)
  all_goals exact hret _ _ _ _ (by k_asm) kNN ⟨_, _, _, _, _, _, rfl, rfl, by omega, fmod_lo _ (by decide), fmod_hi _ (by decide), by with_reducible assumption⟩
theorem top_off_W4 : True := by
  w_top off
  trivial
set_option maxHeartbeats 1000000 in
theorem due_some (w : World) (P : Addr) (n : Nat) (p' q' c : Int) (t1 t2 t3 : Tok) (ds : List Int) (hp : 0 ≤ p') (hq : 0 ≤ q') (hc : 0 ≤ c) (hd : dueF p' q' c = some ds) (news : List (Addr × Obj)) :
   Spec 3 w 408 [.ref P, .int c t3] (tupAt P #[.int p' t1, .int q' t2] n :: news) (fun v nx => (∃ (c' : Array UInt8) (t : Tok), v = .bytes c' t ∧ KBw.bInts c' = ds) ∧ nx = tupAt P #[.int p' t1, .int q' t2] n :: news) := by
  have f4 : c.fmod 4 = c % 4 := Int.fmod_eq_emod_of_nonneg _ (by decide)
  have f256 : c.fdiv 256 = c / 256 := Int.fdiv_eq_ediv_of_nonneg _ (by decide)
  have fm256 : c.fmod 256 = c % 256 := Int.fmod_eq_emod_of_nonneg _ (by decide)
  have f44 : (c.fdiv 256).fmod 4 = c / 256 % 4 := by rw [f256, Int.fmod_eq_emod_of_nonneg _ (by decide)]
  have hpq : ¬ 255 < p' ∧ ¬ 255 < q' := by
    unfold dueF at hd
    split at hd
    · cases hd
    · omega
  have key := due_len hd
  have hcase : (c < 256 ∧ c % 4 = 3 ∧ ds = [p', q', c]) ∨ (¬ (c < 256 ∧ c % 4 = 3) ∧ c ≤ 65535 ∧ ¬ c / 256 % 4 = 3 ∧ ds = [p', q', c.fdiv 256, c.fmod 256]) := by
    rcases key with ⟨_, h2, h3⟩ | ⟨_, h2, h3, h4, h5⟩
    · refine .inl ⟨?_, h2, h3⟩
      unfold dueF at hd
      rw [if_neg (by omega)] at hd
      split at hd
      · rename_i h; exact h.1
      · split at hd
        · cases hd
        · rw [h3] at hd; simp at hd
    · exact .inr ⟨h4, h3, h2, by rw [f256, fm256]; exact h5⟩
  clear key hd
  unfold Spec
  rcases hcase with ⟨g1, g2, rfl⟩ | ⟨g1, g2, g3, rfl⟩
  all_goals k_fill
  all_goals intro p loose mean mg mb dp un gd cn cs a ccd cl outer A₀ base h₀ L m s Q E B F X N T hck hdp hun hret
  all_goals walk_at "mine enter"
  all_goals k_steps
  all_goals first | (exfalso; omega) | exact hret _ _ _ _ (by k_asm) (by walk_at "mine news") ⟨⟨_, _, rfl, by kba_ints⟩, rfl⟩
set_option maxHeartbeats 1000000 in
theorem due_none (w : World) (P : Addr) (n : Nat) (p' q' c : Int) (t1 t2 t3 : Tok) (hp : 0 ≤ p') (hq : 0 ≤ q') (hc : 0 ≤ c) (hd : dueF p' q' c = none) (news : List (Addr × Obj)) :
   Spec 3 w 408 [.ref P, .int c t3] (tupAt P #[.int p' t1, .int q' t2] n :: news) (fun v nx => (∃ (t : Tok), v = .str (Str.ofString "size") t) ∧ nx = tupAt P #[.int p' t1, .int q' t2] n :: news) := by
  have f4 : c.fmod 4 = c % 4 := Int.fmod_eq_emod_of_nonneg _ (by decide)
  have f256 : c.fdiv 256 = c / 256 := Int.fdiv_eq_ediv_of_nonneg _ (by decide)
  have fm256 : c.fmod 256 = c % 256 := Int.fmod_eq_emod_of_nonneg _ (by decide)
  have f44 : (c.fdiv 256).fmod 4 = c / 256 % 4 := by rw [f256, Int.fmod_eq_emod_of_nonneg _ (by decide)]
  have hcase : 255 < p' ∨ 255 < q' ∨ (¬ (c < 256 ∧ c % 4 = 3) ∧ (65535 < c ∨ c / 256 % 4 = 3)) := by
    unfold dueF at hd
    split at hd
    · omega
    · split at hd
      · cases hd
      · split at hd
        · omega
        · cases hd
  clear hd
  unfold Spec
  k_fill
  intro p loose mean mg mb dp un gd cn cs a ccd cl outer A₀ base h₀ L m s Q E B F X N T hck hdp hun hret
  walk_at "mine enter"
  k_steps
  all_goals first | (exfalso; omega) | exact hret _ _ _ _ (by k_asm) (by walk_at "mine news") ⟨⟨_, rfl⟩, rfl⟩
theorem top_off_W5 : True := by
  w_top off
  trivial
inductive IntsIn (B : Int) : List Value → Prop where
  | nil : IntsIn B []
  | cons {n : Int} {t : Tok} {r : List Value} : 0 ≤ n → n ≤ B → IntsIn B r → IntsIn B (.int n t :: r)
theorem IntsIn.at {B : Int} : ∀ {l : List Value}, IntsIn B l → ∀ {i : Nat} {v : Value}, l[i]? = some v → ∃ n t, v = .int n t ∧ 0 ≤ n ∧ n ≤ B
  | _, .nil, _, _, h => by simp at h
  | _, .cons h0 h1 hr, i, v, h => by
    cases i with
    | zero => simp at h; exact ⟨_, _, h.symm, h0, h1⟩
    | succ i => exact hr.at (by simpa using h)
theorem Spec.upd {lv : Nat} {w : World} {f P : Addr} {vs : List Value} {o : Obj} {news : List (Addr × Obj)} {g : Obj → List (Addr × Obj)} {R : Value → Obj → Prop} (U : UpdF P o news g)
    (h : ∀ r, (∀ p ∈ r, p.1 ≠ P) → (∀ q ∈ news, q.1 ≠ P → q ∈ r) → Spec lv w f vs ((P, o) :: r) (fun v nx => ∃ o', nx = (P, o') :: r ∧ R v o')) :
    Spec lv w f vs news (fun v nx => ∃ o', nx = g o' ∧ R v o') := by
  obtain ⟨pre, post, rfl, hg, h1, h2⟩ := U.split
  intro p loose mean mg mb dp un gd cn cs a ccd cl outer A₀ base h₀ L m s Q E B F X N T hck hdp hun hret
  refine h (pre ++ post) (fun p hp => (List.mem_append.mp hp).elim (h1 p) (h2 p)) (fun q hq hne => ?_) p loose mean mg mb dp un gd cn cs a ccd cl outer A₀ base h₀ L m s Q E B F X (fun q hq => ?_) T hck hdp hun fun v nx h' tk' F' N' hR => ?_
  · rcases List.mem_append.mp hq with hq | hq
    · exact List.mem_append_left _ hq
    · rcases List.mem_cons.mp hq with rfl | hq
      · exact absurd rfl hne
      · exact List.mem_append_right _ hq
  · rcases List.mem_cons.mp hq with rfl | hq
    · exact N _ (List.mem_append_right _ List.mem_cons_self)
    · rcases List.mem_append.mp hq with hq | hq
      · exact N _ (List.mem_append_left _ hq)
      · exact N _ (List.mem_append_right _ (List.mem_cons_of_mem _ hq))
  · obtain ⟨o', rfl, r⟩ := hR
    refine hret v _ h' tk' F' (fun q hq => ?_) ⟨o', rfl, r⟩
    rw [hg] at hq
    rcases List.mem_append.mp hq with hq | hq
    · exact N' _ (List.mem_cons_of_mem _ (List.mem_append_left _ hq))
    · rcases List.mem_cons.mp hq with rfl | hq
      · exact N' _ List.mem_cons_self
      · exact N' _ (List.mem_cons_of_mem _ (List.mem_append_right _ hq))
abbrev srcO (a' b' : Int) (t1 t2 : Tok) (n : Nat) : Obj := W.listOf #[.int a' t1, .int b' t2] n
theorem take_u (w : World) (src : Addr) (n : Nat) (a' b' top : Int) (t1 t2 tt : Tok) (news : List (Addr × Obj)) (g : Obj → List (Addr × Obj)) (U : UpdF src (srcO a' b' t1 t2 n) news g) (ha : 0 ≤ a') (hb : 0 ≤ b') (hb2 : b' < 2147483647) (ht : 0 < top) (ht2 : top ≤ 100000) :
   Spec 3 w 387 [.ref src, .int top tt] news (fun v nx => ∃ d t a2 b2 u1 u2 n2, v = .int d t ∧ nx = g (srcO a2 b2 u1 u2 n2) ∧ 0 ≤ d ∧ d < top ∧ 0 ≤ a2 ∧ 0 ≤ b2 ∧ b2 < 2147483647) :=
  (Spec.upd (R := fun v o' => ∃ d t a2 b2 u1 u2 n2, v = .int d t ∧ o' = srcO a2 b2 u1 u2 n2 ∧ 0 ≤ d ∧ d < top ∧ 0 ≤ a2 ∧ 0 ≤ b2 ∧ b2 < 2147483647) U fun r hr _ =>
    (take_sp w src n a' b' top t1 t2 tt r ha hb hb2 ht ht2 hr).mono fun v nx ⟨d, t, a2, b2, u1, u2, n2, e, f, z⟩ => ⟨_, f, d, t, a2, b2, u1, u2, n2, e, rfl, z⟩).mono fun v nx ⟨o', e, d, t, a2, b2, u1, u2, n2, e2, f, z⟩ => ⟨d, t, a2, b2, u1, u2, n2, e2, by rw [e, f], z⟩
theorem one_u (w : World) (src ll : Addr) (n k : Nat) (a' b' : Int) (items : Array Value) (t1 t2 : Tok) (news : List (Addr × Obj)) (g : Obj → List (Addr × Obj)) (U : UpdF src (srcO a' b' t1 t2 n) news g) (ha : 0 ≤ a') (hb : 0 ≤ b') (hb2 : b' < 2147483647) (hs : 0 < items.size) (hs2 : items.size ≤ 1000) (hm : (ll, W.listOf items k) ∈ news) (hl : ll ≠ src) :
   Spec 6 w 394 [.ref src, .ref ll] news (fun v nx => ∃ (i : Nat) (a2 b2 : Int) (u1 u2 : Tok) (n2 : Nat), items[i]? = some v ∧ nx = g (srcO a2 b2 u1 u2 n2) ∧ 0 ≤ a2 ∧ 0 ≤ b2 ∧ b2 < 2147483647) :=
  (Spec.upd (R := fun v o' => ∃ (i : Nat) (a2 b2 : Int) (u1 u2 : Tok) (n2 : Nat), items[i]? = some v ∧ o' = srcO a2 b2 u1 u2 n2 ∧ 0 ≤ a2 ∧ 0 ≤ b2 ∧ b2 < 2147483647) U fun r hr hin =>
    (one_sp w src ll n k a' b' items t1 t2 r ha hb hb2 hs hs2 hr (hin _ hm hl)).mono fun v nx ⟨i, a2, b2, u1, u2, n2, e, f, z⟩ => ⟨_, f, i, a2, b2, u1, u2, n2, e, rfl, z⟩).mono fun v nx ⟨o', e, i, a2, b2, u1, u2, n2, e2, f, z⟩ => ⟨i, a2, b2, u1, u2, n2, e2, by rw [e, f], z⟩
theorem one_int (w : World) (src ll : Addr) (n k : Nat) (a' b' B : Int) (items : Array Value) (t1 t2 : Tok) (news : List (Addr × Obj)) (g : Obj → List (Addr × Obj)) (U : UpdF src (srcO a' b' t1 t2 n) news g) (ha : 0 ≤ a') (hb : 0 ≤ b') (hb2 : b' < 2147483647) (hs : 0 < items.size) (hs2 : items.size ≤ 1000) (hm : (ll, W.listOf items k) ∈ news) (hl : ll ≠ src) (hi : IntsIn B items.toList) :
   Spec 6 w 394 [.ref src, .ref ll] news (fun v nx => ∃ (d : Int) (t : Tok) (a2 b2 : Int) (u1 u2 : Tok) (n2 : Nat), v = .int d t ∧ 0 ≤ d ∧ d ≤ B ∧ nx = g (srcO a2 b2 u1 u2 n2) ∧ 0 ≤ a2 ∧ 0 ≤ b2 ∧ b2 < 2147483647) :=
  (one_u w src ll n k a' b' items t1 t2 news g U ha hb hb2 hs hs2 hm hl).mono fun v nx ⟨i, a2, b2, u1, u2, n2, h, r⟩ => by
    obtain ⟨d, t, e, h0, h1⟩ := hi.at (i := i) (v := v) (by simpa using h)
    exact ⟨d, t, a2, b2, u1, u2, n2, e, h0, h1, r⟩
theorem pow_24 {prog : Program} {w : World} {A : Around} {E : Value → Shared → Prop} {s : Shared} {t u : Tok} {Q : Value → Shared → Prop} (h : Q (.int 16777216 s.toks) { s with toks := s.toks + 1 }) :
    wpAny (model prog w) A (binaryOp .Pow (.int 2 t) (.int 24 u)) Q E s := by
  refine pow_int_small (by decide) (by decide) (by decide) ?_
  have e : (2 : Int) ^ (24 : Int).toNat = 16777216 := by decide
  rw [e]; exact h
theorem top_off_W6 : True := by
  w_top off
  trivial
theorem kw_25 : True := by
  k_with "call ref" => ((k_here; (with_reducible show wpAny _ _ (call (Value.ref 387) [Value.ref _, Value.int _ _]) _ _ _); k_dflt (first | (refine' take_u _ _ _ _ _ _ _ _ _ _ _ ?qzU ?qzh0 ?qzh1 ?qzh2 ?qzh3 ?qzh4 _ _ _ _ _ _ _ _ _ _ _ _ _ _ _ _ _ _ _ _ _ _ ?k1 ?k2 ?k3 ?k4 ?k5 ?kK ?kd ?ku ?_; walk_at "mine side"; (case qzU => walk_at "mine upd"); (case qzh0 => walk_at "mine omega"; skip); (case qzh1 => walk_at "mine omega"; skip); (case qzh2 => walk_at "mine omega"; skip); (case qzh3 => walk_at "mine omega"; skip); (case qzh4 => walk_at "mine omega"; skip); refine o_6 ?_; intro dr9 t9 aa9 bb9 u9 v9 m9 h9 tk9 F9 N9 lo9 hi9 aa0 bb0 bb1; (try dsimp only at N9); (try dsimp only); (try k_fold)))))
  trivial
section
theorem kw_26 : True := by
  k_with "mine ints" => ((repeat' (first | exact IntsIn.nil | refine IntsIn.cons ?_ ?_ ?_ | omega | decide)))
  k_with "mine upd" => (k_updF)
  k_with "mine ane" => (k_ne)
  k_with "binaryOp Pow int int" => ((k_here; (with_reducible refine pow_24 ?_)))
  trivial
set_option maxHeartbeats 200000 in
theorem drawn_sp (w : World) (src : Addr) (n : Nat) (a' b' : Int) (t1 t2 : Tok) (news : List (Addr × Obj)) (ha : 0 ≤ a') (hb : 0 ≤ b') (hb2 : b' < 2147483647) (hne : ∀ p ∈ news, p.1 ≠ src) :
   Spec 9 w 415 [.ref src] ((src, W.listOf #[.int a' t1, .int b' t2] n) :: news) (fun v nx => ∃ (T P : Addr) (pp qq c : Int) (u1 u2 u3 : Tok) (k1 k2 : Nat) (a2 b2 : Int) (v1 v2 : Tok) (n2 : Nat), v = .ref T ∧ nx = tupAt T #[.ref P, .int c u3] k1 :: tupAt P #[.int pp u1, .int qq u2] k2 :: (src, srcO a2 b2 v1 v2 n2) :: news ∧ 0 ≤ pp ∧ pp ≤ 1000 ∧ 0 ≤ qq ∧ qq ≤ 65536 ∧ 0 ≤ c ∧ c ≤ 16777219 ∧ 0 ≤ a2 ∧ 0 ≤ b2 ∧ b2 < 2147483647 ∧ (@LT.lt Nat _ src P) ∧ (@LT.lt Nat _ P T) ∧ ∀ p ∈ news, (@LT.lt Nat _ p.1 P)) := by
  unfold Spec
  k_fill
  intro p loose mean mg mb dp un gd cn cs a ccd cl outer A₀ base h₀ L m s Q E B F X N T hck hdp hun hret
  walk_at "mine enter"
  k_steps
  all_goals exact hret _ _ _ _ (by k_asm) (by walk_at "mine news") ⟨_, _, _, _, _, _, _, _, _, _, _, _, _, _, _, rfl, rfl, by assumption, by assumption, by assumption, by assumption, by assumption, by assumption, by assumption, by assumption, by assumption, by walk_at "mine lt", by walk_at "mine lt", lt_sub (by with_reducible assumption) (by walk_at "mine sk")⟩
end
theorem kw_27 : True := by
  k_with_none
  k_with "mine kenter" => (k_dflt (first
  | (refine' code_def ?k1 ?k2 ?k3 ?k4 ?k5 ?qzkA ?qzkF ?kK ?qzk6 ?qzk7 ?qzk8 ?qzk9 ?qzkB ?_ ?qzc2 ?qzc3 ?qzc4 ?qzc5; (case qzkA => exact rfl); (case qzkF => exact rfl); (case kK => assumption); (case k1 => k_asm); (case k2 => k_asm); (case k3 => k_asm); (case k4 => k_asm); (case k5 => k_asm); (case qzk6 => k_is); (case qzk7 => k_is); (case qzk8 => ktr_room); (case qzk9 => first | exact BindsTo.of_eq rfl | exact binds_K (by k_in) rfl (by k_is) rfl rfl rfl); (case qzc5 => decide); (case qzkB => exact locs rfl); (case qzc2 => exact rfl); (case qzc3 => exact rfl); (case qzc4 => exact rfl); k_whole; intro g' L' h' FG' F' N' B' X' T'; (try dsimp only); (try k_lift B'); (try k_fold))
  | (refine' code_defC ?k1 ?k2 ?k3 ?k4 ?k5 ?qzkA ?qzkF ?kK ?qzk6 ?qzk7 ?qzk8 ?qzk9 ?qzkB ?qzkD ?_ ?qzc2 ?qzc3 ?qzc4; (case qzkA => exact rfl); (case qzkF => exact rfl); (case kK => assumption); (case k1 => k_asm); (case k2 => k_asm); (case k3 => k_asm); (case k4 => k_asm); (case k5 => k_asm); (case qzk6 => k_is); (case qzk7 => k_is); (case qzk8 => ktr_room); (case qzk9 => first | exact BindsTo.of_eq rfl | exact binds_K (by k_in) rfl (by k_is) rfl rfl rfl); (case qzkB => exact rfl); (case qzkD => decide +kernel); (case qzc2 => exact rfl); (case qzc3 => exact rfl); (case qzc4 => exact rfl); k_whole; intro g' L' h' tk' cells' FG' F' N' Y' B' X' T' l1; (try k_lt l1); k_cells Y'; (try simp only [List.cons_append, List.nil_append] at N'); (try dsimp only); (try k_lift B'); (try k_fold))))
  k_with "mine enter" => ((refine wpAny_call ?_; k_dflt (first
  | (refine' code_def ?k1 ?k2 ?k3 ?k4 ?k5 ?qzkA ?qzkF ?kK ?qzk6 ?qzk7 ?qzk8 ?qzk9 ?qzkB ?_ ?qzc2 ?qzc3 ?qzc4 ?qzc5; (case qzkA => exact rfl); (case qzkF => exact rfl); (case kK => assumption); (case k1 => k_asm); (case k2 => k_asm); (case k3 => k_asm); (case k4 => k_asm); (case k5 => k_asm); (case qzk6 => k_is); (case qzk7 => k_is); (case qzk8 => ktr_room); (case qzk9 => first | exact BindsTo.of_eq rfl | exact binds_K (by k_in) rfl (by k_is) rfl rfl rfl); (case qzc5 => decide); (case qzkB => exact locs rfl); (case qzc2 => exact rfl); (case qzc3 => exact rfl); (case qzc4 => exact rfl); k_whole; intro g' L' h' FG' F' N' B' X' T'; (try dsimp only); (try k_lift B'); (try k_fold))
  | (refine' code_defC ?k1 ?k2 ?k3 ?k4 ?k5 ?qzkA ?qzkF ?kK ?qzk6 ?qzk7 ?qzk8 ?qzk9 ?qzkB ?qzkD ?_ ?qzc2 ?qzc3 ?qzc4; (case qzkA => exact rfl); (case qzkF => exact rfl); (case kK => assumption); (case k1 => k_asm); (case k2 => k_asm); (case k3 => k_asm); (case k4 => k_asm); (case k5 => k_asm); (case qzk6 => k_is); (case qzk7 => k_is); (case qzk8 => ktr_room); (case qzk9 => first | exact BindsTo.of_eq rfl | exact binds_K (by k_in) rfl (by k_is) rfl rfl rfl); (case qzkB => exact rfl); (case qzkD => decide +kernel); (case qzc2 => exact rfl); (case qzc3 => exact rfl); (case qzc4 => exact rfl); k_whole; intro g' L' h' tk' cells' FG' F' N' Y' B' X' T' l1; (try k_lt l1); k_cells Y'; (try simp only [List.cons_append, List.nil_append] at N'); (try dsimp only); (try k_lift B'); (try k_fold)))))
  k_with "mine side" => (((case k1 => k_asm); (case k2 => k_asm); (case k3 => k_asm); (case k4 => k_asm); (case k5 => k_asm); (case kK => first | exact rfl | assumption); (case kd => ktr_room); (case ku => ktr_units)))
  k_with "mine kbabound" => (((try dsimp only); first | exact and255_lo _ | exact and255_hi _))
  k_with "mine news" => (first | k_asm | (refine cb_drop (by assumption) ?_; intro p9 hp9; (repeat (first | exact hp9 | refine List.mem_cons_of_mem _ ?_))))
  k_with "mine room" => (((with_reducible rename @LT.lt Nat _ (_ + _) recursionLimit => hq9); k_dflt (first | exact room_1 hq9 (by exact rfl) | exact room_j hq9 (by exact rfl) | exact room_0 hq9)))
  k_with "mine units" => (((with_reducible rename @LT.lt Nat _ (_ + _) cLine => hq9); k_dflt (first | exact units_1 hq9 (by exact rfl) | exact units_j hq9 (by exact rfl))))
  k_with "mine me" => (first | with_reducible exact me0 | with_reducible exact me1 | with_reducible exact me2 | with_reducible exact me3 | with_reducible exact me4 | with_reducible exact me5 | with_reducible exact me6 | with_reducible exact me7 | with_reducible exact me8 | with_reducible exact me9 | with_reducible exact me10 | with_reducible exact me11 | with_reducible exact me12 | with_reducible exact me13 | with_reducible exact me14 | with_reducible exact me15 | with_reducible exact me16 | with_reducible exact me17 | with_reducible exact me18 | with_reducible assumption | k_mem)
  k_with "mine ltall" => (((repeat ((with_reducible rename (∀ p ∈ _, Prod.fst p < _) => h7); replace h7 := allLt_of h7; simp only [AllLt, and_true] at h7))))
  k_with "mine kne" => ((refine neN ?_; (try dsimp only); first | with_reducible assumption | decide | exact Nat.ne_of_gt (by with_reducible assumption) | exact Nat.ne_of_lt (by with_reducible assumption) | exact ne_l (by with_reducible assumption) (by walk_at "mine me") | exact ne_r (by with_reducible assumption) (by walk_at "mine me") | exact ne_l2 (by with_reducible assumption) (by with_reducible assumption) (by walk_at "mine me") | exact ne_r2 (by with_reducible assumption) (by with_reducible assumption) (by walk_at "mine me") | exact ne_l1 (by with_reducible assumption) (by walk_at "mine me") | exact ne_r1 (by with_reducible assumption) (by walk_at "mine me") | exact ne_l11 (by with_reducible assumption) (by walk_at "mine me") | exact ne_r11 (by with_reducible assumption) (by walk_at "mine me") | exact ne_s1 | exact ne_s2 | exact ne_b1 (by with_reducible assumption) rfl | exact ne_b2 (by with_reducible assumption) rfl | exact Ne.symm (by with_reducible assumption) | (trace_state; walk_at "mine ltall"; omega)))
  k_with "mine sk" => (first | with_reducible exact sk0 | with_reducible exact sk1 | with_reducible exact sk2 | with_reducible exact sk3 | with_reducible exact sk4 | with_reducible exact sk5 | with_reducible exact sk6 | with_reducible exact sk7 | with_reducible exact sk8 | with_reducible exact sk9 | with_reducible exact sk10 | with_reducible exact sk11 | with_reducible exact sk12 | with_reducible exact sk13 | with_reducible exact sk14 | with_reducible exact sk15 | with_reducible exact sk16 | with_reducible exact sk17 | with_reducible exact sk18)
  k_with "mine kall" => (first | with_reducible assumption | exact all_l (by with_reducible assumption) (by walk_at "mine sk") | exact all_l2 (by with_reducible assumption) (by with_reducible assumption) (by walk_at "mine sk") | exact all_l1 (by with_reducible assumption) (by walk_at "mine sk") | exact all_l11 (by with_reducible assumption) (by walk_at "mine sk") | (with_reducible exact List.forall_mem_nil _) | (refine' List.forall_mem_cons.mpr ⟨?qza, ?qzb⟩; (case qza => k_ne); (case qzb => k_all)) | (trace_state; exact all_ne (by assumption) (by walk_at "mine ltall"; omega)))
  k_with "mine lt" => (first | with_reducible assumption | exact lt_t0 (by with_reducible assumption) (by walk_at "mine me") | exact lt_t1 (by with_reducible assumption) (by with_reducible assumption) (by walk_at "mine me") | exact lt_t2 (by with_reducible assumption) (by with_reducible assumption) (by with_reducible assumption) (by walk_at "mine me") | (trace_state; walk_at "mine ltall"; omega))
  k_with "exec Raise some none" => ((k_here; (with_reducible show wpAny _ _ (exec (Stmt.Raise (some (Expr.Call (Expr.Name ("SizeError" : Str) _) _ [] _)) none _) _) _ _ _); refine' raise56 ?k1 ?k2 ?_; (case k1 => k_asm); (case k2 => k_dflt (exact rfl))))
  k_with "exec Raise some none" => ((k_here; (with_reducible show wpAny _ _ (exec (Stmt.Raise (some (Expr.Call (Expr.Name ("FormError" : Str) _) _ [] _)) none _) _) _ _ _); refine' raise44 ?k1 ?k2 ?_; (case k1 => k_asm); (case k2 => k_dflt (exact rfl))))
  k_with "call ref" => ((k_here; (first | (with_reducible show wpAny _ _ (call (Value.ref 56) [Value.str _ _]) _ _ _) | (with_reducible show wpAny _ _ (call (Value.ref 44) [Value.str _ _]) _ _ _)); k_dflt (refine' exc_call_sp _ _ _ _ _ ?qzhC _ _ _ _ _ _ _ _ _ _ _ _ _ _ _ _ _ _ _ _ _ _ ?k1 ?k2 ?k3 ?k4 ?k5 ?kK ?kd ?ku ?_; (case qzhC => decide); walk_at "mine side"); intro v9 nx9 h9 tk9 F9 N9 r9; obtain ⟨e9, d9, t9, q9, f9, n9⟩ := r9; subst q9; rw [f9] at N9; clear f9; (try dsimp only); (try k_fold)))
  k_with "RaiseEnd" => ((k_here; refine' RaiseEnd.intro ?k1 ?k2 ?k3 ?_; (case k1 => k_asm); (case k2 => k_asm); (case k3 => k_asm); (try dsimp only)))
  k_with "leaving ref" => ((k_here; refine' leave_mine ?k1 ?k2 ?k3 ?k4 ?k5 ?qzk6 ?_; (case k1 => k_asm); (case k2 => k_asm); (case k3 => k_asm); (case k4 => assumption); (case k5 => k_dflt (exact rfl)); (case qzk6 => k_dflt (exact rfl)); intro h' R' U'; (try dsimp only)))
  k_with "call type:bytes" => ((k_here; (with_reducible show wpAny _ _ (call (Value.type "bytes") [Value.bytes _ _]) _ _ _); with_reducible refine call_bytes_bytes ?_))
  k_with "call type:bytes" => ((k_here; (with_reducible show wpAny _ _ (call (Value.type "bytes") [Value.int _ _]) _ _ _); (refine' call_bytes_zeros ?k1 ?k2 ?_; (case k1 => omega); (case k2 => omega); intro c9 zs9 u9 k9 b9 z9 n9; (try dsimp only))))
  k_with "call type:bytes" => ((k_here; (with_reducible show wpAny _ _ (call (Value.type "bytes") [Value.ref _]) _ _ _); k_dflt (refine' KBa.make_K ?qzkbaF ?qzkbaN ?qzkbah ?qzkbal ?qzkbai ?qzkbar ?qzkban ?_; (case qzkbaF => k_asm); (case qzkbaN => k_asm); (case qzkbah => rfl); (case qzkbal => kba_isList); (case qzkbai => kba_listInts); (case qzkbar => walk_at "mine in"); (case qzkban => kba_size)); intro _ _ _ F' N' kbaIn))
  k_with "mine in" => (first | exact in_one (by omega) (by omega) | (refine in_cons (by omega) (by omega) ?_; walk_at "mine in"; done) | exact in_nil | kba_in)
  k_with "mine sub" => ((repeat (first | exact sub_refl | refine sub_keep ?_ | refine sub_skip ?_)))
  k_with "mine raised" => (first | (intro q9 hq9; (repeat (first | exact hq9 | refine List.mem_cons_of_mem _ ?_)); done) | (walk_at "mine sub"; done))
  k_with "mine news" => (first | k_asm | (refine cb_drop (by assumption) ?_; first | (intro p9 hp9; (repeat (first | exact hp9 | refine List.mem_cons_of_mem _ ?_)); done) | (walk_at "mine sub"; done)))
  k_with "mine absurd" => (first | (exfalso; omega) | (exfalso; (rename ((_ && _ : Bool) = _) => hx9); (simp only [Bool.and_eq_true, Bool.and_eq_false_iff, beq_iff_eq, beq_eq_false_iff_ne, ne_eq] at hx9); omega))
  k_with "compareOp In int ref" => ((k_here; (with_reducible show wpAny _ _ (compareOp CmpOp.In (Value.int _ _) (Value.ref 206)) _ _ _); first | (refine' in206_t ?k1 ?k2 ?k3 ?_; (case k1 => k_asm); (case k2 => k_asm); (case k3 => omega)) | (refine' in206_f ?k1 ?k2 ?k3 ?_; (case k1 => k_asm); (case k2 => k_asm); (case k3 => omega))))
  k_with "compareOp NotIn int ref" => ((k_here; (with_reducible show wpAny _ _ (compareOp CmpOp.NotIn (Value.int _ _) (Value.ref 206)) _ _ _); refine' notin206_t ?k1 ?k2 ?k3 ?_; (case k1 => k_asm); (case k2 => k_asm); (case k3 => omega)))
  k_with "mine mem" => (first | assumption | (refine List.forall_mem_cons.mpr ⟨by k_mem, List.forall_mem_cons.mpr ⟨by k_mem, List.forall_mem_nil _⟩⟩))
  k_with "getMethod bytes" => ((k_here; with_reducible refine join_method ?_))
  k_with "call builtin:bytes.join" => ((k_here; (with_reducible show wpAny _ _ (call (Value.builtin "bytes.join") [Value.bytes _ _, Value.ref _]) _ _ _); k_dflt (first | (refine' call_join0 ?k1 ?_; (case k1 => kba_isList); intro u9 k9; (have j9 := ints_nil)) | (refine' call_join1 ?k1 ?_; (case k1 => kba_isList)))))
  k_with "eval ListComp" => ((k_here; (with_reducible show wpAny _ _ (eval (Expr.ListComp _ [⟨Expr.Name _ _, Expr.Attribute _ _ _, [], 0⟩] _ _) _) _ _ _); k_dflt (refine listComp_tup (by k_asm) (by with_unfolding_all rfl) (by decide) (by rfl) (by decide) (by rfl) ?_)))
  k_with "TupSrc" => ((k_here; k_dflt (refine' TupSrc.intro ?k1 ?k2 ?k3 ?k4 ?k5 ?_; (case k1 => rfl); (case k2 => k_asm); (case k3 => k_asm); (case k4 => k_mem); (case k5 => exact Nat.le_of_ble_eq_true rfl); intro g'; first | (refine rest_nil rfl ?_) | (refine rest_one rfl (fun I' oI' C' oC' D' m' h' tk' E' hC' hx' F' N' off' ne' => ?_)))))
  k_with "CompEnd" => ((k_dflt (refine' LCg.CompEnd.intro ?k1 ?k2 _ ?k3 ?k4 ?k5 ?_; (case k1 => k_asm); (case k2 => k_asm); (case k3 => exact sub_refl); (case k4 => assumption); (case k5 => k_mem); (try dsimp only))))
  k_with "mine omega" => (first | omega | (simp only [List.length_append, List.length_cons, List.length_nil] <;> omega))
  k_with "call ref" => ((k_here; (with_reducible show wpAny _ _ (call (Value.ref 160) [Value.bytes _ _]) _ _ _); k_dflt (first | (refine' crc_sp _ _ _ _ (by kba_ints) _ _ _ _ _ _ _ _ _ _ _ _ _ _ _ _ _ _ _ _ _ _ _ ?k1 ?k2 ?k3 ?k4 ?k5 ?kK ?kd ?ku ?_; walk_at "mine side"; refine o_0 ?_; intro t9 h9 tk9 F9 N9; (try dsimp only); (try k_fold)))))
  k_with "call ref" => ((k_here; (with_reducible show wpAny _ _ (call (Value.ref 170) [Value.int _ _, Value.int _ _]) _ _ _); k_dflt (first | (refine' put1_sp _ _ _ _ ?qzh0 ?qzh1 _ _ _ _ _ _ _ _ _ _ _ _ _ _ _ _ _ _ _ _ _ _ _ ?k1 ?k2 ?k3 ?k4 ?k5 ?kK ?kd ?ku ?_; (case qzh0 => walk_at "mine omega"); (case qzh1 => walk_at "mine omega"); walk_at "mine side"; refine o_1 ?_; intro c9 t9 h9 tk9 F9 N9 b9; (try dsimp only); (try k_fold)) | (refine' put1_raise _ _ _ _ ?qzh0 _ _ _ _ _ _ _ _ _ _ _ _ _ _ _ _ _ _ _ _ _ _ _ ?k1 ?k2 ?k3 ?k4 ?k5 ?kK ?kd ?ku ?_; (case qzh0 => walk_at "mine omega"); walk_at "mine side"; intro e9 G9 h9 tk9 F9 R9 U9; (try dsimp only)) | (refine' put2_sp _ _ _ _ ?qzh0 ?qzh1 _ _ _ _ _ _ _ _ _ _ _ _ _ _ _ _ _ _ _ _ _ _ _ ?k1 ?k2 ?k3 ?k4 ?k5 ?kK ?kd ?ku ?_; (case qzh0 => walk_at "mine omega"); (case qzh1 => walk_at "mine omega"); walk_at "mine side"; refine o_1 ?_; intro c9 t9 h9 tk9 F9 N9 b9; (try dsimp only); (try k_fold)) | (refine' put2_raise _ _ _ _ ?qzh0 _ _ _ _ _ _ _ _ _ _ _ _ _ _ _ _ _ _ _ _ _ _ _ ?k1 ?k2 ?k3 ?k4 ?k5 ?kK ?kd ?ku ?_; (case qzh0 => walk_at "mine omega"); walk_at "mine side"; intro e9 G9 h9 tk9 F9 R9 U9; (try dsimp only)) | (refine' put6_sp _ _ _ _ ?qzh0 ?qzh1 _ _ _ _ _ _ _ _ _ _ _ _ _ _ _ _ _ _ _ _ _ _ _ ?k1 ?k2 ?k3 ?k4 ?k5 ?kK ?kd ?ku ?_; (case qzh0 => walk_at "mine omega"); (case qzh1 => walk_at "mine omega"); walk_at "mine side"; refine o_1 ?_; intro c9 t9 h9 tk9 F9 N9 b9; (try dsimp only); (try k_fold)))))
  k_with "call ref" => ((k_here; (with_reducible show wpAny _ _ (call (Value.ref 177) [Value.bytes _ _, Value.int _ _, Value.int _ _]) _ _ _); k_dflt (first | (refine' get1v _ _ _ _ (by kba_ints) ?qzh0 _ _ _ ?qzh1 ?qzh2 _ _ _ _ _ _ _ _ _ _ _ _ _ _ _ _ _ _ _ _ _ _ _ ?k1 ?k2 ?k3 ?k4 ?k5 ?kK ?kd ?ku ?_; (case qzh0 => walk_at "mine omega"); (case qzh1 => walk_at "mine omega"); (case qzh2 => walk_at "mine omega"); walk_at "mine side"; refine o_2 ?_; intro t9 h9 tk9 F9 N9 lo9 hi9; (try dsimp only); (try k_fold)) | (refine' get3v _ _ _ _ (by kba_ints) ?qzh0 _ _ _ ?qzh1 ?qzh2 _ _ _ _ _ _ _ _ _ _ _ _ _ _ _ _ _ _ _ _ _ _ _ ?k1 ?k2 ?k3 ?k4 ?k5 ?kK ?kd ?ku ?_; (case qzh0 => walk_at "mine omega"); (case qzh1 => walk_at "mine omega"); (case qzh2 => walk_at "mine omega"); walk_at "mine side"; refine o_2 ?_; intro t9 h9 tk9 F9 N9 lo9 hi9; (try dsimp only); (try k_fold)) | (refine' get_sp _ _ _ _ (by kba_ints) ?qzh0 _ _ _ _ ?qzh1 ?qzh2 ?qzh3 ?qzh4 _ _ _ _ _ _ _ _ _ _ _ _ _ _ _ _ _ _ _ _ _ _ _ ?k1 ?k2 ?k3 ?k4 ?k5 ?kK ?kd ?ku ?_; (case qzh0 => walk_at "mine omega"); (case qzh1 => walk_at "mine omega"); (case qzh2 => walk_at "mine omega"); (case qzh3 => walk_at "mine omega"); (case qzh4 => walk_at "mine omega"); walk_at "mine side"; refine o_0 ?_; intro t9 h9 tk9 F9 N9; (try dsimp only); (try k_fold)) | (refine' get_raise _ _ _ _ (by kba_ints) ?qzh0 _ _ _ _ ?qzh1 ?qzh2 ?qzh3 ?qzh4 ?qzh5 _ _ _ _ _ _ _ _ _ _ _ _ _ _ _ _ _ _ _ _ _ _ _ ?k1 ?k2 ?k3 ?k4 ?k5 ?kK ?kd ?ku ?_; (case qzh0 => walk_at "mine omega"); (case qzh1 => walk_at "mine omega"); (case qzh2 => walk_at "mine omega"); (case qzh3 => walk_at "mine omega"); (case qzh4 => walk_at "mine omega"); (case qzh5 => walk_at "mine omega"); walk_at "mine side"; intro e9 G9 h9 tk9 F9 R9 U9; (try dsimp only)))))
  k_with "call ref" => ((k_here; (with_reducible show wpAny _ _ (call (Value.ref 184) [Value.int _ _]) _ _ _); k_dflt (first | (refine' put16_sp _ _ _ ?qzh0 ?qzh1 _ _ _ _ _ _ _ _ _ _ _ _ _ _ _ _ _ _ _ _ _ _ _ ?k1 ?k2 ?k3 ?k4 ?k5 ?kK ?kd ?ku ?_; (case qzh0 => walk_at "mine omega"); (case qzh1 => walk_at "mine omega"); walk_at "mine side"; refine o_1 ?_; intro c9 t9 h9 tk9 F9 N9 b9; (try dsimp only); (try k_fold)) | (refine' put16_sp _ _ _ ?qzh0 ?qzh1 _ _ _ _ _ _ _ _ _ _ _ _ _ _ _ _ _ _ _ _ _ _ _ ?k1 ?k2 ?k3 ?k4 ?k5 ?kK ?kd ?ku ?_; walk_at "mine side"; (case qzh0 => decide); (case qzh1 => decide); refine o_1 ?_; intro c9 t9 h9 tk9 F9 N9 b9; (try dsimp only); (try k_fold)) | (refine' put16_raise _ _ _ ?qzh0 _ _ _ _ _ _ _ _ _ _ _ _ _ _ _ _ _ _ _ _ _ _ _ ?k1 ?k2 ?k3 ?k4 ?k5 ?kK ?kd ?ku ?_; (case qzh0 => walk_at "mine omega"); walk_at "mine side"; intro e9 G9 h9 tk9 F9 R9 U9; (try dsimp only)))))
  k_with "call ref" => ((k_here; (with_reducible show wpAny _ _ (call (Value.ref 191) [Value.int _ _]) _ _ _); k_dflt (first | (refine' put48_sp _ _ _ ?qzh0 ?qzh1 _ _ _ _ _ _ _ _ _ _ _ _ _ _ _ _ _ _ _ _ _ _ _ ?k1 ?k2 ?k3 ?k4 ?k5 ?kK ?kd ?ku ?_; (case qzh0 => walk_at "mine omega"); (case qzh1 => walk_at "mine omega"); walk_at "mine side"; refine o_1 ?_; intro c9 t9 h9 tk9 F9 N9 b9; (try dsimp only); (try k_fold)))))
  k_with "call ref" => ((k_here; (with_reducible show wpAny _ _ (call (Value.ref 198) [Value.bytes _ _, Value.int _ _]) _ _ _); k_dflt (first | (refine' get16v _ _ _ _ (by kba_ints) ?qzh0 _ _ ?qzh1 ?qzh2 _ _ _ _ _ _ _ _ _ _ _ _ _ _ _ _ _ _ _ _ _ _ _ ?k1 ?k2 ?k3 ?k4 ?k5 ?kK ?kd ?ku ?_; (case qzh0 => walk_at "mine omega"); (case qzh1 => walk_at "mine omega"); (case qzh2 => walk_at "mine omega"); walk_at "mine side"; refine o_3 ?_; intro t9 h9 tk9 F9 N9 lo9 hi9 lo8 hi8; (try dsimp only); (try k_fold)) | (refine' get16_raise _ _ _ _ (by kba_ints) ?qzh0 _ _ ?qzh1 ?qzh2 ?qzh3 _ _ _ _ _ _ _ _ _ _ _ _ _ _ _ _ _ _ _ _ _ _ _ ?k1 ?k2 ?k3 ?k4 ?k5 ?kK ?kd ?ku ?_; (case qzh0 => walk_at "mine omega"); (case qzh1 => walk_at "mine omega"); (case qzh2 => walk_at "mine omega"); (case qzh3 => walk_at "mine omega"); walk_at "mine side"; intro e9 G9 h9 tk9 F9 R9 U9; (try dsimp only)))))
  k_with "call ref" => ((k_here; (with_reducible show wpAny _ _ (call (Value.ref 198) [Value.bytes _ _, Value.int _ _]) _ _ _); k_dflt (first | (refine' get16c _ _ _ _ (by kba_ints) 12 _ ?qzh9 ?qzh0 _ _ ?qzh1 ?qzh2 _ _ _ _ _ _ _ _ _ _ _ _ _ _ _ _ _ _ _ _ _ _ _ ?k1 ?k2 ?k3 ?k4 ?k5 ?kK ?kd ?ku ?_; (case qzh0 => walk_at "mine omega"); (case qzh2 => walk_at "mine omega"); walk_at "mine side"; (case qzh9 => assumption); (case qzh1 => first | exact rfl | decide); refine o_0 ?_; intro t9 h9 tk9 F9 N9; (try dsimp only); (try k_fold)) | (refine' get16c _ _ _ _ (by kba_ints) 14 _ ?qzh9 ?qzh0 _ _ ?qzh1 ?qzh2 _ _ _ _ _ _ _ _ _ _ _ _ _ _ _ _ _ _ _ _ _ _ _ ?k1 ?k2 ?k3 ?k4 ?k5 ?kK ?kd ?ku ?_; (case qzh0 => walk_at "mine omega"); (case qzh2 => walk_at "mine omega"); walk_at "mine side"; (case qzh9 => assumption); (case qzh1 => first | exact rfl | decide); refine o_0 ?_; intro t9 h9 tk9 F9 N9; (try dsimp only); (try k_fold)) | (refine' get16c _ _ _ _ (by kba_ints) 16 _ ?qzh9 ?qzh0 _ _ ?qzh1 ?qzh2 _ _ _ _ _ _ _ _ _ _ _ _ _ _ _ _ _ _ _ _ _ _ _ ?k1 ?k2 ?k3 ?k4 ?k5 ?kK ?kd ?ku ?_; (case qzh0 => walk_at "mine omega"); (case qzh2 => walk_at "mine omega"); walk_at "mine side"; (case qzh9 => assumption); (case qzh1 => first | exact rfl | decide); refine o_0 ?_; intro t9 h9 tk9 F9 N9; (try dsimp only); (try k_fold)) | (refine' get16v _ _ _ _ (by kba_ints) ?qzh0 _ _ ?qzh1 ?qzh2 _ _ _ _ _ _ _ _ _ _ _ _ _ _ _ _ _ _ _ _ _ _ _ ?k1 ?k2 ?k3 ?k4 ?k5 ?kK ?kd ?ku ?_; (case qzh0 => walk_at "mine omega"); (case qzh1 => walk_at "mine omega"); (case qzh2 => walk_at "mine omega"); walk_at "mine side"; refine o_3 ?_; intro t9 h9 tk9 F9 N9 lo9 hi9 lo8 hi8; (try dsimp only); (try k_fold)) | (refine' get16_raise _ _ _ _ (by kba_ints) ?qzh0 _ _ ?qzh1 ?qzh2 ?qzh3 _ _ _ _ _ _ _ _ _ _ _ _ _ _ _ _ _ _ _ _ _ _ _ ?k1 ?k2 ?k3 ?k4 ?k5 ?kK ?kd ?ku ?_; (case qzh0 => walk_at "mine omega"); (case qzh1 => walk_at "mine omega"); (case qzh2 => walk_at "mine omega"); (case qzh3 => walk_at "mine omega"); walk_at "mine side"; intro e9 G9 h9 tk9 F9 R9 U9; (try dsimp only)))))
  k_with "call ref" => ((k_here; (with_reducible show wpAny _ _ (call (Value.ref 205) [Value.bytes _ _, Value.int _ _]) _ _ _); k_dflt (first | (refine' get48_sp _ _ _ _ (by kba_ints) ?qzh0 _ _ ?qzh1 ?qzh2 _ _ _ _ _ _ _ _ _ _ _ _ _ _ _ _ _ _ _ _ _ _ _ ?k1 ?k2 ?k3 ?k4 ?k5 ?kK ?kd ?ku ?_; (case qzh0 => walk_at "mine omega"); (case qzh1 => walk_at "mine omega"); (case qzh2 => walk_at "mine omega"); walk_at "mine side"; refine o_0 ?_; intro t9 h9 tk9 F9 N9; (try dsimp only); (try k_fold)))))
  k_with "call ref" => ((k_here; (with_reducible show wpAny _ _ (call (Value.ref 334) [Value.int _ _, Value.int _ _, Value.int _ _, Value.bytes _ _]) _ _ _); k_dflt (first | (refine' llc_sp _ _ _ _ _ _ _ _ _ _ _ _ _ _ _ _ _ _ _ _ _ _ _ _ _ _ _ _ _ _ _ _ ?k1 ?k2 ?k3 ?k4 ?k5 ?kK ?kd ?ku ?_; walk_at "mine side"; refine o_4 ?_; intro x9 d9 ka9 kb9 kc9 kd9 h9 tk9 F9 N9 l9 l8; (try unfold llcD at N9); (try k_lt l9); (try k_lt2 l8); (try dsimp only); (try k_fold)))))
  k_with "call ref" => ((k_here; (with_reducible show wpAny _ _ (call (Value.ref 352) [Value.ref _]) _ _ _); k_dflt (first | (refine' pack_sp _ _ _ _ _ _ _ _ _ _ _ _ _ _ _ _ _ ?qzh9 ?qzh0 _ ?qzh1 ?qzh2 ?qzh3 ?qzh8 ?qzh4 _ _ _ _ _ _ _ _ _ _ _ _ _ _ _ _ _ _ _ _ _ _ ?k1 ?k2 ?k3 ?k4 ?k5 ?kK ?kd ?ku ?_; walk_at "mine side"; (case qzh4 => walk_at "mine mem"); (case qzh9 => kba_ints); (case qzh8 => assumption); (case qzh0 => walk_at "mine omega"); (case qzh1 => walk_at "mine omega"); (case qzh2 => walk_at "mine omega"); (case qzh3 => walk_at "mine omega"); refine o_5 ?_; intro c9 t9 h9 tk9 F9 N9 b9; (try dsimp only); (try k_fold)) | (refine' pack_no _ _ _ _ _ _ _ _ _ _ _ _ _ _ _ _ ?qzh9 ?qzh0 _ ?qzh1 ?qzh2 ?qzh3 ?qzh5 ?qzh8 ?qzh4 _ _ _ _ _ _ _ _ _ _ _ _ _ _ _ _ _ _ _ _ _ _ ?k1 ?k2 ?k3 ?k4 ?k5 ?kK ?kd ?ku ?_; walk_at "mine side"; (case qzh4 => walk_at "mine mem"); (case qzh9 => kba_ints); (case qzh8 => assumption); (case qzh0 => walk_at "mine omega"); (case qzh1 => walk_at "mine omega"); (case qzh2 => walk_at "mine omega"); (case qzh3 => walk_at "mine omega"); (case qzh5 => walk_at "mine omega"); intro e9 G9 h9 tk9 F9 R9 U9; (try dsimp only)))))
  k_with "call ref" => ((k_here; (with_reducible show wpAny _ _ (call (Value.ref 394) [Value.ref _, Value.ref _]) _ _ _); k_dflt (first | (refine' one_int _ _ _ _ _ _ _ 60 _ _ _ _ _ ?qzU ?qzh0 ?qzh1 ?qzh2 ?qzh3 ?qzh4 ?qzh6 ?qzh5 ?qzh7 _ _ _ _ _ _ _ _ _ _ _ _ _ _ _ _ _ _ _ _ _ _ ?k1 ?k2 ?k3 ?k4 ?k5 ?kK ?kd ?ku ?_; walk_at "mine side"; (case qzU => walk_at "mine upd"); (case qzh6 => k_mem); (case qzh7 => walk_at "mine ints"); (case qzh0 => walk_at "mine omega"; skip); (case qzh1 => walk_at "mine omega"; skip); (case qzh2 => walk_at "mine omega"; skip); (case qzh3 => exact Nat.le_of_ble_eq_true rfl); (case qzh4 => exact Nat.le_of_ble_eq_true rfl); (case qzh5 => walk_at "mine ane"); refine o_7 ?_; intro dr9 t9 aa9 bb9 u9 v9 m9 h9 tk9 F9 N9 lo9 hi9 aa0 bb0 bb1; (try dsimp only at N9); (try dsimp only); (try k_fold)) | (refine' one_int _ _ _ _ _ _ _ 255 _ _ _ _ _ ?qzU ?qzh0 ?qzh1 ?qzh2 ?qzh3 ?qzh4 ?qzh6 ?qzh5 ?qzh7 _ _ _ _ _ _ _ _ _ _ _ _ _ _ _ _ _ _ _ _ _ _ ?k1 ?k2 ?k3 ?k4 ?k5 ?kK ?kd ?ku ?_; walk_at "mine side"; (case qzU => walk_at "mine upd"); (case qzh6 => k_mem); (case qzh7 => walk_at "mine ints"); (case qzh0 => walk_at "mine omega"; skip); (case qzh1 => walk_at "mine omega"; skip); (case qzh2 => walk_at "mine omega"; skip); (case qzh3 => exact Nat.le_of_ble_eq_true rfl); (case qzh4 => exact Nat.le_of_ble_eq_true rfl); (case qzh5 => walk_at "mine ane"); refine o_7 ?_; intro dr9 t9 aa9 bb9 u9 v9 m9 h9 tk9 F9 N9 lo9 hi9 aa0 bb0 bb1; (try dsimp only at N9); (try dsimp only); (try k_fold)) | (refine' one_int _ _ _ _ _ _ _ 1000 _ _ _ _ _ ?qzU ?qzh0 ?qzh1 ?qzh2 ?qzh3 ?qzh4 ?qzh6 ?qzh5 ?qzh7 _ _ _ _ _ _ _ _ _ _ _ _ _ _ _ _ _ _ _ _ _ _ ?k1 ?k2 ?k3 ?k4 ?k5 ?kK ?kd ?ku ?_; walk_at "mine side"; (case qzU => walk_at "mine upd"); (case qzh6 => k_mem); (case qzh7 => walk_at "mine ints"); (case qzh0 => walk_at "mine omega"; skip); (case qzh1 => walk_at "mine omega"; skip); (case qzh2 => walk_at "mine omega"; skip); (case qzh3 => exact Nat.le_of_ble_eq_true rfl); (case qzh4 => exact Nat.le_of_ble_eq_true rfl); (case qzh5 => walk_at "mine ane"); refine o_7 ?_; intro dr9 t9 aa9 bb9 u9 v9 m9 h9 tk9 F9 N9 lo9 hi9 aa0 bb0 bb1; (try dsimp only at N9); (try dsimp only); (try k_fold)) | (refine' one_int _ _ _ _ _ _ _ 65536 _ _ _ _ _ ?qzU ?qzh0 ?qzh1 ?qzh2 ?qzh3 ?qzh4 ?qzh6 ?qzh5 ?qzh7 _ _ _ _ _ _ _ _ _ _ _ _ _ _ _ _ _ _ _ _ _ _ ?k1 ?k2 ?k3 ?k4 ?k5 ?kK ?kd ?ku ?_; walk_at "mine side"; (case qzU => walk_at "mine upd"); (case qzh6 => k_mem); (case qzh7 => walk_at "mine ints"); (case qzh0 => walk_at "mine omega"; skip); (case qzh1 => walk_at "mine omega"; skip); (case qzh2 => walk_at "mine omega"; skip); (case qzh3 => exact Nat.le_of_ble_eq_true rfl); (case qzh4 => exact Nat.le_of_ble_eq_true rfl); (case qzh5 => walk_at "mine ane"); refine o_7 ?_; intro dr9 t9 aa9 bb9 u9 v9 m9 h9 tk9 F9 N9 lo9 hi9 aa0 bb0 bb1; (try dsimp only at N9); (try dsimp only); (try k_fold)) | (refine' one_int _ _ _ _ _ _ _ 16777219 _ _ _ _ _ ?qzU ?qzh0 ?qzh1 ?qzh2 ?qzh3 ?qzh4 ?qzh6 ?qzh5 ?qzh7 _ _ _ _ _ _ _ _ _ _ _ _ _ _ _ _ _ _ _ _ _ _ ?k1 ?k2 ?k3 ?k4 ?k5 ?kK ?kd ?ku ?_; walk_at "mine side"; (case qzU => walk_at "mine upd"); (case qzh6 => k_mem); (case qzh7 => walk_at "mine ints"); (case qzh0 => walk_at "mine omega"; skip); (case qzh1 => walk_at "mine omega"; skip); (case qzh2 => walk_at "mine omega"; skip); (case qzh3 => exact Nat.le_of_ble_eq_true rfl); (case qzh4 => exact Nat.le_of_ble_eq_true rfl); (case qzh5 => walk_at "mine ane"); refine o_7 ?_; intro dr9 t9 aa9 bb9 u9 v9 m9 h9 tk9 F9 N9 lo9 hi9 aa0 bb0 bb1; (try dsimp only at N9); (try dsimp only); (try k_fold)))))
  k_with "call ref" => ((k_here; (with_reducible show wpAny _ _ (call (Value.ref 366) [Value.ref _]) _ _ _); k_dflt (first | (refine' snap_none_m _ _ _ _ _ _ _ _ _ _ _ _ _ _ _ _ ?qzh0 ?qzh4 _ _ _ _ _ _ _ _ _ _ _ _ _ _ _ _ _ _ _ _ _ _ ?k1 ?k2 ?k3 ?k4 ?k5 ?kK ?kd ?ku ?_; walk_at "mine side"; (case qzh4 => walk_at "mine mem"); (case qzh0 => walk_at "mine omega"; skip); refine o_8 ?_; intro h9 tk9 F9 N9; (try dsimp only); (try k_fold)) | (refine' snap_raise_m _ _ _ _ _ _ _ _ _ _ _ _ _ _ _ _ ?qzh9 ?qzh0 _ ?qzh1 ?qzh2 ?qzh3 ?qzh4 _ _ _ _ _ _ _ _ _ _ _ _ _ _ _ _ _ _ _ _ _ _ ?k1 ?k2 ?k3 ?k4 ?k5 ?kK ?kd ?ku ?_; walk_at "mine side"; (case qzh4 => walk_at "mine mem"); (case qzh9 => kba_ints); (case qzh1 => walk_at "mine omega"; skip); (case qzh2 => walk_at "mine omega"; skip); (case qzh3 => walk_at "mine omega"; skip); (case qzh0 => walk_at "mine omega"; skip); intro e9 G9 h9 tk9 F9 R9 U9; (try dsimp only)) | (refine' snap_ok_m _ _ _ _ _ _ _ _ _ _ _ _ _ _ _ _ ?qzh9 ?qzh0 ?qzh5 _ ?qzh1 ?qzh2 ?qzh3 ?qzh4 _ _ _ _ _ _ _ _ _ _ _ _ _ _ _ _ _ _ _ _ _ _ ?k1 ?k2 ?k3 ?k4 ?k5 ?kK ?kd ?ku ?_; walk_at "mine side"; (case qzh4 => walk_at "mine mem"); (case qzh9 => kba_ints); (case qzh1 => walk_at "mine omega"; skip); (case qzh2 => walk_at "mine omega"; skip); (case qzh3 => walk_at "mine omega"; skip); (case qzh0 => walk_at "mine omega"; skip); (case qzh5 => walk_at "mine omega"; skip); refine o_9 ?_; intro dd9 ka9 t9 u9 v9 c9 h9 tk9 F9 N9 b9; (try dsimp only); (try k_fold)))))
  k_with "call ref" => ((k_here; (with_reducible show wpAny _ _ (call (Value.ref 302) [Value.bytes _ _, Value.int 12 _]) _ _ _); k_dflt (first | (refine' utags1 _ _ _ _ _ _ (by kba_ints) ?qzh0 ?qzh1 ?qzh2 ?qzh3 ?qzh4 ?qzh5 ?qzh6 _ _ _ _ _ _ _ _ _ _ _ _ _ _ _ _ _ _ _ _ _ _ _ ?k1 ?k2 ?k3 ?k4 ?k5 ?kK ?kd ?ku ?_; (case qzh0 => walk_at "mine omega"); (case qzh1 => walk_at "mine omega"); walk_at "mine side"; (case qzh2 => assumption); (case qzh3 => assumption); (case qzh4 => assumption); (case qzh5 => walk_at "mine omega"; skip); (case qzh6 => walk_at "mine omega"; skip); refine o_11 ?_; intro dd9 ff9 t9 ka9 kb9 x9 h9 tk9 F9 N9; (try dsimp only); (try k_fold)) | (refine' utags0 _ _ _ _ _ _ (by kba_ints) ?qzh0 ?qzh1 ?qzh2 ?qzh5 ?qzh6 _ _ _ _ _ _ _ _ _ _ _ _ _ _ _ _ _ _ _ _ _ _ _ ?k1 ?k2 ?k3 ?k4 ?k5 ?kK ?kd ?ku ?_; (case qzh0 => walk_at "mine omega"); (case qzh1 => walk_at "mine omega"); walk_at "mine side"; (case qzh2 => assumption); (case qzh5 => walk_at "mine omega"; skip); (case qzh6 => walk_at "mine omega"; skip); refine o_12 ?_; intro dd9 ff9 t9 ka9 kb9 h9 tk9 F9 N9; (try dsimp only); (try k_fold)))))
  k_with "call ref" => ((k_here; (with_reducible show wpAny _ _ (call (Value.ref 345) [Value.int _ _]) _ _ _); k_dflt (first | (refine' short_t _ _ _ ?qzh0 _ _ _ _ _ _ _ _ _ _ _ _ _ _ _ _ _ _ _ _ _ _ _ ?k1 ?k2 ?k3 ?k4 ?k5 ?kK ?kd ?ku ?_; walk_at "mine side"; (case qzh0 => walk_at "mine mod"); refine o_8 ?_; intro h9 tk9 F9 N9; (try dsimp only); (try k_fold)) | (refine' short_f _ _ _ ?qzh0 _ _ _ _ _ _ _ _ _ _ _ _ _ _ _ _ _ _ _ _ _ _ _ ?k1 ?k2 ?k3 ?k4 ?k5 ?kK ?kd ?ku ?_; walk_at "mine side"; (case qzh0 => walk_at "mine mod"); refine o_8 ?_; intro h9 tk9 F9 N9; (try dsimp only); (try k_fold)))))
  k_with "mine mod" => (((try rw [fd8]); omega))
  k_with "leaving ref" => ((k_here; refine' leave_mineOn ?k1 ?k2 ?k3 ?k4 ?k5 ?_; (case k3 => assumption); (case k2 => assumption); (case k1 => k_asm); (case k4 => assumption); (case k5 => k_dflt (exact rfl)); intro h' R' U'; (try dsimp only)))
  k_with "call ref" => ((k_here; (with_reducible show wpAny _ _ (call (Value.ref 177) [Value.bytes _ _, Value.int 2 _, Value.int 1 _]) _ _ _); k_dflt (first | (refine' get1at2 _ _ _ _ (by kba_ints) ?qzh0 _ _ ?qzh1 _ _ _ _ _ _ _ _ _ _ _ _ _ _ _ _ _ _ _ _ _ _ _ ?k1 ?k2 ?k3 ?k4 ?k5 ?kK ?kd ?ku ?_; (case qzh0 => walk_at "mine omega"); (case qzh1 => walk_at "mine omega"); walk_at "mine side"; refine o_2 ?_; intro t9 h9 tk9 F9 N9 lo9 hi9; (try dsimp only); (try k_fold)))))
  k_with "call ref" => ((k_here; (with_reducible show wpAny _ _ (call (Value.ref 177) [Value.bytes _ _, Value.int 0 _, Value.int 3 _]) _ _ _); k_dflt (first | (refine' get3at0 _ _ _ _ (by kba_ints) ?qzh0 _ _ ?qzh1 _ _ _ _ _ _ _ _ _ _ _ _ _ _ _ _ _ _ _ _ _ _ _ ?k1 ?k2 ?k3 ?k4 ?k5 ?kK ?kd ?ku ?_; (case qzh0 => walk_at "mine omega"); (case qzh1 => walk_at "mine omega"); walk_at "mine side"; refine o_2 ?_; intro t9 h9 tk9 F9 N9 lo9 hi9; (try dsimp only); (try k_fold)))))
  k_with "call ref" => ((k_here; (with_reducible show wpAny _ _ (call (Value.ref 198) [Value.bytes _ _, Value.int 2 _]) _ _ _); k_dflt (first | (refine' get16at2 _ _ _ _ (by kba_ints) ?qzh0 _ ?qzh1 _ _ _ _ _ _ _ _ _ _ _ _ _ _ _ _ _ _ _ _ _ _ _ ?k1 ?k2 ?k3 ?k4 ?k5 ?kK ?kd ?ku ?_; (case qzh0 => walk_at "mine omega"); (case qzh1 => walk_at "mine omega"); walk_at "mine side"; refine o_3 ?_; intro t9 h9 tk9 F9 N9 lo9 hi9 lo8 hi8; (try dsimp only); (try k_fold)))))
  k_with "call ref" => ((k_here; (with_reducible show wpAny _ _ (call (Value.ref 198) [Value.bytes _ _, Value.int 3 _]) _ _ _); k_dflt (first | (refine' get16at3 _ _ _ _ (by kba_ints) ?qzh0 _ ?qzh1 _ _ _ _ _ _ _ _ _ _ _ _ _ _ _ _ _ _ _ _ _ _ _ ?k1 ?k2 ?k3 ?k4 ?k5 ?kK ?kd ?ku ?_; (case qzh0 => walk_at "mine omega"); (case qzh1 => walk_at "mine omega"); walk_at "mine side"; refine o_3 ?_; intro t9 h9 tk9 F9 N9 lo9 hi9 lo8 hi8; (try dsimp only); (try k_fold)))))
  k_with "call ref" => ((k_here; (with_reducible show wpAny _ _ (call (Value.ref 230) [Value.int _ _, Value.int _ _, Value.bool _, Value.int _ _]) _ _ _); k_dflt (first | (refine' tag_sp _ _ _ _ _ _ _ _ _ _ _ _ _ _ _ _ _ _ _ _ _ _ _ _ _ _ _ _ _ _ _ ?k1 ?k2 ?k3 ?k4 ?k5 ?kK ?kd ?ku ?_; walk_at "mine side"; refine o_4 ?_; intro x9 d9 ka9 kb9 kc9 kd9 h9 tk9 F9 N9 l9 l8; (try unfold tagD at N9); (try k_lt l9); (try k_lt2 l8); (try dsimp only); (try k_fold)))))
  k_with "call ref" => ((k_here; (with_reducible show wpAny _ _ (call (Value.ref 264) [Value.int 5 _, Value.int 6 _, Value.ref _, Value.none, Value.bytes _ _]) _ _ _); k_dflt (first | (refine' frm_sp _ _ _ _ _ _ _ _ _ ?qzh0 _ _ _ _ _ _ _ _ _ _ _ _ _ _ _ _ _ _ _ _ _ _ ?k1 ?k2 ?k3 ?k4 ?k5 ?kK ?kd ?ku ?_; walk_at "mine side"; (case qzh0 => first | assumption | k_mem); refine o_10 ?_; intro x9 d9 ka9 kb9 kc9 kd9 ke9 h9 tk9 F9 N9 l9 l8; (try simp only [FrmAt, List.cons_append, List.nil_append] at N9); (try unfold frmD at N9); (try k_lt l9); (try k_lt2 l8); (try dsimp only); (try k_fold)))))
  k_with "call ref" => ((k_here; (with_reducible show wpAny _ _ (call (Value.ref 165) [Value.bytes _ _]) _ _ _); k_dflt (first | (refine' sum_sp _ _ _ _ (by kba_ints) _ _ _ _ _ _ _ _ _ _ _ _ _ _ _ _ _ _ _ _ _ _ _ ?k1 ?k2 ?k3 ?k4 ?k5 ?kK ?kd ?ku ?_; walk_at "mine side"; refine o_1 ?_; intro c9 t9 h9 tk9 F9 N9 b9; (have sl9 := sumF_at b9); (try dsimp only); (try k_fold)))))
  k_with "call ref" => ((k_here; (with_reducible show wpAny _ _ (call (Value.ref 275) [Value.ref _]) _ _ _); k_dflt (first | (refine' ptag_m _ _ _ _ _ _ _ _ _ _ _ ?qzh4 _ _ _ _ _ _ _ _ _ _ _ _ _ _ _ _ _ _ _ _ _ _ ?k1 ?k2 ?k3 ?k4 ?k5 ?kK ?kd ?ku ?_; walk_at "mine side"; (case qzh4 => walk_at "mine mem"); refine o_5 ?_; intro c9 t9 h9 tk9 F9 N9 b9; (try dsimp only); (try k_fold)))))
  k_with "call ref" => ((k_here; (with_reducible show wpAny _ _ (call (Value.ref 282) [Value.ref _]) _ _ _); k_dflt (first | (refine' pkind_sp _ _ _ _ _ _ _ _ _ _ _ _ _ _ ?qzh9 ?qzh0 _ ?qzh4 _ _ _ _ _ _ _ _ _ _ _ _ _ _ _ _ _ _ _ _ _ _ ?k1 ?k2 ?k3 ?k4 ?k5 ?kK ?kd ?ku ?_; walk_at "mine side"; (case qzh4 => walk_at "mine mem"); (case qzh9 => kba_ints); (case qzh0 => walk_at "mine omega"); refine o_5 ?_; intro c9 t9 h9 tk9 F9 N9 b9; (try dsimp only); (try k_fold)))))
  k_with "call ref" => ((k_here; (with_reducible show wpAny _ _ (call (Value.ref 295) [Value.bytes _ _, Value.int 12 _]) _ _ _); k_dflt (first | (refine' utag _ _ _ _ _ (by kba_ints) ?qzh0 ?qzh1 ?qzh2 ?qzh3 _ _ _ _ _ _ _ _ _ _ _ _ _ _ _ _ _ _ _ _ _ _ _ ?k1 ?k2 ?k3 ?k4 ?k5 ?kK ?kd ?ku ?_; (case qzh0 => walk_at "mine omega"); (case qzh1 => walk_at "mine omega"); walk_at "mine side"; (case qzh2 => assumption); (case qzh3 => assumption); refine o_13 ?_; intro x9 d9 ka9 kb9 kc9 kd9 va9 vb9 vc9 vd9 h9 tk9 F9 N9 l9 l8; (try unfold tagD at N9); (try k_lt l9); (try k_lt2 l8); (try dsimp only); (try k_fold)))))
  k_with "call ref" => ((k_here; (with_reducible show wpAny _ _ (call (Value.ref 264) [Value.int _ _, Value.int _ _, Value.ref _, Value.none, Value.bytes _ _]) _ _ _); k_dflt (first | (refine' frm_g _ _ _ _ _ _ _ _ _ _ _ ?qzh0 _ _ _ _ _ _ _ _ _ _ _ _ _ _ _ _ _ _ _ _ _ _ ?k1 ?k2 ?k3 ?k4 ?k5 ?kK ?kd ?ku ?_; walk_at "mine side"; (case qzh0 => first | assumption | k_mem); refine o_10 ?_; intro x9 d9 ka9 kb9 kc9 kd9 ke9 h9 tk9 F9 N9 l9 l8; (try unfold frmD at N9); (try k_lt l9); (try k_lt2 l8); (try dsimp only); (try k_fold)))))
  k_with "call ref" => ((k_here; (with_reducible show wpAny _ _ (call (Value.ref 387) [Value.ref _, Value.int _ _]) _ _ _); k_dflt (first | (refine' take_sp _ _ _ _ _ _ _ _ _ _ ?qzh0 ?qzh1 ?qzh2 ?qzh3 ?qzh4 ?qzh5 _ _ _ _ _ _ _ _ _ _ _ _ _ _ _ _ _ _ _ _ _ _ ?k1 ?k2 ?k3 ?k4 ?k5 ?kK ?kd ?ku ?_; walk_at "mine side"; (case qzh0 => walk_at "mine omega"; skip); (case qzh1 => walk_at "mine omega"; skip); (case qzh2 => walk_at "mine omega"; skip); (case qzh3 => walk_at "mine omega"; skip); (case qzh4 => walk_at "mine omega"; skip); (case qzh5 => walk_at "mine ne"); refine o_6 ?_; intro dr9 t9 aa9 bb9 u9 v9 m9 h9 tk9 F9 N9 lo9 hi9 aa0 bb0 bb1; (try dsimp only); (try k_fold)))))
  k_with "call ref" => ((k_here; (with_reducible show wpAny _ _ (call (Value.ref 387) [Value.ref _, Value.int _ _]) _ _ _); k_dflt (first | (refine' take_u _ _ _ _ _ _ _ _ _ _ _ ?qzU ?qzh0 ?qzh1 ?qzh2 ?qzh3 ?qzh4 _ _ _ _ _ _ _ _ _ _ _ _ _ _ _ _ _ _ _ _ _ _ ?k1 ?k2 ?k3 ?k4 ?k5 ?kK ?kd ?ku ?_; walk_at "mine side"; (case qzU => walk_at "mine upd"); (case qzh0 => walk_at "mine omega"; skip); (case qzh1 => walk_at "mine omega"; skip); (case qzh2 => walk_at "mine omega"; skip); (case qzh3 => walk_at "mine omega"; skip); (case qzh4 => walk_at "mine omega"; skip); refine o_6 ?_; intro dr9 t9 aa9 bb9 u9 v9 m9 h9 tk9 F9 N9 lo9 hi9 aa0 bb0 bb1; (try dsimp only at N9); (try dsimp only); (try k_fold)))))
  trivial
theorem top_off_T1 : True := by
  w_top off
  trivial
section
variable {prog : Program} {w : World} {A₀ A : Around} {s : Shared} {base h₀ : Heap} {outer : List Env} {L : Addr} {m : Str → Option Value} {env : Env} {news : List (Addr × Obj)} {K : Frag} {p : Program} {loose : List Str} {mean : ExcName → Option Value} {mg mb : Str → Option Value}
  {R : Result → Shared → Prop}
def LeaveT (fs : List Addr) (A₀ : Around) (base : Heap) (outer : List Env) (K : Frag) (p : Program) (loose : List Str) (mean : ExcName → Option Value) (mg mb : Str → Option Value) (h₀ : Heap) (L : Addr) (m : Str → Option Value) (g : Heap) (R : Result → Shared → Prop) (v : Value) (s' : Shared) : Prop :=
  ∃ g' L' m' news', KtsTurn fs g g' ∧ Fr g' L' s'.heap m' ∧ News g' L' s'.heap news' ∧ ∀ h₁, KtsTurn (outer.filterMap (·.frame)) h₀ h₁ → Below A₀ base outer h₁ → Fr h₁ L s'.heap m → K.In h₁ → News h₁ L s'.heap news' → Top p loose mean mg mb h₁ →
    KtsDicts (outer.filterMap (·.frame)) h₁ → R (.ok (.ret v)) s'
theorem LeaveT.intro {fs : List Addr} {g g' : Heap} {L' : Addr} {m' : Str → Option Value} {news' : List (Addr × Obj)} {v : Value} {s' : Shared} (F' : Fr g' L' s'.heap m') (N' : News g' L' s'.heap news') (T : KtsTurn fs g g')
    (k : ∀ h₁, KtsTurn (outer.filterMap (·.frame)) h₀ h₁ → Below A₀ base outer h₁ → Fr h₁ L s'.heap m → K.In h₁ → News h₁ L s'.heap news' → Top p loose mean mg mb h₁ → KtsDicts (outer.filterMap (·.frame)) h₁ → R (.ok (.ret v)) s') :
    LeaveT fs A₀ base outer K p loose mean mg mb h₀ L m g R v s' := ⟨g', L', m', news', T, F', N', k⟩
theorem groundT (B : Below A₀ base outer h₀) (F : Fr h₀ L s.heap m) (N : News h₀ L s.heap news) (XB : K.In base) (TB : Top p loose mean mg mb base) (D : KtsDicts (outer.filterMap (·.frame)) h₀)
    (hA : A.frames = some (env :: outer)) (hf : env.frame = some L) (hke : env.scope.kind = .function) :
    Fr h₀ L (hideAll s.heap (news.map (·.1))) m ∧ Below A base (env :: outer) (hideAll s.heap (news.map (·.1))) ∧ h₀.StaysIn (hideAll s.heap (news.map (·.1))) ∧ KtsDicts ((env :: outer).filterMap (·.frame)) (hideAll s.heap (news.map (·.1))) ∧
      ∀ v s', LeaveT ((env :: outer).filterMap (·.frame)) A₀ base outer K p loose mean mg mb h₀ L m (hideAll s.heap (news.map (·.1))) R v s' → R (.ok (.ret v)) s' := by
  obtain ⟨FG, BG, st, _⟩ := groundX (R := R) B F N hA hf hke
  refine ⟨FG, BG, st, fun b hb => ?_, fun v s' hl => ?_⟩
  · rcases frames_mem hf hb with rfl | hb
    · obtain ⟨oL, es, ep, hL, hd, _⟩ := FG.ns
      exact ⟨oL, es, ep, hL, hd⟩
    · obtain ⟨o, es', n', ho', hd'⟩ := D b hb
      exact ⟨o, es', n', st b o ho', hd'⟩
  · obtain ⟨oL, es, ep, hLg, hLd, hLk, hLf⟩ := FG.ns
    have nL₀ : h₀.get? L = none := kts_self F
    obtain ⟨g', L', m', news', T', F', N', k⟩ := hl
    obtain ⟨sl, hs⟩ := T'.up hLg
    obtain ⟨T₁, S₁⟩ := kts_turn_at (h := s'.heap) (fs := outer.filterMap (·.frame)) (g := h₀)
      (fun b hb => by
        obtain ⟨_, o, ho', _⟩ := B.frames.mem hb
        exact ⟨o, ho'⟩)
      (fun b o e nmem => F'.keep b o (T'.other b o (st b o e) (fun q => by
        rcases frames_mem hf q with z | z
        · rw [z, nL₀] at e; cases e
        · exact nmem z)))
      (fun b o e hm => by
        obtain ⟨sl', hs'⟩ := T'.up (st b o e)
        exact ⟨sl', F'.keep _ _ hs'⟩)
    have B₃ : Below A₀ base outer (ktsHeap s'.heap (outer.filterMap (·.frame)) h₀) := ⟨B.stack, fun b o e => T₁.other b o (B.stays b o e) (fun hm => by
      rw [(B.frames.mem hm).1] at e; cases e), B.frames.of_keeps fun b o e _ => by
      obtain ⟨sl', hs'⟩ := T₁.up e
      exact ⟨_, hs', rfl⟩⟩
    refine k _ T₁ B₃ ⟨⟨_, es, ep, F'.keep _ _ hs, hLd, hLk, hLf⟩, S₁, by rw [T₁.size]; exact F.above⟩ (XB.keeps B₃.stays) (fun q hq => ⟨(N' q hq).1, fun z => ?_, ?_⟩) (TB.keeps B₃.stays) (D.turn T₁)
    · have := (N' q hq).2.2; rw [z, hs] at this; cases this
    · refine T₁.none_ _ ?_
      cases z : h₀.get? q.1 with
      | none => rfl
      | some o =>
        obtain ⟨sl', hs'⟩ := T'.up (st _ _ z)
        have := (N' q hq).2.2
        rw [hs'] at this; cases this
end
section
variable {prog : Program} {w : World} {A₀ A : Around} {s : Shared} {base h₀ : Heap} {outer : List Env} {L : Addr} {m : Str → Option Value} {env : Env} {news : List (Addr × Obj)} {K : Frag} {p : Program} {loose : List Str} {mean : ExcName → Option Value} {mg mb : Str → Option Value}
  {R : Result → Shared → Prop} {name qual : Str} {params : Arguments} {body : List Stmt} {scope : Scope} {dV kV doc pm cdv ct oc : Value} {an od : Option Addr} {osl : Array (Option Value)} {f : Addr} {args : Args} {binds : List (Str × Value)}
theorem code_defT (B : Below A₀ base outer h₀) (F : Fr h₀ L s.heap m) (X₀ : K.In h₀) (N : News h₀ L s.heap news) (T : Top p loose mean mg mb h₀) (XB : K.In base) (TB : Top p loose mean mg mb base) (D : KtsDicts (outer.filterMap (·.frame)) h₀)
    (hA : A.frames = some (env :: outer)) (hf : env.frame = some L) (hke : env.scope.kind = .function)
    (ho : K.lookup f = some ⟨oc, od, .func (fnOf name qual params body scope dV kV doc pm an cdv ct), osl⟩) (hcd : codeIn K cdv qual = true) (hroom : A.depth < recursionLimit)
    (hbind : BindsTo s (fnOf name qual params body scope dV kV doc pm an cdv ct) args binds) (hloc : ∀ y ∈ binds, scope.names.lookup y.1 = some .local)
    (h : ∀ g L' h₁, Fr h₀ L g m → Fr g L' h₁ (fun y => binds.reverse.lookup y) → News g L' h₁ news → Below A base (env :: outer) g → K.In g → Top p loose mean mg mb g → KtsDicts ((env :: outer).filterMap (·.frame)) g →
      wpAny (model prog w) (A.deeper (envOf qual scope L' f cdv)) (execs body (envOf qual scope L' f cdv))
        (fun fl s' => LeaveT ((env :: outer).filterMap (·.frame)) A₀ base outer K p loose mean mg mb h₀ L m g R (match fl with | .ret v => v | _ => .none) s')
        (fun e s' => wpAny (model prog w) (A.deeper (envOf qual scope L' f cdv)) (leaving (envOf qual scope L' f cdv) e) (fun _ s'' => R (.error e) s'') (fun e' s'' => R (.error e') s'') s')
        { s with heap := h₁, toks := s.toks + binds.length })
    (hco : scope.isCoroutine = false) (hgen : scope.isGenerator = false) (hk : scope.kind = .function)
    (hcell : ∀ x ∈ scope.names, x.2 ≠ .cell) : codeAny (model prog w) A (.call (.ref f) args) R s := by
  have X := X₀.keeps F.keep
  obtain ⟨FG, BG, st, DG, lv⟩ := groundT (R := R) B F N XB TB D hA hf hke
  refine codeAny_call_def (fd := fnOf name qual params body scope dV kV doc pm an cdv ct) (body := body) (binds := binds) hroom (X _ _ ho) rfl (T.nolimit.keeps F.keep) (codeRec_of X hcd) rfl hbind hcell hloc (fun h₁ hns hk₁ => ?_) hco hgen hk
  exact wpAny_mono (h _ s.heap.objs.size h₁ FG ⟨hns, fun b o e => hk₁ b o (of_hideAll _ e), Nat.le_of_eq (hideAll_size _ _)⟩
    (fun q hq => ⟨hk₁ _ _ (N q hq).1, Nat.ne_of_lt (Heap.lt_size (N q hq).1), hideAll_none _ (List.mem_map_of_mem hq)⟩) BG (X₀.keeps st) (T.keeps st) DG) (fun fl s' hl => lv _ _ hl) fun _ _ y => y
theorem code_defCT (B : Below A₀ base outer h₀) (F : Fr h₀ L s.heap m) (X₀ : K.In h₀) (N : News h₀ L s.heap news) (T : Top p loose mean mg mb h₀) (XB : K.In base) (TB : Top p loose mean mg mb base) (D : KtsDicts (outer.filterMap (·.frame)) h₀)
    (hA : A.frames = some (env :: outer)) (hf : env.frame = some L) (hke : env.scope.kind = .function)
    (ho : K.lookup f = some ⟨oc, od, .func (fnOf name qual params body scope dV kV doc pm an cdv ct), osl⟩) (hcd : codeIn K cdv qual = true) (hroom : A.depth < recursionLimit)
    (hbind : BindsTo s (fnOf name qual params body scope dV kV doc pm an cdv ct) args binds) (hkind : (binds.all fun y => scope.names.lookup y.1 == some .local || scope.names.lookup y.1 == some .cell) = true)
    (hnd : ((cellsFrom 0 scope.names []).map (·.1)).Nodup)
    (h : ∀ g L' h₁ tk cells, Fr h₀ L g m → Fr g L' h₁ (bindL (envOfC qual scope L' f cdv).kindOf binds fun _ => none) → News g L' h₁ (cells ++ news) →
      CellsAre (bindC (envOfC qual scope L' f cdv).kindOf binds fun _ => none) (cellsFrom (L' + 1) scope.names []) cells → Below A base (env :: outer) g → K.In g → Top p loose mean mg mb g → (∀ p ∈ news, p.1 < L') → KtsDicts ((env :: outer).filterMap (·.frame)) g →
      wpAny (model prog w) (A.deeper (envOfC qual scope L' f cdv)) (execs body (envOfC qual scope L' f cdv))
        (fun fl s' => LeaveT ((env :: outer).filterMap (·.frame)) A₀ base outer K p loose mean mg mb h₀ L m g R (match fl with | .ret v => v | _ => .none) s')
        (fun e s' => wpAny (model prog w) (A.deeper (envOfC qual scope L' f cdv)) (leaving (envOfC qual scope L' f cdv) e) (fun _ s'' => R (.error e) s'') (fun e' s'' => R (.error e') s'') s')
        { s with heap := h₁, toks := tk })
    (hco : scope.isCoroutine = false) (hgen : scope.isGenerator = false) (hk : scope.kind = .function) : codeAny (model prog w) A (.call (.ref f) args) R s := by
  have X := X₀.keeps F.keep
  obtain ⟨FG, BG, st, DG, lv⟩ := groundT (R := R) B F N XB TB D hA hf hke
  refine codeAny_call_function hroom (X _ _ ho) rfl hco hgen rfl (codeRec_of X hcd) (hbind _ _ _ _ ?_)
  refine wpAny_newFunctionEnv_cells hk (kindsX hkind _) fun env' he s' x => ?_
  subst he
  refine ⟨(T.nolimit.keeps F.keep).keeps x.toInCall.keep, codeAny_func ?_⟩
  obtain ⟨h₁, tk, rfl, _⟩ := x.done
  have hk₁ := x.toInCall.keep
  obtain ⟨cells, NC, Y⟩ := Cl.news (h₀ := s.heap) (Nat.le_refl _) fun n c hm => ⟨x.cell n c (lookup_of_mem_nodup (cellsFrom_names scope.names 0 (s.heap.objs.size + 1) [] [] rfl ▸ hnd) hm), x.above n c hm⟩
  refine wpAny_mono (h _ s.heap.objs.size h₁ tk cells FG ⟨x.toInCall.ns, fun b o e => hk₁ b o (of_hideAll _ e), Nat.le_of_eq (hideAll_size _ _)⟩ (fun q hq => ?_) Y BG (X₀.keeps st) (T.keeps st) (fun q hq => Heap.lt_size (N q hq).1) DG) (fun fl s' hl => lv _ _ hl) fun _ _ y => y
  rcases List.mem_append.mp hq with hq | hq
  · refine ⟨(NC q hq).1, (NC q hq).2.1, ?_⟩
    cases z : (hideAll s.heap (news.map (·.1))).get? q.1 with
    | none => rfl
    | some o => have := of_hideAll _ z; rw [(NC q hq).2.2] at this; cases this
  · exact ⟨hk₁ _ _ (N q hq).1, Nat.ne_of_lt (Heap.lt_size (N q hq).1), hideAll_none _ (List.mem_map_of_mem hq)⟩
end
def SpecT (lv : Nat) (w : World) (f : Addr) (vs : List Value) (news : List (Addr × Obj)) (R : Value → List (Addr × Obj) → Prop) : Prop :=
  ∀ (p : Program) (loose : List Str) (mean : ExcName → Option Value) (mg mb : Str → Option Value) (dp un : Nat) (gd : Option (List Code)) (cn : Str) (cs : Scope) (a : Addr) (ccd : Value) (cl : List (Str × Addr)) (outer : List Env) (A₀ : Around) (base h₀ : Heap) (L : Addr) (m : Str → Option Value) (s : Shared) (Q E : Value → Shared → Prop),
  Below A₀ base outer h₀ → Fr h₀ L s.heap m → (Mine.kept.heap_1 w.params).In h₀ → News h₀ L s.heap news →
  Top p loose mean mg mb h₀ → cs.kind = .function →
  dp + lv < recursionLimit → un + 20 * lv < cLine →
  (Mine.kept.heap_1 w.params).In base → Top p loose mean mg mb base → KtsDicts (outer.filterMap (·.frame)) h₀ →
  (∀ (v : Value) (nx : List (Addr × Obj)) (h' : Heap) (tk' : Nat) (h₁ : Heap), KtsTurn (outer.filterMap (·.frame)) h₀ h₁ → Below A₀ base outer h₁ → Fr h₁ L h' m → (Mine.kept.heap_1 w.params).In h₁ → News h₁ L h' nx → Top p loose mean mg mb h₁ → KtsDicts (outer.filterMap (·.frame)) h₁ → R v nx → Q v { s with heap := h', toks := tk' }) →
  wpAny (model PySem.Challenge.rw_pf0387_01.row.prog w) (ktrTop dp un gd cn cs L a ccd cl outer) (call (.ref f) vs) Q E s
theorem top_off_T2 : True := by
  w_top off
  trivial
section
variable {M : Model} {A : Around} {E : Value → Shared → Prop}
variable {nm q nm' q' : Str} {C N D N' : Addr} {bs bm bs' bm' : List Value} {hdct hdct' : Bool} {sn sn' : List Str} {sub sub' : List Value} {ab ab' : Bool} {col col' : Option Bool} {dd dd' : Option Addr} {k0 k1 k2 k3 k5 l0 l1 l2 l3 l5 : Option Value} {newId newId' : String}
theorem excMatches_other {h : Heap} {g : Array GenState} {d : Drawn} {t : Nat} {os : OsState} {e : Addr} {oe : Obj} {Q : Bool → Shared → Prop}
    (hC : h.get? C = some (excClassObj nm q C N bs bm hdct sn sub ab col dd k0 k1 k2 k3 k5 newId)) (hD : h.get? D = some (excClassObj nm' q' D N' bs' bm' hdct' sn' sub' ab' col' dd' l0 l1 l2 l3 l5 newId')) (he : h.get? e = some oe) (hcls : oe.cls = .ref C) (hbase : (Value.ref D :: bm').contains (.type "BaseException") = true)
    (hcD : (Value.ref C :: bm).contains (.ref D) = false) (hq : Q false ⟨h, g, d, t, os⟩) : wpAny M A (excMatches (.ref e) (.ref D)) Q E ⟨h, g, d, t, os⟩ := by
  have f := tc_notTuple
  unfold excMatches
  repeat (first | (with_reducible refine wpAny_loadPart_at he ?_; rw [hcls]) | with_reducible refine wpAny_loadPart_at hD ?_ | (with_reducible refine wpAny_isSubtype_exc hD ?_; rw [hbase]) | (with_reducible refine wpAny_isSubtype_exc hC ?_; rw [hcD]) | wp_step)
  exact hq
end
section
variable {prog : Program} {w : World} {A₀ : Around} {E : Value → Shared → Prop} {s' : Shared} {base g G : Heap} {outer : List Env} {L a e : Addr} {m : Str → Option Value} {name : Str} {scope : Scope} {cd : Value}
  {b₀ b₁ : Stmt} {suite suite₁ : List Stmt} {pos np pos₁ np₁ : Pos} {rest : List ExceptHandler} {Q : Flow → Shared → Prop} {news : List (Addr × Obj)}
  {p : Program} {loose : List Str} {mean : ExcName → Option Value} {mg mb : Str → Option Value} {P : Params}
theorem name44 (P : Params) : nsIn (Mine.kept.heap_1 P) mainGlobals "FormError" = some (some (.ref 44)) := by kernel_rfl
theorem name56 (P : Params) : nsIn (Mine.kept.heap_1 P) mainGlobals "SizeError" = some (some (.ref 56)) := by kernel_rfl
theorem caught44 (R : RaisedSN base G (envOf name scope L a cd :: outer) e (.ref 44) news s'.heap) (F : Fr g L G m) (K : Below A₀ base outer g) (hsm : G.UpToSlots s'.heap) (XB : (Mine.kept.heap_1 P).In base) (TB : Top p loose mean mg mb base)
    (D : KtsDicts (outer.filterMap (·.frame)) g)
    (k : ∀ h' g', KtsTurn (outer.filterMap (·.frame)) g g' → Fr g' L h' m → News g' L h' news → Below A₀ base outer g' → (Mine.kept.heap_1 P).In g' → Top p loose mean mg mb g' → KtsDicts (outer.filterMap (·.frame)) g' →
      wpAny (model prog w) ((A₀.deeper (envOf name scope L a cd)).mark (some (.ref e))) (execs (b₀ :: suite) (envOf name scope L a cd)) Q E { s' with heap := h' })
    (hk : scope.kind = .function := by rfl) (hx : (envOf name scope L a cd).kindOf "FormError" = some .globalImplicit := by rfl)
    (hE : PassesOwnAt (model prog w) ((A₀.deeper (envOf name scope L a cd)).mark (some (.ref e))) (A₀.deeper (envOf name scope L a cd)) (envOf name scope L a cd) E := by passes_own) :
    wpAny (model prog w) (A₀.deeper (envOf name scope L a cd)) (noteFrame (.ref e) (envOf name scope L a cd))
      (fun _ s₂ => wpAny (model prog w) (A₀.deeper (envOf name scope L a cd)) (setFlight (.ref e) none) (fun _ s₃ =>
        wpAny (model prog w) (A₀.deeper (envOf name scope L a cd)) (handleBy (.ref e) (envOf name scope L a cd) (.ExceptHandler (some (.Name "FormError" np)) none (b₀ :: suite) pos :: rest)) Q E s₃) E s₂) E s' := by
  obtain ⟨B, a0, hB, hBG, hl, hfl⟩ := R
  have hL : B.get? L = none := by
    obtain ⟨_, ⟨L', _, hf, hn', _⟩, _⟩ := hfl.2.2.1
    obtain rfl : L = L' := Option.some.inj hf
    exact hn'
  refine wpAny_looks_onW (Around.frames_deeper K.stack) rfl hfl fun h₄ hheld₄ hsm₄ => ?_
  refine wpAny_landsW hheld₄ fun h₅ hheld hsm₅' => ?_
  have hsm₅ := hsm₄.trans hsm₅'
  obtain ⟨g₅, T₅, F₅, K₅⟩ := kts_ground K F hBG hheld.1 (hsm.trans hsm₅)
  have X₅ : (Mine.kept.heap_1 P).In g₅ := XB.keeps K₅.stays
  have P₅ : TopRead p loose mg mb g₅ := topRead_of (TB.keeps K₅.stays)
  obtain ⟨ob, hob, hobc⟩ := hheld.there
  obtain ⟨nm, qn, N, bs, sn, sub, ab, col, dd, k0, k1, k2, k3, k5, hl44⟩ := exc_of (ok44 P)
  refine wpAny_handleBy_cons (codeAny_handlers_test (name_K F₅ X₅ P₅ (name44 P) ?_ hk hx (by decide))) (by intro q; cases q)
  refine wpAny_excMatches_sub_self (F₅.keep _ _ (X₅ _ _ hl44)) hob hobc (by decide) (codeAny_handlers_suite ?_)
  refine lands_againW hheld fun h₆ hfl₆ hsm₆ => ?_
  obtain ⟨g₆, T₆, F₆, K₆⟩ := kts_ground K F hBG hfl₆.1 ((hsm.trans hsm₅).trans hsm₆)
  have Nl : News g₆ L h₆ news := fun q hq => ⟨hfl₆.1 _ _ (hl q hq).1, (fun z => by have := (hl q hq).1; rw [z, hL] at this; cases this), T₆.none_ _ (kts_none F.keep (hl q hq).2.1)⟩
  exact wpAny_passesOwnAt hE (k h₆ g₆ T₆ F₆ Nl K₆ (XB.keeps K₆.stays) (TB.keeps K₆.stays) (D.turn T₆))
theorem caught56 (R : RaisedSN base G (envOf name scope L a cd :: outer) e (.ref 56) news s'.heap) (F : Fr g L G m) (K : Below A₀ base outer g) (hsm : G.UpToSlots s'.heap) (XB : (Mine.kept.heap_1 P).In base) (TB : Top p loose mean mg mb base)
    (D : KtsDicts (outer.filterMap (·.frame)) g)
    (k : ∀ h' g', KtsTurn (outer.filterMap (·.frame)) g g' → Fr g' L h' m → News g' L h' news → Below A₀ base outer g' → (Mine.kept.heap_1 P).In g' → Top p loose mean mg mb g' → KtsDicts (outer.filterMap (·.frame)) g' →
      wpAny (model prog w) ((A₀.deeper (envOf name scope L a cd)).mark (some (.ref e))) (execs (b₁ :: suite₁) (envOf name scope L a cd)) Q E { s' with heap := h' })
    (hk : scope.kind = .function := by rfl) (hx : (envOf name scope L a cd).kindOf "FormError" = some .globalImplicit := by rfl) (hx₁ : (envOf name scope L a cd).kindOf "SizeError" = some .globalImplicit := by rfl)
    (hE : PassesOwnAt (model prog w) ((A₀.deeper (envOf name scope L a cd)).mark (some (.ref e))) (A₀.deeper (envOf name scope L a cd)) (envOf name scope L a cd) E := by passes_own) :
    wpAny (model prog w) (A₀.deeper (envOf name scope L a cd)) (noteFrame (.ref e) (envOf name scope L a cd))
      (fun _ s₂ => wpAny (model prog w) (A₀.deeper (envOf name scope L a cd)) (setFlight (.ref e) none) (fun _ s₃ =>
        wpAny (model prog w) (A₀.deeper (envOf name scope L a cd)) (handleBy (.ref e) (envOf name scope L a cd) (.ExceptHandler (some (.Name "FormError" np)) none (b₀ :: suite) pos :: .ExceptHandler (some (.Name "SizeError" np₁)) none (b₁ :: suite₁) pos₁ :: rest)) Q E s₃) E s₂) E s' := by
  obtain ⟨B, a0, hB, hBG, hl, hfl⟩ := R
  have hL : B.get? L = none := by
    obtain ⟨_, ⟨L', _, hf, hn', _⟩, _⟩ := hfl.2.2.1
    obtain rfl : L = L' := Option.some.inj hf
    exact hn'
  refine wpAny_looks_onW (Around.frames_deeper K.stack) rfl hfl fun h₄ hheld₄ hsm₄ => ?_
  refine wpAny_landsW hheld₄ fun h₅ hheld hsm₅' => ?_
  have hsm₅ := hsm₄.trans hsm₅'
  obtain ⟨g₅, T₅, F₅, K₅⟩ := kts_ground K F hBG hheld.1 (hsm.trans hsm₅)
  have X₅ : (Mine.kept.heap_1 P).In g₅ := XB.keeps K₅.stays
  have P₅ : TopRead p loose mg mb g₅ := topRead_of (TB.keeps K₅.stays)
  obtain ⟨ob, hob, hobc⟩ := hheld.there
  obtain ⟨nm, qn, N, bs, sn, sub, ab, col, dd, k0, k1, k2, k3, k5, hl44⟩ := exc_of (ok44 P)
  obtain ⟨nm', qn', N', bs', sn', sub', ab', col', dd', l0, l1, l2, l3, l5, hl56⟩ := exc_of (ok56 P)
  refine wpAny_handleBy_cons (codeAny_handlers_test (name_K F₅ X₅ P₅ (name44 P) ?_ hk hx (by decide))) (by intro q; cases q)
  refine excMatches_other (F₅.keep _ _ (X₅ _ _ hl56)) (F₅.keep _ _ (X₅ _ _ hl44)) hob hobc (by decide) (by decide) ?_
  show wpAny _ _ (handleBy _ _ _) _ _ _
  refine wpAny_handleBy_cons (codeAny_handlers_test (name_K F₅ X₅ P₅ (name56 P) ?_ hk hx₁ (by decide))) (by intro q; cases q)
  refine wpAny_excMatches_sub_self (F₅.keep _ _ (X₅ _ _ hl56)) hob hobc (by decide) (codeAny_handlers_suite ?_)
  refine lands_againW hheld fun h₆ hfl₆ hsm₆ => ?_
  obtain ⟨g₆, T₆, F₆, K₆⟩ := kts_ground K F hBG hfl₆.1 ((hsm.trans hsm₅).trans hsm₆)
  have Nl : News g₆ L h₆ news := fun q hq => ⟨hfl₆.1 _ _ (hl q hq).1, (fun z => by have := (hl q hq).1; rw [z, hL] at this; cases this), T₆.none_ _ (kts_none F.keep (hl q hq).2.1)⟩
  exact wpAny_passesOwnAt hE (k h₆ g₆ T₆ F₆ Nl K₆ (XB.keeps K₆.stays) (TB.keeps K₆.stays) (D.turn T₆))
end
theorem top_off_T3 : True := by
  w_top off
  trivial
section
theorem kw_28 : True := by
  k_with "mine enterT" => ((refine wpAny_call ?_; k_dflt (first
  | (refine' code_defT ?k1 ?k2 ?k3 ?k4 ?k5 ?qzXB ?qzTB ?qzD ?qzkA ?qzkF ?kK ?qzk6 ?qzk7 ?qzk8 ?qzk9 ?qzkB ?_ ?qzc2 ?qzc3 ?qzc4 ?qzc5; (case qzkA => exact rfl); (case qzkF => exact rfl); (case kK => assumption); (case k1 => k_asm); (case k2 => k_asm); (case k3 => k_asm); (case k4 => k_asm); (case k5 => k_asm); (case qzXB => assumption); (case qzTB => assumption); (case qzD => assumption); (case qzk6 => k_is); (case qzk7 => k_is); (case qzk8 => ktr_room); (case qzk9 => first | exact BindsTo.of_eq rfl | exact binds_K (by k_in) rfl (by k_is) rfl rfl rfl); (case qzc5 => decide); (case qzkB => exact locs rfl); (case qzc2 => exact rfl); (case qzc3 => exact rfl); (case qzc4 => exact rfl); k_whole; intro g' L' h' FG' F' N' B' X' T' D'; (try dsimp only); (try k_lift B'); (try k_fold))
  | (refine' code_defCT ?k1 ?k2 ?k3 ?k4 ?k5 ?qzXB ?qzTB ?qzD ?qzkA ?qzkF ?kK ?qzk6 ?qzk7 ?qzk8 ?qzk9 ?qzkB ?qzkD ?_ ?qzc2 ?qzc3 ?qzc4; (case qzkA => exact rfl); (case qzkF => exact rfl); (case kK => assumption); (case k1 => k_asm); (case k2 => k_asm); (case k3 => k_asm); (case k4 => k_asm); (case k5 => k_asm); (case qzXB => assumption); (case qzTB => assumption); (case qzD => assumption); (case qzk6 => k_is); (case qzk7 => k_is); (case qzk8 => ktr_room); (case qzk9 => first | exact BindsTo.of_eq rfl | exact binds_K (by k_in) rfl (by k_is) rfl rfl rfl); (case qzkB => exact rfl); (case qzkD => decide +kernel); (case qzc2 => exact rfl); (case qzc3 => exact rfl); (case qzc4 => exact rfl); k_whole; intro g' L' h' tk' cells' FG' F' N' Y' B' X' T' l1 D'; (try k_lt l1); k_cells Y'; (try simp only [List.cons_append, List.nil_append] at N'); (try dsimp only); (try k_lift B'); (try k_fold)))))
  k_with "LeaveT" => ((k_dflt (refine' LeaveT.intro ?k1 ?k2 ?k3 ?_; (case k1 => k_asm); (case k2 => k_asm); (case k3 => first | assumption | exact KtsTurn.refl | exact KtsTurn.trans (by assumption) (by assumption) | exact KtsTurn.trans (by assumption) (KtsTurn.trans (by assumption) (by assumption)))); intro h9 T9 B9 F9 X9 N9 P9 D9; (try dsimp only)))
  k_with "noteFrame ref" => ((k_here; k_dflt (first
  | (refine' caught44 ?k1 ?k2 ?k3 ?k4 ?k5 ?qzk6 ?qzk7 ?_; (case k1 => assumption); (case k2 => assumption); (case k3 => assumption); (case k4 => assumption); (case k5 => assumption); (case qzk6 => assumption); (case qzk7 => assumption); intro h' g' T' F' N' B' X' P' D')
  | (refine' caught56 ?k1 ?k2 ?k3 ?k4 ?k5 ?qzk6 ?qzk7 ?_; (case k1 => assumption); (case k2 => assumption); (case k3 => assumption); (case k4 => assumption); (case k5 => assumption); (case qzk6 => assumption); (case qzk7 => assumption); intro h' g' T' F' N' B' X' P' D'))))
  k_with "call ref" => ((k_here; (with_reducible show wpAny _ _ (call (Value.ref _) []) _ _ _); first
  | ((rename Spec _ _ _ _ _ _ => hSp); k_dflt (refine' hSp _ _ _ _ _ _ _ _ _ _ _ _ _ _ _ _ _ _ _ _ _ _ ?k1 ?k2 ?k3 ?k4 ?k5 ?kK ?kd ?ku ?_; walk_at "mine side"); intro v9 nx9 h9 tk9 F9 N9 r9; (try dsimp only))
  | ((rename SpecE _ _ _ _ _ _ => hSp); k_dflt (refine' hSp _ _ _ _ _ _ _ _ _ _ _ _ _ _ _ _ _ _ _ _ _ _ ?k1 ?k2 ?k3 ?k4 ?k5 ?kK ?kd ?ku ?_; walk_at "mine side"); intro e9 G9 h9 tk9 F9 R9 U9; (try dsimp only))))
  k_with "callWith ref" => ((k_here; (with_reducible show wpAny _ _ (callWith _ (Value.ref _) _ (backTo _ (starEach [] _)) []) _ _ _); k_dflt (refine' callWith_F0 ?k1 ?_; (case k1 => exact FnAt.of (by k_asm) (by assumption)); (try dsimp only [List.nil_append, List.cons_append]))))
  k_with "mine codes" => (((have cA9 := codeHd_of_K (by assumption) (hd428 _)); (have cB9 := codeHd_of_K (by assumption) (hd421 _)); (have cC9 := codeHd_of_K (by assumption) (hd433 _)); (have cD9 := codeHd_of_K (by assumption) (hd440 _))))
  k_with "mine mem" => (first | ((repeat (first | assumption | exact link_in | refine mem_lift ?_)); done) | (refine List.forall_mem_cons.mpr ⟨by k_mem, List.forall_mem_cons.mpr ⟨by k_mem, List.forall_mem_nil _⟩⟩))
  k_with "mine enterL" => ((refine wpAny_call ?_; k_dflt (refine' kla_code ?k1 ?k2 ?k3 ?k4 ?k5 ?qzkA ?qzkF ?kK ?qzk6 ?qzk7 ?qzk8 ?qzk9 ?qzkB ?_ ?qzc2 ?qzc3 ?qzc4 ?qzc5; (case qzkA => exact rfl); (case qzkF => exact rfl); (case kK => assumption); (case k1 => k_asm); (case k2 => k_asm); (case k3 => k_asm); (case k4 => k_asm); (case k5 => k_asm); (case qzk6 => k_mem); (case qzk7 => first | (exact codeRec_news (by k_asm) (by k_mem) (by assumption) (by assumption)) | (exact codeRec_news (by k_asm) (by (repeat (first | assumption | refine List.mem_cons_of_mem _ ?_))) (by assumption) (by assumption))); (case qzk8 => ktr_room); (case qzk9 => exact rfl); (case qzc5 => decide); (case qzkB => exact locs rfl); (case qzc2 => exact rfl); (case qzc3 => exact rfl); (case qzc4 => exact rfl); k_whole; intro g' L' h' FG' F' N' B' X' T'; (try dsimp only); (try k_lift B'); (try k_fold))))
  k_with "mine heard" => ((walk_at "mine side"; (case hfn => k_mem)))
  trivial
set_option maxHeartbeats 400000 in
theorem heard_ok {lv : Nat} {w : World} {f : Addr} {news : List (Addr × Obj)} {R : Value → List (Addr × Obj) → Prop} {oc : Value} {od : Option Addr} {fd : FuncData} {sl : Array (Option Value)} (hfn : (f, (⟨oc, od, .func fd, sl⟩ : Obj)) ∈ news) (hf : Spec lv w f [] news R) : Spec (lv + 3) w 401 [.ref f] news R := by
  unfold Spec
  k_fill
  intro p loose mean mg mb dp un gd cn cs a ccd cl outer A₀ base h₀ L m s Q E B F X N T hck hdp hun hret
  walk_at "mine enter"
  k_steps
  all_goals exact hret _ _ _ _ (by k_asm) (by k_asm) (by assumption)
set_option maxHeartbeats 400000 in
theorem heard_form {lv : Nat} {w : World} {f : Addr} {news : List (Addr × Obj)} {oc : Value} {od : Option Addr} {fd : FuncData} {sl : Array (Option Value)} (hfn : (f, (⟨oc, od, .func fd, sl⟩ : Obj)) ∈ news) (hf : SpecE lv w f [] news 44) : SpecT (lv + 3) w 401 [.ref f] news (fun v nx => (∃ t, v = .str (Str.ofString "form") t) ∧ nx = news) := by
  unfold SpecT
  k_fill
  intro p loose mean mg mb dp un gd cn cs a ccd cl outer A₀ base h₀ L m s Q E B F X N T hck hdp hun XB TB D hret
  walk_at "mine enterT"
  k_steps
  all_goals exact hret _ _ _ _ _ (by assumption) (by assumption) (by assumption) (by assumption) (by assumption) (by assumption) (by assumption) ⟨⟨_, rfl⟩, rfl⟩
set_option maxHeartbeats 400000 in
theorem heard_size {lv : Nat} {w : World} {f : Addr} {news : List (Addr × Obj)} {oc : Value} {od : Option Addr} {fd : FuncData} {sl : Array (Option Value)} (hfn : (f, (⟨oc, od, .func fd, sl⟩ : Obj)) ∈ news) (hf : SpecE lv w f [] news 56) : SpecT (lv + 3) w 401 [.ref f] news (fun v nx => (∃ t, v = .str (Str.ofString "size") t) ∧ nx = news) := by
  unfold SpecT
  k_fill
  intro p loose mean mg mb dp un gd cn cs a ccd cl outer A₀ base h₀ L m s Q E B F X N T hck hdp hun XB TB D hret
  walk_at "mine enterT"
  k_steps
  all_goals exact hret _ _ _ _ _ (by assumption) (by assumption) (by assumption) (by assumption) (by assumption) (by assumption) (by assumption) ⟨⟨_, rfl⟩, rfl⟩
theorem top_off_K0 : True := by
  w_top off
  trivial
theorem hd428 (P : Params) : codeHdIn (Mine.kept.heap_1 P) 428 424 = true := by kernel_rfl
theorem hd421 (P : Params) : codeHdIn (Mine.kept.heap_1 P) 421 417 = true := by kernel_rfl
theorem hd433 (P : Params) : codeHdIn (Mine.kept.heap_1 P) 433 431 = true := by kernel_rfl
theorem hd440 (P : Params) : codeHdIn (Mine.kept.heap_1 P) 440 436 = true := by kernel_rfl
inductive TabSt (line col : Nat) (qual : Str) (news : List (Addr × Obj)) : Obj → Prop where
  | fresh : TabSt line col qual news (tabObj #[])
  | hit {c' : Addr} {oc : Obj} {vs : Array Value} {t : Tok} : (c', oc) ∈ news → oc.data = .fields vs → vs[1]? = some (.str qual t) → TabSt line col qual news (tabObj (#[] ++ #[rawInt line, rawInt col, .ref c']))
theorem TabSt.mono {line col : Nat} {qual : Str} {news news' : List (Addr × Obj)} {o : Obj} (h : TabSt line col qual news o) (hm : ∀ q ∈ news, q ∈ news') : TabSt line col qual news' o := by
  cases h with
  | fresh => exact .fresh
  | hit a b c => exact .hit (hm _ a) b c
abbrev Q429 : Str := (Str.ofString "_law_kind_right" ++ ".<locals>.") ++ Str.ofString "<lambda>"
abbrev AddOk (add news : List (Addr × Obj)) : Prop := ∀ p ∈ add, @LT.lt Nat _ 436 p.1 ∧ ∀ q ∈ news, @LT.lt Nat _ q.1 p.1
theorem top_off_S3 : True := by
  w_top off
  trivial
theorem mem_lift {α : Type} {A r : List α} {x : α} (h : ∀ p ∈ A, p ∈ r) : ∀ p ∈ A, p ∈ x :: r := fun p hp => List.mem_cons_of_mem _ (h p hp)
theorem snap_none_m (w : World) (x d : Addr) (k1 k2 k3 k4 t1 t2 t3 tb : Tok) (p' q' c : Int) (b : Array UInt8) (news : List (Addr × Obj)) (hn : ¬ (p' = 170 ∧ q' = 170 ∧ c = 3)) (hm : ∀ p ∈ LinkAt w.params x d k1 k2 k3 k4 t1 t2 t3 tb p' q' c b, p ∈ news) :
   Spec 8 w 366 [.ref x] news (fun v nx => v = .none ∧ nx = news) := Spec.mem (snap_none w x d k1 k2 k3 k4 t1 t2 t3 tb p' q' c b news hn) hm
theorem snap_raise_m (w : World) (x d : Addr) (k1 k2 k3 k4 t1 t2 t3 tb : Tok) (p' q' c : Int) (b : Array UInt8) (ks : List Int) (hb : KBw.bInts b = ks) (hl : ks.length < 5) (news : List (Addr × Obj)) (hp : p' = 170) (hq : q' = 170) (hc : c = 3) (hm : ∀ p ∈ LinkAt w.params x d k1 k2 k3 k4 t1 t2 t3 tb p' q' c b, p ∈ news) :
   SpecE 8 w 366 [.ref x] news 44 := by
  subst hp hq hc
  exact SpecE.mem (snap_raise w x d k1 k2 k3 k4 t1 t2 t3 tb b ks hb hl news) hm
theorem snap_ok_m (w : World) (x d : Addr) (k1 k2 k3 k4 t1 t2 t3 tb : Tok) (p' q' c : Int) (b : Array UInt8) (ks : List Int) (hb : KBw.bInts b = ks) (hl : ks.length ≤ 1000) (hn : 5 ≤ ks.length) (news : List (Addr × Obj)) (hp : p' = 170) (hq : q' = 170) (hc : c = 3) (hm : ∀ p ∈ LinkAt w.params x d k1 k2 k3 k4 t1 t2 t3 tb p' q' c b, p ∈ news) :
   Spec 8 w 366 [.ref x] news (fun v nx => ∃ D k t1' t2' t3' c', v = .ref D ∧ nx = tupAt D #[.int (ks.getD 0 0 * 65536 + ks.getD 1 0 * 256 + ks.getD 2 0) t1', .int (ks.getD 3 0 * 256 + ks.getD 4 0) t2', .bytes c' t3'] k :: news ∧ KBw.bInts c' = ks.drop 5) := by
  subst hp hq hc
  have h2 := (snap_ok w x d k1 k2 k3 k4 t1 t2 t3 tb b ks hb hl hn news).mono (R' := fun v nx => ∃ add, nx = add ++ (LinkAt w.params x d k1 k2 k3 k4 t1 t2 t3 tb 170 170 3 b ++ news) ∧ ∃ D k t1' t2' t3' c', v = .ref D ∧ add = [tupAt D #[.int (ks.getD 0 0 * 65536 + ks.getD 1 0 * 256 + ks.getD 2 0) t1', .int (ks.getD 3 0 * 256 + ks.getD 4 0) t2', .bytes c' t3'] k] ∧ KBw.bInts c' = ks.drop 5)
    fun v nx ⟨D, k, a1, a2, a3, c', e, f, z⟩ => ⟨[_], by rw [f]; rfl, D, k, a1, a2, a3, c', e, rfl, z⟩
  exact (Spec.memX h2 hm).mono fun v nx ⟨add, f, D, k, a1, a2, a3, c', e, g, z⟩ => ⟨D, k, a1, a2, a3, c', e, by rw [f, g]; rfl, z⟩
theorem heard_okR {lv : Nat} {w : World} {f : Addr} {news : List (Addr × Obj)} (R : List (Addr × Obj) → Value → List (Addr × Obj) → Prop) {oc : Value} {od : Option Addr} {fd : FuncData} {sl : Array (Option Value)} (hfn : (f, (⟨oc, od, .func fd, sl⟩ : Obj)) ∈ news) (hf : Spec lv w f [] news (R news)) : Spec (lv + 3) w 401 [.ref f] news (R news) := heard_ok hfn hf
theorem link_in {P : Params} {x d : Addr} {k1 k2 k3 k4 t1 t2 t3 tb : Tok} {p' q' c : Int} {b : Array UInt8} {rest : List (Addr × Obj)} : ∀ p ∈ LinkAt P x d k1 k2 k3 k4 t1 t2 t3 tb p' q' c b, p ∈ (x, instObj 334 d) :: (d, dictOf [{ hash := PyData.keyHash P (Str.ofString "dsap"), key := .str (Str.ofString "dsap") k1, val := .int p' t1 }, { hash := PyData.keyHash P (Str.ofString "ssap"), key := .str (Str.ofString "ssap") k2, val := .int q' t2 },
   { hash := PyData.keyHash P (Str.ofString "control"), key := .str (Str.ofString "control") k3, val := .int c t3 }, { hash := PyData.keyHash P (Str.ofString "payload"), key := .str (Str.ofString "payload") k4, val := .bytes b tb }] 4) :: rest :=
  fun _ hp => List.mem_append_left rest hp
theorem top_off_LB : True := by
  w_top off
  trivial
section
open PySem
variable {prog : Program} {w : World} {A : Around} {E : Value → Shared → Prop} {s : Shared}
abbrev ByteAt (b : Array UInt8) : Nat → Value → Prop := fun i v => ∃ c u, b[i]? = some c ∧ v = .int ((c : UInt8).toNat : Int) u
theorem lb_extend {R : Result → Shared → Prop} (hh : A.handled = none) (x : Array UInt8) (t : Tok) (S : Addr) (res : Value) (c₀ : Nat) (hS : s.heap.get? S = some { cls := .type "list", data := .seq #[] c₀ })
    (hR : ∀ h' tk acc' c', (∀ b o, b ≠ S → s.heap.get? b = some o → h'.get? b = some o) → h'.get? S = some { cls := .type "list", dict := none, data := .seq acc' c', slots := #[] } →
      ItemsOf (ByteAt x) acc' x.size → R (.ok (.ret res)) { s with heap := h', toks := tk }) (hn : x.size ≤ sizeLine) :
    wpAny (model prog w) A.in1 (Builtin.List.listExtendWith (.ref S) (.bytes x t) res)
      (fun fin s' => match fin with | .done f => R (.ok f) s' | .again c' => c'.quiet = true ∧ codeAny (model prog w) A c' R s') (fun e s' => R (.error e) s') s := by
  have hSI : S ≠ s.heap.objs.size := Nat.ne_of_lt (Heap.lt_size hS)
  have hSf : S ∉ [s.heap.objs.size] := fun hm => hSI (List.mem_singleton.mp hm)
  unfold Builtin.List.listExtendWith
  refine wpAny_bind (wpAny_typeOf (T := "bytes") (v := .bytes x t) rfl ?_)
  have h1 : Builtin.List.listSameRef (.ref S) (.bytes x t) = false := rfl
  have h2 : (Value.type "bytes" == Value.type "list") = false := by decide
  have h3 : (Value.type "bytes" == Value.type "tuple") = false := by decide
  simp only [h1, h2, h3, Bool.or_false, Bool.false_eq_true, if_false]
  refine wpAny_bind (KBw.pyIter_bytes ?_)
  refine wpAny_bind (wpAny_holding ?_)
  unfold Builtin.List.listLengthHint
  refine wpAny_bind (wpAny_specialOf (T := "bytes") (v := .bytes x t) rfl FB.slot_bytes_len.lookup ?_)
  wp_delta
  refine wpAny_bind (wpAny_isInstance (T := "bytes") (v := .bytes x t) (b := true) rfl (by rw [isSubtype_type]; kernel_rfl) ?_)
  show wpAny _ _ (typeOf (Value.bytes x t) >>= _) _ _ _
  refine wpAny_bind (wpAny_typeOf (T := "bytes") (v := .bytes x t) rfl ?_)
  refine wpAny_pure ?_
  rw [if_neg (by decide)]
  refine wpAny_pure ⟨plainId_quiet F.plain_extend_loop _, codeAny_extend_loopS (KBw.walks (A := A.in1) hh s.heap.objs.size x t).toS hn _ hSf _ x.size 0 _ _ _ rfl (Nat.zero_le _) ⟨_, Heap.get?_push_size _ rfl, rfl, rfl⟩ (Heap.get?_push_of_some _ hS) (ItemsOf.nil _) fun s' acc' c' hm hS' hacc => ?_⟩
  rw [Moved.eq_with hm]
  refine hR s'.heap s'.toks acc' c' (fun b ob hb e => hm.heap b ob (fun hmem => ?_) (Heap.get?_push_of_some _ e)) hS' hacc
  rcases List.mem_cons.mp hmem with e' | hmem
  · exact hb e'
  · exact absurd (Heap.lt_size e) (by rw [List.mem_singleton.mp hmem]; exact Nat.lt_irrefl _)
theorem lb_init {R : Result → Shared → Prop} (hh : A.handled = none) (x : Array UInt8) (t : Tok) (S : Addr) (hS : s.heap.get? S = some { cls := .type "list", data := .seq #[] })
    (hR : ∀ h' tk acc' c', (∀ b o, b ≠ S → s.heap.get? b = some o → h'.get? b = some o) → h'.get? S = some { cls := .type "list", dict := none, data := .seq acc' c', slots := #[] } →
      ItemsOf (ByteAt x) acc' x.size → R (.ok (.ret .none)) { s with heap := h', toks := tk }) (hn : x.size ≤ sizeLine) :
    wpAny (model prog w) A.in1 (Builtin.«list.__init__» ⟨[.ref S, .bytes x t], []⟩)
      (fun fin s' => match fin with | .done f => R (.ok f) s' | .again c' => c'.quiet = true ∧ codeAny (model prog w) A c' R s') (fun e s' => R (.error e) s') s := by
  show wpAny _ _ (do let old ← Builtin.List.listItems (.ref S); Builtin.List.listUpdate (.ref S) (fun _ => #[]); letGo old.toList.reverse; Builtin.List.listExtendWith (.ref S) (.bytes x t) .none) _ _ s
  refine wpAny_bind ?_
  unfold Builtin.List.listItems
  refine wpAny_bind (wpAny_seqItems hS rfl (wpAny_pure ?_))
  show wpAny _ _ (updateSeq S (fun _ => #[]) >>= fun _ => letGo (#[] : Array Value).toList.reverse >>= fun _ => Builtin.List.listExtendWith (.ref S) (.bytes x t) .none) _ _ s
  refine wpAny_bind (wpAny_updateSeq hS rfl ?_)
  have hS₂ := Heap.get?_update_self (Obj.mapSeq (fun _ => (#[] : Array Value))) hS rfl
  have oth : ∀ b o, b ≠ S → s.heap.get? b = some o → (s.heap.update S (Obj.mapSeq (fun _ => (#[] : Array Value)))).get? b = some o :=
    fun b o hb e => (Heap.get?_update_other _ _ (Ne.symm hb)).trans e
  refine wpAny_bind (wpAny_letGo ?_)
  refine lb_extend (hn := hn) hh x t S .none _ hS₂ fun h' tk acc' c' hk hS' hacc => ?_
  exact hR h' tk acc' c' (fun b o hb e => hk b o hb (oth b o hb e)) hS' hacc
theorem call_list_bytes {Q : Value → Shared → Prop} (hh : A.handled = none) (x : Array UInt8) (t : Tok) (hn : x.size ≤ sizeLine)
    (hQ : ∀ h' tk acc' c', (∀ b o, s.heap.get? b = some o → h'.get? b = some o) →
      h'.get? s.heap.objs.size = some { cls := .type "list", dict := none, data := .seq acc' c', slots := #[] } → ItemsOf (ByteAt x) acc' x.size → Q (.ref s.heap.objs.size) { s with heap := h', toks := tk }) :
    wpAny (model prog w) A (call (.type "list") [.bytes x t]) Q E s := by
  refine callType_codes (Q₁ := fun obj s₁ => obj = .ref s.heap.objs.size ∧ s₁ = { s with heap := s.heap.push { cls := .type "list", data := .seq #[] } }) F.called_list (F.typeCall_list_1 _) F.entry_list_init
    (code_list_new _ ⟨rfl, rfl⟩) fun obj s₁ h₁ => ?_
  obtain ⟨rfl, rfl⟩ := h₁
  have hS : (s.heap.push { cls := .type "list", data := .seq #[] }).get? s.heap.objs.size = some { cls := .type "list", data := .seq #[] } := Heap.get?_push_size _ rfl
  refine ⟨⟨_, hS, rfl⟩, F.args_list_init_2 _ _, lb_init (A := A.in1) (hn := hn) hh x t _ hS fun h' tk acc' c' hk hS' hacc => ?_⟩
  exact ⟨rfl, hQ h' tk acc' c' (fun b o e => hk b o (Nat.ne_of_lt (Heap.lt_size e)) (Heap.get?_push_of_some _ e)) hS' hacc⟩
theorem lb_items {x : Array UInt8} {ls : List Int} {acc : Array Value} {a0 a1 a2 a3 a4 : Int} (hb : KBw.bInts x = ls) (hl : ls = [a0, a1, a2, a3, a4]) (hi : ItemsOf (ByteAt x) acc x.size) :
    ∃ t0 t1 t2 t3 t4, acc = #[.int a0 t0, .int a1 t1, .int a2 t2, .int a3 t3, .int a4 t4] := by
  subst hl
  have hz : x.size = 5 := by rw [← KBw.ints_length, hb]; rfl
  obtain ⟨h1, h2⟩ := hi
  have at_ : ∀ (i : Nat) (a : Int), [a0, a1, a2, a3, a4][i]? = some a → ∀ (v : Value), acc[i]? = some v → ∃ (u : Tok), v = Value.int a u := by
    intro i a ha v hv
    obtain ⟨c, u, hc, rfl⟩ := h2 i v hv
    have := KBw.ints_get hc
    rw [hb, ha] at this
    exact ⟨u, by rw [Option.some.inj this]⟩
  have sz : acc.size = 5 := h1.trans hz
  have g : ∀ i (hi : i < 5), acc[i]? = some (acc[i]'(sz ▸ hi)) := fun i hi => by simp [sz, hi]
  obtain ⟨t0, e0⟩ := at_ 0 a0 rfl _ (g 0 (by decide))
  obtain ⟨t1, e1⟩ := at_ 1 a1 rfl _ (g 1 (by decide))
  obtain ⟨t2, e2⟩ := at_ 2 a2 rfl _ (g 2 (by decide))
  obtain ⟨t3, e3⟩ := at_ 3 a3 rfl _ (g 3 (by decide))
  obtain ⟨t4, e4⟩ := at_ 4 a4 rfl _ (g 4 (by decide))
  refine ⟨t0, t1, t2, t3, t4, ?_⟩
  apply Array.ext
  · exact sz
  · intro i hi1 hi2
    rcases i with _ | _ | _ | _ | _ | i
    · exact e0
    · exact e1
    · exact e2
    · exact e3
    · exact e4
    · exact absurd hi1 (by omega)
end
theorem take5 {ks : List Int} (hn : 5 ≤ ks.length) : List.take (clipAt ks.length 5) ks = [ks.getD 0 0, ks.getD 1 0, ks.getD 2 0, ks.getD 3 0, ks.getD 4 0] := by
  match ks, hn with
  | a :: b :: c :: d :: e :: r, _ =>
    rw [clipAt_in (by omega) (by simp only [List.length_cons]; omega)]
    rfl
section
variable {prog : Program} {w : World} {A : Around} {E : Value → Shared → Prop} {s : Shared} {h₀ : Heap} {L : Addr} {m : PySem.Str → Option Value} {news : List (Addr × Obj)}
theorem call_list5 {Q : Value → Shared → Prop} {b : Array UInt8} {t : Tok} {ks : List Int} (hh : A.handled = none) (F : Fr h₀ L s.heap m) (N : News h₀ L s.heap news) (hb : KBw.bInts b = List.take (clipAt ks.length 5) ks) (hn : 5 ≤ ks.length)
    (h : ∀ D c h' tk t0 t1 t2 t3 t4, Fr h₀ L h' m → News h₀ L h' ((D, W.listOf #[.int (ks.getD 0 0) t0, .int (ks.getD 1 0) t1, .int (ks.getD 2 0) t2, .int (ks.getD 3 0) t3, .int (ks.getD 4 0) t4] c) :: news) → (∀ q ∈ news, q.1 < D) → Q (.ref D) { s with heap := h', toks := tk }) :
    wpAny (model prog w) A (call (.type "list") [.bytes b t]) Q E s := by
  have hz : b.size = 5 := by rw [← KBw.ints_length, hb, take5 hn]; rfl
  refine call_list_bytes hh b t (by rw [hz, sizeLine_eq]; omega) fun h' tk acc' c' hk hS hi => ?_
  obtain ⟨t0, t1, t2, t3, t4, rfl⟩ := lb_items hb (take5 hn) hi
  refine h s.heap.objs.size c' h' tk t0 t1 t2 t3 t4 (F.keeps hk) (fun p hp => ?_) (fun q hq => Heap.lt_size (N q hq).1)
  rcases List.mem_cons.mp hp with rfl | hp
  · exact ⟨hS, Nat.ne_of_gt F.ns.lt, Heap.get?_none_of_le (Nat.le_trans F.above (Nat.le_of_lt F.ns.lt))⟩
  · exact ⟨hk _ _ (N p hp).1, (N p hp).2⟩
end
section
variable {prog : Program} {w : World} {A : Around} {E : Value → Shared → Prop} {s : Shared}
theorem eqAt_bytes (b c : Array UInt8) (t u : Tok) (hb : KBw.bInts b = KBw.bInts c) : SeqAt.EqAt A s (.bytes b t) (.bytes c u) true := fun prog w E Q h => by
  unfold eqBool
  refine wpAny_holding ?_
  refine wpAny_ite_split (fun _ => ?_) (fun _ => ?_)
  · exact wpAny_bind (wpAny_rule (wpAny_pure h))
  · exact wpAny_bind (eq_bytes_same hb (wpAny_truthy_bool h))
theorem eqAt_int (a : Int) (t u : Tok) : SeqAt.EqAt A s (.int a t) (.int a u) true := by
  have := SeqAt.EqAt.int_int (A := A) (s := s) a t a u
  rwa [beq_self_eq_true] at this
theorem eq_tup3 {l k : Addr} {a0 a1 : Int} {t0 t1 t2 u0 u1 u2 : Tok} {x y : Array UInt8} {n m : Nat} {h₀ : Heap} {L : Addr} {news : List (Addr × Obj)} {Q : Value → Shared → Prop} (N : News h₀ L s.heap news) (hl : tupAt l #[.int a0 t0, .int a1 t1, .bytes x t2] n ∈ news) (hk : tupAt k #[.int a0 u0, .int a1 u1, .bytes y u2] m ∈ news)
    (hxy : KBw.bInts x = KBw.bInts y) (hu : A.units < cLine) (h : Q (.bool true) s) : wpAny (model prog w) A (compareOp .Eq (.ref l) (.ref k)) Q E s := by
  refine SeqAt.RcAt.tuples (e := fun _ => true) ⟨_, (N _ hl).1, rfl, _, rfl⟩ ⟨_, (N _ hk).1, rfl, _, rfl⟩ hu (fun j h1 h2 => ?_) prog w E Q h
  match j, h1, h2 with
  | 0, _, _ => exact eqAt_int _ _ _
  | 1, _, _ => exact eqAt_int _ _ _
  | 2, _, _ => exact eqAt_bytes _ _ _ _ hxy
  | j + 3, h1, _ => exact absurd h1 (by simp)
end
theorem eq5 {x y : Array UInt8} {ks : List Int} (hx : KBw.bInts x = ks.drop 5) (hy : KBw.bInts y = (ks.drop (clipAt ks.length 5)).take (ks.length - clipAt ks.length 5)) (hn : 5 ≤ ks.length) : KBw.bInts x = KBw.bInts y := by
  rw [hx, cut_tail5 hy hn]
theorem top_off_KL : True := by
  w_top off
  trivial
section
variable {prog : Program} {w : World} {A : Around} {E : Value → Shared → Prop} {s : Shared} {L : Addr} {h₀ : Heap} {m mg mb : Str → Option Value} {news : List (Addr × Obj)} {p : Program} {loose : List Str} {mean : ExcName → Option Value}
  {name qual : Str} {params : Arguments} {body : PySem.Expr} {scope : Scope} {pos : Pos} {firstLine : Nat} {clos : List (Str × Addr)} {cn : Str} {cs : Scope} {a : Addr} {ccd : Value} {cl : List (Str × Addr)} {c P : Addr} {g : Obj → List (Addr × Obj)}
theorem UpdF.here {P : Addr} {o : Obj} {news : List (Addr × Obj)} {g : Obj → List (Addr × Obj)} (U : UpdF P o news g) : (P, o) ∈ news ∧ g o = news := by
  obtain ⟨pre, post, rfl, e, _, _⟩ := U.split
  exact ⟨List.mem_append_right _ List.mem_cons_self, e o⟩
/-- a lambda is made: its code stands in the table already, or is made now -/
theorem kla_any {Q : Value → Shared → Prop} {o : Obj} {extra : List (Addr × Obj)} (F : Fr h₀ L s.heap m) (N : News h₀ L s.heap news) (T : Top p loose mean mg mb h₀) (C : CodeHd h₀ c P) (hcd : ccd = .ref c) (hT : TabSt pos.line pos.col qual extra o) (U : UpdF P o news g) (hx : ∀ q ∈ extra, q ∈ news)
    (ht0 : TriplesOk (#[] : Array Value).toList) (hn0 : codeAmong pos (#[] : Array Value).toList = none) (ht1 : ∀ c', TriplesOk (#[] ++ #[rawInt pos.line, rawInt pos.col, .ref c']).toList) (hf1 : ∀ c', codeAmong pos (#[] ++ #[rawInt pos.line, rawInt pos.col, .ref c']).toList = some (.ref c'))
    (hcl : closureFor scope (envX cn cs L a ccd cl) = pure clos)
    (h : ∀ f c' oc vs t ctv h' tk, Fr h₀ L h' m →
      News h₀ L h' ((f, kla_obj name qual params body scope clos ((mg "__name__").getD .none) c' ctv) :: (c', oc) :: g (tabObj (#[] ++ #[rawInt pos.line, rawInt pos.col, .ref c']))) →
      oc.data = .fields vs → vs[1]? = some (.str qual t) → (∀ q ∈ news, q.1 < f) → ((tabObj (#[] ++ #[rawInt pos.line, rawInt pos.col, .ref c']) = o ∧ (c', oc) ∈ extra) ∨ ∀ q ∈ news, @LT.lt Nat _ q.1 c') → Q (.ref f) { s with heap := h', toks := tk }) :
    wpAny (model prog w) A (makeFunction name qual params (.expr body) scope (envX cn cs L a ccd cl) [] [] [] pos firstLine) Q E s := by
  cases hT with
  | fresh => exact kla_nest F N T C hcd U ht0 hn0 hcl fun f c' oc vs t ctv h' tk F' N' d1 d2 l1 l2 => h f c' oc vs t ctv h' tk F' N' d1 d2 (fun q hq => Nat.lt_trans (l1 q hq) l2) (.inr l1)
  | @hit c' oc vs t hm d1 d2 =>
    obtain ⟨u1, u2⟩ := UpdF.here U
    refine kla_hit F N T C hcd u1 (ht1 c') (hf1 c') hcl fun f ctv h' tk F' N' l => h f c' oc vs t ctv h' tk F' (fun q hq => ?_) d1 d2 l (.inl ⟨rfl, hm⟩)
    rcases List.mem_cons.mp hq with rfl | hq
    · exact N' _ List.mem_cons_self
    · refine N' _ (List.mem_cons_of_mem _ ?_)
      rcases List.mem_cons.mp hq with rfl | hq
      · exact hx _ hm
      · exact u2 ▸ hq
end
abbrev LamOr (o o' : Obj) (extra news : List (Addr × Obj)) (c' : Addr) (oc : Obj) : Prop := (o' = o ∧ (c', oc) ∈ extra) ∨ ∀ q ∈ news, @LT.lt Nat _ q.1 c'
/-- what the lambda's making adds to a ledger of which extra is known to hold the code's object -/
theorem lam_done {line col : Nat} {q : Str} {o : Obj} {extra news : List (Addr × Obj)} {c' x : Addr} {oc ox : Obj} {vs : Array Value} {t : Tok} (hor : LamOr o (tabObj (#[] ++ #[rawInt line, rawInt col, .ref c'])) extra news c' oc) (d1 : oc.data = .fields vs) (d2 : vs[1]? = some (.str q t)) (hx : ∀ z ∈ extra, z ∈ news) (h4 : @LT.lt Nat _ 436 x) (hm : (x, ox) ∈ news) :
    ∃ add, (∀ z ∈ add, z = (c', oc)) ∧ (TabSt line col q add (tabObj (#[] ++ #[rawInt line, rawInt col, .ref c'])) ∨ tabObj (#[] ++ #[rawInt line, rawInt col, .ref c']) = o) ∧ AddOk add extra ∧ TabSt line col q (add ++ extra) (tabObj (#[] ++ #[rawInt line, rawInt col, .ref c'])) ∧ AddOk add news := by
  rcases hor with ⟨e, hm⟩ | l
  · exact ⟨[], (fun z hz => nomatch hz), .inr e, (fun z hz => nomatch hz), .hit hm d1 d2, fun z hz => nomatch hz⟩
  · refine ⟨[(c', oc)], (fun z hz => List.mem_singleton.mp hz), .inl (.hit List.mem_cons_self d1 d2), (fun z hz => ?_), .hit List.mem_cons_self d1 d2, fun z hz => ?_⟩
    · rw [List.mem_singleton.mp hz]; exact ⟨Nat.lt_trans h4 (l _ hm), fun y hy => l y (hx y hy)⟩
    · rw [List.mem_singleton.mp hz]; exact ⟨Nat.lt_trans h4 (l _ hm), l⟩
theorem add_app {add a : List (Addr × Obj)} {big : List (Addr × Obj)} {z0 : Addr × Obj} (h : ∀ z ∈ add, z = z0) (h0 : z0 ∈ big) (hb : ∀ z ∈ a, z ∈ big) : ∀ z ∈ add ++ a, z ∈ big := fun z hz => (List.mem_append.mp hz).elim (fun k => h z k ▸ h0) (hb z)
theorem lam_acc2 {line col : Nat} {q : Str} {o1 : Obj} {add news led : List (Addr × Obj)} {c' : Addr} {oc : Obj} {vs : Array Value} {t : Tok} (hor : LamOr o1 (tabObj (#[] ++ #[rawInt line, rawInt col, .ref c'])) (add ++ news) led c' oc) (d1 : oc.data = .fields vs) (d2 : vs[1]? = some (.str q t)) :
    ∃ add', (∀ z ∈ add', z = (c', oc) ∨ z ∈ add) ∧ TabSt line col q (add' ++ news) (tabObj (#[] ++ #[rawInt line, rawInt col, .ref c'])) ∧ ∀ z ∈ add' ++ news, z ∈ add ++ news ∨ ∀ y ∈ led, @LT.lt Nat _ y.1 z.1 := by
  rcases hor with ⟨e, hm⟩ | l
  · exact ⟨add, (fun z hz => .inr hz), .hit hm d1 d2, fun z hz => .inl hz⟩
  · refine ⟨(c', oc) :: add, (fun z hz => List.mem_cons.mp hz), .hit List.mem_cons_self d1 d2, fun z hz => ?_⟩
    rcases List.mem_cons.mp hz with rfl | hz
    · exact .inr l
    · exact .inl hz
theorem lam_acc {line col : Nat} {q : Str} {o o1 : Obj} {add news led : List (Addr × Obj)} {c' x : Addr} {oc ox : Obj} {vs : Array Value} {t : Tok} (hor : LamOr o1 (tabObj (#[] ++ #[rawInt line, rawInt col, .ref c'])) (add ++ news) led c' oc) (d1 : oc.data = .fields vs) (d2 : vs[1]? = some (.str q t))
    (hT2 : TabSt line col q add o1 ∨ o1 = o) (hadd : AddOk add news) (hx : ∀ z ∈ news, z ∈ led) (h4 : @LT.lt Nat _ 436 x) (hm : (x, ox) ∈ led) :
    ∃ add', (∀ z ∈ add', z = (c', oc) ∨ z ∈ add) ∧ TabSt line col q (add' ++ news) (tabObj (#[] ++ #[rawInt line, rawInt col, .ref c'])) ∧ (TabSt line col q add' (tabObj (#[] ++ #[rawInt line, rawInt col, .ref c'])) ∨ tabObj (#[] ++ #[rawInt line, rawInt col, .ref c']) = o) ∧ AddOk add' news ∧ ∀ z ∈ add' ++ news, z ∈ add ++ news ∨ ∀ y ∈ led, @LT.lt Nat _ y.1 z.1 := by
  rcases hor with ⟨e, hm2⟩ | l
  · exact ⟨add, (fun z hz => .inr hz), .hit hm2 d1 d2, e ▸ hT2, hadd, fun z hz => .inl hz⟩
  · refine ⟨(c', oc) :: add, (fun z hz => List.mem_cons.mp hz), .hit List.mem_cons_self d1 d2, .inl (.hit List.mem_cons_self d1 d2), List.forall_mem_cons.mpr ⟨⟨Nat.lt_trans h4 (l _ hm), fun y hy => l y (hx y hy)⟩, hadd⟩, fun z hz => ?_⟩
    rcases List.mem_cons.mp hz with rfl | hz
    · exact .inr l
    · exact .inl hz
theorem acc_ne {a r led : List (Addr × Obj)} {P : Addr} {oP : Obj} (h : ∀ z ∈ a, z ∈ r ∨ ∀ y ∈ led, @LT.lt Nat _ y.1 z.1) (m : (P, oP) ∈ led) (hr : ∀ p ∈ r, p.1 ≠ P) : ∀ p ∈ a, p.1 ≠ P := fun p hp => (h p hp).elim (hr p) fun l => Nat.ne_of_gt (l _ m)
theorem acc_sub {add' add news big : List (Addr × Obj)} {z0 : Addr × Obj} (h : ∀ z ∈ add', z = z0 ∨ z ∈ add) (h0 : z0 ∈ big) (hb : ∀ z ∈ add ++ news, z ∈ big) : ∀ z ∈ add' ++ news, z ∈ big := fun z hz =>
  (List.mem_append.mp hz).elim (fun k => (h z k).elim (fun e => e ▸ h0) fun k => hb z (List.mem_append_left _ k)) fun k => hb z (List.mem_append_right _ k)
theorem acc_sub3 {a add news big : List (Addr × Obj)} {z0 : Addr × Obj} (h : ∀ z ∈ a, z = z0) (h0 : z0 ∈ big) (hb : ∀ z ∈ add ++ news, z ∈ big) : ∀ z ∈ (a ++ add) ++ news, z ∈ big := fun z hz => by
  rw [List.append_assoc] at hz
  exact (List.mem_append.mp hz).elim (fun k => h z k ▸ h0) (hb z)
theorem top_off_K1 : True := by
  w_top off
  trivial
section
theorem kw_29 : True := by
  k_with "eval Lambda" => ((k_here; k_dflt (refine' kla_eval ?qzd0 ?_; (case qzd0 => exact rfl)); (k_dflt (refine' kla_any ?qzF ?qzN ?qzT ?qzC ?qzcd ?qzhT ?qzU ?qzhx ?qzt ?qzn ?qzt1 ?qzn1 ?qzcl ?_; (case qzF => k_asm); (case qzN => k_asm); (case qzT => k_asm); (case qzcd => exact rfl); (case qzC => kn_code); (case qzhT => first | with_reducible assumption | assumption); (case qzU => k_updF); (case qzhx => first | walk_at "mine sk" | walk_at "mine news in" | (intro q9 hq9; (repeat (first | exact hq9 | refine List.mem_cons_of_mem _ ?_)))); (case qzt => kn_triples); (case qzn => kn_among); (case qzt1 => (intro c9; kn_triples)); (case qzn1 => (intro c9; kn_hit)); (case qzcl => exact rfl); k_whole); intro f' c' oc' vs' t' ct' h' tk' F' N' d1' d2' l1 hlo; (try dsimp only at N'))))
  k_with "mine news in" => ((intro q9 hq9; (repeat (first | exact List.mem_append_right _ hq9 | refine List.mem_cons_of_mem _ ?_))))
  trivial
set_option maxHeartbeats 2000000 in
theorem kind_n (w : World) (x d : Addr) (k1 k2 k3 k4 t1 t2 t3 tb : Tok) (p' q' c : Int) (b : Array UInt8) (o : Obj) (news : List (Addr × Obj)) (hx : @LT.lt Nat _ 436 x) (hdd : @LT.lt Nat _ 436 d) (hne : ∀ p ∈ news, p.1 ≠ 424) (hT : TabSt 211 22 Q429 news o) (hn : ¬ (p' = 170 ∧ q' = 170 ∧ c = 3)) :
    SpecT 16 w 429 [.ref x] (LinkAt w.params x d k1 k2 k3 k4 t1 t2 t3 tb p' q' c b ++ ((424, o) :: news))
      (fun v nx => v = .bool true ∧ ∃ o' add, nx = add ++ (LinkAt w.params x d k1 k2 k3 k4 t1 t2 t3 tb p' q' c b ++ ((424, o') :: news)) ∧ (TabSt 211 22 Q429 add o' ∨ o' = o) ∧ AddOk add news) := by
  unfold SpecT
  simp only [List.cons_append, List.nil_append]
  unfold llcD
  k_fill
  intro p loose mean mg mb dp un gd cn cs a ccd cl outer A₀ base h₀ L m s Q E B F X N T hck hdp hun XB TB D hret
  walk_at "mine enterT"
  walk_at "mine codes"
  k_steps
  refine' heard_okR (lv := 12) (fun l v nx => v = .none ∧ nx = l) ?hfn ?hf _ _ _ _ _ _ _ _ _ _ _ _ _ _ _ _ _ _ _ _ _ _ ?k1 ?k2 ?k3 ?k4 ?k5 ?kK ?kd ?ku ?_
  walk_at "mine heard"
  case hf =>
    intro p2 loose2 mean2 mg2 mb2 dp2 un2 gd2 cn2 cs2 a2 ccd2 cl2 outer2 A2 base2 h2 L2 m2 s2 Q2 E2 B2 F2 X2 N2 T2 hck2 hdp2 hun2 hret2
    walk_at "mine enterL"
    k_steps
    all_goals exact hret2 _ _ _ _ (by k_asm) (by k_asm) ⟨rfl, rfl⟩
  refine o_8 ?_; intro h9 tk9 F9 N9
  (try dsimp only)
  (try k_fold)
  k_steps
  all_goals first
    | (walk_at "mine absurd"; done)
    | (refine Exists.elim (lam_done hlo (by with_reducible assumption) (by with_reducible assumption) (by walk_at "mine sk") hx (by walk_at "mine me")) fun add hh => ?_; refine' hret _ _ _ _ _ (by assumption) (by assumption) (by assumption) (by assumption) ?_ (by assumption) (by assumption) ⟨rfl, _, add, rfl, hh.2.1, hh.2.2.1⟩; exact cb_drop (by with_reducible assumption) (add_app hh.1 (by walk_at "mine me") (by walk_at "mine sub")))
theorem top_off_K3 : True := by
  w_top off
  trivial
set_option maxHeartbeats 2000000 in
theorem kind_f (w : World) (x d : Addr) (k1 k2 k3 k4 t1 t2 t3 tb : Tok) (p' q' c : Int) (b : Array UInt8) (o : Obj) (news : List (Addr × Obj)) (hx : @LT.lt Nat _ 436 x) (hdd : @LT.lt Nat _ 436 d) (hne : ∀ p ∈ news, p.1 ≠ 424) (hT : TabSt 211 22 Q429 news o) (ks : List Int) (hb : KBw.bInts b = ks) (hl : ks.length < 5) (hp : p' = 170) (hq : q' = 170) (hc : c = 3) :
    SpecT 16 w 429 [.ref x] (LinkAt w.params x d k1 k2 k3 k4 t1 t2 t3 tb p' q' c b ++ ((424, o) :: news))
      (fun v nx => v = .bool true ∧ ∃ o' add, nx = add ++ (LinkAt w.params x d k1 k2 k3 k4 t1 t2 t3 tb p' q' c b ++ ((424, o') :: news)) ∧ (TabSt 211 22 Q429 add o' ∨ o' = o) ∧ AddOk add news) := by
  subst hp hq hc
  unfold SpecT
  simp only [List.cons_append, List.nil_append]
  unfold llcD
  k_fill
  intro p loose mean mg mb dp un gd cn cs a ccd cl outer A₀ base h₀ L m s Q E B F X N T hck hdp hun XB TB D hret
  walk_at "mine enterT"
  walk_at "mine codes"
  k_steps
  refine' heard_form (lv := 12) ?hfn ?hf _ _ _ _ _ _ _ _ _ _ _ _ _ _ _ _ _ _ _ _ _ _ ?k1 ?k2 ?k3 ?k4 ?k5 ?kK ?kd ?ku ?kXB ?kTB ?kD ?_
  walk_at "mine heard"
  case kXB => assumption
  case kTB => assumption
  case kD => assumption
  case hf =>
    intro p2 loose2 mean2 mg2 mb2 dp2 un2 gd2 cn2 cs2 a2 ccd2 cl2 outer2 A2 base2 h2 L2 m2 s2 Q2 E2 B2 F2 X2 N2 T2 hck2 hdp2 hun2 hret2
    walk_at "mine enterL"
    k_steps
    all_goals (rename RaisedSN _ _ _ _ _ _ _ => R8; refine hret2 _ _ _ _ ?_ R8 ?_ <;> assumption)
  refine o_15 ?_; intro t9 h9 tk9 h8 W9 B9 F9 X9 N9 T9 D9
  (try dsimp only)
  (try k_fold)
  k_steps
  all_goals first
    | (walk_at "mine absurd"; done)
    | (refine Exists.elim (lam_done hlo (by with_reducible assumption) (by with_reducible assumption) (by walk_at "mine sk") hx (by walk_at "mine me")) fun add hh => ?_; refine' hret _ _ _ _ _ (by assumption) (by assumption) (by assumption) (by assumption) ?_ (by assumption) (by assumption) ⟨rfl, _, add, rfl, hh.2.1, hh.2.2.1⟩; exact cb_drop (by with_reducible assumption) (add_app hh.1 (by walk_at "mine me") (by walk_at "mine sub")))
theorem top_off_K5 : True := by
  w_top off
  trivial
section
theorem kw_30 : True := by
  k_with "call type:list" => ((k_here; (with_reducible show wpAny _ _ (call (Value.type "list") [Value.bytes _ _]) _ _ _); k_dflt (refine' call_list5 ?qzh0 ?qzF ?qzN ?qzb ?qzn ?_; (case qzh0 => exact rfl); (case qzF => k_asm); (case qzN => k_asm); (case qzb => assumption); (case qzn => assumption); intro D' c' h' tk' t0' t1' t2' t3' t4' F' N' l1; (try dsimp only); (try k_lt l1); (try k_fold))))
  k_with "compareOp Eq ref ref" => ((k_here; (with_reducible show wpAny _ _ (compareOp CmpOp.Eq (Value.ref _) (Value.ref _)) _ _ _); k_dflt (refine' eq_tup3 ?qzN ?qza ?qzb ?qzx ?qzu ?_; (case qzN => k_asm); (case qza => k_mem); (case qzb => k_mem); (case qzx => exact eq5 (by assumption) (by assumption) (by assumption)); (case qzu => ke_room))))
  trivial
set_option maxHeartbeats 2000000 in
theorem kind_o (w : World) (x d : Addr) (k1 k2 k3 k4 t1 t2 t3 tb : Tok) (p' q' c : Int) (b : Array UInt8) (o : Obj) (news : List (Addr × Obj)) (hx : @LT.lt Nat _ 436 x) (hdd : @LT.lt Nat _ 436 d) (hne : ∀ p ∈ news, p.1 ≠ 424) (hT : TabSt 211 22 Q429 news o) (ks : List Int) (hb : KBw.bInts b = ks) (hl : ks.length ≤ 1000) (hn : 5 ≤ ks.length) (hp : p' = 170) (hq : q' = 170) (hc : c = 3) :
    SpecT 16 w 429 [.ref x] (LinkAt w.params x d k1 k2 k3 k4 t1 t2 t3 tb p' q' c b ++ ((424, o) :: news))
      (fun v nx => v = .bool true ∧ ∃ o' add, nx = add ++ (LinkAt w.params x d k1 k2 k3 k4 t1 t2 t3 tb p' q' c b ++ ((424, o') :: news)) ∧ (TabSt 211 22 Q429 add o' ∨ o' = o) ∧ AddOk add news) := by
  subst hp hq hc
  unfold SpecT
  simp only [List.cons_append, List.nil_append]
  unfold llcD
  k_fill
  intro p loose mean mg mb dp un gd cn cs a ccd cl outer A₀ base h₀ L m s Q E B F X N T hck hdp hun XB TB D hret
  walk_at "mine enterT"
  walk_at "mine codes"
  k_steps
  refine' heard_okR (lv := 12) (fun l v nx => ∃ D k t1' t2' t3' c', v = .ref D ∧ nx = tupAt D #[.int (ks.getD 0 0 * 65536 + ks.getD 1 0 * 256 + ks.getD 2 0) t1', .int (ks.getD 3 0 * 256 + ks.getD 4 0) t2', .bytes c' t3'] k :: l ∧ KBw.bInts c' = ks.drop 5) ?hfn ?hf _ _ _ _ _ _ _ _ _ _ _ _ _ _ _ _ _ _ _ _ _ _ ?k1 ?k2 ?k3 ?k4 ?k5 ?kK ?kd ?ku ?_
  walk_at "mine heard"
  case hf =>
    intro p2 loose2 mean2 mg2 mb2 dp2 un2 gd2 cn2 cs2 a2 ccd2 cl2 outer2 A2 base2 h2 L2 m2 s2 Q2 E2 B2 F2 X2 N2 T2 hck2 hdp2 hun2 hret2
    walk_at "mine enterL"
    k_steps
    all_goals exact hret2 _ _ _ _ (by k_asm) (by k_asm) ⟨_, _, _, _, _, _, rfl, rfl, by assumption⟩
  refine o_9 ?_; intro D9 k9 u1 u2 u3 z9 h9 tk9 F9 N9 b9
  (try dsimp only)
  (try k_fold)
  k_steps
  all_goals first
    | (walk_at "mine absurd"; done)
    | (refine Exists.elim (lam_done hlo (by with_reducible assumption) (by with_reducible assumption) (by walk_at "mine sk") hx (by walk_at "mine me")) fun add hh => ?_; refine' hret _ _ _ _ _ (by assumption) (by assumption) (by assumption) (by assumption) ?_ (by assumption) (by assumption) ⟨rfl, _, add, rfl, hh.2.1, hh.2.2.1⟩; exact cb_drop (by with_reducible assumption) (add_app hh.1 (by walk_at "mine me") (by walk_at "mine sub")))
end
theorem kw_31 : True := by
  k_with_none
  k_with "mine kenter" => (k_dflt (first
  | (refine' code_def ?k1 ?k2 ?k3 ?k4 ?k5 ?qzkA ?qzkF ?kK ?qzk6 ?qzk7 ?qzk8 ?qzk9 ?qzkB ?_ ?qzc2 ?qzc3 ?qzc4 ?qzc5; (case qzkA => exact rfl); (case qzkF => exact rfl); (case kK => assumption); (case k1 => k_asm); (case k2 => k_asm); (case k3 => k_asm); (case k4 => k_asm); (case k5 => k_asm); (case qzk6 => k_is); (case qzk7 => k_is); (case qzk8 => ktr_room); (case qzk9 => first | exact BindsTo.of_eq rfl | exact binds_K (by k_in) rfl (by k_is) rfl rfl rfl); (case qzc5 => decide); (case qzkB => exact locs rfl); (case qzc2 => exact rfl); (case qzc3 => exact rfl); (case qzc4 => exact rfl); k_whole; intro g' L' h' FG' F' N' B' X' T'; (try dsimp only); (try k_lift B'); (try k_fold))
  | (refine' code_defC ?k1 ?k2 ?k3 ?k4 ?k5 ?qzkA ?qzkF ?kK ?qzk6 ?qzk7 ?qzk8 ?qzk9 ?qzkB ?qzkD ?_ ?qzc2 ?qzc3 ?qzc4; (case qzkA => exact rfl); (case qzkF => exact rfl); (case kK => assumption); (case k1 => k_asm); (case k2 => k_asm); (case k3 => k_asm); (case k4 => k_asm); (case k5 => k_asm); (case qzk6 => k_is); (case qzk7 => k_is); (case qzk8 => ktr_room); (case qzk9 => first | exact BindsTo.of_eq rfl | exact binds_K (by k_in) rfl (by k_is) rfl rfl rfl); (case qzkB => exact rfl); (case qzkD => decide +kernel); (case qzc2 => exact rfl); (case qzc3 => exact rfl); (case qzc4 => exact rfl); k_whole; intro g' L' h' tk' cells' FG' F' N' Y' B' X' T' l1; (try k_lt l1); k_cells Y'; (try simp only [List.cons_append, List.nil_append] at N'); (try dsimp only); (try k_lift B'); (try k_fold))))
  k_with "mine enter" => ((refine wpAny_call ?_; k_dflt (first
  | (refine' code_def ?k1 ?k2 ?k3 ?k4 ?k5 ?qzkA ?qzkF ?kK ?qzk6 ?qzk7 ?qzk8 ?qzk9 ?qzkB ?_ ?qzc2 ?qzc3 ?qzc4 ?qzc5; (case qzkA => exact rfl); (case qzkF => exact rfl); (case kK => assumption); (case k1 => k_asm); (case k2 => k_asm); (case k3 => k_asm); (case k4 => k_asm); (case k5 => k_asm); (case qzk6 => k_is); (case qzk7 => k_is); (case qzk8 => ktr_room); (case qzk9 => first | exact BindsTo.of_eq rfl | exact binds_K (by k_in) rfl (by k_is) rfl rfl rfl); (case qzc5 => decide); (case qzkB => exact locs rfl); (case qzc2 => exact rfl); (case qzc3 => exact rfl); (case qzc4 => exact rfl); k_whole; intro g' L' h' FG' F' N' B' X' T'; (try dsimp only); (try k_lift B'); (try k_fold))
  | (refine' code_defC ?k1 ?k2 ?k3 ?k4 ?k5 ?qzkA ?qzkF ?kK ?qzk6 ?qzk7 ?qzk8 ?qzk9 ?qzkB ?qzkD ?_ ?qzc2 ?qzc3 ?qzc4; (case qzkA => exact rfl); (case qzkF => exact rfl); (case kK => assumption); (case k1 => k_asm); (case k2 => k_asm); (case k3 => k_asm); (case k4 => k_asm); (case k5 => k_asm); (case qzk6 => k_is); (case qzk7 => k_is); (case qzk8 => ktr_room); (case qzk9 => first | exact BindsTo.of_eq rfl | exact binds_K (by k_in) rfl (by k_is) rfl rfl rfl); (case qzkB => exact rfl); (case qzkD => decide +kernel); (case qzc2 => exact rfl); (case qzc3 => exact rfl); (case qzc4 => exact rfl); k_whole; intro g' L' h' tk' cells' FG' F' N' Y' B' X' T' l1; (try k_lt l1); k_cells Y'; (try simp only [List.cons_append, List.nil_append] at N'); (try dsimp only); (try k_lift B'); (try k_fold)))))
  k_with "mine side" => (((case k1 => k_asm); (case k2 => k_asm); (case k3 => k_asm); (case k4 => k_asm); (case k5 => k_asm); (case kK => first | exact rfl | assumption); (case kd => ktr_room); (case ku => ktr_units)))
  k_with "mine kbabound" => (((try dsimp only); first | exact and255_lo _ | exact and255_hi _))
  k_with "mine news" => (first | k_asm | (refine cb_drop (by assumption) ?_; intro p9 hp9; (repeat (first | exact hp9 | refine List.mem_cons_of_mem _ ?_))))
  k_with "mine room" => (((with_reducible rename @LT.lt Nat _ (_ + _) recursionLimit => hq9); k_dflt (first | exact room_1 hq9 (by exact rfl) | exact room_j hq9 (by exact rfl) | exact room_0 hq9)))
  k_with "mine units" => (((with_reducible rename @LT.lt Nat _ (_ + _) cLine => hq9); k_dflt (first | exact units_1 hq9 (by exact rfl) | exact units_j hq9 (by exact rfl))))
  k_with "mine me" => (first | with_reducible exact me0 | with_reducible exact me1 | with_reducible exact me2 | with_reducible exact me3 | with_reducible exact me4 | with_reducible exact me5 | with_reducible exact me6 | with_reducible exact me7 | with_reducible exact me8 | with_reducible exact me9 | with_reducible exact me10 | with_reducible exact me11 | with_reducible exact me12 | with_reducible exact me13 | with_reducible exact me14 | with_reducible exact me15 | with_reducible exact me16 | with_reducible exact me17 | with_reducible exact me18 | with_reducible assumption | k_mem)
  k_with "mine ltall" => (((repeat ((with_reducible rename (∀ p ∈ _, Prod.fst p < _) => h7); replace h7 := allLt_of h7; simp only [AllLt, and_true] at h7))))
  k_with "mine kne" => ((refine neN ?_; (try dsimp only); first | with_reducible assumption | decide | exact Nat.ne_of_gt (by with_reducible assumption) | exact Nat.ne_of_lt (by with_reducible assumption) | exact ne_l (by with_reducible assumption) (by walk_at "mine me") | exact ne_r (by with_reducible assumption) (by walk_at "mine me") | exact ne_l2 (by with_reducible assumption) (by with_reducible assumption) (by walk_at "mine me") | exact ne_r2 (by with_reducible assumption) (by with_reducible assumption) (by walk_at "mine me") | exact ne_l1 (by with_reducible assumption) (by walk_at "mine me") | exact ne_r1 (by with_reducible assumption) (by walk_at "mine me") | exact ne_l11 (by with_reducible assumption) (by walk_at "mine me") | exact ne_r11 (by with_reducible assumption) (by walk_at "mine me") | exact ne_s1 | exact ne_s2 | exact ne_b1 (by with_reducible assumption) rfl | exact ne_b2 (by with_reducible assumption) rfl | exact Ne.symm (by with_reducible assumption) | (trace_state; walk_at "mine ltall"; omega)))
  k_with "mine sk" => (first | with_reducible exact sk0 | with_reducible exact sk1 | with_reducible exact sk2 | with_reducible exact sk3 | with_reducible exact sk4 | with_reducible exact sk5 | with_reducible exact sk6 | with_reducible exact sk7 | with_reducible exact sk8 | with_reducible exact sk9 | with_reducible exact sk10 | with_reducible exact sk11 | with_reducible exact sk12 | with_reducible exact sk13 | with_reducible exact sk14 | with_reducible exact sk15 | with_reducible exact sk16 | with_reducible exact sk17 | with_reducible exact sk18)
  k_with "mine kall" => (first | with_reducible assumption | exact all_l (by with_reducible assumption) (by walk_at "mine sk") | exact all_l2 (by with_reducible assumption) (by with_reducible assumption) (by walk_at "mine sk") | exact all_l1 (by with_reducible assumption) (by walk_at "mine sk") | exact all_l11 (by with_reducible assumption) (by walk_at "mine sk") | (with_reducible exact List.forall_mem_nil _) | (refine' List.forall_mem_cons.mpr ⟨?qza, ?qzb⟩; (case qza => k_ne); (case qzb => k_all)) | (trace_state; exact all_ne (by assumption) (by walk_at "mine ltall"; omega)))
  k_with "mine lt" => (first | with_reducible assumption | exact lt_t0 (by with_reducible assumption) (by walk_at "mine me") | exact lt_t1 (by with_reducible assumption) (by with_reducible assumption) (by walk_at "mine me") | exact lt_t2 (by with_reducible assumption) (by with_reducible assumption) (by with_reducible assumption) (by walk_at "mine me") | (trace_state; walk_at "mine ltall"; omega))
  k_with "exec Raise some none" => ((k_here; (with_reducible show wpAny _ _ (exec (Stmt.Raise (some (Expr.Call (Expr.Name ("SizeError" : Str) _) _ [] _)) none _) _) _ _ _); refine' raise56 ?k1 ?k2 ?_; (case k1 => k_asm); (case k2 => k_dflt (exact rfl))))
  k_with "exec Raise some none" => ((k_here; (with_reducible show wpAny _ _ (exec (Stmt.Raise (some (Expr.Call (Expr.Name ("FormError" : Str) _) _ [] _)) none _) _) _ _ _); refine' raise44 ?k1 ?k2 ?_; (case k1 => k_asm); (case k2 => k_dflt (exact rfl))))
  k_with "call ref" => ((k_here; (first | (with_reducible show wpAny _ _ (call (Value.ref 56) [Value.str _ _]) _ _ _) | (with_reducible show wpAny _ _ (call (Value.ref 44) [Value.str _ _]) _ _ _)); k_dflt (refine' exc_call_sp _ _ _ _ _ ?qzhC _ _ _ _ _ _ _ _ _ _ _ _ _ _ _ _ _ _ _ _ _ _ ?k1 ?k2 ?k3 ?k4 ?k5 ?kK ?kd ?ku ?_; (case qzhC => decide); walk_at "mine side"); intro v9 nx9 h9 tk9 F9 N9 r9; obtain ⟨e9, d9, t9, q9, f9, n9⟩ := r9; subst q9; rw [f9] at N9; clear f9; (try dsimp only); (try k_fold)))
  k_with "RaiseEnd" => ((k_here; refine' RaiseEnd.intro ?k1 ?k2 ?k3 ?_; (case k1 => k_asm); (case k2 => k_asm); (case k3 => k_asm); (try dsimp only)))
  k_with "leaving ref" => ((k_here; refine' leave_mine ?k1 ?k2 ?k3 ?k4 ?k5 ?qzk6 ?_; (case k1 => k_asm); (case k2 => k_asm); (case k3 => k_asm); (case k4 => assumption); (case k5 => k_dflt (exact rfl)); (case qzk6 => k_dflt (exact rfl)); intro h' R' U'; (try dsimp only)))
  k_with "call type:bytes" => ((k_here; (with_reducible show wpAny _ _ (call (Value.type "bytes") [Value.bytes _ _]) _ _ _); with_reducible refine call_bytes_bytes ?_))
  k_with "call type:bytes" => ((k_here; (with_reducible show wpAny _ _ (call (Value.type "bytes") [Value.int _ _]) _ _ _); (refine' call_bytes_zeros ?k1 ?k2 ?_; (case k1 => omega); (case k2 => omega); intro c9 zs9 u9 k9 b9 z9 n9; (try dsimp only))))
  k_with "call type:bytes" => ((k_here; (with_reducible show wpAny _ _ (call (Value.type "bytes") [Value.ref _]) _ _ _); k_dflt (refine' KBa.make_K ?qzkbaF ?qzkbaN ?qzkbah ?qzkbal ?qzkbai ?qzkbar ?qzkban ?_; (case qzkbaF => k_asm); (case qzkbaN => k_asm); (case qzkbah => rfl); (case qzkbal => kba_isList); (case qzkbai => kba_listInts); (case qzkbar => walk_at "mine in"); (case qzkban => kba_size)); intro _ _ _ F' N' kbaIn))
  k_with "mine in" => (first | exact in_one (by omega) (by omega) | (refine in_cons (by omega) (by omega) ?_; walk_at "mine in"; done) | exact in_nil | kba_in)
  k_with "mine sub" => ((repeat (first | exact sub_refl | refine sub_keep ?_ | refine sub_skip ?_)))
  k_with "mine raised" => (first | (intro q9 hq9; (repeat (first | exact hq9 | refine List.mem_cons_of_mem _ ?_)); done) | (walk_at "mine sub"; done))
  k_with "mine news" => (first | k_asm | (refine cb_drop (by assumption) ?_; first | (intro p9 hp9; (repeat (first | exact hp9 | refine List.mem_cons_of_mem _ ?_)); done) | (walk_at "mine sub"; done)))
  k_with "mine absurd" => (first | (exfalso; omega) | (exfalso; (rename ((_ && _ : Bool) = _) => hx9); (simp only [Bool.and_eq_true, Bool.and_eq_false_iff, beq_iff_eq, beq_eq_false_iff_ne, ne_eq] at hx9); omega))
  k_with "compareOp In int ref" => ((k_here; (with_reducible show wpAny _ _ (compareOp CmpOp.In (Value.int _ _) (Value.ref 206)) _ _ _); first | (refine' in206_t ?k1 ?k2 ?k3 ?_; (case k1 => k_asm); (case k2 => k_asm); (case k3 => omega)) | (refine' in206_f ?k1 ?k2 ?k3 ?_; (case k1 => k_asm); (case k2 => k_asm); (case k3 => omega))))
  k_with "compareOp NotIn int ref" => ((k_here; (with_reducible show wpAny _ _ (compareOp CmpOp.NotIn (Value.int _ _) (Value.ref 206)) _ _ _); refine' notin206_t ?k1 ?k2 ?k3 ?_; (case k1 => k_asm); (case k2 => k_asm); (case k3 => omega)))
  k_with "mine mem" => (first | assumption | (refine List.forall_mem_cons.mpr ⟨by k_mem, List.forall_mem_cons.mpr ⟨by k_mem, List.forall_mem_nil _⟩⟩))
  k_with "getMethod bytes" => ((k_here; with_reducible refine join_method ?_))
  k_with "call builtin:bytes.join" => ((k_here; (with_reducible show wpAny _ _ (call (Value.builtin "bytes.join") [Value.bytes _ _, Value.ref _]) _ _ _); k_dflt (first | (refine' call_join0 ?k1 ?_; (case k1 => kba_isList); intro u9 k9; (have j9 := ints_nil)) | (refine' call_join1 ?k1 ?_; (case k1 => kba_isList)))))
  k_with "eval ListComp" => ((k_here; (with_reducible show wpAny _ _ (eval (Expr.ListComp _ [⟨Expr.Name _ _, Expr.Attribute _ _ _, [], 0⟩] _ _) _) _ _ _); k_dflt (refine listComp_tup (by k_asm) (by with_unfolding_all rfl) (by decide) (by rfl) (by decide) (by rfl) ?_)))
  k_with "TupSrc" => ((k_here; k_dflt (refine' TupSrc.intro ?k1 ?k2 ?k3 ?k4 ?k5 ?_; (case k1 => rfl); (case k2 => k_asm); (case k3 => k_asm); (case k4 => k_mem); (case k5 => exact Nat.le_of_ble_eq_true rfl); intro g'; first | (refine rest_nil rfl ?_) | (refine rest_one rfl (fun I' oI' C' oC' D' m' h' tk' E' hC' hx' F' N' off' ne' => ?_)))))
  k_with "CompEnd" => ((k_dflt (refine' LCg.CompEnd.intro ?k1 ?k2 _ ?k3 ?k4 ?k5 ?_; (case k1 => k_asm); (case k2 => k_asm); (case k3 => exact sub_refl); (case k4 => assumption); (case k5 => k_mem); (try dsimp only))))
  k_with "mine omega" => (first | omega | (simp only [List.length_append, List.length_cons, List.length_nil] <;> omega))
  k_with "call ref" => ((k_here; (with_reducible show wpAny _ _ (call (Value.ref 160) [Value.bytes _ _]) _ _ _); k_dflt (first | (refine' crc_sp _ _ _ _ (by kba_ints) _ _ _ _ _ _ _ _ _ _ _ _ _ _ _ _ _ _ _ _ _ _ _ ?k1 ?k2 ?k3 ?k4 ?k5 ?kK ?kd ?ku ?_; walk_at "mine side"; refine o_0 ?_; intro t9 h9 tk9 F9 N9; (try dsimp only); (try k_fold)))))
  k_with "call ref" => ((k_here; (with_reducible show wpAny _ _ (call (Value.ref 170) [Value.int _ _, Value.int _ _]) _ _ _); k_dflt (first | (refine' put1_sp _ _ _ _ ?qzh0 ?qzh1 _ _ _ _ _ _ _ _ _ _ _ _ _ _ _ _ _ _ _ _ _ _ _ ?k1 ?k2 ?k3 ?k4 ?k5 ?kK ?kd ?ku ?_; (case qzh0 => walk_at "mine omega"); (case qzh1 => walk_at "mine omega"); walk_at "mine side"; refine o_1 ?_; intro c9 t9 h9 tk9 F9 N9 b9; (try dsimp only); (try k_fold)) | (refine' put1_raise _ _ _ _ ?qzh0 _ _ _ _ _ _ _ _ _ _ _ _ _ _ _ _ _ _ _ _ _ _ _ ?k1 ?k2 ?k3 ?k4 ?k5 ?kK ?kd ?ku ?_; (case qzh0 => walk_at "mine omega"); walk_at "mine side"; intro e9 G9 h9 tk9 F9 R9 U9; (try dsimp only)) | (refine' put2_sp _ _ _ _ ?qzh0 ?qzh1 _ _ _ _ _ _ _ _ _ _ _ _ _ _ _ _ _ _ _ _ _ _ _ ?k1 ?k2 ?k3 ?k4 ?k5 ?kK ?kd ?ku ?_; (case qzh0 => walk_at "mine omega"); (case qzh1 => walk_at "mine omega"); walk_at "mine side"; refine o_1 ?_; intro c9 t9 h9 tk9 F9 N9 b9; (try dsimp only); (try k_fold)) | (refine' put2_raise _ _ _ _ ?qzh0 _ _ _ _ _ _ _ _ _ _ _ _ _ _ _ _ _ _ _ _ _ _ _ ?k1 ?k2 ?k3 ?k4 ?k5 ?kK ?kd ?ku ?_; (case qzh0 => walk_at "mine omega"); walk_at "mine side"; intro e9 G9 h9 tk9 F9 R9 U9; (try dsimp only)) | (refine' put6_sp _ _ _ _ ?qzh0 ?qzh1 _ _ _ _ _ _ _ _ _ _ _ _ _ _ _ _ _ _ _ _ _ _ _ ?k1 ?k2 ?k3 ?k4 ?k5 ?kK ?kd ?ku ?_; (case qzh0 => walk_at "mine omega"); (case qzh1 => walk_at "mine omega"); walk_at "mine side"; refine o_1 ?_; intro c9 t9 h9 tk9 F9 N9 b9; (try dsimp only); (try k_fold)))))
  k_with "call ref" => ((k_here; (with_reducible show wpAny _ _ (call (Value.ref 177) [Value.bytes _ _, Value.int _ _, Value.int _ _]) _ _ _); k_dflt (first | (refine' get1v _ _ _ _ (by kba_ints) ?qzh0 _ _ _ ?qzh1 ?qzh2 _ _ _ _ _ _ _ _ _ _ _ _ _ _ _ _ _ _ _ _ _ _ _ ?k1 ?k2 ?k3 ?k4 ?k5 ?kK ?kd ?ku ?_; (case qzh0 => walk_at "mine omega"); (case qzh1 => walk_at "mine omega"); (case qzh2 => walk_at "mine omega"); walk_at "mine side"; refine o_2 ?_; intro t9 h9 tk9 F9 N9 lo9 hi9; (try dsimp only); (try k_fold)) | (refine' get3v _ _ _ _ (by kba_ints) ?qzh0 _ _ _ ?qzh1 ?qzh2 _ _ _ _ _ _ _ _ _ _ _ _ _ _ _ _ _ _ _ _ _ _ _ ?k1 ?k2 ?k3 ?k4 ?k5 ?kK ?kd ?ku ?_; (case qzh0 => walk_at "mine omega"); (case qzh1 => walk_at "mine omega"); (case qzh2 => walk_at "mine omega"); walk_at "mine side"; refine o_2 ?_; intro t9 h9 tk9 F9 N9 lo9 hi9; (try dsimp only); (try k_fold)) | (refine' get_sp _ _ _ _ (by kba_ints) ?qzh0 _ _ _ _ ?qzh1 ?qzh2 ?qzh3 ?qzh4 _ _ _ _ _ _ _ _ _ _ _ _ _ _ _ _ _ _ _ _ _ _ _ ?k1 ?k2 ?k3 ?k4 ?k5 ?kK ?kd ?ku ?_; (case qzh0 => walk_at "mine omega"); (case qzh1 => walk_at "mine omega"); (case qzh2 => walk_at "mine omega"); (case qzh3 => walk_at "mine omega"); (case qzh4 => walk_at "mine omega"); walk_at "mine side"; refine o_0 ?_; intro t9 h9 tk9 F9 N9; (try dsimp only); (try k_fold)) | (refine' get_raise _ _ _ _ (by kba_ints) ?qzh0 _ _ _ _ ?qzh1 ?qzh2 ?qzh3 ?qzh4 ?qzh5 _ _ _ _ _ _ _ _ _ _ _ _ _ _ _ _ _ _ _ _ _ _ _ ?k1 ?k2 ?k3 ?k4 ?k5 ?kK ?kd ?ku ?_; (case qzh0 => walk_at "mine omega"); (case qzh1 => walk_at "mine omega"); (case qzh2 => walk_at "mine omega"); (case qzh3 => walk_at "mine omega"); (case qzh4 => walk_at "mine omega"); (case qzh5 => walk_at "mine omega"); walk_at "mine side"; intro e9 G9 h9 tk9 F9 R9 U9; (try dsimp only)))))
  k_with "call ref" => ((k_here; (with_reducible show wpAny _ _ (call (Value.ref 184) [Value.int _ _]) _ _ _); k_dflt (first | (refine' put16_sp _ _ _ ?qzh0 ?qzh1 _ _ _ _ _ _ _ _ _ _ _ _ _ _ _ _ _ _ _ _ _ _ _ ?k1 ?k2 ?k3 ?k4 ?k5 ?kK ?kd ?ku ?_; (case qzh0 => walk_at "mine omega"); (case qzh1 => walk_at "mine omega"); walk_at "mine side"; refine o_1 ?_; intro c9 t9 h9 tk9 F9 N9 b9; (try dsimp only); (try k_fold)) | (refine' put16_sp _ _ _ ?qzh0 ?qzh1 _ _ _ _ _ _ _ _ _ _ _ _ _ _ _ _ _ _ _ _ _ _ _ ?k1 ?k2 ?k3 ?k4 ?k5 ?kK ?kd ?ku ?_; walk_at "mine side"; (case qzh0 => decide); (case qzh1 => decide); refine o_1 ?_; intro c9 t9 h9 tk9 F9 N9 b9; (try dsimp only); (try k_fold)) | (refine' put16_raise _ _ _ ?qzh0 _ _ _ _ _ _ _ _ _ _ _ _ _ _ _ _ _ _ _ _ _ _ _ ?k1 ?k2 ?k3 ?k4 ?k5 ?kK ?kd ?ku ?_; (case qzh0 => walk_at "mine omega"); walk_at "mine side"; intro e9 G9 h9 tk9 F9 R9 U9; (try dsimp only)))))
  k_with "call ref" => ((k_here; (with_reducible show wpAny _ _ (call (Value.ref 191) [Value.int _ _]) _ _ _); k_dflt (first | (refine' put48_sp _ _ _ ?qzh0 ?qzh1 _ _ _ _ _ _ _ _ _ _ _ _ _ _ _ _ _ _ _ _ _ _ _ ?k1 ?k2 ?k3 ?k4 ?k5 ?kK ?kd ?ku ?_; (case qzh0 => walk_at "mine omega"); (case qzh1 => walk_at "mine omega"); walk_at "mine side"; refine o_1 ?_; intro c9 t9 h9 tk9 F9 N9 b9; (try dsimp only); (try k_fold)))))
  k_with "call ref" => ((k_here; (with_reducible show wpAny _ _ (call (Value.ref 198) [Value.bytes _ _, Value.int _ _]) _ _ _); k_dflt (first | (refine' get16v _ _ _ _ (by kba_ints) ?qzh0 _ _ ?qzh1 ?qzh2 _ _ _ _ _ _ _ _ _ _ _ _ _ _ _ _ _ _ _ _ _ _ _ ?k1 ?k2 ?k3 ?k4 ?k5 ?kK ?kd ?ku ?_; (case qzh0 => walk_at "mine omega"); (case qzh1 => walk_at "mine omega"); (case qzh2 => walk_at "mine omega"); walk_at "mine side"; refine o_3 ?_; intro t9 h9 tk9 F9 N9 lo9 hi9 lo8 hi8; (try dsimp only); (try k_fold)) | (refine' get16_raise _ _ _ _ (by kba_ints) ?qzh0 _ _ ?qzh1 ?qzh2 ?qzh3 _ _ _ _ _ _ _ _ _ _ _ _ _ _ _ _ _ _ _ _ _ _ _ ?k1 ?k2 ?k3 ?k4 ?k5 ?kK ?kd ?ku ?_; (case qzh0 => walk_at "mine omega"); (case qzh1 => walk_at "mine omega"); (case qzh2 => walk_at "mine omega"); (case qzh3 => walk_at "mine omega"); walk_at "mine side"; intro e9 G9 h9 tk9 F9 R9 U9; (try dsimp only)))))
  k_with "call ref" => ((k_here; (with_reducible show wpAny _ _ (call (Value.ref 198) [Value.bytes _ _, Value.int _ _]) _ _ _); k_dflt (first | (refine' get16c _ _ _ _ (by kba_ints) 12 _ ?qzh9 ?qzh0 _ _ ?qzh1 ?qzh2 _ _ _ _ _ _ _ _ _ _ _ _ _ _ _ _ _ _ _ _ _ _ _ ?k1 ?k2 ?k3 ?k4 ?k5 ?kK ?kd ?ku ?_; (case qzh0 => walk_at "mine omega"); (case qzh2 => walk_at "mine omega"); walk_at "mine side"; (case qzh9 => assumption); (case qzh1 => first | exact rfl | decide); refine o_0 ?_; intro t9 h9 tk9 F9 N9; (try dsimp only); (try k_fold)) | (refine' get16c _ _ _ _ (by kba_ints) 14 _ ?qzh9 ?qzh0 _ _ ?qzh1 ?qzh2 _ _ _ _ _ _ _ _ _ _ _ _ _ _ _ _ _ _ _ _ _ _ _ ?k1 ?k2 ?k3 ?k4 ?k5 ?kK ?kd ?ku ?_; (case qzh0 => walk_at "mine omega"); (case qzh2 => walk_at "mine omega"); walk_at "mine side"; (case qzh9 => assumption); (case qzh1 => first | exact rfl | decide); refine o_0 ?_; intro t9 h9 tk9 F9 N9; (try dsimp only); (try k_fold)) | (refine' get16c _ _ _ _ (by kba_ints) 16 _ ?qzh9 ?qzh0 _ _ ?qzh1 ?qzh2 _ _ _ _ _ _ _ _ _ _ _ _ _ _ _ _ _ _ _ _ _ _ _ ?k1 ?k2 ?k3 ?k4 ?k5 ?kK ?kd ?ku ?_; (case qzh0 => walk_at "mine omega"); (case qzh2 => walk_at "mine omega"); walk_at "mine side"; (case qzh9 => assumption); (case qzh1 => first | exact rfl | decide); refine o_0 ?_; intro t9 h9 tk9 F9 N9; (try dsimp only); (try k_fold)) | (refine' get16v _ _ _ _ (by kba_ints) ?qzh0 _ _ ?qzh1 ?qzh2 _ _ _ _ _ _ _ _ _ _ _ _ _ _ _ _ _ _ _ _ _ _ _ ?k1 ?k2 ?k3 ?k4 ?k5 ?kK ?kd ?ku ?_; (case qzh0 => walk_at "mine omega"); (case qzh1 => walk_at "mine omega"); (case qzh2 => walk_at "mine omega"); walk_at "mine side"; refine o_3 ?_; intro t9 h9 tk9 F9 N9 lo9 hi9 lo8 hi8; (try dsimp only); (try k_fold)) | (refine' get16_raise _ _ _ _ (by kba_ints) ?qzh0 _ _ ?qzh1 ?qzh2 ?qzh3 _ _ _ _ _ _ _ _ _ _ _ _ _ _ _ _ _ _ _ _ _ _ _ ?k1 ?k2 ?k3 ?k4 ?k5 ?kK ?kd ?ku ?_; (case qzh0 => walk_at "mine omega"); (case qzh1 => walk_at "mine omega"); (case qzh2 => walk_at "mine omega"); (case qzh3 => walk_at "mine omega"); walk_at "mine side"; intro e9 G9 h9 tk9 F9 R9 U9; (try dsimp only)))))
  k_with "call ref" => ((k_here; (with_reducible show wpAny _ _ (call (Value.ref 205) [Value.bytes _ _, Value.int _ _]) _ _ _); k_dflt (first | (refine' get48_sp _ _ _ _ (by kba_ints) ?qzh0 _ _ ?qzh1 ?qzh2 _ _ _ _ _ _ _ _ _ _ _ _ _ _ _ _ _ _ _ _ _ _ _ ?k1 ?k2 ?k3 ?k4 ?k5 ?kK ?kd ?ku ?_; (case qzh0 => walk_at "mine omega"); (case qzh1 => walk_at "mine omega"); (case qzh2 => walk_at "mine omega"); walk_at "mine side"; refine o_0 ?_; intro t9 h9 tk9 F9 N9; (try dsimp only); (try k_fold)))))
  k_with "call ref" => ((k_here; (with_reducible show wpAny _ _ (call (Value.ref 334) [Value.int _ _, Value.int _ _, Value.int _ _, Value.bytes _ _]) _ _ _); k_dflt (first | (refine' llc_sp _ _ _ _ _ _ _ _ _ _ _ _ _ _ _ _ _ _ _ _ _ _ _ _ _ _ _ _ _ _ _ _ ?k1 ?k2 ?k3 ?k4 ?k5 ?kK ?kd ?ku ?_; walk_at "mine side"; refine o_4 ?_; intro x9 d9 ka9 kb9 kc9 kd9 h9 tk9 F9 N9 l9 l8; (try unfold llcD at N9); (try k_lt l9); (try k_lt2 l8); (try dsimp only); (try k_fold)))))
  k_with "call ref" => ((k_here; (with_reducible show wpAny _ _ (call (Value.ref 352) [Value.ref _]) _ _ _); k_dflt (first | (refine' pack_sp _ _ _ _ _ _ _ _ _ _ _ _ _ _ _ _ _ ?qzh9 ?qzh0 _ ?qzh1 ?qzh2 ?qzh3 ?qzh8 ?qzh4 _ _ _ _ _ _ _ _ _ _ _ _ _ _ _ _ _ _ _ _ _ _ ?k1 ?k2 ?k3 ?k4 ?k5 ?kK ?kd ?ku ?_; walk_at "mine side"; (case qzh4 => walk_at "mine mem"); (case qzh9 => kba_ints); (case qzh8 => assumption); (case qzh0 => walk_at "mine omega"); (case qzh1 => walk_at "mine omega"); (case qzh2 => walk_at "mine omega"); (case qzh3 => walk_at "mine omega"); refine o_5 ?_; intro c9 t9 h9 tk9 F9 N9 b9; (try dsimp only); (try k_fold)) | (refine' pack_no _ _ _ _ _ _ _ _ _ _ _ _ _ _ _ _ ?qzh9 ?qzh0 _ ?qzh1 ?qzh2 ?qzh3 ?qzh5 ?qzh8 ?qzh4 _ _ _ _ _ _ _ _ _ _ _ _ _ _ _ _ _ _ _ _ _ _ ?k1 ?k2 ?k3 ?k4 ?k5 ?kK ?kd ?ku ?_; walk_at "mine side"; (case qzh4 => walk_at "mine mem"); (case qzh9 => kba_ints); (case qzh8 => assumption); (case qzh0 => walk_at "mine omega"); (case qzh1 => walk_at "mine omega"); (case qzh2 => walk_at "mine omega"); (case qzh3 => walk_at "mine omega"); (case qzh5 => walk_at "mine omega"); intro e9 G9 h9 tk9 F9 R9 U9; (try dsimp only)))))
  k_with "call ref" => ((k_here; (with_reducible show wpAny _ _ (call (Value.ref 394) [Value.ref _, Value.ref _]) _ _ _); k_dflt (first | (refine' one_int _ _ _ _ _ _ _ 60 _ _ _ _ _ ?qzU ?qzh0 ?qzh1 ?qzh2 ?qzh3 ?qzh4 ?qzh6 ?qzh5 ?qzh7 _ _ _ _ _ _ _ _ _ _ _ _ _ _ _ _ _ _ _ _ _ _ ?k1 ?k2 ?k3 ?k4 ?k5 ?kK ?kd ?ku ?_; walk_at "mine side"; (case qzU => walk_at "mine upd"); (case qzh6 => k_mem); (case qzh7 => walk_at "mine ints"); (case qzh0 => walk_at "mine omega"; skip); (case qzh1 => walk_at "mine omega"; skip); (case qzh2 => walk_at "mine omega"; skip); (case qzh3 => exact Nat.le_of_ble_eq_true rfl); (case qzh4 => exact Nat.le_of_ble_eq_true rfl); (case qzh5 => walk_at "mine ane"); refine o_7 ?_; intro dr9 t9 aa9 bb9 u9 v9 m9 h9 tk9 F9 N9 lo9 hi9 aa0 bb0 bb1; (try dsimp only at N9); (try dsimp only); (try k_fold)) | (refine' one_int _ _ _ _ _ _ _ 255 _ _ _ _ _ ?qzU ?qzh0 ?qzh1 ?qzh2 ?qzh3 ?qzh4 ?qzh6 ?qzh5 ?qzh7 _ _ _ _ _ _ _ _ _ _ _ _ _ _ _ _ _ _ _ _ _ _ ?k1 ?k2 ?k3 ?k4 ?k5 ?kK ?kd ?ku ?_; walk_at "mine side"; (case qzU => walk_at "mine upd"); (case qzh6 => k_mem); (case qzh7 => walk_at "mine ints"); (case qzh0 => walk_at "mine omega"; skip); (case qzh1 => walk_at "mine omega"; skip); (case qzh2 => walk_at "mine omega"; skip); (case qzh3 => exact Nat.le_of_ble_eq_true rfl); (case qzh4 => exact Nat.le_of_ble_eq_true rfl); (case qzh5 => walk_at "mine ane"); refine o_7 ?_; intro dr9 t9 aa9 bb9 u9 v9 m9 h9 tk9 F9 N9 lo9 hi9 aa0 bb0 bb1; (try dsimp only at N9); (try dsimp only); (try k_fold)) | (refine' one_int _ _ _ _ _ _ _ 1000 _ _ _ _ _ ?qzU ?qzh0 ?qzh1 ?qzh2 ?qzh3 ?qzh4 ?qzh6 ?qzh5 ?qzh7 _ _ _ _ _ _ _ _ _ _ _ _ _ _ _ _ _ _ _ _ _ _ ?k1 ?k2 ?k3 ?k4 ?k5 ?kK ?kd ?ku ?_; walk_at "mine side"; (case qzU => walk_at "mine upd"); (case qzh6 => k_mem); (case qzh7 => walk_at "mine ints"); (case qzh0 => walk_at "mine omega"; skip); (case qzh1 => walk_at "mine omega"; skip); (case qzh2 => walk_at "mine omega"; skip); (case qzh3 => exact Nat.le_of_ble_eq_true rfl); (case qzh4 => exact Nat.le_of_ble_eq_true rfl); (case qzh5 => walk_at "mine ane"); refine o_7 ?_; intro dr9 t9 aa9 bb9 u9 v9 m9 h9 tk9 F9 N9 lo9 hi9 aa0 bb0 bb1; (try dsimp only at N9); (try dsimp only); (try k_fold)) | (refine' one_int _ _ _ _ _ _ _ 65536 _ _ _ _ _ ?qzU ?qzh0 ?qzh1 ?qzh2 ?qzh3 ?qzh4 ?qzh6 ?qzh5 ?qzh7 _ _ _ _ _ _ _ _ _ _ _ _ _ _ _ _ _ _ _ _ _ _ ?k1 ?k2 ?k3 ?k4 ?k5 ?kK ?kd ?ku ?_; walk_at "mine side"; (case qzU => walk_at "mine upd"); (case qzh6 => k_mem); (case qzh7 => walk_at "mine ints"); (case qzh0 => walk_at "mine omega"; skip); (case qzh1 => walk_at "mine omega"; skip); (case qzh2 => walk_at "mine omega"; skip); (case qzh3 => exact Nat.le_of_ble_eq_true rfl); (case qzh4 => exact Nat.le_of_ble_eq_true rfl); (case qzh5 => walk_at "mine ane"); refine o_7 ?_; intro dr9 t9 aa9 bb9 u9 v9 m9 h9 tk9 F9 N9 lo9 hi9 aa0 bb0 bb1; (try dsimp only at N9); (try dsimp only); (try k_fold)) | (refine' one_int _ _ _ _ _ _ _ 16777219 _ _ _ _ _ ?qzU ?qzh0 ?qzh1 ?qzh2 ?qzh3 ?qzh4 ?qzh6 ?qzh5 ?qzh7 _ _ _ _ _ _ _ _ _ _ _ _ _ _ _ _ _ _ _ _ _ _ ?k1 ?k2 ?k3 ?k4 ?k5 ?kK ?kd ?ku ?_; walk_at "mine side"; (case qzU => walk_at "mine upd"); (case qzh6 => k_mem); (case qzh7 => walk_at "mine ints"); (case qzh0 => walk_at "mine omega"; skip); (case qzh1 => walk_at "mine omega"; skip); (case qzh2 => walk_at "mine omega"; skip); (case qzh3 => exact Nat.le_of_ble_eq_true rfl); (case qzh4 => exact Nat.le_of_ble_eq_true rfl); (case qzh5 => walk_at "mine ane"); refine o_7 ?_; intro dr9 t9 aa9 bb9 u9 v9 m9 h9 tk9 F9 N9 lo9 hi9 aa0 bb0 bb1; (try dsimp only at N9); (try dsimp only); (try k_fold)))))
  k_with "call ref" => ((k_here; (with_reducible show wpAny _ _ (call (Value.ref 366) [Value.ref _]) _ _ _); k_dflt (first | (refine' snap_none_m _ _ _ _ _ _ _ _ _ _ _ _ _ _ _ _ ?qzh0 ?qzh4 _ _ _ _ _ _ _ _ _ _ _ _ _ _ _ _ _ _ _ _ _ _ ?k1 ?k2 ?k3 ?k4 ?k5 ?kK ?kd ?ku ?_; walk_at "mine side"; (case qzh4 => walk_at "mine mem"); (case qzh0 => walk_at "mine omega"; skip); refine o_8 ?_; intro h9 tk9 F9 N9; (try dsimp only); (try k_fold)) | (refine' snap_raise_m _ _ _ _ _ _ _ _ _ _ _ _ _ _ _ _ ?qzh9 ?qzh0 _ ?qzh1 ?qzh2 ?qzh3 ?qzh4 _ _ _ _ _ _ _ _ _ _ _ _ _ _ _ _ _ _ _ _ _ _ ?k1 ?k2 ?k3 ?k4 ?k5 ?kK ?kd ?ku ?_; walk_at "mine side"; (case qzh4 => walk_at "mine mem"); (case qzh9 => kba_ints); (case qzh1 => walk_at "mine omega"; skip); (case qzh2 => walk_at "mine omega"; skip); (case qzh3 => walk_at "mine omega"; skip); (case qzh0 => walk_at "mine omega"; skip); intro e9 G9 h9 tk9 F9 R9 U9; (try dsimp only)) | (refine' snap_ok_m _ _ _ _ _ _ _ _ _ _ _ _ _ _ _ _ ?qzh9 ?qzh0 ?qzh5 _ ?qzh1 ?qzh2 ?qzh3 ?qzh4 _ _ _ _ _ _ _ _ _ _ _ _ _ _ _ _ _ _ _ _ _ _ ?k1 ?k2 ?k3 ?k4 ?k5 ?kK ?kd ?ku ?_; walk_at "mine side"; (case qzh4 => walk_at "mine mem"); (case qzh9 => kba_ints); (case qzh1 => walk_at "mine omega"; skip); (case qzh2 => walk_at "mine omega"; skip); (case qzh3 => walk_at "mine omega"; skip); (case qzh0 => walk_at "mine omega"; skip); (case qzh5 => walk_at "mine omega"; skip); refine o_9 ?_; intro dd9 ka9 t9 u9 v9 c9 h9 tk9 F9 N9 b9; (try dsimp only); (try k_fold)))))
  k_with "call ref" => ((k_here; (with_reducible show wpAny _ _ (call (Value.ref 302) [Value.bytes _ _, Value.int 12 _]) _ _ _); k_dflt (first | (refine' utags1 _ _ _ _ _ _ (by kba_ints) ?qzh0 ?qzh1 ?qzh2 ?qzh3 ?qzh4 ?qzh5 ?qzh6 _ _ _ _ _ _ _ _ _ _ _ _ _ _ _ _ _ _ _ _ _ _ _ ?k1 ?k2 ?k3 ?k4 ?k5 ?kK ?kd ?ku ?_; (case qzh0 => walk_at "mine omega"); (case qzh1 => walk_at "mine omega"); walk_at "mine side"; (case qzh2 => assumption); (case qzh3 => assumption); (case qzh4 => assumption); (case qzh5 => walk_at "mine omega"; skip); (case qzh6 => walk_at "mine omega"; skip); refine o_11 ?_; intro dd9 ff9 t9 ka9 kb9 x9 h9 tk9 F9 N9; (try dsimp only); (try k_fold)) | (refine' utags0 _ _ _ _ _ _ (by kba_ints) ?qzh0 ?qzh1 ?qzh2 ?qzh5 ?qzh6 _ _ _ _ _ _ _ _ _ _ _ _ _ _ _ _ _ _ _ _ _ _ _ ?k1 ?k2 ?k3 ?k4 ?k5 ?kK ?kd ?ku ?_; (case qzh0 => walk_at "mine omega"); (case qzh1 => walk_at "mine omega"); walk_at "mine side"; (case qzh2 => assumption); (case qzh5 => walk_at "mine omega"; skip); (case qzh6 => walk_at "mine omega"; skip); refine o_12 ?_; intro dd9 ff9 t9 ka9 kb9 h9 tk9 F9 N9; (try dsimp only); (try k_fold)))))
  k_with "call ref" => ((k_here; (with_reducible show wpAny _ _ (call (Value.ref 345) [Value.int _ _]) _ _ _); k_dflt (first | (refine' short_t _ _ _ ?qzh0 _ _ _ _ _ _ _ _ _ _ _ _ _ _ _ _ _ _ _ _ _ _ _ ?k1 ?k2 ?k3 ?k4 ?k5 ?kK ?kd ?ku ?_; walk_at "mine side"; (case qzh0 => walk_at "mine mod"); refine o_8 ?_; intro h9 tk9 F9 N9; (try dsimp only); (try k_fold)) | (refine' short_f _ _ _ ?qzh0 _ _ _ _ _ _ _ _ _ _ _ _ _ _ _ _ _ _ _ _ _ _ _ ?k1 ?k2 ?k3 ?k4 ?k5 ?kK ?kd ?ku ?_; walk_at "mine side"; (case qzh0 => walk_at "mine mod"); refine o_8 ?_; intro h9 tk9 F9 N9; (try dsimp only); (try k_fold)))))
  k_with "mine mod" => (((try rw [fd8]); omega))
  k_with "leaving ref" => ((k_here; refine' leave_mineOn ?k1 ?k2 ?k3 ?k4 ?k5 ?_; (case k3 => assumption); (case k2 => assumption); (case k1 => k_asm); (case k4 => assumption); (case k5 => k_dflt (exact rfl)); intro h' R' U'; (try dsimp only)))
  k_with "call ref" => ((k_here; (with_reducible show wpAny _ _ (call (Value.ref 177) [Value.bytes _ _, Value.int 2 _, Value.int 1 _]) _ _ _); k_dflt (first | (refine' get1at2 _ _ _ _ (by kba_ints) ?qzh0 _ _ ?qzh1 _ _ _ _ _ _ _ _ _ _ _ _ _ _ _ _ _ _ _ _ _ _ _ ?k1 ?k2 ?k3 ?k4 ?k5 ?kK ?kd ?ku ?_; (case qzh0 => walk_at "mine omega"); (case qzh1 => walk_at "mine omega"); walk_at "mine side"; refine o_2 ?_; intro t9 h9 tk9 F9 N9 lo9 hi9; (try dsimp only); (try k_fold)))))
  k_with "call ref" => ((k_here; (with_reducible show wpAny _ _ (call (Value.ref 177) [Value.bytes _ _, Value.int 0 _, Value.int 3 _]) _ _ _); k_dflt (first | (refine' get3at0 _ _ _ _ (by kba_ints) ?qzh0 _ _ ?qzh1 _ _ _ _ _ _ _ _ _ _ _ _ _ _ _ _ _ _ _ _ _ _ _ ?k1 ?k2 ?k3 ?k4 ?k5 ?kK ?kd ?ku ?_; (case qzh0 => walk_at "mine omega"); (case qzh1 => walk_at "mine omega"); walk_at "mine side"; refine o_2 ?_; intro t9 h9 tk9 F9 N9 lo9 hi9; (try dsimp only); (try k_fold)))))
  k_with "call ref" => ((k_here; (with_reducible show wpAny _ _ (call (Value.ref 198) [Value.bytes _ _, Value.int 2 _]) _ _ _); k_dflt (first | (refine' get16at2 _ _ _ _ (by kba_ints) ?qzh0 _ ?qzh1 _ _ _ _ _ _ _ _ _ _ _ _ _ _ _ _ _ _ _ _ _ _ _ ?k1 ?k2 ?k3 ?k4 ?k5 ?kK ?kd ?ku ?_; (case qzh0 => walk_at "mine omega"); (case qzh1 => walk_at "mine omega"); walk_at "mine side"; refine o_3 ?_; intro t9 h9 tk9 F9 N9 lo9 hi9 lo8 hi8; (try dsimp only); (try k_fold)))))
  k_with "call ref" => ((k_here; (with_reducible show wpAny _ _ (call (Value.ref 198) [Value.bytes _ _, Value.int 3 _]) _ _ _); k_dflt (first | (refine' get16at3 _ _ _ _ (by kba_ints) ?qzh0 _ ?qzh1 _ _ _ _ _ _ _ _ _ _ _ _ _ _ _ _ _ _ _ _ _ _ _ ?k1 ?k2 ?k3 ?k4 ?k5 ?kK ?kd ?ku ?_; (case qzh0 => walk_at "mine omega"); (case qzh1 => walk_at "mine omega"); walk_at "mine side"; refine o_3 ?_; intro t9 h9 tk9 F9 N9 lo9 hi9 lo8 hi8; (try dsimp only); (try k_fold)))))
  k_with "call ref" => ((k_here; (with_reducible show wpAny _ _ (call (Value.ref 230) [Value.int _ _, Value.int _ _, Value.bool _, Value.int _ _]) _ _ _); k_dflt (first | (refine' tag_sp _ _ _ _ _ _ _ _ _ _ _ _ _ _ _ _ _ _ _ _ _ _ _ _ _ _ _ _ _ _ _ ?k1 ?k2 ?k3 ?k4 ?k5 ?kK ?kd ?ku ?_; walk_at "mine side"; refine o_4 ?_; intro x9 d9 ka9 kb9 kc9 kd9 h9 tk9 F9 N9 l9 l8; (try unfold tagD at N9); (try k_lt l9); (try k_lt2 l8); (try dsimp only); (try k_fold)))))
  k_with "call ref" => ((k_here; (with_reducible show wpAny _ _ (call (Value.ref 264) [Value.int 5 _, Value.int 6 _, Value.ref _, Value.none, Value.bytes _ _]) _ _ _); k_dflt (first | (refine' frm_sp _ _ _ _ _ _ _ _ _ ?qzh0 _ _ _ _ _ _ _ _ _ _ _ _ _ _ _ _ _ _ _ _ _ _ ?k1 ?k2 ?k3 ?k4 ?k5 ?kK ?kd ?ku ?_; walk_at "mine side"; (case qzh0 => first | assumption | k_mem); refine o_10 ?_; intro x9 d9 ka9 kb9 kc9 kd9 ke9 h9 tk9 F9 N9 l9 l8; (try simp only [FrmAt, List.cons_append, List.nil_append] at N9); (try unfold frmD at N9); (try k_lt l9); (try k_lt2 l8); (try dsimp only); (try k_fold)))))
  k_with "call ref" => ((k_here; (with_reducible show wpAny _ _ (call (Value.ref 165) [Value.bytes _ _]) _ _ _); k_dflt (first | (refine' sum_sp _ _ _ _ (by kba_ints) _ _ _ _ _ _ _ _ _ _ _ _ _ _ _ _ _ _ _ _ _ _ _ ?k1 ?k2 ?k3 ?k4 ?k5 ?kK ?kd ?ku ?_; walk_at "mine side"; refine o_1 ?_; intro c9 t9 h9 tk9 F9 N9 b9; (have sl9 := sumF_at b9); (try dsimp only); (try k_fold)))))
  k_with "call ref" => ((k_here; (with_reducible show wpAny _ _ (call (Value.ref 275) [Value.ref _]) _ _ _); k_dflt (first | (refine' ptag_m _ _ _ _ _ _ _ _ _ _ _ ?qzh4 _ _ _ _ _ _ _ _ _ _ _ _ _ _ _ _ _ _ _ _ _ _ ?k1 ?k2 ?k3 ?k4 ?k5 ?kK ?kd ?ku ?_; walk_at "mine side"; (case qzh4 => walk_at "mine mem"); refine o_5 ?_; intro c9 t9 h9 tk9 F9 N9 b9; (try dsimp only); (try k_fold)))))
  k_with "call ref" => ((k_here; (with_reducible show wpAny _ _ (call (Value.ref 282) [Value.ref _]) _ _ _); k_dflt (first | (refine' pkind_sp _ _ _ _ _ _ _ _ _ _ _ _ _ _ ?qzh9 ?qzh0 _ ?qzh4 _ _ _ _ _ _ _ _ _ _ _ _ _ _ _ _ _ _ _ _ _ _ ?k1 ?k2 ?k3 ?k4 ?k5 ?kK ?kd ?ku ?_; walk_at "mine side"; (case qzh4 => walk_at "mine mem"); (case qzh9 => kba_ints); (case qzh0 => walk_at "mine omega"); refine o_5 ?_; intro c9 t9 h9 tk9 F9 N9 b9; (try dsimp only); (try k_fold)))))
  k_with "call ref" => ((k_here; (with_reducible show wpAny _ _ (call (Value.ref 295) [Value.bytes _ _, Value.int 12 _]) _ _ _); k_dflt (first | (refine' utag _ _ _ _ _ (by kba_ints) ?qzh0 ?qzh1 ?qzh2 ?qzh3 _ _ _ _ _ _ _ _ _ _ _ _ _ _ _ _ _ _ _ _ _ _ _ ?k1 ?k2 ?k3 ?k4 ?k5 ?kK ?kd ?ku ?_; (case qzh0 => walk_at "mine omega"); (case qzh1 => walk_at "mine omega"); walk_at "mine side"; (case qzh2 => assumption); (case qzh3 => assumption); refine o_13 ?_; intro x9 d9 ka9 kb9 kc9 kd9 va9 vb9 vc9 vd9 h9 tk9 F9 N9 l9 l8; (try unfold tagD at N9); (try k_lt l9); (try k_lt2 l8); (try dsimp only); (try k_fold)))))
  k_with "call ref" => ((k_here; (with_reducible show wpAny _ _ (call (Value.ref 264) [Value.int _ _, Value.int _ _, Value.ref _, Value.none, Value.bytes _ _]) _ _ _); k_dflt (first | (refine' frm_g _ _ _ _ _ _ _ _ _ _ _ ?qzh0 _ _ _ _ _ _ _ _ _ _ _ _ _ _ _ _ _ _ _ _ _ _ ?k1 ?k2 ?k3 ?k4 ?k5 ?kK ?kd ?ku ?_; walk_at "mine side"; (case qzh0 => first | assumption | k_mem); refine o_10 ?_; intro x9 d9 ka9 kb9 kc9 kd9 ke9 h9 tk9 F9 N9 l9 l8; (try unfold frmD at N9); (try k_lt l9); (try k_lt2 l8); (try dsimp only); (try k_fold)))))
  k_with "call ref" => ((k_here; (with_reducible show wpAny _ _ (call (Value.ref 387) [Value.ref _, Value.int _ _]) _ _ _); k_dflt (first | (refine' take_sp _ _ _ _ _ _ _ _ _ _ ?qzh0 ?qzh1 ?qzh2 ?qzh3 ?qzh4 ?qzh5 _ _ _ _ _ _ _ _ _ _ _ _ _ _ _ _ _ _ _ _ _ _ ?k1 ?k2 ?k3 ?k4 ?k5 ?kK ?kd ?ku ?_; walk_at "mine side"; (case qzh0 => walk_at "mine omega"; skip); (case qzh1 => walk_at "mine omega"; skip); (case qzh2 => walk_at "mine omega"; skip); (case qzh3 => walk_at "mine omega"; skip); (case qzh4 => walk_at "mine omega"; skip); (case qzh5 => walk_at "mine ne"); refine o_6 ?_; intro dr9 t9 aa9 bb9 u9 v9 m9 h9 tk9 F9 N9 lo9 hi9 aa0 bb0 bb1; (try dsimp only); (try k_fold)))))
  k_with "call ref" => ((k_here; (with_reducible show wpAny _ _ (call (Value.ref 387) [Value.ref _, Value.int _ _]) _ _ _); k_dflt (first | (refine' take_u _ _ _ _ _ _ _ _ _ _ _ ?qzU ?qzh0 ?qzh1 ?qzh2 ?qzh3 ?qzh4 _ _ _ _ _ _ _ _ _ _ _ _ _ _ _ _ _ _ _ _ _ _ ?k1 ?k2 ?k3 ?k4 ?k5 ?kK ?kd ?ku ?_; walk_at "mine side"; (case qzU => walk_at "mine upd"); (case qzh0 => walk_at "mine omega"; skip); (case qzh1 => walk_at "mine omega"; skip); (case qzh2 => walk_at "mine omega"; skip); (case qzh3 => walk_at "mine omega"; skip); (case qzh4 => walk_at "mine omega"; skip); refine o_6 ?_; intro dr9 t9 aa9 bb9 u9 v9 m9 h9 tk9 F9 N9 lo9 hi9 aa0 bb0 bb1; (try dsimp only at N9); (try dsimp only); (try k_fold)))))
  k_with "mine enterT" => ((refine wpAny_call ?_; k_dflt (first
  | (refine' code_defT ?k1 ?k2 ?k3 ?k4 ?k5 ?qzXB ?qzTB ?qzD ?qzkA ?qzkF ?kK ?qzk6 ?qzk7 ?qzk8 ?qzk9 ?qzkB ?_ ?qzc2 ?qzc3 ?qzc4 ?qzc5; (case qzkA => exact rfl); (case qzkF => exact rfl); (case kK => assumption); (case k1 => k_asm); (case k2 => k_asm); (case k3 => k_asm); (case k4 => k_asm); (case k5 => k_asm); (case qzXB => assumption); (case qzTB => assumption); (case qzD => assumption); (case qzk6 => k_is); (case qzk7 => k_is); (case qzk8 => ktr_room); (case qzk9 => first | exact BindsTo.of_eq rfl | exact binds_K (by k_in) rfl (by k_is) rfl rfl rfl); (case qzc5 => decide); (case qzkB => exact locs rfl); (case qzc2 => exact rfl); (case qzc3 => exact rfl); (case qzc4 => exact rfl); k_whole; intro g' L' h' FG' F' N' B' X' T' D'; (try dsimp only); (try k_lift B'); (try k_fold))
  | (refine' code_defCT ?k1 ?k2 ?k3 ?k4 ?k5 ?qzXB ?qzTB ?qzD ?qzkA ?qzkF ?kK ?qzk6 ?qzk7 ?qzk8 ?qzk9 ?qzkB ?qzkD ?_ ?qzc2 ?qzc3 ?qzc4; (case qzkA => exact rfl); (case qzkF => exact rfl); (case kK => assumption); (case k1 => k_asm); (case k2 => k_asm); (case k3 => k_asm); (case k4 => k_asm); (case k5 => k_asm); (case qzXB => assumption); (case qzTB => assumption); (case qzD => assumption); (case qzk6 => k_is); (case qzk7 => k_is); (case qzk8 => ktr_room); (case qzk9 => first | exact BindsTo.of_eq rfl | exact binds_K (by k_in) rfl (by k_is) rfl rfl rfl); (case qzkB => exact rfl); (case qzkD => decide +kernel); (case qzc2 => exact rfl); (case qzc3 => exact rfl); (case qzc4 => exact rfl); k_whole; intro g' L' h' tk' cells' FG' F' N' Y' B' X' T' l1 D'; (try k_lt l1); k_cells Y'; (try simp only [List.cons_append, List.nil_append] at N'); (try dsimp only); (try k_lift B'); (try k_fold)))))
  k_with "LeaveT" => ((k_dflt (refine' LeaveT.intro ?k1 ?k2 ?k3 ?_; (case k1 => k_asm); (case k2 => k_asm); (case k3 => first | assumption | exact KtsTurn.refl | exact KtsTurn.trans (by assumption) (by assumption) | exact KtsTurn.trans (by assumption) (KtsTurn.trans (by assumption) (by assumption)))); intro h9 T9 B9 F9 X9 N9 P9 D9; (try dsimp only)))
  k_with "noteFrame ref" => ((k_here; k_dflt (first
  | (refine' caught44 ?k1 ?k2 ?k3 ?k4 ?k5 ?qzk6 ?qzk7 ?_; (case k1 => assumption); (case k2 => assumption); (case k3 => assumption); (case k4 => assumption); (case k5 => assumption); (case qzk6 => assumption); (case qzk7 => assumption); intro h' g' T' F' N' B' X' P' D')
  | (refine' caught56 ?k1 ?k2 ?k3 ?k4 ?k5 ?qzk6 ?qzk7 ?_; (case k1 => assumption); (case k2 => assumption); (case k3 => assumption); (case k4 => assumption); (case k5 => assumption); (case qzk6 => assumption); (case qzk7 => assumption); intro h' g' T' F' N' B' X' P' D'))))
  k_with "call ref" => ((k_here; (with_reducible show wpAny _ _ (call (Value.ref _) []) _ _ _); first
  | ((rename Spec _ _ _ _ _ _ => hSp); k_dflt (refine' hSp _ _ _ _ _ _ _ _ _ _ _ _ _ _ _ _ _ _ _ _ _ _ ?k1 ?k2 ?k3 ?k4 ?k5 ?kK ?kd ?ku ?_; walk_at "mine side"); intro v9 nx9 h9 tk9 F9 N9 r9; (try dsimp only))
  | ((rename SpecE _ _ _ _ _ _ => hSp); k_dflt (refine' hSp _ _ _ _ _ _ _ _ _ _ _ _ _ _ _ _ _ _ _ _ _ _ ?k1 ?k2 ?k3 ?k4 ?k5 ?kK ?kd ?ku ?_; walk_at "mine side"); intro e9 G9 h9 tk9 F9 R9 U9; (try dsimp only))))
  k_with "callWith ref" => ((k_here; (with_reducible show wpAny _ _ (callWith _ (Value.ref _) _ (backTo _ (starEach [] _)) []) _ _ _); k_dflt (refine' callWith_F0 ?k1 ?_; (case k1 => exact FnAt.of (by k_asm) (by assumption)); (try dsimp only [List.nil_append, List.cons_append]))))
  k_with "mine codes" => (((have cA9 := codeHd_of_K (by assumption) (hd428 _)); (have cB9 := codeHd_of_K (by assumption) (hd421 _)); (have cC9 := codeHd_of_K (by assumption) (hd433 _)); (have cD9 := codeHd_of_K (by assumption) (hd440 _))))
  k_with "mine mem" => (first | ((repeat (first | assumption | exact link_in | refine mem_lift ?_)); done) | (refine List.forall_mem_cons.mpr ⟨by k_mem, List.forall_mem_cons.mpr ⟨by k_mem, List.forall_mem_nil _⟩⟩))
  k_with "mine enterL" => ((refine wpAny_call ?_; k_dflt (refine' kla_code ?k1 ?k2 ?k3 ?k4 ?k5 ?qzkA ?qzkF ?kK ?qzk6 ?qzk7 ?qzk8 ?qzk9 ?qzkB ?_ ?qzc2 ?qzc3 ?qzc4 ?qzc5; (case qzkA => exact rfl); (case qzkF => exact rfl); (case kK => assumption); (case k1 => k_asm); (case k2 => k_asm); (case k3 => k_asm); (case k4 => k_asm); (case k5 => k_asm); (case qzk6 => k_mem); (case qzk7 => first | (exact codeRec_news (by k_asm) (by k_mem) (by assumption) (by assumption)) | (exact codeRec_news (by k_asm) (by (repeat (first | assumption | refine List.mem_cons_of_mem _ ?_))) (by assumption) (by assumption))); (case qzk8 => ktr_room); (case qzk9 => exact rfl); (case qzc5 => decide); (case qzkB => exact locs rfl); (case qzc2 => exact rfl); (case qzc3 => exact rfl); (case qzc4 => exact rfl); k_whole; intro g' L' h' FG' F' N' B' X' T'; (try dsimp only); (try k_lift B'); (try k_fold))))
  k_with "mine heard" => ((walk_at "mine side"; (case hfn => k_mem)))
  k_with "eval Lambda" => ((k_here; k_dflt (refine' kla_eval ?qzd0 ?_; (case qzd0 => exact rfl)); (k_dflt (refine' kla_any ?qzF ?qzN ?qzT ?qzC ?qzcd ?qzhT ?qzU ?qzhx ?qzt ?qzn ?qzt1 ?qzn1 ?qzcl ?_; (case qzF => k_asm); (case qzN => k_asm); (case qzT => k_asm); (case qzcd => exact rfl); (case qzC => kn_code); (case qzhT => first | with_reducible assumption | assumption); (case qzU => k_updF); (case qzhx => first | walk_at "mine sk" | walk_at "mine news in" | (intro q9 hq9; (repeat (first | exact hq9 | refine List.mem_cons_of_mem _ ?_)))); (case qzt => kn_triples); (case qzn => kn_among); (case qzt1 => (intro c9; kn_triples)); (case qzn1 => (intro c9; kn_hit)); (case qzcl => exact rfl); k_whole); intro f' c' oc' vs' t' ct' h' tk' F' N' d1' d2' l1 hlo; (try dsimp only at N'))))
  k_with "mine news in" => ((intro q9 hq9; (repeat (first | exact List.mem_append_right _ hq9 | refine List.mem_cons_of_mem _ ?_))))
  trivial
theorem top_off_K7 : True := by
  w_top off
  trivial
theorem SpecT.mono {lv : Nat} {w : World} {f : Addr} {vs : List Value} {news : List (Addr × Obj)} {R R' : Value → List (Addr × Obj) → Prop} (h : SpecT lv w f vs news R) (hr : ∀ v nx, R v nx → R' v nx) : SpecT lv w f vs news R' :=
  fun p loose mean mg mb dp un gd cn cs a ccd cl outer A₀ base h₀ L m s Q E B F X N T hck hdp hun XB TB D hret => h p loose mean mg mb dp un gd cn cs a ccd cl outer A₀ base h₀ L m s Q E B F X N T hck hdp hun XB TB D fun v nx h' tk' h₁ k1 k2 k3 k4 k5 k6 k7 r => hret v nx h' tk' h₁ k1 k2 k3 k4 k5 k6 k7 (hr v nx r)
theorem tab_not_code {line col : Nat} {v : Value} {vs : Array Value} {q : Str} {t : Tok} (h : (tabObj (#[] ++ #[rawInt line, rawInt col, v])).data = .fields vs) (hv : vs[1]? = some (.str q t)) : False := by
  have e : vs = #[rawInt line, rawInt col, v] := by injection h with h; exact h.symm
  subst e
  have e : rawInt col = .str q t := by simpa using hv
  cases e
theorem UpdF.uniq {P : Addr} {o oc : Obj} {news : List (Addr × Obj)} {g : Obj → List (Addr × Obj)} (U : UpdF P o news g) (h : (P, oc) ∈ news) : oc = o := by
  obtain ⟨pre, post, rfl, _, h1, h2⟩ := U.split
  rcases List.mem_append.mp h with h | h
  · exact absurd rfl (h1 _ h)
  · rcases List.mem_cons.mp h with h | h
    · exact (Prod.mk.inj h).2
    · exact absurd rfl (h2 _ h)
theorem TabSt.rest {line col : Nat} {qual : Str} {P : Addr} {news r : List (Addr × Obj)} {o : Obj} {g : Obj → List (Addr × Obj)} (hT : TabSt line col qual news o) (U : UpdF P o news g) (hr : ∀ q ∈ news, q.1 ≠ P → q ∈ r) : TabSt line col qual r o := by
  cases hT with
  | fresh => exact .fresh
  | @hit c' oc vs t hm hd hv =>
    refine .hit (hr _ hm fun e => ?_) hd hv
    have e : c' = P := e
    subst e
    have := UpdF.uniq U hm
    subst this
    exact tab_not_code hd hv
theorem SpecT.tab {lv : Nat} {w : World} {f P : Addr} {vs : List Value} {o : Obj} {news link : List (Addr × Obj)} {g : Obj → List (Addr × Obj)} {R : Value → Obj → List (Addr × Obj) → List (Addr × Obj) → Prop} (U : UpdF P o news g) (hl : ∀ p ∈ link, p ∈ news) 
    (h : ∀ r, (∀ p ∈ r, p.1 ≠ P) → (∀ q ∈ news, q.1 ≠ P → q ∈ r) → (∀ o' q, q ∈ r → q ∈ g o') → SpecT lv w f vs (link ++ ((P, o) :: r)) (fun v nx => ∃ o' add, nx = add ++ (link ++ ((P, o') :: r)) ∧ (∀ nx', (∀ q ∈ add ++ r, q ∈ nx') → (∀ q ∈ news, q.1 = P ∨ q ∈ r) → R v o' add nx'))) :
    SpecT lv w f vs news (fun v nx => ∃ o' add, nx = add ++ g o' ∧ R v o' add nx) := by
  obtain ⟨pre, post, rfl, hg, h1, h2⟩ := U.split
  have rg : ∀ o' q, q ∈ pre ++ post → q ∈ g o' := fun o' q hq => by
    rw [hg]
    rcases List.mem_append.mp hq with hq | hq
    · exact List.mem_append_left _ hq
    · exact List.mem_append_right _ (List.mem_cons_of_mem _ hq)
  intro p loose mean mg mb dp un gd cn cs a ccd cl outer A₀ base h₀ L m s Q E B F X N T hck hdp hun XB TB D hret
  refine h (pre ++ post) (fun p hp => (List.mem_append.mp hp).elim (h1 p) (h2 p)) (fun q hq hne => ?_) rg p loose mean mg mb dp un gd cn cs a ccd cl outer A₀ base h₀ L m s Q E B F X (fun q hq => ?_) T hck hdp hun XB TB D fun v nx h' tk' h₁ k1 k2 k3 k4 N' k6 k7 hR => ?_
  · rcases List.mem_append.mp hq with hq | hq
    · exact List.mem_append_left _ hq
    · rcases List.mem_cons.mp hq with rfl | hq
      · exact absurd rfl hne
      · exact List.mem_append_right _ hq
  · rcases List.mem_append.mp hq with hq | hq
    · exact N _ (hl _ hq)
    · rcases List.mem_cons.mp hq with rfl | hq
      · exact N _ (List.mem_append_right _ List.mem_cons_self)
      · rcases List.mem_append.mp hq with hq | hq
        · exact N _ (List.mem_append_left _ hq)
        · exact N _ (List.mem_append_right _ (List.mem_cons_of_mem _ hq))
  · obtain ⟨o', add, rfl, r⟩ := hR
    refine hret v (add ++ g o') h' tk' h₁ k1 k2 k3 k4 (fun q hq => ?_) k6 k7 ⟨o', add, rfl, r _ (fun q hq => (List.mem_append.mp hq).elim (List.mem_append_left _) fun z => List.mem_append_right _ (rg o' q z)) fun q hq => (List.mem_append.mp hq).elim (fun z => .inr (List.mem_append_left _ z)) fun z => (List.mem_cons.mp z).elim (fun e => .inl (by rw [e])) fun z => .inr (List.mem_append_right _ z)⟩
    rcases List.mem_append.mp hq with hq | hq
    · exact N' _ (List.mem_append_left _ hq)
    · rw [hg] at hq
      refine N' _ (List.mem_append_right _ (List.mem_append_right _ ?_))
      rcases List.mem_append.mp hq with hq | hq
      · exact List.mem_cons_of_mem _ (List.mem_append_left _ hq)
      · rcases List.mem_cons.mp hq with rfl | hq
        · exact List.mem_cons_self
        · exact List.mem_cons_of_mem _ (List.mem_append_right _ hq)
theorem kind_r (w : World) (x d : Addr) (k1 k2 k3 k4 t1 t2 t3 tb : Tok) (p' q' c : Int) (b : Array UInt8) (ks : List Int) (hb : KBw.bInts b = ks) (hl : ks.length ≤ 1000) (o : Obj) (r : List (Addr × Obj)) (hx : @LT.lt Nat _ 436 x) (hdd : @LT.lt Nat _ 436 d) (hne : ∀ p ∈ r, p.1 ≠ 424) (hT : TabSt 211 22 Q429 r o) :
    SpecT 16 w 429 [.ref x] (LinkAt w.params x d k1 k2 k3 k4 t1 t2 t3 tb p' q' c b ++ ((424, o) :: r))
      (fun v nx => v = .bool true ∧ ∃ o' add, nx = add ++ (LinkAt w.params x d k1 k2 k3 k4 t1 t2 t3 tb p' q' c b ++ ((424, o') :: r)) ∧ (TabSt 211 22 Q429 add o' ∨ o' = o) ∧ AddOk add r) := by
  by_cases hn : p' = 170 ∧ q' = 170 ∧ c = 3
  · obtain ⟨hp, hq, hc⟩ := hn
    by_cases h5 : ks.length < 5
    · exact kind_f w x d k1 k2 k3 k4 t1 t2 t3 tb p' q' c b o r hx hdd hne hT ks hb h5 hp hq hc
    · exact kind_o w x d k1 k2 k3 k4 t1 t2 t3 tb p' q' c b o r hx hdd hne hT ks hb hl (by omega) hp hq hc
  · exact kind_n w x d k1 k2 k3 k4 t1 t2 t3 tb p' q' c b o r hx hdd hne hT hn
theorem addOk_of {add r news : List (Addr × Obj)} {P : Addr} (hP : @LT.lt Nat _ P 437) (l : AddOk add r) (hr : ∀ q ∈ news, q.1 = P ∨ q ∈ r) : AddOk add news := fun p hp => ⟨(l p hp).1, fun q hq => (hr q hq).elim (fun e => by have := (l p hp).1; rw [e]; omega) fun z => (l p hp).2 q z⟩
theorem kind_u (w : World) (x d : Addr) (k1 k2 k3 k4 t1 t2 t3 tb : Tok) (p' q' c : Int) (b : Array UInt8) (ks : List Int) (o : Obj) (news : List (Addr × Obj)) (g : Obj → List (Addr × Obj)) (U : UpdF 424 o news g) (hT : TabSt 211 22 Q429 news o) (hb : KBw.bInts b = ks) (hl : ks.length ≤ 1000) (hx : @LT.lt Nat _ 436 x) (hdd : @LT.lt Nat _ 436 d)
    (hm : ∀ p ∈ LinkAt w.params x d k1 k2 k3 k4 t1 t2 t3 tb p' q' c b, p ∈ news) :
    SpecT 16 w 429 [.ref x] news (fun v nx => ∃ o' add, nx = add ++ g o' ∧ v = .bool true ∧ (TabSt 211 22 Q429 add o' ∨ o' = o) ∧ AddOk add news) := by
  refine SpecT.tab (R := fun v o' add nx => v = .bool true ∧ (TabSt 211 22 Q429 add o' ∨ o' = o) ∧ AddOk add news) U hm fun r h1 h2 h3 => ?_
  refine (kind_r w x d k1 k2 k3 k4 t1 t2 t3 tb p' q' c b ks hb hl o r hx hdd h1 (hT.rest U h2)).mono fun v nx ⟨e, o', add, f, t, l⟩ => ⟨o', add, f, fun nx' hs hr => ⟨e, t, addOk_of (by decide) l hr⟩⟩
theorem top_off_C0 : True := by
  w_top off
  trivial
abbrev Q422 : Str := (Str.ofString "_law_cut_right" ++ ".<locals>.") ++ Str.ofString "<lambda>"
theorem clip_take {ks : List Int} {j : Nat} (h : j ≤ ks.length) : List.take (min j ks.length) ks = ks.take j := by
  rw [Nat.min_eq_left h]
theorem getD_take {ks : List Int} {i j : Nat} (h : i < j) : (ks.take j).getD i 0 = ks.getD i 0 := by
  simp only [List.getD_eq_getElem?_getD, List.getElem?_take, if_pos h]
theorem cut_raise (w : World) (c : Array UInt8) (ks : List Int) (j : Nat) (t : Tok) (hc : KBw.bInts c = List.take (min j ks.length) ks) (hl : ks.length ≤ 1000) (h3 : 3 ≤ ks.length) (hj3 : j < 3) (news : List (Addr × Obj)) : SpecE 9 w 359 [.bytes c t] news 44 := by
  rw [clip_take (by omega)] at hc
  exact unpack_raise w c _ t hc (by rw [List.length_take]; omega) (.inl (by rw [List.length_take]; omega)) news
theorem cut_raise3 (w : World) (c : Array UInt8) (ks : List Int) (t : Tok) (hc : KBw.bInts c = List.take (min 3 ks.length) ks) (hl : ks.length ≤ 1000) (h3 : 3 ≤ ks.length) (h4 : ¬ ks.getD 2 0 % 4 = 3) (news : List (Addr × Obj)) : SpecE 9 w 359 [.bytes c t] news 44 := by
  rw [clip_take (by omega)] at hc
  exact unpack_raise w c _ t hc (by rw [List.length_take]; omega) (.inr ⟨by rw [List.length_take]; omega, by rw [getD_take (by decide)]; exact h4⟩) news
theorem cut_ok3 (w : World) (c : Array UInt8) (ks : List Int) (t : Tok) (hc : KBw.bInts c = List.take (min 3 ks.length) ks) (hl : ks.length ≤ 1000) (h3 : 3 ≤ ks.length) (hs : ks.getD 2 0 % 4 = 3) (news : List (Addr × Obj)) :
   Spec 8 w 359 [.bytes c t] news (fun v nx => ∃ x d k1 k2 k3 k4 t1 t2 t3 t4 c', v = .ref x ∧ nx = LinkAt w.params x d k1 k2 k3 k4 t1 t2 t3 t4 (ks.getD 0 0) (ks.getD 1 0) (ks.getD 2 0) c' ++ news ∧ KBw.bInts c' = [] ∧ (∀ p ∈ news, p.1 < d) ∧ d < x) := by
  rw [clip_take (by omega)] at hc
  have h := unpack1 w c _ t hc (by rw [List.length_take]; omega) (by rw [List.length_take]; omega) (by rw [getD_take (by decide)]; exact hs) news
  rw [getD_take (by decide), getD_take (by decide), getD_take (by decide), List.drop_eq_nil_of_le (by rw [List.length_take]; omega)] at h
  exact h
theorem cut_ok4 (w : World) (c : Array UInt8) (ks : List Int) (t : Tok) (hc : KBw.bInts c = List.take (min 4 ks.length) ks) (hl : ks.length ≤ 1000) (h3 : 4 ≤ ks.length) (hs : ¬ ks.getD 2 0 % 4 = 3) (hs2 : ¬ (ks.getD 2 0 = 0 ∧ ks.getD 3 0 % 4 = 3)) (news : List (Addr × Obj)) :
   Spec 8 w 359 [.bytes c t] news (fun v nx => ∃ x d k1 k2 k3 k4 t1 t2 t3 t4 c', v = .ref x ∧ nx = LinkAt w.params x d k1 k2 k3 k4 t1 t2 t3 t4 (ks.getD 0 0) (ks.getD 1 0) (ks.getD 2 0 * 256 + ks.getD 3 0) c' ++ news ∧ KBw.bInts c' = [] ∧ (∀ p ∈ news, p.1 < d) ∧ d < x) := by
  rw [clip_take (by omega)] at hc
  have h := unpack2 w c _ t hc (by rw [List.length_take]; omega) (by rw [List.length_take]; omega) (by rw [getD_take (by decide)]; exact hs) (by rw [getD_take (by decide), getD_take (by decide)]; exact hs2) news
  rw [getD_take (by decide), getD_take (by decide), getD_take (by decide), getD_take (by decide), List.drop_eq_nil_of_le (by rw [List.length_take]; omega)] at h
  exact h
theorem top_off_R0 : True := by
  w_top off
  trivial
section
variable {prog : Program} {w : World} {A : Around} {E : Value → Shared → Prop} {s : Shared} {env : Env} {target : Expr} {body : List Stmt} {Q : Flow → Shared → Prop}
theorem own_loop {R : Result → Shared → Prop} {I : Addr} {fp wr : List Addr} {n : Nat} {P Md : Nat → Value → Heap → Prop} {St : Nat → Heap → Prop} (W : KTurns prog w A target I fp wr n P Md St)
    (Inv : Nat → Shared → Prop) (hInv : ∀ i s', Inv i s' → St i s'.heap) (h0 : Inv 0 s)
    (step : ∀ i v s' h₂ tk, i < n → Inv i s' → P i v h₂ → St (i + 1) h₂ → (∀ b o, b ∉ wr → s'.heap.get? b = some o → h₂.get? b = some o) →
      wpAny (model prog w) A (assign target env v) (fun _ s₂ => wpAny (model prog w) A (execs body env)
        (fun f s₃ => match f with | .ret v => R (.ok (.ret v)) s₃ | .brk => R (.ok .next) s₃ | _ => Inv (i + 1) s₃) (notedBy (model prog w) A env fun e s' => R (.error e) s') s₂) (notedBy (model prog w) A env fun e s' => R (.error e) s') { s' with heap := h₂, toks := tk })
    (hR : ∀ s' h₂ tk, Inv n s' → (∀ b o, b ∉ wr → s'.heap.get? b = some o → h₂.get? b = some o) → R (.ok .next) { s' with heap := h₂, toks := tk }) :
    codeAny (model prog w) A (.forLoop target (.ref I) body [] env) R s := by
  refine codeAny_forLoop_any (fun k s' => ∃ i, Inv i s' ∧ i ≤ n ∧ k = n + 1 - i) ?_ (n + 1) ⟨0, h0, Nat.zero_le _, rfl⟩
  rintro k s' ⟨i, hI, hi, rfl⟩
  have hst := hInv i s' hI
  by_cases hlt : i < n
  · refine W.item i _ _ _ hlt hst fun v h₁ tk₁ hMd hk₁ => ?_
    refine W.go i v _ _ _ hMd fun h₂ hP hst₂ hk₂ => ?_
    refine wpAny_mono (step i v s' h₂ tk₁ hlt hI hP hst₂ fun b o hb e => hk₂ b o hb (hk₁ b o hb e)) (fun _ s₂ h₂' => wpAny_mono h₂' (fun f s₃ h₃ => ?_) fun _ _ e => e) fun _ _ e => e
    cases f with
    | ret v => exact h₃
    | brk => exact h₃
    | cont => exact ⟨n + 1 - (i + 1), by omega, i + 1, h₃, hlt, rfl⟩
    | next => exact ⟨n + 1 - (i + 1), by omega, i + 1, h₃, hlt, rfl⟩
  · have hin : i = n := by omega
    subst hin
    refine W.done _ _ _ hst fun h₁ tk₁ hk₁ => wpAny_execs_nil ?_
    exact hR s' h₁ tk₁ hI hk₁
def OwnAt (prog : Program) (w : World) (A : Around) (env : Env) (target : Expr) (body : List Stmt) (Q : Flow → Shared → Prop) (E : Value → Shared → Prop) (it : Value) (s₂ : Shared) : Prop :=
  ∃ (I : Addr) (fp wr : List Addr) (n : Nat) (P Md : Nat → Value → Heap → Prop) (St : Nat → Heap → Prop) (Inv : Nat → Shared → Prop),
    it = .ref I ∧ KTurns prog w A target I fp wr n P Md St ∧ (∀ i s', Inv i s' → St i s'.heap) ∧ Inv 0 s₂ ∧
    (∀ i v s' h₂ tk, i < n → Inv i s' → P i v h₂ → St (i + 1) h₂ → (∀ b o, b ∉ wr → s'.heap.get? b = some o → h₂.get? b = some o) →
      wpAny (model prog w) A (assign target env v) (fun _ s₂ => wpAny (model prog w) A (execs body env)
        (fun f s₃ => match f with | .ret v => Q (.ret v) s₃ | .brk => Q .next s₃ | _ => Inv (i + 1) s₃) E s₂) E { s' with heap := h₂, toks := tk }) ∧
    ∀ s' h₂ tk, Inv n s' → (∀ b o, b ∉ wr → s'.heap.get? b = some o → h₂.get? b = some o) → Q .next { s' with heap := h₂, toks := tk }
theorem For_own {iter : Expr} {pos : Pos}
    (h : wpAny (model prog w) A (eval iter env) (fun xv s₁ => wpAny (model prog w) A (pyIter xv) (fun it s₂ => OwnAt prog w A env target body Q E it s₂) E s₁) E s)
    (hs : ∀ x, foldedSetIterable iter env x = pure x := by intro _; rfl)
    (hE : PassesOwn (model prog w) A env E := by passes_own) :
    wpAny (model prog w) A (exec (.For target iter body [] pos) env) Q E s := by
  refine wpAny_For (wpAny_mono h (fun xv s₁ h₁ => wpAny_mono h₁ (fun it s₂ h₂ => ?_) fun _ _ e => e) fun _ _ e => e) hs
  obtain ⟨I, fp, wr, n, P, Md, St, Inv, rfl, W, hInv, h0, step, hQ⟩ := h₂
  exact own_loop (R := fun r s' => match r with | .ok f => Q f s' | .error e => cameBackBy (model prog w) A env E e s') W Inv hInv h0
    (fun i v s' h₂ tk a b c d e => wpAny_mono (step i v s' h₂ tk a b c d e) (fun _ _ x => wpAny_passesOwn hE x) hE) hQ
abbrev GSt := Nat → Heap → (PySem.Str → Option Value) → List (Addr × Obj) → Prop
def GInv (s : Shared) (L I : Addr) (it : Nat → Obj) (G : GSt) (i : Nat) (s' : Shared) : Prop :=
  ∃ h tk g m news, s' = { s with heap := h, toks := tk } ∧ Fr g L h m ∧ News g L h ((I, it i) :: news) ∧ (∀ p ∈ news, p.1 ≠ I) ∧ G i g m news
def GPost (s : Shared) (L I : Addr) (it : Nat → Obj) (G : GSt) (Q : Flow → Shared → Prop) (i : Nat) : Flow → Shared → Prop := fun f s₃ =>
  match f with | .ret v => Q (.ret v) s₃ | .brk => Q .next s₃ | _ => GInv s L I it G (i + 1) s₃
theorem gmove {g h₁ h₂ : Heap} {L I : Addr} {m : PySem.Str → Option Value} {news : List (Addr × Obj)} {o o' : Obj} (F : Fr g L h₁ m) (N : News g L h₁ ((I, o) :: news)) (hI : ∀ p ∈ news, p.1 ≠ I) (hk : ∀ b x, b ∉ [I] → h₁.get? b = some x → h₂.get? b = some x) (ho : h₂.get? I = some o') :
    Fr g L h₂ m ∧ News g L h₂ ((I, o') :: news) := by
  have n0 := N (I, o) List.mem_cons_self
  refine ⟨⟨F.ns.at' fun x e => hk _ x (fun hb => n0.2.1 (List.mem_singleton.mp hb).symm) e, fun b x e => hk b x (fun hb => ?_) (F.keep b x e), F.above⟩, fun p hp => ?_⟩
  · rw [List.mem_singleton.mp hb, n0.2.2] at e; cases e
  · rcases List.mem_cons.mp hp with rfl | hp
    · exact ⟨ho, n0.2⟩
    · have := N p (List.mem_cons_of_mem _ hp)
      exact ⟨hk _ _ (fun hb => hI p hp (List.mem_singleton.mp hb)) this.1, this.2⟩
theorem own_range {r : Addr} {a₀ b₀ : Int} {t₀ u₀ v₀ : Tok} {n : Nat} {g₀ : Heap} {m₀ : PySem.Str → Option Value} {news : List (Addr × Obj)} {x : PySem.Str} {px : Pos} {L : Addr} (G : GSt) (hL : env.locals = L)
    (hh : A.handled = none) (hr : IsRange s.heap r a₀ b₀ 1 t₀ u₀ v₀) (ha : a₀ = 0) (hsmall : Builtin.Range.small a₀ b₀ 1 = true) (hn : Builtin.Range.rangeSize a₀ b₀ 1 = (n : Int)) (F : Fr g₀ L s.heap m₀) (N : News g₀ L s.heap news)
    (h0 : G 0 g₀ m₀ news)
    (step : ∀ I i g m news h tk t, i < n → G i g m news → (∀ p ∈ news, p.1 ≠ I) → Fr g L h m → News g L h ((I, itR ((i + 1 : Nat) : Int) ((n : Int) - ((i + 1 : Nat) : Int))) :: news) →
      wpAny (model prog w) A (assign (.Name x px) env (.int (i : Int) t)) (fun _ s₂ => wpAny (model prog w) A (execs body env) (GPost s L I (fun i => itR (i : Int) ((n : Int) - (i : Int))) G Q i) E s₂) E { s with heap := h, toks := tk })
    (fin : ∀ g m news h tk, G n g m news → Fr g L h m → News g L h news → Q .next { s with heap := h, toks := tk }) :
    wpAny (model prog w) A (pyIter (.ref r)) (fun it s₂ => OwnAt prog w A env (.Name x px) body Q E it s₂) E s := by
  subst ha hL
  refine wpAny_pyIter_range hr hsmall ?_
  have hN : News g₀ env.locals (s.heap.push { cls := .type "range_iterator", data := .fields #[rawInt 0, rawInt (Builtin.Range.rangeSize 0 b₀ 1), rawInt 1] }) ((s.heap.objs.size, itR ((0 : Nat) : Int) ((n : Int) - ((0 : Nat) : Int))) :: news) := fun p hp => by
    rcases List.mem_cons.mp hp with rfl | hp
    · refine ⟨?_, Nat.ne_of_gt F.ns.lt, next_is_new F⟩
      rw [hn]
      have : ((n : Int) - ((0 : Nat) : Int)) = n := by omega
      rw [this]
      exact Heap.get?_push_size _ rfl
    · exact ⟨Heap.get?_push_of_some _ (N p hp).1, (N p hp).2⟩
  have W : KTurns prog w A (.Name x px) s.heap.objs.size [s.heap.objs.size] [s.heap.objs.size] n _ _ _ := KTurns.ofWalks (Walks.range hh s.heap.objs.size 0 1 n) fun i v s' Q' E' st q => wpAny_of_eq (rfl : letOwnedTupleGo (.Name x px) (.ref s.heap.objs.size) v = pure ()) q
  refine ⟨_, _, _, n, _, _, _, GInv s env.locals s.heap.objs.size (fun i => itR (i : Int) ((n : Int) - (i : Int))) G, rfl, W, ?_, ?_, ?_, ?_⟩
  · rintro i s' ⟨h, tk, g, m, nw, rfl, F', N', _, _⟩
    have := (N' _ List.mem_cons_self).1
    show h.get? _ = _
    rw [this]
    simp [itR]
  · exact ⟨_, _, g₀, m₀, news, rfl, F.push _, hN, fun p hp e => absurd (Heap.lt_size (N p hp).1) (e ▸ Nat.lt_irrefl _), h0⟩
  · rintro i v s' h₂ tk hi ⟨h, tk', g, m, nw, rfl, F', N', off, hG⟩ ⟨t, rfl⟩ hst hk
    have hst' : h₂.get? s.heap.objs.size = some (itR ((i + 1 : Nat) : Int) ((n : Int) - ((i + 1 : Nat) : Int))) := by
      have q : IsRangeIter h₂ s.heap.objs.size (0 + ((i + 1 : Nat) : Int) * 1) ((n : Int) - ((i + 1 : Nat) : Int)) 1 := hst
      rw [Int.mul_one, Int.zero_add] at q
      exact q
    obtain ⟨F₂, N₂⟩ := gmove F' N' off hk hst'
    have e1 : (0 : Int) + (i : Int) * 1 = (i : Int) := by omega
    rw [e1]
    exact step _ i g m nw h₂ tk t hi hG off F₂ N₂
  · rintro s' h₂ tk ⟨h, tk', g, m, nw, rfl, F', N', off, hG⟩ hk
    have n0 := N' _ List.mem_cons_self
    refine fin g m nw h₂ tk hG ⟨F'.ns.at' fun x e => hk _ x (fun hb => n0.2.1 (List.mem_singleton.mp hb).symm) e, fun b x e => hk b x (fun hb => ?_) (F'.keep b x e), F'.above⟩ fun p hp => ?_
    · rw [List.mem_singleton.mp hb, n0.2.2] at e; cases e
    · have := N' p (List.mem_cons_of_mem _ hp)
      exact ⟨hk _ _ (fun hb => off p hp (List.mem_singleton.mp hb)) this.1, this.2⟩
end
theorem top_off_R1 : True := by
  w_top off
  trivial
def GG (FR : List Addr) (g0 : Heap) (A : Around) (base : Heap) (envs : List Env) (K : Frag) (p : Program) (loose : List PySem.Str) (mean : ExcName → Option Value) (mg mb : PySem.Str → Option Value) (m0 : PySem.Str → Option Value) (X : Nat → List (Addr × Obj) → Prop) : GSt :=
  fun i g m nw => KtsTurn FR g0 g ∧ Below A base envs g ∧ K.In g ∧ Top p loose mean mg mb g ∧ KtsDicts FR g ∧ m = m0 ∧ X i nw
def CutX {g h : Heap} {L c1 c2 y : Addr} {o1 o2 oy o : Obj} {news : List (Addr × Obj)} (_ : News g L h ((c1, o1) :: (c2, o2) :: (y, oy) :: (417, o) :: news)) (_i : Nat) (nw : List (Addr × Obj)) : Prop :=
  ∃ cs v add o', nw = (c1, cs) :: (c2, o2) :: (y, oy) :: (417, o') :: (add ++ news) ∧ cs.data = .cell v ∧ TabSt 207 22 Q422 (add ++ news) o' ∧ (TabSt 207 22 Q422 add o' ∨ o' = o) ∧ (∀ p ∈ add ++ news, p.1 ≠ 417) ∧ (∀ p ∈ add ++ news, p.1 ≠ c1) ∧ AddOk add news
theorem cutE {w : World} {ks : List Int} {many i : Nat} {c : Array UInt8} {t : Tok} {news : List (Addr × Obj)} (hz : ∀ (i : Nat) (c : Array UInt8) (t : Tok) (news : List (Addr × Obj)), i < many → KBw.bInts c = List.take (min i ks.length) ks → SpecE 9 w 359 [.bytes c t] news 44) (hi : i < many) (hc : KBw.bInts c = List.take (min i ks.length) ks) : SpecE 9 w 359 [.bytes c t] news 44 := hz i c t news hi hc
abbrev CutR (w : World) (news : List (Addr × Obj)) : Value → List (Addr × Obj) → Prop := fun v nx => ∃ x d k1 k2 k3 k4 t1 t2 t3 t4 p q cc c', v = .ref x ∧ nx = LinkAt w.params x d k1 k2 k3 k4 t1 t2 t3 t4 p q cc c' ++ news ∧ KBw.bInts c' = [] ∧ (∀ p ∈ news, p.1 < d) ∧ d < x
theorem cutS {w : World} {ks : List Int} {many : Nat} {c : Array UInt8} {t : Tok} {news : List (Addr × Obj)} (hz : ∀ (c : Array UInt8) (t : Tok) (news : List (Addr × Obj)), KBw.bInts c = List.take (min many ks.length) ks → Spec 8 w 359 [.bytes c t] news (CutR w news)) (hc : KBw.bInts c = List.take (min many ks.length) ks) : Spec 8 w 359 [.bytes c t] news (CutR w news) := hz c t news hc
theorem top_off_O1 : True := by
  w_top off
  trivial
set_option maxHeartbeats 1000000 in
theorem told0 (w : World) (x d : Addr) (k1 k2 k3 k4 t1 t2 t3 tb : Tok) (p' q' c : Int) (b : Array UInt8) (news : List (Addr × Obj)) :
   Spec 4 w 331 [.ref x] (LinkAt w.params x d k1 k2 k3 k4 t1 t2 t3 tb p' q' c b ++ news) (fun v nx => ∃ D k, v = .ref D ∧ nx = tupAt D #[.int p' t1, .int q' t2, .int c t3, .bytes b tb] k :: (LinkAt w.params x d k1 k2 k3 k4 t1 t2 t3 tb p' q' c b ++ news) ∧ ∀ p ∈ news, p.1 < D) := by
  unfold Spec
  simp only [List.cons_append, List.nil_append]
  unfold llcD
  k_fill
  intro p loose mean mg mb dp un gd cn cs a ccd cl outer A₀ base h₀ L m s Q E B F X N T hck hdp hun hret
  walk_at "mine enter"
  k_steps
  all_goals (with_reducible rename (∀ p ∈ _ :: _ :: news, Prod.fst p < _) => hlt9)
  all_goals exact hret _ _ _ _ (by k_asm) (by walk_at "mine news") ⟨_, _, rfl, rfl, fun p hp => hlt9 p (.tail _ (.tail _ hp))⟩
theorem told_m (w : World) (x d : Addr) (k1 k2 k3 k4 t1 t2 t3 tb : Tok) (p' q' c : Int) (b : Array UInt8) (news : List (Addr × Obj)) (h4 : ∀ p ∈ LinkAt w.params x d k1 k2 k3 k4 t1 t2 t3 tb p' q' c b, p ∈ news) :
   Spec 4 w 331 [.ref x] news (fun v nx => ∃ D k, v = .ref D ∧ nx = tupAt D #[.int p' t1, .int q' t2, .int c t3, .bytes b tb] k :: news ∧ ∀ p ∈ news, p.1 < D) := by
  have h2 := (told0 w x d k1 k2 k3 k4 t1 t2 t3 tb p' q' c b news).mono (R' := fun v nx => ∃ add, nx = add ++ (LinkAt w.params x d k1 k2 k3 k4 t1 t2 t3 tb p' q' c b ++ news) ∧ ∃ D k, v = .ref D ∧ add = [tupAt D #[.int p' t1, .int q' t2, .int c t3, .bytes b tb] k] ∧ ∀ p ∈ news, p.1 < D)
    fun v nx ⟨D, k, e, f, l⟩ => ⟨[_], by rw [f]; rfl, D, k, e, rfl, l⟩
  exact (Spec.memX h2 h4).mono fun v nx ⟨add, f, D, k, e, g, l⟩ => ⟨D, k, e, by rw [f, g]; rfl, l⟩
theorem empty_true {z : Array UInt8} (h : KBw.bInts z = []) : Value.bool (z.toList == []) = .bool true := by
  have : z = #[] := bInts_inj (h.trans (by rfl))
  rw [this]; rfl
theorem sub_mid {add news big : List (Addr × Obj)} {a b : Addr × Obj} (h : ∀ q ∈ a :: b :: (add ++ news), q ∈ big) : ∀ q ∈ add ++ ([a] ++ (b :: news)), q ∈ big := by
  intro q hq
  refine h q ?_
  rcases List.mem_append.mp hq with hq | hq
  · exact List.mem_cons_of_mem _ (List.mem_cons_of_mem _ (List.mem_append_left _ hq))
  · rcases List.mem_cons.mp hq with rfl | hq
    · exact List.mem_cons_self
    · rcases List.mem_cons.mp hq with rfl | hq
      · exact List.mem_cons_of_mem _ List.mem_cons_self
      · exact List.mem_cons_of_mem _ (List.mem_cons_of_mem _ (List.mem_append_right _ hq))
theorem top_off_C1 : True := by
  w_top off
  trivial
section
theorem kw_32 : True := by
  k_with "call type:list" => ((k_here; (with_reducible show wpAny _ _ (call (Value.type "list") [Value.bytes _ _]) _ _ _); k_dflt (refine' call_list5 ?qzh0 ?qzF ?qzN ?qzb ?qzn ?_; (case qzh0 => exact rfl); (case qzF => k_asm); (case qzN => k_asm); (case qzb => assumption); (case qzn => assumption); intro D' c' h' tk' t0' t1' t2' t3' t4' F' N' l1; (try dsimp only); (try k_lt l1); (try k_fold))))
  k_with "compareOp Eq ref ref" => ((k_here; (with_reducible show wpAny _ _ (compareOp CmpOp.Eq (Value.ref _) (Value.ref _)) _ _ _); k_dflt (refine' eq_tup3 ?qzN ?qza ?qzb ?qzx ?qzu ?_; (case qzN => k_asm); (case qza => k_mem); (case qzb => k_mem); (case qzx => exact eq5 (by assumption) (by assumption) (by assumption)); (case qzu => ke_room))))
  k_with "call ref" => ((k_here; (with_reducible show wpAny _ _ (call (Value.ref 359) [Value.bytes _ _]) _ _ _); k_dflt (first
  | (refine' cutE ?qzhz ?qzhi ?qzhc _ _ _ _ _ _ _ _ _ _ _ _ _ _ _ _ _ _ _ _ _ _ ?k1 ?k2 ?k3 ?k4 ?k5 ?kK ?kd ?ku ?_; walk_at "mine side"; (case qzhz => assumption); (case qzhc => assumption); (case qzhi => assumption); intro e9 G9 h9 tk9 F9 R9 U9; (try dsimp only))
  | (refine' cutS ?qzhz ?qzhc _ _ _ _ _ _ _ _ _ _ _ _ _ _ _ _ _ _ _ _ _ _ ?k1 ?k2 ?k3 ?k4 ?k5 ?kK ?kd ?ku ?_; walk_at "mine side"; (case qzhz => assumption); (case qzhc => assumption); refine o_14 ?_; intro x9 d9 ka9 kb9 kc9 kd9 ta9 tb9 tc9 td9 p9 q9 cc9 z9 h9 tk9 F9 N9 b9 l9 l8; (try simp only [List.cons_append, List.nil_append] at N9); (try unfold llcD at N9); (try k_lt l9); (try k_lt2 l8); (try dsimp only); (try k_fold)))))
  k_with "mine form" => (((refine' heard_form (lv := 12) ?hfn ?qzhf _ _ _ _ _ _ _ _ _ _ _ _ _ _ _ _ _ _ _ _ _ _ ?k1 ?k2 ?k3 ?k4 ?k5 ?kK ?kd ?ku ?qzkXB ?qzkTB ?qzkD ?_); walk_at "mine heard"; (case qzkXB => assumption); (case qzkTB => assumption); (case qzkD => assumption); (case qzhf => (intro p2 loose2 mean2 mg2 mb2 dp2 un2 gd2 cn2 cs2 a2 ccd2 cl2 outer2 A2 base2 h2 L2 m2 s2 Q2 E2 B2 F2 X2 N2 T2 hck2 hdp2 hun2 hret2; walk_at "mine enterL"; k_steps; all_goals (rename RaisedSN _ _ _ _ _ _ _ => R8; refine hret2 _ _ _ _ ?_ R8 ?_ <;> assumption))); refine o_15 ?_; intro t9 h9 tk9 h8 W9 B9 F9 X9 N9 T9 D9; (try dsimp only); (try k_fold)))
  k_with "mine at" => ((repeat (first | exact List.mem_cons_self | refine List.mem_cons_of_mem _ ?_)))
  k_with "mine six" => ((refine List.forall_mem_cons.mpr ⟨by walk_at "mine at", List.forall_mem_cons.mpr ⟨by walk_at "mine at", List.forall_mem_cons.mpr ⟨by walk_at "mine at", List.forall_mem_cons.mpr ⟨by walk_at "mine at", List.forall_mem_cons.mpr ⟨by walk_at "mine at", List.forall_mem_cons.mpr ⟨by walk_at "mine at", ?_⟩⟩⟩⟩⟩⟩; intro q hq; (repeat (first | exact hq | refine List.mem_cons_of_mem _ ?_))))
  k_with "call ref" => ((k_here; (try simp only [List.append_nil]); (try dsimp only); (with_reducible show wpAny _ _ (call (Value.ref 331) [Value.ref _]) _ _ _); k_dflt (refine' told_m _ _ _ _ _ _ _ _ _ _ _ _ _ _ _ _ ?qzh4 _ _ _ _ _ _ _ _ _ _ _ _ _ _ _ _ _ _ _ _ _ _ ?k1 ?k2 ?k3 ?k4 ?k5 ?kK ?kd ?ku ?_; walk_at "mine side"; (case qzh4 => walk_at "mine mem"); refine o_16 ?_; intro D9 k9 h9 tk9 F9 N9 l9; (try k_lt l9); (try dsimp only); (try k_fold))))
  k_with "callWith ref" => ((k_here; k_dflt (refine' callWith_K ?k1 ?k2 ?_; (case k1 => k_asm); (case k2 => k_is); k_whole)))
  trivial
theorem GGC.elim {FR : List Addr} {g0 : Heap} {A : Around} {base : Heap} {envs : List Env} {K : Frag} {p : Program} {loose : List PySem.Str} {mean : ExcName → Option Value} {mg mb m0 : PySem.Str → Option Value} {g1 h1 : Heap} {L1 c1 c2 y : Addr} {o1 o2 oy o : Obj} {news : List (Addr × Obj)} {N1 : News g1 L1 h1 ((c1, o1) :: (c2, o2) :: (y, oy) :: (417, o) :: news)} {i : Nat} {g : Heap} {m : PySem.Str → Option Value} {nw : List (Addr × Obj)} {C : (PySem.Str → Option Value) → List (Addr × Obj) → Prop} (X : GG FR g0 A base envs K p loose mean mg mb m0 (CutX N1) i g m nw)
    (k : KtsTurn FR g0 g → Below A base envs g → K.In g → Top p loose mean mg mb g → KtsDicts FR g → ∀ cs v add o', cs.data = .cell v → TabSt 207 22 Q422 (add ++ news) o' → (TabSt 207 22 Q422 add o' ∨ o' = o) → (∀ p ∈ add ++ news, p.1 ≠ 417) → (∀ p ∈ add ++ news, p.1 ≠ c1) → AddOk add news → C m0 ((c1, cs) :: (c2, o2) :: (y, oy) :: (417, o') :: (add ++ news))) : C m nw := by
  obtain ⟨a1, a2, a3, a4, a5, rfl, cs, v, add, o', rfl, h1, h2, h3, h4, h5, h6⟩ := X
  exact k a1 a2 a3 a4 a5 cs v add o' h1 h2 h3 h4 h5 h6
set_option maxHeartbeats 4000000 in
theorem cut_core (w : World) (b : Array UInt8) (tb tm : Tok) (ks : List Int) (hb : KBw.bInts b = ks) (hl : ks.length ≤ 1000) (many : Nat) (hm0 : many ≤ 4) (hz : ∀ (i : Nat) (c : Array UInt8) (t : Tok) (news : List (Addr × Obj)), i < many → KBw.bInts c = List.take (min i ks.length) ks → SpecE 9 w 359 [.bytes c t] news 44)
    (hz2 : ∀ (c : Array UInt8) (t : Tok) (news : List (Addr × Obj)), KBw.bInts c = List.take (min many ks.length) ks → Spec 8 w 359 [.bytes c t] news (CutR w news)) (y : Addr) (oy o : Obj) (news : List (Addr × Obj)) (hy : @LT.lt Nat _ 436 y) (hne : ∀ p ∈ news, p.1 ≠ 417) (hT : TabSt 207 22 Q422 news o) :
    SpecT 16 w 422 [.bytes b tb, .int (many : Int) tm] ([(y, oy)] ++ ((417, o) :: news))
      (fun v nx => v = .bool true ∧ ∃ o' add, nx = add ++ ([(y, oy)] ++ ((417, o') :: news)) ∧ (TabSt 207 22 Q422 add o' ∨ o' = o) ∧ AddOk add news) := by
  unfold SpecT
  simp only [List.cons_append, List.nil_append]
  k_fill
  intro p loose mean mg mb dp un gd cn cs a ccd cl outer A₀ base h₀ L m s Q E B F X N T hck hdp hun XB TB D hret
  walk_at "mine enterT"
  k_steps
  refine For_own ?_
  k_steps
  with_reducible rename (∀ p ∈ _ :: _ :: _, Prod.fst p < _) => hlt9
  rename IsRange _ _ _ _ _ _ _ _ => hrg
  rename Fr _ _ _ _ => hF9
  rename News _ _ _ _ => hN9
  rename Below _ _ _ _ => hB9
  rename KtsDicts _ _ => hD9
  rename Frag.In _ _ => hX9
  rename Top _ _ _ _ _ _ => hT9
  have hc1 := hN9 _ List.mem_cons_self
  k_dflt (refine' own_range (n := many) (GG _ _ _ _ _ _ _ _ _ _ _ _ (CutX hN9)) ?hL rfl hrg rfl ?hsm ?hn hF9 hN9 ⟨KtsTurn.refl, hB9, hX9, hT9, hD9, rfl, ?h0⟩ ?step ?fin)
  case hL => exact rfl
  case hsm => exact small_one (by omega) (by omega) (by omega) (by omega)
  case hn => first | exact rangeSize_nat _ _ | rfl
  case h0 => exact ⟨_, _, [], _, rfl, by assumption, hT, .inr rfl, hne, (fun p hp => Nat.ne_of_lt (Nat.lt_of_lt_of_le (hlt9 p (.tail _ (.tail _ hp))) (by omega))), fun q hq => by cases hq⟩
  case step =>
    intro I i g m' nw h tk t hi GX off F1 N1
    revert off F1 N1
    refine GGC.elim (C := fun m nw => (∀ p ∈ nw, p.1 ≠ I) → Fr _ _ _ m → News _ _ _ ((I, _) :: nw) → _) GX ?_
    clear GX nw m'
    intro W1 B1 X1 T1 D1 cs' vc add o1 hcd hT1 hT2 hr1 hr2 hadd off F1 N1
    have hI1 : I ≠ _ := Ne.symm (off _ List.mem_cons_self)
    have hI2 : I ≠ 417 := Ne.symm (off (417, o1) (List.mem_cons_of_mem _ (List.mem_cons_of_mem _ (List.mem_cons_of_mem _ List.mem_cons_self))))
    have hI3 : I ≠ _ := Ne.symm (off _ (List.mem_cons_of_mem _ List.mem_cons_self))
    have hI4 : I ≠ _ := Ne.symm (off _ (List.mem_cons_of_mem _ (List.mem_cons_of_mem _ List.mem_cons_self)))
    (try dsimp only at hI1 hI3 hI4)
    have offr := fun p hp => off p (List.mem_cons_of_mem _ (List.mem_cons_of_mem _ (List.mem_cons_of_mem _ (List.mem_cons_of_mem _ hp))))
    generalize hre : add ++ news = r at *
    walk_at "mine codes"
    k_steps
    walk_at "mine form"
    k_steps
    subst hre
    refine Exists.elim (lam_acc hlo d1' d2' hT2 hadd (by walk_at "mine news in") hy (by walk_at "mine me")) fun add2 hh => ?_
    refine' ⟨_, _, _, _, _, rfl, by assumption, cb_drop (by assumption) ?sub, ?off, W1.trans (by assumption), by assumption, by assumption, by assumption, by assumption, rfl, _, _, add2, _, rfl, by assumption, hh.2.1, hh.2.2.1, ?e1, ?e2, hh.2.2.2.1⟩
    case sub => exact List.forall_mem_cons.mpr ⟨by walk_at "mine me", List.forall_mem_cons.mpr ⟨by walk_at "mine me", List.forall_mem_cons.mpr ⟨by walk_at "mine me", List.forall_mem_cons.mpr ⟨by walk_at "mine me", List.forall_mem_cons.mpr ⟨by walk_at "mine me", acc_sub hh.1 (by walk_at "mine me") (by walk_at "mine sk")⟩⟩⟩⟩⟩
    case off => exact List.forall_mem_cons.mpr ⟨Ne.symm hI1, List.forall_mem_cons.mpr ⟨Ne.symm hI3, List.forall_mem_cons.mpr ⟨Ne.symm hI4, List.forall_mem_cons.mpr ⟨Ne.symm hI2, acc_ne hh.2.2.2.2 (by walk_at "mine me") offr⟩⟩⟩⟩
    case e1 => exact acc_ne hh.2.2.2.2 (by walk_at "mine me") hr1
    case e2 => exact acc_ne hh.2.2.2.2 (by walk_at "mine me") hr2
  case fin =>
    intro g m' nw h tk GX
    refine GGC.elim (C := fun m nw => Fr _ _ _ m → News _ _ _ nw → _) GX ?_
    clear GX nw m'
    intro W1 B1 X1 T1 D1 cs' vc add o1 hcd hT1 hT2 hr1 hr2 hadd F1 N1
    generalize hre : add ++ news = r at *
    (try dsimp only)
    k_steps
    subst hre
    refine' hret _ _ _ _ _ (by assumption) (by assumption) (by assumption) (by assumption) ?_ (by assumption) (by assumption) ⟨empty_true (by assumption), o1, add, rfl, hT2, hadd⟩
    exact cb_drop (by assumption) (sub_mid (by walk_at "mine sub"))
theorem top_off_C2 : True := by
  w_top off
  trivial
theorem cut_u3 (w : World) (b : Array UInt8) (tb tm : Tok) (ks : List Int) (hb : KBw.bInts b = ks) (hl : ks.length ≤ 1000) (hn : 3 ≤ ks.length) (hs : ks.getD 2 0 % 4 = 3) (y : Addr) (oy o : Obj) (hy : @LT.lt Nat _ 436 y) (news : List (Addr × Obj)) (g : Obj → List (Addr × Obj)) (U : UpdF 417 o news g) (hT : TabSt 207 22 Q422 news o) (hm : (y, oy) ∈ news) :
    SpecT 16 w 422 [.bytes b tb, .int 3 tm] news (fun v nx => ∃ o' add, nx = add ++ g o' ∧ v = .bool true ∧ (TabSt 207 22 Q422 add o' ∨ o' = o) ∧ AddOk add news) := by
  refine SpecT.tab (link := [(y, oy)]) (R := fun v o' add nx => v = .bool true ∧ (TabSt 207 22 Q422 add o' ∨ o' = o) ∧ AddOk add news) U (fun q hq => by rw [List.mem_singleton.mp hq]; exact hm) fun r h1 h2 h3 => ?_
  refine (cut_core w b tb tm ks hb hl 3 (by decide) (fun i c t news hi hc => cut_raise w c ks i t hc hl hn hi news) (fun c t news hc => (cut_ok3 w c ks t hc hl hn hs news).mono fun v nx ⟨x, d, k1, k2, k3, k4, t1, t2, t3, t4, c', z⟩ => ⟨x, d, k1, k2, k3, k4, t1, t2, t3, t4, _, _, _, c', z⟩) y oy o r hy h1 (hT.rest U h2)).mono fun v nx ⟨e, o', add, f, t, l⟩ => ⟨o', add, f, fun nx' hs hr => ⟨e, t, addOk_of (by decide) l hr⟩⟩
theorem cut_u4 (w : World) (b : Array UInt8) (tb tm : Tok) (ks : List Int) (hb : KBw.bInts b = ks) (hl : ks.length ≤ 1000) (hn : 4 ≤ ks.length) (hs : ¬ ks.getD 2 0 % 4 = 3) (hs2 : ¬ (ks.getD 2 0 = 0 ∧ ks.getD 3 0 % 4 = 3)) (y : Addr) (oy o : Obj) (hy : @LT.lt Nat _ 436 y) (news : List (Addr × Obj)) (g : Obj → List (Addr × Obj)) (U : UpdF 417 o news g) (hT : TabSt 207 22 Q422 news o) (hm : (y, oy) ∈ news) :
    SpecT 16 w 422 [.bytes b tb, .int 4 tm] news (fun v nx => ∃ o' add, nx = add ++ g o' ∧ v = .bool true ∧ (TabSt 207 22 Q422 add o' ∨ o' = o) ∧ AddOk add news) := by
  refine SpecT.tab (link := [(y, oy)]) (R := fun v o' add nx => v = .bool true ∧ (TabSt 207 22 Q422 add o' ∨ o' = o) ∧ AddOk add news) U (fun q hq => by rw [List.mem_singleton.mp hq]; exact hm) fun r h1 h2 h3 => ?_
  refine (cut_core w b tb tm ks hb hl 4 (by decide) (fun i c t news hi hc => ?_) (fun c t news hc => (cut_ok4 w c ks t hc hl hn hs hs2 news).mono fun v nx ⟨x, d, k1, k2, k3, k4, t1, t2, t3, t4, c', z⟩ => ⟨x, d, k1, k2, k3, k4, t1, t2, t3, t4, _, _, _, c', z⟩) y oy o r hy h1 (hT.rest U h2)).mono fun v nx ⟨e, o', add, f, t, l⟩ => ⟨o', add, f, fun nx' hs hr => ⟨e, t, addOk_of (by decide) l hr⟩⟩
  by_cases h3 : i = 3
  · subst h3
    exact cut_raise3 w c ks t hc hl (by omega) hs news
  · exact cut_raise w c ks i t hc hl (by omega) (by omega) news
theorem top_off_E0 : True := by
  w_top off
  trivial
abbrev ElB (y : Value) : Prop := ∃ (k : Int) (t : Tok), y = .int k t ∧ 0 ≤ k ∧ k < 256
section
variable {prog : Program} {w : World} {A : Around} {h₀ : Heap} {L : Addr} {m : PySem.Str → Option Value} {env : Env} {elt : Expr} {x : PySem.Str} {scope : Scope} {cl : List (PySem.Str × Addr)} {s : Shared} {S : List (Addr × Obj) → Prop} {P : Nat → Value → Prop} {Fin : List Value → List (Addr × Obj) → Prop} {news : List (Addr × Obj)}
theorem rest_pay {n : Nat} (Inv : List (Addr × Obj) → Prop) (El : Value → Prop)
    (turn : ∀ v news' I oI C oC D m₂ ys h tk (E' : Value → Shared → Prop), Inv news' → LCg.NsObj oC m₂ → m₂ x = some v → Fr h₀ L h m → News h₀ L h ((I, oI) :: (C, oC) :: (D, LCg.lst ys) :: news') → LCg.Off3 I C D news' → ((@Ne Nat I C) ∧ (@Ne Nat I D) ∧ (@Ne Nat C D)) →
      wpAny (model prog w) A (eval elt (compEnvC scope cl C env)) (LCg.CompEnd h₀ L m { s with heap := h, toks := tk } I oI C oC D (LCg.lst ys) S (fun y nw => Inv nw ∧ El y)) E' { s with heap := h, toks := tk })
    (fin : ∀ ys nw, ys.length = n → (∀ y ∈ ys, El y) → Inv nw → Fin ys nw) (h0 : Inv news) : LCg.CompRest prog w A h₀ L m env elt x scope cl s S P Fin n 0 [] news := by
  have key : ∀ (j i : Nat) (ys : List Value) (nw : List (Addr × Obj)), ys.length + j = n → (∀ y ∈ ys, El y) → Inv nw → LCg.CompRest prog w A h₀ L m env elt x scope cl s S P Fin j i ys nw := by
    intro j
    induction j with
    | zero =>
      intro i ys nw hi hy hI
      exact LCg.CompRest.zero (fin ys nw (by omega) hy hI)
    | succ j ih =>
      intro i ys nw hi hy hI
      refine LCg.CompRest.succ ?_
      intro v I oI C oC D m₂ h tk E' hv hC hx F N off ne
      refine wpAny_mono (turn v nw I oI C oC D m₂ ys h tk E' hI hC hx F N off ne) (fun y s₂ hq => ?_) fun _ _ e => e
      obtain ⟨h', tk', nw', e, F', N', off', hS, hI', hEl⟩ := hq
      refine ⟨h', tk', nw', e, F', N', off', hS, ih (i + 1) _ nw' (by rw [List.length_append, List.length_singleton]; omega) (fun z hz => ?_) hI'⟩
      rcases List.mem_append.mp hz with hz | hz
      · exact hy z hz
      · rw [List.mem_singleton.mp hz]; exact hEl
  exact key n 0 [] news (by simp) (fun _ h => nomatch h) h0
end
theorem els_ints : ∀ {ys : List Value}, (∀ y ∈ ys, ElB y) → ∃ ns : List Int, IntsAre ys ns ∧ (∀ k ∈ ns, 0 ≤ k ∧ k < 256) ∧ ns.length = ys.length
  | [], _ => ⟨[], .nil, (fun _ h => nomatch h), rfl⟩
  | y :: r, h => by
    obtain ⟨k, t, rfl, h0, h1⟩ := h y List.mem_cons_self
    obtain ⟨ns, a, b, c⟩ := els_ints fun z hz => h z (List.mem_cons_of_mem _ hz)
    refine ⟨k :: ns, .cons k t a, fun z hz => ?_, by simp [c]⟩
    rcases List.mem_cons.mp hz with rfl | hz
    · exact ⟨h0, h1⟩
    · exact b z hz
section
variable {prog : Program} {w : World} {A : Around} {E : Value → Shared → Prop} {s : Shared} {h₀ : Heap} {L : Addr} {m : PySem.Str → Option Value} {env : Env}
def PaySrc (prog : Program) (w : World) (A : Around) (h₀ : Heap) (L : Addr) (m : PySem.Str → Option Value) (env : Env) (elt : Expr) (x : PySem.Str) (scope : Scope) (cl : List (PySem.Str × Addr)) (Fin : Shared → List Value → List (Addr × Obj) → Prop) (xv : Value) (s₁ : Shared) : Prop :=
  LCg.CompSrc prog w A h₀ L m env elt x scope cl Fin xv s₁
theorem listComp_pay {elt iter : Expr} {x : PySem.Str} {px : Pos} {scope : Scope} {cl : List (PySem.Str × Addr)} {pos : Pos} {Q : Value → Shared → Prop} (F₀ : Fr h₀ L s.heap m)
    (hclos : closureFor scope env = pure cl) (hcell : ∀ y ∈ scope.names, y.2 ≠ .cell) (hkind : scope.kind = .function)
    (hnames : ∀ y ∈ scope.names, y.2 = .local → scope.names.lookup y.1 = some .local) (hx : scope.names.lookup x = some .local)
    (h : wpAny (model prog w) A (eval iter env) (PaySrc prog w A h₀ L m env elt x scope cl (fun s₂ => LCg.FinE h₀ L m s₂ Q)) E s)
    (hs : ∀ x, foldedSetIterable iter env x = pure x := by intro _; rfl) :
    wpAny (model prog w) A (eval (.ListComp elt [⟨.Name x px, iter, [], 0⟩] scope pos) env) Q E s := LCg.ListComp_U F₀ hclos hcell hkind hnames hx h hs
def SrcMark (_ : Addr) : Prop := True
def PayG (g : Obj → List (Addr × Obj)) (nw : List (Addr × Obj)) : Prop :=
  ∃ a2 b2 u1 u2 n2, nw = g (srcO a2 b2 u1 u2 n2) ∧ 0 ≤ a2 ∧ 0 ≤ b2 ∧ b2 < 2147483647
theorem PaySrc.intro {elt : Expr} {x : PySem.Str} {scope : Scope} {cl : List (PySem.Str × Addr)} {Q : Value → Shared → Prop} {r src : Addr} {b : Int} {t u v : Tok} {news : List (Addr × Obj)} {g : Obj → List (Addr × Obj)} {a0 b0 : Int} {v1 v2 : Tok} {n0 : Nat}
    (hmark : SrcMark src) (hh : A.handled = none) (F : Fr h₀ L s.heap m) (N : News h₀ L s.heap news) (U : UpdF src (srcO a0 b0 v1 v2 n0) news g) (ha : 0 ≤ a0) (hb : 0 ≤ b0) (hb2 : b0 < 2147483647) (hr : IsRange s.heap r 0 b 1 t u v) (hb0 : 0 ≤ b) (hb1 : b ≤ 60)
    (turn : ∀ I oI C oC D m₂ ys h tk a2 b2 u1 u2 n2 (E' : Value → Shared → Prop), 0 ≤ a2 → 0 ≤ b2 → b2 < 2147483647 → LCg.NsObj oC m₂ → Fr h₀ L h m → News h₀ L h ((I, oI) :: (C, oC) :: (D, LCg.lst ys) :: g (srcO a2 b2 u1 u2 n2)) → LCg.Off3 I C D (g (srcO a2 b2 u1 u2 n2)) → ((@Ne Nat I C) ∧ (@Ne Nat I D) ∧ (@Ne Nat C D)) →
      wpAny (model prog w) A (eval elt (compEnvC scope cl C env)) (LCg.CompEnd h₀ L m { s with heap := h, toks := tk } I oI C oC D (LCg.lst ys) (fun _ => True) (fun y nw => PayG g nw ∧ ElB y)) E' { s with heap := h, toks := tk })
    (fin : ∀ ys ns D h tk a2 b2 u1 u2 n2, IntsAre ys ns → KBa.In ns → ns.length ≤ 60 → 0 ≤ a2 → 0 ≤ b2 → b2 < 2147483647 → Fr h₀ L h m → News h₀ L h ((D, LCg.lst ys) :: g (srcO a2 b2 u1 u2 n2)) → LCg.Off1 D (g (srcO a2 b2 u1 u2 n2)) → Q (.ref D) { s with heap := h, toks := tk }) :
    PaySrc prog w A h₀ L m env elt x scope cl (fun s₂ => LCg.FinE h₀ L m s₂ Q) (.ref r) s := by
  refine LCg.CompSrc.range (n := b.toNat) hh F N hr (small_one (by omega) (by omega) (by omega) (by omega)) ?_ (by rw [sizeLine_eq]; omega) fun g' => ?_
  · rw [rangeSize_nat, Int.sub_zero]
  refine rest_pay (PayG g) ElB ?_ ?_ ?_
  · rintro v nw I oI C oC D m₂ ys h tk E' ⟨a2, b2, u1, u2, n2, rfl, h1, h2, h3⟩ hC hx F' N' off ne
    exact turn I oI C oC D m₂ ys h tk a2 b2 u1 u2 n2 E' h1 h2 h3 hC F' N' off ne
  · rintro ys nw hl hy ⟨a2, b2, u1, u2, n2, rfl, h1, h2, h3⟩ D h tk F' N' off
    obtain ⟨ns, i1, i2, i3⟩ := els_ints hy
    exact fin ys ns D h tk a2 b2 u1 u2 n2 i1 i2 (by omega) h1 h2 h3 F' N' off
  · obtain ⟨pre, post, hn, hg, _, _⟩ := U.split
    exact ⟨a0, b0, v1, v2, n0, by rw [hn, hg], ha, hb, hb2⟩
end
theorem top_off_E2 : True := by
  w_top off
  trivial
theorem due_some_m (w : World) (P : Addr) (n : Nat) (p' q' c : Int) (t1 t2 t3 : Tok) (ds : List Int) (news : List (Addr × Obj)) (hd : dueF p' q' c = some ds) (hp : 0 ≤ p') (hq : 0 ≤ q') (hc : 0 ≤ c) (hm : tupAt P #[.int p' t1, .int q' t2] n ∈ news) :
   Spec 3 w 408 [.ref P, .int c t3] news (fun v nx => (∃ (c' : Array UInt8) (t : Tok), v = .bytes c' t ∧ KBw.bInts c' = ds) ∧ nx = news) :=
  Spec.mem (front := [tupAt P #[.int p' t1, .int q' t2] n]) (due_some w P n p' q' c t1 t2 t3 ds hp hq hc hd news) (fun q hq => by rw [List.mem_singleton.mp hq]; exact hm)
theorem due_none_m (w : World) (P : Addr) (n : Nat) (p' q' c : Int) (t1 t2 t3 : Tok) (news : List (Addr × Obj)) (hd : dueF p' q' c = none) (hp : 0 ≤ p') (hq : 0 ≤ q') (hc : 0 ≤ c) (hm : tupAt P #[.int p' t1, .int q' t2] n ∈ news) :
   Spec 3 w 408 [.ref P, .int c t3] news (fun v nx => (∃ t, v = .str (Str.ofString "size") t) ∧ nx = news) :=
  Spec.mem (front := [tupAt P #[.int p' t1, .int q' t2] n]) (due_none w P n p' q' c t1 t2 t3 hp hq hc hd news) (fun q hq => by rw [List.mem_singleton.mp hq]; exact hm)
theorem mv_cons {a : Addr × Obj} {add r r' : List (Addr × Obj)} (h : ∀ q ∈ r', q ∈ add ++ r) : ∀ q ∈ a :: r', q ∈ add ++ (a :: r) := fun q hq => by
  rcases List.mem_cons.mp hq with rfl | hq
  · exact List.mem_append_right _ List.mem_cons_self
  · rcases List.mem_append.mp (h q hq) with z | z
    · exact List.mem_append_left _ z
    · exact List.mem_append_right _ (List.mem_cons_of_mem _ z)
theorem mv_nil {add r : List (Addr × Obj)} : ∀ q ∈ add ++ r, q ∈ add ++ r := fun _ h => h
theorem add_ne {add news r : List (Addr × Obj)} {a : Addr} {o : Obj} (l : AddOk add news) (hm : (a, o) ∈ news) (hr : ∀ p ∈ r, p.1 ≠ a) : ∀ p ∈ add ++ r, p.1 ≠ a := fun p hp => by
  rcases List.mem_append.mp hp with hp | hp
  · exact Nat.ne_of_gt ((l p hp).2 _ hm)
  · exact hr p hp
abbrev Q434 : Str := (Str.ofString "_law_head_right" ++ ".<locals>.") ++ Str.ofString "<lambda>"
abbrev HeadR (src : Addr) (tp : Addr × Obj) (o4 o7 o1 : Obj) (news : List (Addr × Obj)) (v : Value) (nx : List (Addr × Obj)) : Prop :=
  v = .bool true ∧ ∃ (a2 b2 : Int) (v1 v2 : Tok) (n2 : Nat) (o4' o7' o1' : Obj) (add : List (Addr × Obj)), nx = (src, srcO a2 b2 v1 v2 n2) :: tp :: (424, o4') :: (417, o7') :: (431, o1') :: (add ++ news) ∧ 0 ≤ a2 ∧ 0 ≤ b2 ∧ b2 < 2147483647 ∧ (TabSt 211 22 Q429 add o4' ∨ o4' = o4) ∧ (TabSt 207 22 Q422 add o7' ∨ o7' = o7) ∧ (TabSt 225 26 Q434 add o1' ∨ o1' = o1) ∧ ∀ p ∈ add, @LT.lt Nat _ 436 p.1 ∧ p.1 ≠ src ∧ ∀ q ∈ news, @LT.lt Nat _ q.1 p.1
theorem tab_left {l c : Nat} {q : PySem.Str} {add add' : List (Addr × Obj)} {o o' : Obj} (h : TabSt l c q add o' ∨ o' = o) (hs : ∀ z ∈ add, z ∈ add') : TabSt l c q add' o' ∨ o' = o := h.elim (fun t => .inl (t.mono hs)) .inr
theorem tab_app {l c : Nat} {q : PySem.Str} {add news big : List (Addr × Obj)} {o o' : Obj} (h : TabSt l c q add o' ∨ o' = o) (h0 : TabSt l c q news o) (hb : ∀ z ∈ add ++ news, z ∈ big) : TabSt l c q big o' :=
  h.elim (fun t => t.mono fun z hz => hb z (List.mem_append_left _ hz)) fun e => e ▸ h0.mono fun z hz => hb z (List.mem_append_right _ hz)
theorem off1_mem {D : Addr} : ∀ {l : List (Addr × Obj)}, LCg.Off1 D l → ∀ p ∈ l, p.1 ≠ D
  | [], _, _, h => nomatch h
  | _ :: _, x, p, h => by
    rcases List.mem_cons.mp h with rfl | h
    · exact x.1
    · exact off1_mem x.2 p h
def DueV (p q c : Int) (v : Value) : Prop := (dueF p q c = none ∧ ∃ t, v = .str (Str.ofString "size") t) ∨ (∃ ds c' t, dueF p q c = some ds ∧ v = .bytes c' t ∧ KBw.bInts c' = ds)
theorem due_any_m (w : World) (P : Addr) (n : Nat) (p' q' c : Int) (t1 t2 t3 : Tok) (news : List (Addr × Obj)) (hp : 0 ≤ p') (hq : 0 ≤ q') (hc : 0 ≤ c) (hm : tupAt P #[.int p' t1, .int q' t2] n ∈ news) :
   Spec 3 w 408 [.ref P, .int c t3] news (fun v nx => DueV p' q' c v ∧ nx = news) := by
  cases h : dueF p' q' c with
  | none => exact Spec.mono (due_none_m w P n p' q' c t1 t2 t3 news h hp hq hc hm) fun v nx r => ⟨.inl ⟨h, r.1⟩, r.2⟩
  | some ds =>
    refine Spec.mono (due_some_m w P n p' q' c t1 t2 t3 ds news h hp hq hc hm) fun v nx r => ?_
    obtain ⟨⟨c', t, e, b⟩, f⟩ := r
    exact ⟨.inr ⟨ds, c', t, h, e, b⟩, f⟩
theorem o_due {s : Shared} {Q : Value → Shared → Prop} {h₀ : Heap} {L : Addr} {m : Str → Option Value} {P1 : Value → Prop} {g : List (Addr × Obj)}
    (k : ∀ v h' tk', Fr h₀ L h' m → News h₀ L h' g → P1 v → Q v { s with heap := h', toks := tk' }) :
    ∀ v nx h' tk', Fr h₀ L h' m → News h₀ L h' nx → (P1 v ∧ nx = g) → Q v { s with heap := h', toks := tk' } := by
  rintro v nx h' tk' F N ⟨p1, rfl⟩
  exact k v h' tk' F N p1
theorem top_off_E4 : True := by
  w_top off
  trivial
section
variable {prog : Program} {w : World} {A : Around} {E : Value → Shared → Prop} {s : Shared}
theorem ne_tup4 {l k : Addr} {a0 a1 a2 : Int} {t0 t1 t2 t3 u0 u1 u2 u3 : Tok} {x y : Array UInt8} {n m : Nat} {h₀ : Heap} {L : Addr} {news : List (Addr × Obj)} {Q : Value → Shared → Prop} (N : News h₀ L s.heap news) (hl : tupAt l #[.int a0 t0, .int a1 t1, .int a2 t2, .bytes x t3] n ∈ news) (hk : tupAt k #[.int a0 u0, .int a1 u1, .int a2 u2, .bytes y u3] m ∈ news)
    (hxy : KBw.bInts x = KBw.bInts y) (hu : A.units < cLine) (h : Q (.bool false) s) : wpAny (model prog w) A (compareOp .NotEq (.ref l) (.ref k)) Q E s := by
  refine cmp_ofNotEq ?_
  refine SeqAt.RcNeAt.tuples (e := fun _ => true) ⟨_, (N _ hl).1, rfl, _, rfl⟩ ⟨_, (N _ hk).1, rfl, _, rfl⟩ hu (fun j h1 h2 => ?_) prog w E Q h
  match j, h1, h2 with
  | 0, _, _ => exact eqAt_int _ _ _
  | 1, _, _ => exact eqAt_int _ _ _
  | 2, _, _ => exact eqAt_int _ _ _
  | 3, _, _ => exact eqAt_bytes _ _ _ _ hxy
  | j + 4, h1, _ => exact absurd h1 (by simp)
end
theorem unpack_u (w : World) (b : Array UInt8) (ks ds : List Int) (tb : Tok) (p' q' c : Int) (hb : KBw.bInts b = ds ++ ks) (hl : ks.length ≤ 100) (hd : dueF p' q' c = some ds) (hc : 0 ≤ c) (news : List (Addr × Obj)) :
   Spec 8 w 359 [.bytes b tb] news (fun v nx => ∃ x d k1 k2 k3 k4 t1 t2 t3 t4 c', v = .ref x ∧ nx = LinkAt w.params x d k1 k2 k3 k4 t1 t2 t3 t4 p' q' c c' ++ news ∧ KBw.bInts c' = ks ∧ (∀ p ∈ news, p.1 < d) ∧ d < x) := by
  rcases due_len hd with ⟨_, h3, rfl⟩ | ⟨_, h3, h65, h4, rfl⟩
  · exact unpack1 w b ([p', q', c] ++ ks) tb hb (by rw [List.length_append]; simp only [List.length_cons, List.length_nil]; omega) (by rw [List.length_append]; simp only [List.length_cons, List.length_nil]; omega) h3 news
  · have h := unpack2 w b ([p', q', c / 256, c % 256] ++ ks) tb hb (by rw [List.length_append]; simp only [List.length_cons, List.length_nil]; omega) (by rw [List.length_append]; simp only [List.length_cons, List.length_nil]; omega) h3 (by show ¬ (c / 256 = 0 ∧ c % 256 % 4 = 3); omega) news
    have e : c / 256 * 256 + c % 256 = c := by omega
    have e2 : ([p', q', c / 256, c % 256] ++ ks).getD 2 0 * 256 + ([p', q', c / 256, c % 256] ++ ks).getD 3 0 = c := e
    rw [e2] at h
    exact h
theorem pfr0_m (w : World) (x d tt : Addr) (n : Nat) (k1 k2 k3 k4 k5 t1 t2 tb : Tok) (b : Array UInt8) (ps : List Int) (news : List (Addr × Obj)) (hb : KBw.bInts b = ps) (hl : ps.length ≤ 100) (hm : ∀ p ∈ FrmAt w.params x d k1 k2 k3 k4 k5 t1 t2 tb tt b, p ∈ news) (ht : tupAt tt #[] n ∈ news) :
   Spec 12 w 288 [.ref x] news (fun v nx => (∃ (c' : Array UInt8) (t : Tok), v = .bytes c' t ∧ KBw.bInts c' = frameF [] ps) ∧ nx = news) :=
  Spec.mem (front := FrmAt w.params x d k1 k2 k3 k4 k5 t1 t2 tb tt b ++ [tupAt tt #[] n]) (pfr0 w x d tt n k1 k2 k3 k4 k5 t1 t2 tb b ps hb hl news)
    fun p hp => (List.mem_append.mp hp).elim (hm p) fun z => by rw [List.mem_singleton.mp z]; exact ht
theorem pfr1_m (w : World) (x d tt xt dt : Addr) (q1 q2 q3 q4 r1 r2 r4 : Tok) (n : Nat) (k1 k2 k3 k4 k5 t1 t2 tb : Tok) (b : Array UInt8) (ps : List Int) (news : List (Addr × Obj)) (hb : KBw.bInts b = ps) (hl : ps.length ≤ 100) (hm : ∀ p ∈ FrmAt w.params x d k1 k2 k3 k4 k5 t1 t2 tb tt b, p ∈ news) (ht : tupAt tt #[.ref xt] n ∈ news) (hg : ∀ p ∈ TagAt w.params xt dt q1 q2 q3 q4 r1 r2 r4, p ∈ news) :
   Spec 12 w 288 [.ref x] news (fun v nx => (∃ (c' : Array UInt8) (t : Tok), v = .bytes c' t ∧ KBw.bInts c' = frameF [129, 0, 32, 5] ps) ∧ nx = news) :=
  Spec.mem (front := FrmAt w.params x d k1 k2 k3 k4 k5 t1 t2 tb tt b ++ (tupAt tt #[.ref xt] n :: TagAt w.params xt dt q1 q2 q3 q4 r1 r2 r4)) (pfr1 w x d tt xt dt q1 q2 q3 q4 r1 r2 r4 n k1 k2 k3 k4 k5 t1 t2 tb b ps hb hl news)
    fun p hp => (List.mem_append.mp hp).elim (hm p) fun z => (List.mem_cons.mp z).elim (fun e => by rw [e]; exact ht) (hg p)
theorem body0_len (ps : List Int) : (bodyF [] ps).length = 14 + ps.length := by simp only [bodyF, List.length_append, List.length_cons, List.length_nil]
theorem body1_len (ps : List Int) : (bodyF [129, 0, 32, 5] ps).length = 18 + ps.length := by simp only [bodyF, List.length_append, List.length_cons, List.length_nil]
theorem padded0 (ps : List Int) : paddedF [] ps = [0, 0, 0, 0, 0, 5, 0, 0, 0, 0, 0, 6, (ps.length : Int) / 256, (ps.length : Int) % 256] ++ (ps ++ List.replicate (60 - (14 + ps.length)) 0) := by
  unfold paddedF; rw [body0_len]; unfold bodyF; simp only [List.append_assoc, List.cons_append, List.nil_append]
theorem padded1 (ps : List Int) : paddedF [129, 0, 32, 5] ps = [0, 0, 0, 0, 0, 5, 0, 0, 0, 0, 0, 6, 129, 0, 32, 5, (ps.length : Int) / 256, (ps.length : Int) % 256] ++ (ps ++ List.replicate (60 - (18 + ps.length)) 0) := by
  unfold paddedF; rw [body1_len]; unfold bodyF; simp only [List.append_assoc, List.cons_append, List.nil_append]
theorem ufrF0 (w : World) (b : Array UInt8) (ps : List Int) (tb : Tok) (hb : KBw.bInts b = frameF [] ps) (hl : ps.length ≤ 100) (news : List (Addr × Obj)) :
   Spec 16 w 310 [.bytes b tb] news (fun v nx => ∃ x d k1 k2 k3 k4 k5 v1 v2 c t F k, v = .ref x ∧ nx = (x, instObj 264 d) :: (d, dictOf (frmD w.params k1 k2 k3 k4 k5 v1 v2 (.ref F) .none (.bytes c t)) 5) :: tupAt F #[] k :: news ∧ KBw.bInts c = ps) := by
  unfold frameF at hb
  rw [padded0] at hb
  refine ufr0 w b _ ps _ tb (ps.length : Int) hb rfl rfl hl ?_ ?_ ?_ news
  · rw [List.length_append, List.length_replicate]; omega
  · rw [List.length_append, List.length_replicate]; omega
  · show (ps.length : Int) / 256 * 256 + (ps.length : Int) % 256 = _
    omega
theorem ufrF1 (w : World) (b : Array UInt8) (ps : List Int) (tb : Tok) (hb : KBw.bInts b = frameF [129, 0, 32, 5] ps) (hl : ps.length ≤ 100) (news : List (Addr × Obj)) :
   Spec 18 w 310 [.bytes b tb] news (fun v nx => ∃ x d k1 k2 k3 k4 k5 v1 v2 c t F k xt, v = .ref x ∧ nx = (x, instObj 264 d) :: (d, dictOf (frmD w.params k1 k2 k3 k4 k5 v1 v2 (.ref F) .none (.bytes c t)) 5) :: tupAt F #[.ref xt] k :: news ∧ KBw.bInts c = ps) := by
  unfold frameF at hb
  rw [padded1] at hb
  refine ufr1 w b _ ps _ tb (ps.length : Int) hb rfl rfl hl ?_ ?_ ?_ ?_ ?_ news
  · rw [List.length_append, List.length_replicate]; omega
  · rw [List.length_append, List.length_replicate]; omega
  · rfl
  · rfl
  · show (ps.length : Int) / 256 * 256 + (ps.length : Int) % 256 = _
    omega
theorem two_items {a b v : Value} {i : Nat} (h : (#[a, b] : Array Value)[i]? = some v) : v = a ∨ v = b := by
  match i, h with
  | 0, h => exact .inl (Option.some.inj h).symm
  | 1, h => exact .inr (Option.some.inj h).symm
  | i + 2, h => simp at h
theorem cut_u (w : World) (b : Array UInt8) (tb tm : Tok) (ks ds : List Int) (n p' q' c : Int) (y : Addr) (oy o : Obj) (news : List (Addr × Obj)) (g : Obj → List (Addr × Obj)) (U : UpdF 417 o news g) (hT : TabSt 207 22 Q422 news o) (hb : KBw.bInts b = ds ++ ks) (hl : ks.length ≤ 100) (hd : dueF p' q' c = some ds) (hn : n = ds.length) (hp : 0 ≤ p') (hq : 0 ≤ q') (hc : 0 ≤ c) (hy : @LT.lt Nat _ 436 y) (hm : (y, oy) ∈ news) :
    SpecT 16 w 422 [.bytes b tb, .int n tm] news (fun v nx => ∃ o' add, nx = add ++ g o' ∧ v = .bool true ∧ (TabSt 207 22 Q422 add o' ∨ o' = o) ∧ AddOk add news) := by
  rcases due_len hd with ⟨_, h3, rfl⟩ | ⟨_, h3, h65, h4, rfl⟩
  · obtain rfl : n = 3 := hn
    exact cut_u3 w b tb tm ([p', q', c] ++ ks) hb (by rw [List.length_append]; simp only [List.length_cons, List.length_nil]; omega) (by rw [List.length_append]; simp only [List.length_cons, List.length_nil]; omega) h3 y oy o hy news g U hT hm
  · obtain rfl : n = 4 := hn
    exact cut_u4 w b tb tm ([p', q', c / 256, c % 256] ++ ks) hb (by rw [List.length_append]; simp only [List.length_cons, List.length_nil]; omega) (by rw [List.length_append]; simp only [List.length_cons, List.length_nil]; omega) h3 (by show ¬ (c / 256 = 0 ∧ c % 256 % 4 = 3); omega) y oy o hy news g U hT hm
theorem gives_bytes_eq_str (b : Array UInt8) (x : PySem.Str) (t u : Tok) : Gives (Builtin.«bytes.__eq__» ⟨[.bytes b t, .str x u], []⟩) (.val .notImplemented) :=
  .of_wp fun M A E s Q h => by
    obtain ⟨hp, g, d, tk, os⟩ := s
    have f := F.sub_str_bytes
    wp_walk
    exact ⟨_, rfl, h⟩
theorem gives_str_eq_bytes (x : PySem.Str) (b : Array UInt8) (t u : Tok) : Gives (Builtin.«str.__eq__» ⟨[.str x u, .bytes b t], []⟩) (.val .notImplemented) :=
  .of_wp fun M A E s Q h => by obtain ⟨hp, g, d, tk, os⟩ := s; wp_walk; exact ⟨_, rfl, h⟩
section
variable {prog : Program} {w : World} {A : Around} {E : Value → Shared → Prop} {s : Shared}
theorem eq_bytes_str {b : Array UInt8} {x : PySem.Str} {t u : Tok} {Q : Value → Shared → Prop} (h : Q (.bool false) s) : wpAny (model prog w) A (compareOp .Eq (.bytes b t) (.str x u)) Q E s :=
  SeqAt.rc_eq_decline_or (k := false) (typeIs_bytes s b t) (typeIs_str s x u) (by decide) F.sub_str_bytes FB.slot_bytes_eq F.slot_str_eq_refl
    (fun _ hq => call_gives FB.slot_bytes_eq (typeIs_bytes s b t) FB.entry_bytes_eq (FB.args_bytes_eq_2 _ _) (gives_bytes_eq_str b x t u) hq)
    (fun _ hq => call_gives F.slot_str_eq_refl (typeIs_str s x u) F.entry_str_eq (F.args_str_eq_2 _ _) (gives_str_eq_bytes x b t u) hq)
    (fun _ hq => wpAny_of_eq (rfl : isSame (.bytes b t) (.str x u) = pure false) hq) (.inl rfl) h
end
theorem app_sub {a b n big : List (Addr × Obj)} (h : ∀ q ∈ b ++ n, q ∈ big) : ∀ q ∈ (a ++ b) ++ n, q ∈ a ++ big := fun q hq => by
  rw [List.append_assoc] at hq
  rcases List.mem_append.mp hq with z | z
  · exact List.mem_append_left _ z
  · exact List.mem_append_right _ (h q z)
theorem two_adds {a b big small news : List (Addr × Obj)} {src : Addr} {o o' : Obj} (ha : AddOk a big) (hb : AddOk b small) (m1 : (src, o) ∈ big) (m2 : (src, o') ∈ small) (n1 : ∀ q ∈ news, q ∈ big) (n2 : ∀ q ∈ news, q ∈ small) :
    ∀ p ∈ a ++ b, @LT.lt Nat _ 436 p.1 ∧ p.1 ≠ src ∧ ∀ q ∈ news, @LT.lt Nat _ q.1 p.1 := fun p hp => by
  rcases List.mem_append.mp hp with z | z
  · exact ⟨(ha p z).1, Nat.ne_of_gt ((ha p z).2 _ m1), fun q hq => (ha p z).2 q (n1 q hq)⟩
  · exact ⟨(hb p z).1, Nat.ne_of_gt ((hb p z).2 _ m2), fun q hq => (hb p z).2 q (n2 q hq)⟩
theorem top_off_V1 : True := by
  w_top off
  trivial
abbrev itL (ax : Addr) (i : Nat) (o : Obj) : Prop := o.cls = .type "list_iterator" ∧ o.data = .fields #[.ref ax, .int i 0]
section
variable {prog : Program} {w : World} {A : Around} {E : Value → Shared → Prop} {s : Shared} {env : Env} {target : Expr} {body : List Stmt} {Q : Flow → Shared → Prop}
def LInv (s : Shared) (L I ax : Addr) (G : GSt) (i : Nat) (s' : Shared) : Prop :=
  ∃ h tk g m news oI, s' = { s with heap := h, toks := tk } ∧ Fr g L h m ∧ News g L h ((I, oI) :: news) ∧ itL ax i oI ∧ (∀ p ∈ news, p.1 ≠ I) ∧ G i g m news
def LPost (s : Shared) (L I ax : Addr) (G : GSt) (Q : Flow → Shared → Prop) (i : Nat) : Flow → Shared → Prop := fun f s₃ =>
  match f with | .ret v => Q (.ret v) s₃ | .brk => Q .next s₃ | _ => LInv s L I ax G (i + 1) s₃
theorem own_list {ax : Addr} {items : Array Value} {kk : Nat} {g₀ : Heap} {m₀ : PySem.Str → Option Value} {news : List (Addr × Obj)} {L : Addr} (G : GSt) (hL : env.locals = L)
    (hh : A.handled = none) (F : Fr g₀ L s.heap m₀) (N : News g₀ L s.heap news) (h0 : G 0 g₀ m₀ news) (hG : ∀ i g m nw, G i g m nw → (ax, W.listOf items kk) ∈ nw)
    (step : ∀ I oI i g m news h tk v, i < items.size → items[i]? = some v → G i g m news → (∀ p ∈ news, p.1 ≠ I) → itL ax (i + 1) oI → Fr g L h m → News g L h ((I, oI) :: news) →
      wpAny (model prog w) A (assign target env v) (fun _ s₂ => wpAny (model prog w) A (execs body env) (LPost s L I ax G Q i) E s₂) E { s with heap := h, toks := tk })
    (fin : ∀ g m news h tk, G items.size g m news → Fr g L h m → News g L h news → Q .next { s with heap := h, toks := tk }) :
    wpAny (model prog w) A (pyIter (.ref ax)) (fun it s₂ => OwnAt prog w A env target body Q E it s₂) E s := by
  subst hL
  have hlst : s.heap.IsList ax items := ⟨_, (N _ (hG _ _ _ _ h0)).1, rfl, _, rfl⟩
  have hlt : ax < s.heap.objs.size := Heap.lt_size (N _ (hG _ _ _ _ h0)).1
  refine wpAny_pyIter_list hlst ?_
  have hN : News g₀ env.locals (s.heap.push { cls := .type "list_iterator", data := .fields #[.ref ax, .int 0 0] }) ((s.heap.objs.size, { cls := .type "list_iterator", data := .fields #[.ref ax, .int 0 0] }) :: news) := fun p hp => by
    rcases List.mem_cons.mp hp with rfl | hp
    · exact ⟨Heap.get?_push_size _ rfl, Nat.ne_of_gt F.ns.lt, next_is_new F⟩
    · exact ⟨Heap.get?_push_of_some _ (N p hp).1, (N p hp).2⟩
  have W : KTurns prog w A target s.heap.objs.size [s.heap.objs.size, ax] [s.heap.objs.size] items.size _ _ _ := KTurns.ofWalks (Walks.list hh s.heap.objs.size ax (Nat.ne_of_lt hlt) items) fun i v s' Q' E' st q => letGo_listiter st.1 q
  refine ⟨_, _, _, items.size, _, _, _, LInv s env.locals s.heap.objs.size ax G, rfl, W, ?_, ?_, ?_, ?_⟩
  · rintro i s' ⟨h, tk, g, m, nw, oI, rfl, F', N', hI, _, hg⟩
    exact ⟨⟨_, (N' _ List.mem_cons_self).1, hI.1, hI.2⟩, ⟨_, (N' _ (List.mem_cons_of_mem _ (hG _ _ _ _ hg))).1, rfl, _, rfl⟩⟩
  · exact ⟨_, _, g₀, m₀, news, _, rfl, F.push _, hN, ⟨rfl, rfl⟩, fun p hp e => absurd (Heap.lt_size (N p hp).1) (e ▸ Nat.lt_irrefl _), h0⟩
  · rintro i v s' h₂ tk hi ⟨h, tk', g, m, nw, oI, rfl, F', N', hI, off, hg⟩ hv hst hk
    obtain ⟨⟨o2, ho2, hc2, hd2⟩, _⟩ := hst
    obtain ⟨F₂, N₂⟩ := gmove F' N' off hk ho2
    exact step _ o2 i g m nw h₂ tk v hi hv hg off ⟨hc2, hd2⟩ F₂ N₂
  · rintro s' h₂ tk ⟨h, tk', g, m, nw, oI, rfl, F', N', hI, off, hg⟩ hk
    have n0 := N' _ List.mem_cons_self
    refine fin g m nw h₂ tk hg ⟨F'.ns.at' fun x e => hk _ x (fun hb => n0.2.1 (List.mem_singleton.mp hb).symm) e, fun b x e => hk b x (fun hb => ?_) (F'.keep b x e), F'.above⟩ fun p hp => ?_
    · rw [List.mem_singleton.mp hb, n0.2.2] at e; cases e
    · have := N' p (List.mem_cons_of_mem _ hp)
      exact ⟨hk _ _ (fun hb => off p hp (List.mem_singleton.mp hb)) this.1, this.2⟩
end
abbrev TupOk (v : Value) (nw : List (Addr × Obj)) : Prop :=
  ∃ (T P : Addr) (p q c : Int) (t1 t2 t3 : Tok) (k1 k2 : Nat), v = .ref T ∧ tupAt T #[.ref P, .int c t3] k1 ∈ nw ∧ tupAt P #[.int p t1, .int q t2] k2 ∈ nw ∧ 0 ≤ p ∧ 0 ≤ q ∧ 0 ≤ c ∧ c < 1000000000 ∧ dueF p q c = none
abbrev Q441 : PySem.Str := (Str.ofString "law" ++ ".<locals>.") ++ Str.ofString "<lambda>"
theorem tab_obj {l c : Nat} {q : PySem.Str} {nw : List (Addr × Obj)} {o : Obj} (h : TabSt l c q nw o) : ∃ ps, o = tabObj ps := by
  cases h with
  | fresh => exact ⟨_, rfl⟩
  | hit _ _ _ => exact ⟨_, rfl⟩
abbrev lawRest {g h : Heap} {L ls c1 c2 : Addr} {o1 o2 : Obj} {items : Array Value} {n : Nat} {e1 e2 e3 e4 e5 e6 e7 e8 : Addr × Obj} {oa ob oc od : Obj} (_ : News g L h ((ls, W.listOf items n) :: e1 :: e2 :: e3 :: e4 :: e5 :: e6 :: e7 :: e8 :: (c1, o1) :: (c2, o2) :: (424, oa) :: (417, ob) :: (431, oc) :: (436, od) :: [])) : List (Addr × Obj) :=
  (ls, W.listOf items n) :: e1 :: e2 :: e3 :: e4 :: e5 :: e6 :: e7 :: e8 :: (424, oa) :: (417, ob) :: (431, oc) :: []
def GH (FR : List Addr) (g0 : Heap) (A : Around) (base : Heap) (envs : List Env) (K : Frag) (p : Program) (loose : List PySem.Str) (mean : ExcName → Option Value) (mg mb : PySem.Str → Option Value) (M : (PySem.Str → Option Value) → Prop) (X : Nat → List (Addr × Obj) → Prop) : GSt :=
  fun i g m nw => KtsTurn FR g0 g ∧ Below A base envs g ∧ K.In g ∧ Top p loose mean mg mb g ∧ KtsDicts FR g ∧ M m ∧ X i nw
theorem SpecT.sub {lv : Nat} {w : World} {f : Addr} {vs : List Value} {small big : List (Addr × Obj)} {R : Value → List (Addr × Obj) → Prop} (h : SpecT lv w f vs small R) (hs : ∀ q ∈ small, q ∈ big) : SpecT lv w f vs big R :=
  fun p loose mean mg mb dp un gd cn cs a ccd cl outer A₀ base h₀ L m s Q E B F X N T hck hdp hun XB TB D hret => h p loose mean mg mb dp un gd cn cs a ccd cl outer A₀ base h₀ L m s Q E B F X (fun q hq => N q (hs q hq)) T hck hdp hun XB TB D hret
theorem top_off_E7 : True := by
  w_top off
  trivial
section
section
section
theorem kw_33 : True := by
  k_with "mine ints" => ((repeat' (first | exact IntsIn.nil | refine IntsIn.cons ?_ ?_ ?_ | omega | decide)))
  k_with "mine upd" => (k_updF)
  k_with "mine ane" => (k_ne)
  k_with "binaryOp Pow int int" => ((k_here; (with_reducible refine pow_24 ?_)))
  k_with "eval ListComp" => ((k_here; k_dflt (refine listComp_pay (F₀ := by k_asm) (by with_unfolding_all rfl) (by decide) (by rfl) (by decide) (by rfl) ?_)))
  k_with "PaySrc" => ((k_here; (rename IsRange _ _ _ _ _ _ _ _ => hrg); k_dflt (refine' PaySrc.intro ?qzkm ?k1 ?k2 ?k3 ?k4 ?k5 ?qzk6 ?qzk7 ?qzk8 ?qzk9 ?qzka ?qzkpt ?qzkpf; (case qzkm => assumption); (case k1 => exact rfl); (case k2 => k_asm); (case k3 => k_asm); (case k4 => k_updF); (case qzk8 => exact hrg); (case k5 => omega); (case qzk6 => omega); (case qzk7 => omega); (case qzk9 => omega); (case qzka => omega)); (case' qzkpt => (intro I' oI' C' oC' D' m' ys' h' tk' aa9 bb9 u9 v9 m9 E' aa0 bb0 bb1 hC' F' N' off' ne'; (try dsimp only at N' off'))); (case' qzkpf => (intro ys' ns' D' h' tk' aa9 bb9 u9 v9 m9 i9 i8 i7 aa0 bb0 bb1 F' N' off'; (try dsimp only at N' off')))))
  k_with "CompEnd" => ((k_dflt (refine' LCg.CompEnd.intro ?k1 ?k2 _ ?k3 ?k4 ?k5 ?_; (case k1 => k_asm); (case k2 => k_asm); (case k3 => walk_at "mine sub"); (case k4 => assumption); (case k5 => exact True.intro); (try dsimp only))))
  k_with "PayG" => ((k_dflt (exact ⟨_, _, _, _, _, rfl, by assumption, by assumption, by assumption⟩)))
  k_with "call ref" => ((k_here; (with_reducible show wpAny _ _ (call (Value.ref 408) [Value.ref _, Value.int _ _]) _ _ _); k_dflt (refine' due_any_m _ _ _ _ _ _ _ _ _ _ ?qzh2 ?qzh3 ?qzh4 ?qzh5 _ _ _ _ _ _ _ _ _ _ _ _ _ _ _ _ _ _ _ _ _ _ ?k1 ?k2 ?k3 ?k4 ?k5 ?kK ?kd ?ku ?_; walk_at "mine side"; (case qzh5 => k_mem); (case qzh2 => assumption); (case qzh3 => assumption); (case qzh4 => assumption); refine o_due ?_; intro v9 h9 tk9 F9 N9 dv9; (try dsimp only); (try k_fold))))
  k_with "mine lift" => ((intro q9 hq9; (repeat (first | exact hq9 | refine List.mem_cons_of_mem _ ?_))))
  k_with "call ref" => ((k_here; (with_reducible show wpAny _ _ (call (Value.ref 429) [Value.ref _]) _ _ _); k_dflt (refine' kind_u _ _ _ _ _ _ _ _ _ _ _ _ _ _ _ _ _ _ _ ?qzU ?qzhT ?qzhb ?qzhl ?qzhx ?qzhd ?qzhm _ _ _ _ _ _ _ _ _ _ _ _ _ _ _ _ _ _ _ _ _ _ ?k1 ?k2 ?k3 ?k4 ?k5 ?kK ?kd ?ku ?qzkXB ?qzkTB ?qzkD ?_; walk_at "mine side"; (case qzhm => walk_at "mine mem"); (case qzU => k_updF); (case qzhT => exact TabSt.mono (by assumption) (by walk_at "mine lift")); (case qzhb => kba_ints); (case qzhl => omega); (case qzhx => walk_at "mine lt"); (case qzhd => walk_at "mine lt"); (case qzkXB => assumption); (case qzkTB => assumption); (case qzkD => assumption); refine o_17 ?_; intro o9 add9 h9 tk9 h8 W9 B9 F9 X9 N9 T9 D9 hT9 hadd9; (try dsimp only at N9); (have N8 := cb_drop N9 (by first | exact mv_cons (mv_cons (mv_cons (mv_cons (mv_cons (mv_cons (mv_cons (mv_cons (mv_cons (mv_cons (mv_cons (mv_cons (mv_cons (mv_cons (mv_cons (mv_cons (mv_nil)))))))))))))))) | exact mv_cons (mv_cons (mv_cons (mv_cons (mv_cons (mv_cons (mv_cons (mv_cons (mv_cons (mv_cons (mv_cons (mv_cons (mv_cons (mv_cons (mv_cons (mv_nil))))))))))))))) | exact mv_cons (mv_cons (mv_cons (mv_cons (mv_cons (mv_cons (mv_cons (mv_cons (mv_cons (mv_cons (mv_cons (mv_cons (mv_cons (mv_cons (mv_nil)))))))))))))) | exact mv_cons (mv_cons (mv_cons (mv_cons (mv_cons (mv_cons (mv_cons (mv_cons (mv_cons (mv_cons (mv_cons (mv_cons (mv_cons (mv_nil))))))))))))) | exact mv_cons (mv_cons (mv_cons (mv_cons (mv_cons (mv_cons (mv_cons (mv_cons (mv_cons (mv_cons (mv_cons (mv_cons (mv_nil)))))))))))) | exact mv_cons (mv_cons (mv_cons (mv_cons (mv_cons (mv_cons (mv_cons (mv_cons (mv_cons (mv_cons (mv_cons (mv_nil))))))))))) | exact mv_cons (mv_cons (mv_cons (mv_cons (mv_cons (mv_cons (mv_cons (mv_cons (mv_cons (mv_cons (mv_nil)))))))))) | exact mv_cons (mv_cons (mv_cons (mv_cons (mv_cons (mv_cons (mv_cons (mv_cons (mv_cons (mv_nil))))))))) | exact mv_cons (mv_cons (mv_cons (mv_cons (mv_cons (mv_cons (mv_cons (mv_cons (mv_nil)))))))) | exact mv_cons (mv_cons (mv_cons (mv_cons (mv_cons (mv_cons (mv_cons (mv_nil))))))) | exact mv_cons (mv_cons (mv_cons (mv_cons (mv_cons (mv_cons (mv_nil)))))))); clear N9; (try dsimp only); (try k_fold))))
  k_with "mine size" => (((refine' heard_size (lv := 12) ?hfn ?qzhf _ _ _ _ _ _ _ _ _ _ _ _ _ _ _ _ _ _ _ _ _ _ ?k1 ?k2 ?k3 ?k4 ?k5 ?kK ?kd ?ku ?qzkXB ?qzkTB ?qzkD ?_); walk_at "mine heard"; (case qzkXB => assumption); (case qzkTB => assumption); (case qzkD => assumption); (case qzhf => (intro p2 loose2 mean2 mg2 mb2 dp2 un2 gd2 cn2 cs2 a2 ccd2 cl2 outer2 A2 base2 h2 L2 m2 s2 Q2 E2 B2 F2 X2 N2 T2 hck2 hdp2 hun2 hret2; walk_at "mine enterL"; k_steps; all_goals (rename RaisedSN _ _ _ _ _ _ _ => R8; refine hret2 _ _ _ _ ?_ R8 ?_ <;> assumption))); refine o_15 ?_; intro t9 h9 tk9 h8 W9 B9 F9 X9 N9 T9 D9; (try dsimp only); (try k_fold)))
  k_with "mine at2" => ((repeat (first | assumption | refine List.mem_cons_of_mem _ ?_)))
  k_with "mine five" => ((refine List.forall_mem_cons.mpr ⟨by walk_at "mine at", List.forall_mem_cons.mpr ⟨by walk_at "mine at", List.forall_mem_cons.mpr ⟨by walk_at "mine at", List.forall_mem_cons.mpr ⟨by walk_at "mine at", List.forall_mem_cons.mpr ⟨by walk_at "mine at", ?_⟩⟩⟩⟩⟩; intro q hq; (repeat (first | exact hq | refine List.mem_cons_of_mem _ ?_))))
  k_with "mine kne" => ((refine neN ?_; (try dsimp only); first | ((with_reducible rename LCg.Off3 _ _ _ _ => ho9); first | exact (LCg.Off3.mem ho9 (_, _) (by k_mem)).1 | exact (LCg.Off3.mem ho9 (_, _) (by k_mem)).2.1 | exact (LCg.Off3.mem ho9 (_, _) (by k_mem)).2.2 | exact Ne.symm (LCg.Off3.mem ho9 (_, _) (by k_mem)).1 | exact Ne.symm (LCg.Off3.mem ho9 (_, _) (by k_mem)).2.1 | exact Ne.symm (LCg.Off3.mem ho9 (_, _) (by k_mem)).2.2) | ((with_reducible rename LCg.Off1 _ _ => ho9); first | exact off1_mem ho9 (_, _) (by k_mem) | exact Ne.symm (off1_mem ho9 (_, _) (by k_mem)))))
  k_with "call ref" => ((k_here; (with_reducible show wpAny _ _ (call (Value.ref 359) [Value.bytes _ _]) _ _ _); k_dflt (refine' unpack_u _ _ _ _ _ _ _ _ ?qzhb ?qzhl ?qzhd ?qzhc _ _ _ _ _ _ _ _ _ _ _ _ _ _ _ _ _ _ _ _ _ _ _ ?k1 ?k2 ?k3 ?k4 ?k5 ?kK ?kd ?ku ?_; walk_at "mine side"; (case qzhd => assumption); (case qzhb => assumption); (case qzhl => omega); (case qzhc => assumption); refine o_18 ?_; intro x9 d9 ka9 kb9 kc9 kd9 ta9 tb9 tc9 td9 cc9 h9 tk9 F9 N9 b9 l9 l8; (try simp only [List.cons_append, List.nil_append] at N9); (try unfold llcD at N9); (try k_lt l9); (try k_lt2 l8); (try dsimp only); (try k_fold))))
  k_with "compareOp NotEq ref ref" => ((k_here; (with_reducible show wpAny _ _ (compareOp CmpOp.NotEq (Value.ref _) (Value.ref _)) _ _ _); k_dflt (refine' ne_tup4 ?qzN ?qza ?qzb ?qzx ?qzu ?_; (case qzN => k_asm); (case qza => k_mem); (case qzb => k_mem); (case qzx => exact Eq.trans (by assumption) (Eq.symm (by kba_ints))); (case qzu => ke_room))))
  k_with "call ref" => ((k_here; (with_reducible show wpAny _ _ (call (Value.ref 394) [Value.ref _, Value.ref _]) _ _ _); k_dflt (refine' one_u _ _ _ _ _ _ _ #[Value.ref _, Value.ref _] _ _ _ _ ?qzU ?qzh0 ?qzh1 ?qzh2 ?qzh3 ?qzh4 ?qzh6 ?qzh5 _ _ _ _ _ _ _ _ _ _ _ _ _ _ _ _ _ _ _ _ _ _ ?k1 ?k2 ?k3 ?k4 ?k5 ?kK ?kd ?ku ?_; walk_at "mine side"; (case qzU => k_updF); (case qzh6 => k_mem); (case qzh0 => omega); (case qzh1 => omega); (case qzh2 => omega); (case qzh3 => exact Nat.le_of_ble_eq_true rfl); (case qzh4 => exact Nat.le_of_ble_eq_true rfl); (case qzh5 => walk_at "mine ane"); intro v9 nx9 h9 tk9 F9 N9 r9; obtain ⟨i9, aa9, bb9, u9, v9, m9, i8, f9, aa0, bb0, bb1⟩ := r9; rw [f9] at N9; clear f9; (try dsimp only at N9); (rcases two_items i8 with e9 | e9 <;> subst e9 <;> clear i8); (all_goals (try dsimp only)); (all_goals (try k_fold)))))
  k_with "call ref" => ((k_here; (with_reducible show wpAny _ _ (call (Value.ref 373) [Value.int 5 _, Value.int 6 _, Value.ref _, Value.ref _]) _ _ _); k_dflt (refine' link_sp _ _ _ _ _ _ _ _ _ _ _ _ _ _ _ _ _ _ _ _ _ _ ?qzhb ?qzhl _ ?qzhp ?qzhq ?qzhc ?qzhd ?qzhm ?qzht _ _ _ _ _ _ _ _ _ _ _ _ _ _ _ _ _ _ _ _ _ _ ?k1 ?k2 ?k3 ?k4 ?k5 ?kK ?kd ?ku ?_; walk_at "mine side"; (case qzhm => walk_at "mine mem"); (case qzht => k_mem); (case qzhb => kba_ints); (case qzhl => omega); (case qzhp => assumption); (case qzhq => assumption); (case qzhc => assumption); (case qzhd => assumption); refine o_18 ?_; intro x9 d9 ka9 kb9 kc9 kd9 ke9 ta9 tb9 tc9 cc9 h9 tk9 F9 N9 b9 l9 l8; (try simp only [FrmAt, List.cons_append, List.nil_append] at N9); (try unfold frmD at N9); (try k_lt l9); (try k_lt2 l8); (try dsimp only); (try k_fold))))
  k_with "call ref" => ((k_here; (with_reducible show wpAny _ _ (call (Value.ref 288) [Value.ref _]) _ _ _); k_dflt (first
  | (refine' pfr0_m _ _ _ _ _ _ _ _ _ _ _ _ _ _ _ _ ?qzhb ?qzhl ?qzhm ?qzht _ _ _ _ _ _ _ _ _ _ _ _ _ _ _ _ _ _ _ _ _ _ ?k1 ?k2 ?k3 ?k4 ?k5 ?kK ?kd ?ku ?_; walk_at "mine side"; (case qzhm => walk_at "mine mem"); (case qzht => k_mem); (case qzhb => assumption); (case qzhl => walk_at "mine omega"); refine o_5 ?_; intro c9 t9 h9 tk9 F9 N9 b9; (try dsimp only); (try k_fold))
  | (refine' pfr1_m _ _ _ _ _ _ _ _ _ _ _ _ _ _ _ _ _ _ _ _ _ _ _ _ _ ?qzhb ?qzhl ?qzhm ?qzht ?qzhg _ _ _ _ _ _ _ _ _ _ _ _ _ _ _ _ _ _ _ _ _ _ ?k1 ?k2 ?k3 ?k4 ?k5 ?kK ?kd ?ku ?_; walk_at "mine side"; (case qzhm => walk_at "mine mem"); (case qzht => k_mem); (case qzhg => walk_at "mine mem"); (case qzhb => assumption); (case qzhl => walk_at "mine omega"); refine o_5 ?_; intro c9 t9 h9 tk9 F9 N9 b9; (try dsimp only); (try k_fold)))))
  k_with "call ref" => ((k_here; (with_reducible show wpAny _ _ (call (Value.ref 310) [Value.bytes _ _]) _ _ _); k_dflt (first
  | (refine' ufrF0 _ _ _ _ ?qzhb ?qzhl _ _ _ _ _ _ _ _ _ _ _ _ _ _ _ _ _ _ _ _ _ _ _ ?k1 ?k2 ?k3 ?k4 ?k5 ?kK ?kd ?ku ?_; walk_at "mine side"; (case qzhb => assumption); (case qzhl => walk_at "mine omega"); refine o_19 ?_; intro x9 d9 ka9 kb9 kc9 kd9 ke9 va9 vb9 c9 t9 ff9 m9 h9 tk9 F9 N9 b9; (try unfold frmD at N9); (try dsimp only); (try k_fold))
  | (refine' ufrF1 _ _ _ _ ?qzhb ?qzhl _ _ _ _ _ _ _ _ _ _ _ _ _ _ _ _ _ _ _ _ _ _ _ ?k1 ?k2 ?k3 ?k4 ?k5 ?kK ?kd ?ku ?_; walk_at "mine side"; (case qzhb => assumption); (case qzhl => walk_at "mine omega"); refine o_20 ?_; intro x9 d9 ka9 kb9 kc9 kd9 ke9 va9 vb9 c9 t9 ff9 m9 xt9 h9 tk9 F9 N9 b9; (try unfold frmD at N9); (try dsimp only); (try k_fold)))))
  k_with "compareOp NotEq bytes bytes" => ((k_here; refine ne_bytes_same (Eq.trans (by assumption) (Eq.symm (by assumption))) ?_))
  k_with "mine news in" => ((intro q9 hq9; (repeat (first | exact List.mem_append_right _ hq9 | refine List.mem_cons_of_mem _ ?_))))
  k_with "mine at2l" => ((intro q9 hq9; (repeat (first | exact hq9 | refine List.mem_cons_of_mem _ ?_))))
  k_with "mine atr" => ((refine List.mem_append_right _ ?_; walk_at "mine at"))
  k_with "mine five r" => ((refine List.forall_mem_cons.mpr ⟨by walk_at "mine atr", List.forall_mem_cons.mpr ⟨by walk_at "mine atr", List.forall_mem_cons.mpr ⟨by walk_at "mine atr", List.forall_mem_cons.mpr ⟨by walk_at "mine atr", List.forall_mem_cons.mpr ⟨by walk_at "mine atr", ?_⟩⟩⟩⟩⟩; refine app_sub ?_; intro q9 hq9; (repeat (first | exact hq9 | refine List.mem_cons_of_mem _ ?_))))
  trivial
set_option maxHeartbeats 4000000 in
theorem head_u (w : World) (src P : Addr) (n kk : Nat) (a' b' p' q' c : Int) (t1 t2 u1 u2 tc : Tok) (o4 o7 o1 : Obj) (news : List (Addr × Obj)) (ha : 0 ≤ a') (hb : 0 ≤ b') (hb2 : b' < 2147483647) (hp : 0 ≤ p') (hq : 0 ≤ q') (hc : 0 ≤ c) (hc9 : c < 1000000000) (hs : @LT.lt Nat _ 436 src) (hP : @LT.lt Nat _ 436 P) (hPs : @Ne Nat P src) (hn1 : ∀ p ∈ news, p.1 ≠ src) (hn2 : ∀ p ∈ news, p.1 ≠ 424) (hn3 : ∀ p ∈ news, p.1 ≠ 417) (hn4 : ∀ p ∈ news, p.1 ≠ 431)
    (hT4 : TabSt 211 22 Q429 news o4) (hT7 : TabSt 207 22 Q422 news o7) (hT1 : TabSt 225 26 Q434 news o1) :
    SpecT 24 w 434 [.ref src, .ref P, .int c tc] ((src, srcO a' b' t1 t2 n) :: tupAt P #[.int p' u1, .int q' u2] kk :: (424, o4) :: (417, o7) :: (431, o1) :: news)
      (HeadR src (tupAt P #[.int p' u1, .int q' u2] kk) o4 o7 o1 news) := by
  unfold SpecT
  k_fill
  intro p loose mean mg mb dp un gd cn cs a ccd cl outer A₀ base h₀ L m s Q E B F X N T hck hdp hun XB TB D hret
  walk_at "mine enterT"
  have hmark : SrcMark src := True.intro
  with_reducible rename (∀ p ∈ _ :: _ :: _ :: _ :: _ :: news, Prod.fst p < _) => hlt9
  k_steps
  rename AddOk _ _ => hok
  have hz1 := add_ne (a := 431) hok (by walk_at "mine at") hn4
  have hz2 := add_ne (a := src) hok (by walk_at "mine at") hn1
  have hz3 := add_ne (a := 417) hok (by walk_at "mine at") hn3
  have hz4 := add_ne (a := 424) hok (by walk_at "mine at") hn2
  rename DueV _ _ _ _ => hdv
  rcases hdv with ⟨hdue, tz, rfl⟩ | ⟨ds, cz, tz, hdue, rfl, hbz⟩
  · k_steps
    walk_at "mine codes"
    k_steps
    walk_at "mine size"
    k_steps
    rename TabSt _ _ _ _ _ ∨ _ => hor
    refine Exists.elim (lam_done hlo d1' d2' (by walk_at "mine news in") hs (by walk_at "mine me")) fun add2 hh => ?_
    refine' hret _ _ _ _ _ (by assumption) (by assumption) (by assumption) (by assumption) ?_ (by assumption) (by assumption) ⟨rfl, _, _, _, _, _, _, _, _, add2 ++ _, rfl, ?ga, ?gb, ?gc, tab_left hor (fun q hq => List.mem_append_right _ hq), .inr rfl, tab_left hh.2.1 (fun q hq => List.mem_append_left _ hq), ?gd⟩
    · exact cb_drop (by assumption) (List.forall_mem_cons.mpr ⟨by walk_at "mine me", List.forall_mem_cons.mpr ⟨by walk_at "mine me", List.forall_mem_cons.mpr ⟨by walk_at "mine me", List.forall_mem_cons.mpr ⟨by walk_at "mine me", List.forall_mem_cons.mpr ⟨by walk_at "mine me", acc_sub3 hh.1 (by walk_at "mine me") (by walk_at "mine sk")⟩⟩⟩⟩⟩)
    case ga => assumption
    case gb => assumption
    case gc => assumption
    case gd => exact two_adds hh.2.2.2.2 hok (by walk_at "mine me") (by walk_at "mine at") (by walk_at "mine news in") (by walk_at "mine at2l")
  · have hds : ds.length ≤ 4 := by rcases due_len hdue with ⟨h, _⟩ | ⟨h, _⟩ <;> omega
    refine eq_bytes_str ?_
    k_steps
    all_goals (rename TabSt _ _ _ _ _ ∨ _ => hor)
    all_goals (rename News _ _ _ _ => N7)
    all_goals (have N8 := cb_drop N7 (fun q hq => List.mem_cons_of_mem _ (List.mem_cons_of_mem _ (List.mem_cons_of_mem _ hq))))
    all_goals clear N7
    all_goals (
      refine' cut_u _ _ _ _ _ _ _ _ _ _ src _ _ _ _ ?U ?hT ?hb ?hl ?hd ?hn ?hp ?hq ?hc ?hy ?hm _ _ _ _ _ _ _ _ _ _ _ _ _ _ _ _ _ _ _ _ _ _ ?k1 ?k2 ?k3 ?k4 ?k5 ?kK ?kd ?ku ?kXB ?kTB ?kD ?_
      walk_at "mine side"
      (case hd => assumption)
      (case hb => assumption)
      (case hm => walk_at "mine at")
      (case U => k_updF)
      (case hT => exact hT7.mono (by walk_at "mine news in"))
      (case hl => omega)
      (case hn => rfl)
      (case hp => assumption)
      (case hq => assumption)
      (case hc => assumption)
      (case hy => assumption)
      (case kXB => assumption)
      (case kTB => assumption)
      (case kD => assumption)
      intro v9 nx9 h9 tk9 h8 W9 B9 F9 X9 N9 T9 D9 r9
      obtain ⟨o9, add9, f9, e9, hT9, hadd9⟩ := r9
      subst e9; rw [f9] at N9; clear f9
      (try dsimp only at N9)
      (try dsimp only)
      k_steps
      refine' hret _ _ _ _ _ (by assumption) (by assumption) (by assumption) (by assumption) ?_ (by assumption) (by assumption) ⟨rfl, _, _, _, _, _, _, _, _, add9 ++ _, rfl, ?ga, ?gb, ?gc, tab_left hor (fun q hq => List.mem_append_right _ hq), tab_left hT9 (fun q hq => List.mem_append_left _ hq), .inr rfl, ?gd⟩
      · exact cb_drop (by assumption) (by walk_at "mine five r")
      (case ga => assumption)
      (case gb => assumption)
      (case gc => assumption)
      (case gd => exact two_adds hadd9 hok (by walk_at "mine at") (by walk_at "mine at") (by walk_at "mine news in") (by walk_at "mine at2l")))
end
end
end
end
end
end
theorem kw_34 : True := by
  k_with_none
  k_with "mine kenter" => (k_dflt (first
  | (refine' code_def ?k1 ?k2 ?k3 ?k4 ?k5 ?qzkA ?qzkF ?kK ?qzk6 ?qzk7 ?qzk8 ?qzk9 ?qzkB ?_ ?qzc2 ?qzc3 ?qzc4 ?qzc5; (case qzkA => exact rfl); (case qzkF => exact rfl); (case kK => assumption); (case k1 => k_asm); (case k2 => k_asm); (case k3 => k_asm); (case k4 => k_asm); (case k5 => k_asm); (case qzk6 => k_is); (case qzk7 => k_is); (case qzk8 => ktr_room); (case qzk9 => first | exact BindsTo.of_eq rfl | exact binds_K (by k_in) rfl (by k_is) rfl rfl rfl); (case qzc5 => decide); (case qzkB => exact locs rfl); (case qzc2 => exact rfl); (case qzc3 => exact rfl); (case qzc4 => exact rfl); k_whole; intro g' L' h' FG' F' N' B' X' T'; (try dsimp only); (try k_lift B'); (try k_fold))
  | (refine' code_defC ?k1 ?k2 ?k3 ?k4 ?k5 ?qzkA ?qzkF ?kK ?qzk6 ?qzk7 ?qzk8 ?qzk9 ?qzkB ?qzkD ?_ ?qzc2 ?qzc3 ?qzc4; (case qzkA => exact rfl); (case qzkF => exact rfl); (case kK => assumption); (case k1 => k_asm); (case k2 => k_asm); (case k3 => k_asm); (case k4 => k_asm); (case k5 => k_asm); (case qzk6 => k_is); (case qzk7 => k_is); (case qzk8 => ktr_room); (case qzk9 => first | exact BindsTo.of_eq rfl | exact binds_K (by k_in) rfl (by k_is) rfl rfl rfl); (case qzkB => exact rfl); (case qzkD => decide +kernel); (case qzc2 => exact rfl); (case qzc3 => exact rfl); (case qzc4 => exact rfl); k_whole; intro g' L' h' tk' cells' FG' F' N' Y' B' X' T' l1; (try k_lt l1); k_cells Y'; (try simp only [List.cons_append, List.nil_append] at N'); (try dsimp only); (try k_lift B'); (try k_fold))))
  k_with "mine enter" => ((refine wpAny_call ?_; k_dflt (first
  | (refine' code_def ?k1 ?k2 ?k3 ?k4 ?k5 ?qzkA ?qzkF ?kK ?qzk6 ?qzk7 ?qzk8 ?qzk9 ?qzkB ?_ ?qzc2 ?qzc3 ?qzc4 ?qzc5; (case qzkA => exact rfl); (case qzkF => exact rfl); (case kK => assumption); (case k1 => k_asm); (case k2 => k_asm); (case k3 => k_asm); (case k4 => k_asm); (case k5 => k_asm); (case qzk6 => k_is); (case qzk7 => k_is); (case qzk8 => ktr_room); (case qzk9 => first | exact BindsTo.of_eq rfl | exact binds_K (by k_in) rfl (by k_is) rfl rfl rfl); (case qzc5 => decide); (case qzkB => exact locs rfl); (case qzc2 => exact rfl); (case qzc3 => exact rfl); (case qzc4 => exact rfl); k_whole; intro g' L' h' FG' F' N' B' X' T'; (try dsimp only); (try k_lift B'); (try k_fold))
  | (refine' code_defC ?k1 ?k2 ?k3 ?k4 ?k5 ?qzkA ?qzkF ?kK ?qzk6 ?qzk7 ?qzk8 ?qzk9 ?qzkB ?qzkD ?_ ?qzc2 ?qzc3 ?qzc4; (case qzkA => exact rfl); (case qzkF => exact rfl); (case kK => assumption); (case k1 => k_asm); (case k2 => k_asm); (case k3 => k_asm); (case k4 => k_asm); (case k5 => k_asm); (case qzk6 => k_is); (case qzk7 => k_is); (case qzk8 => ktr_room); (case qzk9 => first | exact BindsTo.of_eq rfl | exact binds_K (by k_in) rfl (by k_is) rfl rfl rfl); (case qzkB => exact rfl); (case qzkD => decide +kernel); (case qzc2 => exact rfl); (case qzc3 => exact rfl); (case qzc4 => exact rfl); k_whole; intro g' L' h' tk' cells' FG' F' N' Y' B' X' T' l1; (try k_lt l1); k_cells Y'; (try simp only [List.cons_append, List.nil_append] at N'); (try dsimp only); (try k_lift B'); (try k_fold)))))
  k_with "mine side" => (((case k1 => k_asm); (case k2 => k_asm); (case k3 => k_asm); (case k4 => k_asm); (case k5 => k_asm); (case kK => first | exact rfl | assumption); (case kd => ktr_room); (case ku => ktr_units)))
  k_with "mine kbabound" => (((try dsimp only); first | exact and255_lo _ | exact and255_hi _))
  k_with "mine news" => (first | k_asm | (refine cb_drop (by assumption) ?_; intro p9 hp9; (repeat (first | exact hp9 | refine List.mem_cons_of_mem _ ?_))))
  k_with "mine room" => (((with_reducible rename @LT.lt Nat _ (_ + _) recursionLimit => hq9); k_dflt (first | exact room_1 hq9 (by exact rfl) | exact room_j hq9 (by exact rfl) | exact room_0 hq9)))
  k_with "mine units" => (((with_reducible rename @LT.lt Nat _ (_ + _) cLine => hq9); k_dflt (first | exact units_1 hq9 (by exact rfl) | exact units_j hq9 (by exact rfl))))
  k_with "mine me" => (first | with_reducible exact me0 | with_reducible exact me1 | with_reducible exact me2 | with_reducible exact me3 | with_reducible exact me4 | with_reducible exact me5 | with_reducible exact me6 | with_reducible exact me7 | with_reducible exact me8 | with_reducible exact me9 | with_reducible exact me10 | with_reducible exact me11 | with_reducible exact me12 | with_reducible exact me13 | with_reducible exact me14 | with_reducible exact me15 | with_reducible exact me16 | with_reducible exact me17 | with_reducible exact me18 | with_reducible assumption | k_mem)
  k_with "mine ltall" => (((repeat ((with_reducible rename (∀ p ∈ _, Prod.fst p < _) => h7); replace h7 := allLt_of h7; simp only [AllLt, and_true] at h7))))
  k_with "mine kne" => ((refine neN ?_; (try dsimp only); first | with_reducible assumption | decide | exact Nat.ne_of_gt (by with_reducible assumption) | exact Nat.ne_of_lt (by with_reducible assumption) | exact ne_l (by with_reducible assumption) (by walk_at "mine me") | exact ne_r (by with_reducible assumption) (by walk_at "mine me") | exact ne_l2 (by with_reducible assumption) (by with_reducible assumption) (by walk_at "mine me") | exact ne_r2 (by with_reducible assumption) (by with_reducible assumption) (by walk_at "mine me") | exact ne_l1 (by with_reducible assumption) (by walk_at "mine me") | exact ne_r1 (by with_reducible assumption) (by walk_at "mine me") | exact ne_l11 (by with_reducible assumption) (by walk_at "mine me") | exact ne_r11 (by with_reducible assumption) (by walk_at "mine me") | exact ne_s1 | exact ne_s2 | exact ne_b1 (by with_reducible assumption) rfl | exact ne_b2 (by with_reducible assumption) rfl | exact Ne.symm (by with_reducible assumption) | (trace_state; walk_at "mine ltall"; omega)))
  k_with "mine sk" => (first | with_reducible exact sk0 | with_reducible exact sk1 | with_reducible exact sk2 | with_reducible exact sk3 | with_reducible exact sk4 | with_reducible exact sk5 | with_reducible exact sk6 | with_reducible exact sk7 | with_reducible exact sk8 | with_reducible exact sk9 | with_reducible exact sk10 | with_reducible exact sk11 | with_reducible exact sk12 | with_reducible exact sk13 | with_reducible exact sk14 | with_reducible exact sk15 | with_reducible exact sk16 | with_reducible exact sk17 | with_reducible exact sk18)
  k_with "mine kall" => (first | with_reducible assumption | exact all_l (by with_reducible assumption) (by walk_at "mine sk") | exact all_l2 (by with_reducible assumption) (by with_reducible assumption) (by walk_at "mine sk") | exact all_l1 (by with_reducible assumption) (by walk_at "mine sk") | exact all_l11 (by with_reducible assumption) (by walk_at "mine sk") | (with_reducible exact List.forall_mem_nil _) | (refine' List.forall_mem_cons.mpr ⟨?qza, ?qzb⟩; (case qza => k_ne); (case qzb => k_all)) | (trace_state; exact all_ne (by assumption) (by walk_at "mine ltall"; omega)))
  k_with "mine lt" => (first | with_reducible assumption | exact lt_t0 (by with_reducible assumption) (by walk_at "mine me") | exact lt_t1 (by with_reducible assumption) (by with_reducible assumption) (by walk_at "mine me") | exact lt_t2 (by with_reducible assumption) (by with_reducible assumption) (by with_reducible assumption) (by walk_at "mine me") | (trace_state; walk_at "mine ltall"; omega))
  k_with "exec Raise some none" => ((k_here; (with_reducible show wpAny _ _ (exec (Stmt.Raise (some (Expr.Call (Expr.Name ("SizeError" : Str) _) _ [] _)) none _) _) _ _ _); refine' raise56 ?k1 ?k2 ?_; (case k1 => k_asm); (case k2 => k_dflt (exact rfl))))
  k_with "exec Raise some none" => ((k_here; (with_reducible show wpAny _ _ (exec (Stmt.Raise (some (Expr.Call (Expr.Name ("FormError" : Str) _) _ [] _)) none _) _) _ _ _); refine' raise44 ?k1 ?k2 ?_; (case k1 => k_asm); (case k2 => k_dflt (exact rfl))))
  k_with "call ref" => ((k_here; (first | (with_reducible show wpAny _ _ (call (Value.ref 56) [Value.str _ _]) _ _ _) | (with_reducible show wpAny _ _ (call (Value.ref 44) [Value.str _ _]) _ _ _)); k_dflt (refine' exc_call_sp _ _ _ _ _ ?qzhC _ _ _ _ _ _ _ _ _ _ _ _ _ _ _ _ _ _ _ _ _ _ ?k1 ?k2 ?k3 ?k4 ?k5 ?kK ?kd ?ku ?_; (case qzhC => decide); walk_at "mine side"); intro v9 nx9 h9 tk9 F9 N9 r9; obtain ⟨e9, d9, t9, q9, f9, n9⟩ := r9; subst q9; rw [f9] at N9; clear f9; (try dsimp only); (try k_fold)))
  k_with "RaiseEnd" => ((k_here; refine' RaiseEnd.intro ?k1 ?k2 ?k3 ?_; (case k1 => k_asm); (case k2 => k_asm); (case k3 => k_asm); (try dsimp only)))
  k_with "leaving ref" => ((k_here; refine' leave_mine ?k1 ?k2 ?k3 ?k4 ?k5 ?qzk6 ?_; (case k1 => k_asm); (case k2 => k_asm); (case k3 => k_asm); (case k4 => assumption); (case k5 => k_dflt (exact rfl)); (case qzk6 => k_dflt (exact rfl)); intro h' R' U'; (try dsimp only)))
  k_with "call type:bytes" => ((k_here; (with_reducible show wpAny _ _ (call (Value.type "bytes") [Value.bytes _ _]) _ _ _); with_reducible refine call_bytes_bytes ?_))
  k_with "call type:bytes" => ((k_here; (with_reducible show wpAny _ _ (call (Value.type "bytes") [Value.int _ _]) _ _ _); (refine' call_bytes_zeros ?k1 ?k2 ?_; (case k1 => omega); (case k2 => omega); intro c9 zs9 u9 k9 b9 z9 n9; (try dsimp only))))
  k_with "call type:bytes" => ((k_here; (with_reducible show wpAny _ _ (call (Value.type "bytes") [Value.ref _]) _ _ _); k_dflt (refine' KBa.make_K ?qzkbaF ?qzkbaN ?qzkbah ?qzkbal ?qzkbai ?qzkbar ?qzkban ?_; (case qzkbaF => k_asm); (case qzkbaN => k_asm); (case qzkbah => rfl); (case qzkbal => kba_isList); (case qzkbai => kba_listInts); (case qzkbar => walk_at "mine in"); (case qzkban => kba_size)); intro _ _ _ F' N' kbaIn))
  k_with "mine in" => (first | exact in_one (by omega) (by omega) | (refine in_cons (by omega) (by omega) ?_; walk_at "mine in"; done) | exact in_nil | kba_in)
  k_with "mine sub" => ((repeat (first | exact sub_refl | refine sub_keep ?_ | refine sub_skip ?_)))
  k_with "mine raised" => (first | (intro q9 hq9; (repeat (first | exact hq9 | refine List.mem_cons_of_mem _ ?_)); done) | (walk_at "mine sub"; done))
  k_with "mine news" => (first | k_asm | (refine cb_drop (by assumption) ?_; first | (intro p9 hp9; (repeat (first | exact hp9 | refine List.mem_cons_of_mem _ ?_)); done) | (walk_at "mine sub"; done)))
  k_with "mine absurd" => (first | (exfalso; omega) | (exfalso; (rename ((_ && _ : Bool) = _) => hx9); (simp only [Bool.and_eq_true, Bool.and_eq_false_iff, beq_iff_eq, beq_eq_false_iff_ne, ne_eq] at hx9); omega))
  k_with "compareOp In int ref" => ((k_here; (with_reducible show wpAny _ _ (compareOp CmpOp.In (Value.int _ _) (Value.ref 206)) _ _ _); first | (refine' in206_t ?k1 ?k2 ?k3 ?_; (case k1 => k_asm); (case k2 => k_asm); (case k3 => omega)) | (refine' in206_f ?k1 ?k2 ?k3 ?_; (case k1 => k_asm); (case k2 => k_asm); (case k3 => omega))))
  k_with "compareOp NotIn int ref" => ((k_here; (with_reducible show wpAny _ _ (compareOp CmpOp.NotIn (Value.int _ _) (Value.ref 206)) _ _ _); refine' notin206_t ?k1 ?k2 ?k3 ?_; (case k1 => k_asm); (case k2 => k_asm); (case k3 => omega)))
  k_with "mine mem" => (first | assumption | (refine List.forall_mem_cons.mpr ⟨by k_mem, List.forall_mem_cons.mpr ⟨by k_mem, List.forall_mem_nil _⟩⟩))
  k_with "getMethod bytes" => ((k_here; with_reducible refine join_method ?_))
  k_with "call builtin:bytes.join" => ((k_here; (with_reducible show wpAny _ _ (call (Value.builtin "bytes.join") [Value.bytes _ _, Value.ref _]) _ _ _); k_dflt (first | (refine' call_join0 ?k1 ?_; (case k1 => kba_isList); intro u9 k9; (have j9 := ints_nil)) | (refine' call_join1 ?k1 ?_; (case k1 => kba_isList)))))
  k_with "eval ListComp" => ((k_here; (with_reducible show wpAny _ _ (eval (Expr.ListComp _ [⟨Expr.Name _ _, Expr.Attribute _ _ _, [], 0⟩] _ _) _) _ _ _); k_dflt (refine listComp_tup (by k_asm) (by with_unfolding_all rfl) (by decide) (by rfl) (by decide) (by rfl) ?_)))
  k_with "TupSrc" => ((k_here; k_dflt (refine' TupSrc.intro ?k1 ?k2 ?k3 ?k4 ?k5 ?_; (case k1 => rfl); (case k2 => k_asm); (case k3 => k_asm); (case k4 => k_mem); (case k5 => exact Nat.le_of_ble_eq_true rfl); intro g'; first | (refine rest_nil rfl ?_) | (refine rest_one rfl (fun I' oI' C' oC' D' m' h' tk' E' hC' hx' F' N' off' ne' => ?_)))))
  k_with "CompEnd" => ((k_dflt (refine' LCg.CompEnd.intro ?k1 ?k2 _ ?k3 ?k4 ?k5 ?_; (case k1 => k_asm); (case k2 => k_asm); (case k3 => exact sub_refl); (case k4 => assumption); (case k5 => k_mem); (try dsimp only))))
  k_with "mine omega" => (first | omega | (simp only [List.length_append, List.length_cons, List.length_nil] <;> omega))
  k_with "call ref" => ((k_here; (with_reducible show wpAny _ _ (call (Value.ref 160) [Value.bytes _ _]) _ _ _); k_dflt (first | (refine' crc_sp _ _ _ _ (by kba_ints) _ _ _ _ _ _ _ _ _ _ _ _ _ _ _ _ _ _ _ _ _ _ _ ?k1 ?k2 ?k3 ?k4 ?k5 ?kK ?kd ?ku ?_; walk_at "mine side"; refine o_0 ?_; intro t9 h9 tk9 F9 N9; (try dsimp only); (try k_fold)))))
  k_with "call ref" => ((k_here; (with_reducible show wpAny _ _ (call (Value.ref 170) [Value.int _ _, Value.int _ _]) _ _ _); k_dflt (first | (refine' put1_sp _ _ _ _ ?qzh0 ?qzh1 _ _ _ _ _ _ _ _ _ _ _ _ _ _ _ _ _ _ _ _ _ _ _ ?k1 ?k2 ?k3 ?k4 ?k5 ?kK ?kd ?ku ?_; (case qzh0 => walk_at "mine omega"); (case qzh1 => walk_at "mine omega"); walk_at "mine side"; refine o_1 ?_; intro c9 t9 h9 tk9 F9 N9 b9; (try dsimp only); (try k_fold)) | (refine' put1_raise _ _ _ _ ?qzh0 _ _ _ _ _ _ _ _ _ _ _ _ _ _ _ _ _ _ _ _ _ _ _ ?k1 ?k2 ?k3 ?k4 ?k5 ?kK ?kd ?ku ?_; (case qzh0 => walk_at "mine omega"); walk_at "mine side"; intro e9 G9 h9 tk9 F9 R9 U9; (try dsimp only)) | (refine' put2_sp _ _ _ _ ?qzh0 ?qzh1 _ _ _ _ _ _ _ _ _ _ _ _ _ _ _ _ _ _ _ _ _ _ _ ?k1 ?k2 ?k3 ?k4 ?k5 ?kK ?kd ?ku ?_; (case qzh0 => walk_at "mine omega"); (case qzh1 => walk_at "mine omega"); walk_at "mine side"; refine o_1 ?_; intro c9 t9 h9 tk9 F9 N9 b9; (try dsimp only); (try k_fold)) | (refine' put2_raise _ _ _ _ ?qzh0 _ _ _ _ _ _ _ _ _ _ _ _ _ _ _ _ _ _ _ _ _ _ _ ?k1 ?k2 ?k3 ?k4 ?k5 ?kK ?kd ?ku ?_; (case qzh0 => walk_at "mine omega"); walk_at "mine side"; intro e9 G9 h9 tk9 F9 R9 U9; (try dsimp only)) | (refine' put6_sp _ _ _ _ ?qzh0 ?qzh1 _ _ _ _ _ _ _ _ _ _ _ _ _ _ _ _ _ _ _ _ _ _ _ ?k1 ?k2 ?k3 ?k4 ?k5 ?kK ?kd ?ku ?_; (case qzh0 => walk_at "mine omega"); (case qzh1 => walk_at "mine omega"); walk_at "mine side"; refine o_1 ?_; intro c9 t9 h9 tk9 F9 N9 b9; (try dsimp only); (try k_fold)))))
  k_with "call ref" => ((k_here; (with_reducible show wpAny _ _ (call (Value.ref 177) [Value.bytes _ _, Value.int _ _, Value.int _ _]) _ _ _); k_dflt (first | (refine' get1v _ _ _ _ (by kba_ints) ?qzh0 _ _ _ ?qzh1 ?qzh2 _ _ _ _ _ _ _ _ _ _ _ _ _ _ _ _ _ _ _ _ _ _ _ ?k1 ?k2 ?k3 ?k4 ?k5 ?kK ?kd ?ku ?_; (case qzh0 => walk_at "mine omega"); (case qzh1 => walk_at "mine omega"); (case qzh2 => walk_at "mine omega"); walk_at "mine side"; refine o_2 ?_; intro t9 h9 tk9 F9 N9 lo9 hi9; (try dsimp only); (try k_fold)) | (refine' get3v _ _ _ _ (by kba_ints) ?qzh0 _ _ _ ?qzh1 ?qzh2 _ _ _ _ _ _ _ _ _ _ _ _ _ _ _ _ _ _ _ _ _ _ _ ?k1 ?k2 ?k3 ?k4 ?k5 ?kK ?kd ?ku ?_; (case qzh0 => walk_at "mine omega"); (case qzh1 => walk_at "mine omega"); (case qzh2 => walk_at "mine omega"); walk_at "mine side"; refine o_2 ?_; intro t9 h9 tk9 F9 N9 lo9 hi9; (try dsimp only); (try k_fold)) | (refine' get_sp _ _ _ _ (by kba_ints) ?qzh0 _ _ _ _ ?qzh1 ?qzh2 ?qzh3 ?qzh4 _ _ _ _ _ _ _ _ _ _ _ _ _ _ _ _ _ _ _ _ _ _ _ ?k1 ?k2 ?k3 ?k4 ?k5 ?kK ?kd ?ku ?_; (case qzh0 => walk_at "mine omega"); (case qzh1 => walk_at "mine omega"); (case qzh2 => walk_at "mine omega"); (case qzh3 => walk_at "mine omega"); (case qzh4 => walk_at "mine omega"); walk_at "mine side"; refine o_0 ?_; intro t9 h9 tk9 F9 N9; (try dsimp only); (try k_fold)) | (refine' get_raise _ _ _ _ (by kba_ints) ?qzh0 _ _ _ _ ?qzh1 ?qzh2 ?qzh3 ?qzh4 ?qzh5 _ _ _ _ _ _ _ _ _ _ _ _ _ _ _ _ _ _ _ _ _ _ _ ?k1 ?k2 ?k3 ?k4 ?k5 ?kK ?kd ?ku ?_; (case qzh0 => walk_at "mine omega"); (case qzh1 => walk_at "mine omega"); (case qzh2 => walk_at "mine omega"); (case qzh3 => walk_at "mine omega"); (case qzh4 => walk_at "mine omega"); (case qzh5 => walk_at "mine omega"); walk_at "mine side"; intro e9 G9 h9 tk9 F9 R9 U9; (try dsimp only)))))
  k_with "call ref" => ((k_here; (with_reducible show wpAny _ _ (call (Value.ref 184) [Value.int _ _]) _ _ _); k_dflt (first | (refine' put16_sp _ _ _ ?qzh0 ?qzh1 _ _ _ _ _ _ _ _ _ _ _ _ _ _ _ _ _ _ _ _ _ _ _ ?k1 ?k2 ?k3 ?k4 ?k5 ?kK ?kd ?ku ?_; (case qzh0 => walk_at "mine omega"); (case qzh1 => walk_at "mine omega"); walk_at "mine side"; refine o_1 ?_; intro c9 t9 h9 tk9 F9 N9 b9; (try dsimp only); (try k_fold)) | (refine' put16_sp _ _ _ ?qzh0 ?qzh1 _ _ _ _ _ _ _ _ _ _ _ _ _ _ _ _ _ _ _ _ _ _ _ ?k1 ?k2 ?k3 ?k4 ?k5 ?kK ?kd ?ku ?_; walk_at "mine side"; (case qzh0 => decide); (case qzh1 => decide); refine o_1 ?_; intro c9 t9 h9 tk9 F9 N9 b9; (try dsimp only); (try k_fold)) | (refine' put16_raise _ _ _ ?qzh0 _ _ _ _ _ _ _ _ _ _ _ _ _ _ _ _ _ _ _ _ _ _ _ ?k1 ?k2 ?k3 ?k4 ?k5 ?kK ?kd ?ku ?_; (case qzh0 => walk_at "mine omega"); walk_at "mine side"; intro e9 G9 h9 tk9 F9 R9 U9; (try dsimp only)))))
  k_with "call ref" => ((k_here; (with_reducible show wpAny _ _ (call (Value.ref 191) [Value.int _ _]) _ _ _); k_dflt (first | (refine' put48_sp _ _ _ ?qzh0 ?qzh1 _ _ _ _ _ _ _ _ _ _ _ _ _ _ _ _ _ _ _ _ _ _ _ ?k1 ?k2 ?k3 ?k4 ?k5 ?kK ?kd ?ku ?_; (case qzh0 => walk_at "mine omega"); (case qzh1 => walk_at "mine omega"); walk_at "mine side"; refine o_1 ?_; intro c9 t9 h9 tk9 F9 N9 b9; (try dsimp only); (try k_fold)))))
  k_with "call ref" => ((k_here; (with_reducible show wpAny _ _ (call (Value.ref 198) [Value.bytes _ _, Value.int _ _]) _ _ _); k_dflt (first | (refine' get16v _ _ _ _ (by kba_ints) ?qzh0 _ _ ?qzh1 ?qzh2 _ _ _ _ _ _ _ _ _ _ _ _ _ _ _ _ _ _ _ _ _ _ _ ?k1 ?k2 ?k3 ?k4 ?k5 ?kK ?kd ?ku ?_; (case qzh0 => walk_at "mine omega"); (case qzh1 => walk_at "mine omega"); (case qzh2 => walk_at "mine omega"); walk_at "mine side"; refine o_3 ?_; intro t9 h9 tk9 F9 N9 lo9 hi9 lo8 hi8; (try dsimp only); (try k_fold)) | (refine' get16_raise _ _ _ _ (by kba_ints) ?qzh0 _ _ ?qzh1 ?qzh2 ?qzh3 _ _ _ _ _ _ _ _ _ _ _ _ _ _ _ _ _ _ _ _ _ _ _ ?k1 ?k2 ?k3 ?k4 ?k5 ?kK ?kd ?ku ?_; (case qzh0 => walk_at "mine omega"); (case qzh1 => walk_at "mine omega"); (case qzh2 => walk_at "mine omega"); (case qzh3 => walk_at "mine omega"); walk_at "mine side"; intro e9 G9 h9 tk9 F9 R9 U9; (try dsimp only)))))
  k_with "call ref" => ((k_here; (with_reducible show wpAny _ _ (call (Value.ref 198) [Value.bytes _ _, Value.int _ _]) _ _ _); k_dflt (first | (refine' get16c _ _ _ _ (by kba_ints) 12 _ ?qzh9 ?qzh0 _ _ ?qzh1 ?qzh2 _ _ _ _ _ _ _ _ _ _ _ _ _ _ _ _ _ _ _ _ _ _ _ ?k1 ?k2 ?k3 ?k4 ?k5 ?kK ?kd ?ku ?_; (case qzh0 => walk_at "mine omega"); (case qzh2 => walk_at "mine omega"); walk_at "mine side"; (case qzh9 => assumption); (case qzh1 => first | exact rfl | decide); refine o_0 ?_; intro t9 h9 tk9 F9 N9; (try dsimp only); (try k_fold)) | (refine' get16c _ _ _ _ (by kba_ints) 14 _ ?qzh9 ?qzh0 _ _ ?qzh1 ?qzh2 _ _ _ _ _ _ _ _ _ _ _ _ _ _ _ _ _ _ _ _ _ _ _ ?k1 ?k2 ?k3 ?k4 ?k5 ?kK ?kd ?ku ?_; (case qzh0 => walk_at "mine omega"); (case qzh2 => walk_at "mine omega"); walk_at "mine side"; (case qzh9 => assumption); (case qzh1 => first | exact rfl | decide); refine o_0 ?_; intro t9 h9 tk9 F9 N9; (try dsimp only); (try k_fold)) | (refine' get16c _ _ _ _ (by kba_ints) 16 _ ?qzh9 ?qzh0 _ _ ?qzh1 ?qzh2 _ _ _ _ _ _ _ _ _ _ _ _ _ _ _ _ _ _ _ _ _ _ _ ?k1 ?k2 ?k3 ?k4 ?k5 ?kK ?kd ?ku ?_; (case qzh0 => walk_at "mine omega"); (case qzh2 => walk_at "mine omega"); walk_at "mine side"; (case qzh9 => assumption); (case qzh1 => first | exact rfl | decide); refine o_0 ?_; intro t9 h9 tk9 F9 N9; (try dsimp only); (try k_fold)) | (refine' get16v _ _ _ _ (by kba_ints) ?qzh0 _ _ ?qzh1 ?qzh2 _ _ _ _ _ _ _ _ _ _ _ _ _ _ _ _ _ _ _ _ _ _ _ ?k1 ?k2 ?k3 ?k4 ?k5 ?kK ?kd ?ku ?_; (case qzh0 => walk_at "mine omega"); (case qzh1 => walk_at "mine omega"); (case qzh2 => walk_at "mine omega"); walk_at "mine side"; refine o_3 ?_; intro t9 h9 tk9 F9 N9 lo9 hi9 lo8 hi8; (try dsimp only); (try k_fold)) | (refine' get16_raise _ _ _ _ (by kba_ints) ?qzh0 _ _ ?qzh1 ?qzh2 ?qzh3 _ _ _ _ _ _ _ _ _ _ _ _ _ _ _ _ _ _ _ _ _ _ _ ?k1 ?k2 ?k3 ?k4 ?k5 ?kK ?kd ?ku ?_; (case qzh0 => walk_at "mine omega"); (case qzh1 => walk_at "mine omega"); (case qzh2 => walk_at "mine omega"); (case qzh3 => walk_at "mine omega"); walk_at "mine side"; intro e9 G9 h9 tk9 F9 R9 U9; (try dsimp only)))))
  k_with "call ref" => ((k_here; (with_reducible show wpAny _ _ (call (Value.ref 205) [Value.bytes _ _, Value.int _ _]) _ _ _); k_dflt (first | (refine' get48_sp _ _ _ _ (by kba_ints) ?qzh0 _ _ ?qzh1 ?qzh2 _ _ _ _ _ _ _ _ _ _ _ _ _ _ _ _ _ _ _ _ _ _ _ ?k1 ?k2 ?k3 ?k4 ?k5 ?kK ?kd ?ku ?_; (case qzh0 => walk_at "mine omega"); (case qzh1 => walk_at "mine omega"); (case qzh2 => walk_at "mine omega"); walk_at "mine side"; refine o_0 ?_; intro t9 h9 tk9 F9 N9; (try dsimp only); (try k_fold)))))
  k_with "call ref" => ((k_here; (with_reducible show wpAny _ _ (call (Value.ref 334) [Value.int _ _, Value.int _ _, Value.int _ _, Value.bytes _ _]) _ _ _); k_dflt (first | (refine' llc_sp _ _ _ _ _ _ _ _ _ _ _ _ _ _ _ _ _ _ _ _ _ _ _ _ _ _ _ _ _ _ _ _ ?k1 ?k2 ?k3 ?k4 ?k5 ?kK ?kd ?ku ?_; walk_at "mine side"; refine o_4 ?_; intro x9 d9 ka9 kb9 kc9 kd9 h9 tk9 F9 N9 l9 l8; (try unfold llcD at N9); (try k_lt l9); (try k_lt2 l8); (try dsimp only); (try k_fold)))))
  k_with "call ref" => ((k_here; (with_reducible show wpAny _ _ (call (Value.ref 352) [Value.ref _]) _ _ _); k_dflt (first | (refine' pack_sp _ _ _ _ _ _ _ _ _ _ _ _ _ _ _ _ _ ?qzh9 ?qzh0 _ ?qzh1 ?qzh2 ?qzh3 ?qzh8 ?qzh4 _ _ _ _ _ _ _ _ _ _ _ _ _ _ _ _ _ _ _ _ _ _ ?k1 ?k2 ?k3 ?k4 ?k5 ?kK ?kd ?ku ?_; walk_at "mine side"; (case qzh4 => walk_at "mine mem"); (case qzh9 => kba_ints); (case qzh8 => assumption); (case qzh0 => walk_at "mine omega"); (case qzh1 => walk_at "mine omega"); (case qzh2 => walk_at "mine omega"); (case qzh3 => walk_at "mine omega"); refine o_5 ?_; intro c9 t9 h9 tk9 F9 N9 b9; (try dsimp only); (try k_fold)) | (refine' pack_no _ _ _ _ _ _ _ _ _ _ _ _ _ _ _ _ ?qzh9 ?qzh0 _ ?qzh1 ?qzh2 ?qzh3 ?qzh5 ?qzh8 ?qzh4 _ _ _ _ _ _ _ _ _ _ _ _ _ _ _ _ _ _ _ _ _ _ ?k1 ?k2 ?k3 ?k4 ?k5 ?kK ?kd ?ku ?_; walk_at "mine side"; (case qzh4 => walk_at "mine mem"); (case qzh9 => kba_ints); (case qzh8 => assumption); (case qzh0 => walk_at "mine omega"); (case qzh1 => walk_at "mine omega"); (case qzh2 => walk_at "mine omega"); (case qzh3 => walk_at "mine omega"); (case qzh5 => walk_at "mine omega"); intro e9 G9 h9 tk9 F9 R9 U9; (try dsimp only)))))
  k_with "call ref" => ((k_here; (with_reducible show wpAny _ _ (call (Value.ref 394) [Value.ref _, Value.ref _]) _ _ _); k_dflt (first | (refine' one_int _ _ _ _ _ _ _ 60 _ _ _ _ _ ?qzU ?qzh0 ?qzh1 ?qzh2 ?qzh3 ?qzh4 ?qzh6 ?qzh5 ?qzh7 _ _ _ _ _ _ _ _ _ _ _ _ _ _ _ _ _ _ _ _ _ _ ?k1 ?k2 ?k3 ?k4 ?k5 ?kK ?kd ?ku ?_; walk_at "mine side"; (case qzU => walk_at "mine upd"); (case qzh6 => k_mem); (case qzh7 => walk_at "mine ints"); (case qzh0 => walk_at "mine omega"; skip); (case qzh1 => walk_at "mine omega"; skip); (case qzh2 => walk_at "mine omega"; skip); (case qzh3 => exact Nat.le_of_ble_eq_true rfl); (case qzh4 => exact Nat.le_of_ble_eq_true rfl); (case qzh5 => walk_at "mine ane"); refine o_7 ?_; intro dr9 t9 aa9 bb9 u9 v9 m9 h9 tk9 F9 N9 lo9 hi9 aa0 bb0 bb1; (try dsimp only at N9); (try dsimp only); (try k_fold)) | (refine' one_int _ _ _ _ _ _ _ 255 _ _ _ _ _ ?qzU ?qzh0 ?qzh1 ?qzh2 ?qzh3 ?qzh4 ?qzh6 ?qzh5 ?qzh7 _ _ _ _ _ _ _ _ _ _ _ _ _ _ _ _ _ _ _ _ _ _ ?k1 ?k2 ?k3 ?k4 ?k5 ?kK ?kd ?ku ?_; walk_at "mine side"; (case qzU => walk_at "mine upd"); (case qzh6 => k_mem); (case qzh7 => walk_at "mine ints"); (case qzh0 => walk_at "mine omega"; skip); (case qzh1 => walk_at "mine omega"; skip); (case qzh2 => walk_at "mine omega"; skip); (case qzh3 => exact Nat.le_of_ble_eq_true rfl); (case qzh4 => exact Nat.le_of_ble_eq_true rfl); (case qzh5 => walk_at "mine ane"); refine o_7 ?_; intro dr9 t9 aa9 bb9 u9 v9 m9 h9 tk9 F9 N9 lo9 hi9 aa0 bb0 bb1; (try dsimp only at N9); (try dsimp only); (try k_fold)) | (refine' one_int _ _ _ _ _ _ _ 1000 _ _ _ _ _ ?qzU ?qzh0 ?qzh1 ?qzh2 ?qzh3 ?qzh4 ?qzh6 ?qzh5 ?qzh7 _ _ _ _ _ _ _ _ _ _ _ _ _ _ _ _ _ _ _ _ _ _ ?k1 ?k2 ?k3 ?k4 ?k5 ?kK ?kd ?ku ?_; walk_at "mine side"; (case qzU => walk_at "mine upd"); (case qzh6 => k_mem); (case qzh7 => walk_at "mine ints"); (case qzh0 => walk_at "mine omega"; skip); (case qzh1 => walk_at "mine omega"; skip); (case qzh2 => walk_at "mine omega"; skip); (case qzh3 => exact Nat.le_of_ble_eq_true rfl); (case qzh4 => exact Nat.le_of_ble_eq_true rfl); (case qzh5 => walk_at "mine ane"); refine o_7 ?_; intro dr9 t9 aa9 bb9 u9 v9 m9 h9 tk9 F9 N9 lo9 hi9 aa0 bb0 bb1; (try dsimp only at N9); (try dsimp only); (try k_fold)) | (refine' one_int _ _ _ _ _ _ _ 65536 _ _ _ _ _ ?qzU ?qzh0 ?qzh1 ?qzh2 ?qzh3 ?qzh4 ?qzh6 ?qzh5 ?qzh7 _ _ _ _ _ _ _ _ _ _ _ _ _ _ _ _ _ _ _ _ _ _ ?k1 ?k2 ?k3 ?k4 ?k5 ?kK ?kd ?ku ?_; walk_at "mine side"; (case qzU => walk_at "mine upd"); (case qzh6 => k_mem); (case qzh7 => walk_at "mine ints"); (case qzh0 => walk_at "mine omega"; skip); (case qzh1 => walk_at "mine omega"; skip); (case qzh2 => walk_at "mine omega"; skip); (case qzh3 => exact Nat.le_of_ble_eq_true rfl); (case qzh4 => exact Nat.le_of_ble_eq_true rfl); (case qzh5 => walk_at "mine ane"); refine o_7 ?_; intro dr9 t9 aa9 bb9 u9 v9 m9 h9 tk9 F9 N9 lo9 hi9 aa0 bb0 bb1; (try dsimp only at N9); (try dsimp only); (try k_fold)) | (refine' one_int _ _ _ _ _ _ _ 16777219 _ _ _ _ _ ?qzU ?qzh0 ?qzh1 ?qzh2 ?qzh3 ?qzh4 ?qzh6 ?qzh5 ?qzh7 _ _ _ _ _ _ _ _ _ _ _ _ _ _ _ _ _ _ _ _ _ _ ?k1 ?k2 ?k3 ?k4 ?k5 ?kK ?kd ?ku ?_; walk_at "mine side"; (case qzU => walk_at "mine upd"); (case qzh6 => k_mem); (case qzh7 => walk_at "mine ints"); (case qzh0 => walk_at "mine omega"; skip); (case qzh1 => walk_at "mine omega"; skip); (case qzh2 => walk_at "mine omega"; skip); (case qzh3 => exact Nat.le_of_ble_eq_true rfl); (case qzh4 => exact Nat.le_of_ble_eq_true rfl); (case qzh5 => walk_at "mine ane"); refine o_7 ?_; intro dr9 t9 aa9 bb9 u9 v9 m9 h9 tk9 F9 N9 lo9 hi9 aa0 bb0 bb1; (try dsimp only at N9); (try dsimp only); (try k_fold)))))
  k_with "call ref" => ((k_here; (with_reducible show wpAny _ _ (call (Value.ref 366) [Value.ref _]) _ _ _); k_dflt (first | (refine' snap_none_m _ _ _ _ _ _ _ _ _ _ _ _ _ _ _ _ ?qzh0 ?qzh4 _ _ _ _ _ _ _ _ _ _ _ _ _ _ _ _ _ _ _ _ _ _ ?k1 ?k2 ?k3 ?k4 ?k5 ?kK ?kd ?ku ?_; walk_at "mine side"; (case qzh4 => walk_at "mine mem"); (case qzh0 => walk_at "mine omega"; skip); refine o_8 ?_; intro h9 tk9 F9 N9; (try dsimp only); (try k_fold)) | (refine' snap_raise_m _ _ _ _ _ _ _ _ _ _ _ _ _ _ _ _ ?qzh9 ?qzh0 _ ?qzh1 ?qzh2 ?qzh3 ?qzh4 _ _ _ _ _ _ _ _ _ _ _ _ _ _ _ _ _ _ _ _ _ _ ?k1 ?k2 ?k3 ?k4 ?k5 ?kK ?kd ?ku ?_; walk_at "mine side"; (case qzh4 => walk_at "mine mem"); (case qzh9 => kba_ints); (case qzh1 => walk_at "mine omega"; skip); (case qzh2 => walk_at "mine omega"; skip); (case qzh3 => walk_at "mine omega"; skip); (case qzh0 => walk_at "mine omega"; skip); intro e9 G9 h9 tk9 F9 R9 U9; (try dsimp only)) | (refine' snap_ok_m _ _ _ _ _ _ _ _ _ _ _ _ _ _ _ _ ?qzh9 ?qzh0 ?qzh5 _ ?qzh1 ?qzh2 ?qzh3 ?qzh4 _ _ _ _ _ _ _ _ _ _ _ _ _ _ _ _ _ _ _ _ _ _ ?k1 ?k2 ?k3 ?k4 ?k5 ?kK ?kd ?ku ?_; walk_at "mine side"; (case qzh4 => walk_at "mine mem"); (case qzh9 => kba_ints); (case qzh1 => walk_at "mine omega"; skip); (case qzh2 => walk_at "mine omega"; skip); (case qzh3 => walk_at "mine omega"; skip); (case qzh0 => walk_at "mine omega"; skip); (case qzh5 => walk_at "mine omega"; skip); refine o_9 ?_; intro dd9 ka9 t9 u9 v9 c9 h9 tk9 F9 N9 b9; (try dsimp only); (try k_fold)))))
  k_with "call ref" => ((k_here; (with_reducible show wpAny _ _ (call (Value.ref 302) [Value.bytes _ _, Value.int 12 _]) _ _ _); k_dflt (first | (refine' utags1 _ _ _ _ _ _ (by kba_ints) ?qzh0 ?qzh1 ?qzh2 ?qzh3 ?qzh4 ?qzh5 ?qzh6 _ _ _ _ _ _ _ _ _ _ _ _ _ _ _ _ _ _ _ _ _ _ _ ?k1 ?k2 ?k3 ?k4 ?k5 ?kK ?kd ?ku ?_; (case qzh0 => walk_at "mine omega"); (case qzh1 => walk_at "mine omega"); walk_at "mine side"; (case qzh2 => assumption); (case qzh3 => assumption); (case qzh4 => assumption); (case qzh5 => walk_at "mine omega"; skip); (case qzh6 => walk_at "mine omega"; skip); refine o_11 ?_; intro dd9 ff9 t9 ka9 kb9 x9 h9 tk9 F9 N9; (try dsimp only); (try k_fold)) | (refine' utags0 _ _ _ _ _ _ (by kba_ints) ?qzh0 ?qzh1 ?qzh2 ?qzh5 ?qzh6 _ _ _ _ _ _ _ _ _ _ _ _ _ _ _ _ _ _ _ _ _ _ _ ?k1 ?k2 ?k3 ?k4 ?k5 ?kK ?kd ?ku ?_; (case qzh0 => walk_at "mine omega"); (case qzh1 => walk_at "mine omega"); walk_at "mine side"; (case qzh2 => assumption); (case qzh5 => walk_at "mine omega"; skip); (case qzh6 => walk_at "mine omega"; skip); refine o_12 ?_; intro dd9 ff9 t9 ka9 kb9 h9 tk9 F9 N9; (try dsimp only); (try k_fold)))))
  k_with "call ref" => ((k_here; (with_reducible show wpAny _ _ (call (Value.ref 345) [Value.int _ _]) _ _ _); k_dflt (first | (refine' short_t _ _ _ ?qzh0 _ _ _ _ _ _ _ _ _ _ _ _ _ _ _ _ _ _ _ _ _ _ _ ?k1 ?k2 ?k3 ?k4 ?k5 ?kK ?kd ?ku ?_; walk_at "mine side"; (case qzh0 => walk_at "mine mod"); refine o_8 ?_; intro h9 tk9 F9 N9; (try dsimp only); (try k_fold)) | (refine' short_f _ _ _ ?qzh0 _ _ _ _ _ _ _ _ _ _ _ _ _ _ _ _ _ _ _ _ _ _ _ ?k1 ?k2 ?k3 ?k4 ?k5 ?kK ?kd ?ku ?_; walk_at "mine side"; (case qzh0 => walk_at "mine mod"); refine o_8 ?_; intro h9 tk9 F9 N9; (try dsimp only); (try k_fold)))))
  k_with "mine mod" => (((try rw [fd8]); omega))
  k_with "leaving ref" => ((k_here; refine' leave_mineOn ?k1 ?k2 ?k3 ?k4 ?k5 ?_; (case k3 => assumption); (case k2 => assumption); (case k1 => k_asm); (case k4 => assumption); (case k5 => k_dflt (exact rfl)); intro h' R' U'; (try dsimp only)))
  k_with "call ref" => ((k_here; (with_reducible show wpAny _ _ (call (Value.ref 177) [Value.bytes _ _, Value.int 2 _, Value.int 1 _]) _ _ _); k_dflt (first | (refine' get1at2 _ _ _ _ (by kba_ints) ?qzh0 _ _ ?qzh1 _ _ _ _ _ _ _ _ _ _ _ _ _ _ _ _ _ _ _ _ _ _ _ ?k1 ?k2 ?k3 ?k4 ?k5 ?kK ?kd ?ku ?_; (case qzh0 => walk_at "mine omega"); (case qzh1 => walk_at "mine omega"); walk_at "mine side"; refine o_2 ?_; intro t9 h9 tk9 F9 N9 lo9 hi9; (try dsimp only); (try k_fold)))))
  k_with "call ref" => ((k_here; (with_reducible show wpAny _ _ (call (Value.ref 177) [Value.bytes _ _, Value.int 0 _, Value.int 3 _]) _ _ _); k_dflt (first | (refine' get3at0 _ _ _ _ (by kba_ints) ?qzh0 _ _ ?qzh1 _ _ _ _ _ _ _ _ _ _ _ _ _ _ _ _ _ _ _ _ _ _ _ ?k1 ?k2 ?k3 ?k4 ?k5 ?kK ?kd ?ku ?_; (case qzh0 => walk_at "mine omega"); (case qzh1 => walk_at "mine omega"); walk_at "mine side"; refine o_2 ?_; intro t9 h9 tk9 F9 N9 lo9 hi9; (try dsimp only); (try k_fold)))))
  k_with "call ref" => ((k_here; (with_reducible show wpAny _ _ (call (Value.ref 198) [Value.bytes _ _, Value.int 2 _]) _ _ _); k_dflt (first | (refine' get16at2 _ _ _ _ (by kba_ints) ?qzh0 _ ?qzh1 _ _ _ _ _ _ _ _ _ _ _ _ _ _ _ _ _ _ _ _ _ _ _ ?k1 ?k2 ?k3 ?k4 ?k5 ?kK ?kd ?ku ?_; (case qzh0 => walk_at "mine omega"); (case qzh1 => walk_at "mine omega"); walk_at "mine side"; refine o_3 ?_; intro t9 h9 tk9 F9 N9 lo9 hi9 lo8 hi8; (try dsimp only); (try k_fold)))))
  k_with "call ref" => ((k_here; (with_reducible show wpAny _ _ (call (Value.ref 198) [Value.bytes _ _, Value.int 3 _]) _ _ _); k_dflt (first | (refine' get16at3 _ _ _ _ (by kba_ints) ?qzh0 _ ?qzh1 _ _ _ _ _ _ _ _ _ _ _ _ _ _ _ _ _ _ _ _ _ _ _ ?k1 ?k2 ?k3 ?k4 ?k5 ?kK ?kd ?ku ?_; (case qzh0 => walk_at "mine omega"); (case qzh1 => walk_at "mine omega"); walk_at "mine side"; refine o_3 ?_; intro t9 h9 tk9 F9 N9 lo9 hi9 lo8 hi8; (try dsimp only); (try k_fold)))))
  k_with "call ref" => ((k_here; (with_reducible show wpAny _ _ (call (Value.ref 230) [Value.int _ _, Value.int _ _, Value.bool _, Value.int _ _]) _ _ _); k_dflt (first | (refine' tag_sp _ _ _ _ _ _ _ _ _ _ _ _ _ _ _ _ _ _ _ _ _ _ _ _ _ _ _ _ _ _ _ ?k1 ?k2 ?k3 ?k4 ?k5 ?kK ?kd ?ku ?_; walk_at "mine side"; refine o_4 ?_; intro x9 d9 ka9 kb9 kc9 kd9 h9 tk9 F9 N9 l9 l8; (try unfold tagD at N9); (try k_lt l9); (try k_lt2 l8); (try dsimp only); (try k_fold)))))
  k_with "call ref" => ((k_here; (with_reducible show wpAny _ _ (call (Value.ref 264) [Value.int 5 _, Value.int 6 _, Value.ref _, Value.none, Value.bytes _ _]) _ _ _); k_dflt (first | (refine' frm_sp _ _ _ _ _ _ _ _ _ ?qzh0 _ _ _ _ _ _ _ _ _ _ _ _ _ _ _ _ _ _ _ _ _ _ ?k1 ?k2 ?k3 ?k4 ?k5 ?kK ?kd ?ku ?_; walk_at "mine side"; (case qzh0 => first | assumption | k_mem); refine o_10 ?_; intro x9 d9 ka9 kb9 kc9 kd9 ke9 h9 tk9 F9 N9 l9 l8; (try simp only [FrmAt, List.cons_append, List.nil_append] at N9); (try unfold frmD at N9); (try k_lt l9); (try k_lt2 l8); (try dsimp only); (try k_fold)))))
  k_with "call ref" => ((k_here; (with_reducible show wpAny _ _ (call (Value.ref 165) [Value.bytes _ _]) _ _ _); k_dflt (first | (refine' sum_sp _ _ _ _ (by kba_ints) _ _ _ _ _ _ _ _ _ _ _ _ _ _ _ _ _ _ _ _ _ _ _ ?k1 ?k2 ?k3 ?k4 ?k5 ?kK ?kd ?ku ?_; walk_at "mine side"; refine o_1 ?_; intro c9 t9 h9 tk9 F9 N9 b9; (have sl9 := sumF_at b9); (try dsimp only); (try k_fold)))))
  k_with "call ref" => ((k_here; (with_reducible show wpAny _ _ (call (Value.ref 275) [Value.ref _]) _ _ _); k_dflt (first | (refine' ptag_m _ _ _ _ _ _ _ _ _ _ _ ?qzh4 _ _ _ _ _ _ _ _ _ _ _ _ _ _ _ _ _ _ _ _ _ _ ?k1 ?k2 ?k3 ?k4 ?k5 ?kK ?kd ?ku ?_; walk_at "mine side"; (case qzh4 => walk_at "mine mem"); refine o_5 ?_; intro c9 t9 h9 tk9 F9 N9 b9; (try dsimp only); (try k_fold)))))
  k_with "call ref" => ((k_here; (with_reducible show wpAny _ _ (call (Value.ref 282) [Value.ref _]) _ _ _); k_dflt (first | (refine' pkind_sp _ _ _ _ _ _ _ _ _ _ _ _ _ _ ?qzh9 ?qzh0 _ ?qzh4 _ _ _ _ _ _ _ _ _ _ _ _ _ _ _ _ _ _ _ _ _ _ ?k1 ?k2 ?k3 ?k4 ?k5 ?kK ?kd ?ku ?_; walk_at "mine side"; (case qzh4 => walk_at "mine mem"); (case qzh9 => kba_ints); (case qzh0 => walk_at "mine omega"); refine o_5 ?_; intro c9 t9 h9 tk9 F9 N9 b9; (try dsimp only); (try k_fold)))))
  k_with "call ref" => ((k_here; (with_reducible show wpAny _ _ (call (Value.ref 295) [Value.bytes _ _, Value.int 12 _]) _ _ _); k_dflt (first | (refine' utag _ _ _ _ _ (by kba_ints) ?qzh0 ?qzh1 ?qzh2 ?qzh3 _ _ _ _ _ _ _ _ _ _ _ _ _ _ _ _ _ _ _ _ _ _ _ ?k1 ?k2 ?k3 ?k4 ?k5 ?kK ?kd ?ku ?_; (case qzh0 => walk_at "mine omega"); (case qzh1 => walk_at "mine omega"); walk_at "mine side"; (case qzh2 => assumption); (case qzh3 => assumption); refine o_13 ?_; intro x9 d9 ka9 kb9 kc9 kd9 va9 vb9 vc9 vd9 h9 tk9 F9 N9 l9 l8; (try unfold tagD at N9); (try k_lt l9); (try k_lt2 l8); (try dsimp only); (try k_fold)))))
  k_with "call ref" => ((k_here; (with_reducible show wpAny _ _ (call (Value.ref 264) [Value.int _ _, Value.int _ _, Value.ref _, Value.none, Value.bytes _ _]) _ _ _); k_dflt (first | (refine' frm_g _ _ _ _ _ _ _ _ _ _ _ ?qzh0 _ _ _ _ _ _ _ _ _ _ _ _ _ _ _ _ _ _ _ _ _ _ ?k1 ?k2 ?k3 ?k4 ?k5 ?kK ?kd ?ku ?_; walk_at "mine side"; (case qzh0 => first | assumption | k_mem); refine o_10 ?_; intro x9 d9 ka9 kb9 kc9 kd9 ke9 h9 tk9 F9 N9 l9 l8; (try unfold frmD at N9); (try k_lt l9); (try k_lt2 l8); (try dsimp only); (try k_fold)))))
  k_with "call ref" => ((k_here; (with_reducible show wpAny _ _ (call (Value.ref 387) [Value.ref _, Value.int _ _]) _ _ _); k_dflt (first | (refine' take_sp _ _ _ _ _ _ _ _ _ _ ?qzh0 ?qzh1 ?qzh2 ?qzh3 ?qzh4 ?qzh5 _ _ _ _ _ _ _ _ _ _ _ _ _ _ _ _ _ _ _ _ _ _ ?k1 ?k2 ?k3 ?k4 ?k5 ?kK ?kd ?ku ?_; walk_at "mine side"; (case qzh0 => walk_at "mine omega"; skip); (case qzh1 => walk_at "mine omega"; skip); (case qzh2 => walk_at "mine omega"; skip); (case qzh3 => walk_at "mine omega"; skip); (case qzh4 => walk_at "mine omega"; skip); (case qzh5 => walk_at "mine ne"); refine o_6 ?_; intro dr9 t9 aa9 bb9 u9 v9 m9 h9 tk9 F9 N9 lo9 hi9 aa0 bb0 bb1; (try dsimp only); (try k_fold)))))
  k_with "call ref" => ((k_here; (with_reducible show wpAny _ _ (call (Value.ref 387) [Value.ref _, Value.int _ _]) _ _ _); k_dflt (first | (refine' take_u _ _ _ _ _ _ _ _ _ _ _ ?qzU ?qzh0 ?qzh1 ?qzh2 ?qzh3 ?qzh4 _ _ _ _ _ _ _ _ _ _ _ _ _ _ _ _ _ _ _ _ _ _ ?k1 ?k2 ?k3 ?k4 ?k5 ?kK ?kd ?ku ?_; walk_at "mine side"; (case qzU => walk_at "mine upd"); (case qzh0 => walk_at "mine omega"; skip); (case qzh1 => walk_at "mine omega"; skip); (case qzh2 => walk_at "mine omega"; skip); (case qzh3 => walk_at "mine omega"; skip); (case qzh4 => walk_at "mine omega"; skip); refine o_6 ?_; intro dr9 t9 aa9 bb9 u9 v9 m9 h9 tk9 F9 N9 lo9 hi9 aa0 bb0 bb1; (try dsimp only at N9); (try dsimp only); (try k_fold)))))
  trivial
theorem top_off_V1b : True := by
  w_top off
  trivial
theorem own_rangeQ {prog : Program} {w : World} {A : Around} {E : Value → Shared → Prop} {s : Shared} {env : Env} {body : List Stmt} {Q : Flow → Shared → Prop} {r : Addr} {a₀ b₀ : Int} {t₀ u₀ v₀ : Tok} {n : Nat} {g₀ : Heap} {m₀ : PySem.Str → Option Value} {news : List (Addr × Obj)} {x : PySem.Str} {px : Pos} {L : Addr} (G : GSt) (hL : env.locals = L)
    (hh : A.handled = none) (hr : IsRange s.heap r a₀ b₀ 1 t₀ u₀ v₀) (ha : a₀ = 0) (hsmall : Builtin.Range.small a₀ b₀ 1 = true) (hn : Builtin.Range.rangeSize a₀ b₀ 1 = (n : Int)) (F : Fr g₀ L s.heap m₀) (N : News g₀ L s.heap news)
    (h0 : G 0 g₀ m₀ news)
    (step : ∀ (QQ : Flow → Shared → Prop) (EE : Value → Shared → Prop) I i g m news h tk t, i < n → G i g m news → (∀ p ∈ news, p.1 ≠ I) → Fr g L h m → News g L h ((I, itR ((i + 1 : Nat) : Int) ((n : Int) - ((i + 1 : Nat) : Int))) :: news) →
      (∀ g' m' news' h' tk', Fr g' L h' m' → News g' L h' ((I, itR ((i + 1 : Nat) : Int) ((n : Int) - ((i + 1 : Nat) : Int))) :: news') → (∀ p ∈ news', p.1 ≠ I) → G (i + 1) g' m' news' → QQ .next { s with heap := h', toks := tk' }) →
      wpAny (model prog w) A (assign (.Name x px) env (.int (i : Int) t)) (fun _ s₂ => wpAny (model prog w) A (execs body env) QQ EE s₂) EE { s with heap := h, toks := tk })
    (fin : ∀ g m news h tk, G n g m news → Fr g L h m → News g L h news → Q .next { s with heap := h, toks := tk }) :
    wpAny (model prog w) A (pyIter (.ref r)) (fun it s₂ => OwnAt prog w A env (.Name x px) body Q E it s₂) E s :=
  own_range G hL hh hr ha hsmall hn F N h0 (fun I i g m news h tk t hi hg off F' N' => step _ _ I i g m news h tk t hi hg off F' N' fun g' m' news' h' tk' F2 N2 off2 hg2 => ⟨h', tk', g', m', news', rfl, F2, N2, off2, hg2⟩) fin
def LawZ (c1 c2 : Addr) (od : Obj) (_i : Nat) (nw : List (Addr × Obj)) : Prop :=
  ∃ cs1 v1 cs2 v2 o4 o7 o1 add, nw = (c1, cs1) :: (c2, cs2) :: (424, o4) :: (417, o7) :: (431, o1) :: (436, od) :: add ∧ cs1.data = .cell v1 ∧ cs2.data = .cell v2 ∧ TabSt 211 22 Q429 add o4 ∧ TabSt 207 22 Q422 add o7 ∧ TabSt 225 26 Q434 add o1 ∧ ∀ p ∈ add, @LT.lt Nat _ 436 p.1 ∧ @Ne Nat p.1 c1 ∧ @Ne Nat p.1 c2
theorem mem_at {α : Type _} {l : List α} {x : α} (n : Nat) (h : l[n]? = some x) : x ∈ l := List.mem_of_getElem? h
theorem mem_dp {α : Type _} {l r : List α} {x : α} (n : Nat) (h : l.drop n = r) (hx : x ∈ r) : x ∈ l := List.mem_of_mem_drop (h ▸ hx)
theorem map_script {m : PySem.Str → Option Value} {v u x : Option Value} (h : m (Str.ofString "script") = x) : (fun y => if y = Str.ofString "source" then v else if y = Str.ofString "k" then u else m y) (Str.ofString "script") = x := by
  show (if Str.ofString "script" = Str.ofString "source" then v else if Str.ofString "script" = Str.ofString "k" then u else m (Str.ofString "script")) = x
  rw [if_neg (by decide), if_neg (by decide)]; exact h
theorem head_adds {add news r : List (Addr × Obj)} {c1 c2 I src : Addr} (ok : ∀ p ∈ add, @LT.lt Nat _ 436 p.1 ∧ p.1 ≠ src ∧ ∀ q ∈ news, @LT.lt Nat _ q.1 p.1) {o1 o2 oI : Obj} (h1 : (c1, o1) ∈ news) (h2 : (c2, o2) ∈ news) (hI : (I, oI) ∈ news)
    (hr : ∀ p ∈ r, @LT.lt Nat _ 436 p.1 ∧ @Ne Nat p.1 c1 ∧ @Ne Nat p.1 c2 ∧ @Ne Nat p.1 I) : ∀ p ∈ add ++ r, @LT.lt Nat _ 436 p.1 ∧ @Ne Nat p.1 c1 ∧ @Ne Nat p.1 c2 ∧ @Ne Nat p.1 I := fun p hp => by
  rcases List.mem_append.mp hp with hp | hp
  · exact ⟨(ok p hp).1, Nat.ne_of_gt ((ok p hp).2.2 _ h1), Nat.ne_of_gt ((ok p hp).2.2 _ h2), Nat.ne_of_gt ((ok p hp).2.2 _ hI)⟩
  · exact hr p hp
section
variable {α : Type _} {a0 a1 a2 a3 a4 a5 a6 a7 a8 a9 : α} {r : List α}
theorem mp0 : a0 ∈ a0 :: r := List.mem_cons_self
theorem mp1 : a1 ∈ a0 :: a1 :: r := List.mem_cons_of_mem _ mp0
theorem mp2 : a2 ∈ a0 :: a1 :: a2 :: r := List.mem_cons_of_mem _ mp1
theorem mp3 : a3 ∈ a0 :: a1 :: a2 :: a3 :: r := List.mem_cons_of_mem _ mp2
theorem mp4 : a4 ∈ a0 :: a1 :: a2 :: a3 :: a4 :: r := List.mem_cons_of_mem _ mp3
theorem mp5 : a5 ∈ a0 :: a1 :: a2 :: a3 :: a4 :: a5 :: r := List.mem_cons_of_mem _ mp4
theorem mp6 : a6 ∈ a0 :: a1 :: a2 :: a3 :: a4 :: a5 :: a6 :: r := List.mem_cons_of_mem _ mp5
theorem mp7 : a7 ∈ a0 :: a1 :: a2 :: a3 :: a4 :: a5 :: a6 :: a7 :: r := List.mem_cons_of_mem _ mp6
theorem mp8 : a8 ∈ a0 :: a1 :: a2 :: a3 :: a4 :: a5 :: a6 :: a7 :: a8 :: r := List.mem_cons_of_mem _ mp7
theorem mp9 : a9 ∈ a0 :: a1 :: a2 :: a3 :: a4 :: a5 :: a6 :: a7 :: a8 :: a9 :: r := List.mem_cons_of_mem _ mp8
end
theorem small9 {α : Type _} {a0 a1 a2 a3 a4 a5 a6 a7 a8 a9 : α} {r : List α} : ∀ q ∈ a2 :: a1 :: a6 :: a7 :: a8 :: a3 :: a4 :: a5 :: a9 :: r, q ∈ a0 :: a1 :: a2 :: a3 :: a4 :: a5 :: a6 :: a7 :: a8 :: a9 :: r :=
  List.forall_mem_cons.mpr ⟨mp2, List.forall_mem_cons.mpr ⟨mp1, List.forall_mem_cons.mpr ⟨mp6, List.forall_mem_cons.mpr ⟨mp7, List.forall_mem_cons.mpr ⟨mp8, List.forall_mem_cons.mpr ⟨mp3, List.forall_mem_cons.mpr ⟨mp4, List.forall_mem_cons.mpr ⟨mp5, List.forall_mem_cons.mpr ⟨mp9, fun q hq => mem_dp 10 rfl hq⟩⟩⟩⟩⟩⟩⟩⟩⟩
theorem small9b {α : Type _} {p i c1 c2 a4 a7 a1 a6 s : α} {r : List α} : ∀ q ∈ s :: p :: a4 :: a7 :: a1 :: i :: c1 :: c2 :: a6 :: r, q ∈ p :: i :: c1 :: c2 :: a4 :: a7 :: a1 :: a6 :: s :: r :=
  List.forall_mem_cons.mpr ⟨mp8, List.forall_mem_cons.mpr ⟨mp0, List.forall_mem_cons.mpr ⟨mp4, List.forall_mem_cons.mpr ⟨mp5, List.forall_mem_cons.mpr ⟨mp6, List.forall_mem_cons.mpr ⟨mp1, List.forall_mem_cons.mpr ⟨mp2, List.forall_mem_cons.mpr ⟨mp3, List.forall_mem_cons.mpr ⟨mp7, fun q hq => mem_dp 9 rfl hq⟩⟩⟩⟩⟩⟩⟩⟩⟩
theorem regroup {α : Type _} {i c1 c2 a4 a7 a1 a6 s t : α} {A r : List α} : ∀ q ∈ i :: c1 :: c2 :: a4 :: a7 :: a1 :: a6 :: s :: (A ++ r), q ∈ s :: t :: a4 :: a7 :: a1 :: (A ++ (i :: c1 :: c2 :: a6 :: r)) := by
  have up : ∀ q, q ∈ A ++ (i :: c1 :: c2 :: a6 :: r) → q ∈ s :: t :: a4 :: a7 :: a1 :: (A ++ (i :: c1 :: c2 :: a6 :: r)) := fun q h => mem_dp 5 rfl h
  refine List.forall_mem_cons.mpr ⟨up _ (List.mem_append_right _ mp0), List.forall_mem_cons.mpr ⟨up _ (List.mem_append_right _ mp1), List.forall_mem_cons.mpr ⟨up _ (List.mem_append_right _ mp2), List.forall_mem_cons.mpr ⟨mp2, List.forall_mem_cons.mpr ⟨mp3, List.forall_mem_cons.mpr ⟨mp4, List.forall_mem_cons.mpr ⟨up _ (List.mem_append_right _ mp3), List.forall_mem_cons.mpr ⟨mp0, fun q hq => up _ ?_⟩⟩⟩⟩⟩⟩⟩⟩
  rcases List.mem_append.mp hq with h | h
  · exact List.mem_append_left _ h
  · exact List.mem_append_right _ (mem_dp 4 rfl h)
theorem regroupE {α : Type _} {i c1 c2 a4 a7 a1 a6 s t : α} {A r : List α} (q : α) (hq : q ∈ i :: c1 :: c2 :: a4 :: a7 :: a1 :: a6 :: (A ++ r)) : q ∈ s :: t :: a4 :: a7 :: a1 :: (A ++ (i :: c1 :: c2 :: a6 :: r)) :=
  regroup q (by
    rcases List.mem_cons.mp hq with rfl | hq
    · exact mp0
    rcases List.mem_cons.mp hq with rfl | hq
    · exact mp1
    rcases List.mem_cons.mp hq with rfl | hq
    · exact mp2
    rcases List.mem_cons.mp hq with rfl | hq
    · exact mp3
    rcases List.mem_cons.mp hq with rfl | hq
    · exact mp4
    rcases List.mem_cons.mp hq with rfl | hq
    · exact mp5
    rcases List.mem_cons.mp hq with rfl | hq
    · exact mp6
    · exact mem_dp 8 rfl hq)
theorem add_src {add news r : List (Addr × Obj)} {src : Addr} (ok : ∀ p ∈ add, @LT.lt Nat _ 436 p.1 ∧ p.1 ≠ src ∧ ∀ q ∈ news, @LT.lt Nat _ q.1 p.1) (hr : ∀ p ∈ r, p.1 ≠ src) : ∀ p ∈ add ++ r, p.1 ≠ src := fun p hp => by
  rcases List.mem_append.mp hp with hp | hp
  · exact (ok p hp).2.1
  · exact hr p hp
def LawW (c1 c2 : Addr) (rest : List (Addr × Obj)) (_i : Nat) (nw : List (Addr × Obj)) : Prop :=
  ∃ cs1 v1 cs2 v2 add o6, nw = (c1, cs1) :: (c2, cs2) :: (436, o6) :: (add ++ rest) ∧ cs1.data = .cell v1 ∧ cs2.data = .cell v2 ∧ TabSt 236 22 Q441 (add ++ rest) o6 ∧ (∀ p ∈ add ++ rest, p.1 ≠ 436) ∧ (∀ p ∈ add ++ rest, p.1 ≠ c1) ∧ (∀ p ∈ add ++ rest, p.1 ≠ c2)
theorem LawW.mem {c1 c2 : Addr} {rest nw : List (Addr × Obj)} {i : Nat} {q : Addr × Obj} (X : LawW c1 c2 rest i nw) (h : q ∈ rest) : q ∈ nw := by
  obtain ⟨cs1, v1, cs2, v2, add, o6, rfl, _⟩ := X
  exact List.mem_cons_of_mem _ (List.mem_cons_of_mem _ (List.mem_cons_of_mem _ (List.mem_append_right _ h)))
theorem LawW.elim {c1 c2 : Addr} {rest nw : List (Addr × Obj)} {i : Nat} {C : List (Addr × Obj) → Prop} (X : LawW c1 c2 rest i nw)
    (k : ∀ cs1 v1 cs2 v2 add o6, cs1.data = .cell v1 → cs2.data = .cell v2 → TabSt 236 22 Q441 (add ++ rest) o6 → (∀ p ∈ add ++ rest, p.1 ≠ 436) → (∀ p ∈ add ++ rest, p.1 ≠ c1) → (∀ p ∈ add ++ rest, p.1 ≠ c2) → C ((c1, cs1) :: (c2, cs2) :: (436, o6) :: (add ++ rest))) : C nw := by
  obtain ⟨cs1, v1, cs2, v2, add, o6, rfl, h1, h2, h3, h4, h5, h6⟩ := X
  exact k cs1 v1 cs2 v2 add o6 h1 h2 h3 h4 h5 h6
theorem own_listQ {prog : Program} {w : World} {A : Around} {E : Value → Shared → Prop} {s : Shared} {env : Env} {target : Expr} {body : List Stmt} {Q : Flow → Shared → Prop} {ax : Addr} {items : Array Value} {kk : Nat} {g₀ : Heap} {m₀ : PySem.Str → Option Value} {news : List (Addr × Obj)} {L : Addr} (G : GSt) (hL : env.locals = L)
    (hh : A.handled = none) (F : Fr g₀ L s.heap m₀) (N : News g₀ L s.heap news) (h0 : G 0 g₀ m₀ news) (hG : ∀ i g m nw, G i g m nw → (ax, W.listOf items kk) ∈ nw)
    (step : ∀ (QQ : Flow → Shared → Prop) (EE : Value → Shared → Prop) I oI i g m news h tk v, i < items.size → items[i]? = some v → G i g m news → (∀ p ∈ news, p.1 ≠ I) → itL ax (i + 1) oI → Fr g L h m → News g L h ((I, oI) :: news) →
      (∀ g' m' news' h' tk', Fr g' L h' m' → News g' L h' ((I, oI) :: news') → (∀ p ∈ news', p.1 ≠ I) → G (i + 1) g' m' news' → QQ .next { s with heap := h', toks := tk' }) →
      wpAny (model prog w) A (assign target env v) (fun _ s₂ => wpAny (model prog w) A (execs body env) QQ EE s₂) EE { s with heap := h, toks := tk })
    (fin : ∀ g m news h tk, G items.size g m news → Fr g L h m → News g L h news → Q .next { s with heap := h, toks := tk }) :
    wpAny (model prog w) A (pyIter (.ref ax)) (fun it s₂ => OwnAt prog w A env target body Q E it s₂) E s :=
  own_list G hL hh F N h0 hG (fun I oI i g m news h tk v hi hv hg off hIt F' N' => step _ _ I oI i g m news h tk v hi hv hg off hIt F' N' fun g' m' news' h' tk' F2 N2 off2 hg2 => ⟨h', tk', g', m', news', oI, rfl, F2, N2, hIt, off2, hg2⟩) fin
theorem top_off_V2 : True := by
  w_top off
  trivial
section
section
section
section
section
theorem kw_35 : True := by
  k_with "mine ints" => ((repeat' (first | exact IntsIn.nil | refine IntsIn.cons ?_ ?_ ?_ | omega | decide)))
  k_with "mine upd" => (k_updF)
  k_with "mine ane" => (k_ne)
  k_with "binaryOp Pow int int" => ((k_here; (with_reducible refine pow_24 ?_)))
  k_with "call type:list" => ((k_here; (with_reducible show wpAny _ _ (call (Value.type "list") [Value.bytes _ _]) _ _ _); k_dflt (refine' call_list5 ?qzh0 ?qzF ?qzN ?qzb ?qzn ?_; (case qzh0 => exact rfl); (case qzF => k_asm); (case qzN => k_asm); (case qzb => assumption); (case qzn => assumption); intro D' c' h' tk' t0' t1' t2' t3' t4' F' N' l1; (try dsimp only); (try k_lt l1); (try k_fold))))
  k_with "compareOp Eq ref ref" => ((k_here; (with_reducible show wpAny _ _ (compareOp CmpOp.Eq (Value.ref _) (Value.ref _)) _ _ _); k_dflt (refine' eq_tup3 ?qzN ?qza ?qzb ?qzx ?qzu ?_; (case qzN => k_asm); (case qza => k_mem); (case qzb => k_mem); (case qzx => exact eq5 (by assumption) (by assumption) (by assumption)); (case qzu => ke_room))))
  k_with "call ref" => ((k_here; (with_reducible show wpAny _ _ (call (Value.ref 359) [Value.bytes _ _]) _ _ _); k_dflt (first
  | (refine' cutE ?qzhz ?qzhi ?qzhc _ _ _ _ _ _ _ _ _ _ _ _ _ _ _ _ _ _ _ _ _ _ ?k1 ?k2 ?k3 ?k4 ?k5 ?kK ?kd ?ku ?_; walk_at "mine side"; (case qzhz => assumption); (case qzhc => assumption); (case qzhi => assumption); intro e9 G9 h9 tk9 F9 R9 U9; (try dsimp only))
  | (refine' cutS ?qzhz ?qzhc _ _ _ _ _ _ _ _ _ _ _ _ _ _ _ _ _ _ _ _ _ _ ?k1 ?k2 ?k3 ?k4 ?k5 ?kK ?kd ?ku ?_; walk_at "mine side"; (case qzhz => assumption); (case qzhc => assumption); refine o_14 ?_; intro x9 d9 ka9 kb9 kc9 kd9 ta9 tb9 tc9 td9 p9 q9 cc9 z9 h9 tk9 F9 N9 b9 l9 l8; (try simp only [List.cons_append, List.nil_append] at N9); (try unfold llcD at N9); (try k_lt l9); (try k_lt2 l8); (try dsimp only); (try k_fold)))))
  k_with "mine form" => (((refine' heard_form (lv := 12) ?hfn ?qzhf _ _ _ _ _ _ _ _ _ _ _ _ _ _ _ _ _ _ _ _ _ _ ?k1 ?k2 ?k3 ?k4 ?k5 ?kK ?kd ?ku ?qzkXB ?qzkTB ?qzkD ?_); walk_at "mine heard"; (case qzkXB => assumption); (case qzkTB => assumption); (case qzkD => assumption); (case qzhf => (intro p2 loose2 mean2 mg2 mb2 dp2 un2 gd2 cn2 cs2 a2 ccd2 cl2 outer2 A2 base2 h2 L2 m2 s2 Q2 E2 B2 F2 X2 N2 T2 hck2 hdp2 hun2 hret2; walk_at "mine enterL"; k_steps; all_goals (rename RaisedSN _ _ _ _ _ _ _ => R8; refine hret2 _ _ _ _ ?_ R8 ?_ <;> assumption))); refine o_15 ?_; intro t9 h9 tk9 h8 W9 B9 F9 X9 N9 T9 D9; (try dsimp only); (try k_fold)))
  k_with "mine at" => ((repeat (first | exact List.mem_cons_self | refine List.mem_cons_of_mem _ ?_)))
  k_with "mine six" => ((refine List.forall_mem_cons.mpr ⟨by walk_at "mine at", List.forall_mem_cons.mpr ⟨by walk_at "mine at", List.forall_mem_cons.mpr ⟨by walk_at "mine at", List.forall_mem_cons.mpr ⟨by walk_at "mine at", List.forall_mem_cons.mpr ⟨by walk_at "mine at", List.forall_mem_cons.mpr ⟨by walk_at "mine at", ?_⟩⟩⟩⟩⟩⟩; intro q hq; (repeat (first | exact hq | refine List.mem_cons_of_mem _ ?_))))
  k_with "call ref" => ((k_here; (try simp only [List.append_nil]); (try dsimp only); (with_reducible show wpAny _ _ (call (Value.ref 331) [Value.ref _]) _ _ _); k_dflt (refine' told_m _ _ _ _ _ _ _ _ _ _ _ _ _ _ _ _ ?qzh4 _ _ _ _ _ _ _ _ _ _ _ _ _ _ _ _ _ _ _ _ _ _ ?k1 ?k2 ?k3 ?k4 ?k5 ?kK ?kd ?ku ?_; walk_at "mine side"; (case qzh4 => walk_at "mine mem"); refine o_16 ?_; intro D9 k9 h9 tk9 F9 N9 l9; (try k_lt l9); (try dsimp only); (try k_fold))))
  k_with "callWith ref" => ((k_here; k_dflt (refine' callWith_K ?k1 ?k2 ?_; (case k1 => k_asm); (case k2 => k_is); k_whole)))
  k_with "mine codes" => (((have cA9 := codeHd_of_K (by assumption) (hd428 _)); (have cB9 := codeHd_of_K (by assumption) (hd421 _)); (have cC9 := codeHd_of_K (by assumption) (hd433 _)); (have cD9 := codeHd_of_K (by assumption) (hd440 _))))
  k_with "mine mem" => (first | ((repeat (first | assumption | exact link_in | refine mem_lift ?_)); done) | (refine List.forall_mem_cons.mpr ⟨by k_mem, List.forall_mem_cons.mpr ⟨by k_mem, List.forall_mem_nil _⟩⟩))
  k_with "mine enterL" => ((refine wpAny_call ?_; k_dflt (refine' kla_code ?k1 ?k2 ?k3 ?k4 ?k5 ?qzkA ?qzkF ?kK ?qzk6 ?qzk7 ?qzk8 ?qzk9 ?qzkB ?_ ?qzc2 ?qzc3 ?qzc4 ?qzc5; (case qzkA => exact rfl); (case qzkF => exact rfl); (case kK => assumption); (case k1 => k_asm); (case k2 => k_asm); (case k3 => k_asm); (case k4 => k_asm); (case k5 => k_asm); (case qzk6 => k_mem); (case qzk7 => first | (exact codeRec_news (by k_asm) (by k_mem) (by assumption) (by assumption)) | (exact codeRec_news (by k_asm) (by (repeat (first | assumption | refine List.mem_cons_of_mem _ ?_))) (by assumption) (by assumption))); (case qzk8 => ktr_room); (case qzk9 => exact rfl); (case qzc5 => decide); (case qzkB => exact locs rfl); (case qzc2 => exact rfl); (case qzc3 => exact rfl); (case qzc4 => exact rfl); k_whole; intro g' L' h' FG' F' N' B' X' T'; (try dsimp only); (try k_lift B'); (try k_fold))))
  k_with "mine heard" => ((walk_at "mine side"; (case hfn => k_mem)))
  k_with "mine size2" => (((refine' heard_size (lv := 16) ?hfn ?qzhf _ _ _ _ _ _ _ _ _ _ _ _ _ _ _ _ _ _ _ _ _ _ ?k1 ?k2 ?k3 ?k4 ?k5 ?kK ?kd ?ku ?qzkXB ?qzkTB ?qzkD ?_); walk_at "mine heard"; (case qzkXB => with_reducible assumption); (case qzkTB => with_reducible assumption); (case qzkD => with_reducible assumption); (case qzhf => (intro p2 loose2 mean2 mg2 mb2 dp2 un2 gd2 cn2 cs2 a2 ccd2 cl2 outer2 A2 base2 h2 L2 m2 s2 Q2 E2 B2 F2 X2 N2 T2 hck2 hdp2 hun2 hret2; walk_at "mine enterL"; k_steps; all_goals exact raised_end hret2 (by assumption) (by assumption) (by assumption) (by walk_at "mine raised"))); refine o_15 ?_; intro t9 h9 tk9 h8 W9 B9 F9 X9 N9 T9 D9; (try dsimp only); (try k_fold)))
  k_with "mine allne" => (((repeat (refine List.forall_mem_cons.mpr ⟨by k_ne, ?_⟩)); exact fun _ h9 => nomatch h9))
  k_with "mine allat" => (((repeat (refine List.forall_mem_cons.mpr ⟨by walk_at "mine at", ?_⟩)); exact fun _ h9 => nomatch h9))
  k_with "mine to iter" => ((repeat ((fail_if_success (with_reducible show wpAny _ _ (pyIter _) _ _ _)); first | walk1 | (dsimp only; walk1))))
  k_with "mine to 401" => ((repeat ((fail_if_success (with_reducible show wpAny _ _ (call (Value.ref 401) _) _ _ _)); first | walk1 | (dsimp only; walk1))))
  k_with "mine five" => ((refine List.forall_mem_cons.mpr ⟨by walk_at "mine at", List.forall_mem_cons.mpr ⟨by walk_at "mine at", List.forall_mem_cons.mpr ⟨by walk_at "mine at", List.forall_mem_cons.mpr ⟨by walk_at "mine at", List.forall_mem_cons.mpr ⟨by walk_at "mine at", ?_⟩⟩⟩⟩⟩; intro q hq; (repeat (first | exact hq | refine List.mem_cons_of_mem _ ?_))))
  k_with "mine four" => ((refine List.forall_mem_cons.mpr ⟨by walk_at "mine at", List.forall_mem_cons.mpr ⟨by walk_at "mine at", List.forall_mem_cons.mpr ⟨by walk_at "mine at", List.forall_mem_cons.mpr ⟨by walk_at "mine at", ?_⟩⟩⟩⟩; intro q hq; (repeat (first | exact hq | refine List.mem_cons_of_mem _ ?_))))
  k_with "mine at r" => ((repeat (first | (refine List.mem_append_right _ ?_; walk_at "mine at"; done) | refine List.mem_cons_of_mem _ ?_)))
  k_with "mine to 380" => ((repeat ((fail_if_success (with_reducible show wpAny _ _ (call (Value.ref 380) _) _ _ _)); first | walk1 | (dsimp only; walk1))))
  k_with "mine to 415" => ((repeat ((fail_if_success (with_reducible show wpAny _ _ (call (Value.ref 415) _) _ _ _)); first | walk1 | (dsimp only; walk1))))
  k_with "mine to 434" => ((repeat ((fail_if_success (with_reducible show wpAny _ _ (call (Value.ref 434) _) _ _ _)); (try dsimp only); walk1)))
  k_with "eval Name" => ((k_here; (with_reducible show wpAny _ _ (eval (Expr.Name ("script" : Str) _) _) _ _ _); k_dflt (refine' ld (name := PySem.Str.ofString "law") (a := (0 : Nat)) (cd := Value.none) ?k1 ?k2 ?_; (case k1 => k_asm); (case k2 => assumption); k_whole)))
  k_with "eval Lambda" => ((k_here; k_dflt (refine' kla_eval ?qzd0 ?_; (case qzd0 => exact rfl)); (k_dflt (refine' kla_any ?qzF ?qzN ?qzT ?qzC ?qzcd ?qzhT ?qzU ?qzhx ?qzt ?qzn ?qzt1 ?qzn1 ?qzcl ?_; (case qzF => k_asm); (case qzN => k_asm); (case qzT => k_asm); (case qzcd => exact rfl); (case qzC => kn_code); (case qzhT => first | with_reducible assumption | assumption); (case qzU => k_updF); (case qzhx => first | walk_at "mine sk" | walk_at "mine news in" | (intro q9 hq9; (repeat (first | exact hq9 | refine List.mem_cons_of_mem _ ?_)))); (case qzt => kn_triples); (case qzn => kn_among); (case qzt1 => (intro c9; kn_triples)); (case qzn1 => (intro c9; kn_hit)); (case qzcl => exact rfl); k_whole); intro f' c' oc' vs' t' ct' h' tk' F' N' d1' d2' l1 hlo; (try dsimp only at N'))))
  k_with "mine news in" => ((intro q9 hq9; (repeat (first | exact List.mem_append_right _ hq9 | refine List.mem_cons_of_mem _ ?_))))
  trivial
abbrev itemsOf {g h : Heap} {L ls : Addr} {items : Array Value} {n : Nat} {r : List (Addr × Obj)} (_ : News g L h ((ls, W.listOf items n) :: r)) : Array Value := items
theorem bound3 (n : Nat) : 1 ≤ (if (if (3 : Int) < (n : Int) then (3 : Int) else (n : Int)) > 1 then (if (3 : Int) < (n : Int) then (3 : Int) else (n : Int)) else 1) ∧ (if (if (3 : Int) < (n : Int) then (3 : Int) else (n : Int)) > 1 then (if (3 : Int) < (n : Int) then (3 : Int) else (n : Int)) else 1) ≤ 3 := by
  split <;> split <;> omega
theorem GGW.elim {FR : List Addr} {g0 : Heap} {A : Around} {base : Heap} {envs : List Env} {K : Frag} {p : Program} {loose : List PySem.Str} {mean : ExcName → Option Value} {mg mb m0 : PySem.Str → Option Value} {c1 c2 : Addr} {rest : List (Addr × Obj)} {i : Nat} {g : Heap} {m : PySem.Str → Option Value} {nw : List (Addr × Obj)} {C : (PySem.Str → Option Value) → List (Addr × Obj) → Prop} (X : GG FR g0 A base envs K p loose mean mg mb m0 (LawW c1 c2 rest) i g m nw)
    (k : KtsTurn FR g0 g → Below A base envs g → K.In g → Top p loose mean mg mb g → KtsDicts FR g → ∀ cs1 v1 cs2 v2 add o6, cs1.data = .cell v1 → cs2.data = .cell v2 → TabSt 236 22 Q441 (add ++ rest) o6 → (∀ p ∈ add ++ rest, p.1 ≠ 436) → (∀ p ∈ add ++ rest, p.1 ≠ c1) → (∀ p ∈ add ++ rest, p.1 ≠ c2) → C m0 ((c1, cs1) :: (c2, cs2) :: (436, o6) :: (add ++ rest))) : C m nw := by
  obtain ⟨a1, a2, a3, a4, a5, rfl, cs1, v1, cs2, v2, add, o6, rfl, h1, h2, h3, h4, h5, h6⟩ := X
  exact k a1 a2 a3 a4 a5 cs1 v1 cs2 v2 add o6 h1 h2 h3 h4 h5 h6
theorem tab_elim {l c : Nat} {q : PySem.Str} {nw : List (Addr × Obj)} {o : Obj} {C : Obj → Prop} (h : TabSt l c q nw o) (k : ∀ ps, C (tabObj ps)) : C o := by
  obtain ⟨ps, rfl⟩ := tab_obj h
  exact k ps
theorem GHZ.elim {FR : List Addr} {g0 : Heap} {A : Around} {base : Heap} {envs : List Env} {K : Frag} {p : Program} {loose : List PySem.Str} {mean : ExcName → Option Value} {mg mb : PySem.Str → Option Value} {M : (PySem.Str → Option Value) → Prop} {c1 c2 : Addr} {od : Obj} {i : Nat} {g : Heap} {m : PySem.Str → Option Value} {nw : List (Addr × Obj)} {C : List (Addr × Obj) → Prop} (X : GH FR g0 A base envs K p loose mean mg mb M (LawZ c1 c2 od) i g m nw)
    (k : KtsTurn FR g0 g → Below A base envs g → K.In g → Top p loose mean mg mb g → KtsDicts FR g → M m → ∀ cs1 v1 cs2 v2 o4 o7 o1 add, cs1.data = .cell v1 → cs2.data = .cell v2 → TabSt 211 22 Q429 add o4 → TabSt 207 22 Q422 add o7 → TabSt 225 26 Q434 add o1 → (∀ p ∈ add, @LT.lt Nat _ 436 p.1 ∧ @Ne Nat p.1 c1 ∧ @Ne Nat p.1 c2) → C ((c1, cs1) :: (c2, cs2) :: (424, o4) :: (417, o7) :: (431, o1) :: (436, od) :: add)) : C nw := by
  obtain ⟨a1, a2, a3, a4, a5, a6, cs1, v1, cs2, v2, o4, o7, o1, add, rfl, h1, h2, h3, h4, h5, h6⟩ := X
  exact k a1 a2 a3 a4 a5 a6 cs1 v1 cs2 v2 o4 o7 o1 add h1 h2 h3 h4 h5 h6
theorem GHZ.elimT {FR : List Addr} {g0 : Heap} {A : Around} {base : Heap} {envs : List Env} {K : Frag} {p : Program} {loose : List PySem.Str} {mean : ExcName → Option Value} {mg mb : PySem.Str → Option Value} {M : (PySem.Str → Option Value) → Prop} {c1 c2 : Addr} {od : Obj} {i : Nat} {g : Heap} {m : PySem.Str → Option Value} {nw : List (Addr × Obj)} {C : List (Addr × Obj) → Prop} (X : GH FR g0 A base envs K p loose mean mg mb M (LawZ c1 c2 od) i g m nw)
    (k : KtsTurn FR g0 g → Below A base envs g → K.In g → Top p loose mean mg mb g → KtsDicts FR g → M m → ∀ cs1 v1 cs2 v2 p4 p7 p1 add, cs1.data = .cell v1 → cs2.data = .cell v2 → C ((c1, cs1) :: (c2, cs2) :: (424, tabObj p4) :: (417, tabObj p7) :: (431, tabObj p1) :: (436, od) :: add)) : C nw :=
  GHZ.elim X fun a1 a2 a3 a4 a5 a6 cs1 v1 cs2 v2 o4 o7 o1 add h1 h2 h3 h4 h5 _ => by
    obtain ⟨p4, rfl⟩ := tab_obj h3
    obtain ⟨p7, rfl⟩ := tab_obj h4
    obtain ⟨p1, rfl⟩ := tab_obj h5
    exact k a1 a2 a3 a4 a5 a6 cs1 v1 cs2 v2 p4 p7 p1 add h1 h2
theorem TupOk.elim {v : Value} {nw : List (Addr × Obj)} {C : Value → Prop} (X : TupOk v nw) (k : ∀ (T P : Addr) (p q c : Int) (t1 t2 t3 : Tok) (k1 k2 : Nat), tupAt T #[.ref P, .int c t3] k1 ∈ nw → tupAt P #[.int p t1, .int q t2] k2 ∈ nw → 0 ≤ p → 0 ≤ q → 0 ≤ c → c < 1000000000 → dueF p q c = none → C (.ref T)) : C v := by
  obtain ⟨T, P, p, q, c, t1, t2, t3, k1, k2, rfl, mT, mP, hp, hq, hc, hc9, hdue⟩ := X
  exact k T P p q c t1 t2 t3 k1 k2 mT mP hp hq hc hc9 hdue
set_option maxHeartbeats 4000000 in
theorem lawH : PySem.Challenge.rw_pf0387_01.Holds := hd2 (by
  k_go0
  all_goals try k_fold
  rename_i w s0 s1 mg mb G Y fa o pm doc ho hg Xm V T B TE TW hcd ns hs hlay0 hL1 hr1 hl2 a6 a5 sc xs a2 hL ra w1 r0 hI hr hlen hc0 hD h1 tk1 oP oC left right X0 X' T' K' F' cd2 cd1 cd0 N' l0
  clear G Y ho hT8 Xm V T B TE TW hT9 hcd hlay0 hL1 hr1 hl2 hL ra w1 r0 hr hD X0 cd2 cd1 cd0 codeHd
  generalize hLL : s1.heap.objs.size = LL at *
  clear hLL
  generalize hGG : ghostOf s1.heap _ = G0 at *
  clear hGG
  walk1
  refine For_own ?_
  walk_at "mine to iter"
  with_reducible rename Fr _ _ _ _ => hF9
  with_reducible rename News _ _ _ _ => hN9
  with_reducible rename Below _ _ _ _ => hB9
  with_reducible rename Frag.In _ _ => hX9
  with_reducible rename Top _ _ _ _ _ _ => hT9
  with_reducible rename Heap.IsList _ _ _ => hS9
  have hbe : KBw.bInts (#[] : Array UInt8) = [] := rfl
  have hit : ∀ (i : Nat) v, (itemsOf hN9)[i]? = some v → TupOk v (lawRest hN9) := by
    intro i v hv
    match i, hv with
    | 0, hv => cases hv; exact ⟨_, _, _, _, _, _, _, _, _, _, rfl, by walk_at "mine at", by walk_at "mine at", by decide, by decide, by decide, by decide, by decide⟩
    | 1, hv => cases hv; exact ⟨_, _, _, _, _, _, _, _, _, _, rfl, by walk_at "mine at", by walk_at "mine at", by decide, by decide, by decide, by decide, by decide⟩
    | 2, hv => cases hv; exact ⟨_, _, _, _, _, _, _, _, _, _, rfl, by walk_at "mine at", by walk_at "mine at", by decide, by decide, by decide, by decide, by decide⟩
    | 3, hv => cases hv; exact ⟨_, _, _, _, _, _, _, _, _, _, rfl, by walk_at "mine at", by walk_at "mine at", by decide, by decide, by decide, by decide, by decide⟩
    | i + 4, hv => simp at hv
  have hN8 : News _ _ _ ((LL + 1 + 1, _) :: (LL + 1, _) :: (436, tabObj #[]) :: ([] ++ lawRest hN9)) := cb_drop hN9 (by walk_at "mine allat")
  have hb1 : ∀ p ∈ lawRest hN9, p.1 ≠ 436 := by walk_at "mine allne"
  have hb2 : ∀ p ∈ lawRest hN9, p.1 ≠ LL + 1 + 1 := by walk_at "mine allne"
  have hb3 : ∀ p ∈ lawRest hN9, p.1 ≠ LL + 1 := by walk_at "mine allne"
  have m424 : (424, tabObj #[]) ∈ lawRest hN9 := by walk_at "mine at"
  have m417 : (417, tabObj #[]) ∈ lawRest hN9 := by walk_at "mine at"
  have m431 : (431, tabObj #[]) ∈ lawRest hN9 := by walk_at "mine at"
  have mls : (_, W.listOf (itemsOf hN9) 0) ∈ lawRest hN9 := List.mem_cons_self
  generalize lawRest hN9 = rest at *
  generalize itemsOf hN9 = items at *
  clear hN9
  k_dflt (refine' own_listQ (items := items) (kk := 0) (GG (List.filterMap (fun x => x.frame) ([] : List Env)) _ _ _ _ _ _ _ _ _ _ _ (LawW (LL + 1 + 1) (LL + 1) rest)) ?hL rfl hF9 hN8 ⟨KtsTurn.refl, hB9, hX9, hT9, (fun b hb => nomatch hb), rfl, ?h0⟩ ?hG ?step ?fin)
  case hL => exact rfl
  case h0 => exact ⟨_, _, _, _, [], _, rfl, by with_reducible assumption, by with_reducible assumption, .fresh, hb1, hb2, hb3⟩
  case hG => rintro i g m nw ⟨_, _, _, _, _, _, X⟩; exact X.mem mls
  case step =>
    intro QQ EE I oI i g m' nw h tk v hi hv GX off hIt F1 N1 hret
    revert off F1 N1
    refine GGW.elim (C := fun m nw => (∀ p ∈ nw, p.1 ≠ I) → Fr _ _ _ m → News _ _ _ ((I, oI) :: nw) → _) GX ?_
    clear GX nw m'
    intro W1 B1 X1 T1 D1 cs1 v1 cs2 v2 add o6 hc1 hc2 hT6 hr6 hr1 hr2 off F1 N1
    clear hI hb1 hb2 hb3 m424 m417 m431 mls
    refine TupOk.elim (C := fun v => wpAny _ _ (assign _ _ v) _ _ _) (hit i v hv) ?_
    clear hv v
    intro T P p q c t1 t2 t3 k1 k2 mT mP hp hq hc hc9 hdue
    have mT' := List.mem_append_right add mT
    have mP' := List.mem_append_right add mP
    have hIa : @Ne Nat I _ := Ne.symm (off _ List.mem_cons_self)
    have hIb : @Ne Nat I _ := Ne.symm (off _ (List.mem_cons_of_mem _ List.mem_cons_self))
    have hIc : @Ne Nat I _ := Ne.symm (off _ (List.mem_cons_of_mem _ (List.mem_cons_of_mem _ List.mem_cons_self)))
    have offr := fun p hp => off p (List.mem_cons_of_mem _ (List.mem_cons_of_mem _ (List.mem_cons_of_mem _ hp)))
    (try dsimp only at hIa hIb hIc)
    generalize hre : add ++ rest = r at *
    have hTI : @Ne Nat T I := offr _ mT'
    have hPI : @Ne Nat P I := offr _ mP'
    have hT6' : @Ne Nat T 436 := hr6 _ mT'
    have hP6' : @Ne Nat P 436 := hr6 _ mP'
    have hT1' : @Ne Nat T _ := hr1 _ mT'
    have hP1' : @Ne Nat P _ := hr1 _ mP'
    have hT2' : @Ne Nat T _ := hr2 _ mT'
    have hP2' : @Ne Nat P _ := hr2 _ mP'
    have N2 : News _ _ _ ((I, oI) :: (_, cs1) :: (_, cs2) :: (436, o6) :: tupAt T #[.ref P, .int c t3] k1 :: tupAt P #[.int p t1, .int q t2] k2 :: r) := cb_drop N1 (List.forall_mem_cons.mpr ⟨by walk_at "mine at", List.forall_mem_cons.mpr ⟨by walk_at "mine at", List.forall_mem_cons.mpr ⟨by walk_at "mine at", List.forall_mem_cons.mpr ⟨by walk_at "mine at", List.forall_mem_cons.mpr ⟨List.mem_cons_of_mem _ (List.mem_cons_of_mem _ (List.mem_cons_of_mem _ (List.mem_cons_of_mem _ mT'))), List.forall_mem_cons.mpr ⟨List.mem_cons_of_mem _ (List.mem_cons_of_mem _ (List.mem_cons_of_mem _ (List.mem_cons_of_mem _ mP'))), fun q hq => List.mem_cons_of_mem _ (List.mem_cons_of_mem _ (List.mem_cons_of_mem _ (List.mem_cons_of_mem _ hq)))⟩⟩⟩⟩⟩⟩)
    clear N1 hN8 off hS9 hit hs hlen left right hg mT mP
    walk_at "mine codes"
    walk_at "mine to 401"
    walk_at "mine size2"
    k_steps
    with_reducible rename (_ : Obj).data = Data.cell (some (Value.ref _)) => d1
    with_reducible rename (_ : Obj).data = Data.cell (some (Value.int _ _)) => d2
    subst hre
    refine Exists.elim (lam_acc2 hlo d1' d2') fun add2 hh => ?_
    refine' hret _ _ _ _ _ (by with_reducible assumption) (cb_drop (by with_reducible assumption) ?sub) ?off ⟨W1.trans (by with_reducible assumption), by with_reducible assumption, by with_reducible assumption, by with_reducible assumption, by with_reducible assumption, rfl, _, _, _, _, add2, _, rfl, d1, d2, hh.2.1, ?e1, ?e2, ?e3⟩
    case sub => exact List.forall_mem_cons.mpr ⟨by walk_at "mine me", List.forall_mem_cons.mpr ⟨by walk_at "mine me", List.forall_mem_cons.mpr ⟨by walk_at "mine me", List.forall_mem_cons.mpr ⟨by walk_at "mine me", acc_sub hh.1 (by walk_at "mine me") (by walk_at "mine sk")⟩⟩⟩⟩
    case off => exact List.forall_mem_cons.mpr ⟨Ne.symm hIa, List.forall_mem_cons.mpr ⟨Ne.symm hIb, List.forall_mem_cons.mpr ⟨Ne.symm hIc, acc_ne hh.2.2 (by walk_at "mine me") offr⟩⟩⟩
    case e1 => exact acc_ne hh.2.2 (by walk_at "mine me") hr6
    case e2 => exact acc_ne hh.2.2 (by walk_at "mine me") hr1
    case e3 => exact acc_ne hh.2.2 (by walk_at "mine me") hr2
  case fin =>
    intro g m' nw h tk GX
    refine GGW.elim (C := fun m nw => Fr _ _ _ m → News _ _ _ nw → _) GX ?_
    clear GX nw m'
    intro W1 B1 X1 T1 D1 cs1 v1 cs2 v2 add o6 hc1 hc2 hT6 hr6 hr1 hr2 F1 N1
    revert N1
    refine tab_elim (C := fun o => News _ _ _ (_ :: _ :: (436, o) :: _) → _) hT6 ?_
    clear hT6 o6
    intro ps N1
    have N2 : News _ _ _ ((_, cs1) :: (_, cs2) :: (424, tabObj #[]) :: (417, tabObj #[]) :: (431, tabObj #[]) :: (436, tabObj ps) :: []) := cb_drop N1 (List.forall_mem_cons.mpr ⟨by walk_at "mine at", List.forall_mem_cons.mpr ⟨by walk_at "mine at", List.forall_mem_cons.mpr ⟨List.mem_cons_of_mem _ (List.mem_cons_of_mem _ (List.mem_cons_of_mem _ (List.mem_append_right _ m424))), List.forall_mem_cons.mpr ⟨List.mem_cons_of_mem _ (List.mem_cons_of_mem _ (List.mem_cons_of_mem _ (List.mem_append_right _ m417))), List.forall_mem_cons.mpr ⟨List.mem_cons_of_mem _ (List.mem_cons_of_mem _ (List.mem_cons_of_mem _ (List.mem_append_right _ m431))), List.forall_mem_cons.mpr ⟨by walk_at "mine at", fun _ hq => nomatch hq⟩⟩⟩⟩⟩⟩)
    have hS1 : g.IsList sc xs.toArray := hS9.at fun o e => B1.stays _ _ e
    have hil := hI.length
    clear N1 hr6 hr1 hr2 hN8 hit left right hF9 hbe
    walk1
    refine For_own ?_
    walk_at "mine to iter"
    with_reducible rename IsRange _ _ _ _ _ _ _ _ => hrg
    with_reducible rename News _ _ _ _ => N4
    have hb := bound3 ns.length
    with_reducible rename Fr _ _ _ _ => F4
    k_dflt (refine' own_rangeQ (n := _) (GH (List.filterMap (fun x => x.frame) ([] : List Env)) _ _ _ _ _ _ _ _ _ _ (fun m => m (Str.ofString "script") = some (.ref sc)) (LawZ (LL + 1 + 1) (LL + 1) (tabObj ps))) ?hL rfl hrg rfl ?hsm ?hn F4 N4 ⟨KtsTurn.refl, B1, X1, T1, D1, rfl, ?h0⟩ ?step2 ?fin2)
    case hL => exact rfl
    case hsm => exact small_one (by omega) (by omega) (by omega) (by omega)
    case hn => rw [rangeSize_nat, Int.sub_zero]
    case h0 => exact ⟨_, _, _, _, _, _, _, [], rfl, hc1, hc2, .fresh, .fresh, .fresh, fun _ hq => nomatch hq⟩
    case fin2 =>
      intro g' m' nw h tk GX
      refine GHZ.elimT (C := fun nw => Fr _ _ _ m' → News _ _ _ nw → _) GX ?_
      clear GX nw
      intro W2 B2 X2 T2 D2 hm cs1' v1' cs2' v2' p4 p7 p1 add hc1' hc2' F2 N5
      have F0 : Fr G0 LL h m' := ⟨F2.ns, fun b o e => F2.keep b o (B2.stays b o e), by have z := F2.above; rw [(W1.trans W2).size] at z; exact z⟩
      repeat (with_reducible (fail_if_success show _ ∧ _); (try dsimp only); walk1)
      refine ⟨?_, ?_⟩
      · refine goodW_bool F0 hg (raisesW_false ?_) ?_
        · wrow_none_raised
        · kc_post
      · walk_at "GrownAll"
    case step2 =>
      clear hrg N4 F4 F1
      repeat (with_reducible rename Fr _ _ _ _ => zz; clear zz)
      repeat (with_reducible rename News _ _ _ _ => zz; clear zz)
      repeat (with_reducible rename KtsTurn _ _ _ => zz; clear zz)
      clear B1 X1 T1 D1 hc1 hc2 hS1
      intro QQ EE I i g' m' nw h tk t hi GX off F2 N5 hret
      revert off N5
      refine GHZ.elim (C := fun nw => (∀ p ∈ nw, p.1 ≠ I) → News _ _ _ ((I, _) :: nw) → _) GX ?_
      clear GX nw
      intro W2 B2 X2 T2 D2 hm cs1' v1' cs2' v2' o4 o7 o1 add hc1' hc2' hT4 hT7 hT1 hadd off N5
      have hadd1 : ∀ p ∈ add, p.1 ≠ LL + 1 + 1 := fun p hp => (hadd p hp).2.1
      have hadd2 : ∀ p ∈ add, p.1 ≠ LL + 1 := fun p hp => (hadd p hp).2.2
      have hIc1 : @Ne Nat I _ := Ne.symm (off _ List.mem_cons_self)
      have hIc2 : @Ne Nat I _ := Ne.symm (off _ (List.mem_cons_of_mem _ List.mem_cons_self))
      (try dsimp only at hIc1 hIc2)
      walk_at "mine to 380"
      all_goals (try (first | exact (PySem.Str.ofString "x") | exact (0 : Addr) | exact Value.none))
      any_goals refine' pool_sp w sc xs ns hI ?hl63 _ _ ?hk0 ?hk2 _ _ _ _ _ _ _ _ _ _ _ _ _ _ _ _ _ _ _ _ _ _ _ ?k1 ?k2 ?k3 ?k4 ?k5 ?kK ?kd ?ku ?klst ?_
      walk_at "mine side"
      case hl63 => omega
      case hk0 => omega
      case hk2 => omega
      case klst => exact hS9
      refine o_21 ?_; intro src sn sa sb su1 su2 h9 tk9 F9 N9 sa0 sb0 sb1 slt
      (try dsimp only)
      walk_at "mine to 415"
      any_goals refine' drawn_sp w src _ _ _ _ _ _ sa0 sb0 sb1 ?hne _ _ _ _ _ _ _ _ _ _ _ _ _ _ _ _ _ _ _ _ _ _ ?k1 ?k2 ?k3 ?k4 ?k5 ?kK ?kd ?ku ?_
      walk_at "mine side"
      case hne => exact fun p hp => Nat.ne_of_lt (slt p hp)
      refine o_22 ?_; intro T P pp qq cc w1 w2 w3 j1 j2 da db dv1 dv2 dn h8 tk8 F8 N8 pp0 pp1 qq0 qq1 cc0 cc1 da0 db0 db1 lsP lPT lnP
      clear pp1 qq1
      have lc1 : @LT.lt Nat _ _ src := slt _ (List.mem_cons_of_mem _ List.mem_cons_self)
      have lc2 : @LT.lt Nat _ _ src := slt _ (List.mem_cons_of_mem _ (List.mem_cons_of_mem _ List.mem_cons_self))
      (try dsimp only at lc1 lc2)
      (try dsimp only)
      walk_at "mine to 434"
      have sI : @LT.lt Nat _ I src := slt _ (mem_at 0 rfl)
      have s436 : @LT.lt Nat _ 436 src := slt (436, _) (mem_at 6 rfl)
      have hI4 : @Ne Nat 424 I := off (424, _) (mem_at 2 rfl)
      have hI7 : @Ne Nat 417 I := off (417, _) (mem_at 3 rfl)
      have hI1 : @Ne Nat 431 I := off (431, _) (mem_at 4 rfl)
      have hI6 : @Ne Nat 436 I := off (436, _) (mem_at 5 rfl)
      have haI : ∀ p ∈ add, p.1 ≠ I := fun p hp => off p (mem_dp 6 rfl hp)
      have has : ∀ p ∈ add, p.1 ≠ src := fun p hp => Nat.ne_of_lt (slt p (mem_dp 7 rfl hp))
      clear slt off lnP
      refine' (SpecT.sub (head_u w src P dn j2 da db pp qq cc _ _ _ _ _ o4 o7 o1 ((I, _) :: (LL + 1 + 1, _) :: (LL + 1, _) :: (436, tabObj ps) :: add) da0 db0 db1 pp0 qq0 cc0 ?hc9 s436 (Nat.lt_trans s436 lsP) (Nat.ne_of_gt lsP) ?hn1 ?hn2 ?hn3 ?hn4 ?hT4 ?hT7 ?hT1) ?sub) _ _ _ _ _ _ _ _ _ _ _ _ _ _ _ _ _ _ _ _ _ _ ?k1 ?k2 ?k3 ?k4 ?k5 ?kK ?kd ?ku ?kXB ?kTB ?kD ?_
      walk_at "mine side"
      case sub => exact small9
      case hc9 => omega
      case hn1 => exact List.forall_mem_cons.mpr ⟨by k_ne, List.forall_mem_cons.mpr ⟨by k_ne, List.forall_mem_cons.mpr ⟨by k_ne, List.forall_mem_cons.mpr ⟨by k_ne, has⟩⟩⟩⟩
      case hn2 => exact List.forall_mem_cons.mpr ⟨by k_ne, List.forall_mem_cons.mpr ⟨by k_ne, List.forall_mem_cons.mpr ⟨by k_ne, List.forall_mem_cons.mpr ⟨by k_ne, fun p hp => Nat.ne_of_gt (Nat.lt_trans (by decide) (hadd p hp).1)⟩⟩⟩⟩
      case hn3 => exact List.forall_mem_cons.mpr ⟨by k_ne, List.forall_mem_cons.mpr ⟨by k_ne, List.forall_mem_cons.mpr ⟨by k_ne, List.forall_mem_cons.mpr ⟨by k_ne, fun p hp => Nat.ne_of_gt (Nat.lt_trans (by decide) (hadd p hp).1)⟩⟩⟩⟩
      case hn4 => exact List.forall_mem_cons.mpr ⟨by k_ne, List.forall_mem_cons.mpr ⟨by k_ne, List.forall_mem_cons.mpr ⟨by k_ne, List.forall_mem_cons.mpr ⟨by k_ne, fun p hp => Nat.ne_of_gt (Nat.lt_trans (by decide) (hadd p hp).1)⟩⟩⟩⟩
      case hT4 => exact hT4.mono fun q hq => mem_dp 4 rfl hq
      case hT7 => exact hT7.mono fun q hq => mem_dp 4 rfl hq
      case hT1 => exact hT1.mono fun q hq => mem_dp 4 rfl hq
      case kXB => with_reducible assumption
      case kTB => with_reducible assumption
      case kD => with_reducible assumption
      refine o_23 ?_; intro a7 b7 v71 v72 n7 o4' o7' o1' add7 h7 tk7 g7 W7 B7 F7 X7 N7 T7 D7 a70 b70 b71 t47 t77 t17 ok7
      have N6 := cb_drop N7 regroup
      clear N7
      have hA := head_adds ok7 mp1 mp2 mp0 fun p hp => ⟨(hadd p hp).1, (hadd p hp).2.1, (hadd p hp).2.2, haI p hp⟩
      have hs7 := add_src ok7 has
      have hU4 := tab_app t47 hT4 fun z hz => hz
      have hU7 := tab_app t77 hT7 fun z hz => hz
      have hU1 := tab_app t17 hT1 fun z hz => hz
      clear hadd hadd1 hadd2 haI has ok7 t47 t77 t17 hT4 hT7 hT1
      generalize add7 ++ add = r7 at *
      walk_at "mine to 434"
      refine' (SpecT.sub (head_u w src _ n7 _ a7 b7 170 170 3 _ _ _ _ _ o4' o7' o1' ((I, _) :: (LL + 1 + 1, _) :: (LL + 1, _) :: (436, tabObj ps) :: r7) a70 b70 b71 (by decide) (by decide) (by decide) (by decide) s436 ?hP ?hPs ?hn1 ?hn2 ?hn3 ?hn4 ?hT4 ?hT7 ?hT1) ?sub) _ _ _ _ _ _ _ _ _ _ _ _ _ _ _ _ _ _ _ _ _ _ ?k1 ?k2 ?k3 ?k4 ?k5 ?kK ?kd ?ku ?kXB ?kTB ?kD ?_
      walk_at "mine side"
      case sub => exact small9b
      case hP => walk_at "mine lt"
      case hPs => k_ne
      case hn1 => exact List.forall_mem_cons.mpr ⟨by k_ne, List.forall_mem_cons.mpr ⟨by k_ne, List.forall_mem_cons.mpr ⟨by k_ne, List.forall_mem_cons.mpr ⟨by k_ne, hs7⟩⟩⟩⟩
      case hn2 => exact List.forall_mem_cons.mpr ⟨by k_ne, List.forall_mem_cons.mpr ⟨by k_ne, List.forall_mem_cons.mpr ⟨by k_ne, List.forall_mem_cons.mpr ⟨by k_ne, fun p hp => Nat.ne_of_gt (Nat.lt_trans (by decide) (hA p hp).1)⟩⟩⟩⟩
      case hn3 => exact List.forall_mem_cons.mpr ⟨by k_ne, List.forall_mem_cons.mpr ⟨by k_ne, List.forall_mem_cons.mpr ⟨by k_ne, List.forall_mem_cons.mpr ⟨by k_ne, fun p hp => Nat.ne_of_gt (Nat.lt_trans (by decide) (hA p hp).1)⟩⟩⟩⟩
      case hn4 => exact List.forall_mem_cons.mpr ⟨by k_ne, List.forall_mem_cons.mpr ⟨by k_ne, List.forall_mem_cons.mpr ⟨by k_ne, List.forall_mem_cons.mpr ⟨by k_ne, fun p hp => Nat.ne_of_gt (Nat.lt_trans (by decide) (hA p hp).1)⟩⟩⟩⟩
      case hT4 => exact hU4.mono fun q hq => mem_dp 4 rfl hq
      case hT7 => exact hU7.mono fun q hq => mem_dp 4 rfl hq
      case hT1 => exact hU1.mono fun q hq => mem_dp 4 rfl hq
      case kXB => with_reducible assumption
      case kTB => with_reducible assumption
      case kD => with_reducible assumption
      clear a70 b70 b71
      refine o_23 ?_; intro a8 b8 v81 v82 n8 o4'' o7'' o1'' add8 h8 tk8 g8 W8 B8 F8 X8 N8 T8 D8 a70 b70 b71 t47 t77 t17 ok7
      have N6 := cb_drop N8 regroupE
      clear N8
      have hA8 := head_adds ok7 mp1 mp2 mp0 hA
      have hV4 := tab_app t47 hU4 fun z hz => hz
      have hV7 := tab_app t77 hU7 fun z hz => hz
      have hV1 := tab_app t17 hU1 fun z hz => hz
      clear hA hs7 ok7 t47 t77 t17 hU4 hU7 hU1
      generalize add8 ++ r7 = r8 at *
      repeat ((try dsimp only); walk1)
      refine' hret _ _ _ _ _ F8 N6 ?off ⟨W2.trans (W7.trans W8), by with_reducible assumption, by with_reducible assumption, by with_reducible assumption, by with_reducible assumption, ?hm2, _, _, _, _, _, _, _, _, rfl, ?d1, ?d2, hV4, hV7, hV1, fun p hp => ⟨(hA8 p hp).1, (hA8 p hp).2.1, (hA8 p hp).2.2.1⟩⟩
      case hm2 => exact map_script hm
      case d1 => assumption
      case d2 => assumption
      case off => exact List.forall_mem_cons.mpr ⟨by k_ne, List.forall_mem_cons.mpr ⟨by k_ne, List.forall_mem_cons.mpr ⟨by k_ne, List.forall_mem_cons.mpr ⟨by k_ne, List.forall_mem_cons.mpr ⟨by k_ne, List.forall_mem_cons.mpr ⟨by k_ne, fun p hp => (hA8 p hp).2.2.2⟩⟩⟩⟩⟩⟩)
end
end
end
end
end
theorem kw_36 : True := by
  k_with_none
  k_with "mine kenter" => (k_dflt (first
  | (refine' code_def ?k1 ?k2 ?k3 ?k4 ?k5 ?qzkA ?qzkF ?kK ?qzk6 ?qzk7 ?qzk8 ?qzk9 ?qzkB ?_ ?qzc2 ?qzc3 ?qzc4 ?qzc5; (case qzkA => exact rfl); (case qzkF => exact rfl); (case kK => assumption); (case k1 => k_asm); (case k2 => k_asm); (case k3 => k_asm); (case k4 => k_asm); (case k5 => k_asm); (case qzk6 => k_is); (case qzk7 => k_is); (case qzk8 => ktr_room); (case qzk9 => first | exact BindsTo.of_eq rfl | exact binds_K (by k_in) rfl (by k_is) rfl rfl rfl); (case qzc5 => decide); (case qzkB => exact locs rfl); (case qzc2 => exact rfl); (case qzc3 => exact rfl); (case qzc4 => exact rfl); k_whole; intro g' L' h' FG' F' N' B' X' T'; (try dsimp only); (try k_lift B'); (try k_fold))
  | (refine' code_defC ?k1 ?k2 ?k3 ?k4 ?k5 ?qzkA ?qzkF ?kK ?qzk6 ?qzk7 ?qzk8 ?qzk9 ?qzkB ?qzkD ?_ ?qzc2 ?qzc3 ?qzc4; (case qzkA => exact rfl); (case qzkF => exact rfl); (case kK => assumption); (case k1 => k_asm); (case k2 => k_asm); (case k3 => k_asm); (case k4 => k_asm); (case k5 => k_asm); (case qzk6 => k_is); (case qzk7 => k_is); (case qzk8 => ktr_room); (case qzk9 => first | exact BindsTo.of_eq rfl | exact binds_K (by k_in) rfl (by k_is) rfl rfl rfl); (case qzkB => exact rfl); (case qzkD => decide +kernel); (case qzc2 => exact rfl); (case qzc3 => exact rfl); (case qzc4 => exact rfl); k_whole; intro g' L' h' tk' cells' FG' F' N' Y' B' X' T' l1; (try k_lt l1); k_cells Y'; (try simp only [List.cons_append, List.nil_append] at N'); (try dsimp only); (try k_lift B'); (try k_fold))))
  k_with "mine enter" => ((refine wpAny_call ?_; k_dflt (first
  | (refine' code_def ?k1 ?k2 ?k3 ?k4 ?k5 ?qzkA ?qzkF ?kK ?qzk6 ?qzk7 ?qzk8 ?qzk9 ?qzkB ?_ ?qzc2 ?qzc3 ?qzc4 ?qzc5; (case qzkA => exact rfl); (case qzkF => exact rfl); (case kK => assumption); (case k1 => k_asm); (case k2 => k_asm); (case k3 => k_asm); (case k4 => k_asm); (case k5 => k_asm); (case qzk6 => k_is); (case qzk7 => k_is); (case qzk8 => ktr_room); (case qzk9 => first | exact BindsTo.of_eq rfl | exact binds_K (by k_in) rfl (by k_is) rfl rfl rfl); (case qzc5 => decide); (case qzkB => exact locs rfl); (case qzc2 => exact rfl); (case qzc3 => exact rfl); (case qzc4 => exact rfl); k_whole; intro g' L' h' FG' F' N' B' X' T'; (try dsimp only); (try k_lift B'); (try k_fold))
  | (refine' code_defC ?k1 ?k2 ?k3 ?k4 ?k5 ?qzkA ?qzkF ?kK ?qzk6 ?qzk7 ?qzk8 ?qzk9 ?qzkB ?qzkD ?_ ?qzc2 ?qzc3 ?qzc4; (case qzkA => exact rfl); (case qzkF => exact rfl); (case kK => assumption); (case k1 => k_asm); (case k2 => k_asm); (case k3 => k_asm); (case k4 => k_asm); (case k5 => k_asm); (case qzk6 => k_is); (case qzk7 => k_is); (case qzk8 => ktr_room); (case qzk9 => first | exact BindsTo.of_eq rfl | exact binds_K (by k_in) rfl (by k_is) rfl rfl rfl); (case qzkB => exact rfl); (case qzkD => decide +kernel); (case qzc2 => exact rfl); (case qzc3 => exact rfl); (case qzc4 => exact rfl); k_whole; intro g' L' h' tk' cells' FG' F' N' Y' B' X' T' l1; (try k_lt l1); k_cells Y'; (try simp only [List.cons_append, List.nil_append] at N'); (try dsimp only); (try k_lift B'); (try k_fold)))))
  k_with "mine side" => (((case k1 => k_asm); (case k2 => k_asm); (case k3 => k_asm); (case k4 => k_asm); (case k5 => k_asm); (case kK => first | exact rfl | assumption); (case kd => ktr_room); (case ku => ktr_units)))
  k_with "mine kbabound" => (((try dsimp only); first | exact and255_lo _ | exact and255_hi _))
  k_with "mine news" => (first | k_asm | (refine cb_drop (by assumption) ?_; intro p9 hp9; (repeat (first | exact hp9 | refine List.mem_cons_of_mem _ ?_))))
  k_with "mine room" => (((with_reducible rename @LT.lt Nat _ (_ + _) recursionLimit => hq9); k_dflt (first | exact room_1 hq9 (by exact rfl) | exact room_j hq9 (by exact rfl) | exact room_0 hq9)))
  k_with "mine units" => (((with_reducible rename @LT.lt Nat _ (_ + _) cLine => hq9); k_dflt (first | exact units_1 hq9 (by exact rfl) | exact units_j hq9 (by exact rfl))))
  k_with "mine me" => (first | with_reducible exact me0 | with_reducible exact me1 | with_reducible exact me2 | with_reducible exact me3 | with_reducible exact me4 | with_reducible exact me5 | with_reducible exact me6 | with_reducible exact me7 | with_reducible exact me8 | with_reducible exact me9 | with_reducible exact me10 | with_reducible exact me11 | with_reducible exact me12 | with_reducible exact me13 | with_reducible exact me14 | with_reducible exact me15 | with_reducible exact me16 | with_reducible exact me17 | with_reducible exact me18 | with_reducible assumption | k_mem)
  k_with "mine ltall" => (((repeat ((with_reducible rename (∀ p ∈ _, Prod.fst p < _) => h7); replace h7 := allLt_of h7; simp only [AllLt, and_true] at h7))))
  k_with "mine kne" => ((refine neN ?_; (try dsimp only); first | with_reducible assumption | decide | exact Nat.ne_of_gt (by with_reducible assumption) | exact Nat.ne_of_lt (by with_reducible assumption) | exact ne_l (by with_reducible assumption) (by walk_at "mine me") | exact ne_r (by with_reducible assumption) (by walk_at "mine me") | exact ne_l2 (by with_reducible assumption) (by with_reducible assumption) (by walk_at "mine me") | exact ne_r2 (by with_reducible assumption) (by with_reducible assumption) (by walk_at "mine me") | exact ne_l1 (by with_reducible assumption) (by walk_at "mine me") | exact ne_r1 (by with_reducible assumption) (by walk_at "mine me") | exact ne_l11 (by with_reducible assumption) (by walk_at "mine me") | exact ne_r11 (by with_reducible assumption) (by walk_at "mine me") | exact ne_s1 | exact ne_s2 | exact ne_b1 (by with_reducible assumption) rfl | exact ne_b2 (by with_reducible assumption) rfl | exact Ne.symm (by with_reducible assumption) | (trace_state; walk_at "mine ltall"; omega)))
  k_with "mine sk" => (first | with_reducible exact sk0 | with_reducible exact sk1 | with_reducible exact sk2 | with_reducible exact sk3 | with_reducible exact sk4 | with_reducible exact sk5 | with_reducible exact sk6 | with_reducible exact sk7 | with_reducible exact sk8 | with_reducible exact sk9 | with_reducible exact sk10 | with_reducible exact sk11 | with_reducible exact sk12 | with_reducible exact sk13 | with_reducible exact sk14 | with_reducible exact sk15 | with_reducible exact sk16 | with_reducible exact sk17 | with_reducible exact sk18)
  k_with "mine kall" => (first | with_reducible assumption | exact all_l (by with_reducible assumption) (by walk_at "mine sk") | exact all_l2 (by with_reducible assumption) (by with_reducible assumption) (by walk_at "mine sk") | exact all_l1 (by with_reducible assumption) (by walk_at "mine sk") | exact all_l11 (by with_reducible assumption) (by walk_at "mine sk") | (with_reducible exact List.forall_mem_nil _) | (refine' List.forall_mem_cons.mpr ⟨?qza, ?qzb⟩; (case qza => k_ne); (case qzb => k_all)) | (trace_state; exact all_ne (by assumption) (by walk_at "mine ltall"; omega)))
  k_with "mine lt" => (first | with_reducible assumption | exact lt_t0 (by with_reducible assumption) (by walk_at "mine me") | exact lt_t1 (by with_reducible assumption) (by with_reducible assumption) (by walk_at "mine me") | exact lt_t2 (by with_reducible assumption) (by with_reducible assumption) (by with_reducible assumption) (by walk_at "mine me") | (trace_state; walk_at "mine ltall"; omega))
  k_with "exec Raise some none" => ((k_here; (with_reducible show wpAny _ _ (exec (Stmt.Raise (some (Expr.Call (Expr.Name ("SizeError" : Str) _) _ [] _)) none _) _) _ _ _); refine' raise56 ?k1 ?k2 ?_; (case k1 => k_asm); (case k2 => k_dflt (exact rfl))))
  k_with "exec Raise some none" => ((k_here; (with_reducible show wpAny _ _ (exec (Stmt.Raise (some (Expr.Call (Expr.Name ("FormError" : Str) _) _ [] _)) none _) _) _ _ _); refine' raise44 ?k1 ?k2 ?_; (case k1 => k_asm); (case k2 => k_dflt (exact rfl))))
  k_with "call ref" => ((k_here; (first | (with_reducible show wpAny _ _ (call (Value.ref 56) [Value.str _ _]) _ _ _) | (with_reducible show wpAny _ _ (call (Value.ref 44) [Value.str _ _]) _ _ _)); k_dflt (refine' exc_call_sp _ _ _ _ _ ?qzhC _ _ _ _ _ _ _ _ _ _ _ _ _ _ _ _ _ _ _ _ _ _ ?k1 ?k2 ?k3 ?k4 ?k5 ?kK ?kd ?ku ?_; (case qzhC => decide); walk_at "mine side"); intro v9 nx9 h9 tk9 F9 N9 r9; obtain ⟨e9, d9, t9, q9, f9, n9⟩ := r9; subst q9; rw [f9] at N9; clear f9; (try dsimp only); (try k_fold)))
  k_with "RaiseEnd" => ((k_here; refine' RaiseEnd.intro ?k1 ?k2 ?k3 ?_; (case k1 => k_asm); (case k2 => k_asm); (case k3 => k_asm); (try dsimp only)))
  k_with "leaving ref" => ((k_here; refine' leave_mine ?k1 ?k2 ?k3 ?k4 ?k5 ?qzk6 ?_; (case k1 => k_asm); (case k2 => k_asm); (case k3 => k_asm); (case k4 => assumption); (case k5 => k_dflt (exact rfl)); (case qzk6 => k_dflt (exact rfl)); intro h' R' U'; (try dsimp only)))
  k_with "call type:bytes" => ((k_here; (with_reducible show wpAny _ _ (call (Value.type "bytes") [Value.bytes _ _]) _ _ _); with_reducible refine call_bytes_bytes ?_))
  k_with "call type:bytes" => ((k_here; (with_reducible show wpAny _ _ (call (Value.type "bytes") [Value.int _ _]) _ _ _); (refine' call_bytes_zeros ?k1 ?k2 ?_; (case k1 => omega); (case k2 => omega); intro c9 zs9 u9 k9 b9 z9 n9; (try dsimp only))))
  k_with "call type:bytes" => ((k_here; (with_reducible show wpAny _ _ (call (Value.type "bytes") [Value.ref _]) _ _ _); k_dflt (refine' KBa.make_K ?qzkbaF ?qzkbaN ?qzkbah ?qzkbal ?qzkbai ?qzkbar ?qzkban ?_; (case qzkbaF => k_asm); (case qzkbaN => k_asm); (case qzkbah => rfl); (case qzkbal => kba_isList); (case qzkbai => kba_listInts); (case qzkbar => walk_at "mine in"); (case qzkban => kba_size)); intro _ _ _ F' N' kbaIn))
  k_with "mine in" => (first | exact in_one (by omega) (by omega) | (refine in_cons (by omega) (by omega) ?_; walk_at "mine in"; done) | exact in_nil | kba_in)
  k_with "mine sub" => ((repeat (first | exact sub_refl | refine sub_keep ?_ | refine sub_skip ?_)))
  k_with "mine raised" => (first | (intro q9 hq9; (repeat (first | exact hq9 | refine List.mem_cons_of_mem _ ?_)); done) | (walk_at "mine sub"; done))
  k_with "mine news" => (first | k_asm | (refine cb_drop (by assumption) ?_; first | (intro p9 hp9; (repeat (first | exact hp9 | refine List.mem_cons_of_mem _ ?_)); done) | (walk_at "mine sub"; done)))
  k_with "mine absurd" => (first | (exfalso; omega) | (exfalso; (rename ((_ && _ : Bool) = _) => hx9); (simp only [Bool.and_eq_true, Bool.and_eq_false_iff, beq_iff_eq, beq_eq_false_iff_ne, ne_eq] at hx9); omega))
  k_with "compareOp In int ref" => ((k_here; (with_reducible show wpAny _ _ (compareOp CmpOp.In (Value.int _ _) (Value.ref 206)) _ _ _); first | (refine' in206_t ?k1 ?k2 ?k3 ?_; (case k1 => k_asm); (case k2 => k_asm); (case k3 => omega)) | (refine' in206_f ?k1 ?k2 ?k3 ?_; (case k1 => k_asm); (case k2 => k_asm); (case k3 => omega))))
  k_with "compareOp NotIn int ref" => ((k_here; (with_reducible show wpAny _ _ (compareOp CmpOp.NotIn (Value.int _ _) (Value.ref 206)) _ _ _); refine' notin206_t ?k1 ?k2 ?k3 ?_; (case k1 => k_asm); (case k2 => k_asm); (case k3 => omega)))
  k_with "mine mem" => (first | assumption | (refine List.forall_mem_cons.mpr ⟨by k_mem, List.forall_mem_cons.mpr ⟨by k_mem, List.forall_mem_nil _⟩⟩))
  k_with "getMethod bytes" => ((k_here; with_reducible refine join_method ?_))
  k_with "call builtin:bytes.join" => ((k_here; (with_reducible show wpAny _ _ (call (Value.builtin "bytes.join") [Value.bytes _ _, Value.ref _]) _ _ _); k_dflt (first | (refine' call_join0 ?k1 ?_; (case k1 => kba_isList); intro u9 k9; (have j9 := ints_nil)) | (refine' call_join1 ?k1 ?_; (case k1 => kba_isList)))))
  k_with "eval ListComp" => ((k_here; (with_reducible show wpAny _ _ (eval (Expr.ListComp _ [⟨Expr.Name _ _, Expr.Attribute _ _ _, [], 0⟩] _ _) _) _ _ _); k_dflt (refine listComp_tup (by k_asm) (by with_unfolding_all rfl) (by decide) (by rfl) (by decide) (by rfl) ?_)))
  k_with "TupSrc" => ((k_here; k_dflt (refine' TupSrc.intro ?k1 ?k2 ?k3 ?k4 ?k5 ?_; (case k1 => rfl); (case k2 => k_asm); (case k3 => k_asm); (case k4 => k_mem); (case k5 => exact Nat.le_of_ble_eq_true rfl); intro g'; first | (refine rest_nil rfl ?_) | (refine rest_one rfl (fun I' oI' C' oC' D' m' h' tk' E' hC' hx' F' N' off' ne' => ?_)))))
  k_with "CompEnd" => ((k_dflt (refine' LCg.CompEnd.intro ?k1 ?k2 _ ?k3 ?k4 ?k5 ?_; (case k1 => k_asm); (case k2 => k_asm); (case k3 => exact sub_refl); (case k4 => assumption); (case k5 => k_mem); (try dsimp only))))
  k_with "mine omega" => (first | omega | (simp only [List.length_append, List.length_cons, List.length_nil] <;> omega))
  k_with "call ref" => ((k_here; (with_reducible show wpAny _ _ (call (Value.ref 160) [Value.bytes _ _]) _ _ _); k_dflt (first | (refine' crc_sp _ _ _ _ (by kba_ints) _ _ _ _ _ _ _ _ _ _ _ _ _ _ _ _ _ _ _ _ _ _ _ ?k1 ?k2 ?k3 ?k4 ?k5 ?kK ?kd ?ku ?_; walk_at "mine side"; refine o_0 ?_; intro t9 h9 tk9 F9 N9; (try dsimp only); (try k_fold)))))
  k_with "call ref" => ((k_here; (with_reducible show wpAny _ _ (call (Value.ref 170) [Value.int _ _, Value.int _ _]) _ _ _); k_dflt (first | (refine' put1_sp _ _ _ _ ?qzh0 ?qzh1 _ _ _ _ _ _ _ _ _ _ _ _ _ _ _ _ _ _ _ _ _ _ _ ?k1 ?k2 ?k3 ?k4 ?k5 ?kK ?kd ?ku ?_; (case qzh0 => walk_at "mine omega"); (case qzh1 => walk_at "mine omega"); walk_at "mine side"; refine o_1 ?_; intro c9 t9 h9 tk9 F9 N9 b9; (try dsimp only); (try k_fold)) | (refine' put1_raise _ _ _ _ ?qzh0 _ _ _ _ _ _ _ _ _ _ _ _ _ _ _ _ _ _ _ _ _ _ _ ?k1 ?k2 ?k3 ?k4 ?k5 ?kK ?kd ?ku ?_; (case qzh0 => walk_at "mine omega"); walk_at "mine side"; intro e9 G9 h9 tk9 F9 R9 U9; (try dsimp only)) | (refine' put2_sp _ _ _ _ ?qzh0 ?qzh1 _ _ _ _ _ _ _ _ _ _ _ _ _ _ _ _ _ _ _ _ _ _ _ ?k1 ?k2 ?k3 ?k4 ?k5 ?kK ?kd ?ku ?_; (case qzh0 => walk_at "mine omega"); (case qzh1 => walk_at "mine omega"); walk_at "mine side"; refine o_1 ?_; intro c9 t9 h9 tk9 F9 N9 b9; (try dsimp only); (try k_fold)) | (refine' put2_raise _ _ _ _ ?qzh0 _ _ _ _ _ _ _ _ _ _ _ _ _ _ _ _ _ _ _ _ _ _ _ ?k1 ?k2 ?k3 ?k4 ?k5 ?kK ?kd ?ku ?_; (case qzh0 => walk_at "mine omega"); walk_at "mine side"; intro e9 G9 h9 tk9 F9 R9 U9; (try dsimp only)) | (refine' put6_sp _ _ _ _ ?qzh0 ?qzh1 _ _ _ _ _ _ _ _ _ _ _ _ _ _ _ _ _ _ _ _ _ _ _ ?k1 ?k2 ?k3 ?k4 ?k5 ?kK ?kd ?ku ?_; (case qzh0 => walk_at "mine omega"); (case qzh1 => walk_at "mine omega"); walk_at "mine side"; refine o_1 ?_; intro c9 t9 h9 tk9 F9 N9 b9; (try dsimp only); (try k_fold)))))
  k_with "call ref" => ((k_here; (with_reducible show wpAny _ _ (call (Value.ref 177) [Value.bytes _ _, Value.int _ _, Value.int _ _]) _ _ _); k_dflt (first | (refine' get1v _ _ _ _ (by kba_ints) ?qzh0 _ _ _ ?qzh1 ?qzh2 _ _ _ _ _ _ _ _ _ _ _ _ _ _ _ _ _ _ _ _ _ _ _ ?k1 ?k2 ?k3 ?k4 ?k5 ?kK ?kd ?ku ?_; (case qzh0 => walk_at "mine omega"); (case qzh1 => walk_at "mine omega"); (case qzh2 => walk_at "mine omega"); walk_at "mine side"; refine o_2 ?_; intro t9 h9 tk9 F9 N9 lo9 hi9; (try dsimp only); (try k_fold)) | (refine' get3v _ _ _ _ (by kba_ints) ?qzh0 _ _ _ ?qzh1 ?qzh2 _ _ _ _ _ _ _ _ _ _ _ _ _ _ _ _ _ _ _ _ _ _ _ ?k1 ?k2 ?k3 ?k4 ?k5 ?kK ?kd ?ku ?_; (case qzh0 => walk_at "mine omega"); (case qzh1 => walk_at "mine omega"); (case qzh2 => walk_at "mine omega"); walk_at "mine side"; refine o_2 ?_; intro t9 h9 tk9 F9 N9 lo9 hi9; (try dsimp only); (try k_fold)) | (refine' get_sp _ _ _ _ (by kba_ints) ?qzh0 _ _ _ _ ?qzh1 ?qzh2 ?qzh3 ?qzh4 _ _ _ _ _ _ _ _ _ _ _ _ _ _ _ _ _ _ _ _ _ _ _ ?k1 ?k2 ?k3 ?k4 ?k5 ?kK ?kd ?ku ?_; (case qzh0 => walk_at "mine omega"); (case qzh1 => walk_at "mine omega"); (case qzh2 => walk_at "mine omega"); (case qzh3 => walk_at "mine omega"); (case qzh4 => walk_at "mine omega"); walk_at "mine side"; refine o_0 ?_; intro t9 h9 tk9 F9 N9; (try dsimp only); (try k_fold)) | (refine' get_raise _ _ _ _ (by kba_ints) ?qzh0 _ _ _ _ ?qzh1 ?qzh2 ?qzh3 ?qzh4 ?qzh5 _ _ _ _ _ _ _ _ _ _ _ _ _ _ _ _ _ _ _ _ _ _ _ ?k1 ?k2 ?k3 ?k4 ?k5 ?kK ?kd ?ku ?_; (case qzh0 => walk_at "mine omega"); (case qzh1 => walk_at "mine omega"); (case qzh2 => walk_at "mine omega"); (case qzh3 => walk_at "mine omega"); (case qzh4 => walk_at "mine omega"); (case qzh5 => walk_at "mine omega"); walk_at "mine side"; intro e9 G9 h9 tk9 F9 R9 U9; (try dsimp only)))))
  k_with "call ref" => ((k_here; (with_reducible show wpAny _ _ (call (Value.ref 184) [Value.int _ _]) _ _ _); k_dflt (first | (refine' put16_sp _ _ _ ?qzh0 ?qzh1 _ _ _ _ _ _ _ _ _ _ _ _ _ _ _ _ _ _ _ _ _ _ _ ?k1 ?k2 ?k3 ?k4 ?k5 ?kK ?kd ?ku ?_; (case qzh0 => walk_at "mine omega"); (case qzh1 => walk_at "mine omega"); walk_at "mine side"; refine o_1 ?_; intro c9 t9 h9 tk9 F9 N9 b9; (try dsimp only); (try k_fold)) | (refine' put16_sp _ _ _ ?qzh0 ?qzh1 _ _ _ _ _ _ _ _ _ _ _ _ _ _ _ _ _ _ _ _ _ _ _ ?k1 ?k2 ?k3 ?k4 ?k5 ?kK ?kd ?ku ?_; walk_at "mine side"; (case qzh0 => decide); (case qzh1 => decide); refine o_1 ?_; intro c9 t9 h9 tk9 F9 N9 b9; (try dsimp only); (try k_fold)) | (refine' put16_raise _ _ _ ?qzh0 _ _ _ _ _ _ _ _ _ _ _ _ _ _ _ _ _ _ _ _ _ _ _ ?k1 ?k2 ?k3 ?k4 ?k5 ?kK ?kd ?ku ?_; (case qzh0 => walk_at "mine omega"); walk_at "mine side"; intro e9 G9 h9 tk9 F9 R9 U9; (try dsimp only)))))
  k_with "call ref" => ((k_here; (with_reducible show wpAny _ _ (call (Value.ref 191) [Value.int _ _]) _ _ _); k_dflt (first | (refine' put48_sp _ _ _ ?qzh0 ?qzh1 _ _ _ _ _ _ _ _ _ _ _ _ _ _ _ _ _ _ _ _ _ _ _ ?k1 ?k2 ?k3 ?k4 ?k5 ?kK ?kd ?ku ?_; (case qzh0 => walk_at "mine omega"); (case qzh1 => walk_at "mine omega"); walk_at "mine side"; refine o_1 ?_; intro c9 t9 h9 tk9 F9 N9 b9; (try dsimp only); (try k_fold)))))
  k_with "call ref" => ((k_here; (with_reducible show wpAny _ _ (call (Value.ref 198) [Value.bytes _ _, Value.int _ _]) _ _ _); k_dflt (first | (refine' get16v _ _ _ _ (by kba_ints) ?qzh0 _ _ ?qzh1 ?qzh2 _ _ _ _ _ _ _ _ _ _ _ _ _ _ _ _ _ _ _ _ _ _ _ ?k1 ?k2 ?k3 ?k4 ?k5 ?kK ?kd ?ku ?_; (case qzh0 => walk_at "mine omega"); (case qzh1 => walk_at "mine omega"); (case qzh2 => walk_at "mine omega"); walk_at "mine side"; refine o_3 ?_; intro t9 h9 tk9 F9 N9 lo9 hi9 lo8 hi8; (try dsimp only); (try k_fold)) | (refine' get16_raise _ _ _ _ (by kba_ints) ?qzh0 _ _ ?qzh1 ?qzh2 ?qzh3 _ _ _ _ _ _ _ _ _ _ _ _ _ _ _ _ _ _ _ _ _ _ _ ?k1 ?k2 ?k3 ?k4 ?k5 ?kK ?kd ?ku ?_; (case qzh0 => walk_at "mine omega"); (case qzh1 => walk_at "mine omega"); (case qzh2 => walk_at "mine omega"); (case qzh3 => walk_at "mine omega"); walk_at "mine side"; intro e9 G9 h9 tk9 F9 R9 U9; (try dsimp only)))))
  k_with "call ref" => ((k_here; (with_reducible show wpAny _ _ (call (Value.ref 198) [Value.bytes _ _, Value.int _ _]) _ _ _); k_dflt (first | (refine' get16c _ _ _ _ (by kba_ints) 12 _ ?qzh9 ?qzh0 _ _ ?qzh1 ?qzh2 _ _ _ _ _ _ _ _ _ _ _ _ _ _ _ _ _ _ _ _ _ _ _ ?k1 ?k2 ?k3 ?k4 ?k5 ?kK ?kd ?ku ?_; (case qzh0 => walk_at "mine omega"); (case qzh2 => walk_at "mine omega"); walk_at "mine side"; (case qzh9 => assumption); (case qzh1 => first | exact rfl | decide); refine o_0 ?_; intro t9 h9 tk9 F9 N9; (try dsimp only); (try k_fold)) | (refine' get16c _ _ _ _ (by kba_ints) 14 _ ?qzh9 ?qzh0 _ _ ?qzh1 ?qzh2 _ _ _ _ _ _ _ _ _ _ _ _ _ _ _ _ _ _ _ _ _ _ _ ?k1 ?k2 ?k3 ?k4 ?k5 ?kK ?kd ?ku ?_; (case qzh0 => walk_at "mine omega"); (case qzh2 => walk_at "mine omega"); walk_at "mine side"; (case qzh9 => assumption); (case qzh1 => first | exact rfl | decide); refine o_0 ?_; intro t9 h9 tk9 F9 N9; (try dsimp only); (try k_fold)) | (refine' get16c _ _ _ _ (by kba_ints) 16 _ ?qzh9 ?qzh0 _ _ ?qzh1 ?qzh2 _ _ _ _ _ _ _ _ _ _ _ _ _ _ _ _ _ _ _ _ _ _ _ ?k1 ?k2 ?k3 ?k4 ?k5 ?kK ?kd ?ku ?_; (case qzh0 => walk_at "mine omega"); (case qzh2 => walk_at "mine omega"); walk_at "mine side"; (case qzh9 => assumption); (case qzh1 => first | exact rfl | decide); refine o_0 ?_; intro t9 h9 tk9 F9 N9; (try dsimp only); (try k_fold)) | (refine' get16v _ _ _ _ (by kba_ints) ?qzh0 _ _ ?qzh1 ?qzh2 _ _ _ _ _ _ _ _ _ _ _ _ _ _ _ _ _ _ _ _ _ _ _ ?k1 ?k2 ?k3 ?k4 ?k5 ?kK ?kd ?ku ?_; (case qzh0 => walk_at "mine omega"); (case qzh1 => walk_at "mine omega"); (case qzh2 => walk_at "mine omega"); walk_at "mine side"; refine o_3 ?_; intro t9 h9 tk9 F9 N9 lo9 hi9 lo8 hi8; (try dsimp only); (try k_fold)) | (refine' get16_raise _ _ _ _ (by kba_ints) ?qzh0 _ _ ?qzh1 ?qzh2 ?qzh3 _ _ _ _ _ _ _ _ _ _ _ _ _ _ _ _ _ _ _ _ _ _ _ ?k1 ?k2 ?k3 ?k4 ?k5 ?kK ?kd ?ku ?_; (case qzh0 => walk_at "mine omega"); (case qzh1 => walk_at "mine omega"); (case qzh2 => walk_at "mine omega"); (case qzh3 => walk_at "mine omega"); walk_at "mine side"; intro e9 G9 h9 tk9 F9 R9 U9; (try dsimp only)))))
  k_with "call ref" => ((k_here; (with_reducible show wpAny _ _ (call (Value.ref 205) [Value.bytes _ _, Value.int _ _]) _ _ _); k_dflt (first | (refine' get48_sp _ _ _ _ (by kba_ints) ?qzh0 _ _ ?qzh1 ?qzh2 _ _ _ _ _ _ _ _ _ _ _ _ _ _ _ _ _ _ _ _ _ _ _ ?k1 ?k2 ?k3 ?k4 ?k5 ?kK ?kd ?ku ?_; (case qzh0 => walk_at "mine omega"); (case qzh1 => walk_at "mine omega"); (case qzh2 => walk_at "mine omega"); walk_at "mine side"; refine o_0 ?_; intro t9 h9 tk9 F9 N9; (try dsimp only); (try k_fold)))))
  k_with "call ref" => ((k_here; (with_reducible show wpAny _ _ (call (Value.ref 334) [Value.int _ _, Value.int _ _, Value.int _ _, Value.bytes _ _]) _ _ _); k_dflt (first | (refine' llc_sp _ _ _ _ _ _ _ _ _ _ _ _ _ _ _ _ _ _ _ _ _ _ _ _ _ _ _ _ _ _ _ _ ?k1 ?k2 ?k3 ?k4 ?k5 ?kK ?kd ?ku ?_; walk_at "mine side"; refine o_4 ?_; intro x9 d9 ka9 kb9 kc9 kd9 h9 tk9 F9 N9 l9 l8; (try unfold llcD at N9); (try k_lt l9); (try k_lt2 l8); (try dsimp only); (try k_fold)))))
  k_with "call ref" => ((k_here; (with_reducible show wpAny _ _ (call (Value.ref 352) [Value.ref _]) _ _ _); k_dflt (first | (refine' pack_sp _ _ _ _ _ _ _ _ _ _ _ _ _ _ _ _ _ ?qzh9 ?qzh0 _ ?qzh1 ?qzh2 ?qzh3 ?qzh8 ?qzh4 _ _ _ _ _ _ _ _ _ _ _ _ _ _ _ _ _ _ _ _ _ _ ?k1 ?k2 ?k3 ?k4 ?k5 ?kK ?kd ?ku ?_; walk_at "mine side"; (case qzh4 => walk_at "mine mem"); (case qzh9 => kba_ints); (case qzh8 => assumption); (case qzh0 => walk_at "mine omega"); (case qzh1 => walk_at "mine omega"); (case qzh2 => walk_at "mine omega"); (case qzh3 => walk_at "mine omega"); refine o_5 ?_; intro c9 t9 h9 tk9 F9 N9 b9; (try dsimp only); (try k_fold)) | (refine' pack_no _ _ _ _ _ _ _ _ _ _ _ _ _ _ _ _ ?qzh9 ?qzh0 _ ?qzh1 ?qzh2 ?qzh3 ?qzh5 ?qzh8 ?qzh4 _ _ _ _ _ _ _ _ _ _ _ _ _ _ _ _ _ _ _ _ _ _ ?k1 ?k2 ?k3 ?k4 ?k5 ?kK ?kd ?ku ?_; walk_at "mine side"; (case qzh4 => walk_at "mine mem"); (case qzh9 => kba_ints); (case qzh8 => assumption); (case qzh0 => walk_at "mine omega"); (case qzh1 => walk_at "mine omega"); (case qzh2 => walk_at "mine omega"); (case qzh3 => walk_at "mine omega"); (case qzh5 => walk_at "mine omega"); intro e9 G9 h9 tk9 F9 R9 U9; (try dsimp only)))))
  k_with "call ref" => ((k_here; (with_reducible show wpAny _ _ (call (Value.ref 394) [Value.ref _, Value.ref _]) _ _ _); k_dflt (first | (refine' one_int _ _ _ _ _ _ _ 60 _ _ _ _ _ ?qzU ?qzh0 ?qzh1 ?qzh2 ?qzh3 ?qzh4 ?qzh6 ?qzh5 ?qzh7 _ _ _ _ _ _ _ _ _ _ _ _ _ _ _ _ _ _ _ _ _ _ ?k1 ?k2 ?k3 ?k4 ?k5 ?kK ?kd ?ku ?_; walk_at "mine side"; (case qzU => walk_at "mine upd"); (case qzh6 => k_mem); (case qzh7 => walk_at "mine ints"); (case qzh0 => walk_at "mine omega"; skip); (case qzh1 => walk_at "mine omega"; skip); (case qzh2 => walk_at "mine omega"; skip); (case qzh3 => exact Nat.le_of_ble_eq_true rfl); (case qzh4 => exact Nat.le_of_ble_eq_true rfl); (case qzh5 => walk_at "mine ane"); refine o_7 ?_; intro dr9 t9 aa9 bb9 u9 v9 m9 h9 tk9 F9 N9 lo9 hi9 aa0 bb0 bb1; (try dsimp only at N9); (try dsimp only); (try k_fold)) | (refine' one_int _ _ _ _ _ _ _ 255 _ _ _ _ _ ?qzU ?qzh0 ?qzh1 ?qzh2 ?qzh3 ?qzh4 ?qzh6 ?qzh5 ?qzh7 _ _ _ _ _ _ _ _ _ _ _ _ _ _ _ _ _ _ _ _ _ _ ?k1 ?k2 ?k3 ?k4 ?k5 ?kK ?kd ?ku ?_; walk_at "mine side"; (case qzU => walk_at "mine upd"); (case qzh6 => k_mem); (case qzh7 => walk_at "mine ints"); (case qzh0 => walk_at "mine omega"; skip); (case qzh1 => walk_at "mine omega"; skip); (case qzh2 => walk_at "mine omega"; skip); (case qzh3 => exact Nat.le_of_ble_eq_true rfl); (case qzh4 => exact Nat.le_of_ble_eq_true rfl); (case qzh5 => walk_at "mine ane"); refine o_7 ?_; intro dr9 t9 aa9 bb9 u9 v9 m9 h9 tk9 F9 N9 lo9 hi9 aa0 bb0 bb1; (try dsimp only at N9); (try dsimp only); (try k_fold)) | (refine' one_int _ _ _ _ _ _ _ 1000 _ _ _ _ _ ?qzU ?qzh0 ?qzh1 ?qzh2 ?qzh3 ?qzh4 ?qzh6 ?qzh5 ?qzh7 _ _ _ _ _ _ _ _ _ _ _ _ _ _ _ _ _ _ _ _ _ _ ?k1 ?k2 ?k3 ?k4 ?k5 ?kK ?kd ?ku ?_; walk_at "mine side"; (case qzU => walk_at "mine upd"); (case qzh6 => k_mem); (case qzh7 => walk_at "mine ints"); (case qzh0 => walk_at "mine omega"; skip); (case qzh1 => walk_at "mine omega"; skip); (case qzh2 => walk_at "mine omega"; skip); (case qzh3 => exact Nat.le_of_ble_eq_true rfl); (case qzh4 => exact Nat.le_of_ble_eq_true rfl); (case qzh5 => walk_at "mine ane"); refine o_7 ?_; intro dr9 t9 aa9 bb9 u9 v9 m9 h9 tk9 F9 N9 lo9 hi9 aa0 bb0 bb1; (try dsimp only at N9); (try dsimp only); (try k_fold)) | (refine' one_int _ _ _ _ _ _ _ 65536 _ _ _ _ _ ?qzU ?qzh0 ?qzh1 ?qzh2 ?qzh3 ?qzh4 ?qzh6 ?qzh5 ?qzh7 _ _ _ _ _ _ _ _ _ _ _ _ _ _ _ _ _ _ _ _ _ _ ?k1 ?k2 ?k3 ?k4 ?k5 ?kK ?kd ?ku ?_; walk_at "mine side"; (case qzU => walk_at "mine upd"); (case qzh6 => k_mem); (case qzh7 => walk_at "mine ints"); (case qzh0 => walk_at "mine omega"; skip); (case qzh1 => walk_at "mine omega"; skip); (case qzh2 => walk_at "mine omega"; skip); (case qzh3 => exact Nat.le_of_ble_eq_true rfl); (case qzh4 => exact Nat.le_of_ble_eq_true rfl); (case qzh5 => walk_at "mine ane"); refine o_7 ?_; intro dr9 t9 aa9 bb9 u9 v9 m9 h9 tk9 F9 N9 lo9 hi9 aa0 bb0 bb1; (try dsimp only at N9); (try dsimp only); (try k_fold)) | (refine' one_int _ _ _ _ _ _ _ 16777219 _ _ _ _ _ ?qzU ?qzh0 ?qzh1 ?qzh2 ?qzh3 ?qzh4 ?qzh6 ?qzh5 ?qzh7 _ _ _ _ _ _ _ _ _ _ _ _ _ _ _ _ _ _ _ _ _ _ ?k1 ?k2 ?k3 ?k4 ?k5 ?kK ?kd ?ku ?_; walk_at "mine side"; (case qzU => walk_at "mine upd"); (case qzh6 => k_mem); (case qzh7 => walk_at "mine ints"); (case qzh0 => walk_at "mine omega"; skip); (case qzh1 => walk_at "mine omega"; skip); (case qzh2 => walk_at "mine omega"; skip); (case qzh3 => exact Nat.le_of_ble_eq_true rfl); (case qzh4 => exact Nat.le_of_ble_eq_true rfl); (case qzh5 => walk_at "mine ane"); refine o_7 ?_; intro dr9 t9 aa9 bb9 u9 v9 m9 h9 tk9 F9 N9 lo9 hi9 aa0 bb0 bb1; (try dsimp only at N9); (try dsimp only); (try k_fold)))))
  k_with "call ref" => ((k_here; (with_reducible show wpAny _ _ (call (Value.ref 366) [Value.ref _]) _ _ _); k_dflt (first | (refine' snap_none_m _ _ _ _ _ _ _ _ _ _ _ _ _ _ _ _ ?qzh0 ?qzh4 _ _ _ _ _ _ _ _ _ _ _ _ _ _ _ _ _ _ _ _ _ _ ?k1 ?k2 ?k3 ?k4 ?k5 ?kK ?kd ?ku ?_; walk_at "mine side"; (case qzh4 => walk_at "mine mem"); (case qzh0 => walk_at "mine omega"; skip); refine o_8 ?_; intro h9 tk9 F9 N9; (try dsimp only); (try k_fold)) | (refine' snap_raise_m _ _ _ _ _ _ _ _ _ _ _ _ _ _ _ _ ?qzh9 ?qzh0 _ ?qzh1 ?qzh2 ?qzh3 ?qzh4 _ _ _ _ _ _ _ _ _ _ _ _ _ _ _ _ _ _ _ _ _ _ ?k1 ?k2 ?k3 ?k4 ?k5 ?kK ?kd ?ku ?_; walk_at "mine side"; (case qzh4 => walk_at "mine mem"); (case qzh9 => kba_ints); (case qzh1 => walk_at "mine omega"; skip); (case qzh2 => walk_at "mine omega"; skip); (case qzh3 => walk_at "mine omega"; skip); (case qzh0 => walk_at "mine omega"; skip); intro e9 G9 h9 tk9 F9 R9 U9; (try dsimp only)) | (refine' snap_ok_m _ _ _ _ _ _ _ _ _ _ _ _ _ _ _ _ ?qzh9 ?qzh0 ?qzh5 _ ?qzh1 ?qzh2 ?qzh3 ?qzh4 _ _ _ _ _ _ _ _ _ _ _ _ _ _ _ _ _ _ _ _ _ _ ?k1 ?k2 ?k3 ?k4 ?k5 ?kK ?kd ?ku ?_; walk_at "mine side"; (case qzh4 => walk_at "mine mem"); (case qzh9 => kba_ints); (case qzh1 => walk_at "mine omega"; skip); (case qzh2 => walk_at "mine omega"; skip); (case qzh3 => walk_at "mine omega"; skip); (case qzh0 => walk_at "mine omega"; skip); (case qzh5 => walk_at "mine omega"; skip); refine o_9 ?_; intro dd9 ka9 t9 u9 v9 c9 h9 tk9 F9 N9 b9; (try dsimp only); (try k_fold)))))
  k_with "call ref" => ((k_here; (with_reducible show wpAny _ _ (call (Value.ref 302) [Value.bytes _ _, Value.int 12 _]) _ _ _); k_dflt (first | (refine' utags1 _ _ _ _ _ _ (by kba_ints) ?qzh0 ?qzh1 ?qzh2 ?qzh3 ?qzh4 ?qzh5 ?qzh6 _ _ _ _ _ _ _ _ _ _ _ _ _ _ _ _ _ _ _ _ _ _ _ ?k1 ?k2 ?k3 ?k4 ?k5 ?kK ?kd ?ku ?_; (case qzh0 => walk_at "mine omega"); (case qzh1 => walk_at "mine omega"); walk_at "mine side"; (case qzh2 => assumption); (case qzh3 => assumption); (case qzh4 => assumption); (case qzh5 => walk_at "mine omega"; skip); (case qzh6 => walk_at "mine omega"; skip); refine o_11 ?_; intro dd9 ff9 t9 ka9 kb9 x9 h9 tk9 F9 N9; (try dsimp only); (try k_fold)) | (refine' utags0 _ _ _ _ _ _ (by kba_ints) ?qzh0 ?qzh1 ?qzh2 ?qzh5 ?qzh6 _ _ _ _ _ _ _ _ _ _ _ _ _ _ _ _ _ _ _ _ _ _ _ ?k1 ?k2 ?k3 ?k4 ?k5 ?kK ?kd ?ku ?_; (case qzh0 => walk_at "mine omega"); (case qzh1 => walk_at "mine omega"); walk_at "mine side"; (case qzh2 => assumption); (case qzh5 => walk_at "mine omega"; skip); (case qzh6 => walk_at "mine omega"; skip); refine o_12 ?_; intro dd9 ff9 t9 ka9 kb9 h9 tk9 F9 N9; (try dsimp only); (try k_fold)))))
  k_with "call ref" => ((k_here; (with_reducible show wpAny _ _ (call (Value.ref 345) [Value.int _ _]) _ _ _); k_dflt (first | (refine' short_t _ _ _ ?qzh0 _ _ _ _ _ _ _ _ _ _ _ _ _ _ _ _ _ _ _ _ _ _ _ ?k1 ?k2 ?k3 ?k4 ?k5 ?kK ?kd ?ku ?_; walk_at "mine side"; (case qzh0 => walk_at "mine mod"); refine o_8 ?_; intro h9 tk9 F9 N9; (try dsimp only); (try k_fold)) | (refine' short_f _ _ _ ?qzh0 _ _ _ _ _ _ _ _ _ _ _ _ _ _ _ _ _ _ _ _ _ _ _ ?k1 ?k2 ?k3 ?k4 ?k5 ?kK ?kd ?ku ?_; walk_at "mine side"; (case qzh0 => walk_at "mine mod"); refine o_8 ?_; intro h9 tk9 F9 N9; (try dsimp only); (try k_fold)))))
  k_with "mine mod" => (((try rw [fd8]); omega))
  k_with "leaving ref" => ((k_here; refine' leave_mineOn ?k1 ?k2 ?k3 ?k4 ?k5 ?_; (case k3 => assumption); (case k2 => assumption); (case k1 => k_asm); (case k4 => assumption); (case k5 => k_dflt (exact rfl)); intro h' R' U'; (try dsimp only)))
  k_with "call ref" => ((k_here; (with_reducible show wpAny _ _ (call (Value.ref 177) [Value.bytes _ _, Value.int 2 _, Value.int 1 _]) _ _ _); k_dflt (first | (refine' get1at2 _ _ _ _ (by kba_ints) ?qzh0 _ _ ?qzh1 _ _ _ _ _ _ _ _ _ _ _ _ _ _ _ _ _ _ _ _ _ _ _ ?k1 ?k2 ?k3 ?k4 ?k5 ?kK ?kd ?ku ?_; (case qzh0 => walk_at "mine omega"); (case qzh1 => walk_at "mine omega"); walk_at "mine side"; refine o_2 ?_; intro t9 h9 tk9 F9 N9 lo9 hi9; (try dsimp only); (try k_fold)))))
  k_with "call ref" => ((k_here; (with_reducible show wpAny _ _ (call (Value.ref 177) [Value.bytes _ _, Value.int 0 _, Value.int 3 _]) _ _ _); k_dflt (first | (refine' get3at0 _ _ _ _ (by kba_ints) ?qzh0 _ _ ?qzh1 _ _ _ _ _ _ _ _ _ _ _ _ _ _ _ _ _ _ _ _ _ _ _ ?k1 ?k2 ?k3 ?k4 ?k5 ?kK ?kd ?ku ?_; (case qzh0 => walk_at "mine omega"); (case qzh1 => walk_at "mine omega"); walk_at "mine side"; refine o_2 ?_; intro t9 h9 tk9 F9 N9 lo9 hi9; (try dsimp only); (try k_fold)))))
  k_with "call ref" => ((k_here; (with_reducible show wpAny _ _ (call (Value.ref 198) [Value.bytes _ _, Value.int 2 _]) _ _ _); k_dflt (first | (refine' get16at2 _ _ _ _ (by kba_ints) ?qzh0 _ ?qzh1 _ _ _ _ _ _ _ _ _ _ _ _ _ _ _ _ _ _ _ _ _ _ _ ?k1 ?k2 ?k3 ?k4 ?k5 ?kK ?kd ?ku ?_; (case qzh0 => walk_at "mine omega"); (case qzh1 => walk_at "mine omega"); walk_at "mine side"; refine o_3 ?_; intro t9 h9 tk9 F9 N9 lo9 hi9 lo8 hi8; (try dsimp only); (try k_fold)))))
  k_with "call ref" => ((k_here; (with_reducible show wpAny _ _ (call (Value.ref 198) [Value.bytes _ _, Value.int 3 _]) _ _ _); k_dflt (first | (refine' get16at3 _ _ _ _ (by kba_ints) ?qzh0 _ ?qzh1 _ _ _ _ _ _ _ _ _ _ _ _ _ _ _ _ _ _ _ _ _ _ _ ?k1 ?k2 ?k3 ?k4 ?k5 ?kK ?kd ?ku ?_; (case qzh0 => walk_at "mine omega"); (case qzh1 => walk_at "mine omega"); walk_at "mine side"; refine o_3 ?_; intro t9 h9 tk9 F9 N9 lo9 hi9 lo8 hi8; (try dsimp only); (try k_fold)))))
  k_with "call ref" => ((k_here; (with_reducible show wpAny _ _ (call (Value.ref 230) [Value.int _ _, Value.int _ _, Value.bool _, Value.int _ _]) _ _ _); k_dflt (first | (refine' tag_sp _ _ _ _ _ _ _ _ _ _ _ _ _ _ _ _ _ _ _ _ _ _ _ _ _ _ _ _ _ _ _ ?k1 ?k2 ?k3 ?k4 ?k5 ?kK ?kd ?ku ?_; walk_at "mine side"; refine o_4 ?_; intro x9 d9 ka9 kb9 kc9 kd9 h9 tk9 F9 N9 l9 l8; (try unfold tagD at N9); (try k_lt l9); (try k_lt2 l8); (try dsimp only); (try k_fold)))))
  k_with "call ref" => ((k_here; (with_reducible show wpAny _ _ (call (Value.ref 264) [Value.int 5 _, Value.int 6 _, Value.ref _, Value.none, Value.bytes _ _]) _ _ _); k_dflt (first | (refine' frm_sp _ _ _ _ _ _ _ _ _ ?qzh0 _ _ _ _ _ _ _ _ _ _ _ _ _ _ _ _ _ _ _ _ _ _ ?k1 ?k2 ?k3 ?k4 ?k5 ?kK ?kd ?ku ?_; walk_at "mine side"; (case qzh0 => first | assumption | k_mem); refine o_10 ?_; intro x9 d9 ka9 kb9 kc9 kd9 ke9 h9 tk9 F9 N9 l9 l8; (try simp only [FrmAt, List.cons_append, List.nil_append] at N9); (try unfold frmD at N9); (try k_lt l9); (try k_lt2 l8); (try dsimp only); (try k_fold)))))
  k_with "call ref" => ((k_here; (with_reducible show wpAny _ _ (call (Value.ref 165) [Value.bytes _ _]) _ _ _); k_dflt (first | (refine' sum_sp _ _ _ _ (by kba_ints) _ _ _ _ _ _ _ _ _ _ _ _ _ _ _ _ _ _ _ _ _ _ _ ?k1 ?k2 ?k3 ?k4 ?k5 ?kK ?kd ?ku ?_; walk_at "mine side"; refine o_1 ?_; intro c9 t9 h9 tk9 F9 N9 b9; (have sl9 := sumF_at b9); (try dsimp only); (try k_fold)))))
  k_with "call ref" => ((k_here; (with_reducible show wpAny _ _ (call (Value.ref 275) [Value.ref _]) _ _ _); k_dflt (first | (refine' ptag_m _ _ _ _ _ _ _ _ _ _ _ ?qzh4 _ _ _ _ _ _ _ _ _ _ _ _ _ _ _ _ _ _ _ _ _ _ ?k1 ?k2 ?k3 ?k4 ?k5 ?kK ?kd ?ku ?_; walk_at "mine side"; (case qzh4 => walk_at "mine mem"); refine o_5 ?_; intro c9 t9 h9 tk9 F9 N9 b9; (try dsimp only); (try k_fold)))))
  k_with "call ref" => ((k_here; (with_reducible show wpAny _ _ (call (Value.ref 282) [Value.ref _]) _ _ _); k_dflt (first | (refine' pkind_sp _ _ _ _ _ _ _ _ _ _ _ _ _ _ ?qzh9 ?qzh0 _ ?qzh4 _ _ _ _ _ _ _ _ _ _ _ _ _ _ _ _ _ _ _ _ _ _ ?k1 ?k2 ?k3 ?k4 ?k5 ?kK ?kd ?ku ?_; walk_at "mine side"; (case qzh4 => walk_at "mine mem"); (case qzh9 => kba_ints); (case qzh0 => walk_at "mine omega"); refine o_5 ?_; intro c9 t9 h9 tk9 F9 N9 b9; (try dsimp only); (try k_fold)))))
  k_with "call ref" => ((k_here; (with_reducible show wpAny _ _ (call (Value.ref 295) [Value.bytes _ _, Value.int 12 _]) _ _ _); k_dflt (first | (refine' utag _ _ _ _ _ (by kba_ints) ?qzh0 ?qzh1 ?qzh2 ?qzh3 _ _ _ _ _ _ _ _ _ _ _ _ _ _ _ _ _ _ _ _ _ _ _ ?k1 ?k2 ?k3 ?k4 ?k5 ?kK ?kd ?ku ?_; (case qzh0 => walk_at "mine omega"); (case qzh1 => walk_at "mine omega"); walk_at "mine side"; (case qzh2 => assumption); (case qzh3 => assumption); refine o_13 ?_; intro x9 d9 ka9 kb9 kc9 kd9 va9 vb9 vc9 vd9 h9 tk9 F9 N9 l9 l8; (try unfold tagD at N9); (try k_lt l9); (try k_lt2 l8); (try dsimp only); (try k_fold)))))
  k_with "call ref" => ((k_here; (with_reducible show wpAny _ _ (call (Value.ref 264) [Value.int _ _, Value.int _ _, Value.ref _, Value.none, Value.bytes _ _]) _ _ _); k_dflt (first | (refine' frm_g _ _ _ _ _ _ _ _ _ _ _ ?qzh0 _ _ _ _ _ _ _ _ _ _ _ _ _ _ _ _ _ _ _ _ _ _ ?k1 ?k2 ?k3 ?k4 ?k5 ?kK ?kd ?ku ?_; walk_at "mine side"; (case qzh0 => first | assumption | k_mem); refine o_10 ?_; intro x9 d9 ka9 kb9 kc9 kd9 ke9 h9 tk9 F9 N9 l9 l8; (try unfold frmD at N9); (try k_lt l9); (try k_lt2 l8); (try dsimp only); (try k_fold)))))
  k_with "call ref" => ((k_here; (with_reducible show wpAny _ _ (call (Value.ref 387) [Value.ref _, Value.int _ _]) _ _ _); k_dflt (first | (refine' take_sp _ _ _ _ _ _ _ _ _ _ ?qzh0 ?qzh1 ?qzh2 ?qzh3 ?qzh4 ?qzh5 _ _ _ _ _ _ _ _ _ _ _ _ _ _ _ _ _ _ _ _ _ _ ?k1 ?k2 ?k3 ?k4 ?k5 ?kK ?kd ?ku ?_; walk_at "mine side"; (case qzh0 => walk_at "mine omega"; skip); (case qzh1 => walk_at "mine omega"; skip); (case qzh2 => walk_at "mine omega"; skip); (case qzh3 => walk_at "mine omega"; skip); (case qzh4 => walk_at "mine omega"; skip); (case qzh5 => walk_at "mine ne"); refine o_6 ?_; intro dr9 t9 aa9 bb9 u9 v9 m9 h9 tk9 F9 N9 lo9 hi9 aa0 bb0 bb1; (try dsimp only); (try k_fold)))))
  k_with "call ref" => ((k_here; (with_reducible show wpAny _ _ (call (Value.ref 387) [Value.ref _, Value.int _ _]) _ _ _); k_dflt (first | (refine' take_u _ _ _ _ _ _ _ _ _ _ _ ?qzU ?qzh0 ?qzh1 ?qzh2 ?qzh3 ?qzh4 _ _ _ _ _ _ _ _ _ _ _ _ _ _ _ _ _ _ _ _ _ _ ?k1 ?k2 ?k3 ?k4 ?k5 ?kK ?kd ?ku ?_; walk_at "mine side"; (case qzU => walk_at "mine upd"); (case qzh0 => walk_at "mine omega"; skip); (case qzh1 => walk_at "mine omega"; skip); (case qzh2 => walk_at "mine omega"; skip); (case qzh3 => walk_at "mine omega"; skip); (case qzh4 => walk_at "mine omega"; skip); refine o_6 ?_; intro dr9 t9 aa9 bb9 u9 v9 m9 h9 tk9 F9 N9 lo9 hi9 aa0 bb0 bb1; (try dsimp only at N9); (try dsimp only); (try k_fold)))))
  trivial
end Mine
theorem PySem.Challenge.cw_pf0387_01_holds : PySem.Challenge.rw_pf0387_01.Holds :=
  Mine.lawH
