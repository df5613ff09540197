import PyProof.Rows.All
import Wide.All
import OpenK.AllK
import Wide.FinOn
import Lean
import PySem.Challenge.RW_on0242_01
open PySem PySem.W PyProof.Rows PySem.Calls
set_option Elab.async false
set_option maxRecDepth 100000
set_option maxHeartbeats 0
set_option compiler.extract_closed false
set_option linter.all false
namespace Mine
local macro_rules | `(tactic| walk_at "own site") => `(tactic| (
  (case s1 => k_dflt (exact rfl))
  (case s2 => first | k_asm | k_dflt (k_asm))
  (case s3 => k_dflt (first | exact rfl | assumption))
  (case s4 => first | omega | (simp only [depth_deeper] at *; omega) | k_dflt (exact Nat.le_of_ble_eq_true rfl))
  (case s5 => first | omega | (simp only [units_deeper] at *; omega) | k_dflt (exact Nat.le_of_ble_eq_true rfl))
  (case s6 => k_asm)
  (case s7 => k_asm)
  (case k1 => k_asm)
  (case k2 => k_asm)))
local macro_rules | `(tactic| walk_at "own for") => `(tactic| ((rename Fr _ _ _ _ => lF'); (with_unfolding_all refine' For_invVF lF' ?k1 ?k2 ?_; (case k1 => exact rfl); (case k2 => exact rfl); k_whole)))
local macro_rules | `(tactic| walk_at "own dict") => `(tactic| ((case N => k_asm); (case m => k_mem); (case d => assumption)))
local macro_rules | `(tactic| walk_at "own both") => `(tactic| ((case F => k_asm); (case N => k_asm)))
local macro_rules | `(tactic| walk_at "own units") => `(tactic| ((try simp only [units_deeper]); (try dsimp only [ktrTop]); (show _ < 9900); omega))
local macro_rules | `(tactic| walk_at "own end") => `(tactic| ((try k_sweep); (try k_fold)))
-- H0
/-- the run of the top over a tree of objects, to its end -/
noncomputable def runG (ok : Nat → Option Value → Thread → Bool) (go : SharedT → Thread → Option (SharedT × Thread)) (n₀ : Nat) (ann : Option Value) : Nat → SharedT → Thread → Option SharedT
  | 0, _, _ => none
  | n + 1, s, t => match through t with
    | true => some s
    | false => match ok n₀ ann t with
      | false => none
      | true => match go s t with
        | some (s', t') => runG ok go n₀ ann n s' t'
        | none => none
noncomputable abbrev runT (p : Program) (w : World) : Nat → Option Value → Nat → SharedT → Thread → Option SharedT := runG stepOk (stepT (denote treeTable) p w)
theorem runT_spec {p : Program} {w : World} {n₀ : Nat} {ann : Option Value} : ∀ (n : Nat) (s r : SharedT) (t : Thread), runT p w n₀ ann n s t = some r → topRun treeTable p w n₀ ann n s.abs t = some r.abs := by
  intro n
  induction n with
  | zero => intro s r t h; cases h
  | succ n ih =>
    intro s r t h
    rw [runT, runG] at h
    rw [topRun]
    split at h
    · rename_i e; rw [e]; cases h; rfl
    · rename_i e
      rw [e]
      split at h
      · cases h
      · rename_i e2
        rw [e2]
        split at h
        · rename_i s' t' e3
          dsimp only
          rw [stepT_spec e3]
          exact ih _ _ _ h
        · cases h
noncomputable def treeOf : List Obj → Nat → BT → BT
  | [], _, t => t
  | o :: r, n, t => treeOf r (n + 1) (t.ins n o)
theorem left_of_run {p q : Program} {loose : List Str} {Xt : Shared → Bool} {α : Type} {Yf : Shared → α} {Ya : World → α} {N M n m₀ : Nat} {H₀ : Params → Heap} {T : Params → BT} {life : Life} {gs : Array GenState} {d : Drawn} {k : Nat} {ann : Option Value}
    (open_ : ∀ w : World, (fencedOpening treeTable p w N).map (fun s => (s.heap, s.gens, s.drawn, s.toks)) = some (H₀ w.params, gs, d, k))
    (hT : ∀ P, absHeap (T P) n life = H₀ P)
    (size : ∀ P, ((H₀ P).isNs mainGlobals && gs.size == 0, (H₀ P).objs.size, (H₀ P).nsMap mainGlobals "__annotations__") = (true, m₀, ann)) (le : Nat.ble M N = true)
    (run : ∀ w : World, (fun os => (runT p w m₀ ann M ⟨T w.params, n, life, gs, d, k, os⟩ (topStub p)).map fun s =>
        (staticsOk (importedModules p.main.body) (H₀ w.params) s.abs.heap && namesBound p s.abs.heap && gensDone s.abs && laidKept (H₀ w.params) s.abs.heap, openSeen q loose (importedModules p.main.body) Xt true s.abs, Yf s.abs)) =
      fun _ => some (true, openGood q loose, Ya w)) : LeftO p q loose Xt Yf Ya N true := fun w => by
  obtain ⟨⟨h, gs', d', k', os⟩, e, e'⟩ := Option.map_eq_some_iff.mp (open_ w)
  obtain ⟨rfl, rfl, rfl, rfl⟩ : h = H₀ w.params ∧ gs' = gs ∧ d' = d ∧ k' = k := by simpa using e'
  obtain ⟨r, er, el⟩ := Option.map_eq_some_iff.mp (congrFun (run w) os)
  have hr := runT_spec _ _ _ _ er
  have hs := size w.params
  simp only [Prod.mk.injEq] at hs el
  have ha : (SharedT.abs ⟨T w.params, n, life, gs', d', k', os⟩) = ⟨H₀ w.params, gs', d', k', os⟩ := by
    show Shared.mk (absHeap (T w.params) n life) _ _ _ _ = _
    rw [hT]
  rw [ha] at hr
  have hm := topRun_mono (N - M) _ _ _ _ hr
  rw [show M + (N - M) = N by have := Nat.le_of_ble_eq_true le; omega] at hm
  have ht : topFrom treeTable p w N ⟨H₀ w.params, gs', d', k', os⟩ = some r.abs := by
    unfold topFrom
    dsimp only
    rw [hs.1, hs.2.1, hs.2.2, hm]
    dsimp only [Option.bind]
    rw [el.1]
  unfold openEnds
  rw [e]
  show (topFrom treeTable p w N _).map _ = _
  rw [ht]
  exact congrArg some (Prod.ext el.2.1 el.2.2)
noncomputable def vw : Program := PySem.W.view PySem.Challenge.pw_on0242_01 [0, 2, 3, 4, 6, 7, 8, 9, 11, 12, 13, 14, 15, 16, 17, 18, 19, 21, 22, 23, 24, 25, 26, 28, 29, 30, 31, 32, 33, 35, 37, 38, 39, 40, 41, 42, 43, 44, 45, 46, 47, 48]
section
local macro_rules | `(tactic| o_head $_) => `(tactic| assumption)
theorem mk (h : PySem.Challenge.rw_on0242_01.row.Holds) : PySem.Challenge.rw_on0242_01.row.Holds := by k_head
end
-- H1
noncomputable def keyAs : List Addr := [2, 3, 15, 17, 18, 20, 21, 22, 29, 31, 32, 34, 35, 36, 37, 38, 39, 42, 49, 50, 51, 54, 61, 62, 63, 66, 67, 69, 70, 72, 73, 74, 75, 77, 78, 80, 81, 82, 84, 85, 87, 88, 89, 91, 92, 94, 95, 96, 98, 99, 101, 102, 103, 105, 106, 108, 109, 110, 112, 113, 115, 116, 124, 126, 127, 129, 130, 131, 133, 134, 136, 137, 138, 140, 141, 143, 144, 145, 147, 148, 150, 151, 152, 153, 154, 155, 156, 159, 161, 162, 164, 165, 166, 168, 169, 171, 172, 173, 175, 176, 178, 179, 180, 181, 183, 184, 186, 187, 188, 190, 191, 193, 194, 195, 197, 198, 200, 201, 202, 204, 205, 207, 208, 209, 211, 212, 214, 215, 216, 217, 218, 220, 221, 223, 224, 225, 227, 228, 230, 231, 239, 241, 242, 244, 245, 246, 248, 249, 251, 252, 253, 255, 256, 258, 259, 260, 261, 262, 264, 265, 267, 268, 269, 270, 271, 273, 274, 276, 277, 278, 280, 281, 283, 284, 285, 287, 288, 290, 291, 292, 294, 295, 297, 298, 299, 300, 302, 303, 305, 306, 307, 309, 310, 312, 313, 314, 316, 317, 319, 320, 321, 322, 323, 324, 325, 328, 330, 331, 333, 334, 335, 337, 338, 340, 341, 342, 344, 345, 347, 348, 356, 358, 359, 361, 362, 363, 364, 366, 367, 369, 370, 371, 372, 373, 374, 375, 378, 380, 381, 383, 384, 385, 387, 388, 390, 391, 392, 394, 395, 397, 398, 399, 401, 402, 404, 405, 406, 408, 409, 411, 412, 413, 415, 416, 418, 419, 420, 422, 423, 425, 426, 427, 429, 430, 432, 433, 434, 436, 437, 439, 440, 441, 444, 445, 446, 449, 450, 451, 453, 454, 456, 457]
theorem keysOf : ∀ P, keyAs = (mk.heap_1 P).map (·.1) := fun P => by kernel_rfl
theorem top_open : ∀ w : World, (fencedOpening treeTable PySem.Challenge.pw_on0242_01 w 5944).map (fun s => (s.heap, s.gens, s.drawn, s.toks)) = some (boot_heap w.params, Array.mk [], boot_drawn, boot_toks) :=
  boot_open (by kernel_rfl) (by decide) (fun s => by kernel_rfl)
noncomputable abbrev rowW : RowW := PySem.Challenge.rw_on0242_01.row.toRowW
noncomputable abbrev hk : Hook := kHook mk.heap_1 keyAs keysOf
theorem top_tree : ∀ P, absHeap (treeOf (boot_heap P).objs.toList 0 .nil) 11 {} = boot_heap P := fun P => by kernel_rfl
theorem top_size : ∀ P, ((boot_heap P).isNs mainGlobals && (Array.mk [] : Array GenState).size == 0, (boot_heap P).objs.size, (boot_heap P).nsMap mainGlobals "__annotations__") = (true, 11, some (Value.ref 6)) := fun P => by kernel_rfl
-- H2
def rowN : OpenRow := { PySem.Challenge.rw_on0242_01.row with name := Str.ofString "no such name" }
section
local macro_rules | `(tactic| o_head $_) => `(tactic| assumption)
theorem mkA (h : rowN.Holds) : rowN.Holds := by k_head
end
/-- a tree of objects, laid by a function of the address -/
noncomputable def mkT (f : Nat → Obj) (n : Nat) : Nat → Nat → Nat → BT
  | 0, _, _ => .nil
  | k + 1, a, b => match Nat.blt b n with
    | true => .node (f b) (mkT f n k (2 * a) (a + b)) (mkT f n k (2 * a) (2 * a + b))
    | false => .nil
noncomputable def ov (K : Frag) (g : Nat → Obj) (i : Nat) : Obj := (K.lookup i).getD (g i)
theorem mkT_get : ∀ f : Nat → Obj, (List.range 458).map (fun i => (mkT f 458 10 1 0).get i) = (List.range 458).map (fun i => some (f i)) := fun f => by kernel_rfl
theorem lookup_of {K : Frag} {t : BT} (e : K.map (fun p => t.get p.1) = K.map (fun p => some p.2)) : ∀ i o, K.lookup i = some o → t.get i = some o := by
  intro i o h
  induction K with
  | nil => cases h
  | cons p r ih =>
    simp only [List.map_cons, List.cons.injEq] at e
    obtain ⟨a, b⟩ := p
    rw [List.lookup_cons] at h
    split at h
    · rename_i q
      have q' : i = a := by simpa using q
      subst q'
      cases h
      exact e.1
    · exact ih e.2 h
theorem same_list {K : Frag} {t : BT} (e : K.map (fun p => t.get p.1) = K.map (fun p => some p.2)) : t.list 458 = (mkT (ov K fun i => (t.get i).getD default) 458 10 1 0).list 458 := by
  have h := congrArg (fun l => l.map (fun o : Option Obj => o.getD default)) (mkT_get (ov K fun i => (t.get i).getD default))
  simp only [List.map_map] at h
  unfold BT.list
  refine Eq.trans ?_ h.symm
  refine List.map_congr_left fun i _ => ?_
  show (t.get i).getD default = ov K (fun j => (t.get j).getD default) i
  unfold ov
  cases hl : K.lookup i with
  | none => rfl
  | some o => rw [lookup_of e i o hl]; rfl
noncomputable def keyK (P : Params) : Frag := (0, (boot_heap P).objs.toList.getD 0 default) :: (1, (boot_heap P).objs.toList.getD 1 default) :: mkA.heap_1 P
noncomputable abbrev loose4 : List Str := [Str.ofString "fraction", Str.ofString "length", Str.ofString "length_styles", Str.ofString "Look"]
noncomputable abbrev mods : List Str := importedModules PySem.Challenge.pw_on0242_01.main.body
noncomputable abbrev xt (s : Shared) : Bool := xlAt vw [] s && recOk rowW.records s
/-- the end of the top: what the run is, and what the look asks of it -/
theorem top_run : ∀ w : World, (fun os => (runG Fast.tw6613529449190102663 (Fast.tw10156331382660048174 (Fast.tw11892475500146522536 Fast.tw14364793385576792824) PySem.Challenge.pw_on0242_01 w) 11 (some (Value.ref 6)) 2930 ⟨treeOf (boot_heap w.params).objs.toList 0 .nil, 11, {}, Array.mk [], boot_drawn, boot_toks, os⟩ (topStub PySem.Challenge.pw_on0242_01)).map fun s =>
        (s.n, s.life, s.gens, tabsOk vw s.abs, (keyK w.params).map fun p => s.tree.get p.1)) =
      fun _ => some (458, {}, Array.mk [], true, (keyK w.params).map fun p => some p.2) := fun w => by kernel_rfl
-- H3
noncomputable abbrev endT (w : World) (g : Nat → Obj) (d : Drawn) (tk : Nat) (os : OsState) : Shared := SharedT.abs ⟨mkT (ov (keyK w.params) g) 458 10 1 0, 458, {}, Array.mk [], d, tk, os⟩
theorem look_a : ∀ (w : World) (g : Nat → Obj) (d : Drawn) (tk : Nat) (os : OsState), (fun s : Shared =>
    (staticsOk mods (boot_heap w.params) s.heap && namesBound PySem.Challenge.pw_on0242_01 s.heap && gensDone s && laidKept (boot_heap w.params) s.heap,
      seen ((recsOf vw).map (·.name)) (ownsOf vw) [] { s with gens := #[] }, s.heap.bltView,
      s.heap.keysOk (looseW vw loose4) ((recsOf vw).map (·.name)) ((litsOf vw).map (·.1)) ((clssOf vw (looseW vw loose4)).map (·.name)) && s.heap.accountedOkI mods && s.heap.isNs mainGlobals && s.heap.isNs builtinsNs && tablesOk vw s.heap && xt s && (if true then s.gens.size == 0 else !leftWithCleanup s.gens)))
      (endT w g d tk os) = (true, expectedOf vw, bltViewBooted, true) := fun w g d tk os => by kernel_rfl
theorem look_b : ∀ (w : World) (g : Nat → Obj) (d : Drawn) (tk : Nat) (os : OsState), (fun s : Shared =>
    (pinSeenD vw (drecsOf vw) s, plainSeenE vw (looseW vw loose4) s, plainSeenD vw loose4 s, wideSeen vw s, clsSeenW vw loose4 s, hk.obs s))
      (endT w g d tk os) = (pinGoodD (drecsOf vw), plainGoodE vw (looseW vw loose4), plainGoodD vw loose4, wideGood vw, clsGoodW vw loose4, hk.val w) := fun w g d tk os => by kernel_rfl
-- H4
theorem law_said : OpenLaw.wellSaid PySem.Challenge.rw_on0242_01 = true := by
  rw [Fast.te9446332074065402090]
  kernel_rfl
-- H5
theorem top_left : LeftO PySem.Challenge.pw_on0242_01 vw loose4 xt hk.obs hk.val 5944 true :=
  left_of_run top_open top_tree top_size (by decide) (M := 2930) fun w => by
    funext os
    have h := congrFun (top_run w) os
    rw [← Fast.te6613529449190102663, ← Fast.te10156331382660048174, ← Fast.te11892475500146522536, ← Fast.te14364793385576792824] at h
    obtain ⟨r, hr, he⟩ := Option.map_eq_some_iff.mp h
    refine (congrArg (Option.map _) hr).trans ?_
    obtain ⟨T, n, life, gens, d, tk, os'⟩ := r
    simp only [Prod.mk.injEq] at he
    obtain ⟨e1, e2, e3, e4, e5⟩ := he
    subst e1; subst e2; subst e3
    have hab : SharedT.abs ⟨T, 458, {}, Array.mk [], d, tk, os'⟩ = endT w (fun i => (T.get i).getD default) d tk os' := by
      show Shared.mk (absHeap T 458 {}) _ _ _ _ = Shared.mk (absHeap _ 458 {}) _ _ _ _
      unfold absHeap
      rw [same_list e5]
    have a := look_a w (fun i => (T.get i).getD default) d tk os'
    have b := look_b w (fun i => (T.get i).getD default) d tk os'
    simp only [← hab, Prod.mk.injEq] at a b
    obtain ⟨a0, a1, a2, a3⟩ := a
    obtain ⟨b1, b2, b3, b4, b5, b6⟩ := b
    have hs : openSeen vw loose4 mods xt true (SharedT.abs ⟨T, 458, {}, Array.mk [], d, tk, os'⟩) = openGood vw loose4 :=
      Prod.ext a1 (Prod.ext a2 (Prod.ext a3 (Prod.ext e4 (Prod.ext b1 (Prod.ext b2 (Prod.ext b3 (Prod.ext b4 b5)))))))
    exact congrArg some (Prod.ext a0 (Prod.ext hs b6))
-- H6
theorem top_hd {d : DefRec} {kwd : List (Str × Expr)} (hdef : defOf vw (Str.ofString "law") = some (d, kwd)) (h1 : PySem.Challenge.rw_on0242_01.prog.theDef (Str.ofString "law") = some (d.params, d.body, d.scope)) (h2 : kwWritten? d.params.kwonlyargs d.params.kw_defaults = some kwd)
    (hc : WalkO vw [Str.ofString "fraction", Str.ofString "length", Str.ofString "length_styles", Str.ofString "Look"] (XL vw []) (kHook mk.heap_1 keyAs keysOf).says PySem.Challenge.rw_on0242_01.row.toRowW d kwd fun f vs => call f vs)
    (hw : PySem.Challenge.rw_on0242_01.row.toRowW.promised) :
    PySem.Challenge.rw_on0242_01.Holds :=
  holds_law law_said fun said => holds_open (q := vw) (loose := [Str.ofString "fraction", Str.ofString "length", Str.ofString "length_styles", Str.ofString "Look"]) (Xt := fun s => xlAt vw [] s && recOk rowW.records s) (XP := XL vw []) (Yf := hk.obs) (Ya := hk.val) (YP := hk.says) (N := 5944)
    top_left (Hook.of hk) (Hook.keeps hk) (fun s e => xl_of s (Bool.and_eq_true_iff.mp e).1) XL.keeps hdef h1 h2 (fun s e => recFacts_of (Bool.and_eq_true_iff.mp e).2) (by rfl) said (by decide +kernel) ⟨rfl, rfl, rfl, rfl, rfl, by decide +kernel⟩ hw hc
theorem hd_w : PySem.Challenge.rw_on0242_01.row.toRowW.promised := by w_witness2
-- C0
/-- where a call stands: a def's frame, its depth, what holds of the base heap -/
structure Site (w : World) (loose : List Str) (mean : ExcName → Option Value) (mg mb : Str → Option Value) (D : Nat)
    (A : Around) (h₀ : Heap) (L : Addr) (dp un : Nat) (gd : Option (List Code)) (cn : Str) (cs : Scope) (a : Addr) (ccd : Value) (cl : List (Str × Addr)) (outer : List Env) (A₀ : Around) (base : Heap) : Prop where
  shape : A = ktrTop dp un gd cn cs L a ccd cl outer
  below : Below A₀ base outer h₀
  kind : cs.kind = .function
  depth : dp + D < 690
  units : un + 8 * D < 6900
  kin : (mk.heap_1 w.params).In h₀
  top : Top vw loose mean mg mb h₀

structure SrcOk (b m : Int) : Prop where
  b0 : 0 ≤ b
  m0 : 0 ≤ m
  m1 : m < 2147483647

abbrev srcObj (b m : Int) (tb tm : Tok) (n : Nat) : Obj := listOf #[.int b tb, .int m tm] n

local macro_rules | `(tactic| k_all) => `(tactic| assumption)
theorem fill_here : PySem.Challenge.rw_on0242_01 = PySem.Challenge.rw_on0242_01 ∧ mk.heap_1 = mk.heap_1 := by
  k_fill
  w_top off
  exact ⟨rfl, rfl⟩

theorem mul_src_ok (b x y : Int) : PySem.IntMulOk ([b, x.fmod 2147483647].getD (Int.toNat 1) 0) y :=
  PySem.IntMulOk.of_left (by
    have h0 : 0 ≤ x.fmod 2147483647 := Int.fmod_nonneg_of_pos _ (by decide)
    have h1 : x.fmod 2147483647 < 2147483647 := Int.fmod_lt_of_pos _ (by decide)
    show Builtin.Int.intBits (x.fmod 2147483647) ≤ 64
    exact PySem.intBits_le_64 (by omega) (by omega))
local macro_rules | `(tactic| mul_fits) => `(tactic| exact mul_src_ok _ _ _)
theorem take_spec {w : World} {loose mean mg mb} {A : Around} {h₀ : Heap} {L : Addr} {dp un gd cn cs a ccd cl outer A₀ base}
    (S : Site w loose mean mg mb 5 A h₀ L dp un gd cn cs a ccd cl outer A₀ base)
    {m : Str → Option Value} {news : List (Addr × Obj)} {s : Shared} {src : Addr} {b mm top : Int} {tb tm tt : Tok} {n : Nat} {Q E : Value → Shared → Prop}
    (F : Fr h₀ L s.heap m) (N : News h₀ L s.heap ((src, srcObj b mm tb tm n) :: news)) (hne : ∀ p ∈ news, p.1 ≠ src)
    (ok : SrcOk b mm) (ht0 : 0 < top) (ht1 : top ≤ 100)
    (ret : ∀ r b' m' t' tb' tm' n' h' tk', 0 ≤ r → r < top → SrcOk b' m' → Fr h₀ L h' m → News h₀ L h' ((src, srcObj b' m' tb' tm' n') :: news) → Q (.int r t') { s with heap := h', toks := tk' }) :
    wpAny (model PySem.Challenge.rw_on0242_01.row.prog w) A (call (.ref 391) [.ref src, .int top tt]) Q E s := by
  obtain ⟨rfl, B, hk, hd, hu, X, T⟩ := S
  obtain ⟨b0, m0, m1⟩ := ok
  refine wpAny_call ?_
  k_dflt ktr_enter
  k_steps
  · refine ret _ _ _ _ _ _ _ _ _ ?_ ?_ ?_ (by assumption) (by assumption)
    · exact Int.fmod_nonneg_of_pos _ ht0
    · exact Int.fmod_lt_of_pos _ ht0
    · exact ⟨Int.fdiv_nonneg b0 (Int.le_of_lt ht0), m0, m1⟩
  · refine ret _ _ _ _ _ _ _ _ _ ?_ ?_ ?_ (by assumption) (by assumption)
    · exact Int.fmod_nonneg_of_pos _ ht0
    · exact Int.fmod_lt_of_pos _ ht0
    · exact ⟨b0, Int.fmod_nonneg_of_pos _ (by decide), Int.fmod_lt_of_pos _ (by decide)⟩
-- C1
local macro_rules | `(tactic| k_all) => `(tactic| assumption)

theorem fill1 : PySem.Challenge.rw_on0242_01 = PySem.Challenge.rw_on0242_01 ∧ mk.heap_1 = mk.heap_1 := by
  k_fill
  w_top off
  exact ⟨rfl, rfl⟩

theorem News.perm {h₀ h : Heap} {L : Addr} {n1 n2 : List (Addr × Obj)} (N : News h₀ L h n1) (s : ∀ p ∈ n2, p ∈ n1) : News h₀ L h n2 := fun p hp => N p (s p hp)

theorem take_use {w : World} {loose mean mg mb} {A : Around} {h₀ : Heap} {L : Addr} {dp un gd cn cs a ccd cl outer A₀ base}
    (S : Site w loose mean mg mb 5 A h₀ L dp un gd cn cs a ccd cl outer A₀ base)
    {m : Str → Option Value} {news : List (Addr × Obj)} {g : Obj → List (Addr × Obj)} {s : Shared} {src : Addr} {b mm top : Int} {tb tm tt : Tok} {n : Nat} {Q E : Value → Shared → Prop}
    (F : Fr h₀ L s.heap m) (N : News h₀ L s.heap news) (U : UpdF src (srcObj b mm tb tm n) news g)
    (ok : SrcOk b mm) (ht0 : 0 < top) (ht1 : top ≤ 100)
    (ret : ∀ r b' m' t' tb' tm' n' h' tk', 0 ≤ r → r < top → SrcOk b' m' → Fr h₀ L h' m → News h₀ L h' (g (srcObj b' m' tb' tm' n')) → Q (.int r t') { s with heap := h', toks := tk' }) :
    wpAny (model PySem.Challenge.rw_on0242_01.row.prog w) A (call (.ref 391) [.ref src, .int top tt]) Q E s := by
  obtain ⟨pre, post, rfl, hg, h1, h2⟩ := U.split
  refine take_spec (news := pre ++ post) (tb := tb) (tm := tm) (n := n) S F (News.perm N fun p hp => ?_) (fun p hp => ?_) ok ht0 ht1 (fun r b' m' t' tb' tm' n' h' tk' a1 a2 a3 a4 a5 => ret r b' m' t' tb' tm' n' h' tk' a1 a2 a3 a4 (News.perm a5 fun p hp => ?_))
  · simp only [List.mem_cons, List.mem_append] at hp ⊢; rcases hp with h | h | h <;> simp [h]
  · rcases List.mem_append.mp hp with h | h
    · exact h1 p h
    · exact h2 p h
  · rw [hg] at hp
    simp only [List.mem_cons, List.mem_append] at hp ⊢; rcases hp with h | h | h <;> simp [h]

local macro_rules | `(tactic| walk_at "call ref") => `(tactic| (
  (with_reducible show wpAny _ _ (call (Value.ref 391) [Value.ref _, Value.int _ _]) _ _ _)
  k_dflt (refine' take_use ⟨?s1, ?s2, ?s3, ?s4, ?s5, ?s6, ?s7⟩ ?k1 ?k2 ?k3 ?k4 ?k5 ?k6 ?_)
  walk_at "own site"
  (case k3 => k_updF)
  (case k4 => assumption)
  (case k5 => omega)
  (case k6 => omega)
  intro r' b' m' t' tb' tm' n' h' tk' hr0' hr1' ok' F' N'; (try dsimp only); (try k_fold)))

theorem isl {h₀ h : Heap} {L l : Addr} {news : List (Addr × Obj)} {its : Array Value} {n : Nat} (N : News h₀ L h news) (hm : (l, listOf its n) ∈ news) : h.IsList l its := ⟨_, N.get hm, rfl, _, rfl⟩
theorem item_at {prog : Program} {w : World} {A : Around} {s : Shared} {E : Value → Shared → Prop} {value slice : Expr} {l : Addr} {items : List Value} {k : Int} {u : Tok} {Q : Value → Shared → Prop} (hl : s.heap.IsList l items.toArray)
    (h0 : 0 ≤ k) (h1 : k < items.length) (hb : items.length ≤ 1000) (h : ∀ hi : k.toNat < items.length, Q items[k.toNat] s)
    (hs : subscripted slice false (.ref l) (.int k u) = operate [.ref l, .int k u] (getItem (.ref l) (.int k u)) := by with_unfolding_all rfl) (hg : ∀ r, letTemporaryGo value (.ref l) r = pure () := by intro _; with_unfolding_all rfl) :
    wpAny (model prog w) A (subscriptTail value slice (.ref l) (.int k u)) Q E s := by
  have hi : k.toNat < items.length := by omega
  exact item_list hl h0 (by omega) (by simp [hi]) (h hi) hs hg

theorem one_spec {w : World} {loose mean mg mb} {A : Around} {h₀ : Heap} {L : Addr} {dp un gd cn cs a ccd cl outer A₀ base}
    (S : Site w loose mean mg mb 8 A h₀ L dp un gd cn cs a ccd cl outer A₀ base)
    {m : Str → Option Value} {news : List (Addr × Obj)} {s : Shared} {src lst : Addr} {b mm : Int} {tb tm : Tok} {n nl : Nat} {items : List Value} {Q E : Value → Shared → Prop}
    (F : Fr h₀ L s.heap m) (N : News h₀ L s.heap ((lst, listOf items.toArray nl) :: (src, srcObj b mm tb tm n) :: news)) (hne : ∀ p ∈ news, p.1 ≠ src) (hl : lst ≠ src)
    (ok : SrcOk b mm) (ht0 : 0 < items.length) (ht1 : items.length ≤ 100)
    (ret : ∀ i b' m' tb' tm' n' h' tk', (hi : i < items.length) → SrcOk b' m' → Fr h₀ L h' m → News h₀ L h' ((src, srcObj b' m' tb' tm' n') :: news) → Q items[i] { s with heap := h', toks := tk' }) :
    wpAny (model PySem.Challenge.rw_on0242_01.row.prog w) A (call (.ref 398) [.ref src, .ref lst]) Q E s := by
  obtain ⟨rfl, B, hk, hd, hu, X, T⟩ := S
  refine wpAny_call ?_
  k_dflt ktr_enter
  k_steps
  rename News _ _ _ _ => N1
  refine len_list (items := items.toArray) (isl N1 (.head _)) (by simp only [List.size_toArray]; omega) ?_
  try dsimp only
  try simp only [List.size_toArray]
  k_steps
  rename News _ _ _ _ => N2
  refine item_at (isl N2 (.head _)) (by assumption) (by assumption) (by omega) (fun hi => ?_)
  k_steps
  exact ret _ _ _ _ _ _ _ _ hi (by assumption) (by assumption) (News.perm (by assumption) fun p hp => .tail _ hp)

theorem one_use {w : World} {loose mean mg mb} {A : Around} {h₀ : Heap} {L : Addr} {dp un gd cn cs a ccd cl outer A₀ base}
    (S : Site w loose mean mg mb 8 A h₀ L dp un gd cn cs a ccd cl outer A₀ base)
    {m : Str → Option Value} {news : List (Addr × Obj)} {g : Obj → List (Addr × Obj)} {s : Shared} {src lst : Addr} {b mm : Int} {tb tm : Tok} {n nl : Nat} {items : List Value} {Q E : Value → Shared → Prop}
    (F : Fr h₀ L s.heap m) (N : News h₀ L s.heap news) (hm : (lst, listOf items.toArray nl) ∈ news) (hl : lst ≠ src) (U : UpdF src (srcObj b mm tb tm n) news g)
    (ok : SrcOk b mm) (ht0 : 0 < items.length) (ht1 : items.length ≤ 100)
    (ret : ∀ v b' m' tb' tm' n' h' tk', v ∈ items → SrcOk b' m' → Fr h₀ L h' m → News h₀ L h' (g (srcObj b' m' tb' tm' n')) → Q v { s with heap := h', toks := tk' }) :
    wpAny (model PySem.Challenge.rw_on0242_01.row.prog w) A (call (.ref 398) [.ref src, .ref lst]) Q E s := by
  obtain ⟨pre, post, rfl, hg, h1, h2⟩ := U.split
  refine one_spec (nl := nl) (news := pre ++ post) (tb := tb) (tm := tm) (n := n) S F (News.perm N fun p hp => ?_) (fun p hp => ?_) hl ok ht0 ht1 (fun i b' m' tb' tm' n' h' tk' hi a3 a4 a5 => ret _ b' m' tb' tm' n' h' tk' (List.getElem_mem hi) a3 a4 (News.perm a5 fun p hp => ?_))
  · simp only [List.mem_cons, List.mem_append] at hp ⊢; rcases hp with h | h | h | h <;> simp_all
  · rcases List.mem_append.mp hp with h | h
    · exact h1 p h
    · exact h2 p h
  · rw [hg] at hp
    simp only [List.mem_cons, List.mem_append] at hp ⊢; rcases hp with h | h | h <;> simp [h]

def maxLen (l : List Str) : Nat := l.foldr (fun x n => max x.length n) 0
theorem len_le_max {x : Str} : ∀ {l : List Str}, x ∈ l → x.length ≤ maxLen l
  | y :: r, h => by
    unfold maxLen; rw [List.foldr_cons]
    rcases List.mem_cons.mp h with rfl | h
    · exact Nat.le_max_left _ _
    · exact Nat.le_trans (len_le_max h) (Nat.le_max_right _ _)
theorem len_of {x : Str} {l : List Str} (n : Nat) (h : x ∈ l) (hn : maxLen l ≤ n) : x.length ≤ n := Nat.le_trans (len_le_max h) hn
def strsOf : List Value → List Str
  | [] => []
  | .str x _ :: r => x :: strsOf r
  | _ :: r => strsOf r
def allStrs : List Value → Bool
  | [] => true
  | .str _ _ :: r => allStrs r
  | _ :: _ => false
theorem mem_strs : ∀ {items : List Value}, allStrs items = true → ∀ {v}, v ∈ items → ∃ x t, v = .str x t ∧ x ∈ strsOf items
  | .str x t :: r, h, v, hv => by
    rcases List.mem_cons.mp hv with rfl | hv
    · exact ⟨x, t, rfl, .head _⟩
    · obtain ⟨x', t', e, m⟩ := mem_strs (items := r) h hv
      exact ⟨x', t', e, .tail _ m⟩

theorem one_useS {w : World} {loose mean mg mb} {A : Around} {h₀ : Heap} {L : Addr} {dp un gd cn cs a ccd cl outer A₀ base}
    (S : Site w loose mean mg mb 8 A h₀ L dp un gd cn cs a ccd cl outer A₀ base)
    {m : Str → Option Value} {news : List (Addr × Obj)} {g : Obj → List (Addr × Obj)} {s : Shared} {src lst : Addr} {b mm : Int} {tb tm : Tok} {n nl : Nat} {items : List Value} {Q E : Value → Shared → Prop}
    (F : Fr h₀ L s.heap m) (N : News h₀ L s.heap news) (hm : (lst, listOf items.toArray nl) ∈ news) (hl : lst ≠ src) (U : UpdF src (srcObj b mm tb tm n) news g)
    (ok : SrcOk b mm) (ht0 : 0 < items.length) (ht1 : items.length ≤ 100) (hs : allStrs items = true)
    (ret : ∀ x t b' m' tb' tm' n' h' tk', x ∈ strsOf items → SrcOk b' m' → Fr h₀ L h' m → News h₀ L h' (g (srcObj b' m' tb' tm' n')) → Q (.str x t) { s with heap := h', toks := tk' }) :
    wpAny (model PySem.Challenge.rw_on0242_01.row.prog w) A (call (.ref 398) [.ref src, .ref lst]) Q E s := by
  refine one_use S F N hm hl U ok ht0 ht1 (fun v b' m' tb' tm' n' h' tk' hv a1 a2 a3 => ?_)
  obtain ⟨x, t, rfl, hx⟩ := mem_strs hs hv
  exact ret x t b' m' tb' tm' n' h' tk' hx a1 a2 a3

local macro_rules | `(tactic| walk_at "call ref") => `(tactic| (
  (with_reducible show wpAny _ _ (call (Value.ref 398) [Value.ref _, Value.ref _]) _ _ _)
  k_dflt (refine' one_useS ⟨?s1, ?s2, ?s3, ?s4, ?s5, ?s6, ?s7⟩ ?k1 ?k2 ?k3 ?k3b ?k3c ?k4 ?k5 ?k6 ?k7 ?_)
  walk_at "own site"
  (case k3 => k_mem)
  (case k3b => k_ne)
  (case k3c => k_updF)
  (case k4 => assumption)
  (case k5 => exact Nat.zero_lt_succ _)
  (case k6 => exact Nat.le_of_ble_eq_true rfl)
  (case k7 => exact rfl)
  intro x' t' b' m' tb' tm' n' h' tk' hx' ok' F' N'; (try simp only [strsOf] at hx'); have hxl' := len_of 20 hx' (by decide +kernel); (try dsimp only); walk_at "own end"))
-- CL
def Stop (p : Prop) : Prop := p
theorem stop {p : Prop} (h : Stop p) : p := h

section
variable {prog : Program} {w : World} {A : Around} {E : Value → Shared → Prop} {s : Shared} {env : Env} {h₀ : Heap} {x : Str} {body : List Stmt} {Q : Flow → Shared → Prop}

/-- a turn's end: the tracked objects stand at their addresses, the rest as it was -/
def TurnEnd (h₀ : Heap) (L : Addr) (J : (Str → Option Value) → List (Addr × Obj) → Prop) (rest : List (Addr × Obj)) (adr : List Addr) (s₁ s₂ : Shared) : Prop :=
  ∃ h' tk m' trk, s₂ = { s₁ with heap := h', toks := tk } ∧ Fr h₀ L h' m' ∧ News h₀ L h' (trk ++ rest) ∧ trk.map (·.1) = adr ∧ J m' trk
def TurnPost (h₀ : Heap) (L : Addr) (J : (Str → Option Value) → List (Addr × Obj) → Prop) (rest : List (Addr × Obj)) (adr : List Addr) (s₁ : Shared) (Q : Flow → Shared → Prop) (f : Flow) (s₂ : Shared) : Prop :=
  match f with
  | .ret v => Q (.ret v) s₂
  | .brk => Q .next s₂
  | _ => TurnEnd h₀ L J rest adr s₁ s₂

theorem loop_trk {I : Addr} {fp wr : List Addr} {n : Nat} {P : Nat → Value → Prop} {St : Nat → Heap → Prop} {m₀ : Str → Option Value} {trk news : List (Addr × Obj)} (J : Nat → (Str → Option Value) → List (Addr × Obj) → Prop)
    (W : Walks prog w A I fp wr n P St) (hLf : env.locals ∉ fp) (hwr : ∀ b ∈ wr, h₀.get? b = none) (hnw : ∀ p ∈ trk ++ news, p.1 ∉ wr) (hfp : ∀ q ∈ trk ++ news, q.1 ∉ fp) (hst : St 0 s.heap) (F : Fr h₀ env.locals s.heap m₀)
    (N : News h₀ env.locals s.heap (trk ++ news)) (hoff : OwnOff news (trk.map (·.1))) (hj : J 0 m₀ trk)
    (turn : ∀ i v m₁ trk₁ h tk rest, (∀ p ∈ news, p ∈ rest) → i < n → P i v → trk₁.map (·.1) = trk.map (·.1) → OwnOff rest (trk.map (·.1)) → J i m₁ trk₁ → Fr h₀ env.locals h (fun y => if y = x then some v else m₁ y) → News h₀ env.locals h (trk₁ ++ rest) →
      wpAny (model prog w) A (execs body env) (TurnPost h₀ env.locals (J (i + 1)) rest (trk.map (·.1)) { s with heap := h, toks := tk } Q) E { s with heap := h, toks := tk })
    (done : ∀ m₁ trk₁ h tk, trk₁.map (·.1) = trk.map (·.1) → J n m₁ trk₁ → Fr h₀ env.locals h m₁ → News h₀ env.locals h (trk₁ ++ news) → Q .next { s with heap := h, toks := tk }) :
    LoopAtV prog w A h₀ env x body Q E (.ref I) s := by
  refine loop_invN (news := trk ++ news) (fun i m₁ news₁ => ∃ trk₁, news₁ = trk₁ ++ news ∧ trk₁.map (·.1) = trk.map (·.1) ∧ J i m₁ trk₁) W hLf hwr hnw hfp hst F N ⟨trk, rfl, rfl, hj⟩ ?_ ?_
  · rintro i v m₁ news₁ h tk own hi hP hadr hown ⟨trk₁, rfl, ha, hJ⟩ F₁ N₁
    have N₂ : News h₀ env.locals h (trk₁ ++ (news ++ own)) := by rw [← List.append_assoc]; exact N₁
    have ho : OwnOff (news ++ own) (trk.map (·.1)) := by
      intro p hp b hb
      rcases List.mem_append.mp hp with h1 | h1
      · exact hoff p h1 b hb
      · exact hown p h1 b (by rw [List.map_append]; exact List.mem_append_left _ hb)
    refine wpAny_mono (turn i v m₁ trk₁ h tk (news ++ own) (fun p hp => List.mem_append_left _ hp) hi hP ha ho hJ F₁ N₂) (fun f s₂ p => ?_) fun _ _ e => e
    have fin : TurnEnd h₀ env.locals (J (i + 1)) (news ++ own) (trk.map (·.1)) { s with heap := h, toks := tk } s₂ →
        InvEndN h₀ env.locals (fun m₁ news₁ => ∃ trk₁, news₁ = trk₁ ++ news ∧ trk₁.map (·.1) = trk.map (·.1) ∧ J (i + 1) m₁ trk₁) own ((trk ++ news).map (·.1)) { s with heap := h, toks := tk } s₂ := by
      rintro ⟨h', tk', m', trk', e, F', N', ha', hJ'⟩
      refine ⟨h', tk', m', trk' ++ (news ++ own), trk' ++ news, e, F', N', ?_, ?_, ?_, ⟨trk', rfl, ha', hJ'⟩⟩
      · intro p hp; rw [← List.append_assoc]; exact List.mem_append_left _ hp
      · intro p hp; exact List.mem_append_right _ (List.mem_append_right _ hp)
      · rw [List.map_append, List.map_append, ha']
    cases f with
    | ret v => exact p
    | brk => exact p
    | next => exact fin p
    | cont => exact fin p
  · rintro m₁ news₁ h tk ⟨trk₁, rfl, ha, hJ⟩ F₁ N₁
    exact done m₁ trk₁ h tk ha hJ F₁ N₁

theorem iter_range {r : Addr} {a₀ b₀ : Int} {t₀ u₀ v₀ : Tok} {n : Nat} {m₀ : Str → Option Value} {trk news : List (Addr × Obj)}
    (J : Nat → (Str → Option Value) → List (Addr × Obj) → Prop)
    (hh : A.handled = none) (hr : IsRange s.heap r a₀ b₀ 1 t₀ u₀ v₀) (hsmall : Builtin.Range.small a₀ b₀ 1 = true) (hn : Builtin.Range.rangeSize a₀ b₀ 1 = (n : Int)) (F : Fr h₀ env.locals s.heap m₀)
    (N : News h₀ env.locals s.heap (trk ++ news)) (hoff : OwnOff news (trk.map (·.1))) (hj : J 0 m₀ trk)
    (turn : ∀ i t m₁ trk₁ h tk rest, (∀ p ∈ news, p ∈ rest) → i < n → trk₁.map (·.1) = trk.map (·.1) → OwnOff rest (trk.map (·.1)) → J i m₁ trk₁ → Fr h₀ env.locals h (fun y => if y = x then some (.int (a₀ + (i : Int)) t) else m₁ y) → News h₀ env.locals h (trk₁ ++ rest) →
      wpAny (model prog w) A (execs body env) (TurnPost h₀ env.locals (J (i + 1)) rest (trk.map (·.1)) { s with heap := h, toks := tk } Q) E { s with heap := h, toks := tk })
    (done : ∀ m₁ trk₁ h tk, trk₁.map (·.1) = trk.map (·.1) → J n m₁ trk₁ → Fr h₀ env.locals h m₁ → News h₀ env.locals h (trk₁ ++ news) → Q .next { s with heap := h, toks := tk }) :
    wpAny (model prog w) A (pyIter (.ref r)) (fun it s₂ => LoopAtV prog w A h₀ env x body Q E it s₂) E s := by
  refine wpAny_pyIter_range hr hsmall ?_
  have W : Walks prog w A s.heap.objs.size [s.heap.objs.size] [s.heap.objs.size] n (fun i v => ∃ t, v = .int (a₀ + i * 1) t)
      (fun i h => IsRangeIter h s.heap.objs.size (a₀ + (i : Nat) * 1) ((n : Int) - (i : Nat)) 1) := Walks.range hh _ a₀ 1 n
  have off : ∀ p ∈ trk ++ news, p.1 ∉ [s.heap.objs.size] := fun p hp hI => absurd (Heap.lt_size (N p hp).1) ((List.mem_singleton.mp hI) ▸ Nat.lt_irrefl _)
  refine loop_trk J W ?_ ?_ off off (by show IsRangeIter _ _ _ _ _; rw [hn]; simpa using Heap.get?_push_size _ rfl) (F.push _) (fun p hp => ⟨Heap.get?_push_of_some _ (N p hp).1, (N p hp).2⟩) hoff hj ?_ ?_
  · intro hm; exact absurd F.ns.lt ((List.mem_singleton.mp hm) ▸ Nat.lt_irrefl _)
  · intro b hb; rw [List.mem_singleton.mp hb]; exact next_is_new F
  · rintro i v m₁ trk₁ h tk rest hsub hi ⟨t, rfl⟩ ha ho hJ F₁ N₁
    rw [Int.mul_one] at F₁
    exact turn i t m₁ trk₁ h tk rest hsub hi ha ho hJ F₁ N₁
  · exact done

theorem iter_list {l : Addr} {vs : List Value} {m₀ : Str → Option Value} {trk news : List (Addr × Obj)}
    (J : Nat → (Str → Option Value) → List (Addr × Obj) → Prop)
    (hh : A.handled = none) (F : Fr h₀ env.locals s.heap m₀) (N : News h₀ env.locals s.heap (trk ++ news)) (hl : s.heap.IsList l vs.toArray) (hL : env.locals ≠ l) (hlo : ∀ p ∈ trk ++ news, p.1 ≠ l)
    (hoff : OwnOff news (trk.map (·.1))) (hj : J 0 m₀ trk)
    (turn : ∀ i v m₁ trk₁ h tk rest, (∀ p ∈ news, p ∈ rest) → vs[i]? = some v → trk₁.map (·.1) = trk.map (·.1) → OwnOff rest (trk.map (·.1)) → J i m₁ trk₁ → Fr h₀ env.locals h (fun y => if y = x then some v else m₁ y) → News h₀ env.locals h (trk₁ ++ rest) →
      wpAny (model prog w) A (execs body env) (TurnPost h₀ env.locals (J (i + 1)) rest (trk.map (·.1)) { s with heap := h, toks := tk } Q) E { s with heap := h, toks := tk })
    (done : ∀ m₁ trk₁ h tk, trk₁.map (·.1) = trk.map (·.1) → J vs.length m₁ trk₁ → Fr h₀ env.locals h m₁ → News h₀ env.locals h (trk₁ ++ news) → Q .next { s with heap := h, toks := tk }) :
    wpAny (model prog w) A (pyIter (.ref l)) (fun it s₂ => LoopAtV prog w A h₀ env x body Q E it s₂) E s := by
  obtain ⟨ol, hol, _⟩ := id hl
  refine wpAny_pyIter_list hl ?_
  have hne : l ≠ s.heap.objs.size := Nat.ne_of_lt (Heap.lt_size hol)
  have W := Walks.list (prog := prog) (w := w) hh s.heap.objs.size l hne vs.toArray
  have hlen : vs.toArray.size = vs.length := by simp
  rw [hlen] at W
  have off : ∀ p ∈ trk ++ news, p.1 ∉ [s.heap.objs.size] := fun p hp hI => absurd (Heap.lt_size (N p hp).1) ((List.mem_singleton.mp hI) ▸ Nat.lt_irrefl _)
  refine loop_trk J W ?_ ?_ off ?_ ⟨⟨_, Heap.get?_push_size _ rfl, rfl, rfl⟩, hl.at fun o e => Heap.get?_push_of_some _ e⟩ (F.push _) (fun p hp => ⟨Heap.get?_push_of_some _ (N p hp).1, (N p hp).2⟩) hoff hj ?_ ?_
  · intro hm
    rcases List.mem_cons.mp hm with e | hm
    · exact absurd F.ns.lt (e ▸ Nat.lt_irrefl _)
    · exact hL (List.mem_singleton.mp hm)
  · intro b hb; rw [List.mem_singleton.mp hb]; exact next_is_new F
  · intro q hq hI
    rcases List.mem_cons.mp hI with e | hI
    · exact off q hq (by rw [e]; exact .head _)
    · exact hlo q hq (List.mem_singleton.mp hI)
  · rintro i v m₁ trk₁ h tk rest hsub hi hP ha ho hJ F₁ N₁
    exact turn i v m₁ trk₁ h tk rest hsub (by simpa using hP) ha ho hJ F₁ N₁
  · exact done
end

theorem turnEnd1 {h₀ h' : Heap} {L a : Addr} {oa : Obj} {J : (Str → Option Value) → List (Addr × Obj) → Prop} {rest : List (Addr × Obj)} {adr : List Addr} {s₁ : Shared} {Q : Flow → Shared → Prop} {m' : Str → Option Value} {tk : Nat}
    (F : Fr h₀ L h' m') (N : News h₀ L h' ((a, oa) :: rest)) (hj : J m' [(a, oa)]) (ha : [a] = adr) : TurnPost h₀ L J rest adr s₁ Q .next { s₁ with heap := h', toks := tk } :=
  ⟨h', tk, m', [(a, oa)], rfl, F, N, ha, hj⟩
theorem turnEnd2 {h₀ h' : Heap} {L a b : Addr} {oa ob : Obj} {J : (Str → Option Value) → List (Addr × Obj) → Prop} {rest : List (Addr × Obj)} {adr : List Addr} {s₁ : Shared} {Q : Flow → Shared → Prop} {m' : Str → Option Value} {tk : Nat}
    (F : Fr h₀ L h' m') (N : News h₀ L h' ((a, oa) :: (b, ob) :: rest)) (hj : J m' [(a, oa), (b, ob)]) (ha : [a, b] = adr) : TurnPost h₀ L J rest adr s₁ Q .next { s₁ with heap := h', toks := tk } :=
  ⟨h', tk, m', [(a, oa), (b, ob)], rfl, F, N, ha, hj⟩
theorem turnEnd3 {h₀ h' : Heap} {L a b c : Addr} {oa ob oc : Obj} {J : (Str → Option Value) → List (Addr × Obj) → Prop} {rest : List (Addr × Obj)} {adr : List Addr} {s₁ : Shared} {Q : Flow → Shared → Prop} {m' : Str → Option Value} {tk : Nat}
    (F : Fr h₀ L h' m') (N : News h₀ L h' ((a, oa) :: (b, ob) :: (c, oc) :: rest)) (hj : J m' [(a, oa), (b, ob), (c, oc)]) (ha : [a, b, c] = adr) : TurnPost h₀ L J rest adr s₁ Q .next { s₁ with heap := h', toks := tk } :=
  ⟨h', tk, m', [(a, oa), (b, ob), (c, oc)], rfl, F, N, ha, hj⟩

theorem ownOff_of {rest : List (Addr × Obj)} {adr : List Addr} (h : ∀ b ∈ adr, ∀ p ∈ rest, p.1 ≠ b) : OwnOff rest adr := fun p hp b hb => h b hb p hp
theorem off_one {rest : List (Addr × Obj)} {a : Addr} {adr : List Addr} (h : OwnOff rest (a :: adr)) : (∀ p ∈ rest, p.1 ≠ a) ∧ OwnOff rest adr := ⟨fun p hp => h p hp a (.head _), fun p hp b hb => h p hp b (.tail _ hb)⟩
theorem allLt_ne {d : Addr} {l : List (Addr × Obj)} (h : AllLt d l) : ∀ p ∈ l, p.1 ≠ d := fun p hp => Nat.ne_of_lt (tb_ltOf h p hp)
/-- k_all for an opaque tail: a fact at hand says so -/
local macro_rules | `(tactic| k_all) => `(tactic| first | assumption | exact allLt_ne (by assumption) | exact (allLt_ne (And.right (by assumption))))
-- CD
/-- a dict's pairs are texts at texts -/
inductive SP : List (Str × Value) → List (Str × Str) → Prop
  | nil : SP [] []
  | cons {k v : Str} {t : Tok} {kvs : List (Str × Value)} {D : List (Str × Str)} : SP kvs D → SP ((k, .str v t) :: kvs) ((k, v) :: D)
def lookS (D : List (Str × Str)) (k : Str) : Option Str := (D.find? fun p => p.1 = k).map (·.2)
def storedS (D : List (Str × Str)) (k v : Str) : List (Str × Str) :=
  if D.any (fun p => p.1 = k) then D.map (fun p => if p.1 = k then (p.1, v) else p) else D ++ [(k, v)]

theorem SP.length {kvs D} (h : SP kvs D) : kvs.length = D.length := by
  induction h with
  | nil => rfl
  | cons _ ih => simp [ih]
theorem SP.keys {kvs D} (h : SP kvs D) : kvs.map (·.1) = D.map (·.1) := by
  induction h with
  | nil => rfl
  | cons _ ih => simp [ih]
theorem SP.append {kvs D kvs' D'} (h : SP kvs D) (h' : SP kvs' D') : SP (kvs ++ kvs') (D ++ D') := by
  induction h with
  | nil => exact h'
  | cons _ ih => exact .cons ih
theorem SP.any {kvs D} (h : SP kvs D) (k : Str) : kvs.any (fun p => p.1 = k) = D.any (fun p => p.1 = k) := by
  induction h with
  | nil => rfl
  | cons _ ih => simp only [List.any_cons, ih]
theorem SP.put {kvs D} (h : SP kvs D) (k v : Str) (t : Tok) : SP (kvs.map fun p => if p.1 = k then (p.1, .str v t) else p) (D.map fun p => if p.1 = k then (p.1, v) else p) := by
  induction h with
  | nil => exact .nil
  | @cons k' v' t' kvs D _ ih =>
    simp only [List.map_cons]
    by_cases hk : k' = k
    · simp only [if_pos hk]; exact .cons ih
    · simp only [if_neg hk]; exact .cons ih
theorem SP.stored {kvs D} (h : SP kvs D) (k v : Str) (t : Tok) : SP (stored kvs k (.str v t)) (storedS D k v) := by
  unfold PySem.stored storedS
  rw [h.any]
  split
  · exact h.put k v t
  · exact h.append (.cons .nil)
theorem SP.value {kvs D} (h : SP kvs D) (k : Str) : (lookS D k = none ∧ valueAt kvs k = none) ∨ ∃ v t, lookS D k = some v ∧ valueAt kvs k = some (.str v t) := by
  induction h with
  | nil => exact .inl ⟨rfl, rfl⟩
  | @cons k' v' t' kvs D _ ih =>
    unfold lookS valueAt at *
    simp only [List.find?_cons]
    by_cases hk : k' = k
    · exact .inr ⟨v', t', by simp [hk], by simp [hk]⟩
    · simpa [hk] using ih
theorem SP.value_some {kvs D} (h : SP kvs D) {k v : Str} (e : lookS D k = some v) : ∃ t, valueAt kvs k = some (.str v t) := by
  rcases h.value k with ⟨a, _⟩ | ⟨v', t, a, b⟩
  · rw [e] at a; cases a
  · rw [e] at a; cases a; exact ⟨t, b⟩
theorem SP.value_none {kvs D} (h : SP kvs D) {k : Str} (e : lookS D k = none) : valueAt kvs k = none := by
  rcases h.value k with ⟨_, b⟩ | ⟨v', t, a, _⟩
  · exact b
  · rw [e] at a; cases a

/-- the object is a dict of texts at texts -/
def SD (prog : Program) (w : World) (o : Obj) (D : List (Str × Str)) : Prop := ∃ kvs, o.IsDictOf (strKind prog w) kvs ∧ SP kvs D

theorem storedS_len (D : List (Str × Str)) (k v : Str) : (storedS D k v).length ≤ D.length + 1 := by
  unfold storedS; split <;> simp

section
variable {prog : Program} {w : World} {A : Around} {E : Value → Shared → Prop} {s : Shared} {h₀ : Heap} {L d : Addr} {m : Str → Option Value} {news : List (Addr × Obj)} {g : Obj → List (Addr × Obj)} {o : Obj} {D : List (Str × Str)} {k v : Str} {t u : Tok}

theorem SD.nodup (h : SD prog w o D) : (D.map (·.1)).Nodup := by
  obtain ⟨kvs, ⟨_, _, _, _, _, _, hn⟩, hs⟩ := h
  rw [← hs.keys]; exact hn
theorem SD.dictOf (h : SD prog w o D) (N : News h₀ L s.heap news) (hm : (d, o) ∈ news) : ∃ kvs, s.heap.DictOf (strKind prog w) d kvs ∧ SP kvs D := by
  obtain ⟨kvs, hd, hs⟩ := h
  exact ⟨kvs, Heap.dictOf_iff.mpr ⟨o, N.get hm, hd⟩, hs⟩
theorem SD.nil {o : Obj} (h : o.IsDictOf (strKind prog w) []) : SD prog w o [] := ⟨[], h, .nil⟩

theorem setItem_SD {Q : Unit → Shared → Prop} (F : Fr h₀ L s.heap m) (N : News h₀ L s.heap news) (U : UpdF d o news g) (hd : SD prog w o D) (hsz : D.length ≤ 1000)
    (h : ∀ h' o', Fr h₀ L h' m → News h₀ L h' (g o') → SD prog w o' (storedS D k v) → Q () { s with heap := h', toks := s.toks + 1 }) :
    wpAny (model prog w) A (setItem (.ref d) (.str k t) (.str v u)) Q E s := by
  obtain ⟨pre, post, rfl, hg, a, b⟩ := U.split
  obtain ⟨kvs, hdd, hs⟩ := hd
  have hm := N (d, o) (List.mem_append_right _ (.head _))
  refine wpAny_setItem_pairs (hsz := by rw [hs.length, sizeLine_eq]; omega) (strKind_is prog w k t) (Heap.dictOf_iff.mpr ⟨o, hm.1, hdd⟩) fun h' hmm hsb => ?_
  obtain ⟨o', ho', hd'⟩ := Heap.dictOf_iff.mp hmm
  exact h h' o' (F.change hsb hm.2.1 hm.2.2) (hg o' ▸ N.setIn a b hsb ho') ⟨_, hd', hs.stored k v u⟩

theorem getItem_SD {Q : Value → Shared → Prop} (N : News h₀ L s.heap news) (hm : (d, o) ∈ news) (hd : SD prog w o D) (e : lookS D k = some v)
    (h : ∀ t', Q (.str v t') { s with toks := s.toks + 1 }) : wpAny (model prog w) A (getItem (.ref d) (.str k t)) Q E s := by
  obtain ⟨kvs, hdd, hs⟩ := hd.dictOf N hm
  obtain ⟨t', hv⟩ := hs.value_some e
  exact wpAny_getItem_of (strKind_is prog w k t) hdd.mapOf hv (h t')
theorem item_SD {value slice : Expr} {Q : Value → Shared → Prop} (N : News h₀ L s.heap news) (hm : (d, o) ∈ news) (hd : SD prog w o D) (e : lookS D k = some v)
    (h : ∀ t', Q (.str v t') { s with toks := s.toks + 1 })
    (hs : subscripted slice false (.ref d) (.str k t) = operate [.ref d, .str k t] (getItem (.ref d) (.str k t)) := by with_unfolding_all rfl) : wpAny (model prog w) A (subscriptTail value slice (.ref d) (.str k t)) Q E s := by
  obtain ⟨kvs, hdd, hs'⟩ := hd.dictOf N hm
  exact tail_any hdd.typeIs slot_dict_getitem.lookup (getItem_SD N hm hd e h) hs

theorem in_SD {Q : Value → Shared → Prop} (N : News h₀ L s.heap news) (hm : (d, o) ∈ news) (hd : SD prog w o D) (lo : (d == sysModules) = false)
    (h : Q (.bool (lookS D k).isSome) { s with toks := s.toks + 1 }) : wpAny (model prog w) A (compareOp .In (.str k t) (.ref d)) Q E s := by
  obtain ⟨kvs, hdd, hs⟩ := hd.dictOf N hm
  refine wpAny_in_of (strKind_is prog w k t) lo hdd.mapOf ?_
  rcases hs.value k with ⟨a, b⟩ | ⟨v', t', a, b⟩
  · rw [b]; rw [a] at h; exact h
  · rw [b]; rw [a] at h; exact h
theorem get2_SD {dflt : Value} {Q : Value → Shared → Prop} (N : News h₀ L s.heap news) (hm : (d, o) ∈ news) (hd : SD prog w o D) (lo : (d == sysModules) = false)
    (h1 : lookS D k = none → Q dflt { s with toks := s.toks + 1 }) (h2 : ∀ v t', lookS D k = some v → Q (.str v t') { s with toks := s.toks + 1 }) :
    wpAny (model prog w) A (call (.builtin "dict.get") [.ref d, .str k t, dflt]) Q E s := by
  obtain ⟨kvs, hdd, hs⟩ := hd.dictOf N hm
  refine call_meetsIn PySem.F.slot_dict_get hdd.typeIs PySem.F.entry_dict_get (PySem.F.args_dict_get_3 _ _ _) (meets_dict_get_default (strKind prog w) d (strKind_is prog w k t) lo dflt) ⟨_, hdd.mapOf, ?_⟩
  rcases hs.value k with ⟨a, b⟩ | ⟨v', t', a, b⟩
  · rw [b]; exact h1 a
  · rw [b]; exact h2 _ _ a

theorem hits_SD {A : Around} {kb : List (Str × Value)} {D' : List (Str × Str)} (hb : SP kb D') : ∀ {ka D}, SP ka D → (∀ p ∈ D, lookS D' p.1 = some p.2) → KeqHits A s kb ka true := by
  intro ka D ha
  induction ha with
  | nil => exact fun _ => .nil
  | @cons k v t kvs D _ ih =>
    intro hl
    obtain ⟨t', hv⟩ := hb.value_some (hl (k, v) (.head _))
    have := KeqHits.hit (A := A) (s := s) (v := .str v t) (e := true) hv ?_ (ih fun p hp => hl p (.tail _ hp))
    · simpa using this
    · intro prog w Q E h
      refine wpAny_eqBool_str ?_
      simpa using h
end
-- CP
/-- one turn of the law's style maker -/
inductive Piece where
  | blank (g o : Str)
  | bare (g n o : Str)
  | full (g n o v m e : Str)

def gaps : List Str := ["", " ", "\n"]
def others : List Str := ["", " "]
def names5 : List Str := ["fill", "opacity", "x", "color", "display"]
def values5 : List Str := ["red", "a:b", "", "0.5", "1  2"]
def marks4 : List Str := ["", "", " !important", "!important"]
def ends2 : List Str := [";", "; ;"]

def Piece.ok : Piece → Prop
  | .blank g o => g ∈ gaps ∧ o ∈ others
  | .bare g n o => g ∈ gaps ∧ n ∈ names5 ∧ o ∈ others
  | .full g n o v m e => g ∈ gaps ∧ n ∈ names5 ∧ o ∈ others ∧ v ∈ values5 ∧ m ∈ marks4 ∧ e ∈ ends2
def Piece.text : Piece → Str
  | .blank g o => g ++ (o ++ (";" : Str))
  | .bare g n o => g ++ (n ++ (o ++ (";" : Str)))
  | .full g n o v m e => g ++ (n ++ (o ++ ((":" : Str) ++ (o ++ (v ++ (m ++ (g ++ e)))))))
def Piece.wrong : Piece → Bool
  | .bare .. => true
  | _ => false
def render (ps : List Piece) : Str := ps.foldl (fun a p => a ++ p.text) ""
def dueStep (D : List (Str × Str)) : Piece → List (Str × Str)
  | .full _ n _ v _ _ => storedS D n v
  | _ => D
def duesOf (ps : List Piece) : List (Str × Str) := ps.foldl dueStep []
def wrongOf (ps : List Piece) : Bool := ps.any Piece.wrong

theorem render_snoc (ps : List Piece) (p : Piece) : render (ps ++ [p]) = render ps ++ p.text := by simp [render, List.foldl_append]
theorem duesOf_snoc (ps : List Piece) (p : Piece) : duesOf (ps ++ [p]) = dueStep (duesOf ps) p := by simp [duesOf, List.foldl_append]
theorem wrongOf_snoc (ps : List Piece) (p : Piece) : wrongOf (ps ++ [p]) = (wrongOf ps || p.wrong) := by simp [wrongOf]
theorem duesOf_len (ps : List Piece) : (duesOf ps).length ≤ ps.length := by
  suffices h : ∀ (ps : List Piece) D, (ps.foldl dueStep D).length ≤ D.length + ps.length by simpa [duesOf] using h ps []
  intro ps
  induction ps with
  | nil => intro D; simp
  | cons p r ih =>
    intro D
    rw [List.foldl_cons]
    have h1 := ih (dueStep D p)
    have h2 : (dueStep D p).length ≤ D.length + 1 := by
      cases p <;> simp only [dueStep] <;> first | omega | exact storedS_len _ _ _
    simp only [List.length_cons]; omega

theorem piece_len {p : Piece} (h : p.ok) : p.text.length ≤ 100 := by
  cases p with
  | blank g o =>
    have h1 := len_of 20 h.1 (by decide +kernel)
    have h2 := len_of 20 h.2 (by decide +kernel)
    have h3 : (";" : Str).length = 1 := by decide +kernel
    simp only [Piece.text, Str.length_append]; omega
  | bare g n o =>
    have h1 := len_of 20 h.1 (by decide +kernel)
    have h2 := len_of 20 h.2.1 (by decide +kernel)
    have h4 := len_of 20 h.2.2 (by decide +kernel)
    have h3 : (";" : Str).length = 1 := by decide +kernel
    simp only [Piece.text, Str.length_append]; omega
  | full g n o v m e =>
    obtain ⟨a1, a2, a3, a4, a5, a6⟩ := h
    have h1 := len_of 11 a1 (by decide +kernel)
    have h2 := len_of 11 a2 (by decide +kernel)
    have h4 := len_of 11 a3 (by decide +kernel)
    have h5 := len_of 11 a4 (by decide +kernel)
    have h6 := len_of 11 a5 (by decide +kernel)
    have h7 := len_of 11 a6 (by decide +kernel)
    have h3 : (":" : Str).length = 1 := by decide +kernel
    simp only [Piece.text, Str.length_append]; omega
theorem render_len {ps : List Piece} (h : ∀ p ∈ ps, p.ok) : (render ps).length ≤ 100 * ps.length := by
  suffices hh : ∀ (ps : List Piece), (∀ p ∈ ps, p.ok) → ∀ a : Str, (ps.foldl (fun a p => a ++ p.text) a).length ≤ a.length + 100 * ps.length by
    have := hh ps h ""
    have h0 : ("" : Str).length = 0 := by decide +kernel
    unfold render; omega
  intro ps
  induction ps with
  | nil => intro _ a; simp
  | cons p r ih =>
    intro h a
    rw [List.foldl_cons]
    have h1 := ih (fun q hq => h q (.tail _ hq)) (a ++ p.text)
    have h2 := piece_len (h p (.head _))
    rw [Str.length_append] at h1
    simp only [List.length_cons]; omega
-- PL
section
open StrLaws Builtin.Str

/-! plain: what read_style makes of a rendered text -/
def stepS (D : List (Str × Str)) (p : Str) : Option (List (Str × Str)) :=
  if Txt.strip p = "" then some D else
    if (Txt.partition p ":").2.1 = "" then none else
      some (storedS D (Txt.strip (Txt.partition p ":").1) (Txt.strip (Txt.replace (Txt.partition p ":").2.2 "!important" "")))
def readS (parts : List Str) (D : List (Str × Str)) : Option (List (Str × Str)) := parts.foldlM stepS D

theorem partition_at (a b : Str) (c : Nat) (hc : c ∉ a.cps.toList) : Txt.partition (a ++ ⟨#[c]⟩ ++ b) ⟨#[c]⟩ = (a, ⟨#[c]⟩, b) := by
  have e1 : (⟨#[c]⟩ : Str).length = 1 := rfl
  have hcps : (a ++ ⟨#[c]⟩ ++ b).cps.toList = a.cps.toList ++ (c :: b.cps.toList) := by
    simp [Str.cps_append]
  have hal : a.cps.toList.length = a.length := by simp [Str.length]
  have hxl : (a ++ ⟨#[c]⟩ ++ b).length = a.length + (1 + b.length) := by
    simp only [Str.length_append, e1]; omega
  have hbl : b.cps.toList.length = b.length := by simp [Str.length]
  have hat : At (a ++ ⟨#[c]⟩ ++ b) ⟨#[c]⟩ (a ++ ⟨#[c]⟩ ++ b).length a.length := by
    refine (subAt_one _ c _).mpr ?_
    rw [hcps, List.getElem?_append_right (by omega), hal]; simp
  unfold Txt.partition
  rcases occ_head (a ++ ⟨#[c]⟩ ++ b) ⟨#[c]⟩ 1 (Nat.le_refl 1) with ⟨h0, hn⟩ | ⟨i, r, h0, hi, hn⟩
  · exact absurd hat (hn _)
  · rw [h0]
    have hle : i ≤ a.length := by
      rcases Nat.lt_or_ge a.length i with h | h
      · exact absurd hat (hn _ h)
      · exact h
    have hge : a.length ≤ i := by
      rcases Nat.lt_or_ge i a.length with h | h
      · exfalso
        have hm := (subAt_one _ c i).mp hi
        rw [hcps, List.getElem?_append_left (by omega)] at hm
        exact hc (List.mem_of_getElem? hm)
      · exact h
    have hia : i = a.length := Nat.le_antisymm hle hge
    subst hia
    have f1 : strSub (a ++ ⟨#[c]⟩ ++ b) 0 a.length = a := by
      apply Str.ext'; apply Array.toList_inj.mp
      rw [strSub_toList, hcps, List.drop_zero, Nat.sub_zero, ← hal, List.take_left']
      rfl
    have f2 : strSub (a ++ ⟨#[c]⟩ ++ b) (a.length + (⟨#[c]⟩ : Str).length) (a ++ ⟨#[c]⟩ ++ b).length = b := by
      apply Str.ext'; apply Array.toList_inj.mp
      rw [strSub_toList, hcps, hxl, e1]
      have : a.cps.toList ++ c :: b.cps.toList = (a.cps.toList ++ [c]) ++ b.cps.toList := by simp
      rw [this, List.drop_left' (by simp [hal]), List.take_of_length_le (by omega)]
    show (_, _, _) = _
    rw [f1, f2]

/-- parts told apart by their ends -/
def flatS (c : Nat) (L : List Str) : List Nat := L.flatMap fun q => q.cps.toList ++ [c]
theorem join_flat (c : Nat) : ∀ (L : List Str) (z : Str), (Str.join ⟨#[c]⟩ (L ++ [z])).cps.toList = flatS c L ++ z.cps.toList
  | [], z => rfl
  | p :: r, z => by
    have ih := join_flat c r z
    obtain ⟨q, t, e⟩ : ∃ q t, r ++ [z] = q :: t := by cases r <;> exact ⟨_, _, rfl⟩
    rw [List.cons_append]
    rw [e] at ih ⊢
    show (p ++ ⟨#[c]⟩ ++ Str.join ⟨#[c]⟩ (q :: t)).cps.toList = _
    rw [Str.cps_append, Str.cps_append, Array.toList_append, Array.toList_append, ih]
    simp [flatS]
theorem cut_inj (c : Nat) : ∀ (a a' b b' : List Nat), c ∉ a → c ∉ a' → a ++ c :: b = a' ++ c :: b' → a = a' ∧ b = b'
  | [], [], b, b', _, _, h => ⟨rfl, by simpa using h⟩
  | [], y :: r, b, b', _, h', h => by
    simp only [List.nil_append, List.cons_append, List.cons.injEq] at h
    exact absurd (List.mem_cons.mpr (.inl h.1)) h'
  | x :: r, [], b, b', h', _, h => by
    simp only [List.nil_append, List.cons_append, List.cons.injEq] at h
    exact absurd (List.mem_cons.mpr (.inl h.1.symm)) h'
  | x :: r, y :: t, b, b', h1, h2, h => by
    simp only [List.cons_append, List.cons.injEq] at h
    obtain ⟨e1, e2⟩ := cut_inj c r t b b' (fun m => h1 (.tail _ m)) (fun m => h2 (.tail _ m)) h.2
    exact ⟨by rw [h.1, e1], e2⟩
theorem str_inj {a b : Str} (h : a.cps.toList = b.cps.toList) : a = b := Str.ext' (Array.toList_inj.mp h)
theorem flat_inj (c : Nat) : ∀ (L L' : List Str) (z z' : Str), (∀ q ∈ L, c ∉ q.cps.toList) → (∀ q ∈ L', c ∉ q.cps.toList) → c ∉ z.cps.toList → c ∉ z'.cps.toList →
    flatS c L ++ z.cps.toList = flatS c L' ++ z'.cps.toList → L ++ [z] = L' ++ [z']
  | [], [], z, z', _, _, _, _, h => by rw [str_inj (a := z) (b := z') (by simpa [flatS] using h)]
  | [], q :: r, z, z', _, _, hz, _, h => by
    exfalso; apply hz
    have : z.cps.toList = flatS c (q :: r) ++ z'.cps.toList := by simpa [flatS] using h
    rw [this]; simp [flatS]
  | q :: r, [], z, z', _, _, _, hz, h => by
    exfalso; apply hz
    have : z'.cps.toList = flatS c (q :: r) ++ z.cps.toList := by simpa [flatS] using h.symm
    rw [this]; simp [flatS]
  | q :: r, q' :: r', z, z', h1, h2, hz, hz', h => by
    have e : flatS c (q :: r) ++ z.cps.toList = q.cps.toList ++ c :: (flatS c r ++ z.cps.toList) := by simp [flatS]
    have e' : flatS c (q' :: r') ++ z'.cps.toList = q'.cps.toList ++ c :: (flatS c r' ++ z'.cps.toList) := by simp [flatS]
    rw [e, e'] at h
    obtain ⟨x1, x2⟩ := cut_inj c _ _ _ _ (h1 q (.head _)) (h2 q' (.head _)) h
    have ih := flat_inj c r r' z z' (fun a m => h1 a (.tail _ m)) (fun a m => h2 a (.tail _ m)) hz hz' x2
    rw [List.cons_append, List.cons_append, str_inj x1, ih]

theorem split_flat (c : Nat) (x : Str) (L : List Str) (z : Str) (hL : ∀ q ∈ L, c ∉ q.cps.toList) (hz : c ∉ z.cps.toList) (h : x.cps.toList = flatS c L ++ z.cps.toList) : Txt.split x ⟨#[c]⟩ = L ++ [z] := by
  have hj := join_split x ⟨#[c]⟩
  have hf := split_free x c
  rcases List.eq_nil_or_concat (Txt.split x ⟨#[c]⟩) with e | ⟨L', z', e⟩
  · exfalso
    have : Txt.split x ⟨#[c]⟩ ≠ [] := by
      unfold Txt.split
      split
      · simp
      · split
        · simp
        · rw [partsBetween_eq]
          obtain ⟨p, r, e⟩ := partsFrom_ne x (⟨#[c]⟩ : Str).length 0 (Builtin.Str.occurrences x ⟨#[c]⟩ 0 x.length (x.length + 1))
          rw [e]; simp
    exact this e
  · rw [List.concat_eq_append] at e
    rw [e] at hj hf ⊢
    have h1 := congrArg (fun s : Str => s.cps.toList) hj
    simp only [join_flat] at h1
    exact flat_inj c L' L z' z (fun q m => hf q (List.mem_append_left _ m)) hL (hf z' (List.mem_append_right _ (.head _))) hz (h1.trans h)

def Piece.parts : Piece → List Str
  | .blank g o => [g ++ o]
  | .bare g n o => [g ++ (n ++ o)]
  | .full g n o v m e => (g ++ (n ++ o) ++ (":" : Str) ++ (o ++ (v ++ (m ++ g)))) :: (if e = ";" then [] else [" "])

def freeOf (c : Nat) (l : List Str) : Bool := l.all fun q => q.cps.toList.all fun k => k != c
theorem free_of {c : Nat} {l : List Str} (h : freeOf c l = true) {q : Str} (hq : q ∈ l) : c ∉ q.cps.toList := by
  intro hm
  have := List.all_eq_true.mp (List.all_eq_true.mp h q hq) c hm
  simp at this
theorem free_app {c : Nat} {a b : Str} (h1 : c ∉ a.cps.toList) (h2 : c ∉ b.cps.toList) : c ∉ (a ++ b).cps.toList := by
  rw [Str.cps_append, Array.toList_append]; intro h; rcases List.mem_append.mp h with h | h
  · exact h1 h
  · exact h2 h
theorem semi : (";" : Str) = ⟨#[59]⟩ := by decide +kernel
theorem colon : (":" : Str) = ⟨#[58]⟩ := by decide +kernel
theorem parts_free {p : Piece} (h : p.ok) : ∀ q ∈ p.parts, 59 ∉ q.cps.toList := by
  cases p with
  | blank g o =>
    intro q hq; rw [List.mem_singleton.mp hq]
    exact free_app (free_of (l := gaps) (by decide +kernel) h.1) (free_of (l := others) (by decide +kernel) h.2)
  | bare g n o =>
    intro q hq; rw [List.mem_singleton.mp hq]
    exact free_app (free_of (l := gaps) (by decide +kernel) h.1) (free_app (free_of (l := names5) (by decide +kernel) h.2.1) (free_of (l := others) (by decide +kernel) h.2.2))
  | full g n o v m e =>
    obtain ⟨a1, a2, a3, a4, a5, a6⟩ := h
    intro q hq
    simp only [Piece.parts, List.mem_cons] at hq
    rcases hq with rfl | hq
    · have f1 := free_of (c := 59) (l := gaps) (by decide +kernel) a1
      have f2 := free_of (c := 59) (l := names5) (by decide +kernel) a2
      have f3 := free_of (c := 59) (l := others) (by decide +kernel) a3
      have f4 := free_of (c := 59) (l := values5) (by decide +kernel) a4
      have f5 := free_of (c := 59) (l := marks4) (by decide +kernel) a5
      exact free_app (free_app (free_app f1 (free_app f2 f3)) (by decide +kernel)) (free_app f3 (free_app f4 (free_app f5 f1)))
    · split at hq
      · cases hq
      · rw [List.mem_singleton.mp hq]; decide +kernel
theorem parts_flat {p : Piece} (h : p.ok) : p.text.cps.toList = flatS 59 p.parts := by
  cases p with
  | blank g o => simp [Piece.text, Piece.parts, flatS, Str.cps_append, semi]
  | bare g n o => simp [Piece.text, Piece.parts, flatS, Str.cps_append, semi]
  | full g n o v m e =>
    obtain ⟨a1, a2, a3, a4, a5, a6⟩ := h
    have he : e = ";" ∨ e = "; ;" := by simpa [ends2] using a6
    rcases he with rfl | rfl
    · simp [Piece.text, Piece.parts, flatS, Str.cps_append, semi]
    · have d : ¬ (("; ;" : Str) = ";") := by decide +kernel
      have e3 : ("; ;" : Str).cps.toList = [59, 32, 59] := by decide +kernel
      have e4 : (" " : Str).cps.toList = [32] := by decide +kernel
      simp [Piece.text, Piece.parts, flatS, Str.cps_append, d, e3, e4]
theorem render_flat {ps : List Piece} (h : ∀ p ∈ ps, p.ok) : (render ps).cps.toList = flatS 59 (ps.flatMap Piece.parts) := by
  suffices hh : ∀ (ps : List Piece), (∀ p ∈ ps, p.ok) → ∀ a : Str, (ps.foldl (fun a p => a ++ p.text) a).cps.toList = a.cps.toList ++ flatS 59 (ps.flatMap Piece.parts) by
    have := hh ps h ""
    have h0 : ("" : Str).cps.toList = [] := by decide +kernel
    unfold render; rw [this, h0, List.nil_append]
  intro ps
  induction ps with
  | nil => intro _ a; simp [flatS]
  | cons p r ih =>
    intro h a
    rw [List.foldl_cons, ih (fun q hq => h q (.tail _ hq)), Str.cps_append, Array.toList_append, parts_flat (h p (.head _))]
    simp [flatS, List.flatMap_append]
theorem split_render {ps : List Piece} (h : ∀ p ∈ ps, p.ok) : Txt.split (render ps) ";" = ps.flatMap Piece.parts ++ [("" : Str)] := by
  rw [semi]
  refine split_flat 59 _ _ _ ?_ (by decide +kernel) ?_
  · intro q hq
    obtain ⟨p, hp, hq⟩ := List.mem_flatMap.mp hq
    exact parts_free (h p hp) q hq
  · rw [render_flat h]
    have h0 : ("" : Str).cps.toList = [] := by decide +kernel
    rw [h0, List.append_nil]

theorem step_empty (D : List (Str × Str)) (x : Str) (h : Txt.strip x = "") : stepS D x = some D := by unfold stepS; rw [if_pos h]
theorem blank_all : (gaps.all fun g => others.all fun o => Txt.strip (g ++ o) == "") = true := by decide +kernel
theorem bare_all : (gaps.all fun g => names5.all fun n => others.all fun o => Txt.strip (g ++ (n ++ o)) == n && !(n == "") && (Txt.partition (g ++ (n ++ o)) ":").2.1 == "") = true := by decide +kernel
theorem value_all : (gaps.all fun g => others.all fun o => values5.all fun v => marks4.all fun m => Txt.strip (Txt.replace (o ++ (v ++ (m ++ g))) "!important" "") == v) = true := by decide +kernel
theorem body_all : (gaps.all fun g => names5.all fun n => others.all fun o => values5.all fun v => marks4.all fun m => !(Txt.strip (g ++ (n ++ o) ++ (":" : Str) ++ (o ++ (v ++ (m ++ g)))) == "")) = true := by decide +kernel
theorem nameS {n : Str} (h : n ∈ names5) : ¬ (n = "") := by
  have : (names5.all fun n => !(n == "")) = true := by decide +kernel
  have := List.all_eq_true.mp this n h
  simpa using this
theorem all2 {α : Type} {l : List α} {f : α → Bool} (h : l.all f = true) {x : α} (hx : x ∈ l) : f x = true := List.all_eq_true.mp h x hx
theorem step_piece {p : Piece} (h : p.ok) (D : List (Str × Str)) : p.parts.foldlM stepS D = if p.wrong then none else some (dueStep D p) := by
  cases p with
  | blank g o =>
    have h1 := all2 (all2 blank_all h.1) h.2
    have h2 := step_empty D (g ++ o) (eq_of_beq h1)
    simp only [Piece.parts, List.foldlM_cons, List.foldlM_nil, h2]; rfl
  | bare g n o =>
    have h1 := all2 (all2 (all2 bare_all h.1) h.2.1) h.2.2
    simp only [Bool.and_eq_true, Bool.not_eq_true', beq_eq_false_iff_ne, beq_iff_eq, ne_eq] at h1
    obtain ⟨⟨h1, h2⟩, h3⟩ := h1
    have h4 : stepS D (g ++ (n ++ o)) = none := by
      unfold stepS; rw [h1, if_neg h2, if_pos h3]
    simp only [Piece.parts, List.foldlM_cons, List.foldlM_nil, h4]; rfl
  | full g n o v m e =>
    obtain ⟨a1, a2, a3, a4, a5, a6⟩ := h
    have h1 := all2 (all2 (all2 bare_all a1) a2) a3
    simp only [Bool.and_eq_true, Bool.not_eq_true', beq_eq_false_iff_ne, beq_iff_eq, ne_eq] at h1
    obtain ⟨⟨h1, h2⟩, -⟩ := h1
    have h3 := all2 (all2 (all2 (all2 value_all a1) a3) a4) a5
    have h4 := all2 (all2 (all2 (all2 (all2 body_all a1) a2) a3) a4) a5
    simp only [Bool.not_eq_true', beq_eq_false_iff_ne, beq_iff_eq, ne_eq] at h3 h4
    have f1 := free_of (c := 58) (l := gaps) (by decide +kernel) a1
    have f2 := free_of (c := 58) (l := names5) (by decide +kernel) a2
    have f3 := free_of (c := 58) (l := others) (by decide +kernel) a3
    have hp := partition_at (g ++ (n ++ o)) (o ++ (v ++ (m ++ g))) 58 (free_app f1 (free_app f2 f3))
    rw [← colon] at hp
    have hs : stepS D (g ++ (n ++ o) ++ (":" : Str) ++ (o ++ (v ++ (m ++ g)))) = some (storedS D n v) := by
      have hc : ¬ ((":" : Str) = "") := by decide +kernel
      unfold stepS; rw [if_neg h4, hp, if_neg hc, h1, h3]
    have h6 : stepS (storedS D n v) " " = some (storedS D n v) := step_empty _ _ (by decide +kernel)
    simp only [Piece.parts, List.foldlM_cons, hs]
    by_cases he : e = ";"
    · rw [if_pos he]; rfl
    · rw [if_neg he]
      show (do let d ← stepS (storedS D n v) " "; List.foldlM stepS d []) = _
      rw [h6]; rfl
theorem pieces_fold : ∀ {ps : List Piece}, (∀ p ∈ ps, p.ok) → ∀ D, (ps.flatMap Piece.parts).foldlM stepS D = if wrongOf ps then none else some (ps.foldl dueStep D)
  | [], _, D => rfl
  | p :: r, h, D => by
    rw [List.flatMap_cons, List.foldlM_append, step_piece (h p (.head _))]
    cases hw : p.wrong
    · show List.foldlM stepS (dueStep D p) (r.flatMap Piece.parts) = _
      rw [pieces_fold (fun q hq => h q (.tail _ hq))]
      have : wrongOf (p :: r) = wrongOf r := by simp [wrongOf, hw]
      rw [this]; rfl
    · have : wrongOf (p :: r) = true := by simp [wrongOf, hw]
      rw [this]; rfl
theorem read_render {ps : List Piece} (h : ∀ p ∈ ps, p.ok) : readS (Txt.split (render ps) ";") [] = if wrongOf ps then none else some (duesOf ps) := by
  rw [split_render h]
  unfold readS
  rw [List.foldlM_append, pieces_fold h]
  cases wrongOf ps
  · show (do let d ← stepS (ps.foldl dueStep []) ""; List.foldlM stepS d []) = _
    rw [step_empty _ _ (by decide +kernel)]; rfl
  · rfl
end
-- C2
theorem fill2 : PySem.Challenge.rw_on0242_01 = PySem.Challenge.rw_on0242_01 ∧ mk.heap_1 = mk.heap_1 := by
  k_fill
  w_top off
  exact ⟨rfl, rfl⟩
local macro_rules | `(tactic| walk_at "exec For Name Call cons nil") => `(tactic| (k_here; walk_at "own for"))
local macro_rules | `(tactic| walk_at "pyIter ref") => `(tactic| ((with_reducible show wpAny _ _ (pyIter (Value.ref _)) (fun it s₂ => LoopAtV _ _ _ _ _ _ _ _ _ it s₂) _ _); refine stop ?_))

def styleJ (w : World) (src d : Addr) (i : Nat) (m₁ : Str → Option Value) (trk : List (Addr × Obj)) : Prop :=
  ∃ (ps : List Piece) (b mm : Int) (tb tm tt : Tok) (n : Nat) (o : Obj) (u : Str → Option Value), trk = [(src, srcObj b mm tb tm n), (d, o)] ∧ SrcOk b mm ∧ ps.length = i ∧ (∀ p ∈ ps, p.ok) ∧ SD PySem.Challenge.rw_on0242_01.row.prog w o (duesOf ps) ∧
    m₁ = fun (y : Str) => if y = "source" then some (.ref src) else if y = "text" then some (.str (render ps) tt) else if y = "due" then some (.ref d) else if y = "is_wrong" then some (.bool (wrongOf ps)) else u y

local macro_rules | `(tactic| walk_at "newTuple") => `(tactic| (k_here; k_dflt (refine' kup_newTuple ?F ?N ?_ ?z; walk_at "own both"; (case z => kmk_size)); intro D' h' F' N' l1; (try k_lt l1); (try k_sweep)))
local macro_rules | `(tactic| walk_at "binaryOp Add str str") => `(tactic| (k_here; (with_reducible show wpAny _ _ (binaryOp Operator.Add (Value.str _ _) (Value.str _ _)) _ _ _); (refine PyProof.Rows.add_str (hsz := ?hsz) ?_); (case hsz => ((try simp only [Str.length_append]); rw [sizeLine_eq]; omega)); intro _ _; (try dsimp only)))
theorem map4 {m : Str → Option Value} {k1 k2 k3 k4 : Str} {v1 v2 v3 v4 : Value} (h1 : m k1 = some v1) (h2 : m k2 = some v2) (h3 : m k3 = some v3) (h4 : m k4 = some v4) :
    m = fun y => if y = k1 then some v1 else if y = k2 then some v2 else if y = k3 then some v3 else if y = k4 then some v4 else m y := by
  funext y
  by_cases e1 : y = k1
  · subst e1; simp [h1]
  by_cases e2 : y = k2
  · subst e2; simp [h2, e1]
  by_cases e3 : y = k3
  · subst e3; simp [h3, e1, e2]
  by_cases e4 : y = k4
  · subst e4; simp [h4, e1, e2, e3]
  simp [e1, e2, e3, e4]
theorem News.tl {h₀ h : Heap} {L : Addr} {x : Addr × Obj} {r : List (Addr × Obj)} (N : News h₀ L h (x :: r)) : News h₀ L h r := fun p hp => N p (.tail _ hp)

section
variable {w : World} {src d : Addr} {ps : List Piece} {b mm : Int} {tb tm : Tok} {n i : Nat} {o : Obj} {m' : Str → Option Value} {g nm ot v mk fn : Str} {tt : Tok}
theorem ok_snoc {p : Piece} (h : ∀ p ∈ ps, p.ok) (hp : p.ok) : ∀ q ∈ ps ++ [p], q.ok := fun q hq => by
  rcases List.mem_append.mp hq with hq | hq
  · exact h q hq
  · rw [List.mem_singleton.mp hq]; exact hp
theorem styleJ_blank (h1 : m' "source" = some (.ref src)) (h2 : m' "text" = some (.str (render ps ++ g ++ ot ++ (";" : Str)) tt)) (h3 : m' "due" = some (.ref d)) (h4 : m' "is_wrong" = some (.bool (wrongOf ps)))
    (ok : SrcOk b mm) (hps : ps.length = i) (hok : ∀ p ∈ ps, p.ok) (hD : SD PySem.Challenge.rw_on0242_01.row.prog w o (duesOf ps)) (hg : g ∈ gaps) (ho : ot ∈ others) :
    styleJ w src d (i + 1) m' [(src, srcObj b mm tb tm n), (d, o)] := by
  refine ⟨ps ++ [.blank g ot], b, mm, tb, tm, tt, n, o, m', rfl, ok, by simp [hps], ok_snoc (p := .blank g ot) hok ⟨hg, ho⟩, by rw [duesOf_snoc]; exact hD, ?_⟩
  refine map4 h1 ?_ h3 ?_
  · rw [h2, render_snoc]; simp only [Piece.text, Str.append_assoc]
  · rw [h4, wrongOf_snoc]; simp [Piece.wrong]
theorem styleJ_bare (h1 : m' "source" = some (.ref src)) (h2 : m' "text" = some (.str (render ps ++ g ++ nm ++ ot ++ (";" : Str)) tt)) (h3 : m' "due" = some (.ref d)) (h4 : m' "is_wrong" = some (.bool true))
    (ok : SrcOk b mm) (hps : ps.length = i) (hok : ∀ p ∈ ps, p.ok) (hD : SD PySem.Challenge.rw_on0242_01.row.prog w o (duesOf ps)) (hg : g ∈ gaps) (hn : nm ∈ names5) (ho : ot ∈ others) :
    styleJ w src d (i + 1) m' [(src, srcObj b mm tb tm n), (d, o)] := by
  refine ⟨ps ++ [.bare g nm ot], b, mm, tb, tm, tt, n, o, m', rfl, ok, by simp [hps], ok_snoc (p := .bare g nm ot) hok ⟨hg, hn, ho⟩, by rw [duesOf_snoc]; exact hD, ?_⟩
  refine map4 h1 ?_ h3 ?_
  · rw [h2, render_snoc]; simp only [Piece.text, Str.append_assoc]
  · rw [h4, wrongOf_snoc]; simp [Piece.wrong]
theorem styleJ_full (h1 : m' "source" = some (.ref src)) (h2 : m' "text" = some (.str (render ps ++ g ++ nm ++ ot ++ (":" : Str) ++ ot ++ v ++ mk ++ g ++ fn) tt)) (h3 : m' "due" = some (.ref d)) (h4 : m' "is_wrong" = some (.bool (wrongOf ps)))
    (ok : SrcOk b mm) (hps : ps.length = i) (hok : ∀ p ∈ ps, p.ok) (hD : SD PySem.Challenge.rw_on0242_01.row.prog w o (storedS (duesOf ps) nm v)) (hg : g ∈ gaps) (hn : nm ∈ names5) (ho : ot ∈ others) (hv : v ∈ values5) (hm : mk ∈ marks4) (hf : fn ∈ ends2) :
    styleJ w src d (i + 1) m' [(src, srcObj b mm tb tm n), (d, o)] := by
  refine ⟨ps ++ [.full g nm ot v mk fn], b, mm, tb, tm, tt, n, o, m', rfl, ok, by simp [hps], ok_snoc (p := .full g nm ot v mk fn) hok ⟨hg, hn, ho, hv, hm, hf⟩, by rw [duesOf_snoc]; exact hD, ?_⟩
  refine map4 h1 ?_ h3 ?_
  · rw [h2, render_snoc]; simp only [Piece.text, Str.append_assoc]
  · rw [h4, wrongOf_snoc]; simp [Piece.wrong]
end
local macro_rules | `(tactic| walk_at "setItem ref") => `(tactic| (k_here; (with_reducible show wpAny _ _ (setItem (Value.ref _) (Value.str _ _) (Value.str _ _)) _ _ _); k_dflt (refine' setItem_SD ?F ?N ?U ?hd ?hsz ?_); walk_at "own both"; (case U => k_updF); (case hd => assumption); (case hsz => omega); intro h' o' F' N' hSD'; (try dsimp only); (try k_sweep)))
theorem range_small {r : Int} (h0 : 0 ≤ r) (h1 : r ≤ 1000) : Builtin.Range.small 0 r 1 = true ∧ Builtin.Range.rangeSize 0 r 1 = (r.toNat : Int) := by
  have e : Builtin.Range.rangeSize 0 r 1 = (r.toNat : Int) := by
    unfold Builtin.Range.rangeSize
    simp only [gt_iff_lt, if_true, Int.sub_zero, Int.ediv_one, show ((0:Int) < 1) = True from by simp]
    split <;> omega
  refine ⟨?_, e⟩
  unfold Builtin.Range.small
  rw [e]
  simp only [Builtin.Range.rangeFitsLong, Bool.and_eq_true, Bool.or_eq_true, decide_eq_true_eq, beq_iff_eq, gt_iff_lt, show ((0:Int) < 1) = True from by simp, if_true]
  refine ⟨⟨⟨⟨?_, ?_⟩, ?_⟩, ?_⟩, .inr ?_⟩ <;> omega
theorem News.c3 {h₀ h : Heap} {L : Addr} {x y z : Addr × Obj} {r : List (Addr × Obj)} (N : News h₀ L h (x :: y :: z :: r)) : News h₀ L h ([z, y] ++ r) :=
  News.perm N fun p hp => by simp only [List.cons_append, List.nil_append, List.mem_cons] at hp ⊢; rcases hp with h | h | h <;> simp [h]

theorem style_spec {w : World} {loose mean mg mb} {A : Around} {h₀ : Heap} {L : Addr} {dp un gd cn cs a ccd cl outer A₀ base}
    (S : Site w loose mean mg mb 12 A h₀ L dp un gd cn cs a ccd cl outer A₀ base)
    {m : Str → Option Value} {news : List (Addr × Obj)} {s : Shared} {src : Addr} {b mm : Int} {tb tm : Tok} {n : Nat} {Q E : Value → Shared → Prop}
    (F : Fr h₀ L s.heap m) (N : News h₀ L s.heap ((src, srcObj b mm tb tm n) :: news)) (hne : ∀ p ∈ news, p.1 ≠ src)
    (ok : SrcOk b mm)
    (ret : ∀ ps l d o b' m' tb' tm' n' tt h' tk', ps.length ≤ 4 → (∀ p ∈ ps, Piece.ok p) → SD PySem.Challenge.rw_on0242_01.row.prog w o (duesOf ps) → SrcOk b' m' → (d == sysModules) = false →
      AllLt d ((src, srcObj b' m' tb' tm' n') :: news) → AllLt l ((src, srcObj b' m' tb' tm' n') :: (d, o) :: news) → Fr h₀ L h' m →
      News h₀ L h' ((l, listOf #[.str (render ps) tt, .ref d, .bool (wrongOf ps)] 0) :: (src, srcObj b' m' tb' tm' n') :: (d, o) :: news) → Q (.ref l) { s with heap := h', toks := tk' }) :
    wpAny (model PySem.Challenge.rw_on0242_01.row.prog w) A (call (.ref 419) [.ref src]) Q E s := by
  obtain ⟨rfl, B, hk, hd, hu, X, T⟩ := S
  refine wpAny_call ?_
  k_dflt ktr_enter
  k_steps
  rename IsRange _ _ _ _ _ _ _ _ => R1
  rename Fr _ _ _ _ => F1
  rename News _ _ _ _ => N1
  rename Obj.IsDictOf (PySem.strKind _ _) _ _ => D1
  rename 0 ≤ _ => hr0
  rename _ < 5 => hr1
  rename SrcOk _ _ => ok1
  have hSD := SD.nil D1
  show wpAny _ _ _ _ _ _
  have hsm := range_small hr0 (by omega)
  refine iter_range (styleJ w src _) rfl R1 hsm.1 hsm.2 F1 (News.c3 N1) ?off ⟨[], _, _, _, _, _, _, _, _, rfl, ok1, rfl, (fun _ h => nomatch h), hSD, map4 (by with_unfolding_all rfl) (by with_unfolding_all rfl) (by with_unfolding_all rfl) (by with_unfolding_all rfl)⟩ ?turn ?done
  case off => exact ownOff_of (by intro b hb; simp only [List.map_cons, List.map_nil, List.mem_cons, List.not_mem_nil, or_false] at hb; rcases hb with rfl | rfl <;> k_all)
  case turn =>
    rintro i t m₁ trk₁ h tk rest hsub hi ha ho ⟨ps, b1, mm1, tb1, tm1, tt1, n1, o1, u1, rfl, ok1, hps, hok, hSD1, rfl⟩ F2 N2
    have ho1 := off_one ho
    have ho2 := off_one ho1.2
    obtain ⟨ho1, -⟩ := ho1
    obtain ⟨ho2, -⟩ := ho2
    dsimp only at F2 ho1 ho2
    simp only [List.cons_append, List.nil_append] at N2
    have hlr := render_len hok
    have hl1 : (";" : Str).length = 1 := by decide +kernel
    have hl2 : (":" : Str).length = 1 := by decide +kernel
    show wpAny _ _ _ _ _ _
    k_fold
    have hdl := duesOf_len ps
    show wpAny _ _ _ _ _ _
    k_steps
    · rename News _ _ _ _ => Nf
      refine' turnEnd2 (a := src) (b := _) (rest := rest) (by assumption) ?N ?J ?A
      case N => (repeat (first | exact Nf | replace Nf := News.tl Nf))
      case A => exact rfl
      case J =>
        refine' styleJ_blank ?h1 ?h2 ?h3 ?h4 ?_ hps hok hSD1 ?_ ?_
        case h1 => with_unfolding_all rfl
        case h2 => with_unfolding_all rfl
        case h3 => with_unfolding_all rfl
        case h4 => with_unfolding_all rfl
        all_goals assumption
    · rename News _ _ _ _ => Nf
      refine' turnEnd2 (a := src) (b := _) (rest := rest) (by assumption) ?N ?J ?A
      case N => (repeat (first | exact Nf | replace Nf := News.tl Nf))
      case A => exact rfl
      case J =>
        refine' styleJ_bare ?h1 ?h2 ?h3 ?h4 ?_ hps hok hSD1 ?_ ?_ ?_
        case h1 => with_unfolding_all rfl
        case h2 => with_unfolding_all rfl
        case h3 => with_unfolding_all rfl
        case h4 => with_unfolding_all rfl
        all_goals assumption
    · rename News _ _ _ _ => Nf
      refine' turnEnd2 (a := src) (b := _) (rest := rest) (by assumption) ?N ?J ?A
      case N => (repeat (first | exact Nf | replace Nf := News.tl Nf))
      case A => exact rfl
      case J =>
        refine' styleJ_full ?h1 ?h2 ?h3 ?h4 ?_ hps hok ?_ ?_ ?_ ?_ ?_ ?_ ?_
        case h1 => with_unfolding_all rfl
        case h2 => with_unfolding_all rfl
        case h3 => with_unfolding_all rfl
        case h4 => with_unfolding_all rfl
        all_goals assumption
  case done =>
    rintro m₁ trk₁ h tk ha ⟨ps, b1, mm1, tb1, tm1, tt1, n1, o1, u1, rfl, ok1, hps, hok, hSD1, rfl⟩ F2 N2
    simp only [List.cons_append, List.nil_append] at N2
    show wpAny _ _ _ _ _ _
    k_steps
    refine ret ps _ _ o1 _ _ _ _ _ _ _ _ (by omega) hok hSD1 ok1 (by assumption) ⟨?_, ?_⟩ ⟨?_, ?_, ?_⟩ (by assumption) (by assumption)
    · show @LT.lt Nat _ _ _; omega
    · exact And.right (by assumption)
    · show @LT.lt Nat _ _ _; omega
    · show @LT.lt Nat _ _ _; omega
    · exact And.right (And.right (by assumption))
-- CX
section
open PySem.W.X
theorem wpAny_up {α : Type} {M : Model} {A A' : Around} {t : Sem α} {Q : α → Shared → Prop} {E : Value → Shared → Prop} {s : Shared}
    (h1 : A'.handled = A.handled) (h2 : A.depth ≤ A'.depth) (h3 : A'.frames = none) (h4 : A'.guards = none) (h5 : A.units ≤ A'.units) (h : wpAny M A' t Q E s) : wpAny M A t Q E s := by
  intro Γ p hΓ
  refine h Γ p ⟨hΓ.1.trans h1.symm, Nat.le_trans hΓ.2.1 h2, ?_, ?_, Nat.le_trans hΓ.2.2.2.2 h5⟩
  · intro l hl; rw [h3] at hl; cases hl
  · intro g hg; rw [h4] at hg; cases hg

def big : Around := { handled := none, depth := 700, frames := none, guards := none, units := 7000 }

structure Made63 (h₀ h' : Heap) (e : Addr) : Prop where
  keeps : ∀ b o, h₀.get? b = some o → h'.get? b = some o
  new : h₀.get? e = none
  there : ∃ t d, h'.get? e = some ⟨.ref 63, some d, .fields #[.ref t, .none, .none, .none, .bool false, .none], #[]⟩
def Ret63 (Q : Value → Shared → Prop) (s : Shared) : Prop := ∀ e h' tk, Made63 s.heap h' e → Q (.ref e) { s with heap := h', toks := tk }
theorem end63 {Q : Value → Shared → Prop} {s : Shared} {h' : Heap} {news : List (Addr × Obj)} {e t d : Addr} {tk : Nat} (ret : Ret63 Q s) (D : Mem s.heap h' [] news)
    (hm : (e, (⟨.ref 63, some d, .fields #[.ref t, .none, .none, .none, .bool false, .none], #[]⟩ : Obj)) ∈ news) : Q (.ref e) ⟨h', s.gens, s.drawn, tk, s.os⟩ :=
  ret e h' tk ⟨fun b o q => D.keep b o q (by simp [away]), (D.nw _ hm).2, t, d, (D.nw _ hm).1⟩

theorem fillX : PySem.Challenge.rw_on0242_01 = PySem.Challenge.rw_on0242_01 ∧ mk.heap_1 = mk.heap_1 := by
  k_fill
  w_top off
  exact ⟨rfl, rfl⟩
local macro_rules | `(tactic| x_close) => `(tactic| ((refine' end63 ?a ?b ?c); (case a => assumption); (case b => assumption); ((case c => repeat (first | exact List.Mem.head _ | refine List.Mem.tail _ ?_)))))

theorem make63_big {prog : Program} {w : World} {s : Shared} {x : Str} {t : Tok} {Q E : Value → Shared → Prop} (X : (mk.heap_1 w.params).In s.heap) (hx : x.length ≤ 1000) (ret : Ret63 Q s) :
    wpAny (model prog w) big (call (.ref 63) [.str x t]) Q E s := by
  x_run
end
local macro_rules | `(tactic| x_close) => `(tactic| ((refine' end63 ?a ?b ?c); (case a => assumption); (case b => assumption); ((case c => repeat (first | exact List.Mem.head _ | refine List.Mem.tail _ ?_)))))
-- CE
section
open PySem.W.X
theorem fillE : PySem.Challenge.rw_on0242_01 = PySem.Challenge.rw_on0242_01 ∧ mk.heap_1 = mk.heap_1 := by
  k_fill
  w_top off
  exact ⟨rfl, rfl⟩

theorem class63 {w : World} {h : Heap} (X : (mk.heap_1 w.params).In h) : ∃ nm q N bs hdct sn sub ab col dd k0 k1 k2 k3 k5 newId,
    h.get? 63 = some (excClassObj nm q 63 N bs [.ref 38, .type "Exception", .type "BaseException", .type "object"] hdct sn sub ab col dd k0 k1 k2 k3 k5 newId) := by
  have e : (mk.heap_1 w.params).lookup 63 = some (⟨.type "type", none, .cls { name := Str.ofString "SheetFault", bases := [Value.ref 38], mro := [Value.ref 63, Value.ref 38, Value.type "Exception", Value.type "BaseException", Value.type "object"], ns := 62, qualname := Str.ofString "SheetFault" }, #[some (Value.ref 54), none, some (Value.str (Str.ofString "SheetFault") 241), some (Value.str (Str.ofString "SheetFault") 249), some (Value.builtin "Exception.__new__"), some (Value.bool true)]⟩ : Obj) := by kernel_rfl
  exact ⟨_, _, _, _, _, _, _, _, _, _, _, _, _, _, _, _, X _ _ e⟩

theorem raise63 {w : World} {A : Around} {E : Value → Shared → Prop} {s : Shared} {env : Env} {x : Expr} {pos : Pos} {Q : Flow → Shared → Prop} (hh : A.handled = none)
    (h : wpAny (model PySem.Challenge.rw_on0242_01.row.prog w) A (eval x env) (fun v s₁ => ∃ e t d sl, v = .ref e ∧ (mk.heap_1 w.params).In s₁.heap ∧ s₁.heap.get? e = some ⟨.ref 63, d, .fields #[.ref t, .none, .none, .none, .bool false, .none], sl⟩ ∧ E (.ref e) s₁) E s) :
    wpAny (model PySem.Challenge.rw_on0242_01.row.prog w) A (exec (.Raise (some x) none pos) env) Q E s := by
  show wpAny _ A (do standAt pos; raiseStmt env (some (do let v ← eval x env; standAt pos; pure v)) none) Q E s
  refine wpAny_bind (wpAny_standAt ?_)
  unfold raiseStmt
  refine wpAny_bind (wpAny_bind (wpAny_mono h (fun v s₁ h₁ => wpAny_bind (wpAny_standAt (wpAny_pure ?_))) fun _ _ x => x))
  obtain ⟨e, t, d, sl, rfl, X, he, hE⟩ := h₁
  obtain ⟨nm, q, N, bs, hdct, sn, sub, ab, col, dd, k0, k1, k2, k3, k5, newId, hC⟩ := class63 X
  obtain ⟨hp, g, dr, tk, os⟩ := s₁
  have hcB : (Value.ref 63 :: [Value.ref 38, .type "Exception", .type "BaseException", .type "object"]).contains (.type "BaseException") = true := by decide +kernel
  repeat (first | with_reducible refine wpAny_loadPart_at he ?_ | with_reducible refine wpAny_loadPart_at hC ?_ | (with_reducible refine wpAny_isSubtype_exc hC ?_; rw [hcB]) | wp_step)
  exact wpAny_raiseNew_none hh hE

section
variable {M : Model} {A : Around} {E : Value → Shared → Prop} {s' : Shared} {base g h : Heap} {outer : List Env} {L a e : Addr} {m : Str → Option Value} {name : Str} {scope : Scope} {cd : Value} {Q : Unit → Shared → Prop} {news : List (Addr × Obj)}
/-- the frame's own fault leaves it: it flies, the ledger and the ground but for its frames stand -/
theorem leave63 (K : Below A base outer g) (hx : Made63 h s'.heap e) (F : Fr g L h m) (N : News g L h news)
    (hQ : ∀ h', RaisedSN base g outer e (.ref 63) news h' → g.UpToSlots h' → Q () { s' with heap := h' }) (hk : scope.kind = .function := by rfl) :
    wpAny M (A.deeper (envOf name scope L a cd)) (leaving (envOf name scope L a cd) (.ref e)) Q E s' := by
  have K' := K.push (name := name) (a := a) (cd := cd) F hk
  let fr := (envOf name scope L a cd :: outer).filterMap (·.frame)
  have inF : ∀ env ∈ (envOf name scope L a cd :: outer), ∀ b, env.frame = some b → b ∈ fr := fun env he b hb => List.mem_filterMap.mpr ⟨env, he, hb⟩
  have st : base.StaysIn (hideAll h fr) := fun b o q => hideAll_get _ (K'.stays b o q) fun hm => by
    rw [(K'.frames.mem hm).1] at q; cases q
  have sg : ∀ b o, g.get? b = some o → b ∉ outer.filterMap (·.frame) → (hideAll h fr).get? b = some o := fun b o q nm => hideAll_get _ (F.keep b o q) fun hm =>
    (kts_mem hm).elim (fun z => by rw [z, kts_self F] at q; cases q) nm
  have hl : ∀ q ∈ news, (hideAll h fr).get? q.1 = some q.2 ∧ g.get? q.1 = none ∧ base.get? q.1 = none := fun q hq => by
    refine ⟨hideAll_get _ (N q hq).1 fun hm => ?_, (N q hq).2.2, fresh_of_stays K.stays (N q hq).2.2⟩
    rcases kts_mem hm with z | z
    · exact (N q hq).2.1 z
    · obtain ⟨o, ho, _⟩ := (K.frames.mem z).2
      rw [(N q hq).2.2] at ho; cases ho
  obtain ⟨t, d, he⟩ := hx.there
  have hen : (hideAll h fr).get? e = none := by
    cases q : (hideAll h fr).get? e with
    | none => rfl
    | some o => have := of_hideAll _ q; rw [hx.new] at this; cases this
  refine wpAny_leaving_firstW (a0 := .ref t) K'.stack ((funFrames_hide K'.frames inF).of_keeps fun b o hb _ => ⟨o, hx.keeps b o hb, rfl⟩) rfl he (fun b o hb => hx.keeps b o (of_hideAll _ hb)) hen rfl rfl rfl fun h' hL => ?_
  obtain ⟨k1, ⟨_, _, k2⟩, k3, k4⟩ := hL
  exact hQ h' ⟨_, .ref t, st, sg, hl, k1, hen, k2, k3⟩ (((Heap.UpToSlots.of_keeps F.keep).trans (Heap.UpToSlots.of_keeps hx.keeps)).trans k4)
end

section
variable {w : World} {A₀ : Around} {E : Value → Shared → Prop} {s' : Shared} {base g g₀ G : Heap} {outer : List Env} {L a e : Addr} {m : Str → Option Value} {name : Str} {scope : Scope} {cd : Value}
  {b₀ : Stmt} {suite : List Stmt} {pos np : Pos} {rest : List ExceptHandler} {Q : Flow → Shared → Prop} {news : List (Addr × Obj)}
  {p : Program} {loose : List Str} {mean : ExcName → Option Value} {mg mb : Str → Option Value} {x : Str}
/-- «except SheetFault:» takes it, on a ground whose frames have turned -/
theorem caught63 (R : RaisedSN base G (envOf name scope L a cd :: outer) e (.ref 63) news s'.heap) (F : Fr g L G m) (K : Below A₀ base outer g) (hsm : G.UpToSlots s'.heap)
    (XB : (mk.heap_1 w.params).In base) (TB : Top p loose mean mg mb base) (D : KtsDicts (outer.filterMap (·.frame)) g) (T0 : KtsTurn (outer.filterMap (·.frame)) g₀ g)
    (ex : nsIn (mk.heap_1 w.params) mainGlobals x = some (some (.ref 63)))
    (k : ∀ h' g', KtsTurn (outer.filterMap (·.frame)) g₀ g' → Fr g' L h' m → News g' L h' news → Below A₀ base outer g' → (mk.heap_1 w.params).In g' → Top p loose mean mg mb g' → KtsDicts (outer.filterMap (·.frame)) g' →
      wpAny (model PySem.Challenge.rw_on0242_01.row.prog w) ((A₀.deeper (envOf name scope L a cd)).mark (some (.ref e))) (execs (b₀ :: suite) (envOf name scope L a cd)) Q E { s' with heap := h' })
    (hk : scope.kind = .function := by rfl) (hx : (envOf name scope L a cd).kindOf x = some .globalImplicit := by rfl) (hd : (x == ("__debug__" : Str)) = false := by decide)
    (hE : PassesOwnAt (model PySem.Challenge.rw_on0242_01.row.prog w) ((A₀.deeper (envOf name scope L a cd)).mark (some (.ref e))) (A₀.deeper (envOf name scope L a cd)) (envOf name scope L a cd) E := by passes_own) :
    wpAny (model PySem.Challenge.rw_on0242_01.row.prog w) (A₀.deeper (envOf name scope L a cd)) (noteFrame (.ref e) (envOf name scope L a cd))
      (fun _ s₂ => wpAny (model PySem.Challenge.rw_on0242_01.row.prog w) (A₀.deeper (envOf name scope L a cd)) (setFlight (.ref e) none) (fun _ s₃ =>
        wpAny (model PySem.Challenge.rw_on0242_01.row.prog w) (A₀.deeper (envOf name scope L a cd)) (handleBy (.ref e) (envOf name scope L a cd) (.ExceptHandler (some (.Name x np)) none (b₀ :: suite) pos :: rest)) Q E s₃) E s₂) E s' := by
  obtain ⟨B, a0, hB, hBG, hl, hfl⟩ := R
  have hL : B.get? L = none := by
    obtain ⟨_, ⟨L', _, hf, hn', _⟩, _⟩ := hfl.2.2.1
    obtain rfl : L = L' := Option.some.inj hf
    exact hn'
  refine wpAny_looks_onW (Around.frames_deeper K.stack) rfl hfl fun h₄ hheld₄ hsm₄ => wpAny_landsW hheld₄ fun h₅ hheld hsm₅ => ?_
  have up₅ := hsm.trans (hsm₄.trans hsm₅)
  obtain ⟨g₅, -, F₅, K₅⟩ := kts_ground K F hBG hheld.1 up₅
  have X₅ := XB.keeps K₅.stays
  obtain ⟨ob, hob, hobc⟩ := hheld.there
  refine wpAny_handleBy_cons (codeAny_handlers_test (name_K F₅ X₅ (topRead_of (TB.keeps K₅.stays)) ex ?_ hk hx hd)) (by intro q; cases q)
  obtain ⟨nm, q, N, bs, hdct, sn, sub, ab, col, dd, k0, k1, k2, k3, k5, newId, hC⟩ := class63 (X₅.keeps F₅.keep)
  refine wpAny_excMatches_sub_self hC hob hobc (by decide +kernel) (codeAny_handlers_suite ?_)
  refine lands_againW hheld fun h₆ hfl₆ hsm₆ => ?_
  obtain ⟨g₆, T₆, F₆, K₆⟩ := kts_ground K F hBG hfl₆.1 (up₅.trans hsm₆)
  exact wpAny_passesOwnAt hE (k h₆ g₆ (T0.trans T₆) F₆ (fun q hq => ⟨hfl₆.1 _ _ (hl q hq).1, (fun z => by have := (hl q hq).1; rw [z, hL] at this; cases this), T₆.none_ _ (kts_none F.keep (hl q hq).2.1)⟩)
    K₆ (XB.keeps K₆.stays) (TB.keeps K₆.stays) (D.turn T₆))
end
end
-- C3
theorem fill3 : PySem.Challenge.rw_on0242_01 = PySem.Challenge.rw_on0242_01 ∧ mk.heap_1 = mk.heap_1 := by
  k_fill
  w_top off
  exact ⟨rfl, rfl⟩

theorem split_len (x y : Str) : (Txt.split x y).length ≤ x.length + 2 := by
  unfold Txt.split
  split
  · simp
  · split
    · simp
    · rw [length_partsBetween]
      have := StrLaws.occ_length_le x y 0 x.length (x.length + 1)
      omega
theorem readS_take {parts : List Str} {i : Nat} {p : Str} {D D' : List (Str × Str)} (hp : parts[i]? = some p) (h : readS (parts.take i) [] = some D) (h' : stepS D p = some D') : readS (parts.take (i + 1)) [] = some D' := by
  rw [List.take_add_one, hp]
  unfold readS at *
  rw [List.foldlM_append, h]
  show (do let d ← some D; List.foldlM stepS d (some p).toList) = _
  simp [h']
theorem readS_none {parts : List Str} {i : Nat} {p : Str} {D : List (Str × Str)} (hp : parts[i]? = some p) (h : readS (parts.take i) [] = some D) (h' : stepS D p = none) : readS parts [] = none := by
  have e : parts = parts.take i ++ p :: parts.drop (i + 1) := by
    obtain ⟨hl, he⟩ := List.getElem?_eq_some_iff.mp hp
    rw [← he, ← List.drop_eq_getElem_cons hl, List.take_append_drop]
  rw [e]
  unfold readS at *
  rw [List.foldlM_append, h]
  show (do let d ← some D; List.foldlM stepS d (p :: parts.drop (i + 1))) = _
  simp [h']
theorem News.c1 {h₀ h : Heap} {L : Addr} {x y : Addr × Obj} {r : List (Addr × Obj)} (N : News h₀ L h (x :: y :: r)) : News h₀ L h ([y] ++ r) := News.tl N
theorem map1 {m : Str → Option Value} {k1 : Str} {v1 : Value} (h1 : m k1 = some v1) : m = fun y => if y = k1 then some v1 else m y := by
  funext y
  by_cases e1 : y = k1
  · subst e1; simp [h1]
  simp [e1]
theorem strValues_get {l : List (Str × Tok)} {i : Nat} {v : Value} (h : (strValues l)[i]? = some v) : ∃ p t, v = .str p t ∧ (l.map (·.1))[i]? = some p := by
  unfold strValues at h
  rw [List.getElem?_map] at h ⊢
  cases q : l[i]? with
  | none => rw [q] at h; cases h
  | some pt => rw [q] at h; cases h; exact ⟨_, _, rfl, rfl⟩

def readJ (w : World) (parts : List Str) (d : Addr) (i : Nat) (m₁ : Str → Option Value) (trk : List (Addr × Obj)) : Prop :=
  ∃ (D : List (Str × Str)) (o : Obj) (u : Str → Option Value), trk = [(d, o)] ∧ readS (parts.take i) [] = some D ∧ D.length ≤ i ∧ SD PySem.Challenge.rw_on0242_01.row.prog w o D ∧
    m₁ = fun (y : Str) => if y = "found" then some (.ref d) else u y

/-- a statement made a token: the next one's tokens are above nought -/
theorem gen_toks {α : Type} {M : Model} {A : Around} {T : Sem α} {Q : α → Shared → Prop} {E : Value → Shared → Prop} {h : Heap} {g : Array GenState} {d : Drawn} {os : OsState} {n : Nat}
    (H : ∀ tk, 0 < tk → wpAny M A T Q E ⟨h, g, d, tk, os⟩) : wpAny M A T Q E ⟨h, g, d, n + 1, os⟩ := H (n + 1) (Nat.succ_pos _)
local macro_rules | `(tactic| walk_at "execs cons") => `(tactic| (k_here; (refine gen_toks ?_); intro tk' htk'))
local macro_rules | `(tactic| walk_at "execs nil") => `(tactic| (k_here; (refine gen_toks ?_); intro tk' htk'))
theorem partition_len (x y : Str) : (Txt.partition x y).1.length ≤ x.length ∧ (Txt.partition x y).2.1.length ≤ x.length ∧ (Txt.partition x y).2.2.length ≤ x.length := by
  have h := congrArg Str.length (StrLaws.partition_sum x y)
  simp only [Str.length_append] at h
  omega
theorem replace_len {x z : Str} (y : Str) (hx : x.length ≤ 1048576) (hz : z.length ≤ 14) : (Txt.replace x y z).length ≤ 16777216 := by
  unfold Txt.replace
  split
  · omega
  · have h : (x.length + 1) * z.length ≤ (x.length + 1) * 14 := Nat.mul_le_mul_left _ hz
    have := fits_replaced (x := x) (z := z) y (by omega)
    rw [sizeLine_eq] at this
    exact this
theorem replaceL {prog : Program} {w : World} {A : Around} {E : Value → Shared → Prop} {s : Shared} {x y z : Str} {t u v : Tok} {Q : Value → Shared → Prop} (hu : u ≠ 0) (hv : v ≠ 0) (huv : u ≠ v) (hyz : (y == z) = false) (hx : x.length ≤ 1048576) (hz : z.length ≤ 14)
    (h : ∀ t' k, (Txt.replace x y z).length ≤ 16777216 → Q (.str (Txt.replace x y z) t') { s with toks := k }) : wpAny (model prog w) A (call (.builtin "str.replace") [.str x t, .str y u, .str z v]) Q E s :=
  SC.replaceW hu hv huv hyz hx hz fun t' k => h t' k (replace_len y hx hz)
local macro_rules | `(tactic| walk_at "call builtin:str.replace") => `(tactic| (k_here; (refine replaceL ?a ?b ?c ?d ?e ?f ?_); (case a => ((show @Ne Nat _ _); omega)); (case b => ((show @Ne Nat _ _); omega)); (case c => ((show @Ne Nat _ _); omega)); (case d => decide +kernel); (case e => (refine Nat.le_trans (partition_len _ _).2.2 ?_; omega)); (case f => decide +kernel); intro _ _ _; (try dsimp only)))
local macro_rules | `(tactic| walk_at "exec Raise some none") => `(tactic| (k_here; refine raise63 rfl ?_))

theorem read_spec {w : World} {loose mean mg mb} {A : Around} {h₀ : Heap} {L : Addr} {dp un gd cn cs a ccd cl outer A₀ base}
    (S : Site w loose mean mg mb 12 A h₀ L dp un gd cn cs a ccd cl outer A₀ base)
    {m : Str → Option Value} {news : List (Addr × Obj)} {s : Shared} {x : Str} {t : Tok} {Q E : Value → Shared → Prop}
    (F : Fr h₀ L s.heap m) (N : News h₀ L s.heap news) (hx : x.length ≤ 500)
    (ret : ∀ D d o h' tk', readS (Txt.split x ";") [] = some D → SD PySem.Challenge.rw_on0242_01.row.prog w o D → (d == sysModules) = false → (∀ p ∈ news, p.1 < d) → Fr h₀ L h' m →
      News h₀ L h' ((d, o) :: news) → Q (.ref d) { s with heap := h', toks := tk' })
    (rz : readS (Txt.split x ";") [] = none → ∀ e G h' tk', Fr h₀ L G m → RaisedSN base G (envX cn cs L a ccd cl :: outer) e (.ref 63) news h' → G.UpToSlots h' → E (.ref e) { s with heap := h', toks := tk' }) :
    wpAny (model PySem.Challenge.rw_on0242_01.row.prog w) A (call (.ref 201) [.str x t]) Q E s := by
  obtain ⟨rfl, B, hk, hd, hu, X, T⟩ := S
  refine wpAny_call ?_
  k_dflt ktr_enter
  k_steps
  rename Obj.IsDictOf (PySem.strKind _ _) _ _ => D1
  rename List.map _ _ = Txt.split _ _ => hsp
  rename ∀ (a : Str), a ∈ _ → a.length ≤ _ => hlen
  rename Heap.IsList _ _ _ => hl
  rename Fr _ _ _ _ => F1
  rename News _ _ _ _ => N1
  rename News _ _ _ (_ :: news) => N0
  have hSD := SD.nil D1
  show wpAny _ _ _ _ _ _
  rename List (Str × Tok) => l0
  refine iter_list (news := news) (readJ w (l0.map (·.1)) _) rfl F1 (News.c1 N1) hl (Ne.symm (N1 _ (.head _)).2.1) (fun p hp => Nat.ne_of_lt (Heap.lt_size (N0 p hp).1)) ?off ⟨[], _, _, rfl, rfl, Nat.zero_le _, hSD, map1 (by with_unfolding_all rfl)⟩ ?turn ?done
  case off => exact ownOff_of (by intro b hb; simp only [List.map_cons, List.map_nil, List.mem_cons, List.not_mem_nil, or_false] at hb; subst hb; exact fun p hp => Nat.ne_of_lt (by apply_assumption; exact hp))
  case turn =>
    rintro i v m₁ trk₁ h tk rest hsub hi ha ho ⟨D, o1, u1, rfl, hrd, hDl, hSD1, rfl⟩ F2 N2
    obtain ⟨p, tp, rfl, hp⟩ := strValues_get hi
    have ho1 := (off_one ho).1
    have hpl := hlen p (List.mem_of_getElem? hp)
    have hDl2 : D.length ≤ 600 := by
      have h1 := (List.getElem?_eq_some_iff.mp hp).1
      rw [hsp] at h1
      have h2 := split_len x ";"
      omega
    dsimp only at F2 ho1
    simp only [List.cons_append, List.nil_append] at N2
    show wpAny _ _ _ _ _ _
    k_fold
    k_steps
    · rename Fr _ _ _ _ => Fz
      rename Frag.In _ _ => Xz
      rename News _ _ _ _ => Nz
      refine wpAny_up (A' := big) ?u1 ?u2 rfl rfl ?u5 (make63_big (Xz.keeps Fz.keep) (by simp only [Str.length_append]; have := (by decide +kernel : ("a property without a value: " : Str).length ≤ 100); omega) ?_)
      case u1 => rfl
      case u2 => show dp + 1 ≤ 700; omega
      case u5 => show un + 3 ≤ 7000; omega
      intro e h' tk1 M
      obtain ⟨t1, d1, M1⟩ := M.there
      refine ⟨e, t1, _, _, rfl, (Xz.keeps Fz.keep).keeps M.keeps, M1, ?_⟩
      (try dsimp only)
      show wpAny _ _ (leaving _ (.ref e)) _ _ _
      rename Below _ _ _ _ => Bz
      refine leave63 (news := news) Bz M Fz (fun q hq => Nz q ?_) (fun h'' R U => ?_)
      · (repeat (first | exact hsub q hq | refine List.Mem.tail _ ?_))
      · refine rz ?_ e _ h'' tk1 (by assumption) R U
        · rename (_ == _) = true => hcolon
          rename (_ != _) = true => hstrip
          rw [← hsp]
          refine readS_none hp hrd ?_
          unfold stepS
          rw [if_neg (by simpa using hstrip), if_pos (by simpa using hcolon)]
    · rename Fr _ _ _ _ => Fz
      rename News _ _ _ _ => Nz
      refine' setItem_SD (D := D) Fz (News.tl Nz) ?U hSD1 ?hsz ?_
      case U => k_updF
      case hsz => exact Nat.le_trans hDl2 (by decide)
      intro h2 o2 F2 N2 S2
      (try dsimp only)
      show wpAny _ _ _ _ _ _
      k_steps
      rename News _ _ _ _ => Nf
      rename Fr _ _ _ _ => Ff
      refine' turnEnd1 (a := _) (rest := rest) Ff ?N ⟨storedS D (Txt.strip (Txt.partition p ":").1) (Txt.strip (Txt.replace (Txt.partition p ":").2.2 "!important" "")), o2, _, rfl, ?_, ?_, S2, map1 (by with_unfolding_all rfl)⟩ rfl
      case N => (repeat (first | exact Nf | replace Nf := News.tl Nf))
      · refine readS_take hp hrd ?_
        rename (_ == _) = false => hcolon
        rename (_ != _) = true => hstrip
        unfold stepS
        rw [if_neg (by simpa using hstrip), if_neg (by simpa using hcolon)]
      · have := storedS_len D (Txt.strip (Txt.partition p ":").1) (Txt.strip (Txt.replace (Txt.partition p ":").2.2 "!important" ""))
        omega
    · rename News _ _ _ _ => Nf
      rename Fr _ _ _ _ => Ff
      refine' turnEnd1 (a := _) (rest := rest) Ff Nf ⟨D, o1, _, rfl, ?_, by omega, hSD1, map1 (by with_unfolding_all rfl)⟩ rfl
      refine readS_take hp hrd ?_
      rename (_ != _) = false => hstrip
      unfold stepS
      rw [if_pos (by simpa using hstrip)]
  case done =>
    rintro m₁ trk₁ h tk ha ⟨D, o1, u1, rfl, hrd, hDl, hSD1, rfl⟩ F2 N2
    simp only [List.cons_append, List.nil_append] at N2
    show wpAny _ _ _ _ _ _
    k_steps
    rename News _ _ _ _ => Nf
    rename Fr _ _ _ _ => Ff
    refine ret D _ o1 _ _ ?_ hSD1 (by assumption) (by assumption) Ff Nf
    rw [← hsp]
    have e : (strValues l0).length = (l0.map (·.1)).length := by simp [strValues]
    rw [e, List.take_length] at hrd
    exact hrd
-- CDL
/-! a long display of written texts -/
inductive Lits : List (Option PySem.Expr) → List PySem.Expr → List (Str × Str) → Prop
  | nil : Lits [] [] []
  | cons {k v : Str} {a c : Nat} {b d : Pos} {ks : List (Option PySem.Expr)} {vs : List PySem.Expr} {D : List (Str × Str)} : Lits ks vs D → Lits (some (.Constant (.str k) a b) :: ks) (.Constant (.str v) c d :: vs) ((k, v) :: D)
theorem Lits.all {ks vs D} (h : Lits ks vs D) : ks.all (·.isSome) = true ∧ ks.length = vs.length ∧ ks.length = D.length := by
  induction h with
  | nil => exact ⟨rfl, rfl, rfl⟩
  | cons _ ih => exact ⟨by rw [List.all_cons, ih.1]; rfl, by rw [List.length_cons, List.length_cons, ih.2.1], by rw [List.length_cons, List.length_cons, ih.2.2]⟩
section
variable {prog : Program} {w : World} {A : Around} {E : Value → Shared → Prop} {env : Env} {pos : Pos} {d : Addr}
theorem lit_loop {keys : List (Option PySem.Expr)} {values : List PySem.Expr} {D : List (Str × Str)} (hl : Lits keys values D) : ∀ (acc : List (Str × Str)) (kvs : List (Str × Value)) (s : Shared) (Q : PUnit → Shared → Prop), SP kvs acc → s.heap.DictOf (strKind prog w) d kvs → acc.length + D.length ≤ 1000 →
    (∀ h' kvs' tk, SP kvs' (D.foldl (fun a p => storedS a p.1 p.2) acc) → h'.DictOf (strKind prog w) d kvs' → Heap.SameBut d s.heap h' → Q PUnit.unit { s with heap := h', toks := tk }) →
    wpAny (model prog w) A (forIn (pairTrees keys values env pos) PUnit.unit fun (x : Sem Value × Sem Value) (_ : PUnit) => (do
      let kv ← x.1
      let vv ← holding [kv] x.2
      holding [kv, vv] (dictSet d kv vv)
      pure (ForInStep.yield PUnit.unit) : Sem (ForInStep PUnit))) Q E s := by
  induction hl with
  | nil =>
    intro acc kvs s Q hs hd _ hQ
    unfold pairTrees
    rw [List.forIn_nil]
    exact wpAny_pure (hQ s.heap kvs s.toks hs hd (Heap.SameBut.refl _ _))
  | @cons k v a c b d' ks vs D' _ ih =>
    intro acc kvs s Q hs hd hz hQ
    unfold pairTrees
    rw [List.forIn_cons]
    refine wpAny_bind (wpAny_bind ?_)
    show wpAny _ _ (eval (.Constant (.str k) a b) env) _ _ _
    refine wpAny_Constant_str (wpAny_bind (wpAny_holding (wpAny_bind ?_)))
    show wpAny _ _ (eval (.Constant (.str v) c d') env) _ _ _
    refine wpAny_Constant_str (wpAny_bind (wpAny_standAt (wpAny_pure (wpAny_bind (wpAny_holding ?_)))))
    have hlen := hs.length
    simp only [List.length_cons] at hz
    refine wpAny_dictSet_pairs (hsz := by rw [sizeLine_eq]; omega) (strKind_is prog w k s.toks) hd fun h₁ hd₁ hs₁ => wpAny_pure ?_
    have e1 := storedS_len acc k v
    refine ih (storedS acc k v) _ _ Q (hs.stored k v _) hd₁ (by omega) fun h' kvs' tk a b c => ?_
    exact hQ h' kvs' tk a b (hs₁.trans c)
theorem gather_tail (f : (Option (Sem Value) × Sem Value) → (Option Addr × List (Sem Value × Sem Value)) → Sem (ForInStep (Option Addr × List (Sem Value × Sem Value)))) (rest : List (Option (Sem Value) × Sem Value))
    (hf : ∀ (p : Sem Value × Sem Value) (run : List (Sem Value × Sem Value)), run.length + 1 < 17 → f (some p.1, p.2) (none, run) = pure (.yield (none, run ++ [p]))) :
    ∀ (items run : List (Sem Value × Sem Value)), run.length + items.length < 17 → forIn (items.map (fun p => (some p.1, p.2)) ++ rest) ((none : Option Addr), run) f = forIn rest (none, run ++ items) f := by
  intro items
  induction items with
  | nil => intro run _; simp
  | cons p r ih =>
    intro run h
    simp only [List.length_cons] at h
    rw [List.map_cons, List.cons_append, List.forIn_cons, hf p run (by omega), pure_bind]
    show forIn _ (none, run ++ [p]) f = _
    rw [ih (run ++ [p]) (by simp; omega)]
    simp
theorem dictDisplay_17 (init : List (Sem Value × Sem Value)) (last : Sem Value × Sem Value) (hlen : init.length = 16) :
    dictDisplay ((init ++ [last]).map fun p => (some p.1, p.2)) = (do let d ← subDict (init ++ [last]); pure (.ref d)) := by
  unfold dictDisplay
  dsimp only
  rw [List.map_append, gather_tail _ _ (fun p run h => by
    have hne : ((run ++ [(p.1, p.2)]).length == 17) = false := by simp; omega
    simp only [hne, Bool.false_eq_true, if_false]) init [] (by simp [hlen])]
  simp [hlen]
theorem dict_17 {h₀ : Heap} {L : Addr} {m : Str → Option Value} {news : List (Addr × Obj)} {s : Shared} {keys : List (Option PySem.Expr)} {values : List PySem.Expr} {D : List (Str × Str)} {Q : Value → Shared → Prop} (F : Fr h₀ L s.heap m) (N : News h₀ L s.heap news)
    (hnl : h₀.NoLimit) (hl : Lits keys values D) (h17 : D.length = 17)
    (h : ∀ d o h' tk', SD prog w o (D.foldl (fun a p => storedS a p.1 p.2) []) → (d == sysModules) = false → (∀ p ∈ news, p.1 < d) → Fr h₀ L h' m → News h₀ L h' ((d, o) :: news) → Q (.ref d) { s with heap := h', toks := tk' }) :
    wpAny (model prog w) A (eval (.Dict keys values pos) env) Q E s := by
  obtain ⟨a1, a2, a3⟩ := hl.all
  have hn := pairTrees_length keys values env pos a1 a2
  rw [arm_eval_Dict, zip_pairTrees keys values env pos a1 a2]
  obtain ⟨init, last, e⟩ : ∃ init last, pairTrees keys values env pos = init ++ [last] := by
    rcases List.eq_nil_or_concat (pairTrees keys values env pos) with e | ⟨i, l, e⟩
    · rw [e] at hn; simp at hn; omega
    · exact ⟨i, l, by rw [e, List.concat_eq_append]⟩
  have hi : init.length = 16 := by
    have := congrArg List.length e
    simp at this; omega
  rw [e, dictDisplay_17 init last hi, ← e]
  refine wpAny_bind (wpAny_standAt (wpAny_bind ?_))
  unfold subDict
  refine wpAny_bind (wpAny_alloc (wpAny_bind (wpAny_holding ?_)))
  rw [if_neg (by omega)]
  refine wpAny_bind (wpAny_rule ?_)
  have hd0 : (s.heap.push { cls := .type "dict", data := .dict #[] }).DictOf (strKind prog w) s.heap.objs.size [] := by
    exact Heap.DictOf.new _
  refine wpAny_bind (lit_loop (prog := prog) (w := w) (d := s.heap.objs.size) hl [] [] _ _ .nil hd0 (by simp; omega) fun h' kvs' tk a b c => ?_)
  obtain ⟨o, ho, hdo⟩ := Heap.dictOf_iff.mp b
  exact wpAny_pure (wpAny_pure (wpAny_pure (h _ o h' tk ⟨kvs', hdo, a⟩ (F.notModules (modules_low hnl)) (fun p hp => Heap.lt_size (N p hp).1) (F.filled c) (News.filled F N c ho))))
end
-- CM
theorem fillM : PySem.Challenge.rw_on0242_01 = PySem.Challenge.rw_on0242_01 ∧ mk.heap_1 = mk.heap_1 := by
  k_fill
  w_top off
  exact ⟨rfl, rfl⟩
local macro_rules | `(tactic| k_room) => `(tactic| ((try simp only [depth_mark, depth_under_make, depth_under_kw, depth_in1, depth_deeper, depth_caller]); (try dsimp only [ktrTop]); (show _ < 1000); omega))

section
variable {prog : Program} {w : World} {A : Around} {E : Value → Shared → Prop} {s : Shared} {h₀ : Heap} {L d : Addr} {m : Str → Option Value} {news : List (Addr × Obj)} {g : Obj → List (Addr × Obj)} {o : Obj} {D : List (Str × Str)} {k v : Str} {t u : Tok}
theorem getMethod_SD {name : Str} {id : String} {pl : Sem Bool} {Q : Value × List Value → Shared → Prop} (N : News h₀ L s.heap news) (hm : (d, o) ∈ news) (hd : SD prog w o D) (slot : Slot "dict" name id) (hty : typeOf (.builtin id) = pure (.type "method_descriptor"))
    (h : Q (.builtin id, [.ref d]) s) : wpAny (model prog w) A (getMethod (.ref d) name pl) Q E s := by
  obtain ⟨kvs, hdd, hs⟩ := hd.dictOf N hm
  exact getMethod_builtin hdd.typeIs PySem.F.plainAttrs_dict slot hty hdd.mapOf.noDict h
variable {env : Env} {x : Str} {body : List Stmt} {Q : Flow → Shared → Prop}
theorem iter_dict {m₀ : Str → Option Value} {trk : List (Addr × Obj)} (J : Nat → (Str → Option Value) → List (Addr × Obj) → Prop)
    (hh : A.handled = none) (F : Fr h₀ env.locals s.heap m₀) (N : News h₀ env.locals s.heap ((d, o) :: trk ++ news)) (hd : SD prog w o D) (lo : (d == sysModules) = false) (hlo : ∀ p ∈ trk ++ news, p.1 ≠ d)
    (hoff : OwnOff news (trk.map (·.1))) (hj : J 0 m₀ trk)
    (turn : ∀ i k t m₁ trk₁ h tk rest, (∀ p ∈ news, p ∈ rest) → (D.map (·.1))[i]? = some k → trk₁.map (·.1) = trk.map (·.1) → OwnOff rest (trk.map (·.1)) → J i m₁ trk₁ → Fr h₀ env.locals h (fun y => if y = x then some (.str k t) else m₁ y) → News h₀ env.locals h (trk₁ ++ rest) →
      wpAny (model prog w) A (execs body env) (TurnPost h₀ env.locals (J (i + 1)) rest (trk.map (·.1)) { s with heap := h, toks := tk } Q) E { s with heap := h, toks := tk })
    (done : ∀ m₁ trk₁ h tk, trk₁.map (·.1) = trk.map (·.1) → J D.length m₁ trk₁ → Fr h₀ env.locals h m₁ → News h₀ env.locals h (trk₁ ++ news) → Q .next { s with heap := h, toks := tk }) :
    wpAny (model prog w) A (pyIter (.ref d)) (fun it s₂ => LoopAtV prog w A h₀ env x body Q E it s₂) E s := by
  obtain ⟨kvs, hdd, hs⟩ := hd.dictOf N (.head _)
  obtain ⟨ep, hat⟩ := hdd.dictAt
  have hdN := N (d, o) (.head _)
  have N1 : News h₀ env.locals s.heap (trk ++ news) := fun p hp => N p (.tail _ hp)
  refine wpAny_pyIter_dict lo hat ?_
  have hne : d ≠ s.heap.objs.size := Nat.ne_of_lt hat.lt_size
  have W := Walks.dictKeys (prog := prog) (w := w) (knd := strKind prog w) hh s.heap.objs.size d hne kvs ep
  have off : ∀ p ∈ trk ++ news, p.1 ∉ [s.heap.objs.size] := fun p hp hI => absurd (Heap.lt_size (N1 p hp).1) ((List.mem_singleton.mp hI) ▸ Nat.lt_irrefl _)
  refine loop_trk J W ?_ ?_ off ?_ ⟨⟨_, Heap.get?_push_size _ rfl, rfl, rfl⟩, hat.push _⟩ (F.push _) (fun p hp => ⟨Heap.get?_push_of_some _ (N1 p hp).1, (N1 p hp).2⟩) hoff hj ?_ ?_
  · intro hm
    rcases List.mem_cons.mp hm with e | hm
    · exact absurd F.ns.lt (e ▸ Nat.lt_irrefl _)
    · exact hdN.2.1 (List.mem_singleton.mp hm).symm
  · intro b hb; rw [List.mem_singleton.mp hb]; exact next_is_new F
  · intro q hq hI
    rcases List.mem_cons.mp hI with e | hI
    · exact off q hq (by rw [e]; exact .head _)
    · exact hlo q hq (List.mem_singleton.mp hI)
  · rintro i v m₁ trk₁ h tk rest hsub hi ⟨k, x', hx, hk⟩ ha ho hJ F₁ N₁
    obtain ⟨t, rfl⟩ := Value.isStrOf_shape hk
    refine turn i k t m₁ trk₁ h tk rest hsub ?_ ha ho hJ F₁ N₁
    rw [← hs.keys, List.getElem?_map, hx]; rfl
  · rw [hs.length]; exact done
theorem iter_tup {l : Addr} {vs : List Value} {m₀ : Str → Option Value} {trk news : List (Addr × Obj)}
    (J : Nat → (Str → Option Value) → List (Addr × Obj) → Prop)
    (hh : A.handled = none) (F : Fr h₀ env.locals s.heap m₀) (N : News h₀ env.locals s.heap (trk ++ news)) (hl : s.heap.IsTuple l vs.toArray) (hL : env.locals ≠ l) (hlo : ∀ p ∈ trk ++ news, p.1 ≠ l)
    (hoff : OwnOff news (trk.map (·.1))) (hj : J 0 m₀ trk)
    (turn : ∀ i v m₁ trk₁ h tk rest, (∀ p ∈ news, p ∈ rest) → vs[i]? = some v → trk₁.map (·.1) = trk.map (·.1) → OwnOff rest (trk.map (·.1)) → J i m₁ trk₁ → Fr h₀ env.locals h (fun y => if y = x then some v else m₁ y) → News h₀ env.locals h (trk₁ ++ rest) →
      wpAny (model prog w) A (execs body env) (TurnPost h₀ env.locals (J (i + 1)) rest (trk.map (·.1)) { s with heap := h, toks := tk } Q) E { s with heap := h, toks := tk })
    (done : ∀ m₁ trk₁ h tk, trk₁.map (·.1) = trk.map (·.1) → J vs.length m₁ trk₁ → Fr h₀ env.locals h m₁ → News h₀ env.locals h (trk₁ ++ news) → Q .next { s with heap := h, toks := tk }) :
    wpAny (model prog w) A (pyIter (.ref l)) (fun it s₂ => LoopAtV prog w A h₀ env x body Q E it s₂) E s := by
  obtain ⟨ol, hol, _⟩ := id hl
  refine wpAny_pyIter_tuple hl ?_
  have hne : l ≠ s.heap.objs.size := Nat.ne_of_lt (Heap.lt_size hol)
  have W := Walks.tuple (prog := prog) (w := w) hh s.heap.objs.size l hne vs.toArray
  have hlen : vs.toArray.size = vs.length := by simp
  rw [hlen] at W
  have off : ∀ p ∈ trk ++ news, p.1 ∉ [s.heap.objs.size] := fun p hp hI => absurd (Heap.lt_size (N p hp).1) ((List.mem_singleton.mp hI) ▸ Nat.lt_irrefl _)
  refine loop_trk J W ?_ ?_ off ?_ ⟨⟨_, Heap.get?_push_size _ rfl, rfl, rfl⟩, hl.at fun o e => Heap.get?_push_of_some _ e⟩ (F.push _) (fun p hp => ⟨Heap.get?_push_of_some _ (N p hp).1, (N p hp).2⟩) hoff hj ?_ ?_
  · intro hm
    rcases List.mem_cons.mp hm with e | hm
    · exact absurd F.ns.lt (e ▸ Nat.lt_irrefl _)
    · exact hL (List.mem_singleton.mp hm)
  · intro b hb; rw [List.mem_singleton.mp hb]; exact next_is_new F
  · intro q hq hI
    rcases List.mem_cons.mp hI with e | hI
    · exact off q hq (by rw [e]; exact .head _)
    · exact hlo q hq (List.mem_singleton.mp hI)
  · rintro i v m₁ trk₁ h tk rest hsub hi hP ha ho hJ F₁ N₁
    exact turn i v m₁ trk₁ h tk rest hsub (by simpa using hP) ha ho hJ F₁ N₁
  · exact done
end

section
variable {prog : Program} {w : World} {A : Around} {E : Value → Shared → Prop} {s : Shared} {env : Env} {h₀ : Heap} {x : Str} {body : List Stmt} {Q : Flow → Shared → Prop}
/-- a loop that tracks `trk`; what is walked over may lie among the fixed objects -/
theorem loop_fix {I : Addr} {fp wr : List Addr} {n : Nat} {P : Nat → Value → Prop} {St : Nat → Heap → Prop} {m₀ : Str → Option Value} {trk news : List (Addr × Obj)} (J : Nat → (Str → Option Value) → List (Addr × Obj) → Prop)
    (W : Walks prog w A I fp wr n P St) (hLf : env.locals ∉ fp) (hwr : ∀ b ∈ wr, h₀.get? b = none) (hnw : ∀ p ∈ trk ++ news, p.1 ∉ wr) (hfp : ∀ q ∈ trk, q.1 ∉ fp) (hst : St 0 s.heap) (F : Fr h₀ env.locals s.heap m₀)
    (N : News h₀ env.locals s.heap (trk ++ news)) (hoff : OwnOff news (trk.map (·.1))) (hj : J 0 m₀ trk)
    (turn : ∀ i v m₁ trk₁ h tk rest, (∀ p ∈ news, p ∈ rest) → i < n → P i v → trk₁.map (·.1) = trk.map (·.1) → OwnOff rest (trk.map (·.1)) → J i m₁ trk₁ → Fr h₀ env.locals h (fun y => if y = x then some v else m₁ y) → News h₀ env.locals h (trk₁ ++ rest) →
      wpAny (model prog w) A (execs body env) (TurnPost h₀ env.locals (J (i + 1)) rest (trk.map (·.1)) { s with heap := h, toks := tk } Q) E { s with heap := h, toks := tk })
    (done : ∀ m₁ trk₁ h tk, trk₁.map (·.1) = trk.map (·.1) → J n m₁ trk₁ → Fr h₀ env.locals h m₁ → News h₀ env.locals h (trk₁ ++ news) → Q .next { s with heap := h, toks := tk }) :
    LoopAtV prog w A h₀ env x body Q E (.ref I) s := by
  refine ⟨I, fp, wr, n, P, St, m₀, trk ++ news, fun i m₁ news₁ => ∃ trk₁, news₁ = trk₁ ++ news ∧ trk₁.map (·.1) = trk.map (·.1) ∧ J i m₁ trk₁, rfl, W, hLf, hwr, hnw, hst, F, N, ⟨trk, rfl, rfl, hj⟩, ?_, ?_⟩
  · rintro i v m₁ news₁ s₁ own ⟨hh', tk', rfl⟩ hin hP ⟨trk₁, rfl, ha, hJ⟩ hoff' hown _ _ _ F₁ N₁
    have N₂ : News h₀ env.locals hh' (trk₁ ++ (news ++ own)) := fun p hp => N₁ p (by
      simp only [List.mem_append] at hp ⊢; rcases hp with h | h | h <;> simp [h])
    have ho : OwnOff (news ++ own) (trk.map (·.1)) := by
      intro p hp b hb
      rcases List.mem_append.mp hp with h1 | h1
      · exact hoff p h1 b hb
      · intro e
        obtain ⟨q, hq, rfl⟩ := List.mem_map.mp hb
        exact hfp q hq (e ▸ hown p h1)
    refine wpAny_mono (turn i v m₁ trk₁ hh' tk' (news ++ own) (fun p hp => List.mem_append_left _ hp) hin hP ha ho hJ F₁ N₂) (fun f s₂ p => ?_) fun _ _ e => e
    have fin : TurnEnd h₀ env.locals (J (i + 1)) (news ++ own) (trk.map (·.1)) { s with heap := hh', toks := tk' } s₂ →
        LoopStepU h₀ env.locals wr own (fun m₁ news₁ => ∃ trk₁, news₁ = trk₁ ++ news ∧ trk₁.map (·.1) = trk.map (·.1) ∧ J (i + 1) m₁ trk₁) { s with heap := hh', toks := tk' } .next s₂ := by
      rintro ⟨h', tk, m', trk', e, F', N', ha', hJ'⟩
      refine ⟨rfl, h', tk, m', trk' ++ news, e, F', fun p hp => N' p ?_, fun p hp => ?_, ⟨trk', rfl, ha', hJ'⟩⟩
      · simp only [List.mem_append] at hp ⊢; rcases hp with h | h | h <;> simp [h]
      · rcases List.mem_append.mp hp with h1 | h1
        · have h2 : p.1 ∈ trk'.map (·.1) := List.mem_map.mpr ⟨p, h1, rfl⟩
          rw [ha'] at h2
          obtain ⟨q, hq, e⟩ := List.mem_map.mp h2
          rw [← e]; exact hnw q (List.mem_append_left _ hq)
        · exact hnw p (List.mem_append_right _ h1)
    cases f with
    | ret v => exact .ret p
    | brk => exact .brk p
    | next => exact .next (fin p)
    | cont => exact .cont (fin p)
  · rintro h' tk' m' news' F' N' _ ⟨trk₁, rfl, ha, hJ⟩
    exact done m' trk₁ h' tk' ha hJ F' N'
variable {d l : Addr} {m₀ : Str → Option Value} {news trk : List (Addr × Obj)} {o : Obj} {D : List (Str × Str)}
theorem iter_dictF (J : Nat → (Str → Option Value) → List (Addr × Obj) → Prop)
    (hh : A.handled = none) (F : Fr h₀ env.locals s.heap m₀) (N : News h₀ env.locals s.heap (trk ++ news)) (hm : (d, o) ∈ news) (hd : SD prog w o D) (lo : (d == sysModules) = false)
    (hoff : OwnOff news (trk.map (·.1))) (hj : J 0 m₀ trk)
    (turn : ∀ i k t m₁ trk₁ h tk rest, (∀ p ∈ news, p ∈ rest) → (D.map (·.1))[i]? = some k → trk₁.map (·.1) = trk.map (·.1) → OwnOff rest (trk.map (·.1)) → J i m₁ trk₁ → Fr h₀ env.locals h (fun y => if y = x then some (.str k t) else m₁ y) → News h₀ env.locals h (trk₁ ++ rest) →
      wpAny (model prog w) A (execs body env) (TurnPost h₀ env.locals (J (i + 1)) rest (trk.map (·.1)) { s with heap := h, toks := tk } Q) E { s with heap := h, toks := tk })
    (done : ∀ m₁ trk₁ h tk, trk₁.map (·.1) = trk.map (·.1) → J D.length m₁ trk₁ → Fr h₀ env.locals h m₁ → News h₀ env.locals h (trk₁ ++ news) → Q .next { s with heap := h, toks := tk }) :
    wpAny (model prog w) A (pyIter (.ref d)) (fun it s₂ => LoopAtV prog w A h₀ env x body Q E it s₂) E s := by
  have hm' : (d, o) ∈ trk ++ news := List.mem_append_right _ hm
  obtain ⟨kvs, hdd, hs⟩ := hd.dictOf N hm'
  obtain ⟨ep, hat⟩ := hdd.dictAt
  have hdN := N (d, o) hm'
  refine wpAny_pyIter_dict lo hat ?_
  have hne : d ≠ s.heap.objs.size := Nat.ne_of_lt hat.lt_size
  have W := Walks.dictKeys (prog := prog) (w := w) (knd := strKind prog w) hh s.heap.objs.size d hne kvs ep
  have off : ∀ p ∈ trk ++ news, p.1 ∉ [s.heap.objs.size] := fun p hp hI => absurd (Heap.lt_size (N p hp).1) ((List.mem_singleton.mp hI) ▸ Nat.lt_irrefl _)
  refine loop_fix J W ?_ ?_ off ?_ ⟨⟨_, Heap.get?_push_size _ rfl, rfl, rfl⟩, hat.push _⟩ (F.push _) (fun p hp => ⟨Heap.get?_push_of_some _ (N p hp).1, (N p hp).2⟩) hoff hj ?_ ?_
  · intro hm
    rcases List.mem_cons.mp hm with e | hm
    · exact absurd F.ns.lt (e ▸ Nat.lt_irrefl _)
    · exact hdN.2.1 (List.mem_singleton.mp hm).symm
  · intro b hb; rw [List.mem_singleton.mp hb]; exact next_is_new F
  · intro q hq hI
    rcases List.mem_cons.mp hI with e | hI
    · exact off q (List.mem_append_left _ hq) (by rw [e]; exact .head _)
    · exact hoff _ hm q.1 (List.mem_map.mpr ⟨q, hq, rfl⟩) (List.mem_singleton.mp hI).symm
  · rintro i v m₁ trk₁ h tk rest hsub hi ⟨k, x', hx, hk⟩ ha ho hJ F₁ N₁
    obtain ⟨t, rfl⟩ := Value.isStrOf_shape hk
    refine turn i k t m₁ trk₁ h tk rest hsub ?_ ha ho hJ F₁ N₁
    rw [← hs.keys, List.getElem?_map, hx]; rfl
  · rw [hs.length]; exact done
theorem iter_listF {vs : List Value} {n : Nat}
    (J : Nat → (Str → Option Value) → List (Addr × Obj) → Prop)
    (hh : A.handled = none) (F : Fr h₀ env.locals s.heap m₀) (N : News h₀ env.locals s.heap (trk ++ news)) (hm : (l, listOf vs.toArray n) ∈ news)
    (hoff : OwnOff news (trk.map (·.1))) (hj : J 0 m₀ trk)
    (turn : ∀ i v m₁ trk₁ h tk rest, (∀ p ∈ news, p ∈ rest) → vs[i]? = some v → trk₁.map (·.1) = trk.map (·.1) → OwnOff rest (trk.map (·.1)) → J i m₁ trk₁ → Fr h₀ env.locals h (fun y => if y = x then some v else m₁ y) → News h₀ env.locals h (trk₁ ++ rest) →
      wpAny (model prog w) A (execs body env) (TurnPost h₀ env.locals (J (i + 1)) rest (trk.map (·.1)) { s with heap := h, toks := tk } Q) E { s with heap := h, toks := tk })
    (done : ∀ m₁ trk₁ h tk, trk₁.map (·.1) = trk.map (·.1) → J vs.length m₁ trk₁ → Fr h₀ env.locals h m₁ → News h₀ env.locals h (trk₁ ++ news) → Q .next { s with heap := h, toks := tk }) :
    wpAny (model prog w) A (pyIter (.ref l)) (fun it s₂ => LoopAtV prog w A h₀ env x body Q E it s₂) E s := by
  have hm' : (l, listOf vs.toArray n) ∈ trk ++ news := List.mem_append_right _ hm
  have hl : s.heap.IsList l vs.toArray := isl N hm'
  have hdN := N _ hm'
  refine wpAny_pyIter_list hl ?_
  have hne : l ≠ s.heap.objs.size := Nat.ne_of_lt (Heap.lt_size hdN.1)
  have W := Walks.list (prog := prog) (w := w) hh s.heap.objs.size l hne vs.toArray
  have hlen : vs.toArray.size = vs.length := by simp
  rw [hlen] at W
  have off : ∀ p ∈ trk ++ news, p.1 ∉ [s.heap.objs.size] := fun p hp hI => absurd (Heap.lt_size (N p hp).1) ((List.mem_singleton.mp hI) ▸ Nat.lt_irrefl _)
  refine loop_fix J W ?_ ?_ off ?_ ⟨⟨_, Heap.get?_push_size _ rfl, rfl, rfl⟩, hl.at fun o e => Heap.get?_push_of_some _ e⟩ (F.push _) (fun p hp => ⟨Heap.get?_push_of_some _ (N p hp).1, (N p hp).2⟩) hoff hj ?_ ?_
  · intro hm
    rcases List.mem_cons.mp hm with e | hm
    · exact absurd F.ns.lt (e ▸ Nat.lt_irrefl _)
    · exact hdN.2.1 (List.mem_singleton.mp hm).symm
  · intro b hb; rw [List.mem_singleton.mp hb]; exact next_is_new F
  · intro q hq hI
    rcases List.mem_cons.mp hI with e | hI
    · exact off q (List.mem_append_left _ hq) (by rw [e]; exact .head _)
    · exact hoff _ hm q.1 (List.mem_map.mpr ⟨q, hq, rfl⟩) (List.mem_singleton.mp hI).symm
  · rintro i v m₁ trk₁ h tk rest hsub hi hP ha ho hJ F₁ N₁
    exact turn i v m₁ trk₁ h tk rest hsub (by simpa using hP) ha ho hJ F₁ N₁
  · exact done
end

local macro_rules | `(tactic| walk_at "getMethod ref") => `(tactic| (k_here; (with_reducible show wpAny _ _ (getMethod (Value.ref _) (PySem.Str.ofString "get") _) _ _ _); k_dflt (refine' getMethod_SD ?N ?m ?d PySem.F.slot_dict_get PySem.F.type_dict_get ?_); walk_at "own dict"))
local macro_rules | `(tactic| walk_at "call builtin:dict.get") => `(tactic| (k_here; (with_reducible show wpAny _ _ (call (Value.builtin "dict.get") [Value.ref _, Value.str _ _, _]) _ _ _); k_dflt (refine' get2_SD ?N ?m ?d ?lo ?_ ?_); walk_at "own dict"; (case lo => assumption); (all_goals (first | (intro hlk'; (try dsimp only)) | skip))))
local macro_rules | `(tactic| walk_at "compareOp In str ref") => `(tactic| (k_here; k_dflt (refine' in_SD ?N ?m ?d ?lo ?_); walk_at "own dict"; (case lo => assumption); (try dsimp only)))

def down17 : List (Str × Str) := [(Str.ofString "fill", Str.ofString "black"), (Str.ofString "fill-rule", Str.ofString "nonzero"), (Str.ofString "fill-opacity", Str.ofString "1"), (Str.ofString "stroke", Str.ofString "none"), (Str.ofString "stroke-width", Str.ofString "1"), (Str.ofString "stroke-linecap", Str.ofString "butt"), (Str.ofString "stroke-linejoin", Str.ofString "miter"), (Str.ofString "stroke-miterlimit", Str.ofString "4"), (Str.ofString "stroke-dasharray", Str.ofString "none"), (Str.ofString "stroke-dashoffset", Str.ofString "0"), (Str.ofString "stroke-opacity", Str.ofString "1"), (Str.ofString "clip-rule", Str.ofString "nonzero"), (Str.ofString "color", Str.ofString "black"), (Str.ofString "font-size", Str.ofString "16"), (Str.ofString "font-family", Str.ofString ""), (Str.ofString "text-anchor", Str.ofString "start"), (Str.ofString "visibility", Str.ofString "visible")]
def own7 : List (Str × Str) := [(Str.ofString "opacity", Str.ofString "1"), (Str.ofString "display", Str.ofString "inline"), (Str.ofString "clip-path", Str.ofString "none"), (Str.ofString "mask", Str.ofString "none"), (Str.ofString "stop-color", Str.ofString "black"), (Str.ofString "stop-opacity", Str.ofString "1"), (Str.ofString "mix-blend-mode", Str.ofString "normal")]

theorem sp_nil : SP (strPairs []) [] := .nil
theorem sp_cons {k v : Str} {t u : Tok} {l : List (Value × Value)} {D : List (Str × Str)} (h : SP (strPairs l) D) : SP (strPairs ((.str k t, .str v u) :: l)) ((k, v) :: D) := SP.cons h
/-- a new dict of texts is handed back -/
abbrev RetSD (w : World) (h₀ : Heap) (L : Addr) (m : Str → Option Value) (news : List (Addr × Obj)) (s : Shared) (D : List (Str × Str)) (Q : Value → Shared → Prop) : Prop :=
  ∀ d o h' tk', SD PySem.Challenge.rw_on0242_01.row.prog w o D → (d == sysModules) = false → (∀ p ∈ news, p.1 < d) → Fr h₀ L h' m → News h₀ L h' ((d, o) :: news) → Q (.ref d) { s with heap := h', toks := tk' }

theorem own_spec {w : World} {loose mean mg mb} {A : Around} {h₀ : Heap} {L : Addr} {dp un gd cn cs a ccd cl outer A₀ base}
    (S : Site w loose mean mg mb 5 A h₀ L dp un gd cn cs a ccd cl outer A₀ base)
    {m : Str → Option Value} {news : List (Addr × Obj)} {s : Shared} {Q E : Value → Shared → Prop}
    (F : Fr h₀ L s.heap m) (N : News h₀ L s.heap news) (ret : RetSD w h₀ L m news s own7 Q) :
    wpAny (model PySem.Challenge.rw_on0242_01.row.prog w) A (call (.ref 194) []) Q E s := by
  obtain ⟨rfl, B, hk, hd, hu, X, T⟩ := S
  refine wpAny_call ?_
  k_dflt ktr_enter
  k_steps
  rename Obj.IsDictOf (PySem.strKind _ _) _ _ => D1
  exact ret _ _ _ _ ⟨_, D1, by (first | unfold own7 | unfold down17); repeat (first | exact sp_nil | refine sp_cons ?_)⟩ (by assumption) (by assumption) (by assumption) (by assumption)
local macro_rules | `(tactic| walk_at "eval Dict") => `(tactic| (k_here; k_dflt (refine' dict_17 (D := down17) ?F ?N ?T ?l ?z ?_); walk_at "own both"; (case T => exact (TopRead.nolimit (by k_asm))); (case l => (unfold down17; repeat (first | exact Lits.nil | refine Lits.cons ?_))); (case z => rfl); (intro d' o' h' tk' hS' lo' l1 F' N'); (replace hS' := (show SD _ _ _ down17 from hS')); (try k_sweep)))
theorem down_spec {w : World} {loose mean mg mb} {A : Around} {h₀ : Heap} {L : Addr} {dp un gd cn cs a ccd cl outer A₀ base}
    (S : Site w loose mean mg mb 5 A h₀ L dp un gd cn cs a ccd cl outer A₀ base)
    {m : Str → Option Value} {news : List (Addr × Obj)} {s : Shared} {Q E : Value → Shared → Prop}
    (F : Fr h₀ L s.heap m) (N : News h₀ L s.heap news) (ret : RetSD w h₀ L m news s down17 Q) :
    wpAny (model PySem.Challenge.rw_on0242_01.row.prog w) A (call (.ref 187) []) Q E s := by
  obtain ⟨rfl, B, hk, hd, hu, X, T⟩ := S
  refine wpAny_call ?_
  k_dflt ktr_enter
  k_steps
  rename SD _ _ _ _ => hS
  exact ret _ _ _ _ hS (by assumption) (by assumption) (by assumption) (by assumption)

abbrev RetSL (h₀ : Heap) (L : Addr) (m : Str → Option Value) (news : List (Addr × Obj)) (s : Shared) (xs : List Str) (Q : Value → Shared → Prop) : Prop :=
  ∀ d l n h' tk', l.map (·.1) = xs → (∀ p ∈ news, p.1 < d) → Fr h₀ L h' m → News h₀ L h' ((d, listOf (strValues l).toArray n) :: news) → Q (.ref d) { s with heap := h', toks := tk' }
theorem strValues_nil : strValues [] = [] := rfl
theorem strValues_cons (x : Str) (t : Tok) (l : List (Str × Tok)) : strValues ((x, t) :: l) = .str x t :: strValues l := rfl
theorem ownL_spec {w : World} {loose mean mg mb} {A : Around} {h₀ : Heap} {L : Addr} {dp un gd cn cs a ccd cl outer A₀ base}
    (S : Site w loose mean mg mb 5 A h₀ L dp un gd cn cs a ccd cl outer A₀ base)
    {m : Str → Option Value} {news : List (Addr × Obj)} {s : Shared} {Q E : Value → Shared → Prop}
    (F : Fr h₀ L s.heap m) (N : News h₀ L s.heap news) (ret : RetSL h₀ L m news s (own7.map (·.1)) Q) :
    wpAny (model PySem.Challenge.rw_on0242_01.row.prog w) A (call (.ref 412) []) Q E s := by
  obtain ⟨rfl, B, hk, hd, hu, X, T⟩ := S
  refine wpAny_call ?_
  k_dflt ktr_enter
  k_steps
  exact ret _ [(_, _), (_, _), (_, _), (_, _), (_, _), (_, _), (_, _)] _ _ _ rfl (by assumption) (by assumption) (by assumption)
theorem downL_spec {w : World} {loose mean mg mb} {A : Around} {h₀ : Heap} {L : Addr} {dp un gd cn cs a ccd cl outer A₀ base}
    (S : Site w loose mean mg mb 5 A h₀ L dp un gd cn cs a ccd cl outer A₀ base)
    {m : Str → Option Value} {news : List (Addr × Obj)} {s : Shared} {Q E : Value → Shared → Prop}
    (F : Fr h₀ L s.heap m) (N : News h₀ L s.heap news) (ret : RetSL h₀ L m news s (down17.map (·.1)) Q) :
    wpAny (model PySem.Challenge.rw_on0242_01.row.prog w) A (call (.ref 405) []) Q E s := by
  obtain ⟨rfl, B, hk, hd, hu, X, T⟩ := S
  refine wpAny_call ?_
  k_dflt ktr_enter
  k_steps
  exact ret _ [(_, _), (_, _), (_, _), (_, _), (_, _), (_, _), (_, _), (_, _), (_, _), (_, _), (_, _), (_, _), (_, _), (_, _), (_, _), (_, _), (_, _)] _ _ _ rfl (by assumption) (by assumption) (by assumption)
-- T1
theorem fillT : PySem.Challenge.rw_on0242_01 = PySem.Challenge.rw_on0242_01 ∧ mk.heap_1 = mk.heap_1 := by
  k_fill
  w_top off
  exact ⟨rfl, rfl⟩

def toldStep (S A F : List (Str × Str)) (n : Str) : List (Str × Str) :=
  match lookS S n with
  | some v => storedS F n (Txt.strip v)
  | none => match lookS A n with
    | some v => storedS F n (Txt.strip v)
    | none => F
def toldS (S A : List (Str × Str)) : List (Str × Str) := (down17.map (·.1) ++ own7.map (·.1)).foldl (toldStep S A) []
theorem foldl_take {α β : Type} {f : β → α → β} {b : β} {l : List α} {i : Nat} {k : α} (h : l[i]? = some k) : (l.take (i + 1)).foldl f b = f ((l.take i).foldl f b) k := by
  rw [List.take_add_one, h, List.foldl_append]; rfl
theorem toldStep_none {S A F : List (Str × Str)} {n : Str} (h1 : lookS S n = none) (h2 : lookS A n = none) : toldStep S A F n = F := by simp [toldStep, h1, h2]
theorem toldStep_S {S A F : List (Str × Str)} {n v : Str} (h1 : lookS S n = some v) : toldStep S A F n = storedS F n (Txt.strip v) := by simp [toldStep, h1]
theorem toldStep_A {S A F : List (Str × Str)} {n v : Str} (h1 : lookS S n = none) (h2 : lookS A n = some v) : toldStep S A F n = storedS F n (Txt.strip v) := by simp [toldStep, h1, h2]
theorem toldStep_len (S A F : List (Str × Str)) (n : Str) : (toldStep S A F n).length ≤ F.length + 1 := by
  unfold toldStep
  split
  · exact storedS_len _ _ _
  · split
    · exact storedS_len _ _ _
    · omega
theorem told_len (S A : List (Str × Str)) (l : List Str) : ∀ F : List (Str × Str), (l.foldl (toldStep S A) F).length ≤ F.length + l.length := by
  induction l with
  | nil => intro F; exact Nat.le_refl _
  | cons n l ih =>
    intro F
    have h1 := ih (toldStep S A F n)
    have h2 := toldStep_len S A F n
    simp only [List.foldl_cons, List.length_cons]
    omega
def toldJ (w : World) (S A F0 : List (Str × Str)) (names : List Str) (x st f dk : Addr) (i : Nat) (m₁ : Str → Option Value) (trk : List (Addr × Obj)) : Prop :=
  ∃ (o : Obj) (u : Str → Option Value), trk = [(f, o)] ∧ SD PySem.Challenge.rw_on0242_01.row.prog w o ((names.take i).foldl (toldStep S A) F0) ∧
    m₁ = fun (y : Str) => if y = "element" then some (.ref x) else if y = "style" then some (.ref st) else if y = "found" then some (.ref f) else if y = "known" then some (.ref dk) else u y
def partF (S A : List (Str × Str)) (i : Nat) : List (Str × Str) := (([down17.map (·.1), own7.map (·.1)].take i).flatten).foldl (toldStep S A) []
theorem partF_len (S A : List (Str × Str)) (i : Nat) : (partF S A i).length ≤ 30 := by
  have h := told_len S A (([down17.map (·.1), own7.map (·.1)].take i).flatten) []
  have h2 : (([down17.map (·.1), own7.map (·.1)].take i).flatten).length ≤ 24 := by
    rcases i with _ | _ | i
    · decide
    · decide +kernel
    · rw [show [down17.map (·.1), own7.map (·.1)].take (i + 2) = [down17.map (·.1), own7.map (·.1)] from by simp]; decide +kernel
  simp only [List.length_nil] at h
  unfold partF
  omega
theorem partF_one {prog : Program} {w : World} {o : Obj} {S A : List (Str × Str)} (h : SD prog w o (((down17.map (·.1)).take down17.length).foldl (toldStep S A) (partF S A 0))) : SD prog w o (partF S A (0 + 1)) := by
  have e : (down17.map (·.1)).take down17.length = down17.map (·.1) := by rw [List.take_of_length_le]; simp
  rw [e] at h
  have e2 : partF S A 0 = [] := rfl
  rw [e2] at h
  have e3 : partF S A (0 + 1) = ((down17.map (·.1))).foldl (toldStep S A) [] := by unfold partF; simp
  rw [e3]; exact h
theorem partF_mid {prog : Program} {w : World} {o : Obj} {S A : List (Str × Str)} (h : SD prog w o (((own7.map (·.1)).take own7.length).foldl (toldStep S A) (partF S A 1))) : SD prog w o (partF S A (1 + 1)) := by
  have e : (own7.map (·.1)).take own7.length = own7.map (·.1) := by rw [List.take_of_length_le]; simp
  rw [e] at h
  have e3 : partF S A (1 + 1) = (own7.map (·.1)).foldl (toldStep S A) (partF S A 1) := by unfold partF; simp
  rw [e3]; exact h
theorem partF_two {prog : Program} {w : World} {o : Obj} {S A : List (Str × Str)} (h : SD prog w o (partF S A 2)) : SD prog w o (toldS S A) := by
  have e3 : partF S A 2 = toldS S A := by unfold partF toldS; simp
  rw [← e3]; exact h
theorem News.cut4 {h₀ h : Heap} {L : Addr} {a b c d e : Addr × Obj} {r : List (Addr × Obj)} (N : News h₀ L h (a :: b :: c :: d :: e :: r)) : News h₀ L h (a :: r) :=
  News.perm N fun p hp => by simp only [List.mem_cons] at hp ⊢; rcases hp with h | h <;> simp [h]
theorem map3 {m : Str → Option Value} {k1 k2 k3 : Str} {v1 v2 v3 : Value} (h1 : m k1 = some v1) (h2 : m k2 = some v2) (h3 : m k3 = some v3) :
    m = fun y => if y = k1 then some v1 else if y = k2 then some v2 else if y = k3 then some v3 else m y := by
  funext y
  by_cases e1 : y = k1
  · subst e1; simp [h1]
  by_cases e2 : y = k2
  · subst e2; simp [h2, e1]
  by_cases e3 : y = k3
  · subst e3; simp [h3, e1, e2]
  simp [e1, e2, e3]
def toldO (w : World) (S A : List (Str × Str)) (x st f : Addr) (i : Nat) (m₁ : Str → Option Value) (trk : List (Addr × Obj)) : Prop :=
  ∃ (o : Obj) (u : Str → Option Value), trk = [(f, o)] ∧ SD PySem.Challenge.rw_on0242_01.row.prog w o (partF S A i) ∧
    m₁ = fun (y : Str) => if y = "element" then some (.ref x) else if y = "style" then some (.ref st) else if y = "found" then some (.ref f) else u y
abbrev elDict (w : World) (v1 v3 v4 : Value) (t1 t2 t3 t4 : Tok) (at' : Addr) (n : Nat) : Obj :=
  dictOf [{ hash := PyData.keyHash w.params "name", key := .str "name" t1, val := v1 }, { hash := PyData.keyHash w.params "attributes", key := .str "attributes" t2, val := .ref at' },
    { hash := PyData.keyHash w.params "children", key := .str "children" t3, val := v3 }, { hash := PyData.keyHash w.params "text", key := .str "text" t4, val := v4 }] n

local macro_rules | `(tactic| walk_at "exec For Name Name cons nil") => `(tactic| (k_here; walk_at "own for"))
theorem read_use {w : World} {loose mean mg mb} {A : Around} {h₀ : Heap} {L : Addr} {dp un gd cn cs a ccd cl outer A₀ base}
    (S : Site w loose mean mg mb 12 A h₀ L dp un gd cn cs a ccd cl outer A₀ base)
    {m : Str → Option Value} {news : List (Addr × Obj)} {s : Shared} {x : Str} {t : Tok} {D : List (Str × Str)} {Q E : Value → Shared → Prop}
    (F : Fr h₀ L s.heap m) (N : News h₀ L s.heap news) (hx : x.length ≤ 500) (hst : readS (Txt.split x ";") [] = some D)
    (ret : RetSD w h₀ L m news s D Q) :
    wpAny (model PySem.Challenge.rw_on0242_01.row.prog w) A (call (.ref 201) [.str x t]) Q E s := by
  refine read_spec S F N hx (fun D' d o h' tk' e => ?_) (fun e => by rw [hst] at e; cases e)
  rw [hst] at e; cases e
  exact ret d o h' tk'
section
variable {prog : Program} {w : World} {A : Around} {E : Value → Shared → Prop} {s : Shared} {h₀ : Heap} {L d : Addr} {news : List (Addr × Obj)} {o : Obj} {D : List (Str × Str)} {k v : Str} {t : Tok}
theorem get2_SDb {dflt : Value} {Q : Value → Shared → Prop} (N : News h₀ L s.heap news) (hm : (d, o) ∈ news) (hd : SD prog w o D) (lo : (d == sysModules) = false)
    (hb : ∀ n v, lookS D n = some v → v.length ≤ 1000) (h1 : lookS D k = none → Q dflt { s with toks := s.toks + 1 }) (h2 : ∀ v t', lookS D k = some v → v.length ≤ 1000 → Q (.str v t') { s with toks := s.toks + 1 }) :
    wpAny (model prog w) A (call (.builtin "dict.get") [.ref d, .str k t, dflt]) Q E s :=
  get2_SD N hm hd lo h1 (fun v t' q => h2 v t' q (hb _ _ q))
theorem get2_none {dflt : Value} {Q : Value → Shared → Prop} (e : lookS D k = none) (N : News h₀ L s.heap news) (hm : (d, o) ∈ news) (hd : SD prog w o D) (lo : (d == sysModules) = false)
    (h1 : Q dflt { s with toks := s.toks + 1 }) : wpAny (model prog w) A (call (.builtin "dict.get") [.ref d, .str k t, dflt]) Q E s :=
  get2_SD N hm hd lo (fun _ => h1) (fun v t' q => by rw [e] at q; cases q)
theorem get2_some {dflt : Value} {Q : Value → Shared → Prop} (e : lookS D k = some v) (N : News h₀ L s.heap news) (hm : (d, o) ∈ news) (hd : SD prog w o D) (lo : (d == sysModules) = false)
    (h1 : ∀ t', Q (.str v t') { s with toks := s.toks + 1 }) : wpAny (model prog w) A (call (.builtin "dict.get") [.ref d, .str k t, dflt]) Q E s :=
  get2_SD N hm hd lo (fun q => by rw [e] at q; cases q) (fun v' t' q => by rw [e] at q; cases q; exact h1 t')
theorem get2_or {dv : Str} {tv : Tok} {Q : Value → Shared → Prop} (N : News h₀ L s.heap news) (hm : (d, o) ∈ news) (hd : SD prog w o D) (lo : (d == sysModules) = false)
    (h1 : ∀ t', Q (.str ((lookS D k).getD dv) t') { s with toks := s.toks + 1 }) : wpAny (model prog w) A (call (.builtin "dict.get") [.ref d, .str k t, .str dv tv]) Q E s :=
  get2_SD N hm hd lo (fun e => by have h2 := h1 tv; rw [e] at h2; exact h2) (fun v' t' e => by have h2 := h1 t'; rw [e] at h2; exact h2)
end
local macro_rules | `(tactic| walk_at "call builtin:dict.get") => `(tactic| (k_here; (with_reducible show wpAny _ _ (call (Value.builtin "dict.get") [Value.ref _, Value.str _ _, _]) _ _ _); k_dflt (refine' get2_SDb ?N ?m ?d ?lo ?b ?_ ?_); walk_at "own dict"; (case lo => assumption); (case b => assumption); rotate_left; (intro v' t' hlk' hlz'); (try dsimp only); rotate_right; (intro hlk'); (try dsimp only)))
local macro_rules | `(tactic| walk_at "call builtin:dict.get") => `(tactic| (k_here; (with_reducible show wpAny _ _ (call (Value.builtin "dict.get") [Value.ref _, Value.str (PySem.Str.ofString "style") _, Value.str _ _]) _ _ _); k_dflt (refine' get2_or ?N ?m ?d ?lo ?_; walk_at "own dict"; (case lo => assumption); intro _; (try dsimp only))))
local macro_rules | `(tactic| walk_at "call ref") => `(tactic| (
  (with_reducible show wpAny _ _ (call (Value.ref 201) [Value.str _ _]) _ _ _)
  k_dflt (refine' read_use ⟨?s1, ?s2, ?s3, ?s4, ?s5, ?s6, ?s7⟩ ?k1 ?k2 ?k3 ?k4 ?_)
  walk_at "own site"
  (case k3 => first | assumption | (decide +kernel))
  (case k4 => assumption)
  intro d' o' h' tk' hS' lo' l1 F' N'; (try dsimp only); (try k_lt l1); walk_at "own end"))
local macro_rules | `(tactic| walk_at "call ref") => `(tactic| (
  k_dflt (show wpAny _ _ (call (Value.ref 194) []) _ _ _)
  k_dflt (refine' own_spec ⟨?s1, ?s2, ?s3, ?s4, ?s5, ?s6, ?s7⟩ ?k1 ?k2 ?_)
  walk_at "own site"
  intro d' o' h' tk' hS' lo' l1 F' N'; (try dsimp only); (try k_lt l1); walk_at "own end"))
local macro_rules | `(tactic| walk_at "call ref") => `(tactic| (
  k_dflt (show wpAny _ _ (call (Value.ref 187) []) _ _ _)
  k_dflt (refine' down_spec ⟨?s1, ?s2, ?s3, ?s4, ?s5, ?s6, ?s7⟩ ?k1 ?k2 ?_)
  walk_at "own site"
  intro d' o' h' tk' hS' lo' l1 F' N'; (try dsimp only); (try k_lt l1); walk_at "own end"))

local macro_rules | `(tactic| walk_at "exec For Name Tuple cons nil") => `(tactic| (k_here; walk_at "own for"))
theorem told_spec {w : World} {loose mean mg mb} {A : Around} {h₀ : Heap} {L : Addr} {dp un gd cn cs a ccd cl outer A₀ base}
    (S : Site w loose mean mg mb 20 A h₀ L dp un gd cn cs a ccd cl outer A₀ base)
    {m : Str → Option Value} {news : List (Addr × Obj)} {s : Shared} {x d at' : Addr} {v1 v3 v4 : Value} {t1 t2 t3 t4 : Tok} {n : Nat} {oA : Obj} {DA DS : List (Str × Str)} {Q E : Value → Shared → Prop}
    (F : Fr h₀ L s.heap m) (N : News h₀ L s.heap ((x, instObj 373 d) :: (d, elDict w v1 v3 v4 t1 t2 t3 t4 at' n) :: (at', oA) :: news))
    (hA : SD PySem.Challenge.rw_on0242_01.row.prog w oA DA) (loA : (at' == sysModules) = false)
    (hst : readS (Txt.split ((lookS DA "style").getD "") ";") [] = some DS) (hsl : ((lookS DA "style").getD "").length ≤ 500)
    (hvl : ∀ n v, lookS DA n = some v → v.length ≤ 1000) (hvl2 : ∀ n v, lookS DS n = some v → v.length ≤ 1000)
    (ret : ∀ d o h' tk', SD PySem.Challenge.rw_on0242_01.row.prog w o (toldS DS DA) → (d == sysModules) = false → (∀ p ∈ news, p.1 < d) → Fr h₀ L h' m →
      News h₀ L h' ((d, o) :: news) → Q (.ref d) { s with heap := h', toks := tk' }) :
    wpAny (model PySem.Challenge.rw_on0242_01.row.prog w) A (call (.ref 208) [.ref x]) Q E s := by
  obtain ⟨rfl, B, hk, hd, hu, X, T⟩ := S
  all_goals (
    refine wpAny_call ?_
    k_dflt ktr_enter
    k_steps)
  all_goals (
    rename_i st oS _ _ hSst loS lS _ _ _ f _ oF loF hsF _ _ _ lF _ _ _ d1 o1 _ _ hS1 lo1 l1 d2 o2 _ _ hS2 lo2 l2 Dt hD FD ND lD
    have hS0 := SD.nil hsF
    have kD : ∀ p ∈ (d2, o2) :: (d1, o1) :: (f, oF) :: (st, oS) :: (x, instObj 373 d) :: (d, elDict w v1 v3 v4 t1 t2 t3 t4 at' n) :: (at', oA) :: news, p.1 < Dt := fun p hp => tb_ltOf (l := (d2, o2) :: (d1, o1) :: (f, oF) :: (st, oS) :: (x, instObj 373 d) :: (d, elDict w v1 v3 v4 t1 t2 t3 t4 at' n) :: (at', oA) :: news) lD p hp
    have k2 : ∀ p ∈ (d1, o1) :: (f, oF) :: (st, oS) :: (x, instObj 373 d) :: (d, elDict w v1 v3 v4 t1 t2 t3 t4 at' n) :: (at', oA) :: news, p.1 < d2 := fun p hp => tb_ltOf (l := (d1, o1) :: (f, oF) :: (st, oS) :: (x, instObj 373 d) :: (d, elDict w v1 v3 v4 t1 t2 t3 t4 at' n) :: (at', oA) :: news) l2 p hp
    have k1 : ∀ p ∈ (f, oF) :: (st, oS) :: (x, instObj 373 d) :: (d, elDict w v1 v3 v4 t1 t2 t3 t4 at' n) :: (at', oA) :: news, p.1 < d1 := fun p hp => tb_ltOf (l := (f, oF) :: (st, oS) :: (x, instObj 373 d) :: (d, elDict w v1 v3 v4 t1 t2 t3 t4 at' n) :: (at', oA) :: news) l1 p hp
    have kf : ∀ p ∈ (st, oS) :: (x, instObj 373 d) :: (d, elDict w v1 v3 v4 t1 t2 t3 t4 at' n) :: (at', oA) :: news, p.1 < f := fun p hp => tb_ltOf (l := (st, oS) :: (x, instObj 373 d) :: (d, elDict w v1 v3 v4 t1 t2 t3 t4 at' n) :: (at', oA) :: news) lF p hp)
  all_goals (
    refine iter_tup (trk := [(f, oF)]) (news := (d1, o1) :: (d2, o2) :: (st, oS) :: (x, instObj 373 d) :: (d, elDict w v1 v3 v4 t1 t2 t3 t4 at' n) :: (at', oA) :: news) (vs := [.ref d1, .ref d2]) (toldO w DS DA x st f) rfl FD ?N ⟨_, ND.get (.head _), rfl, _, rfl⟩ (Ne.symm (ND _ (.head _)).2.1) ?hlo ?off ⟨oF, _, rfl, hS0, map3 (by with_unfolding_all rfl) (by with_unfolding_all rfl) (by with_unfolding_all rfl)⟩ ?turn ?done
    case N => exact News.perm ND (fun p hp => by simp only [List.cons_append, List.nil_append, List.mem_cons] at hp ⊢; rcases hp with h | h | h | h | h | h | h | h <;> simp [h])
    case hlo => exact fun p hp => Nat.ne_of_lt (kD p (by simp only [List.cons_append, List.nil_append, List.mem_cons] at hp ⊢; rcases hp with h | h | h | h | h | h | h | h <;> simp [h]))
    case off => exact ownOff_of (by
      intro b hb p hp
      simp only [List.map_cons, List.map_nil, List.mem_cons, List.not_mem_nil, or_false] at hb
      subst hb
      rcases List.mem_cons.mp hp with rfl | hp
      · exact (Nat.ne_of_lt (k1 _ (.head _))).symm
      · rcases List.mem_cons.mp hp with rfl | hp
        · exact (Nat.ne_of_lt (k2 _ (.tail _ (.head _)))).symm
        · exact Nat.ne_of_lt (kf p hp))
    case done =>
      rintro m₁ trk₁ h tk ha ⟨o, u, rfl, hSo, rfl⟩ F2 N2
      simp only [List.cons_append, List.nil_append] at N2
      show wpAny _ _ _ _ _ _
      k_steps
      rename News _ _ _ _ => Nf
      rename Fr _ _ _ _ => Ff
      refine ret _ o _ _ (partF_two hSo) ?_ (fun p hp => kf p (List.Mem.tail _ (List.Mem.tail _ (List.Mem.tail _ (List.Mem.tail _ hp))))) Ff (News.perm Nf (fun p hp => ?_))
      · assumption
      · simp only [List.mem_cons] at hp ⊢
        rcases hp with h | h <;> simp [h]
    case turn =>
      rintro i v m₁ trk₁ h tk rest hsub hi ha ho ⟨o, u, rfl, hSo, rfl⟩ F2 N2
      have md0 := hsub _ (List.Mem.head _)
      have md1 := hsub _ (List.Mem.tail _ (List.Mem.head _))
      have m1 := hsub _ (List.Mem.tail _ (List.Mem.tail _ (List.Mem.head _)))
      have m2 := hsub _ (List.Mem.tail _ (List.Mem.tail _ (List.Mem.tail _ (List.Mem.head _))))
      have m3 := hsub _ (List.Mem.tail _ (List.Mem.tail _ (List.Mem.tail _ (List.Mem.tail _ (List.Mem.head _)))))
      have m4 := hsub _ (List.Mem.tail _ (List.Mem.tail _ (List.Mem.tail _ (List.Mem.tail _ (List.Mem.tail _ (List.Mem.head _))))))
      clear lS
      rcases i with _ | _ | i
      · obtain rfl : v = .ref d1 := by simpa using hi.symm
        show wpAny _ _ _ _ _ _
        k_fold
        k_steps
        rename News _ _ _ _ => N4
        rename Fr _ _ _ _ => F4
        show wpAny _ _ _ _ _ _
        refine iter_dictF (trk := [(f, o)]) (news := rest) (toldJ w DS DA (partF DS DA 0) (down17.map (·.1)) x st f d1) rfl F4 N4 md0 hS1 lo1 ho ⟨o, _, rfl, hSo, map4 (by with_unfolding_all rfl) (by with_unfolding_all rfl) (by with_unfolding_all rfl) (by with_unfolding_all rfl)⟩ ?turn2 ?done2
        case turn2 =>
          rintro j nm tn m₂ trk₂ h2 tk2 rest2 hsub2 hj ha2 ho2 ⟨o', u', rfl, hSo', rfl⟩ F5 N5
          have N6 : News _ _ _ ((f, o') :: (st, oS) :: (x, instObj 373 d) :: (d, elDict w v1 v3 v4 t1 t2 t3 t4 at' n) :: (at', oA) :: rest2) := News.perm N5 (fun p hp => by
            simp only [List.cons_append, List.nil_append, List.mem_cons] at hp ⊢
            rcases hp with h | h | h | h | h | h
            · exact .inl h
            · exact .inr (h ▸ hsub2 _ m1)
            · exact .inr (h ▸ hsub2 _ m2)
            · exact .inr (h ▸ hsub2 _ m3)
            · exact .inr (h ▸ hsub2 _ m4)
            · exact .inr h)
          clear N5
          have hpl := partF_len DS DA 0
          have hfl := told_len DS DA ((down17.map (·.1)).take j) (partF DS DA 0)
          have hfl2 : ((down17.map (·.1)).take j).length ≤ 17 := by
            rw [List.length_take]; exact Nat.le_trans (Nat.min_le_right _ _) (by decide +kernel)
          have hf2 : (((down17.map (·.1)).take j).foldl (toldStep DS DA) (partF DS DA 0)).length ≤ 1000 := by omega
          have of2 := (off_one ho2).1
          dsimp only at of2
          show wpAny _ _ _ _ _ _
          k_fold
          k_steps
          all_goals (
            rename News _ _ _ _ => Nf
            rename Fr _ _ _ _ => Ff
            refine' turnEnd1 (a := f) (rest := rest2) Ff (News.cut4 Nf) ⟨_, _, rfl, ?S, map4 (by with_unfolding_all rfl) (by with_unfolding_all rfl) (by with_unfolding_all rfl) (by with_unfolding_all rfl)⟩ rfl
            case S =>
              rw [foldl_take hj]
              first
                | (rw [toldStep_S (by assumption)]; assumption)
                | (rw [toldStep_A (by assumption) (by assumption)]; assumption)
                | (rw [toldStep_none (by assumption) (by assumption)]; assumption))
        case done2 =>
          rintro m₂ trk₂ h2 tk2 ha2 ⟨o', u', rfl, hSo', rfl⟩ F5 N5
          simp only [List.cons_append, List.nil_append] at N5
          show wpAny _ _ _ _ _ _
          k_steps
          rename News _ _ _ _ => Nf
          rename Fr _ _ _ _ => Ff
          refine' turnEnd1 (a := f) (rest := rest) Ff Nf ⟨_, _, rfl, ?S, map3 (by with_unfolding_all rfl) (by with_unfolding_all rfl) (by with_unfolding_all rfl)⟩ rfl
          case S => exact partF_one hSo'
      · obtain rfl : v = .ref d2 := by simpa using hi.symm
        show wpAny _ _ _ _ _ _
        k_fold
        k_steps
        rename News _ _ _ _ => N4
        rename Fr _ _ _ _ => F4
        show wpAny _ _ _ _ _ _
        refine iter_dictF (trk := [(f, o)]) (news := rest) (toldJ w DS DA (partF DS DA 1) (own7.map (·.1)) x st f d2) rfl F4 N4 md1 hS2 lo2 ho ⟨o, _, rfl, hSo, map4 (by with_unfolding_all rfl) (by with_unfolding_all rfl) (by with_unfolding_all rfl) (by with_unfolding_all rfl)⟩ ?turn2 ?done2
        case turn2 =>
          rintro j nm tn m₂ trk₂ h2 tk2 rest2 hsub2 hj ha2 ho2 ⟨o', u', rfl, hSo', rfl⟩ F5 N5
          have N6 : News _ _ _ ((f, o') :: (st, oS) :: (x, instObj 373 d) :: (d, elDict w v1 v3 v4 t1 t2 t3 t4 at' n) :: (at', oA) :: rest2) := News.perm N5 (fun p hp => by
            simp only [List.cons_append, List.nil_append, List.mem_cons] at hp ⊢
            rcases hp with h | h | h | h | h | h
            · exact .inl h
            · exact .inr (h ▸ hsub2 _ m1)
            · exact .inr (h ▸ hsub2 _ m2)
            · exact .inr (h ▸ hsub2 _ m3)
            · exact .inr (h ▸ hsub2 _ m4)
            · exact .inr h)
          clear N5
          have hpl := partF_len DS DA 1
          have hfl := told_len DS DA ((own7.map (·.1)).take j) (partF DS DA 1)
          have hfl2 : ((own7.map (·.1)).take j).length ≤ 17 := by
            rw [List.length_take]; exact Nat.le_trans (Nat.min_le_right _ _) (by decide +kernel)
          have hf2 : (((own7.map (·.1)).take j).foldl (toldStep DS DA) (partF DS DA 1)).length ≤ 1000 := by omega
          have of2 := (off_one ho2).1
          dsimp only at of2
          show wpAny _ _ _ _ _ _
          k_fold
          k_steps
          all_goals (
            rename News _ _ _ _ => Nf
            rename Fr _ _ _ _ => Ff
            refine' turnEnd1 (a := f) (rest := rest2) Ff (News.cut4 Nf) ⟨_, _, rfl, ?S, map4 (by with_unfolding_all rfl) (by with_unfolding_all rfl) (by with_unfolding_all rfl) (by with_unfolding_all rfl)⟩ rfl
            case S =>
              rw [foldl_take hj]
              first
                | (rw [toldStep_S (by assumption)]; assumption)
                | (rw [toldStep_A (by assumption) (by assumption)]; assumption)
                | (rw [toldStep_none (by assumption) (by assumption)]; assumption))
        case done2 =>
          rintro m₂ trk₂ h2 tk2 ha2 ⟨o', u', rfl, hSo', rfl⟩ F5 N5
          simp only [List.cons_append, List.nil_append] at N5
          show wpAny _ _ _ _ _ _
          k_steps
          rename News _ _ _ _ => Nf
          rename Fr _ _ _ _ => Ff
          refine' turnEnd1 (a := f) (rest := rest) Ff Nf ⟨_, _, rfl, ?S, map3 (by with_unfolding_all rfl) (by with_unfolding_all rfl) (by with_unfolding_all rfl)⟩ rfl
          case S => exact partF_mid hSo'
      · cases i <;> simp at hi)
-- T2
theorem fillT2 : PySem.Challenge.rw_on0242_01 = PySem.Challenge.rw_on0242_01 ∧ mk.heap_1 = mk.heap_1 := by
  k_fill
  w_top off
  exact ⟨rfl, rfl⟩

local macro_rules | `(tactic| walk_at "call ref") => `(tactic| ((with_reducible show wpAny _ _ (call (Value.ref 201) [Value.str _ _]) _ _ _); refine stop ?_))
theorem heard_spec {w : World} {loose mean mg mb} {A : Around} {h₀ g₀ : Heap} {L : Addr} {dp un gd cn cs a ccd outer A₀ base}
    (S : Site w loose mean mg mb 20 A h₀ L dp un gd cn cs a ccd [] outer A₀ base)
    (XB : (mk.heap_1 w.params).In base) (TB : Top vw loose mean mg mb base) (D : KtsDicts (outer.filterMap (·.frame)) h₀) (T0 : KtsTurn (outer.filterMap (·.frame)) g₀ h₀)
    {m : Str → Option Value} {news : List (Addr × Obj)} {s : Shared} {x : Str} {t : Tok} {Q E : Value → Shared → Prop}
    (F : Fr h₀ L s.heap m) (N : News h₀ L s.heap news) (hx : x.length ≤ 500)
    (ret : ∀ D d o h' tk', readS (Txt.split x ";") [] = some D → SD PySem.Challenge.rw_on0242_01.row.prog w o D → (d == sysModules) = false → (∀ p ∈ news, p.1 < d) → Fr h₀ L h' m →
      News h₀ L h' ((d, o) :: news) → Q (.ref d) { s with heap := h', toks := tk' })
    (rz : readS (Txt.split x ";") [] = none → ∀ g' h' tk', KtsTurn (outer.filterMap (·.frame)) g₀ g' → Fr g' L h' m → News g' L h' news → Below A₀ base outer g' → (mk.heap_1 w.params).In g' →
      Top vw loose mean mg mb g' → KtsDicts (outer.filterMap (·.frame)) g' → Q .none { s with heap := h', toks := tk' }) :
    wpAny (model PySem.Challenge.rw_on0242_01.row.prog w) A (call (.ref 426) [.str x t]) Q E s := by
  obtain ⟨rfl, B, hk, hd, hu, X, T⟩ := S
  refine wpAny_call ?_
  k_dflt (refine' code_defS ?k1 ?k2 ?k3 ?k4 ?k5 ?XB ?TB ?D ?T0 ?kA ?k6 ?k7 ?k8 ?k9 ?kB ?_ ?cK ?c2 ?c3 ?c4 ?c5; (case kA => exact rfl); (case k2 => k_asm); (case k1 => k_asm); (case XB => assumption); (case TB => assumption); (case D => assumption); (case T0 => assumption); (case k3 => k_asm); (case k4 => k_asm); (case k5 => k_asm); (case k6 => k_is); (case k7 => k_is); (case k8 => k_room); (case k9 => exact BindsTo.of_eq rfl); (case kB => exact locs rfl); (case cK => exact hk); (case c2 => exact rfl); (case c3 => exact rfl); (case c4 => exact rfl); (case c5 => decide); k_whole)
  intro g' L' h' FG' F' N' B' X' T' D'
  (try dsimp only)
  (try k_fold)
  k_steps
  show wpAny _ _ _ _ _ _
  refine' read_spec ⟨?s1, ?s2, ?s3, ?s4, ?s5, ?s6, ?s7⟩ ?k1 ?k2 hx ?ret ?rz
  case s1 => exact rfl
  case s2 => k_asm
  case s3 => exact rfl
  case s4 => (simp only at *; omega)
  case s5 => (simp only at *; omega)
  case s6 => k_asm
  case s7 => k_asm
  case k1 => k_asm
  case k2 => k_asm
  case ret =>
    intro D d o h2 tk2 hst hSD lo l1 F2 N2
    (try dsimp only)
    k_steps
    exact ret D d o _ _ hst hSD lo l1 (by assumption) (by assumption)
  case rz =>
    intro hst e G h2 tk2 F2 R U
    (try dsimp only)
    refine' caught63 R F2 B' U XB TB D' KtsTurn.refl ?ex ?k
    case ex => k_is
    case k =>
      intro h3 g3 T3 F3 N3 B3 X3 P3 D3
      k_steps
      exact rz hst _ _ _ (by assumption) (by assumption) (by assumption) (by assumption) (by assumption) (by assumption) (by assumption)
-- T3
theorem fillT3 : PySem.Challenge.rw_on0242_01 = PySem.Challenge.rw_on0242_01 ∧ mk.heap_1 = mk.heap_1 := by
  k_fill
  w_top off
  exact ⟨rfl, rfl⟩
section
variable {w : World} {loose : List Str} {mean : ExcName → Option Value} {mg mb : Str → Option Value} {A : Around} {h₀ g₀ : Heap} {L : Addr} {dp un : Nat} {gd : Option (List Code)} {cn : Str} {cs : Scope} {a : Addr} {ccd : Value} {outer : List Env} {A₀ : Around} {base : Heap}
 {m : Str → Option Value} {news : List (Addr × Obj)} {s : Shared} {x : Str} {t : Tok} {Q E : Value → Shared → Prop}
theorem heard_ok {D : List (Str × Str)}
    (S : Site w loose mean mg mb 20 A h₀ L dp un gd cn cs a ccd [] outer A₀ base)
    (XB : (mk.heap_1 w.params).In base) (TB : Top vw loose mean mg mb base) (KD : KtsDicts (outer.filterMap (·.frame)) h₀)
    (hq : readS (Txt.split x ";") [] = some D) (F : Fr h₀ L s.heap m) (N : News h₀ L s.heap news) (hx : x.length ≤ 500)
    (ret : RetSD w h₀ L m news s D Q) :
    wpAny (model PySem.Challenge.rw_on0242_01.row.prog w) A (call (.ref 426) [.str x t]) Q E s := by
  refine heard_spec S XB TB KD KtsTurn.refl F N hx (fun D' d o h' tk' e => ?_) (fun e => by rw [hq] at e; cases e)
  rw [hq] at e; cases e
  exact ret d o h' tk'
theorem heard_bad
    (S : Site w loose mean mg mb 20 A h₀ L dp un gd cn cs a ccd [] outer A₀ base)
    (XB : (mk.heap_1 w.params).In base) (TB : Top vw loose mean mg mb base) (KD : KtsDicts (outer.filterMap (·.frame)) h₀)
    (hq : readS (Txt.split x ";") [] = none) (F : Fr h₀ L s.heap m) (N : News h₀ L s.heap news) (hx : x.length ≤ 500)
    (rz : ∀ g' h' tk', KtsTurn (outer.filterMap (·.frame)) h₀ g' → Fr g' L h' m → News g' L h' news → Below A₀ base outer g' → (mk.heap_1 w.params).In g' →
      Top vw loose mean mg mb g' → KtsDicts (outer.filterMap (·.frame)) g' → Q .none { s with heap := h', toks := tk' }) :
    wpAny (model PySem.Challenge.rw_on0242_01.row.prog w) A (call (.ref 426) [.str x t]) Q E s :=
  heard_spec S XB TB KD KtsTurn.refl F N hx (fun D' d o h' tk' e => by rw [hq] at e; cases e) fun _ => rz
end
theorem lookS_mem : ∀ {D : List (Str × Str)}, (D.map (·.1)).Nodup → ∀ p ∈ D, lookS D p.1 = some p.2
  | q :: r, h, p, hp => by
    simp only [List.map_cons, List.nodup_cons] at h
    unfold lookS
    rw [List.find?_cons]
    rcases List.mem_cons.mp hp with rfl | hp
    · simp
    · have hne : q.1 ≠ p.1 := fun e => h.1 (e ▸ List.mem_map.mpr ⟨p, hp, rfl⟩)
      simp only [hne, decide_false]
      exact lookS_mem h.2 p hp
section
variable {prog : Program} {w : World} {A : Around} {E : Value → Shared → Prop} {s : Shared} {h₀ : Heap} {L a b : Addr} {oa ob : Obj} {news : List (Addr × Obj)} {D : List (Str × Str)} {Q : Value → Shared → Prop}
theorem eq_SD (N : News h₀ L s.heap news) (pa : (a, oa) ∈ news) (pb : (b, ob) ∈ news) (da : SD prog w oa D) (db : SD prog w ob D) (la : (a == sysModules) = false) (lb : (b == sysModules) = false) (hu : A.units < cLine)
    (h : Q (.bool true) s) : wpAny (model prog w) A (compareOp .Eq (.ref a) (.ref b)) Q E s := by
  have hn := da.nodup
  obtain ⟨ka, da, sa⟩ := da
  obtain ⟨kb, db, sb⟩ := db
  exact keq_pairs N pa pb da db la lb (by rw [sa.length, sb.length]) hu (hits_SD sb sa (lookS_mem hn)) h
theorem ne_SD (N : News h₀ L s.heap news) (pa : (a, oa) ∈ news) (pb : (b, ob) ∈ news) (da : SD prog w oa D) (db : SD prog w ob D) (la : (a == sysModules) = false) (lb : (b == sysModules) = false) (hu : A.units < cLine)
    (h : Q (.bool false) s) : wpAny (model prog w) A (compareOp .NotEq (.ref a) (.ref b)) Q E s := by
  have hn := da.nodup
  obtain ⟨ka, da, sa⟩ := da
  obtain ⟨kb, db, sb⟩ := db
  exact kne_pairs N pa pb da db la lb (by rw [sa.length, sb.length]) hu (hits_SD sb sa (lookS_mem hn)) h
end
local macro_rules | `(tactic| walk_at "compareOp NotEq ref ref") => `(tactic| (k_here; (with_reducible show wpAny _ _ (compareOp CmpOp.NotEq (Value.ref _) (Value.ref _)) _ _ _); k_dflt (refine' ne_SD ?N ?pa ?pb ?da ?db ?la ?lb ?hu ?_; (case N => k_asm); (case pa => k_mem); (case pb => k_mem); (case da => assumption); (case db => assumption); (case la => assumption); (case lb => assumption); (case hu => walk_at "own units")); (try dsimp only)))
local macro_rules | `(tactic| walk_at "call ref") => `(tactic| ((with_reducible show wpAny _ _ (call (Value.ref 426) [Value.str _ _]) _ _ _); refine stop ?_))
local macro_rules | `(tactic| walk_at "call ref") => `(tactic| ((with_reducible show wpAny _ _ (call (Value.ref 419) [Value.ref _]) _ _ _); refine stop ?_))
local macro_rules | `(tactic| walk_at "exec For Name List cons nil") => `(tactic| (k_here; walk_at "own for"))
local macro_rules | `(tactic| walk_at "exec For Name BinOp cons nil") => `(tactic| (k_here; walk_at "own for"))

local macro_rules | `(tactic| walk_at "call ref") => `(tactic| (
  (with_reducible show wpAny _ _ (call (Value.ref 391) [Value.ref _, Value.int _ _]) _ _ _)
  k_dflt (refine' take_use ⟨?s1, ?s2, ?s3, ?s4, ?s5, ?s6, ?s7⟩ ?k1 ?k2 ?k3 ?k4 ?k5 ?k6 ?_)
  walk_at "own site"
  (case k3 => k_updF)
  (case k4 => assumption)
  (case k5 => omega)
  (case k6 => omega)
  intro r' b' m' t' tb' tm' n' h' tk' hr0' hr1' ok' F' N'; (try dsimp only); (try k_fold)))
local macro_rules | `(tactic| walk_at "call ref") => `(tactic| (
  (with_reducible show wpAny _ _ (call (Value.ref 398) [Value.ref _, Value.ref _]) _ _ _)
  k_dflt (refine' one_useS ⟨?s1, ?s2, ?s3, ?s4, ?s5, ?s6, ?s7⟩ ?k1 ?k2 ?k3 ?k3b ?k3c ?k4 ?k5 ?k6 ?k7 ?_)
  walk_at "own site"
  (case k3 => k_dflt (k_mem))
  (case k3b => k_ne)
  (case k3c => k_updF)
  (case k4 => assumption)
  (case k5 => k_dflt (exact Nat.zero_lt_succ _))
  (case k6 => k_dflt (exact Nat.le_of_ble_eq_true rfl))
  (case k7 => k_dflt (exact rfl))
  intro x' t' b' m' tb' tm' n' h' tk' hx' ok' F' N'; (try simp only [strsOf] at hx'); have hxl' := len_of 20 hx' (by decide +kernel); (try dsimp only); walk_at "own end"))


theorem any_key {D : List (Str × Str)} {k : Str} : D.any (fun p => p.1 = k) = (lookS D k).isSome := by
  unfold lookS
  induction D with
  | nil => rfl
  | cons p r ih =>
    simp only [List.any_cons, List.find?_cons]
    by_cases h : p.1 = k
    · simp [h]
    · simp [h, ih]
theorem lookS_map (D : List (Str × Str)) (k v n : Str) : lookS (D.map fun p => if p.1 = k then (p.1, v) else p) n = if n = k then (lookS D k).map (fun _ => v) else lookS D n := by
  induction D with
  | nil => simp [lookS]
  | cons p r ih =>
    unfold lookS at *
    simp only [List.map_cons, List.find?_cons]
    by_cases hk : p.1 = k
    · rw [if_pos hk]
      by_cases hn : n = k
      · subst hn; simp [hk]
      · have : p.1 ≠ n := fun e => hn (e ▸ hk)
        rw [if_neg hn] at ih
        simp only [this, decide_false, if_neg hn]
        exact ih
    · rw [if_neg hk]
      by_cases hpn : p.1 = n
      · have hn : n ≠ k := fun e => hk (hpn.trans e)
        simp [hpn, hn]
      · simp only [hpn, decide_false]
        by_cases hn : n = k
        · subst hn; simp only [if_true] at ih ⊢; simpa [hk] using ih
        · rw [if_neg hn] at ih ⊢; exact ih
theorem lookS_append (D : List (Str × Str)) (k v n : Str) : lookS (D ++ [(k, v)]) n = (lookS D n).or (if k = n then some v else none) := by
  unfold lookS
  rw [List.find?_append]
  cases h : D.find? fun p => p.1 = n with
  | some p => simp
  | none => by_cases hk : k = n <;> simp [hk]
theorem lookS_stored (D : List (Str × Str)) (k v n : Str) : lookS (storedS D k v) n = if n = k then some v else lookS D n := by
  unfold storedS
  rw [any_key]
  split
  · rw [lookS_map]
    by_cases hn : n = k
    · subst hn
      rename_i h
      obtain ⟨x, hx⟩ := Option.isSome_iff_exists.mp h
      simp [hx]
    · simp [hn]
  · rw [lookS_append]
    by_cases hn : n = k
    · subst hn
      rename_i h
      have : lookS D n = none := by simpa using h
      simp [this]
    · have : k ≠ n := fun e => hn e.symm
      simp [hn, this]
def AOk (st : Option Str) (i : Nat) (DA : List (Str × Str)) : Prop := lookS DA "style" = st ∧ (∀ n v, lookS DA n = some v → v.length ≤ 1000) ∧ DA.length ≤ i + 1
theorem AOk.step {st : Option Str} {i : Nat} {DA : List (Str × Str)} {k v : Str} (h : AOk st i DA) (hk : k ≠ "style") (hv : v.length ≤ 1000) : AOk st (i + 1) (storedS DA k v) := by
  obtain ⟨h1, h2, h3⟩ := h
  refine ⟨?_, fun n u => ?_, ?_⟩
  · rw [lookS_stored, if_neg (Ne.symm hk)]; exact h1
  · rw [lookS_stored]
    split
    · intro e; cases e; exact hv
    · exact h2 n u
  · have := storedS_len DA k v; omega
theorem AOk.keep {st : Option Str} {i : Nat} {DA : List (Str × Str)} (h : AOk st i DA) : AOk st (i + 1) DA := ⟨h.1, h.2.1, Nat.le_succ_of_le h.2.2⟩
theorem AOk.nil : AOk none 0 [] := ⟨rfl, fun _ _ e => by simp [lookS] at e, Nat.zero_le _⟩
theorem AOk.one {x : Str} (hx : x.length ≤ 500) : AOk (some x) 0 [("style", x)] := ⟨by simp [lookS], fun n v e => by
  unfold lookS at e
  rw [List.find?_cons] at e
  by_cases h : ("style" : Str) = n
  · simp [h] at e; subst e; omega
  · simp [h] at e, Nat.le_refl _⟩
def propsJ (w : World) (src T d : Addr) (st : Option Str) (i : Nat) (m₁ : Str → Option Value) (trk : List (Addr × Obj)) : Prop :=
  ∃ (DA : List (Str × Str)) (b mm : Int) (tb tm : Tok) (n : Nat) (o : Obj) (u : Str → Option Value), trk = [(src, srcObj b mm tb tm n), (T, o)] ∧ SrcOk b mm ∧ AOk st i DA ∧ SD PySem.Challenge.rw_on0242_01.row.prog w o DA ∧
    m₁ = fun (y : Str) => if y = "source" then some (.ref src) else if y = "told" then some (.ref T) else if y = "due" then some (.ref d) else u y
def PropsAt (w : World) (g : Heap) (L : Addr) (h : Heap) (src d : Addr) (o : Obj) (lst : Addr) (lo : Obj) (st : Option Str) (news : List (Addr × Obj)) : Prop :=
  ∃ (T : Addr) (oT : Obj) (DA : List (Str × Str)) (b mm : Int) (tb tm : Tok) (n : Nat) (u : Str → Option Value), SD PySem.Challenge.rw_on0242_01.row.prog w oT DA ∧ (T == sysModules) = false ∧ AOk st 0 DA ∧ SrcOk b mm ∧
    Fr g L h (fun (y : Str) => if y = "source" then some (.ref src) else if y = "told" then some (.ref T) else if y = "due" then some (.ref d) else u y) ∧
    News g L h ((src, srcObj b mm tb tm n) :: (T, oT) :: (lst, lo) :: (d, o) :: news) ∧ @LT.lt Nat _ src T ∧ @LT.lt Nat _ d T ∧ AllLt T news ∧ @LT.lt Nat _ T lst ∧ @LT.lt Nat _ src lst ∧ @LT.lt Nat _ d lst ∧ AllLt lst news
theorem fr_as {h₀ h : Heap} {L : Addr} {m m' : Str → Option Value} (F : Fr h₀ L h m) (e : m = m') : Fr h₀ L h m' := e ▸ F
theorem propsAt_of {w : World} {g : Heap} {L : Addr} {h : Heap} {src d : Addr} {o : Obj} {lst : Addr} {lo : Obj} {st : Option Str} {news nw : List (Addr × Obj)} {T : Addr} {oT : Obj} {DA b mm tb tm n} {m : Str → Option Value}
    (hS : SD PySem.Challenge.rw_on0242_01.row.prog w oT DA) (hl : (T == sysModules) = false) (hA : AOk st 0 DA) (ok : SrcOk b mm) (F : Fr g L h m) (e1 : m "source" = some (.ref src)) (e2 : m "told" = some (.ref T)) (e3 : m "due" = some (.ref d))
    (N : News g L h nw) (n1 : (src, srcObj b mm tb tm n) ∈ nw) (n2 : (T, oT) ∈ nw) (n3 : (lst, lo) ∈ nw) (n4 : (d, o) ∈ nw) (n5 : ∀ p ∈ news, p ∈ nw) (h1 : @LT.lt Nat _ src T) (h2 : @LT.lt Nat _ d T) (h3 : AllLt T news) (h4 : @LT.lt Nat _ T lst) (h5 : @LT.lt Nat _ src lst) (h6 : @LT.lt Nat _ d lst) (h7 : AllLt lst news) :
    PropsAt w g L h src d o lst lo st news :=
  ⟨T, oT, DA, b, mm, tb, tm, n, m, hS, hl, hA, ok, fr_as F (map3 e1 e2 e3), News.perm N (by intro p hp; simp only [List.mem_cons] at hp; rcases hp with h | h | h | h | h; (· exact h ▸ n1); (· exact h ▸ n2); (· exact h ▸ n3); (· exact h ▸ n4); exact n5 _ h), h1, h2, h3, h4, h5, h6, h7⟩


theorem in_SDb {prog : Program} {w : World} {A : Around} {E : Value → Shared → Prop} {s : Shared} {h₀ : Heap} {L d : Addr} {news : List (Addr × Obj)} {o : Obj} {D : List (Str × Str)} {k : Str} {t : Tok} {Q : Value → Shared → Prop} (N : News h₀ L s.heap news) (hm : (d, o) ∈ news) (hd : SD prog w o D) (lo : (d == sysModules) = false)
    (h1 : lookS D k = none → Q (.bool false) { s with toks := s.toks + 1 }) (h2 : ∀ v, lookS D k = some v → Q (.bool true) { s with toks := s.toks + 1 }) : wpAny (model prog w) A (compareOp .In (.str k t) (.ref d)) Q E s := by
  refine in_SD N hm hd lo ?_
  cases e : lookS D k with
  | none => exact h1 e
  | some v => exact h2 v e
theorem in_SDn {prog : Program} {w : World} {A : Around} {E : Value → Shared → Prop} {s : Shared} {h₀ : Heap} {L d : Addr} {news : List (Addr × Obj)} {o : Obj} {D : List (Str × Str)} {k : Str} {t : Tok} {Q : Value → Shared → Prop} (e : lookS D k = none) (N : News h₀ L s.heap news) (hm : (d, o) ∈ news) (hd : SD prog w o D) (lo : (d == sysModules) = false)
    (h1 : Q (.bool false) { s with toks := s.toks + 1 }) : wpAny (model prog w) A (compareOp .In (.str k t) (.ref d)) Q E s :=
  in_SD N hm hd lo (by rw [e]; exact h1)
theorem in_SDs {prog : Program} {w : World} {A : Around} {E : Value → Shared → Prop} {s : Shared} {h₀ : Heap} {L d : Addr} {news : List (Addr × Obj)} {o : Obj} {D : List (Str × Str)} {k v : Str} {t : Tok} {Q : Value → Shared → Prop} (e : lookS D k = some v) (N : News h₀ L s.heap news) (hm : (d, o) ∈ news) (hd : SD prog w o D) (lo : (d == sysModules) = false)
    (h1 : Q (.bool true) { s with toks := s.toks + 1 }) : wpAny (model prog w) A (compareOp .In (.str k t) (.ref d)) Q E s :=
  in_SD N hm hd lo (by rw [e]; exact h1)
local macro_rules | `(tactic| walk_at "compareOp In str ref") => `(tactic| (k_here; (with_reducible show wpAny _ _ (compareOp CmpOp.In (Value.str _ _) (Value.ref _)) _ _ _); k_dflt (refine' in_SDb ?N ?m ?d ?lo ?_ ?_; walk_at "own dict"; (case lo => assumption)); rotate_left; (intro v' hlk'; (try dsimp only)); rotate_right; (intro hlk'; (try dsimp only))))
theorem in_SDb2 {prog : Program} {w : World} {A : Around} {E : Value → Shared → Prop} {s : Shared} {h₀ : Heap} {L d : Addr} {news : List (Addr × Obj)} {o : Obj} {D : List (Str × Str)} {k : Str} {t : Tok} {Q : Value → Shared → Prop} (N : News h₀ L s.heap news) (hm : (d, o) ∈ news) (hd : SD prog w o D) (lo : (d == sysModules) = false)
    (hb : ∀ n v, lookS D n = some v → v.length ≤ 1000)
    (h1 : lookS D k = none → Q (.bool false) { s with toks := s.toks + 1 }) (h2 : ∀ v, lookS D k = some v → v.length ≤ 1000 → Q (.bool true) { s with toks := s.toks + 1 }) : wpAny (model prog w) A (compareOp .In (.str k t) (.ref d)) Q E s :=
  in_SDb N hm hd lo h1 fun v e => h2 v e (hb _ _ e)
local macro_rules | `(tactic| walk_at "compareOp In str ref") => `(tactic| (k_here; (with_reducible show wpAny _ _ (compareOp CmpOp.In (Value.str _ _) (Value.ref _)) _ _ _); k_dflt (refine' in_SDb2 ?N ?m ?d ?lo ?b ?_ ?_; walk_at "own dict"; (case lo => assumption); (case b => with_reducible assumption)); rotate_left; (intro v' hlk' hlz'; (try dsimp only)); rotate_right; (intro hlk'; (try dsimp only))))
local macro_rules | `(tactic| walk_at "compareOp In str ref") => `(tactic| (k_here; (with_reducible show wpAny _ _ (compareOp CmpOp.In (Value.str _ _) (Value.ref _)) _ _ _); k_dflt (first
  | (refine' in_SDn (by with_reducible assumption) ?N ?m ?d ?lo ?_; walk_at "own dict"; (case lo => assumption))
  | (refine' in_SDs (by with_reducible assumption) ?N ?m ?d ?lo ?_; walk_at "own dict"; (case lo => assumption))); (try dsimp only)))
local macro_rules | `(tactic| walk_at "call ref") => `(tactic| ((with_reducible show wpAny _ _ (call (Value.ref 208) [Value.ref _]) _ _ _); refine stop ?_))
abbrev names24 : List Str := down17.map (·.1) ++ own7.map (·.1)
def wishJ (w : World) (DS DA : List (Str × Str)) (T d W : Addr) (i : Nat) (m₁ : Str → Option Value) (trk : List (Addr × Obj)) : Prop :=
  ∃ (o : Obj) (u : Str → Option Value), trk = [(W, o)] ∧ SD PySem.Challenge.rw_on0242_01.row.prog w o ((names24.take i).foldl (toldStep DS DA) []) ∧
    m₁ = fun (y : Str) => if y = "told" then some (.ref T) else if y = "due" then some (.ref d) else if y = "wish" then some (.ref W) else u y
theorem strValues_append (l1 l2 : List (Str × Tok)) : strValues l1 ++ strValues l2 = strValues (l1 ++ l2) := by simp [strValues]
theorem add_SL {prog : Program} {w : World} {A : Around} {E : Value → Shared → Prop} {s : Shared} {h₀ : Heap} {L : Addr} {m : Str → Option Value} {news : List (Addr × Obj)} {a b : Addr} {n1 n2 : Nat} {l1 l2 : List (Str × Tok)} {x1 x2 : List Str} {Q : Value → Shared → Prop} (F : Fr h₀ L s.heap m) (N : News h₀ L s.heap news)
    (ma : (a, listOf (strValues l1).toArray n1) ∈ news) (mb : (b, listOf (strValues l2).toArray n2) ∈ news) (e1 : l1.map (·.1) = x1) (e2 : l2.map (·.1) = x2) (hz : x1.length + x2.length ≤ 100)
    (h : ∀ d l h', l.map (·.1) = x1 ++ x2 → (∀ p ∈ news, p.1 < d) → Fr h₀ L h' m → News h₀ L h' ((d, listOf (strValues l).toArray 0) :: news) → Q (.ref d) { s with heap := h' }) :
    wpAny (model prog w) A (binaryOp .Add (.ref a) (.ref b)) Q E s := by
  have z1 : (strValues l1).length = x1.length := by rw [← e1]; simp [strValues]
  have z2 : (strValues l2).length = x2.length := by rw [← e2]; simp [strValues]
  refine add_lists F N (isl N ma) (isl N mb) (fun h' F' N' => ?_) (by rw [z1, z2, sizeLine_eq]; omega)
  rw [strValues_append] at N'
  exact h _ (l1 ++ l2) h' (by rw [List.map_append, e1, e2]) (fun p hp => Heap.lt_size (N p hp).1) F' N'
local macro_rules | `(tactic| walk_at "binaryOp Add ref ref") => `(tactic| (k_here; (with_reducible show wpAny _ _ (binaryOp _ (Value.ref _) (Value.ref _)) _ _ _); k_dflt (refine' add_SL ?F ?N ?a ?b ?e ?f ?z ?_; walk_at "own both"; (case a => k_mem); (case b => k_mem); (case e => assumption); (case f => assumption); (case z => decide)); intro D' l' h' hl' l1 F' N'; (try dsimp only); (try k_lt l1); (try k_sweep)))
local macro_rules | `(tactic| walk_at "call ref") => `(tactic| (
  k_dflt (show wpAny _ _ (call (Value.ref 412) []) _ _ _)
  k_dflt (refine' ownL_spec ⟨?s1, ?s2, ?s3, ?s4, ?s5, ?s6, ?s7⟩ ?k1 ?k2 ?_)
  walk_at "own site"
  intro d' l' n' h' tk' hl' l1 F' N'; (try dsimp only); (try k_lt l1); walk_at "own end"))
local macro_rules | `(tactic| walk_at "call ref") => `(tactic| (
  k_dflt (show wpAny _ _ (call (Value.ref 405) []) _ _ _)
  k_dflt (refine' downL_spec ⟨?s1, ?s2, ?s3, ?s4, ?s5, ?s6, ?s7⟩ ?k1 ?k2 ?_)
  walk_at "own site"
  intro d' l' n' h' tk' hl' l1 F' N'; (try dsimp only); (try k_lt l1); walk_at "own end"))
local macro_rules | `(tactic| walk_at "subscriptTail") => `(tactic| (k_here; (with_reducible show wpAny _ _ (subscriptTail _ _ (Value.ref _) (Value.str _ _)) _ _ _); k_dflt (refine' item_SD ?N ?m ?d (by with_reducible assumption) ?_; walk_at "own dict"); intro _; (try dsimp only)))
theorem dues_vals {ps : List Piece} (h : ∀ p ∈ ps, p.ok) : ∀ n v, lookS (duesOf ps) n = some v → v ∈ values5 := by
  suffices hh : ∀ (ps : List Piece), (∀ p ∈ ps, p.ok) → ∀ D : List (Str × Str), (∀ n v, lookS D n = some v → v ∈ values5) → ∀ n v, lookS (ps.foldl dueStep D) n = some v → v ∈ values5 by
    exact hh ps h [] (fun n v e => by simp [lookS] at e)
  intro ps
  induction ps with
  | nil => exact fun _ D hD => hD
  | cons p r ih =>
    intro h D hD
    rw [List.foldl_cons]
    refine ih (fun q hq => h q (.tail _ hq)) _ ?_
    have hp := h p (.head _)
    cases p with
    | blank g o => exact hD
    | bare g n o => exact hD
    | full g n o v m e =>
      intro n' v'
      show lookS (storedS D n v) n' = some v' → _
      rw [lookS_stored]
      split
      · intro e; cases e
        exact hp.2.2.2.1
      · exact hD n' v'
theorem dues_strip {ps : List Piece} (h : ∀ p ∈ ps, p.ok) : ∀ n v, lookS (duesOf ps) n = some v → Txt.strip v = v := by
  intro n v e
  have hv := dues_vals h n v e
  simp only [values5, List.mem_cons, List.not_mem_nil, or_false] at hv
  rcases hv with rfl | rfl | rfl | rfl | rfl <;> decide +kernel
theorem dues_vlen {ps : List Piece} (h : ∀ p ∈ ps, p.ok) : ∀ n v, lookS (duesOf ps) n = some v → v.length ≤ 1000 := fun n v e => Nat.le_trans (len_of 20 (dues_vals h n v e) (by decide +kernel)) (by decide)

theorem News.cut2 {h₀ h : Heap} {L : Addr} {a b c : Addr × Obj} {r : List (Addr × Obj)} (N : News h₀ L h (a :: b :: c :: r)) : News h₀ L h (a :: r) :=
  News.perm N fun p hp => by simp only [List.mem_cons] at hp ⊢; rcases hp with h | h <;> simp [h]

theorem News.sub5 {h₀ h : Heap} {L : Addr} {a b c d e : Addr × Obj} {r nw : List (Addr × Obj)} (N : News h₀ L h nw) (h1 : a ∈ nw) (h2 : b ∈ nw) (h3 : c ∈ nw) (h4 : d ∈ nw) (h5 : e ∈ nw) (h6 : ∀ p ∈ r, p ∈ nw) : News h₀ L h (a :: b :: c :: d :: e :: r) :=
  News.perm N fun p hp => by
    simp only [List.mem_cons] at hp
    rcases hp with h | h | h | h | h | h
    · exact h ▸ h1
    · exact h ▸ h2
    · exact h ▸ h3
    · exact h ▸ h4
    · exact h ▸ h5
    · exact h6 p h

def PDat (ps : List Piece) (st : Option Str) : Prop := ∃ DS, readS (Txt.split (st.getD "") ";") [] = some DS ∧ (st = none → DS = []) ∧ (st ≠ none → DS = duesOf ps) ∧ (st.getD "").length ≤ 500
theorem with_tail {T : Prop} (P : Heap → Nat → Addr → Heap → Option Str → Prop) (main : (∀ g tk l h st, P g tk l h st) → T) (tl : ∀ g tk l h st, P g tk l h st) : T := main tl
theorem props_spec {w : World} {loose mean mg mb} {A : Around} {h₀ : Heap} {L : Addr} {dp un gd cn cs a ccd A₀ base}
    (S : Site w loose mean mg mb 40 A h₀ L dp un gd cn cs a ccd [] [] A₀ base)
    (XB : (mk.heap_1 w.params).In base) (TB : Top vw loose mean mg mb base)
    {m : Str → Option Value} {news : List (Addr × Obj)} {s : Shared} {src : Addr} {b mm : Int} {tb tm : Tok} {n : Nat} {Q E : Value → Shared → Prop}
    (F : Fr h₀ L s.heap m) (N : News h₀ L s.heap ((src, srcObj b mm tb tm n) :: news)) (hne : ∀ p ∈ news, p.1 ≠ src)
    (ok : SrcOk b mm)
    (ret : ∀ b' m' tb' tm' n' h' tk', SrcOk b' m' → Fr h₀ L h' m → News h₀ L h' ((src, srcObj b' m' tb' tm' n') :: news) → Q (.bool true) { s with heap := h', toks := tk' }) :
    wpAny (model PySem.Challenge.rw_on0242_01.row.prog w) A (call (.ref 433) [.ref src]) Q E s := by
  obtain ⟨rfl, B, hk, hd, hu, X, T⟩ := S
  refine wpAny_call ?_
  k_dflt (refine' code_defS0 ?k1 ?k2 ?k3 ?k4 ?k5 ?kA ?k6 ?k7 ?k8 ?k9 ?kB ?_ ?cK ?c2 ?c3 ?c4 ?c5; (case kA => exact rfl); (case k2 => k_asm); (case k1 => k_asm); (case k3 => k_asm); (case k4 => k_asm); (case k5 => k_asm); (case k6 => k_is); (case k7 => k_is); (case k8 => k_room); (case k9 => exact BindsTo.of_eq rfl); (case kB => exact locs rfl); (case cK => exact hk); (case c2 => exact rfl); (case c3 => exact rfl); (case c4 => exact rfl); (case c5 => decide); k_whole)
  intro g' L' h' FG' F' N' B' X' T' D'
  replace B' : Below (ktrTop dp un gd cn cs L a ccd [] []) base [envX cn cs L a ccd []] g' := B'
  replace D' : KtsDicts ([envX cn cs L a ccd []].filterMap (·.frame)) g' := D'
  (try dsimp only)
  (try k_fold)
  k_steps
  show wpAny _ _ _ _ _ _
  refine' style_spec ⟨?s1, ?s2, ?s3, ?s4, ?s5, ?s6, ?s7⟩ ?k1 ?k2 hne ok ?ret
  case s1 => exact rfl
  case s2 => k_asm
  case s3 => exact rfl
  case s4 => (simp only at *; omega)
  case s5 => (simp only at *; omega)
  case s6 => k_asm
  case s7 => k_asm
  case k1 => k_asm
  case k2 => k_asm
  case ret =>
    intro ps l d o b2 m2 tb2 tm2 n2 tt h2 tk2 hpl hps hSD ok2 lo ld ll F2 N2
    have hrl := render_len hps
    have hrl2 : (render ps).length ≤ 500 := by omega
    have hrr := read_render hps
    have hstp := dues_strip hps
    replace ld : @LT.lt Nat _ src d ∧ AllLt d news := ld
    replace ll : @LT.lt Nat _ src l ∧ @LT.lt Nat _ d l ∧ AllLt l news := ll
    (try dsimp only)
    refine' with_tail _ ?main ?tl
    case main =>
     intro tail
     cases hw : wrongOf ps
     all_goals (
       rw [hw] at hrr N2
       simp only [Bool.false_eq_true, if_false, if_true] at hrr
       k_steps
       show wpAny _ _ _ _ _ _)
     focus
       k_dflt (refine' heard_ok ⟨?s1, ?s2, ?s3, ?s4, ?s5, ?s6, ?s7⟩ ?XB ?TB ?KD ?hq ?k1 ?k2 ?k3 ?_)
       (case hq => assumption)
       (case s1 => k_dflt (exact rfl))
       (case s2 => k_asm)
       (case s3 => k_dflt (first | exact rfl | assumption))
       (case s4 => (simp only at *; omega))
       (case s5 => (simp only at *; omega))
       (case s6 => k_asm)
       (case s7 => k_asm)
       (case XB => k_asm)
       (case TB => k_asm)
       (case KD => k_asm)
       (case k1 => k_asm)
       (case k2 => k_asm)
       (case k3 => assumption)
       intro d' o' h' tk' hS' lo' l1 F' N'; (try dsimp only); (try k_lt l1); (try k_sweep); (try k_fold)
       k_steps
       all_goals (
         rename News _ _ _ _ => Nz
         rename Fr _ _ _ _ => Fz)
       focus
         have PK := propsAt_of (st := none) (news := news) (SD.nil (by assumption)) (by assumption) AOk.nil (by assumption) Fz (by with_unfolding_all rfl) (by with_unfolding_all rfl) (by with_unfolding_all rfl) Nz (by k_mem) (by k_mem) (by k_mem) (by k_mem) (by intro p hp; repeat (first | exact hp | refine List.Mem.tail _ ?_)) (by omega) (by omega) (by first | assumption | exact And.right (by assumption) | exact And.right (And.right (by assumption)) | exact And.right (And.right (And.right (by assumption))) | exact And.right (And.right (And.right (And.right (by assumption)))) | exact And.right (And.right (And.right (And.right (And.right (by assumption)))))) (by omega) (by omega) (by omega) (by first | assumption | exact And.right (by assumption) | exact And.right (And.right (by assumption)) | exact And.right (And.right (And.right (by assumption))) | exact And.right (And.right (And.right (And.right (by assumption)))) | exact And.right (And.right (And.right (And.right (And.right (by assumption))))))
         have PD : PDat ps none := ⟨[], by decide +kernel, fun _ => rfl, fun e => absurd rfl e, Nat.zero_le _⟩
       rotate_left
       focus
         have PK := propsAt_of (st := some (render ps)) (news := news) ⟨_, by assumption, sp_cons sp_nil⟩ (by assumption) (AOk.one hrl2) (by assumption) Fz (by with_unfolding_all rfl) (by with_unfolding_all rfl) (by with_unfolding_all rfl) Nz (by k_mem) (by k_mem) (by k_mem) (by k_mem) (by intro p hp; repeat (first | exact hp | refine List.Mem.tail _ ?_)) (by omega) (by omega) (by first | assumption | exact And.right (by assumption) | exact And.right (And.right (by assumption)) | exact And.right (And.right (And.right (by assumption))) | exact And.right (And.right (And.right (And.right (by assumption)))) | exact And.right (And.right (And.right (And.right (And.right (by assumption)))))) (by omega) (by omega) (by omega) (by first | assumption | exact And.right (by assumption) | exact And.right (And.right (by assumption)) | exact And.right (And.right (And.right (by assumption))) | exact And.right (And.right (And.right (And.right (by assumption)))) | exact And.right (And.right (And.right (And.right (And.right (by assumption))))))
         have PD : PDat ps (some (render ps)) := ⟨duesOf ps, hrr, (fun e => by cases e), fun _ => rfl, hrl2⟩
     rotate_left 2
     focus
       k_dflt (refine' heard_bad ⟨?s1, ?s2, ?s3, ?s4, ?s5, ?s6, ?s7⟩ ?XB ?TB ?KD ?hq ?k1 ?k2 ?k3 ?_)
       (case hq => assumption)
       (case s1 => k_dflt (exact rfl))
       (case s2 => k_asm)
       (case s3 => k_dflt (first | exact rfl | assumption))
       (case s4 => (simp only at *; omega))
       (case s5 => (simp only at *; omega))
       (case s6 => k_asm)
       (case s7 => k_asm)
       (case XB => k_asm)
       (case TB => k_asm)
       (case KD => k_asm)
       (case k1 => k_asm)
       (case k2 => k_asm)
       (case k3 => assumption)
       intro g' h' tk' T' F' N' B' X' P' D'; (try dsimp only); (try k_sweep); (try k_fold)
       k_steps
       rename News _ _ _ _ => Nz
       rename Fr _ _ _ _ => Fz
       have PK := propsAt_of (st := none) (news := news) (SD.nil (by assumption)) (by assumption) AOk.nil ok2 Fz (by with_unfolding_all rfl) (by with_unfolding_all rfl) (by with_unfolding_all rfl) Nz (by k_mem) (by k_mem) (by k_mem) (by k_mem) (by intro p hp; repeat (first | exact hp | refine List.Mem.tail _ ?_)) (by omega) (by omega) (by first | assumption | exact And.right (by assumption) | exact And.right (And.right (by assumption)) | exact And.right (And.right (And.right (by assumption))) | exact And.right (And.right (And.right (And.right (by assumption)))) | exact And.right (And.right (And.right (And.right (And.right (by assumption)))))) (by omega) (by omega) (by omega) (by first | assumption | exact And.right (by assumption) | exact And.right (And.right (by assumption)) | exact And.right (And.right (And.right (by assumption))) | exact And.right (And.right (And.right (And.right (by assumption)))) | exact And.right (And.right (And.right (And.right (And.right (by assumption))))))
       have PD : PDat ps none := ⟨[], by decide +kernel, fun _ => rfl, fun e => absurd rfl e, Nat.zero_le _⟩
     focus
       generalize hsv : (none : Option Str) = st at PK PD
       clear hsv
       rename_i tkA htkA lA hA lltA
       have B2 : Below (ktrTop dp un gd cn cs L a ccd [] []) base [envX cn cs L a ccd []] g' := by assumption
       have P2 : Top vw loose mean mg mb g' := by assumption
       show wpAny _ _ _ _ _ _
       (try dsimp only)
       revert T' B2 X' P2 D' PK PD
       exact tail g' tkA lA hA st
     all_goals (
       show wpAny _ _ _ _ _ _
       (try dsimp only)
       refine tail _ _ _ _ _ KtsTurn.refl ?_ ?_ PK PD ?_ ?_
       · assumption
       · assumption
       · assumption
       · assumption)
    case tl =>
     intro g' tk lst h st T' X' D' PK PD B' P'
     all_goals (
       obtain ⟨DS, pd1, pd2, pd3, pd4⟩ := PD
       obtain ⟨T1, oT, DA, b1, mm1, tb1, tm1, n1, u1, hS1, lo1, hA1, ok1, F1, N1, q1, q2, q3, q4, q5, q6, q7⟩ := PK
       clear hrr
       have hv2 : ∀ n v, lookS DS n = some v → v.length ≤ 1000 := by
         rcases st with _ | x0
         · rw [pd2 rfl]; exact (fun n v e => by simp [lookS] at e)
         · rw [pd3 (by simp)]; exact dues_vlen hps
       show wpAny _ _ _ _ _ _)
     all_goals (
       refine iter_listF (trk := [(src, srcObj b1 mm1 tb1 tm1 n1), (T1, oT)]) (propsJ w src T1 d _) rfl F1 N1 (.head _) ?off ⟨DA, b1, mm1, tb1, tm1, n1, oT, u1, rfl, ok1, hA1, hS1, rfl⟩ ?turn ?done
       case off =>
         exact ownOff_of (by
           intro b hb p hp
           simp only [List.map_cons, List.map_nil, List.mem_cons, List.not_mem_nil, or_false] at hb
           have a1 := allLt_ne q3
           rcases hb with rfl | rfl
           · rcases List.mem_cons.mp hp with rfl | hp
             · exact (Nat.ne_of_lt q5).symm
             · rcases List.mem_cons.mp hp with rfl | hp
               · exact (Nat.ne_of_lt ld.1).symm
               · exact hne p hp
           · rcases List.mem_cons.mp hp with rfl | hp
             · exact (Nat.ne_of_lt q4).symm
             · rcases List.mem_cons.mp hp with rfl | hp
               · exact (Nat.ne_of_lt q2)
               · exact a1 p hp)
       case turn =>
         rintro i v m₁ trk₁ h tk rest hsub hi ha ho ⟨DA2, b3, mm3, tb3, tm3, n3, o3, u3, rfl, ok3, hA3, hS3, rfl⟩ F3 N3
         obtain ⟨nm, tn, rfl, hnm⟩ := mem_strs rfl (List.mem_of_getElem? hi)
         simp only [strsOf] at hnm
         have hnl := len_of 20 hnm (by decide +kernel)
         have hns : nm ≠ "style" := fun e => by subst e; exact absurd hnm (by decide +kernel)
         have hil := (List.getElem?_eq_some_iff.mp hi).1
         simp only [List.length_cons, List.length_nil] at hil
         have hA3l := hA3.2.2
         have ho1 := off_one ho
         have ho2 := off_one ho1.2
         obtain ⟨ho1, -⟩ := ho1
         obtain ⟨ho2, -⟩ := ho2
         dsimp only at F3 ho1 ho2
         simp only [List.cons_append, List.nil_append] at N3
         replace F3 : Fr _ L' _ _ := F3
         replace N3 : News _ L' _ _ := N3
         show wpAny _ _ _ _ _ _
         k_fold
         k_steps
         · rename News _ _ _ _ => Nf
           rename Fr _ _ _ _ => Ff
           refine' turnEnd2 (a := src) (b := T1) (rest := rest) Ff ?N ⟨_, _, _, _, _, _, _, _, rfl, ?ok, ?A, ?S, map3 (by with_unfolding_all rfl) (by with_unfolding_all rfl) (by with_unfolding_all rfl)⟩ rfl
           case N => (have Nf2 := News.tl Nf); exact Nf2
           case ok => assumption
           case S => assumption
           case A => exact hA3.step hns (by omega)
         · rename News _ _ _ _ => Nf
           rename Fr _ _ _ _ => Ff
           refine' turnEnd2 (a := src) (b := T1) (rest := rest) Ff Nf ⟨_, _, _, _, _, _, _, _, rfl, ?ok, hA3.keep, hS3, map3 (by with_unfolding_all rfl) (by with_unfolding_all rfl) (by with_unfolding_all rfl)⟩ rfl
           case ok => assumption
       case done =>
         rintro m₁ trk₁ h tk ha ⟨DA2, b3, mm3, tb3, tm3, n3, o3, u3, rfl, ok3, hA3, hS3, rfl⟩ F3 N3
         simp only [List.cons_append, List.nil_append] at N3
         replace F3 : Fr _ L' _ _ := F3
         replace N3 : News _ L' _ _ := N3
         have hA31 := hA3.1
         have hA32 := hA3.2.1
         show wpAny _ _ _ _ _ _
         k_steps
         rename_i W hW1 oW loW hsW fsW hiW fiW lW hW2 tkW htkW c1 lc1 nc1 hc1 tkc1 hlc1 lbc1 c2 lc2 nc2 hc2 tkc2 hlc2 lbc2 cD lD hhD hlD FD ND lbD
         have hW0 := SD.nil hsW
         show wpAny _ _ _ _ _ _
         refine iter_listF (trk := [(W, oW)]) (news := (cD, listOf (strValues lD).toArray 0) :: (src, srcObj b3 mm3 tb3 tm3 n3) :: (T1, o3) :: (d, o) :: news) (vs := strValues lD) (wishJ w DS DA2 T1 d W) rfl FD ?N (.head _) ?off2 ⟨oW, _, rfl, hW0, map3 (by with_unfolding_all rfl) (by with_unfolding_all rfl) (by with_unfolding_all rfl)⟩ ?turn2 ?done2
         case N => exact News.perm ND (fun p hp => by simp only [List.cons_append, List.nil_append, List.mem_cons] at hp ⊢; rcases hp with h | h | h | h | h | h <;> simp [h])
         case off2 =>
           exact ownOff_of (by
             intro b hb p hp
             simp only [List.map_cons, List.map_nil, List.mem_cons, List.not_mem_nil, or_false] at hb
             rw [hb]
             have a1 : ∀ p ∈ news, p.1 ≠ W := by k_all
             simp only [List.mem_cons] at hp
             rcases hp with rfl | rfl | rfl | rfl | hp
             · show cD ≠ W; k_ne
             · show src ≠ W; k_ne
             · show T1 ≠ W; k_ne
             · show d ≠ W; k_ne
             · exact a1 p hp)
         case turn2 =>
           rintro i v m₂ trk₂ h4 tk4 rest hsub hi ha ho ⟨oW2, u4, rfl, hSW, rfl⟩ F4 N4
           obtain ⟨nm, tn, rfl, hnm⟩ := strValues_get hi
           rw [hlD] at hnm
           have ho1 := (off_one ho).1
           dsimp only at ho1
           have N5 : News g' L' h4 ((W, oW2) :: (T1, o3) :: (d, o) :: rest) := News.perm N4 (fun p hp => by
             simp only [List.cons_append, List.nil_append, List.mem_cons] at hp ⊢
             rcases hp with h | h | h | h
             · exact .inl h
             · exact .inr (h ▸ hsub _ (.tail _ (.tail _ (.head _))))
             · exact .inr (h ▸ hsub _ (.tail _ (.tail _ (.tail _ (.head _)))))
             · exact .inr h)
           clear N4
           replace F4 : Fr _ L' _ _ := F4
           have hil := (List.getElem?_eq_some_iff.mp hnm).1
           have hfl := told_len DS DA2 (names24.take i) []
           have hfl2 : (names24.take i).length ≤ 24 := by
             rw [List.length_take]; exact Nat.le_trans (Nat.min_le_right _ _) (by decide +kernel)
           simp only [List.length_nil] at hfl
           rcases st with _ | x0
           all_goals (
             first | (have hDS := pd2 rfl) | (have hDS := pd3 (by simp))
             show wpAny _ _ _ _ _ _
             k_fold
             k_steps)
           all_goals (
             rename News _ _ _ _ => Nf
             rename Fr _ _ _ _ => Ff
             refine' turnEnd1 (a := W) (rest := rest) Ff ?N ⟨_, _, rfl, ?S, map3 (by with_unfolding_all rfl) (by with_unfolding_all rfl) (by with_unfolding_all rfl)⟩ rfl
             case N => (have Nf2 := News.cut2 Nf); exact Nf2
             case S =>
               rw [foldl_take hnm]
               first
                 | (rw [toldStep_S (v := _) (by rw [hDS]; assumption), hstp _ _ (by assumption)]; assumption)
                 | (rw [toldStep_A (by rw [hDS]; first | rfl | assumption) (by assumption)]; assumption)
                 | (rw [toldStep_none (by rw [hDS]; first | rfl | assumption) (by assumption)]; assumption))
         case done2 =>
           rintro m₂ trk₂ h4 tk4 ha ⟨oW2, u4, rfl, hSW, rfl⟩ F4 N4
           simp only [List.cons_append, List.nil_append] at N4
           replace F4 : Fr _ L' _ _ := F4
           replace N4 : News _ L' _ _ := N4
           show wpAny _ _ _ _ _ _
           k_steps
           rename_i x dx hx1 FX NX lX lX2 gX LX hX2 FGX BX XX TX hX3 tkX3 htkX3 hX4 tkX4 htkX4 lch hX5 lX5 hX6 tkX6 htkX6 hX7 FX7 NX7 tkX7 htkX7 kF kN Tc kX
           show wpAny _ _ _ _ _ _
           refine' told_spec (DS := DS) (DA := DA2) (news := (W, oW2) :: (src, srcObj b3 mm3 tb3 tm3 n3) :: news) ⟨?s1, ?s2, ?s3, ?s4, ?s5, ?s6, ?s7⟩ ?k1 ?k2 hS3 lo1 ?hst ?hsl hA32 ?hv2 ?ret3
           case s1 => exact rfl
           case s2 => k_asm
           case s3 => exact rfl
           case s4 => (simp only at *; omega)
           case s5 => (simp only at *; omega)
           case s6 => k_asm
           case s7 => k_asm
           case k1 => exact kF
           case k2 => exact News.sub5 kN (by k_mem) (by k_mem) (by k_mem) (by k_mem) (by k_mem) (by intro p hp; repeat (first | exact hp | refine List.Mem.tail _ ?_))
           case hst => rw [hA31]; assumption
           case hsl => rw [hA31]; exact pd4
           case hv2 => exact hv2
           case ret3 =>
             intro dF oF hF tkF hSF loF lF FF NF
             (try dsimp only)
             (try k_lt lF)
             have hSW2 : SD PySem.Challenge.rw_on0242_01.row.prog w oW2 (toldS DS DA2) := by
               have z : (strValues lD).length = names24.length := (by simp [strValues] : (strValues lD).length = (lD.map (·.1)).length).trans (congrArg List.length hlD)
               rw [z, List.take_length] at hSW
               exact hSW
             k_steps
             show wpAny _ _ _ _ _ _
             refine' eq_SD NF (.head _) (.tail _ (.head _)) hSF hSW2 loF loW ?hu ?_
             case hu => (try simp only [units_deeper]); (try dsimp only [ktrTop]); (show _ < 9900); omega
             k_steps
             rename News _ _ _ _ => Nf
             rename Fr _ _ _ _ => Ff
             refine' ret b3 mm3 tb3 tm3 n3 _ _ ok3 Ff ?N
             case N => exact News.perm Nf (fun p hp => by simp only [List.mem_cons] at hp ⊢; rcases hp with h | h; (· exact .inr (.inr (.inl h))); exact .inr (.inr (.inr h))))
-- T4
theorem fillT4 : PySem.Challenge.rw_on0242_01 = PySem.Challenge.rw_on0242_01 ∧ mk.heap_1 = mk.heap_1 := by
  k_fill
  w_top off
  exact ⟨rfl, rfl⟩

def units8 : List Str := ["px", "pt", "pc", "mm", "cm", "in", "em", "%"]
def unitOf (x : Str) : Str × Str :=
  match units8.find? fun p => Txt.endswith (Txt.strip x) p with
  | some p => (Txt.strip (Txt.slice (Txt.strip x) none (some (-(p.length : Int)))), p)
  | none => (Txt.strip x, "")
theorem find_at {α : Type} {f : α → Bool} : ∀ {l : List α} {i : Nat} {p : α}, l[i]? = some p → (∀ q ∈ l.take i, f q = false) → f p = true → l.find? f = some p
  | a :: r, 0, p, h, _, hp => by
    obtain rfl : a = p := by simpa using h
    simp [List.find?_cons, hp]
  | a :: r, i + 1, p, h, hq, hp => by
    have ha : f a = false := hq a (by simp)
    rw [List.find?_cons, ha]
    exact find_at (by simpa using h) (fun q hm => hq q (by simp [hm])) hp
theorem unitOf_some {x p : Str} {i : Nat} (h : units8[i]? = some p) (hq : ∀ q ∈ units8.take i, Txt.endswith (Txt.strip x) q = false) (hp : Txt.endswith (Txt.strip x) p = true) :
    unitOf x = (Txt.strip (Txt.slice (Txt.strip x) none (some (-(p.length : Int)))), p) := by
  unfold unitOf; rw [find_at (f := fun p => Txt.endswith (Txt.strip x) p) h hq hp]
theorem unitOf_none {x : Str} (hq : ∀ q ∈ units8, Txt.endswith (Txt.strip x) q = false) : unitOf x = (Txt.strip x, ("" : Str)) := by
  unfold unitOf; rw [List.find?_eq_none.mpr (fun q hm => by simp [hq q hm])]
def unitJ (x : Str) (i : Nat) (m₁ : Str → Option Value) (trk : List (Addr × Obj)) : Prop :=
  trk = [] ∧ (∀ q ∈ units8.take i, Txt.endswith (Txt.strip x) q = false) ∧ ∃ (t : Tok) (u : Str → Option Value), m₁ = fun (y : Str) => if y = "text" then some (.str (Txt.strip x) t) else u y
theorem take_all {l : List Str} {i : Nat} {p : Str} {f : Str → Bool} (h : l[i]? = some p) (hq : ∀ q ∈ l.take i, f q = false) (hp : f p = false) : ∀ q ∈ l.take (i + 1), f q = false := by
  intro q hm
  rw [List.take_add_one, h] at hm
  rcases List.mem_append.mp hm with hm | hm
  · exact hq q hm
  · have : q = p := by simpa using hm
    rw [this]; exact hp
theorem strs_at : ∀ {items : List Value}, allStrs items = true → ∀ {i : Nat} {v : Value}, items[i]? = some v → ∃ (x : Str) (t : Tok), v = Value.str x t ∧ (strsOf items)[i]? = some x
  | .str x t :: r, h, 0, v, hv => ⟨x, t, by simpa using hv.symm, rfl⟩
  | .str x t :: r, h, i + 1, v, hv => strs_at (items := r) h (by simpa using hv)
  | [], _, _, _, hv => by simp at hv
theorem turnEnd0 {h₀ h' : Heap} {L : Addr} {J : (Str → Option Value) → List (Addr × Obj) → Prop} {rest : List (Addr × Obj)} {s₁ : Shared} {Q : Flow → Shared → Prop} {m' : Str → Option Value} {tk : Nat}
    (F : Fr h₀ L h' m') (N : News h₀ L h' rest) (hj : J m' []) : TurnPost h₀ L J rest [] s₁ Q .next { s₁ with heap := h', toks := tk } :=
  ⟨h', tk, m', [], rfl, F, N, rfl, hj⟩
theorem News.sub1 {h₀ h : Heap} {L : Addr} {a : Addr × Obj} {r r' : List (Addr × Obj)} (N : News h₀ L h (a :: r)) (hs : ∀ q ∈ r', q ∈ r) : News h₀ L h (a :: r') :=
  News.perm N fun p hp => by
    rcases List.mem_cons.mp hp with e | hp
    · exact e ▸ .head _
    · exact .tail _ (hs p hp)
theorem News.pick {h₀ h : Heap} {L : Addr} {a : Addr × Obj} {r nw : List (Addr × Obj)} (N : News h₀ L h nw) (h1 : a ∈ nw) (h2 : ∀ q ∈ r, q ∈ nw) : News h₀ L h (a :: r) :=
  News.perm N fun p hp => by
    rcases List.mem_cons.mp hp with e | hp
    · exact e ▸ h1
    · exact h2 p hp
abbrev tup2 (x y : Str) (t u : Tok) : Obj := { cls := .type "tuple", data := .seq #[.str x t, .str y u] }
local macro_rules | `(tactic| walk_at "exec For Name Tuple cons nil") => `(tactic| (k_here; walk_at "own for"))
theorem unit_spec {w : World} {loose mean mg mb} {A : Around} {h₀ : Heap} {L : Addr} {dp un gd cn cs a ccd cl outer A₀ base}
    (S : Site w loose mean mg mb 10 A h₀ L dp un gd cn cs a ccd cl outer A₀ base)
    {m : Str → Option Value} {news : List (Addr × Obj)} {s : Shared} {x : Str} {t : Tok} {Q E : Value → Shared → Prop}
    (F : Fr h₀ L s.heap m) (N : News h₀ L s.heap news) (hx : x.length ≤ 200)
    (ret : ∀ d t1 t2 h' tk', (∀ p ∈ news, p.1 < d) → Fr h₀ L h' m → News h₀ L h' ((d, tup2 (unitOf x).1 (unitOf x).2 t1 t2) :: news) → Q (.ref d) { s with heap := h', toks := tk' }) :
    wpAny (model PySem.Challenge.rw_on0242_01.row.prog w) A (call (.ref 215) [.str x t]) Q E s := by
  obtain ⟨rfl, B, hk, hd, hu, X, T⟩ := S
  refine wpAny_call ?_
  k_dflt ktr_enter
  rename Addr => L'
  k_steps
  show wpAny _ _ _ _ _ _
  rename News _ _ _ _ => ND
  rename Fr _ _ _ _ => FD
  rename Addr => DT
  rename ∀ p ∈ news, _ => lT
  have kT : ∀ p ∈ news, p.1 < DT := lT
  refine iter_tup (trk := []) (news := news) (unitJ x) rfl FD (News.tl ND) ⟨_, ND.get (.head _), rfl, _, rfl⟩ (Ne.symm (ND _ (.head _)).2.1) ?hlo ?off ⟨rfl, (fun q hq => nomatch hq), _, _, map1 (by with_unfolding_all rfl)⟩ ?turn ?done
  case hlo => exact fun p hp => Nat.ne_of_lt (kT p hp)
  case off => exact ownOff_of (fun b hb => nomatch hb)
  case turn =>
    rintro i v m₁ trk₁ h tk rest hsub hi ha ho ⟨rfl, hq, t1, u1, rfl⟩ F2 N2
    obtain ⟨p, tp, rfl, hp⟩ := strs_at rfl hi
    replace hp : units8[i]? = some p := hp
    have hpl := len_of 2 (List.mem_of_getElem? hp) (by decide +kernel)
    replace F2 : Fr _ L' _ _ := F2
    replace N2 : News _ L' _ rest := N2
    show wpAny _ _ _ _ _ _
    k_fold
    k_steps
    · rename _ = true => he
      unfold TurnPost
      dsimp only
      k_steps
      rename News _ _ _ _ => Nf
      rename Fr _ _ _ _ => Ff
      rw [unitOf_some hp hq he] at ret
      have Nf2 := News.sub1 Nf hsub
      rename ∀ p ∈ rest, _ => lR
      exact ret _ _ _ _ _ (fun q hq => lR q (hsub q hq)) Ff Nf2
    · rename _ = false => he
      refine turnEnd0 (by assumption) (by assumption) ⟨rfl, take_all hp hq he, t1, _, map1 (by with_unfolding_all rfl)⟩
  case done =>
    rintro m₁ trk₁ h tk ha ⟨rfl, hq, t1, u1, rfl⟩ F2 N2
    replace F2 : Fr _ L' _ _ := F2
    replace N2 : News _ L' _ news := N2
    show wpAny _ _ _ _ _ _
    k_steps
    rename News _ _ _ _ => Nf
    rename Fr _ _ _ _ => Ff
    rw [unitOf_none hq] at ret
    rename ∀ p ∈ news, _ => lR
    exact ret _ _ _ _ _ lR Ff Nf

theorem units_plain : ∀ number ∈ (["5", "-0.5", "", "1e3", "x"] : List Str), ∀ gap ∈ (["", " ", "\t"] : List Str), ∀ unit ∈ (["px", "pt", "pc", "mm", "cm", "in", "em", "%", ""] : List Str), ∀ a ∈ (["", " "] : List Str), ∀ z ∈ (["", "\n"] : List Str),
    unitOf (a ++ number ++ gap ++ unit ++ z) = (number, unit) := by decide +kernel
local macro_rules | `(tactic| walk_at "call ref") => `(tactic| (
  (with_reducible show wpAny _ _ (call (Value.ref 215) [Value.str _ _]) _ _ _)
  k_dflt (refine' unit_spec ⟨?s1, ?s2, ?s3, ?s4, ?s5, ?s6, ?s7⟩ ?k1 ?k2 ?k3 ?_)
  walk_at "own site"
  (case k3 => ((simp only [Str.length_append]); omega))
  intro d' t1' t2' h' tk' l1 F' N'; (try dsimp only); (try k_lt l1); walk_at "own end"))
theorem units_spec {w : World} {loose mean mg mb} {A : Around} {h₀ : Heap} {L : Addr} {dp un gd cn cs a ccd cl outer A₀ base}
    (S : Site w loose mean mg mb 20 A h₀ L dp un gd cn cs a ccd cl outer A₀ base)
    {m : Str → Option Value} {news : List (Addr × Obj)} {s : Shared} {src : Addr} {b mm : Int} {tb tm : Tok} {n : Nat} {Q E : Value → Shared → Prop}
    (F : Fr h₀ L s.heap m) (N : News h₀ L s.heap ((src, srcObj b mm tb tm n) :: news)) (hne : ∀ p ∈ news, p.1 ≠ src)
    (ok : SrcOk b mm)
    (ret : ∀ b' m' tb' tm' n' h' tk', SrcOk b' m' → Fr h₀ L h' m → News h₀ L h' ((src, srcObj b' m' tb' tm' n') :: news) → Q (.bool true) { s with heap := h', toks := tk' }) :
    wpAny (model PySem.Challenge.rw_on0242_01.row.prog w) A (call (.ref 440) [.ref src]) Q E s := by
  obtain ⟨rfl, B, hk, hd, hu, X, T⟩ := S
  refine wpAny_call ?_
  k_dflt ktr_enter
  k_steps
  rename News _ _ _ _ => Nu
  rw [units_plain _ (by assumption) _ (by assumption) _ (by assumption) _ (by assumption) _ (by assumption)] at Nu
  dsimp only at Nu
  show wpAny _ _ _ _ _ _
  have hsh : ∀ x ∈ (["5", "-0.5", "", "1e3", "x"] : List Str), ∀ y ∈ (["px", "pt", "pc", "mm", "cm", "in", "em", "%", ""] : List Str), SeqAt.shaped (PyData.tuple [PyData.str x, PyData.str y]) = true := by decide +kernel
  refine eq_dataH (by ke_read) (by ke_read) (hsh _ (by assumption) _ (by assumption)) (hsh _ (by assumption) _ (by assumption)) (by (try simp only [units_deeper]); (try dsimp only [ktrTop]); (show _ < 9900); omega) ?_
  ke_norm
  k_steps
  rename News _ _ _ _ => Nf
  rename Fr _ _ _ _ => Ff
  refine' ret _ _ _ _ _ _ _ ?ok Ff ?N
  case N => exact News.pick Nf (by k_mem) (by intro p hp; repeat (first | exact hp | refine List.Mem.tail _ ?_))
  case ok => assumption
-- T5
theorem fillT5 : PySem.Challenge.rw_on0242_01 = PySem.Challenge.rw_on0242_01 ∧ mk.heap_1 = mk.heap_1 := by
  k_fill
  w_top off
  exact ⟨rfl, rfl⟩

theorem stopC {prog : Program} {w : World} {A : Around} {p : Prop} (h : Stop p) : p := h
local macro_rules | `(tactic| walk_at "CompSrcT") => `(tactic| (refine stop ?_))
local macro_rules | `(tactic| walk_at "KCiEl") => `(tactic| ((refine kci_el ?kce (by with_unfolding_all rfl) (by with_unfolding_all rfl)); (case kce => exact if_pos ⟨by assumption, by assumption⟩)))
local macro_rules | `(tactic| walk_at "KCiNo") => `(tactic| ((refine kci_no ?kce (by with_unfolding_all rfl)); (case kce => first | exact if_neg (fun hh => absurd hh.1 (by assumption)) | exact if_neg (fun hh => absurd hh.2 (by assumption)))))
theorem foldl_filter (p : Int → Prop) [DecidablePred p] (ks : List Int) : ∀ l : List Int, ks.foldl (fun l k => if p k then l ++ [k] else l) l = l ++ ks.filter (fun k => decide (p k)) := by
  induction ks with
  | nil => intro l; simp
  | cons k r ih =>
    intro l
    rw [List.foldl_cons, ih]
    by_cases h : p k
    · simp [h]
    · simp [h]
theorem part_facts {top bot M : Int} (h1 : 1 ≤ M) (ht : top.fmod M = 0) (hb : bot.fmod M = 0) : (top.fdiv M < 0 ↔ top < 0) ∧ (bot.fdiv M < top.fdiv M ↔ bot < top) := by
  have e1 : M * top.fdiv M = top := by have := Int.mul_fdiv_add_fmod top M; omega
  have e2 : M * bot.fdiv M = bot := by have := Int.mul_fdiv_add_fmod bot M; omega
  have hM : 0 < M := by omega
  constructor
  · constructor
    · intro h
      rw [← e1]
      exact Int.mul_neg_of_pos_of_neg hM h
    · intro h
      refine Int.lt_of_not_ge fun hc => ?_
      have := Int.mul_nonneg (Int.le_of_lt hM) hc
      omega
  · constructor
    · intro h
      rw [← e1, ← e2]
      exact Int.mul_lt_mul_of_pos_left h hM
    · intro h
      rw [← e1, ← e2] at h
      exact Int.lt_of_mul_lt_mul_left h (Int.le_of_lt hM)
theorem zero66 {w : World} : ∃ o, (mk.heap_1 w.params).lookup 66 = some o ∧ o.cls = .type "tuple" ∧ ∃ t1 t2, o.data = .seq #[.int 0 t1, .int 1 t2] 0 := by
  refine ⟨_, by with_unfolding_all rfl, rfl, _, _, rfl⟩
theorem bounded_spec {w : World} {loose mean mg mb} {A : Around} {h₀ : Heap} {L : Addr} {dp un gd cn cs a ccd cl outer A₀ base}
    (S : Site w loose mean mg mb 20 A h₀ L dp un gd cn cs a ccd cl outer A₀ base)
    {m : Str → Option Value} {news : List (Addr × Obj)} {s : Shared} {src : Addr} {b mm : Int} {tb tm : Tok} {n : Nat} {Q E : Value → Shared → Prop}
    (F : Fr h₀ L s.heap m) (N : News h₀ L s.heap ((src, srcObj b mm tb tm n) :: news)) (hne : ∀ p ∈ news, p.1 ≠ src)
    (ok : SrcOk b mm)
    (ret : ∀ b' m' tb' tm' n' h' tk', SrcOk b' m' → Fr h₀ L h' m → News h₀ L h' ((src, srcObj b' m' tb' tm' n') :: news) → Q (.bool true) { s with heap := h', toks := tk' }) :
    wpAny (model PySem.Challenge.rw_on0242_01.row.prog w) A (call (.ref 445) [.ref src]) Q E s := by
  obtain ⟨rfl, B, hk, hd, hu, X, T⟩ := S
  refine wpAny_call ?_
  k_dflt (refine' code_defC ?k1 ?k2 ?k3 ?k4 ?k5 ?kA ?kF ?kK ?k6 ?k7 ?k8 ?k9 ?kB ?kD ?_ ?c2 ?c3 ?c4; (case kA => exact rfl); (case kF => exact rfl); (case kK => exact hk); (case k1 => k_asm); (case k2 => k_asm); (case k3 => k_asm); (case k4 => k_asm); (case k5 => k_asm); (case k6 => k_is); (case k7 => k_is); (case k8 => k_room); (case k9 => exact BindsTo.of_eq rfl); (case kB => exact rfl); (case kD => decide +kernel); (case c2 => exact rfl); (case c3 => exact rfl); (case c4 => exact rfl); k_whole)
  intro g' L' h' tk' cells' FG' F' N' Y' B' X' T' l1; (try k_lt l1); k_cells Y'; (try simp only [List.cons_append, List.nil_append] at N'); (try dsimp only); (try k_fold)
  have hltN : ∀ p ∈ news, p.1 < L' := tb_ltOf (l := news) (And.right l1)
  have c1 : ∀ p ∈ news, p.1 ≠ L' + 1 := fun p hp => Nat.ne_of_lt (Nat.lt_succ_of_lt (hltN p hp))
  have c2 : ∀ p ∈ news, p.1 ≠ L' + 1 + 1 := fun p hp => Nat.ne_of_lt (Nat.lt_succ_of_lt (Nat.lt_succ_of_lt (hltN p hp)))
  k_steps
  rename_i r1 b1 m1 t1 tb1 tm1 n1 h1 tk1 hr10 hr11 ok1 dum1 dum2 r2 b2 m2 t2 tb2 tm2 n2 h2 tk2 hr20 hr21 ok2 DT h3 lDT h4 h5 o1 d1 h6 o2 F6 N6 d2 tk6 htk6 h7 tk7 u1 u2 u3 hRg F7 N7 hkeep
  show LCt.CompSrcT _ _ _ _ _ _ _ _ _ _ _ _ _ _ _
  refine LCt.CompSrcT.range (by rfl) (by k_asm) (by k_asm) (by assumption) (by decide) (by first | exact rangeSize_nat _ _ | rfl) (by first | exact Nat.le_of_ble_eq_true rfl | (rw [PySem.sizeLine_eq]; first | omega)) ?_
  intro gC
  refine' kci_range (fun l k => if (r1 - 20).fmod k = 0 ∧ (1 + r2).fmod k = 0 then l ++ [k] else l) (fun k' t' I' oI' C' oC' D' m' ys' l' h' tk' E' hlo' hhi' hI' hC' hx' F' N' off' ne' => ?_) ?_ ?_
  · have offK := off'
    (try (simp only [LCg.Off3, and_true] at off'))
    (try ((show KPfMark → _); intro hMark'))
    k_steps
    · exact ⟨_, _, _, rfl, F', N', offK, trivial, kci_el (if_pos ⟨by assumption, by assumption⟩) rfl rfl⟩
    · exact ⟨_, _, _, rfl, F', N', offK, trivial, kci_no (if_neg (fun hh => absurd hh.2 (by assumption))) rfl⟩
    · exact ⟨_, _, _, rfl, F', N', offK, trivial, kci_no (if_neg (fun hh => absurd hh.1 (by assumption))) rfl⟩
  · show ∀ ys, _ → _ → _
    intro ys hys hyl
    unfold LCg.FinE
    intro D' h' tk' F' N' o1'
    (try simp only [LCg.Off1, and_true] at o1')
    (try simp only [List.nil_append, List.cons_append] at N')
    (try dsimp only)
    rw [foldl_filter (fun k => (r1 - 20).fmod k = 0 ∧ (1 + r2).fmod k = 0), List.nil_append] at hys
    have hone : (1 : Int) ∈ (rangeKs 1 (41 - 1 : Int).toNat).filter (fun k => decide ((r1 - 20).fmod k = 0 ∧ (1 + r2).fmod k = 0)) := by
      refine List.mem_filter.mpr ⟨by decide +kernel, ?_⟩
      simp [Int.fmod_one]
    have hmem : ∀ M ∈ (rangeKs 1 (41 - 1 : Int).toNat).filter (fun k => decide ((r1 - 20).fmod k = 0 ∧ (1 + r2).fmod k = 0)), 1 ≤ M ∧ M ≤ 40 ∧ (r1 - 20).fmod M = 0 ∧ (1 + r2).fmod M = 0 := by
      intro M hM
      obtain ⟨a1, a2⟩ := List.mem_filter.mp hM
      have a3 := mem_rangeKs a1
      have a4 := of_decide_eq_true a2
      exact ⟨a3.1, by have := a3.2; simp at this; omega, a4⟩
    k_steps
    show wpAny _ _ _ _ _ _
    refine kso_max F' N' (isl N' (.head _)) hys (List.length_pos_of_mem hone) rfl (fun hM M tM tkM FM NM hin _ => ?_)
    obtain ⟨m1, m40, mt, mb⟩ := hmem M hin
    have hpf := part_facts m1 mt mb
    have hpb := (part_facts (top := 0) m1 (by simp) mb).2
    rw [Int.zero_fdiv] at hpb
    have hB : 0 < (1 + r2).fdiv M := by
      refine Int.lt_of_not_ge fun hc => ?_
      have e2 : M * (1 + r2).fdiv M = 1 + r2 := by have := Int.mul_fdiv_add_fmod (1 + r2) M; omega
      have := Int.mul_nonneg_of_nonpos_of_nonpos (a := -M) (by omega) hc
      rw [Int.neg_mul] at this
      omega
    clear hpb
    clear hys hone hmem
    (try dsimp only)
    k_steps
    · show wpAny _ _ _ _ _ _
      rename News _ _ _ _ => Nf
      rename Fr _ _ _ _ => Ff
      obtain ⟨oz, z1, z2, z3, z4, z5⟩ := zero66 (w := w)
      k_dflt (refine' eq_dataH (reads_tuple_at (Frag.In.keeps X' (Fr.keep Ff) 66 oz z1) z2 z5 ?rs) ?rd ?sh ?sh2 ?room ?_)
      case rs => ke_reads
      case rd => ke_read
      case sh => ke_shaped
      case sh2 => ke_shaped
      case room => (try simp only [units_deeper]); (try dsimp only [ktrTop]); (show _ < 9900); omega
      ke_norm
      k_steps
      rename News _ _ _ _ => Nf
      rename Fr _ _ _ _ => Ff
      refine' ret _ _ _ _ _ _ _ ?ok Ff ?N
      case N => exact News.pick Nf (by k_mem) (by intro p hp; repeat (first | exact hp | refine List.Mem.tail _ ?_))
      case ok => assumption
    all_goals (
      rename News _ _ _ _ => Nf
      rename Fr _ _ _ _ => Ff
      refine' ret _ _ _ _ _ _ _ ?ok Ff ?N
      case N => exact News.pick Nf (by k_mem) (by intro p hp; repeat (first | exact hp | refine List.Mem.tail _ ?_))
      case ok => assumption)
  · intro l k
    dsimp only
    split <;> simp
-- T6
section
open PySem.Spec
theorem uniq_of {α : Type} {r : α → α → Prop} (anti : ∀ a b, r a b → r b a → a = b) : ∀ {l1 l2 : List α}, l1.Perm l2 → l1.Pairwise r → l2.Pairwise r → l1 = l2
  | [], l2, p, _, _ => (List.Perm.nil_eq p)
  | a :: l, l2, p, h1, h2 => by
    match l2, p, h2 with
    | [], p, _ => exact absurd p.length_eq (by simp)
    | b :: l', p, h2 =>
      have e : a = b := by
        have ha : a ∈ b :: l' := p.mem_iff.mp (.head _)
        have hb : b ∈ a :: l := p.mem_iff.mpr (.head _)
        rcases List.mem_cons.mp ha with e | ha
        · exact e
        · rcases List.mem_cons.mp hb with e | hb
          · exact e.symm
          · exact anti _ _ ((List.pairwise_cons.mp h1).1 _ hb) ((List.pairwise_cons.mp h2).1 _ ha)
      subst e
      rw [uniq_of anti (List.Perm.cons_inv p) (List.pairwise_cons.mp h1).2 (List.pairwise_cons.mp h2).2]
def leS (a b : Str) : Prop := a.cps.toList ≤ b.cps.toList
theorem leS_anti (a b : Str) (h1 : leS a b) (h2 : leS b a) : a = b := by
  have := List.le_antisymm h1 h2
  obtain ⟨a⟩ := a
  obtain ⟨b⟩ := b
  simp at this
  subst this
  rfl
theorem leS_trans {a b c : Str} (h1 : leS a b) (h2 : leS b c) : leS a c := List.le_trans h1 h2
theorem leS_of {x p : Str} (h : ltCps x.cps.toList p.cps.toList = false) : leS p x := by
  rw [ltCps_eq] at h
  exact List.not_lt.mp (of_decide_eq_false h)
theorem rising_pw : ∀ (l : List Str) (p : Str), risingS p l = true → (p :: l).Pairwise leS
  | [], p, _ => by simp
  | x :: r, p, h => by
    have h' : (!ltCps x.cps.toList p.cps.toList && risingS x r) = true := h
    simp only [Bool.and_eq_true, Bool.not_eq_true'] at h'
    have ih := rising_pw r x h'.2
    refine List.pairwise_cons.mpr ⟨fun q hq => ?_, ih⟩
    have h0 := leS_of h'.1
    rcases List.mem_cons.mp hq with rfl | hq
    · exact h0
    · exact leS_trans h0 ((List.pairwise_cons.mp ih).1 q hq)
theorem sortedS_uniq {l1 l2 : List Str} (p : l1.Perm l2) (h1 : sortedS l1 = true) (h2 : sortedS l2 = true) : l1 = l2 := by
  have pw : ∀ l : List Str, sortedS l = true → l.Pairwise leS := fun l h => by
    cases l with
    | nil => exact .nil
    | cons x r => exact rising_pw r x h
  exact uniq_of leS_anti p (pw _ h1) (pw _ h2)

def sort17 : List Str := ["clip-rule", "color", "fill", "fill-opacity", "fill-rule", "font-family", "font-size", "stroke", "stroke-dasharray", "stroke-dashoffset", "stroke-linecap", "stroke-linejoin", "stroke-miterlimit", "stroke-opacity", "stroke-width", "text-anchor", "visibility"]
def sort24 : List Str := ["clip-path", "clip-rule", "color", "display", "fill", "fill-opacity", "fill-rule", "font-family", "font-size", "mask", "mix-blend-mode", "opacity", "stop-color", "stop-opacity", "stroke", "stroke-dasharray", "stroke-dashoffset", "stroke-linecap", "stroke-linejoin", "stroke-miterlimit", "stroke-opacity", "stroke-width", "text-anchor", "visibility"]
theorem sort17_perm : sort17.Perm (down17.map (·.1)) := List.isPerm_iff.mp (by decide +kernel)
theorem sort24_perm : sort24.Perm names24 := List.isPerm_iff.mp (by decide +kernel)
theorem sort17_ok : sortedS sort17 = true := by decide +kernel
theorem sort24_ok : sortedS sort24 = true := by decide +kernel
theorem sort17_sh : (PyData.list (sort17.map .str)).layable0 = true := by decide +kernel
theorem sort24_sh : (PyData.list (sort24.map .str)).layable0 = true := by decide +kernel

theorem strsAre_of : ∀ {vs : List Value} {ks : List Str}, vs.length = ks.length → (∀ (j : Nat) (u : Value), vs[j]? = some u → ∃ (k : Str) (t : Tok), ks[j]? = some k ∧ u = Value.str k t) → StrsAre vs ks
  | [], [], _, _ => .nil
  | v :: vs, k :: ks, hl, h => by
    obtain ⟨k', t, hk, rfl⟩ := h 0 v rfl
    obtain rfl : k = k' := by simpa using hk
    exact .cons k t (strsAre_of (by simpa using hl) fun j u hu => h (j + 1) u (by simpa using hu))
theorem strsAre_values : ∀ l : List (Str × Tok), StrsAre (strValues l) (l.map (·.1))
  | [] => .nil
  | (x, t) :: r => .cons x t (strsAre_values r)
section
variable {prog : Program} {w : World} {A : Around} {E : Value → Shared → Prop} {s : Shared} {h₀ : Heap} {L : Addr} {m : Str → Option Value} {news : List (Addr × Obj)}
theorem sort_SL {B : Addr} {vs : List Value} {ss srt : List Str} {n : Nat} {Q : Value → Shared → Prop} (F : Fr h₀ L s.heap m) (N : News h₀ L s.heap ((B, listOf vs.toArray n) :: news)) (l1 : ∀ q ∈ news, q.1 < B)
    (hS : StrsAre vs ss) (h64 : vs.length < 64) (hp : srt.Perm ss) (hs : sortedS srt = true)
    (h : ∀ h' vs' n', Fr h₀ L h' m → News h₀ L h' ((B, listOf (List.toArray vs') n') :: news) → StrsAre vs' srt → Q .none { s with heap := h' }) :
    wpAny (model prog w) A (call (.builtin "list.sort") [.ref B]) Q E s := by
  have z := N _ (.head _)
  refine wpAny_call_entry PyProof.Rows.slot_list_sort ⟨_, z.1, rfl⟩ PyProof.Rows.entry_list_sort (list_sort_treeK (n := n) (vs := vs) PyProof.Rows.strKind_oneLt z.1 hS.keysOf (fun v₁ v₂ rest e => keyKind_strs (by rw [← e]; exact hS)) h64 fun st' hpp hss => ⟨.none, rfl, ?_⟩) (PyProof.Rows.args_list_sort _)
  obtain ⟨ss', a1, a2, a3⟩ := sorted_out_str hS hpp hss
  obtain rfl : ss' = srt := sortedS_uniq (a2.trans hp.symm) a3 hs
  obtain ⟨e, he⟩ := sortedHeap_at (out := (arrOf st').map (·.2)) z.1
  have old : ∀ b o, b ≠ B → s.heap.get? b = some o → (sortedHeap s.heap B vs ((arrOf st').map (·.2))).get? b = some o := fun b o hb ho => by
    rw [sortedHeap_old hb (Heap.lt_size ho)]; exact ho
  refine h _ ((arrOf st').map (·.2)).toList e ⟨?_, fun b o hb => old b o (fun q => ?_) (F.keep b o hb), F.above⟩ (fun q hq => ?_) a1
  · obtain ⟨oL, es, ep, hL, hd, hk, hf⟩ := F.ns
    exact ⟨oL, es, ep, old _ _ (fun q => z.2.1 q.symm) hL, hd, hk, hf⟩
  · rw [q, z.2.2] at hb; cases hb
  · rcases List.mem_cons.mp hq with rfl | hq
    · exact ⟨he, z.2⟩
    · have zq := N q (.tail _ hq)
      exact ⟨old _ _ (Nat.ne_of_lt (l1 q hq)) zq.1, zq.2⟩
theorem sorted_SD {d : Addr} {o : Obj} {D : List (Str × Str)} {srt : List Str} {Q : Value → Shared → Prop} (hh : A.handled = none) (F : Fr h₀ L s.heap m) (N : News h₀ L s.heap news) (hm : (d, o) ∈ news) (hd : SD prog w o D) (lo : (d == sysModules) = false)
    (hp : srt.Perm (D.map (·.1))) (hs : sortedS srt = true) (h64 : D.length < 64)
    (h : ∀ B h' vs' n' tk, (∀ q ∈ news, q.1 < B) → Fr h₀ L h' m → News h₀ L h' ((B, listOf (List.toArray vs') n') :: news) → StrsAre vs' srt → Q (.ref B) { s with heap := h', toks := tk }) :
    wpAny (model prog w) A (call (.builtin "sorted") [.ref d]) Q E s := by
  obtain ⟨kvs, hdd, hsp⟩ := hd.dictOf N hm
  obtain ⟨ep, hat⟩ := hdd.dictAt
  refine kdu_sorted (kdl_dict (knd := PySem.strKind prog w) (kvs := kvs) (ep := ep) lo) hh F N hat (kdl_size (by rw [hsp.length]; omega)) fun B h' tk vs F' N' l1 hl hv => ?_
  have hS : StrsAre vs (D.map (·.1)) := strsAre_of (by rw [hl, hsp.length, List.length_map]) fun j u hu => by
    obtain ⟨k, x, hx, hk⟩ := hv j u hu
    obtain ⟨t, rfl⟩ := Value.isStrOf_shape hk
    refine ⟨k, t, ?_, rfl⟩
    rw [← hsp.keys, List.getElem?_map, hx]; rfl
  exact sort_SL F' N' l1 hS (by rw [hl, hsp.length]; exact h64) hp hs fun h2 vs' n' F2 N2 hS2 => h B h2 vs' n' tk l1 F2 N2 hS2
theorem sorted_SL {l : Addr} {vs : List Value} {ss srt : List Str} {n : Nat} {Q : Value → Shared → Prop} (F : Fr h₀ L s.heap m) (N : News h₀ L s.heap news) (hm : (l, listOf vs.toArray n) ∈ news) (hS : StrsAre vs ss)
    (hp : srt.Perm ss) (hs : sortedS srt = true) (h64 : vs.length < 64)
    (h : ∀ B h' vs' n', (∀ q ∈ news, q.1 < B) → Fr h₀ L h' m → News h₀ L h' ((B, listOf (List.toArray vs') n') :: news) → StrsAre vs' srt → Q (.ref B) { s with heap := h' }) :
    wpAny (model prog w) A (call (.builtin "sorted") [.ref l]) Q E s := by
  refine sorted_N_str F N (isl N hm) hS h64 fun h' vs' ss' e F' N' a1 a2 a3 => ?_
  obtain rfl : ss' = srt := sortedS_uniq (a2.trans hp.symm) a3 hs
  exact h _ h' vs' e (fun q hq => Nat.lt_succ_of_lt (Heap.lt_size (N q hq).1)) F' N' a1
theorem ne_SL {a b : Addr} {va vb : List Value} {na nb : Nat} {ss : List Str} {Q : Value → Shared → Prop} (N : News h₀ L s.heap news) (ma : (a, listOf va.toArray na) ∈ news) (mb : (b, listOf vb.toArray nb) ∈ news)
    (ha : StrsAre va ss) (hb : StrsAre vb ss) (hsh : (PyData.list (ss.map .str)).layable0 = true) (hu : A.units + 64 < cLine) (h : Q (.bool false) s) :
    wpAny (model prog w) A (compareOp .NotEq (.ref a) (.ref b)) Q E s := by
  have sh := SeqAt.shaped_of_layable hsh
  refine ne_dataH (reads_list_at (N.get ma) rfl rfl (by simpa using ha.reads s.heap)) (reads_list_at (N.get mb) rfl rfl (by simpa using hb.reads s.heap)) sh sh hu ?_
  rw [SeqAt.eqv_refl _ (SeqAt.canLay_of_shaped sh)]
  exact h
def mergedS (D D2 : List (Str × Str)) : List (Str × Str) := D2.foldl (fun acc p => storedS acc p.1 p.2) D
theorem SP.merged {more : List (Str × Value)} {D2 : List (Str × Str)} (h2 : SP more D2) : ∀ {kvs D}, SP kvs D → SP (merged kvs more) (mergedS D D2) := by
  induction h2 with
  | nil => exact fun h => h
  | cons _ ih => exact fun h => ih (h.stored _ _ _)
theorem update_SD {d d2 : Addr} {o o2 : Obj} {D D2 : List (Str × Str)} {g : Obj → List (Addr × Obj)} {Q : Value → Shared → Prop} (F : Fr h₀ L s.heap m) (N : News h₀ L s.heap news) (U : UpdF d o news g) (hd : SD prog w o D) (hm2 : (d2, o2) ∈ news) (hd2 : SD prog w o2 D2)
    (lo2 : (d2 == sysModules) = false) (hne : d ≠ d2) (hsz : D.length + D2.length ≤ 1000)
    (h : ∀ h' o', Fr h₀ L h' m → News h₀ L h' (g o') → SD prog w o' (mergedS D D2) → Q .none { s with heap := h' }) :
    wpAny (model prog w) A (call (.builtin "dict.update") [.ref d, .ref d2]) Q E s := by
  obtain ⟨pre, post, rfl, hg, a, b⟩ := U.split
  obtain ⟨kvs, hdd, hs⟩ := hd
  obtain ⟨more, hD2, hs2⟩ := hd2.dictOf N hm2
  have hm := N (d, o) (List.mem_append_right _ (.head _))
  have hD : s.heap.DictOf (PySem.strKind prog w) d kvs := Heap.dictOf_iff.mpr ⟨o, hm.1, hdd⟩
  refine call_meetsIn PySem.F.slot_dict_update hD.typeIs PySem.F.entry_dict_update (PySem.F.args_dict_update_2 _ _) (meets_dict_update (PySem.strKind prog w) d d2 hne lo2)
    ⟨kvs, more, hD, hD2, (by rw [hs.length, hs2.length, sizeLine_eq]; omega), fun h' hmm _ hsb => ?_⟩
  obtain ⟨o', ho', hd'⟩ := Heap.dictOf_iff.mp hmm
  exact h h' o' (F.change hsb hm.2.1 hm.2.2) (hg o' ▸ N.setIn a b hsb ho') ⟨_, hd', hs2.merged hs⟩
theorem copy_SD {d : Addr} {o : Obj} {D : List (Str × Str)} {Q : Value → Shared → Prop} (F : Fr h₀ L s.heap m) (N : News h₀ L s.heap news) (hbig : h₀.NoLimit) (hm : (d, o) ∈ news) (hd : SD prog w o D) (lo : (d == sysModules) = false) (hsz : D.length ≤ 1000)
    (h : ∀ d' o' h', (∀ q ∈ news, q.1 < d') → (d' == sysModules) = false → SD prog w o' D → Fr h₀ L h' m → News h₀ L h' ((d', o') :: news) → Q (.ref d') { s with heap := h' }) :
    wpAny (model prog w) A (call (.type "dict") [.ref d]) Q E s := by
  obtain ⟨kvs, hdd, hs⟩ := hd.dictOf N hm
  refine kt_call_dict lo hdd (by rw [hs.length, sizeLine_eq]; omega) fun h' hmm hsb => ?_
  obtain ⟨o', ho', hd'⟩ := Heap.dictOf_iff.mp hmm
  have N1 := News.push F N { cls := .type "dict", data := .dict #[] }
  exact h _ o' h' (fun q hq => Heap.lt_size (N q hq).1) (F.notModules (modules_low hbig)) ⟨_, hd', hs⟩ ((F.push _).change hsb (N1 _ (.head _)).2.1 (N1.fresh (.head _))) (N1.setHead N.apart hsb ho')
end
end
-- T7
theorem fillT7 : PySem.Challenge.rw_on0242_01 = PySem.Challenge.rw_on0242_01 ∧ mk.heap_1 = mk.heap_1 := by
  k_fill
  w_top off
  exact ⟨rfl, rfl⟩
abbrev lookDict (w : World) (t : Tok) (dv : Addr) (n : Nat) : Obj := dictOf [{ hash := PyData.keyHash w.params "values", key := .str "values" t, val := .ref dv }] n
theorem mkLook_spec {w : World} {loose mean mg mb} {A : Around} {h₀ : Heap} {L : Addr} {dp un gd cn cs a ccd cl outer A₀ base}
    (S : Site w loose mean mg mb 20 A h₀ L dp un gd cn cs a ccd cl outer A₀ base)
    {m : Str → Option Value} {news : List (Addr × Obj)} {s : Shared} {dv : Addr} {Q E : Value → Shared → Prop}
    (F : Fr h₀ L s.heap m) (N : News h₀ L s.heap news)
    (ret : ∀ x d t n h' tk', (∀ p ∈ news, p.1 < d) → @LT.lt Nat _ d x → Fr h₀ L h' m → News h₀ L h' ((x, instObj 323 d) :: (d, lookDict w t dv n) :: news) → Q (.ref x) { s with heap := h', toks := tk' }) :
    wpAny (model PySem.Challenge.rw_on0242_01.row.prog w) A (call (.ref 323) [.ref dv]) Q E s := by
  obtain ⟨rfl, B, hk, hd, hu, X, T⟩ := S
  k_dflt (refine' call_cls ?k1 ?k2 ?k3 ?k4 ?k5 ?k6 ?_; (case k1 => k_asm); (case k2 => k_asm); (case k3 => k_asm); (case k4 => k_is); (case k5 => k_is); (case k6 => k_is); k_whole)
  intro x' d' h' F' N' l1 l2
  have e1 : ∀ p ∈ news, p.1 ≠ d' := fun p hp => Nat.ne_of_lt (l1 p hp)
  have e2 : ∀ p ∈ news, p.1 ≠ x' := fun p hp => Nat.ne_of_lt (Nat.lt_trans (l1 p hp) l2)
  have l2' : @LT.lt Nat _ d' x' := l2
  (try k_lt l1); (try k_lt2 l2); (try k_sweep)
  k_dflt (refine' code_def ?k1 ?k2 ?k3 ?k4 ?k5 ?kA ?kF ?kK ?k6 ?k7 ?k8 ?k9 ?kB ?_ ?c2 ?c3 ?c4 ?c5; (case kA => exact rfl); (case kF => exact rfl); (case kK => exact hk); (case k1 => k_asm); (case k2 => k_asm); (case k3 => k_asm); (case k4 => k_asm); (case k5 => k_asm); (case k6 => k_is); (case k7 => k_is); (case k8 => k_room); (case k9 => exact BindsTo.of_eq rfl); (case c5 => decide); (case kB => exact locs rfl); (case c2 => exact rfl); (case c3 => exact rfl); (case c4 => exact rfl); k_whole)
  intro g' L' h2 FG' F2 N2 B' X' T'; (try dsimp only); (try k_fold)
  k_steps
  exact ret _ _ _ _ _ _ l1 l2' (by assumption) (by assumption)
local macro_rules | `(tactic| walk_at "getMethod ref") => `(tactic| (k_here; (with_reducible show wpAny _ _ (getMethod (Value.ref _) (PySem.Str.ofString "update") _) _ _ _); k_dflt (refine' getMethod_SD ?N ?m ?d PySem.F.slot_dict_update PySem.F.type_dict_update ?_); walk_at "own dict"))
local macro_rules | `(tactic| walk_at "call builtin:dict.update") => `(tactic| (k_here; (with_reducible show wpAny _ _ (call (Value.builtin "dict.update") [Value.ref _, Value.ref _]) _ _ _); k_dflt (refine' update_SD ?F ?N ?U ?d ?m ?d2 ?lo ?ne ?z ?_; walk_at "own both"; (case U => k_updF); (case d => assumption); (case m => k_mem); (case d2 => assumption); (case lo => assumption); (case ne => k_ne); (case z => first | decide +kernel | (simp only [own7, down17, List.length_cons, List.length_nil] at *; omega))); intro h' o' F' N' hS'; (try dsimp only); (try k_sweep)))
local macro_rules | `(tactic| walk_at "call ref") => `(tactic| (
  (with_reducible show wpAny _ _ (call (Value.ref 323) [Value.ref _]) _ _ _)
  k_dflt (refine' mkLook_spec ⟨?s1, ?s2, ?s3, ?s4, ?s5, ?s6, ?s7⟩ ?k1 ?k2 ?_)
  walk_at "own site"
  intro x' d' t' n' h' tk' l1 l2 F' N'; (try dsimp only); (try k_lt l1); (try k_lt2 l2); walk_at "own end"))
abbrev all24 : List (Str × Str) := down17 ++ own7
theorem merged24 : mergedS down17 own7 = all24 := by decide +kernel
theorem News.drop3 {h₀ h : Heap} {L : Addr} {a b c d : Addr × Obj} {r : List (Addr × Obj)} (N : News h₀ L h (a :: b :: c :: d :: r)) : News h₀ L h (a :: b :: d :: r) :=
  News.perm N fun p hp => by simp only [List.mem_cons] at hp ⊢; rcases hp with h | h | h | h <;> simp [h]
theorem first_spec {w : World} {loose mean mg mb} {A : Around} {h₀ : Heap} {L : Addr} {dp un gd cn cs a ccd cl outer A₀ base}
    (S : Site w loose mean mg mb 30 A h₀ L dp un gd cn cs a ccd cl outer A₀ base)
    {m : Str → Option Value} {news : List (Addr × Obj)} {s : Shared} {Q E : Value → Shared → Prop}
    (F : Fr h₀ L s.heap m) (N : News h₀ L s.heap news)
    (ret : ∀ x d dv oV t n h' tk', SD PySem.Challenge.rw_on0242_01.row.prog w oV all24 → (dv == sysModules) = false → (∀ p ∈ news, p.1 < dv) → @LT.lt Nat _ dv d → @LT.lt Nat _ d x → Fr h₀ L h' m →
      News h₀ L h' ((x, instObj 323 d) :: (d, lookDict w t dv n) :: (dv, oV) :: news) → Q (.ref x) { s with heap := h', toks := tk' }) :
    wpAny (model PySem.Challenge.rw_on0242_01.row.prog w) A (call (.ref 334) []) Q E s := by
  obtain ⟨rfl, B, hk, hd, hu, X, T⟩ := S
  refine wpAny_call ?_
  k_dflt ktr_enter
  k_steps
  rename SD _ _ _ (mergedS _ _) => hSm
  rw [merged24] at hSm
  rename News _ _ _ _ => Nf
  rename Fr _ _ _ _ => Ff
  refine' ret _ _ _ _ _ _ _ _ hSm ?lo ?l ?lt1 ?lt2 Ff ?N
  case N => (have Nf2 := News.drop3 Nf); exact Nf2
  case lo => assumption
  case l => assumption
  case lt1 => omega
  case lt2 => omega
-- T8
theorem fillT8 : PySem.Challenge.rw_on0242_01 = PySem.Challenge.rw_on0242_01 ∧ mk.heap_1 = mk.heap_1 := by
  k_fill
  w_top off
  exact ⟨rfl, rfl⟩
local macro_rules | `(tactic| walk_at "call type:dict") => `(tactic| (k_here; (with_reducible show wpAny _ _ (call (Value.type "dict") [Value.ref _]) _ _ _); k_dflt (refine' copy_SD ?F ?N ?T ?m ?d ?lo ?z ?_; walk_at "own both"; (case T => exact (TopRead.nolimit (by k_asm))); (case m => k_mem); (case d => assumption); (case lo => assumption); (case z => omega)); intro d' o' h' l1 lo' hS' F' N'; (try dsimp only); (try k_lt l1); (try k_sweep)))
def lookJ (dw : Addr) (m₁ : Str → Option Value) (trk : List (Addr × Obj)) : Prop :=
  trk = [] ∧ ∃ (u : Str → Option Value), m₁ = fun (y : Str) => if y = "values" then some (.ref dw) else u y
theorem News.drop4 {h₀ h : Heap} {L : Addr} {a b c d e : Addr × Obj} {r : List (Addr × Obj)} (N : News h₀ L h (a :: b :: c :: d :: e :: r)) : News h₀ L h (a :: b :: d :: r) :=
  News.perm N fun p hp => by simp only [List.mem_cons] at hp ⊢; rcases hp with h | h | h | h <;> simp [h]
theorem look_spec {w : World} {loose mean mg mb} {A : Around} {h₀ : Heap} {L : Addr} {dp un gd cn cs a ccd cl outer A₀ base}
    (S : Site w loose mean mg mb 35 A h₀ L dp un gd cn cs a ccd cl outer A₀ base)
    {m : Str → Option Value} {news : List (Addr × Obj)} {s : Shared} {e de at' x dx dv : Addr} {v1 v3 v4 : Value} {t1 t2 t3 t4 tx : Tok} {ne nx : Nat} {oA oV : Obj} {AV : List (Str × Str)} {Q E : Value → Shared → Prop}
    (F : Fr h₀ L s.heap m) (N : News h₀ L s.heap ((e, instObj 373 de) :: (de, elDict w v1 v3 v4 t1 t2 t3 t4 at' ne) :: (at', oA) :: (x, instObj 323 dx) :: (dx, lookDict w tx dv nx) :: (dv, oV) :: news))
    (hA : SD PySem.Challenge.rw_on0242_01.row.prog w oA []) (loA : (at' == sysModules) = false) (hV : SD PySem.Challenge.rw_on0242_01.row.prog w oV AV) (loV : (dv == sysModules) = false) (hAV : AV.length ≤ 100)
    (ret : ∀ y dy t n dw oW h' tk', SD PySem.Challenge.rw_on0242_01.row.prog w oW (mergedS AV own7) → (dw == sysModules) = false → (∀ p ∈ (x, instObj 323 dx) :: (dx, lookDict w tx dv nx) :: (dv, oV) :: news, p.1 < dw) → @LT.lt Nat _ dw dy → @LT.lt Nat _ dy y → Fr h₀ L h' m →
      News h₀ L h' ((y, instObj 323 dy) :: (dy, lookDict w t dw n) :: (dw, oW) :: (x, instObj 323 dx) :: (dx, lookDict w tx dv nx) :: (dv, oV) :: news) → Q (.ref y) { s with heap := h', toks := tk' }) :
    wpAny (model PySem.Challenge.rw_on0242_01.row.prog w) A (call (.ref 348) [.ref e, .ref x]) Q E s := by
  obtain ⟨rfl, B, hk, hd, hu, X, T⟩ := S
  refine wpAny_call ?_
  k_dflt ktr_enter
  rename Addr => L'
  k_steps
  show wpAny _ _ _ _ _ _
  refine' told_spec (DS := []) (DA := []) (news := (x, instObj 323 dx) :: (dx, lookDict w tx dv nx) :: (dv, oV) :: news) ⟨?s1, ?s2, ?s3, ?s4, ?s5, ?s6, ?s7⟩ ?k1 ?k2 hA loA ?hst ?hsl ?hv1 ?hv2 ?ret3
  case s1 => exact rfl
  case s2 => k_asm
  case s3 => exact rfl
  case s4 => (simp only at *; omega)
  case s5 => (simp only at *; omega)
  case s6 => k_asm
  case s7 => k_asm
  case k1 => k_asm
  case k2 => k_asm
  case hst => decide +kernel
  case hsl => decide +kernel
  case hv1 => exact (fun n v e => by simp [lookS] at e)
  case hv2 => exact (fun n v e => by simp [lookS] at e)
  case ret3 =>
    intro dF oF hF tkF hSF loF lF FF NF
    have hnil : toldS [] [] = [] := by decide +kernel
    rw [hnil] at hSF
    (try dsimp only)
    (try k_lt lF)
    k_steps
    rename SD _ _ _ (mergedS _ _) => hSm
    rename News _ _ _ _ => Nz
    rename Fr _ _ _ _ => Fz
    show wpAny _ _ _ _ _ _
    refine iter_dictF (trk := []) (fun _ => lookJ _) rfl Fz Nz (.tail _ (.tail _ (.head _))) hSF loF ?off ⟨rfl, _, map1 (by with_unfolding_all rfl)⟩ ?turn ?done
    case off => exact ownOff_of (fun b hb => nomatch hb)
    case turn => intro i k t m₁ trk₁ h tk rest hsub hi; simp at hi
    case done =>
      rintro m₁ trk₁ h tk ha ⟨rfl, u, rfl⟩ F4 N4
      replace F4 : Fr _ L' _ _ := F4
      replace N4 : News _ L' _ (_ :: _ :: _ :: _) := N4
      show wpAny _ _ _ _ _ _
      k_steps
      rename News _ _ _ _ => Nf
      rename Fr _ _ _ _ => Ff
      refine' ret _ _ _ _ _ _ _ _ hSm ?lo ?l ?lt1 ?lt2 Ff ?N
      case N => (have Nf2 := News.drop4 Nf); exact Nf2
      case lo => assumption
      case l => exact fun p hp => tb_ltOf (l := (x, instObj 323 dx) :: (dx, lookDict w tx dv nx) :: (dv, oV) :: news) (And.right (by assumption)) p hp
      case lt1 => omega
      case lt2 => omega
-- T9a
section
open PyProof.Rows.LCg PyProof.Rows.LCt
section
variable {prog : Program} {w : World} {A : Around} {E : Value → Shared → Prop} {s : Shared} {h₀ : Heap} {L : Addr} {m : Str → Option Value} {env : Env}
/-- what a comprehension walks over: a dict of texts -/
def CompSrcD (prog : Program) (w : World) (A : Around) (h₀ : Heap) (L : Addr) (m : Str → Option Value) (env : Env) (ct elt : Expr) (x : Str) (scope : Scope) (cl : List (Str × Addr)) (Fin : Shared → List Value → List (Addr × Obj) → Prop) (xv : Value) (s₁ : Shared) : Prop :=
  ∃ d o D news, xv = .ref d ∧ A.handled = none ∧ Fr h₀ L s₁.heap m ∧ News h₀ L s₁.heap news ∧ (d, o) ∈ news ∧ SD prog w o D ∧ (d == sysModules) = false ∧ D.length ≤ 1000 ∧
    ∀ s₂ : Shared, (∃ h, s₂ = { s₁ with heap := h }) → CompRestT prog w A h₀ L m env ct elt x scope cl s₂ (fun nw => (d, o) ∈ nw) (fun i v => ∃ k t, (D.map (·.1))[i]? = some k ∧ v = .str k t) (Fin s₂) D.length 0 [] news
theorem ListComp_D {ct elt iter : Expr} {x : Str} {px : Pos} {scope : Scope} {cl : List (Str × Addr)} {pos : Pos} {Q : Value → Shared → Prop} (F₀ : Fr h₀ L s.heap m)
    (hclos : closureFor scope env = pure cl) (hcell : ∀ y ∈ scope.names, y.2 ≠ .cell) (hkind : scope.kind = .function)
    (hnames : ∀ y ∈ scope.names, y.2 = .local → scope.names.lookup y.1 = some .local) (hx : scope.names.lookup x = some .local)
    (h : wpAny (model prog w) A (eval iter env) (CompSrcD prog w A h₀ L m env ct elt x scope cl (fun s₂ => FinE h₀ L m s₂ Q)) E s)
    (hs : ∀ x, foldedSetIterable iter env x = pure x := by intro _; rfl) :
    wpAny (model prog w) A (eval (.ListComp elt [⟨.Name x px, iter, [ct], 0⟩] scope pos) env) Q E s := by
  rw [eval_ListComp]
  refine wpAny_comprehension_free (use := none) rfl hs hclos hkind hnames (wpAny_mono h (fun xv s₁ h₁ => ?_) fun _ _ e => e)
  obtain ⟨d, o, D, news, rfl, hh, F, N, hm, hd, lo, hsz, R⟩ := h₁
  obtain ⟨kvs, hdd, hsp⟩ := hd.dictOf N hm
  obtain ⟨ep, hat⟩ := hdd.dictAt
  have hd0 := (N _ hm).1
  refine wpAny_pyIter_dict lo hat ?_
  have hne : d ≠ s₁.heap.objs.size := Nat.ne_of_lt hat.lt_size
  have W := Walks.dictKeys (prog := prog) (w := w) (knd := PySem.strKind prog w) hh s₁.heap.objs.size d hne kvs ep
  have W' : Walks prog w A s₁.heap.objs.size [s₁.heap.objs.size, d] [s₁.heap.objs.size] D.length (fun i v => ∃ k t, (D.map (·.1))[i]? = some k ∧ v = .str k t) (fun i h => h.IsKeyIter s₁.heap.objs.size d i kvs.length ep ∧ h.DictAt (PySem.strKind prog w) d kvs ep) := by
    rw [← hsp.length]
    refine ⟨W.sub, W.frame, fun i s E Q hi st hQ => W.item i s E Q hi st fun v h' tk hv => hQ v h' tk ?_, W.done, W.self⟩
    obtain ⟨k, x', hx', hk⟩ := hv
    obtain ⟨t, rfl⟩ := Value.isStrOf_shape hk
    exact ⟨k, t, by rw [← hsp.keys, List.getElem?_map, hx']; rfl, rfl⟩
  have up : ∀ (ob : Obj) b o, s₁.heap.get? b = some o → (s₁.heap.push ob).get? b = some o := fun ob b o e => Heap.get?_push_of_some _ e
  refine block_T (S := fun nw => (d, o) ∈ nw) W' (by rw [sizeLine_eq]; omega) (fun i h st => by obtain ⟨o, e, _⟩ := st.1; exact ⟨o, e⟩) ?_ hcell hkind hx ⟨⟨_, Heap.get?_push_size _ rfl, rfl, rfl⟩, hat.push _⟩ (fun b hb => ?_)
    (F.keeps (up _)) (N.grown (up _)) (Nat.ne_of_lt F.ns.lt) (next_is_new F) (fun p hp => Nat.ne_of_lt (Heap.lt_size (N p hp).1)) hm (R _ ⟨_, rfl⟩) ?_
  · intro i h h' oI nw st e e' k N' S'
    refine ⟨?_, hat.at' fun ob eb => ?_⟩
    · obtain ⟨o', q, r⟩ := st.1; rw [e] at q; cases q; exact ⟨oI, e', r⟩
    · rw [hd0] at eb; cases eb; exact (N' _ S').1
  · show b < (s₁.heap.push _).objs.size
    rw [Heap.size_push]
    rcases List.mem_cons.mp hb with rfl | hb
    · exact Nat.lt_succ_self _
    · rw [List.mem_singleton.mp hb]; exact Nat.lt_succ_of_lt hat.lt_size
  · intro D' C h tk m' ys news' F' N' o1 hn hC₀ hD₀ hCL hDL hCD offC fin
    refine ⟨m', hn, fun h'' hs'' => fin D' h'' tk (F'.change hs'' hCL hC₀) (fun p hp => ?_) o1⟩
    refine ⟨hs''.extBut _ _ ?_ (N' p hp).1, (N' p hp).2⟩
    rcases List.mem_cons.mp hp with rfl | hp
    · exact Ne.symm hCD
    · exact offC p hp
theorem comp_none {ct elt : Expr} {x : Str} {scope : Scope} {cl : List (Str × Addr)} {S : List (Addr × Obj) → Prop} {P : Nat → Value → Prop} {Fin : List Value → List (Addr × Obj) → Prop} {news : List (Addr × Obj)} {n : Nat}
    (turn : ∀ i v I oI C oC D m₂ h tk (E' : Value → Shared → Prop), i < n → P i v → NsObj oC m₂ → m₂ x = some v → Fr h₀ L h m → News h₀ L h ((I, oI) :: (C, oC) :: (D, lst []) :: news) → Off3 I C D news → ((@Ne Nat I C) ∧ (@Ne Nat I D) ∧ (@Ne Nat C D)) →
      wpAny (model prog w) A (isTrue ct (compEnvC scope cl C env) (eval ct (compEnvC scope cl C env))) (fun ok s' => ok = false ∧ CompEnd h₀ L m { s with heap := h, toks := tk } I oI C oC D (lst []) S (fun _ news' => news' = news) Value.none s') E' { s with heap := h, toks := tk })
    (fin : Fin [] news) : ∀ k i, i + k = n → CompRestT prog w A h₀ L m env ct elt x scope cl s S P Fin k i [] news
  | 0, i, _ => CompRestT.zero fin
  | k + 1, i, hi => by
    refine CompRestT.succ ?_
    intro v I oI C oC D m₂ h tk E' hv hC hx F N off ne
    refine wpAny_mono (turn i v I oI C oC D m₂ h tk E' (by omega) hv hC hx F N off ne) (fun ok s₂ hq => ?_) fun _ _ e => e
    obtain ⟨rfl, h', tk', nw, e, F', N', off', hS, rfl⟩ := hq
    simp only [Bool.false_eq_true, if_false]
    exact ⟨h', tk', _, e, F', N', off', hS, comp_none turn fin k (i + 1) (by omega)⟩
end
end
-- T9
theorem fillT9 : PySem.Challenge.rw_on0242_01 = PySem.Challenge.rw_on0242_01 ∧ mk.heap_1 = mk.heap_1 := by
  k_fill
  w_top off
  exact ⟨rfl, rfl⟩
local macro_rules | `(tactic| walk_at "call ref") => `(tactic| (
  k_dflt (show wpAny _ _ (call (Value.ref 334) []) _ _ _)
  k_dflt (refine' first_spec ⟨?s1, ?s2, ?s3, ?s4, ?s5, ?s6, ?s7⟩ ?k1 ?k2 ?_)
  walk_at "own site"
  intro x' d' v' o' t' n' h' tk' hS' lo' l1 l2 l3 F' N'; (try dsimp only); (try k_lt l1); walk_at "own end"))
theorem sort24_permA : sort24.Perm (all24.map (·.1)) := List.isPerm_iff.mp (by decide +kernel)
local macro_rules | `(tactic| walk_at "call builtin:sorted") => `(tactic| (k_here; (with_reducible show wpAny _ _ (call (Value.builtin "sorted") [Value.ref _]) _ _ _); k_dflt (first
  | (refine' sorted_SD (D := all24) rfl ?F ?N ?m ?d ?lo sort24_permA sort24_ok ?z ?_; (case F => k_asm); walk_at "own dict"; (case lo => assumption); (case z => decide))
  | (refine' sorted_SD (D := down17) rfl ?F ?N ?m ?d ?lo sort17_perm sort17_ok ?z ?_; (case F => k_asm); walk_at "own dict"; (case lo => assumption); (case z => decide))); intro B' h' vs' n' tk' l1 F' N' hS'; (try dsimp only); (try k_lt l1); (try k_sweep)))
theorem strsAre_valuesE {l : List (Str × Tok)} {xs : List Str} (e : l.map (·.1) = xs) : StrsAre (strValues l) xs := e ▸ strsAre_values l
theorem strValues_lenE {l : List (Str × Tok)} {xs : List Str} (e : l.map (·.1) = xs) (h : xs.length < 64) : (strValues l).length < 64 := by rw [← e] at h; simpa [strValues] using h
local macro_rules | `(tactic| walk_at "call builtin:sorted") => `(tactic| (k_here; (with_reducible show wpAny _ _ (call (Value.builtin "sorted") [Value.ref _]) _ _ _); k_dflt (first
  | (refine' sorted_SL ?F ?N ?m (strsAre_valuesE (xs := names24) ?e) sort24_perm sort24_ok ?z ?_; walk_at "own both"; (case m => k_mem); (case e => assumption); (case z => exact strValues_lenE (by assumption) (by decide)))
  | (refine' sorted_SL ?F ?N ?m (strsAre_valuesE (xs := down17.map (·.1)) ?e) sort17_perm sort17_ok ?z ?_; walk_at "own both"; (case m => k_mem); (case e => assumption); (case z => exact strValues_lenE (by assumption) (by decide)))); intro B' h' vs' n' l1 F' N' hS'; (try dsimp only); (try k_lt l1); (try k_sweep)))
local macro_rules | `(tactic| walk_at "compareOp NotEq ref ref") => `(tactic| (k_here; (with_reducible show wpAny _ _ (compareOp CmpOp.NotEq (Value.ref _) (Value.ref _)) _ _ _); k_dflt (first
  | (refine' ne_SL ?N ?a ?b ?ha ?hb sort24_sh ?hu ?_; (case N => k_asm); (case a => k_mem); (case b => k_mem); (case ha => assumption); (case hb => assumption); (case hu => walk_at "own units"))
  | (refine' ne_SL ?N ?a ?b ?ha ?hb sort17_sh ?hu ?_; (case N => k_asm); (case a => k_mem); (case b => k_mem); (case ha => assumption); (case hb => assumption); (case hu => walk_at "own units"))); (try dsimp only)))
local macro_rules | `(tactic| walk_at "eval ListComp") => `(tactic| (k_here; lcg_calm; k_dflt (refine ListComp_D (F₀ := by k_asm) (by with_unfolding_all rfl) (by decide) (by rfl) (by decide) (by rfl) ?_)))
def some10 : List (Str × Str) := [("fill", "black"), ("stroke", "none"), ("stroke-width", "1"), ("stroke-miterlimit", "4"), ("font-size", "16"), ("opacity", "1"), ("display", "inline"), ("stop-color", "black"), ("mix-blend-mode", "normal"), ("visibility", "visible")]
theorem some_first : ∀ n ∈ some10.map (·.1), ∃ v, lookS all24 n = some v ∧ lookS some10 n = some v := by
  intro n hn
  have : ∀ p ∈ some10, lookS all24 p.1 = some p.2 ∧ lookS some10 p.1 = some p.2 := by decide +kernel
  obtain ⟨p, hp, rfl⟩ := List.mem_map.mp hn
  exact ⟨p.2, this p hp⟩
local macro_rules | `(tactic| walk_at "call type:dict") => `(tactic| (k_here; (with_reducible show wpAny _ _ (call (Value.type "dict") [Value.ref _]) _ _ _); k_dflt (refine' copy_SD ?F ?N ?T ?m ?d ?lo ?z ?_; walk_at "own both"; (case T => exact (TopRead.nolimit (by k_asm))); (case m => k_mem); (case d => assumption); (case lo => assumption); (case z => first | omega | decide)); intro d' o' h' l1 lo' hS' F' N'; (try dsimp only); (try k_lt l1); (try k_sweep)))
local macro_rules | `(tactic| walk_at "subscriptTail") => `(tactic| (k_here; (with_reducible show wpAny _ _ (subscriptTail _ _ (Value.ref _) (Value.str _ _)) _ _ _); k_dflt (refine' item_SD ?N ?m ?d ?e ?_ ?hs; (case hs => with_unfolding_all rfl); walk_at "own dict"; (case e => with_reducible assumption)); intro _; (try dsimp only)))

def HV (AV : List (Str × Str)) : Prop := AV.map (·.1) = names24 ∧ ∀ n v, lookS AV n = some v → v ≠ "odd" ∧ v.length ≤ 100
theorem stored_keys {D : List (Str × Str)} {k v : Str} (h : k ∈ D.map (·.1)) : (storedS D k v).map (·.1) = D.map (·.1) := by
  have ha : D.any (fun p => p.1 = k) = true := by
    obtain ⟨p, hp, rfl⟩ := List.mem_map.mp h
    exact List.any_eq_true.mpr ⟨p, hp, by simp⟩
  unfold storedS
  rw [if_pos ha, List.map_map]
  refine List.map_congr_left fun p _ => ?_
  simp only [Function.comp]
  split <;> rfl
theorem HV.step {AV : List (Str × Str)} {k v : Str} (h : HV AV) (hk : k ∈ names24) (h1 : v ≠ "odd") (h2 : v.length ≤ 100) : HV (storedS AV k v) := by
  refine ⟨by rw [stored_keys (by rw [h.1]; exact hk), h.1], fun n u => ?_⟩
  rw [lookS_stored]
  split
  · intro e; cases e; exact ⟨h1, h2⟩
  · exact h.2 n u
theorem HV.len {AV : List (Str × Str)} (h : HV AV) : AV.length ≤ 30 := by
  have := congrArg List.length h.1
  rw [List.length_map] at this
  rw [this]; decide
theorem HV.start : HV all24 := by
  refine ⟨by decide +kernel, fun n v e => ?_⟩
  have : ∀ p ∈ all24, p.2 ≠ "odd" ∧ p.2.length ≤ 100 := by decide +kernel
  unfold lookS at e
  cases hf : all24.find? (fun p => p.1 = n) with
  | none => rw [hf] at e; cases e
  | some p => rw [hf] at e; cases e; exact this p (List.mem_of_find?_eq_some hf)
def handJ (w : World) (src x dv : Addr) (i : Nat) (m₁ : Str → Option Value) (trk : List (Addr × Obj)) : Prop :=
  ∃ (AV : List (Str × Str)) (b mm : Int) (tb tm : Tok) (n : Nat) (o : Obj) (u : Str → Option Value), trk = [(src, srcObj b mm tb tm n), (dv, o)] ∧ SrcOk b mm ∧ HV AV ∧ SD PySem.Challenge.rw_on0242_01.row.prog w o AV ∧
    m₁ = fun (y : Str) => if y = "around" then some (.ref x) else if y = "source" then some (.ref src) else u y
def HandAt (w : World) (g : Heap) (L : Addr) (h : Heap) (src L1 lD : Addr) (l : List (Str × Tok)) (news : List (Addr × Obj)) : Prop :=
  ∃ (x dx dv : Addr) (oV : Obj) (tx : Tok) (nx : Nat) (f : Addr) (oF oc : Obj) (b mm : Int) (tb tm : Tok) (n : Nat) (u : Str → Option Value),
    SD PySem.Challenge.rw_on0242_01.row.prog w oV all24 ∧ (dv == sysModules) = false ∧ SD PySem.Challenge.rw_on0242_01.row.prog w oF all24 ∧ (f == sysModules) = false ∧ SrcOk b mm ∧ oc.data = .cell (some (.ref f)) ∧
    Fr g L h (fun (y : Str) => if y = "around" then some (.ref x) else if y = "source" then some (.ref src) else u y) ∧
    News g L h ((src, srcObj b mm tb tm n) :: (dv, oV) :: (lD, listOf (strValues l).toArray 0) :: (x, instObj 323 dx) :: (dx, lookDict w tx dv nx) :: (f, oF) :: (L1, oc) :: news) ∧
    @LT.lt Nat _ src L1 ∧ @LT.lt Nat _ L1 dv ∧ @LT.lt Nat _ dv dx ∧ @LT.lt Nat _ dx x ∧ @LT.lt Nat _ x f ∧ @LT.lt Nat _ f lD
theorem map2 {m : Str → Option Value} {k1 k2 : Str} {v1 v2 : Value} (h1 : m k1 = some v1) (h2 : m k2 = some v2) :
    m = fun y => if y = k1 then some v1 else if y = k2 then some v2 else m y := by
  funext y
  by_cases e1 : y = k1
  · subst e1; simp [h1]
  by_cases e2 : y = k2
  · subst e2; simp [h2, e1]
  simp [e1, e2]
theorem handAt_of {w : World} {g : Heap} {L : Addr} {h : Heap} {src L1 lD : Addr} {l : List (Str × Tok)} {news nw : List (Addr × Obj)} {x dx dv : Addr} {oV : Obj} {tx : Tok} {nx : Nat} {f : Addr} {oF oc : Obj} {b mm : Int} {tb tm : Tok} {n : Nat} {m : Str → Option Value}
    (N : News g L h nw) (F : Fr g L h m) (e1 : m "around" = some (.ref x)) (e2 : m "source" = some (.ref src))
    (n1 : (src, srcObj b mm tb tm n) ∈ nw) (n3 : (lD, listOf (strValues l).toArray 0) ∈ nw) (n4 : (x, instObj 323 dx) ∈ nw) (n5 : (dx, lookDict w tx dv nx) ∈ nw) (n2 : (dv, oV) ∈ nw) (n7 : (L1, oc) ∈ nw) (hc : oc.data = .cell (some (.ref f))) (n6 : (f, oF) ∈ nw) (n8 : ∀ p ∈ news, p ∈ nw)
    (hV : SD PySem.Challenge.rw_on0242_01.row.prog w oV all24) (lv : (dv == sysModules) = false) (hF : SD PySem.Challenge.rw_on0242_01.row.prog w oF all24) (lf : (f == sysModules) = false) (ok : SrcOk b mm)
    (q1 : @LT.lt Nat _ src L1) (q2 : @LT.lt Nat _ L1 dv) (q3 : @LT.lt Nat _ dv dx) (q4 : @LT.lt Nat _ dx x) (q5 : @LT.lt Nat _ x f) (q6 : @LT.lt Nat _ f lD) : HandAt w g L h src L1 lD l news :=
  ⟨x, dx, dv, oV, tx, nx, f, oF, oc, b, mm, tb, tm, n, m, hV, lv, hF, lf, ok, hc, fr_as F (map2 e1 e2), News.perm N (by
    intro p hp
    simp only [List.mem_cons] at hp
    rcases hp with h | h | h | h | h | h | h | h
    · exact h ▸ n1
    · exact h ▸ n2
    · exact h ▸ n3
    · exact h ▸ n4
    · exact h ▸ n5
    · exact h ▸ n6
    · exact h ▸ n7
    · exact n8 p h), q1, q2, q3, q4, q5, q6⟩
theorem News.drop34 {h₀ h : Heap} {L : Addr} {a b c d : Addr × Obj} {r : List (Addr × Obj)} (N : News h₀ L h (a :: b :: c :: d :: r)) : News h₀ L h (a :: b :: r) :=
  News.perm N fun p hp => by simp only [List.mem_cons] at hp ⊢; rcases hp with h | h | h <;> simp [h]
theorem vnum {r : Int} (h0 : 0 ≤ r) (h1 : r < 9) : (("v" : Str) ++ Str.ofString (toString r)) ≠ "odd" ∧ (("v" : Str) ++ Str.ofString (toString r)).length ≤ 100 := by
  have : r = 0 ∨ r = 1 ∨ r = 2 ∨ r = 3 ∨ r = 4 ∨ r = 5 ∨ r = 6 ∨ r = 7 ∨ r = 8 := by omega
  rcases this with rfl | rfl | rfl | rfl | rfl | rfl | rfl | rfl | rfl <;> decide +kernel
local macro_rules | `(tactic| walk_at "call ref") => `(tactic| ((with_reducible show wpAny _ _ (call (Value.ref 348) [Value.ref _, Value.ref _]) _ _ _); refine stop ?_))

theorem in_SL {prog : Program} {w : World} {A : Around} {E : Value → Shared → Prop} {s : Shared} {h₀ : Heap} {L l : Addr} {news : List (Addr × Obj)} {ls : List (Str × Tok)} {xs : List Str} {n : Nat} {k : Str} {t : Tok} {Q : Value → Shared → Prop} (N : News h₀ L s.heap news) (hm : (l, listOf (strValues ls).toArray n) ∈ news) (e : ls.map (·.1) = xs)
    (h : Q (.bool (xs.any (· == k))) s) : wpAny (model prog w) A (compareOp .In (.str k t) (.ref l)) Q E s := by
  refine SeqAt.in_listAt (fun v => match v with | .str y _ => y == k | _ => false) (isl N hm) (fun y hy => ?_) ?_
  · obtain ⟨p, hp, rfl⟩ : ∃ p : Str × Tok, p ∈ ls ∧ Value.str p.1 p.2 = y := by
      have hy2 : y ∈ strValues ls := by simpa using hy
      obtain ⟨p, hp, rfl⟩ := List.mem_map.mp hy2
      exact ⟨p, hp, rfl⟩
    exact SeqAt.EqAt.str_str _ _ _ _
  · have e2 : (strValues ls).toArray.any (fun v => match v with | .str y _ => y == k | _ => false) = xs.any (· == k) := by
      rw [← e, List.any_toArray]
      simp [strValues, List.any_map, Function.comp_def]
    rw [e2]; exact h
theorem in_SLt {prog : Program} {w : World} {A : Around} {E : Value → Shared → Prop} {s : Shared} {h₀ : Heap} {L l : Addr} {news : List (Addr × Obj)} {ls : List (Str × Tok)} {xs : List Str} {n : Nat} {k : Str} {t : Tok} {Q : Value → Shared → Prop} (hk : k ∈ xs) (N : News h₀ L s.heap news) (hm : (l, listOf (strValues ls).toArray n) ∈ news) (e : ls.map (·.1) = xs)
    (h : Q (.bool true) s) : wpAny (model prog w) A (compareOp .In (.str k t) (.ref l)) Q E s := by
  refine in_SL N hm e ?_
  have : xs.any (· == k) = true := List.any_eq_true.mpr ⟨k, hk, by simp⟩
  rw [this]; exact h
theorem in_SLf {prog : Program} {w : World} {A : Around} {E : Value → Shared → Prop} {s : Shared} {h₀ : Heap} {L l : Addr} {news : List (Addr × Obj)} {ls : List (Str × Tok)} {xs : List Str} {n : Nat} {k : Str} {t : Tok} {Q : Value → Shared → Prop} (hk : k ∉ xs) (N : News h₀ L s.heap news) (hm : (l, listOf (strValues ls).toArray n) ∈ news) (e : ls.map (·.1) = xs)
    (h : Q (.bool false) s) : wpAny (model prog w) A (compareOp .In (.str k t) (.ref l)) Q E s := by
  refine in_SL N hm e ?_
  have : xs.any (· == k) = false := by
    rw [List.any_eq_false]
    intro y hy he
    exact hk (by have := eq_of_beq he; exact this ▸ hy)
  rw [this]; exact h
local macro_rules | `(tactic| walk_at "compareOp In str ref") => `(tactic| (k_here; (with_reducible show wpAny _ _ (compareOp CmpOp.In (Value.str _ _) (Value.ref _)) _ _ _); k_dflt (first
  | (refine' in_SLt (xs := down17.map (·.1)) ?k ?N ?m ?e ?_; (case k => with_reducible assumption); (case N => k_asm); (case m => k_mem); (case e => assumption))
  | (refine' in_SLf (xs := down17.map (·.1)) ?k ?N ?m ?e ?_; (case k => with_reducible assumption); (case N => k_asm); (case m => k_mem); (case e => assumption))); (try dsimp only)))
local macro_rules | `(tactic| walk_at "compareOp Eq ref ref") => `(tactic| (k_here; (with_reducible show wpAny _ _ (compareOp CmpOp.Eq (Value.ref _) (Value.ref _)) _ _ _); k_dflt (refine' eq_SD ?N ?pa ?pb ?da ?db ?la ?lb ?hu ?_; (case N => k_asm); (case pa => k_mem); (case pb => k_mem); (case da => assumption); (case db => assumption); (case la => assumption); (case lb => assumption); (case hu => walk_at "own units")); (try dsimp only)))
local macro_rules | `(tactic| walk_at "setItem ref") => `(tactic| (k_here; (with_reducible show wpAny _ _ (setItem (Value.ref _) (Value.str _ _) (Value.str _ _)) _ _ _); k_dflt (refine' setItem_SD ?F ?N ?U ?hd ?hsz ?_); walk_at "own both"; (case U => k_updF); (case hd => assumption); (case hsz => first | omega | assumption | decide); intro h' o' F' N' hSD'; (try dsimp only); (try k_sweep)))
theorem look_merged {D : List (Str × Str)} {n : Str} : ∀ {D2 : List (Str × Str)}, n ∉ D2.map (·.1) → lookS (mergedS D D2) n = lookS D n := by
  intro D2
  induction D2 generalizing D with
  | nil => intro _; rfl
  | cons p r ih =>
    intro h
    simp only [List.map_cons, List.mem_cons, not_or] at h
    show lookS (mergedS (storedS D p.1 p.2) r) n = _
    rw [ih h.2, lookS_stored, if_neg h.1]
theorem merged_len (D : List (Str × Str)) : ∀ D2 : List (Str × Str), (mergedS D D2).length ≤ D.length + D2.length := by
  intro D2
  induction D2 generalizing D with
  | nil => exact Nat.le_refl _
  | cons p r ih =>
    have h1 := ih (storedS D p.1 p.2)
    have h2 := storedS_len D p.1 p.2
    show (mergedS (storedS D p.1 p.2) r).length ≤ _
    simp only [List.length_cons]; omega
theorem look_own {D : List (Str × Str)} {n : Str} (h : n ∈ own7.map (·.1)) : ∃ v, lookS (mergedS D own7) n = some v ∧ lookS all24 n = some v := by
  have key : ∀ (D2 : List (Str × Str)) (D : List (Str × Str)), (D2.map (·.1)).Nodup → ∀ p ∈ D2, lookS (mergedS D D2) p.1 = some p.2 := by
    intro D2
    induction D2 with
    | nil => exact fun _ _ p hp => nomatch hp
    | cons q r ih =>
      intro D hn p hp
      simp only [List.map_cons, List.nodup_cons] at hn
      show lookS (mergedS (storedS D q.1 q.2) r) p.1 = _
      rcases List.mem_cons.mp hp with rfl | hp
      · rw [look_merged hn.1, lookS_stored, if_pos rfl]
      · exact ih _ hn.2 p hp
  obtain ⟨p, hp, rfl⟩ := List.mem_map.mp h
  have h2 : ∀ p ∈ own7, lookS all24 p.1 = some p.2 := by decide +kernel
  exact ⟨p.2, key own7 D (by decide +kernel) p hp, h2 p hp⟩
theorem look_some {D : List (Str × Str)} {n : Str} (h : n ∈ D.map (·.1)) : ∃ v, lookS D n = some v := by
  have : (lookS D n).isSome = true := by
    rw [← any_key]
    obtain ⟨p, hp, rfl⟩ := List.mem_map.mp h
    exact List.any_eq_true.mpr ⟨p, hp, by simp⟩
  exact Option.isSome_iff_exists.mp this
theorem down_own : ∀ n ∈ down17.map (·.1), n ∉ own7.map (·.1) := by decide +kernel
theorem own_down : ∀ n ∈ own7.map (·.1), n ∉ down17.map (·.1) := by decide +kernel
def hereJ (x y : Addr) (m₁ : Str → Option Value) (trk : List (Addr × Obj)) : Prop :=
  trk = [] ∧ ∃ (u : Str → Option Value), m₁ = fun (z : Str) => if z = "around" then some (.ref x) else if z = "here" then some (.ref y) else u z
theorem News.subs {h₀ h : Heap} {L : Addr} {a b c d e f : Addr × Obj} {r nw : List (Addr × Obj)} (N : News h₀ L h nw) (h1 : a ∈ nw) (h2 : b ∈ nw) (h3 : c ∈ nw) (h4 : d ∈ nw) (h5 : e ∈ nw) (h6 : f ∈ nw) (h7 : ∀ p ∈ r, p ∈ nw) : News h₀ L h (a :: b :: c :: d :: e :: f :: r) :=
  News.perm N fun p hp => by
    simp only [List.mem_cons] at hp
    rcases hp with h | h | h | h | h | h | h
    · exact h ▸ h1
    · exact h ▸ h2
    · exact h ▸ h3
    · exact h ▸ h4
    · exact h ▸ h5
    · exact h ▸ h6
    · exact h7 p h
theorem handed_spec {w : World} {loose mean mg mb} {A : Around} {h₀ : Heap} {L : Addr} {dp un gd cn cs a ccd cl outer A₀ base}
    (S : Site w loose mean mg mb 50 A h₀ L dp un gd cn cs a ccd cl outer A₀ base)
    {m : Str → Option Value} {news : List (Addr × Obj)} {s : Shared} {src : Addr} {b mm : Int} {tb tm : Tok} {n : Nat} {Q E : Value → Shared → Prop}
    (F : Fr h₀ L s.heap m) (N : News h₀ L s.heap ((src, srcObj b mm tb tm n) :: news)) (hne : ∀ p ∈ news, p.1 ≠ src)
    (ok : SrcOk b mm)
    (ret : ∀ b' m' tb' tm' n' h' tk', SrcOk b' m' → Fr h₀ L h' m → News h₀ L h' ((src, srcObj b' m' tb' tm' n') :: news) → Q (.bool true) { s with heap := h', toks := tk' }) :
    wpAny (model PySem.Challenge.rw_on0242_01.row.prog w) A (call (.ref 450) [.ref src]) Q E s := by
  obtain ⟨rfl, B, hk, hd, hu, X, T⟩ := S
  refine wpAny_call ?_
  k_dflt (refine' code_defC ?k1 ?k2 ?k3 ?k4 ?k5 ?kA ?kF ?kK ?k6 ?k7 ?k8 ?k9 ?kB ?kD ?_ ?c2 ?c3 ?c4; (case kA => exact rfl); (case kF => exact rfl); (case kK => exact hk); (case k1 => k_asm); (case k2 => k_asm); (case k3 => k_asm); (case k4 => k_asm); (case k5 => k_asm); (case k6 => k_is); (case k7 => k_is); (case k8 => k_room); (case k9 => exact BindsTo.of_eq rfl); (case kB => exact rfl); (case kD => decide +kernel); (case c2 => exact rfl); (case c3 => exact rfl); (case c4 => exact rfl); k_whole)
  intro g' L' h' tk' cells' FG' F' N' Y' B' X' T' l1; (try k_lt l1); k_cells Y'; (try simp only [List.cons_append, List.nil_append] at N'); (try dsimp only); (try k_fold)
  have hltN : ∀ p ∈ news, p.1 < L' := tb_ltOf (l := news) (And.right l1)
  have c1 : ∀ p ∈ news, p.1 ≠ L' + 1 := fun p hp => Nat.ne_of_lt (Nat.lt_succ_of_lt (hltN p hp))
  have c2 : ∀ p ∈ news, p.1 ≠ L' + 1 + 1 := fun p hp => Nat.ne_of_lt (Nat.lt_succ_of_lt (Nat.lt_succ_of_lt (hltN p hp)))
  k_steps
  rename Obj.IsDictOf (PySem.strKind _ _) _ _ => hd10
  have h10 : SD PySem.Challenge.rw_on0242_01.row.prog w _ some10 := ⟨_, hd10, by unfold some10; repeat (first | exact sp_nil | refine sp_cons ?_)⟩
  rename News _ _ _ _ => Nz
  rename Fr _ _ _ _ => Fz
  show CompSrcD _ _ _ _ _ _ _ _ _ _ _ _ _ _ _
  refine ⟨_, _, _, _, rfl, rfl, Fz, Nz, by k_mem, h10, by assumption, by decide, ?_⟩
  rintro _ ⟨gC, rfl⟩
  refine comp_none ?turnC ?finC _ 0 (Nat.zero_add _)
  case turnC =>
    rintro i v I oI C oC D m₂ h tk E' hi ⟨k, t, hk2, rfl⟩ hC hx FC NC off ne
    have offK := off
    (try (simp only [LCg.Off3, and_true] at off))
    obtain ⟨v, hv1, hv2⟩ := some_first k (List.mem_of_getElem? hk2)
    k_steps
    · simp
    · exact ⟨_, _, _, rfl, FC, NC, offK, by k_mem, rfl⟩
  case finC =>
    show LCg.FinE _ _ _ _ _ _ _
    unfold LCg.FinE
    intro D' h' tk' F' N' o1'
    (try simp only [LCg.Off1, and_true] at o1')
    (try dsimp only)
    k_steps
    rename News _ _ _ _ => Ny
    rename Fr _ _ _ _ => Fy
    rename List.map _ _ = down17.map _ ++ own7.map _ => hlD
    show wpAny _ _ _ _ _ _
    have PK := handAt_of (L1 := L' + 1) (news := news) Ny Fy (by with_unfolding_all rfl) (by with_unfolding_all rfl) (by k_mem) (by exact .head _) (by k_mem) (by k_mem) (by k_mem) (by k_mem) (by assumption) (by k_mem) (by intro p hp; repeat (first | exact hp | refine List.Mem.tail _ ?_)) (by assumption) (by assumption) (by assumption) (by assumption) ok (by omega) (by omega) (by omega) (by omega) (by omega) (by omega)
    rename List (Str × Tok) => lDD
    obtain ⟨x, dx, dv, oV, tx, nx, f, oF, oc, b1, mm1, tb1, tm1, n1, u1, hV1, loV, hF1, loF, ok1, hoc, F1, N1, q1, q2, q3, q4, q5, q6⟩ := PK
    have e1 : ∀ p ∈ news, @LT.lt Nat _ p.1 (L' + 1) := fun p hp => Nat.lt_succ_of_lt (hltN p hp)
    (try clear Ny); (try clear Fy); (try clear Nz); (try clear Fz); (try clear N'); (try clear F'); (try clear N); (try clear F); (try clear h10); (try clear hd10)
    repeat (rename @LT.lt Nat _ _ _ ∧ _ => hzz; clear hzz)
    repeat (rename StrsAre _ _ => hzz; clear hzz)
    repeat (rename (0 < _) => hzz; clear hzz)
    refine iter_listF (trk := [(src, srcObj b1 mm1 tb1 tm1 n1), (dv, oV)]) (vs := strValues _) (handJ w src x dv) rfl F1 N1 (.head _) ?off ⟨all24, b1, mm1, tb1, tm1, n1, oV, u1, rfl, ok1, HV.start, hV1, rfl⟩ ?turn ?done
    case off =>
      exact ownOff_of (by
        intro b hb p hp
        simp only [List.map_cons, List.map_nil, List.mem_cons, List.not_mem_nil, or_false] at hb
        have c3 : ∀ p ∈ news, @Ne Nat p.1 dv := fun p hp => Nat.ne_of_lt (Nat.lt_trans (e1 p hp) q2)
        simp only [List.mem_cons] at hp
        rcases hb with hb | hb
        · rw [hb]
          rcases hp with rfl | rfl | rfl | rfl | rfl | hp
          · show @Ne Nat _ _; omega
          · show @Ne Nat _ _; omega
          · show @Ne Nat _ _; omega
          · show @Ne Nat _ _; omega
          · show @Ne Nat _ _; omega
          · exact hne p hp
        · rw [hb]
          rcases hp with rfl | rfl | rfl | rfl | rfl | hp
          · show @Ne Nat _ _; omega
          · show @Ne Nat _ _; omega
          · show @Ne Nat _ _; omega
          · show @Ne Nat _ _; omega
          · show @Ne Nat _ _; omega
          · exact c3 p hp)
    case turn =>
      rintro i v m₁ trk₁ h tk rest hsub hi ha ho ⟨AV, b3, mm3, tb3, tm3, n3, o3, u3, rfl, ok3, hH3, hS3, rfl⟩ F3 N3
      obtain ⟨nm, tn, rfl, hnm⟩ := strValues_get hi
      rw [hlD] at hnm
      have hnk : nm ∈ names24 := List.mem_of_getElem? hnm
      have hAl := hH3.len
      have ho1 := off_one ho
      have ho2 := off_one ho1.2
      obtain ⟨ho1, -⟩ := ho1
      obtain ⟨ho2, -⟩ := ho2
      dsimp only at ho1 ho2
      have m1 := hsub _ (List.Mem.tail _ (List.Mem.head _))
      have m2 := hsub _ (List.Mem.tail _ (List.Mem.tail _ (List.Mem.head _)))
      have N5 : News g' L' h ((src, srcObj b3 mm3 tb3 tm3 n3) :: (dv, o3) :: (x, instObj 323 dx) :: (dx, lookDict w tx dv nx) :: rest) := News.perm N3 (fun p hp => by
        simp only [List.cons_append, List.nil_append, List.mem_cons] at hp ⊢
        rcases hp with h | h | h | h | h
        · exact .inl h
        · exact .inr (.inl h)
        · exact .inr (.inr (h ▸ m1))
        · exact .inr (.inr (h ▸ m2))
        · exact .inr (.inr h))
      clear N3
      replace F3 : Fr _ L' _ _ := F3
      show wpAny _ _ _ _ _ _
      k_fold
      k_steps
      · rename News _ _ _ _ => Nf
        rename Fr _ _ _ _ => Ff
        refine' turnEnd2 (a := src) (b := dv) (rest := rest) Ff ?N ⟨_, _, _, _, _, _, _, _, rfl, ?ok, ?A, ?S, map2 (by with_unfolding_all rfl) (by with_unfolding_all rfl)⟩ rfl
        case N => (have Nf2 := News.drop34 Nf); exact Nf2
        case ok => assumption
        case S => assumption
        case A => exact hH3.step hnk (vnum (by assumption) (by assumption)).1 (vnum (by assumption) (by assumption)).2
      · rename News _ _ _ _ => Nf
        rename Fr _ _ _ _ => Ff
        refine' turnEnd2 (a := src) (b := dv) (rest := rest) Ff ?N ⟨_, _, _, _, _, _, _, _, rfl, ?ok, hH3, hS3, map2 (by with_unfolding_all rfl) (by with_unfolding_all rfl)⟩ rfl
        case N => (have Nf2 := News.drop34 Nf); exact Nf2
        case ok => assumption
    case done =>
      rintro m₁ trk₁ h tk ha ⟨AV, b3, mm3, tb3, tm3, n3, o3, u3, rfl, ok3, hH3, hS3, rfl⟩ F3 N3
      simp only [List.cons_append, List.nil_append] at N3
      replace F3 : Fr _ L' _ _ := F3
      replace N3 : News _ L' _ _ := N3
      show wpAny _ _ _ _ _ _
      k_steps
      rename Obj.IsDictOf (PySem.strKind _ _) _ [] => hsA
      have hA0 := SD.nil hsA
      rename News _ _ _ _ => Nx
      rename Fr _ _ _ _ => Fx
      show wpAny _ _ _ _ _ _
      refine' look_spec (AV := AV) (x := x) (dx := dx) (dv := dv) (tx := tx) (nx := nx) (oV := o3) (news := (src, srcObj b3 mm3 tb3 tm3 n3) :: (f, oF) :: (L' + 1, oc) :: news) ⟨?s1, ?s2, ?s3, ?s4, ?s5, ?s6, ?s7⟩ Fx ?k2 hA0 ?loA hS3 loV ?hal ?ret3
      case s1 => exact rfl
      case s2 => k_asm
      case s3 => exact rfl
      case s4 => (simp only at *; omega)
      case s5 => (simp only at *; omega)
      case s6 => k_asm
      case s7 => k_asm
      case k2 => exact News.subs Nx (by k_mem) (by k_mem) (by k_mem) (by k_mem) (by k_mem) (by k_mem) (by
        intro p hp
        simp only [List.mem_cons] at hp
        rcases hp with h | h | h | hp
        · rw [h]; k_mem
        · rw [h]; k_mem
        · rw [h]; k_mem
        · repeat (first | exact hp | refine List.Mem.tail _ ?_))
      case loA => assumption
      case hal => have := hH3.len; omega
      case ret3 =>
        intro y dy ty ny dw oW hW tkW hSW loW lW q7 q8 FW NW
        have lW0 := lW
        (try dsimp only)
        (try k_lt lW)
        k_steps
        rename List (Str × Tok) => lD2
        rename List.map _ _ = down17.map _ ++ own7.map _ => hlD2
        rename News _ _ _ _ => N6
        rename Fr _ _ _ _ => F6
        show wpAny _ _ _ _ _ _
        refine iter_listF (trk := []) (vs := strValues lD2) (fun _ => hereJ x y) rfl F6 N6 (.head _) ?off2 ⟨rfl, _, map2 (by with_unfolding_all rfl) (by with_unfolding_all rfl)⟩ ?turn2 ?done2
        case off2 => exact ownOff_of (fun b hb => nomatch hb)
        case turn2 =>
          rintro i v m₂ trk₂ h4 tk4 rest hsub hi ha2 ho2 ⟨rfl, u4, rfl⟩ F7 N7
          obtain ⟨nm, tn, rfl, hnm⟩ := strValues_get hi
          rw [hlD2] at hnm
          have hnk : nm ∈ names24 := List.mem_of_getElem? hnm
          have N8 : News g' L' h4 ((y, instObj 323 dy) :: (dy, lookDict w ty dw ny) :: (dw, oW) :: (x, instObj 323 dx) :: (dx, lookDict w tx dv nx) :: (dv, o3) :: (f, oF) :: (L' + 1, oc) :: rest) := News.perm N7 (fun p hp => by
            simp only [List.mem_cons] at hp
            show p ∈ rest
            rcases hp with h | h | h | h | h | h | h | h | h
            · rw [h]; exact hsub _ (by k_mem)
            · rw [h]; exact hsub _ (by k_mem)
            · rw [h]; exact hsub _ (by k_mem)
            · rw [h]; exact hsub _ (by k_mem)
            · rw [h]; exact hsub _ (by k_mem)
            · rw [h]; exact hsub _ (by k_mem)
            · rw [h]; exact hsub _ (by k_mem)
            · rw [h]; exact hsub _ (by k_mem)
            · exact h)
          clear N7
          replace F7 : Fr _ L' _ _ := F7
          rcases List.mem_append.mp hnk with hdn | hon
          · obtain ⟨v, hva⟩ := look_some (D := AV) (n := nm) (by rw [hH3.1]; exact hnk)
            have hvw : lookS (mergedS AV own7) nm = some v := by rw [look_merged (down_own _ hdn)]; exact hva
            show wpAny _ _ _ _ _ _
            k_fold
            k_steps
            · rename (_ != _) = true => hc
              exact absurd hc (by simp)
            · rename News _ _ _ _ => Nf
              rename Fr _ _ _ _ => Ff
              refine turnEnd0 Ff (News.perm Nf fun p hp => ?_) ⟨rfl, _, map2 (by with_unfolding_all rfl) (by with_unfolding_all rfl)⟩
              repeat (first | exact hp | refine List.Mem.tail _ ?_)
          · obtain ⟨v, hvw, hvf⟩ := look_own (D := AV) hon
            have hnd := own_down _ hon
            show wpAny _ _ _ _ _ _
            k_fold
            k_steps
            · rename (_ != _) = true => hc
              exact absurd hc (by simp)
            · rename News _ _ _ _ => Nf
              rename Fr _ _ _ _ => Ff
              refine turnEnd0 Ff (News.perm Nf fun p hp => ?_) ⟨rfl, _, map2 (by with_unfolding_all rfl) (by with_unfolding_all rfl)⟩
              repeat (first | exact hp | refine List.Mem.tail _ ?_)
        case done2 =>
          rintro m₂ trk₂ h4 tk4 ha2 ⟨rfl, u4, rfl⟩ F7 N7
          simp only [List.nil_append] at N7
          replace F7 : Fr _ L' _ _ := F7
          replace N7 : News _ L' _ _ := N7
          have hW30 : (mergedS AV own7).length ≤ 1000 := by
            have h1 := merged_len AV own7
            have h2 := hH3.len
            have h3 : own7.length = 7 := rfl
            omega
          obtain ⟨vf, hvf⟩ := look_some (D := AV) (n := "fill") (by rw [hH3.1]; decide +kernel)
          have hvo := (hH3.2 _ _ hvf).1
          show wpAny _ _ _ _ _ _
          k_steps
          have hvt : (vf != "odd") = true := bne_iff_ne.mpr hvo
          rw [hvt]
          rename News _ _ _ _ => Nf
          rename Fr _ _ _ _ => Ff
          refine' ret b3 mm3 tb3 tm3 n3 _ _ ok3 Ff ?N
          case N => exact News.pick Nf (by k_mem) (by intro p hp; repeat (first | exact hp | refine List.Mem.tail _ ?_))
-- T10
theorem fillP : PySem.Challenge.rw_on0242_01 = PySem.Challenge.rw_on0242_01 ∧ mk.heap_1 = mk.heap_1 := by
  k_fill
  w_top off
  exact ⟨rfl, rfl⟩
theorem pool_ok {c x : Int} (b : Prop) [Decidable b] : SrcOk ((if -1 - c > c then -1 - c else c) * (if b then 1 else 0)) (x.fmod 2147483647) :=
  ⟨Int.mul_nonneg (by split <;> omega) (by split <;> decide), Int.fmod_nonneg_of_pos _ (by decide), Int.fmod_lt_of_pos _ (by decide)⟩
theorem pool_spec {w : World} {loose mean mg mb} {A : Around} {h₀ : Heap} {L : Addr} {dp un gd cn cs a ccd cl outer A₀ base}
    (S : Site w loose mean mg mb 5 A h₀ L dp un gd cn cs a ccd cl outer A₀ base)
    {m : Str → Option Value} {news : List (Addr × Obj)} {s : Shared} {sc : Addr} {vs : List Value} {ns : List Int} {t0 : Tok} {Q E : Value → Shared → Prop}
    (F : Fr h₀ L s.heap m) (N : News h₀ L s.heap news) (hL : h₀.IsList sc vs.toArray) (hI : IntsAre vs ns) (hln : ¬ ((63 : Nat) : Int) < (ns.length : Int))
    (ret : ∀ src b mm tb tm n h' tk', SrcOk b mm → (∀ p ∈ news, p.1 < src) → Fr h₀ L h' m → News h₀ L h' ((src, srcObj b mm tb tm n) :: news) → Q (.ref src) { s with heap := h', toks := tk' }) :
    wpAny (model PySem.Challenge.rw_on0242_01.row.prog w) A (call (.ref 384) [.ref sc, .int 0 t0]) Q E s := by
  obtain ⟨rfl, B, hk, hd, hu, X, T⟩ := S
  refine wpAny_call ?_
  k_dflt ktr_enter
  have hL2 := Fr.lst (by assumption) hL
  replace hL2 : Heap.IsList _ _ _ := hL2
  k_steps
  all_goals (
    rename News _ _ _ _ => Nf
    rename Fr _ _ _ _ => Ff
    exact ret _ _ _ _ _ _ _ _ (pool_ok _) (by assumption) Ff Nf)
local macro_rules | `(tactic| walk_at "call ref") => `(tactic| (
  (with_reducible show wpAny _ _ (call (Value.ref 384) [Value.ref _, Value.int _ _]) _ _ _)
  k_dflt (refine' pool_spec ⟨?s1, ?s2, ?s3, ?s4, ?s5, ?s6, ?s7⟩ ?k1 ?k2 ?k3 ?k4 ?k5 ?_)
  walk_at "own site"
  (case k3 => assumption)
  (case k4 => assumption)
  (case k5 => assumption)
  intro src' b' m' tb' tm' n' h' tk' ok' l1 F' N'; (try dsimp only); (try k_lt l1); walk_at "own end"))
local macro_rules | `(tactic| walk_at "call ref") => `(tactic| (
  (with_reducible show wpAny _ _ (call (Value.ref 433) [Value.ref _]) _ _ _)
  k_dflt (refine' props_spec ⟨?s1, ?s2, ?s3, ?s4, ?s5, ?s6, ?s7⟩ ?XB ?TB ?k1 ?k2 ?k3 ?k4 ?_)
  walk_at "own site"
  (case XB => k_asm)
  (case TB => k_asm)
  (case k3 => k_all)
  (case k4 => assumption)
  intro b' m' tb' tm' n' h' tk' ok' F' N'; (try dsimp only); walk_at "own end"))
local macro_rules | `(tactic| walk_at "call ref") => `(tactic| (
  (with_reducible show wpAny _ _ (call (Value.ref 440) [Value.ref _]) _ _ _)
  k_dflt (refine' units_spec ⟨?s1, ?s2, ?s3, ?s4, ?s5, ?s6, ?s7⟩ ?k1 ?k2 ?k3 ?k4 ?_)
  walk_at "own site"
  (case k3 => k_all)
  (case k4 => assumption)
  intro b' m' tb' tm' n' h' tk' ok' F' N'; (try dsimp only); walk_at "own end"))
local macro_rules | `(tactic| walk_at "call ref") => `(tactic| (
  (with_reducible show wpAny _ _ (call (Value.ref 445) [Value.ref _]) _ _ _)
  k_dflt (refine' bounded_spec ⟨?s1, ?s2, ?s3, ?s4, ?s5, ?s6, ?s7⟩ ?k1 ?k2 ?k3 ?k4 ?_)
  walk_at "own site"
  (case k3 => k_all)
  (case k4 => assumption)
  intro b' m' tb' tm' n' h' tk' ok' F' N'; (try dsimp only); walk_at "own end"))
local macro_rules | `(tactic| walk_at "call ref") => `(tactic| (
  (with_reducible show wpAny _ _ (call (Value.ref 450) [Value.ref _]) _ _ _)
  k_dflt (refine' handed_spec ⟨?s1, ?s2, ?s3, ?s4, ?s5, ?s6, ?s7⟩ ?k1 ?k2 ?k3 ?k4 ?_)
  walk_at "own site"
  (case k3 => k_all)
  (case k4 => assumption)
  intro b' m' tb' tm' n' h' tk' ok' F' N'; (try dsimp only); walk_at "own end"))

def lawJ (src : Addr) (i : Nat) (m₁ : Str → Option Value) (trk : List (Addr × Obj)) : Prop :=
  ∃ (b mm : Int) (tb tm : Tok) (n : Nat) (u : Str → Option Value), trk = [(src, srcObj b mm tb tm n)] ∧ SrcOk b mm ∧ m₁ = fun (y : Str) => if y = "source" then some (.ref src) else u y
theorem nil_all {P : Addr × Obj → Prop} : ∀ p ∈ ([] : List (Addr × Obj)), P p := fun p hp => nomatch hp
local macro_rules | `(tactic| k_all) => `(tactic| exact nil_all)
abbrev lawA : List (Str × Str) := [("fill", "blue"), ("style", "fill: red"), ("x", "1")]
abbrev lawS : List (Str × Str) := [("fill", "red")]
theorem law_told : toldS lawS lawA = lawS := by decide +kernel
theorem law_style : readS (Txt.split ((lookS lawA "style").getD "") ";") [] = some lawS := by decide +kernel
theorem law_len : ∀ n v, lookS lawA n = some v → v.length ≤ 1000 := by
  intro n v e
  have : ∀ p ∈ lawA, p.2.length ≤ 1000 := by decide +kernel
  unfold lookS at e
  cases hf : lawA.find? (fun p => p.1 = n) with
  | none => rw [hf] at e; cases e
  | some p => rw [hf] at e; cases e; exact this p (List.mem_of_find?_eq_some hf)
theorem law_lenS : ∀ n v, lookS lawS n = some v → v.length ≤ 1000 := by
  intro n v e
  have : ∀ p ∈ lawS, p.2.length ≤ 1000 := by decide +kernel
  unfold lookS at e
  cases hf : lawS.find? (fun p => p.1 = n) with
  | none => rw [hf] at e; cases e
  | some p => rw [hf] at e; cases e; exact this p (List.mem_of_find?_eq_some hf)
theorem News.subs3 {h₀ h : Heap} {L : Addr} {a b c : Addr × Obj} {nw : List (Addr × Obj)} (N : News h₀ L h nw) (h1 : a ∈ nw) (h2 : b ∈ nw) (h3 : c ∈ nw) : News h₀ L h [a, b, c] :=
  News.perm N fun p hp => by
    simp only [List.mem_cons, List.not_mem_nil, or_false] at hp
    rcases hp with h | h | h
    · exact h ▸ h1
    · exact h ▸ h2
    · exact h ▸ h3
theorem News.one {h₀ h : Heap} {L : Addr} {a : Addr × Obj} {r : List (Addr × Obj)} (N : News h₀ L h (a :: r)) : News h₀ L h ([a] ++ []) :=
  News.perm N fun p hp => by
    simp only [List.append_nil, List.mem_cons, List.not_mem_nil, or_false] at hp
    exact hp ▸ .head _
local macro_rules | `(tactic| k_qdec) => `(tactic| decide +kernel)
theorem lawHolds : PySem.Challenge.rw_on0242_01.Holds := by
  refine top_hd (by rfl) (by rfl) (by rfl) ?_ hd_w
  k_go0
  (all_goals try k_fold)
  k_steps
  rename World => w
  rename Shared => s1
  rename News _ _ _ _ => N1
  rename Fr _ _ _ _ => F1
  rename Below callerA _ _ _ => K0
  rename Obj.IsDictOf (PySem.strKind _ _) _ _ => hdA
  have hA : SD PySem.Challenge.rw_on0242_01.row.prog w _ lawA := ⟨_, hdA, sp_cons (sp_cons (sp_cons sp_nil))⟩
  show wpAny _ _ _ _ _ _
  refine' told_spec (DS := lawS) (DA := lawA) (news := []) ⟨?s1, ?s2, ?s3, ?s4, ?s5, ?s6, ?s7⟩ F1 ?k2 hA ?loA law_style ?hsl law_len law_lenS ?ret3
  case s1 => exact rfl
  case s2 => exact K0
  case s3 => exact rfl
  case s4 => decide
  case s5 => decide
  case s6 => k_asm
  case s7 => k_asm
  case k2 => exact News.subs3 N1 (by k_mem) (by k_mem) (by k_mem)
  case loA => assumption
  case hsl => decide +kernel
  case ret3 =>
    intro dF oF hF tkF hSF loF lF FF NF
    rw [law_told] at hSF
    (try dsimp only)
    (try k_lt lF)
    k_steps
    rename Obj.IsDictOf (PySem.strKind _ _) _ _ => hdB
    have hB : SD PySem.Challenge.rw_on0242_01.row.prog w _ lawS := ⟨_, hdB, sp_cons sp_nil⟩
    show wpAny _ _ _ _ _ _
    rename News _ _ _ _ => N2
    refine' ne_SD N2 ?pa ?pb hSF hB ?la ?lb ?hu ?_
    case pa => k_mem
    case pb => k_mem
    case la => assumption
    case lb => assumption
    case hu => exact Nat.le_of_ble_eq_true rfl
    k_steps
    all_goals (
      rename IsRange _ _ _ _ _ _ _ _ => R1
      rename News _ _ _ _ => N3
      rename Fr _ _ _ _ => F3
      show wpAny _ _ _ _ _ _
      refine iter_range (n := 2) (trk := [_]) (news := []) (lawJ _) rfl R1 (by decide) (by decide) F3 (News.one N3) ?off ⟨_, _, _, _, _, _, rfl, by assumption, map1 (by with_unfolding_all rfl)⟩ ?turn ?done
      case off => exact fun p hp => nomatch hp
      case turn =>
        rintro i t m₁ trk₁ h tk rest hsub hi ha ho ⟨b3, mm3, tb3, tm3, n3, u3, rfl, ok3, rfl⟩ F4 N4
        have ho1 := (off_one ho).1
        dsimp only at ho1
        simp only [List.cons_append, List.nil_append] at N4
        replace F4 : Fr _ s1.heap.objs.size _ _ := F4
        replace N4 : News _ s1.heap.objs.size _ _ := N4
        show wpAny _ _ _ _ _ _
        k_fold
        k_steps
        rename News _ _ _ _ => Nf
        rename Fr _ _ _ _ => Ff
        refine' turnEnd1 (a := _) (rest := rest) Ff Nf ⟨_, _, _, _, _, _, rfl, ?ok, map1 (by with_unfolding_all rfl)⟩ rfl
        case ok => assumption
      case done =>
        rintro m₁ trk₁ h tk ha ⟨b3, mm3, tb3, tm3, n3, u3, rfl, ok3, rfl⟩ F4 N4
        simp only [List.cons_append, List.nil_append] at N4
        replace F4 : Fr _ s1.heap.objs.size _ _ := F4
        replace N4 : News _ s1.heap.objs.size _ _ := N4
        show wpAny _ _ _ _ _ _
        k_steps)
end Mine
set_option maxRecDepth 100000 in
set_option maxHeartbeats 0 in
theorem PySem.Challenge.cw_on0242_01_holds : PySem.Challenge.rw_on0242_01.Holds :=
  Mine.lawHolds
