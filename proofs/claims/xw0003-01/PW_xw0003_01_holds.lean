import PyProof.Rows.All
import Wide.All
import OpenK.AllK
import Wide.FinOn
import PySem.Challenge.RW_xw0003_01
open PySem PySem.W PyProof.Rows PySem.Calls PySem.Spec
set_option Elab.async false
namespace Mine
/-- the top's run, the heap kept as a tree; st: a step, ok: the steps that are let by -/
noncomputable def treeRun (st : SharedT → Thread → Option (SharedT × Thread)) (ok : Thread → Bool) : Nat → SharedT → Thread → Option SharedT
  | 0, _, _ => none
  | n + 1, s, t => match through t with
    | true => some s
    | false => match ok t with
      | false => none
      | true => match st s t with
        | some (s', t') => treeRun st ok n s' t'
        | none => none
theorem topRun_of {tb : String → Option Builtin} {p : Program} {w : World} {n₀ : Nat} {ann : Option Value} : ∀ {n : Nat} {s s' : SharedT} {t : Thread}, treeRun (stepT (denote tb) p w) (stepOk n₀ ann) n s t = some s' → topRun tb p w n₀ ann n s.abs t = some s'.abs
  | 0, _, _, _, h => by cases h
  | n + 1, s, s', t, h => by
    unfold treeRun at h
    unfold topRun
    cases ht : through t with
    | true => rw [ht] at h; cases h; rfl
    | false =>
      rw [ht] at h
      cases hk : stepOk n₀ ann t with
      | false => rw [hk] at h; cases h
      | true =>
        rw [hk] at h
        cases hs : stepT (denote tb) p w s t with
        | none => rw [hs] at h; cases h
        | some r => obtain ⟨s₂, t₂⟩ := r; rw [hs] at h; dsimp only at h ⊢; rw [stepT_spec hs]; exact topRun_of h

/-- a list as a tree -/
noncomputable def treeOf : Nat → Array Obj → Nat → Nat → BT
  | 0, _, _, _ => .nil
  | f + 1, os, a, b => match os[b]? with
    | some o => .node o (treeOf f os (2 * a) (a + b)) (treeOf f os (2 * a) (2 * a + b))
    | none => .nil
noncomputable def bootTree (P : Params) : BT := treeOf 12 (boot_heap P).objs 1 0
set_option maxRecDepth 100000 in
theorem boot_tree (P : Params) : boot_heap P = absHeap (bootTree P) 11 {} := by kernel_rfl
set_option maxRecDepth 100000 in
theorem boot_size (P : Params) : ((boot_heap P).isNs mainGlobals, (boot_heap P).objs.size, (boot_heap P).nsMap mainGlobals "__annotations__") = (true, 11, some (.ref 6)) := by kernel_rfl
/-- the state at the boot's end -/
noncomputable def bootT (w : World) (os : OsState) : SharedT := ⟨bootTree w.params, 11, {}, Array.mk [], boot_drawn, boot_toks, os⟩
/-- a step, by the library's twins -/
noncomputable def stepQ (p : Program) (w : World) : SharedT → Thread → Option (SharedT × Thread) := PySem.W.Fast.tw10156331382660048174 (PySem.W.Fast.tw11892475500146522536 PySem.W.Fast.tw14364793385576792824) p w
theorem stepQ_is (p : Program) (w : World) : stepT (denote treeTable) p w = stepQ p w := by
  rw [PySem.W.Fast.te10156331382660048174, PySem.W.Fast.te11892475500146522536, PySem.W.Fast.te14364793385576792824]; rfl
noncomputable def okQ : Thread → Bool := PySem.W.Fast.tw6613529449190102663 11 (some (.ref 6))
theorem okQ_is : stepOk 11 (some (.ref 6)) = okQ := by
  rw [PySem.W.Fast.te6613529449190102663]; rfl

/-- the looks behind the top, in three parts -/
noncomputable def seeS (q : Program) (s : Shared) : Seen := seen ((recsOf q).map (·.name)) (ownsOf q) [] { s with gens := #[] }
noncomputable def seeA (q : Program) (loose mods : List Str) (Xt : Shared → Bool) (g0 : Bool) (s : Shared) :=
  (s.heap.bltView,
   s.heap.keysOk (looseW q loose) ((recsOf q).map (·.name)) ((litsOf q).map (·.1)) ((clssOf q (looseW q loose)).map (·.name)) && s.heap.accountedOkI mods && s.heap.isNs mainGlobals && s.heap.isNs builtinsNs && tablesOk q s.heap && Xt s && (if g0 then s.gens.size == 0 else !leftWithCleanup s.gens),
   tabsOk q s)
noncomputable def seeB (q : Program) (loose : List Str) (s : Shared) := (pinSeenD q (drecsOf q) s, plainSeenE q (looseW q loose) s, plainSeenD q loose s, wideSeen q s, clsSeenW q loose s)
/-- the same, by the library's twins -/
noncomputable def seeSQ (q : Program) (s : Shared) : Seen := PySem.W.Fast.tw5160383126252970620 ((PySem.W.Fast.tw3399658132070893891 q).map (·.name)) (PySem.W.Fast.tw5991557255702980513 q) [] { s with gens := #[] }
noncomputable def seeAQ (q : Program) (loose mods : List Str) (Xt : Shared → Bool) (g0 : Bool) (s : Shared) :=
  (s.heap.bltView,
   PySem.W.Fast.tw10880121769531294198 s.heap (PySem.W.Fast.tw821141287760084731 q loose) ((PySem.W.Fast.tw3399658132070893891 q).map (·.name)) ((PySem.W.Fast.tw7409074990110511671 q).map (·.1)) ((PySem.W.Fast.tw13664370479719496447 q (PySem.W.Fast.tw821141287760084731 q loose)).map (·.name)) && PySem.W.Fast.tw14722251495701143533 s.heap mods && s.heap.isNs mainGlobals && s.heap.isNs builtinsNs && PySem.W.Fast.tw10994771534591457954 q s.heap && Xt s && (if g0 then s.gens.size == 0 else !leftWithCleanup s.gens),
   PySem.W.Fast.tw479339242167458305 q s)
noncomputable def seeBQ (q : Program) (loose : List Str) (s : Shared) :=
  (PySem.W.Fast.tw16090120013241838585 q (PySem.W.Fast.tw3247288618530077131 q) s, PySem.W.Fast.tw2386780881361962483 q (PySem.W.Fast.tw821141287760084731 q loose) s, PySem.W.Fast.tw11698064438423848299 q loose s, PySem.W.Fast.tw7317090234206586261 q s, PySem.W.Fast.tw7369524293546568484 q loose s)
theorem seeS_is : seeS = seeSQ := by
  unfold seeS seeSQ
  rw [PySem.W.Fast.te5160383126252970620, PySem.W.Fast.te3399658132070893891, PySem.W.Fast.te5991557255702980513]
theorem seeA_is : seeA = seeAQ := by
  unfold seeA seeAQ
  rw [PySem.W.Fast.te3399658132070893891, PySem.W.Fast.te10880121769531294198, PySem.W.Fast.te821141287760084731, PySem.W.Fast.te7409074990110511671, PySem.W.Fast.te13664370479719496447, PySem.W.Fast.te14722251495701143533, PySem.W.Fast.te10994771534591457954, PySem.W.Fast.te479339242167458305]
theorem seeB_is : seeB = seeBQ := by
  unfold seeB seeBQ
  rw [PySem.W.Fast.te16090120013241838585, PySem.W.Fast.te3247288618530077131, PySem.W.Fast.te2386780881361962483, PySem.W.Fast.te821141287760084731, PySem.W.Fast.te11698064438423848299, PySem.W.Fast.te7317090234206586261, PySem.W.Fast.te7369524293546568484]
noncomputable def goodA := (bltViewBooted, true, true)
noncomputable def goodB (q : Program) (loose : List Str) := (pinGoodD (drecsOf q), plainGoodE q (looseW q loose), plainGoodD q loose, wideGood q, clsGoodW q loose)

theorem left_by_tree {p q : Program} {loose : List Str} {Xt : Shared → Bool} {α : Type} {Yf : Shared → α} {Ya : World → α} {N : Nat} {g0 : Bool} (M : Nat)
    (e : opening p = plainProg p.main.scope.names) (hN : Nat.ble 600 N = true) (f : ∀ s, fenceModules? p s = some s)
    (le : Nat.ble M N = true)
    (runA : ∀ (w : World) (os : OsState), (treeRun (stepQ p w) okQ M (bootT w os) (topStub p)).map (fun s =>
        ((staticsOk (importedModules p.main.body) (boot_heap w.params) s.abs.heap && namesBound p s.abs.heap && gensDone s.abs && laidKept (boot_heap w.params) s.abs.heap), seeAQ q loose (importedModules p.main.body) Xt g0 s.abs)) = some (true, goodA))
    (runS : ∀ (w : World) (os : OsState), (treeRun (stepQ p w) okQ M (bootT w os) (topStub p)).map (fun s => seeSQ q s.abs) = some (expectedOf q))
    (runB : ∀ (w : World) (os : OsState), (treeRun (stepQ p w) okQ M (bootT w os) (topStub p)).map (fun s => seeBQ q loose s.abs) = some (goodB q loose))
    (runY : ∀ (w : World) (os : OsState), (treeRun (stepQ p w) okQ M (bootT w os) (topStub p)).map (fun s => Yf s.abs) = some (Ya w)) : LeftO p q loose Xt Yf Ya N g0 := fun w => by
  obtain ⟨⟨h, gs, d, k, os⟩, e1, e2⟩ := Option.map_eq_some_iff.mp (boot_open e hN f w)
  obtain ⟨rfl, rfl, rfl, rfl⟩ : h = boot_heap w.params ∧ gs = Array.mk [] ∧ d = boot_drawn ∧ k = boot_toks := by simpa using e2
  obtain ⟨z1, z2, z3⟩ : _ ∧ _ ∧ _ := by simpa only [Prod.mk.injEq] using boot_size w.params
  have rA := runA w os
  have rB := runB w os
  have rY := runY w os
  have rS := runS w os
  rw [← seeA_is] at rA
  rw [← seeS_is] at rS
  rw [← seeB_is] at rB
  rw [← stepQ_is, ← okQ_is] at rA rS rB rY
  obtain ⟨s', r1, r2⟩ := Option.map_eq_some_iff.mp rA
  rw [r1] at rS rB rY
  have rS := Option.some.inj rS
  have rB := Option.some.inj rB
  have rY := Option.some.inj rY
  obtain ⟨l1, l2⟩ := Prod.mk.inj r2
  have r := topRun_of r1
  have r := topRun_mono (N - M) _ _ _ _ r
  rw [show M + (N - M) = N by have := Nat.le_of_ble_eq_true le; omega] at r
  have hs0 : (bootT w os).abs = ⟨boot_heap w.params, Array.mk [], boot_drawn, boot_toks, os⟩ := by
    show Shared.mk (absHeap (bootTree w.params) 11 {}) _ _ _ _ = _
    rw [← boot_tree]; rfl
  rw [hs0] at r
  have t : topFrom treeTable p w N ⟨boot_heap w.params, Array.mk [], boot_drawn, boot_toks, os⟩ = some s'.abs := by
    unfold topFrom
    dsimp only
    rw [z1, z2, z3, r]
    show (match staticsOk (importedModules p.main.body) (boot_heap w.params) s'.abs.heap && namesBound p s'.abs.heap && gensDone s'.abs && laidKept (boot_heap w.params) s'.abs.heap with | true => _ | false => _) = _
    rw [l1]
  have hA : openSeen q loose (importedModules p.main.body) Xt g0 s'.abs = openGood q loose := by
    unfold seeA goodA at l2
    unfold seeB goodB at rB
    unfold seeS at rS
    simp only [Prod.mk.injEq] at l2 rB
    unfold openSeen openGood
    simp only [Prod.mk.injEq]
    exact ⟨rS, l2.1, l2.2.1, l2.2.2, rB⟩
  unfold openEnds
  rw [e1]
  show (topFrom treeTable p w N _).map _ = _
  rw [t]
  exact congrArg some (Prod.ext hA rY)
theorem said : PySem.Challenge.rw_xw0003_01.wellSaid = true := by
  rw [PySem.W.Fast.te9446332074065402090]
  kernel_rfl
set_option maxRecDepth 100000 in
set_option maxHeartbeats 8000000 in
/-- the head: the top's statement, the walk's statement, and that the two are enough. The hole hl is made ahead, so that the head leaves it -/
noncomputable def hd : (A : Prop) ×' (T : Prop) ×' (A → T → PySem.Challenge.rw_xw0003_01.Holds) := by
  refine' ⟨_, _, fun left walk => ?g⟩
  case g =>
    refine' (fun (_ : _ ∧ _) => ?g2) ⟨?hl, ?hc⟩
    rotate_right
    (case g2 => w_on; refine holds_law said fun said => ?_; k_head; (case hw => w_witness2))
    exact walk
    exact left
/-- the law's text -/
abbrev txt : Program := PySem.Challenge.rw_xw0003_01.row.toRowW.prog
noncomputable abbrev topT (w : World) (os : OsState) : Option SharedT := treeRun (stepQ txt w) okQ 2200 (bootT w os) (topStub txt)
theorem run_a (w : World) (os : OsState) : (topT w os).map (fun s =>
    ((staticsOk (importedModules txt.main.body) (boot_heap w.params) s.abs.heap && namesBound txt s.abs.heap && gensDone s.abs && laidKept (boot_heap w.params) s.abs.heap),
      seeAQ hd.view_1 [] (importedModules txt.main.body) (fun s => xlAt hd.view_1 [] s && recOk PySem.Challenge.rw_xw0003_01.row.toRowW.records s) true s.abs)) = some (true, goodA) := by kernel_rfl
theorem run_s (w : World) (os : OsState) : (topT w os).map (fun s => seeSQ hd.view_1 s.abs) = some (expectedOf hd.view_1) := by kernel_rfl
theorem run_b (w : World) (os : OsState) : (topT w os).map (fun s => seeBQ hd.view_1 [] s.abs) = some (goodB hd.view_1 []) := by kernel_rfl
theorem run_y (w : World) (os : OsState) : (topT w os).map (fun s => ((hd.heap_1 w.params).map (·.1)).map s.abs.heap.get?) = some ((hd.heap_1 w.params).map fun p => some p.2) := by kernel_rfl
theorem op_a : opening txt = plainProg txt.main.scope.names := by kernel_rfl
theorem op_b (s : Shared) : fenceModules? txt s = some s := by kernel_rfl
set_option maxRecDepth 100000 in
theorem left : hd.1 := left_by_tree 2200 op_a (by decide +kernel) op_b (by decide +kernel) run_a run_s run_b run_y
theorem hd_use (walk : hd.2.1) : PySem.Challenge.rw_xw0003_01.Holds := hd.2.2 left walk
theorem names_ok : namesOk hd.view_1 (looseW hd.view_1 []) (namesW hd.view_1 []) = true := by
  rw [PySem.W.Fast.te17448422675489707002]
  kernel_rfl
theorem imports_none : importsNone hd.view_1 = true := by kernel_rfl
/-- what a call of a pure def hands on: its value, the frame and the ledger as they stood, and all that stood in the heap stands -/
abbrev TRet (h₀ : Heap) (L : Addr) (m : Str → Option Value) (news : List (Addr × Obj)) (s : Shared) (Q : Value → Shared → Prop) (R : Tok → Value) : Prop :=
  ∀ (t : Tok) (h' : Heap) (tk' : Nat), Fr h₀ L h' m → News h₀ L h' news → InElt s.heap h' → Q (R t) { s with heap := h', toks := tk' }

/-- what a call of the def at f, with these values, comes to, in whatever frame it stands; mem: what the ledger must bear -/
def Tel (w : World) (f : Addr) (dn un0 : Nat) (mem : List (Addr × Obj) → Prop) (vs : List Value) (R : Tok → Value) : Prop :=
  ∀ (loose : List Str) (mean : ExcName → Option Value) (mg mb : Str → Option Value) (dp un : Nat) (gd : Option (List Code)) (cn : Str) (cs : Scope) (a : Addr) (ccd : Value) (cl : List (Str × Addr)) (outer : List Env) (A₀ : Around) (base h₀ : Heap) (L : Addr) (m : Str → Option Value) (news : List (Addr × Obj)) (s : Shared) (Q E : Value → Shared → Prop),
    Below A₀ base outer h₀ → Fr h₀ L s.heap m → (hd.heap_1 w.params).In h₀ → News h₀ L s.heap news → Top hd.view_1 loose mean mg mb h₀ → cs.kind = .function → mem news →
    dp + dn < recursionLimit → un + un0 < cLine → TRet h₀ L m news s Q R →
      wpAny (model PySem.Challenge.rw_xw0003_01.row.prog w) (ktrTop dp un gd cn cs L a ccd cl outer) (call (.ref f) vs) Q E s

theorem Tel.use {w : World} {f : Addr} {dn un0 : Nat} {mem : List (Addr × Obj) → Prop} {vs : List Value} {R : Tok → Value} (C : Tel w f dn un0 mem vs R)
    {loose : List Str} {mean : ExcName → Option Value} {mg mb : Str → Option Value} {dp un : Nat} {gd : Option (List Code)} {cn : Str} {cs : Scope} {a : Addr} {ccd : Value} {cl : List (Str × Addr)} {outer : List Env} {A₀ : Around} {base h₀ : Heap} {L : Addr} {m : Str → Option Value} {news : List (Addr × Obj)} {s : Shared} {Q E : Value → Shared → Prop}
    (B : Below A₀ base outer h₀) (F : Fr h₀ L s.heap m) (X : (hd.heap_1 w.params).In h₀) (N : News h₀ L s.heap news) (T : Top hd.view_1 loose mean mg mb h₀) (hk : cs.kind = .function) (hm : mem news)
    (hd : dp + dn < recursionLimit) (hu : un + un0 < cLine) (ret : TRet h₀ L m news s Q R) :
      wpAny (model PySem.Challenge.rw_xw0003_01.row.prog w) (ktrTop dp un gd cn cs L a ccd cl outer) (call (.ref f) vs) Q E s :=
  C _ _ _ _ _ _ _ _ _ _ _ _ _ _ _ _ _ _ _ _ _ _ B F X N T hk hm hd hu ret
theorem tel_ret {h₀ h' : Heap} {L : Addr} {m : Str → Option Value} {news : List (Addr × Obj)} {s : Shared} {Q : Value → Shared → Prop} {t : Tok} {tk' : Nat} {x y : Int}
    (hret : TRet h₀ L m news s Q (fun k => .int x k)) (e : y = x) (F : Fr h₀ L h' m) (N : News h₀ L h' news) (K : InElt s.heap h') : Q (.int y t) { s with heap := h', toks := tk' } := by
  subst e
  exact hret t h' tk' F N K
theorem elt_trans {a b c : Heap} (h : InElt a b) (k : InElt b c) : InElt a c := fun x o e => k x o (h x o e)

/-- the type's object, in the ledger -/
structure HasT (news : List (Addr × Obj)) (t : Addr) : Prop where
  has : ∃ dx es n k1 k2 k3, (t, instObj 301 dx) ∈ news ∧ (dx, dictOf es n) ∈ news ∧ getL "kind" es = some (some (.str "int" k1)) ∧ getL "low" es = some (some (.int (-32768) k2)) ∧ getL "high" es = some (some (.int 32767 k3))
theorem HasT.cons {p : Addr × Obj} {news : List (Addr × Obj)} {t : Addr} (h : HasT news t) : HasT (p :: news) t := by
  obtain ⟨dx, es, n, k1, k2, k3, a, b, c⟩ := h.has
  exact ⟨dx, es, n, k1, k2, k3, .tail _ a, .tail _ b, c⟩
theorem HasT.sub {news news' : List (Addr × Obj)} {t : Addr} (h : HasT news t) (hs : ∀ p ∈ news, p ∈ news') : HasT news' t := by
  obtain ⟨dx, es, n, k1, k2, k3, a, b, c⟩ := h.has
  exact ⟨dx, es, n, k1, k2, k3, hs _ a, hs _ b, c⟩
theorem cut_pos {x y : Int} (h : (decide (x < 0) != decide (y < 0)) = true) : -(if x < 0 then -x else x).fdiv (if y < 0 then -y else y) = x.tdiv y := by
  by_cases hx : x < 0 <;> by_cases hyn : y < 0
  · simp [hx, hyn] at h
  · rw [if_pos hx, if_neg hyn, Int.fdiv_eq_tdiv_of_nonneg (by omega) (by omega), Int.neg_tdiv, Int.neg_neg]
  · rw [if_neg hx, if_pos hyn, Int.fdiv_eq_tdiv_of_nonneg (by omega) (by omega), Int.tdiv_neg, Int.neg_neg]
  · simp [hx, hyn] at h
theorem cut_neg {x y : Int} (h : (decide (x < 0) != decide (y < 0)) = false) : (if x < 0 then -x else x).fdiv (if y < 0 then -y else y) = x.tdiv y := by
  by_cases hx : x < 0 <;> by_cases hyn : y < 0
  · rw [if_pos hx, if_pos hyn, Int.fdiv_eq_tdiv_of_nonneg (by omega) (by omega), Int.tdiv_neg, Int.neg_tdiv, Int.neg_neg]
  · simp [hx, hyn] at h
  · simp [hx, hyn] at h
  · rw [if_neg hx, if_neg hyn, Int.fdiv_eq_tdiv_of_nonneg (by omega) (by omega)]
theorem rem_is (x y : Int) : x - x.tdiv y * y = x.tmod y := by rw [Int.tmod_def, Int.mul_comm]
theorem mod_is (x y : Int) : x - x.fdiv y * y = x.fmod y := by rw [Int.fmod_def, Int.mul_comm]
theorem abs_is (x : Int) : (if x < 0 then -x else x) = (x.natAbs : Int) := by split <;> omega
local macro_rules | `(tactic| walk_at "getAttr ref") => `(tactic| (k_here; k_dflt (refine' get_own ?k1 ?k2 ?k3 ?k4 ?k5 ?k6 ?k7 (by assumption) ?k9 ?_; (case k1 => k_asm); (case k2 => k_asm); (case k3 => k_inst); (case k4 => k_is); (case k5 => k_is); (case k6 => k_is); (case k7 => k_is);  (case k9 => k_handed); k_whole)))
local macro_rules | `(tactic| walk_at "call ref") => `(tactic| (k_here; (refine wpAny_call ?_); k_dflt (refine' code_def ?k1 ?k2 ?k3 ?k4 ?k5 ?kA ?kF ?kK ?k6 ?k7 ?k8 ?k9 ?kB ?_ ?c2 ?c3 ?c4 ?c5; (case kA => exact rfl); (case kF => exact rfl); (case kK => first | exact rfl | assumption); (case k1 => k_asm); (case k2 => k_asm); (case k3 => k_asm); (case k4 => k_asm); (case k5 => k_asm); (case k6 => k_is); (case k7 => k_is); (case k8 => ktr_room); (case k9 => exact BindsTo.of_eq rfl); (case c5 => decide); (case kB => exact locs rfl); (case c2 => exact rfl); (case c3 => exact rfl); (case c4 => exact rfl); k_whole; intro g' L' h' FG' F' N' B' X' T'; (try dsimp only); (try k_lift B'); (try k_fold))))
local macro_rules | `(tactic| walk_at "ite") => `(tactic| (k_here; first
  | (refine ite_neg (fun h9 => absurd (eq_of_beq h9) (by with_reducible assumption)) ?_)
  | (refine ite_pos (beq_iff_eq.mpr (by with_reducible assumption)) ?_)
  | (refine ite_neg (fun h9 => absurd (of_decide_eq_true h9) (by with_reducible assumption)) ?_)
  | (refine ite_pos (decide_eq_true (by with_reducible assumption)) ?_)
  | (refine ite_neg (fun h9 => absurd (by with_reducible assumption) (bne_iff_ne.mp h9)) ?_)
  | (refine ite_pos (bne_iff_ne.mpr (by with_reducible assumption)) ?_)))
set_option maxRecDepth 100000 in
set_option maxHeartbeats 8000000 in
theorem check_base (w : World) (t : Addr) (v : Int) (tv : Tok) (h1 : -32768 ≤ v) (h2 : v ≤ 32767) : Tel w 74 2 16 (HasT · t) [.ref t, .int v tv] (fun k => .int v k) := by
  unfold Tel
  k_fill
  w_on
  intro loose mean mg mb dp un gd cn cs a ccd cl outer A₀ base h₀ L m news s Q E B F X N T hk hmem hd hu hret
  obtain ⟨dx, es, n, k1, k2, k3, hm1, hm2, hg1, hg2, hg3⟩ := HasT.has hmem
  have cE0 := InElt.start s.heap
  refine wpAny_call ?_
  k_dflt (refine' code_defG ?k1 ?k2 ?k3 ?k4 ?k5 ?kA ?kF ?kK ?k6 ?k7 ?k8 ?k9 ?kB ?_ ?c2 ?c3 ?c4 ?c5; (case kA => exact rfl); (case kF => exact rfl); (case kK => assumption); (case k1 => k_asm); (case k2 => k_asm); (case k3 => k_asm); (case k4 => k_asm); (case k5 => k_asm); (case k6 => k_is); (case k7 => k_is); (case k8 => ktr_room); (case k9 => exact BindsTo.of_eq rfl); (case c5 => decide); (case kB => exact locs rfl); (case c2 => exact rfl); (case c3 => exact rfl); (case c4 => exact rfl); k_whole; intro g' L' h' FG' F' N' B' X' T' kG'; (try dsimp only); (try k_lift B'); (try k_fold))
  k_steps
  all_goals (refine' tel_ret hret ?e1 ?e2 ?e3 ?e4; (case e1 => rfl); (case e2 => k_asm); (case e3 => first | k_asm | (refine' cb_drop ?cbN ?cbS; (case cbN => assumption); (case cbS => kcj_all))); (case e4 => assumption))
local macro_rules | `(tactic| walk_at "call ref") => `(tactic| (k_here; (with_reducible show wpAny _ _ (call (Value.ref 74) [Value.ref _, Value.int _ _]) _ _ _); k_dflt (refine' Tel.use (check_base _ _ _ _ ?p0 ?p1) ?k1 ?k2 ?k3 ?k4 ?k5 ?k6 ?k7 ?k8 ?k9 ?_; (case k1 => k_asm); (case k2 => k_asm); (case k3 => k_asm); (case k4 => k_asm); (case k5 => k_asm); (case k6 => first | exact rfl | assumption); (case k7 => first | ((repeat (first | assumption | refine HasT.cons ?_)); done) | ktn_open); (case k8 => ktr_room); (case k9 => ktr_units); (case p0 => first | assumption | omega | ktr_rel); (case p1 => first | assumption | omega | ktr_rel);); (intro t9 h9 tk9 F9 N9 E9); (first | (have cE9 := elt_trans (by assumption) E9; clear E9) | clear E9); (try dsimp only); (try k_fold)))
set_option maxRecDepth 100000 in
set_option maxHeartbeats 8000000 in
theorem cut_zero (w : World) (x y : Int) (tx ty : Tok) (h3 : -32768 ≤ y) (h4 : y ≤ 32767) (h5 : y ≠ 0) : Tel w 81 2 16 (fun _ => True) [.int x tx, .int y ty] (fun k => .int (x.tdiv y) k) := by
  unfold Tel
  k_fill
  w_on
  intro loose mean mg mb dp un gd cn cs a ccd cl outer A₀ base h₀ L m news s Q E B F X N T hk hmem hd hu hret
  have cE0 := InElt.start s.heap
  refine wpAny_call ?_
  k_dflt (refine' code_defG ?k1 ?k2 ?k3 ?k4 ?k5 ?kA ?kF ?kK ?k6 ?k7 ?k8 ?k9 ?kB ?_ ?c2 ?c3 ?c4 ?c5; (case kA => exact rfl); (case kF => exact rfl); (case kK => assumption); (case k1 => k_asm); (case k2 => k_asm); (case k3 => k_asm); (case k4 => k_asm); (case k5 => k_asm); (case k6 => k_is); (case k7 => k_is); (case k8 => ktr_room); (case k9 => exact BindsTo.of_eq rfl); (case c5 => decide); (case kB => exact locs rfl); (case c2 => exact rfl); (case c3 => exact rfl); (case c4 => exact rfl); k_whole; intro g' L' h' FG' F' N' B' X' T' kG'; (try dsimp only); (try k_lift B'); (try k_fold))
  k_steps
  all_goals (refine' tel_ret hret ?e1 ?e2 ?e3 ?e4; (case e1 => first | exact cut_pos (by assumption) | exact cut_neg (by assumption)); (case e2 => k_asm); (case e3 => first | k_asm | (refine' cb_drop ?cbN ?cbS; (case cbN => assumption); (case cbS => kcj_all))); (case e4 => assumption))
local macro_rules | `(tactic| walk_at "call ref") => `(tactic| (k_here; (with_reducible show wpAny _ _ (call (Value.ref 81) [Value.int _ _, Value.int _ _]) _ _ _); k_dflt (refine' Tel.use (cut_zero _ _ _ _ _ ?p0 ?p1 ?p2) ?k1 ?k2 ?k3 ?k4 ?k5 ?k6 ?k7 ?k8 ?k9 ?_; (case k1 => k_asm); (case k2 => k_asm); (case k3 => k_asm); (case k4 => k_asm); (case k5 => k_asm); (case k6 => first | exact rfl | assumption); (case k7 => trivial); (case k8 => ktr_room); (case k9 => ktr_units); (case p0 => first | assumption | omega | ktr_rel); (case p1 => first | assumption | omega | ktr_rel); (case p2 => first | assumption | omega | ktr_rel);); (intro t9 h9 tk9 F9 N9 E9); (first | (have cE9 := elt_trans (by assumption) E9; clear E9) | clear E9); (try dsimp only); (try k_fold)))
set_option maxRecDepth 100000 in
set_option maxHeartbeats 8000000 in
theorem need_div (w : World) (y : Int) (ty : Tok) (hy0 : y ≠ 0) : Tel w 109 2 16 (fun _ => True) [.int y ty] (fun k => have _ := k; .none) := by
  unfold Tel
  k_fill
  w_on
  intro loose mean mg mb dp un gd cn cs a ccd cl outer A₀ base h₀ L m news s Q E B F X N T hk hmem hd hu hret
  have cE0 := InElt.start s.heap
  refine wpAny_call ?_
  k_dflt (refine' code_defG ?k1 ?k2 ?k3 ?k4 ?k5 ?kA ?kF ?kK ?k6 ?k7 ?k8 ?k9 ?kB ?_ ?c2 ?c3 ?c4 ?c5; (case kA => exact rfl); (case kF => exact rfl); (case kK => assumption); (case k1 => k_asm); (case k2 => k_asm); (case k3 => k_asm); (case k4 => k_asm); (case k5 => k_asm); (case k6 => k_is); (case k7 => k_is); (case k8 => ktr_room); (case k9 => exact BindsTo.of_eq rfl); (case c5 => decide); (case kB => exact locs rfl); (case c2 => exact rfl); (case c3 => exact rfl); (case c4 => exact rfl); k_whole; intro g' L' h' FG' F' N' B' X' T' kG'; (try dsimp only); (try k_lift B'); (try k_fold))
  k_steps
  exact hret 0 _ _ (by k_asm) (by k_asm) (by assumption)
local macro_rules | `(tactic| walk_at "call ref") => `(tactic| (k_here; (with_reducible show wpAny _ _ (call (Value.ref 109) [Value.int _ _]) _ _ _); k_dflt (refine' Tel.use (need_div _ _ _ ?p0) ?k1 ?k2 ?k3 ?k4 ?k5 ?k6 ?k7 ?k8 ?k9 ?_; (case k1 => k_asm); (case k2 => k_asm); (case k3 => k_asm); (case k4 => k_asm); (case k5 => k_asm); (case k6 => first | exact rfl | assumption); (case k7 => trivial); (case k8 => ktr_room); (case k9 => ktr_units); (case p0 => first | assumption | omega | ktr_rel);); (intro t9 h9 tk9 F9 N9 E9); (first | (have cE9 := elt_trans (by assumption) E9; clear E9) | clear E9); (try dsimp only); (try k_fold)))
set_option maxRecDepth 100000 in
set_option maxHeartbeats 8000000 in
theorem by_add (w : World) (t : Addr) (x y : Int) (ts tx ty : Tok) (h1 : -32768 ≤ x + y) (h2 : x + y ≤ 32767) : Tel w 340 6 64 (HasT · t) [.ref t, .str "+" ts, .int x tx, .int y ty] (fun k => .int (x + y) k) := by
  unfold Tel
  k_fill
  w_on
  intro loose mean mg mb dp un gd cn cs a ccd cl outer A₀ base h₀ L m news s Q E B F X N T hk hmem hd hu hret
  obtain ⟨dx, es, n, k1, k2, k3, hm1, hm2, hg1, hg2, hg3⟩ := HasT.has hmem
  have cE0 := InElt.start s.heap
  refine wpAny_call ?_
  k_dflt (refine' code_defG ?k1 ?k2 ?k3 ?k4 ?k5 ?kA ?kF ?kK ?k6 ?k7 ?k8 ?k9 ?kB ?_ ?c2 ?c3 ?c4 ?c5; (case kA => exact rfl); (case kF => exact rfl); (case kK => assumption); (case k1 => k_asm); (case k2 => k_asm); (case k3 => k_asm); (case k4 => k_asm); (case k5 => k_asm); (case k6 => k_is); (case k7 => k_is); (case k8 => ktr_room); (case k9 => exact BindsTo.of_eq rfl); (case c5 => decide); (case kB => exact locs rfl); (case c2 => exact rfl); (case c3 => exact rfl); (case c4 => exact rfl); k_whole; intro g' L' h' FG' F' N' B' X' T' kG'; (try dsimp only); (try k_lift B'); (try k_fold))
  k_steps
  all_goals (refine' tel_ret hret ?e1 ?e2 ?e3 ?e4; (case e1 => rfl); (case e2 => k_asm); (case e3 => first | k_asm | (refine' cb_drop ?cbN ?cbS; (case cbN => assumption); (case cbS => kcj_all))); (case e4 => assumption))
set_option maxRecDepth 100000 in
set_option maxHeartbeats 8000000 in
theorem by_sub (w : World) (t : Addr) (x y : Int) (ts tx ty : Tok) (h1 : -32768 ≤ x - y) (h2 : x - y ≤ 32767) : Tel w 340 6 64 (HasT · t) [.ref t, .str "-" ts, .int x tx, .int y ty] (fun k => .int (x - y) k) := by
  unfold Tel
  k_fill
  w_on
  intro loose mean mg mb dp un gd cn cs a ccd cl outer A₀ base h₀ L m news s Q E B F X N T hk hmem hd hu hret
  obtain ⟨dx, es, n, k1, k2, k3, hm1, hm2, hg1, hg2, hg3⟩ := HasT.has hmem
  have cE0 := InElt.start s.heap
  refine wpAny_call ?_
  k_dflt (refine' code_defG ?k1 ?k2 ?k3 ?k4 ?k5 ?kA ?kF ?kK ?k6 ?k7 ?k8 ?k9 ?kB ?_ ?c2 ?c3 ?c4 ?c5; (case kA => exact rfl); (case kF => exact rfl); (case kK => assumption); (case k1 => k_asm); (case k2 => k_asm); (case k3 => k_asm); (case k4 => k_asm); (case k5 => k_asm); (case k6 => k_is); (case k7 => k_is); (case k8 => ktr_room); (case k9 => exact BindsTo.of_eq rfl); (case c5 => decide); (case kB => exact locs rfl); (case c2 => exact rfl); (case c3 => exact rfl); (case c4 => exact rfl); k_whole; intro g' L' h' FG' F' N' B' X' T' kG'; (try dsimp only); (try k_lift B'); (try k_fold))
  k_steps
  all_goals (refine' tel_ret hret ?e1 ?e2 ?e3 ?e4; (case e1 => rfl); (case e2 => k_asm); (case e3 => first | k_asm | (refine' cb_drop ?cbN ?cbS; (case cbN => assumption); (case cbS => kcj_all))); (case e4 => assumption))
set_option maxRecDepth 100000 in
set_option maxHeartbeats 8000000 in
theorem by_mul (w : World) (t : Addr) (x y : Int) (ts tx ty : Tok) (h1 : -32768 ≤ x * y) (h2 : x * y ≤ 32767) (hy1 : -32768 ≤ y) (hy2 : y ≤ 32767) : Tel w 340 6 64 (HasT · t) [.ref t, .str "*" ts, .int x tx, .int y ty] (fun k => .int (x * y) k) := by
  unfold Tel
  k_fill
  w_on
  intro loose mean mg mb dp un gd cn cs a ccd cl outer A₀ base h₀ L m news s Q E B F X N T hk hmem hd hu hret
  obtain ⟨dx, es, n, k1, k2, k3, hm1, hm2, hg1, hg2, hg3⟩ := HasT.has hmem
  have cE0 := InElt.start s.heap
  refine wpAny_call ?_
  k_dflt (refine' code_defG ?k1 ?k2 ?k3 ?k4 ?k5 ?kA ?kF ?kK ?k6 ?k7 ?k8 ?k9 ?kB ?_ ?c2 ?c3 ?c4 ?c5; (case kA => exact rfl); (case kF => exact rfl); (case kK => assumption); (case k1 => k_asm); (case k2 => k_asm); (case k3 => k_asm); (case k4 => k_asm); (case k5 => k_asm); (case k6 => k_is); (case k7 => k_is); (case k8 => ktr_room); (case k9 => exact BindsTo.of_eq rfl); (case c5 => decide); (case kB => exact locs rfl); (case c2 => exact rfl); (case c3 => exact rfl); (case c4 => exact rfl); k_whole; intro g' L' h' FG' F' N' B' X' T' kG'; (try dsimp only); (try k_lift B'); (try k_fold))
  k_steps
  all_goals (refine' tel_ret hret ?e1 ?e2 ?e3 ?e4; (case e1 => rfl); (case e2 => k_asm); (case e3 => first | k_asm | (refine' cb_drop ?cbN ?cbS; (case cbN => assumption); (case cbS => kcj_all))); (case e4 => assumption))
set_option maxRecDepth 100000 in
set_option maxHeartbeats 8000000 in
theorem by_div (w : World) (t : Addr) (x y : Int) (ts tx ty : Tok) (h1 : -32768 ≤ x.tdiv y) (h2 : x.tdiv y ≤ 32767) (hy1 : -32768 ≤ y) (hy2 : y ≤ 32767) (hy0 : y ≠ 0) : Tel w 340 6 64 (HasT · t) [.ref t, .str "/" ts, .int x tx, .int y ty] (fun k => .int (x.tdiv y) k) := by
  unfold Tel
  k_fill
  w_on
  intro loose mean mg mb dp un gd cn cs a ccd cl outer A₀ base h₀ L m news s Q E B F X N T hk hmem hd hu hret
  obtain ⟨dx, es, n, k1, k2, k3, hm1, hm2, hg1, hg2, hg3⟩ := HasT.has hmem
  have cE0 := InElt.start s.heap
  refine wpAny_call ?_
  k_dflt (refine' code_defG ?k1 ?k2 ?k3 ?k4 ?k5 ?kA ?kF ?kK ?k6 ?k7 ?k8 ?k9 ?kB ?_ ?c2 ?c3 ?c4 ?c5; (case kA => exact rfl); (case kF => exact rfl); (case kK => assumption); (case k1 => k_asm); (case k2 => k_asm); (case k3 => k_asm); (case k4 => k_asm); (case k5 => k_asm); (case k6 => k_is); (case k7 => k_is); (case k8 => ktr_room); (case k9 => exact BindsTo.of_eq rfl); (case c5 => decide); (case kB => exact locs rfl); (case c2 => exact rfl); (case c3 => exact rfl); (case c4 => exact rfl); k_whole; intro g' L' h' FG' F' N' B' X' T' kG'; (try dsimp only); (try k_lift B'); (try k_fold))
  k_steps
  all_goals (refine' tel_ret hret ?e1 ?e2 ?e3 ?e4; (case e1 => rfl); (case e2 => k_asm); (case e3 => first | k_asm | (refine' cb_drop ?cbN ?cbS; (case cbN => assumption); (case cbS => kcj_all))); (case e4 => assumption))
set_option maxRecDepth 100000 in
set_option maxHeartbeats 8000000 in
theorem by_rem (w : World) (t : Addr) (x y : Int) (ts tx ty : Tok) (hy1 : -32768 ≤ y) (hy2 : y ≤ 32767) (hy0 : y ≠ 0) : Tel w 340 6 64 (HasT · t) [.ref t, .str "rem" ts, .int x tx, .int y ty] (fun k => .int (x.tmod y) k) := by
  unfold Tel
  k_fill
  w_on
  intro loose mean mg mb dp un gd cn cs a ccd cl outer A₀ base h₀ L m news s Q E B F X N T hk hmem hd hu hret
  obtain ⟨dx, es, n, k1, k2, k3, hm1, hm2, hg1, hg2, hg3⟩ := HasT.has hmem
  have cE0 := InElt.start s.heap
  refine wpAny_call ?_
  k_dflt (refine' code_defG ?k1 ?k2 ?k3 ?k4 ?k5 ?kA ?kF ?kK ?k6 ?k7 ?k8 ?k9 ?kB ?_ ?c2 ?c3 ?c4 ?c5; (case kA => exact rfl); (case kF => exact rfl); (case kK => assumption); (case k1 => k_asm); (case k2 => k_asm); (case k3 => k_asm); (case k4 => k_asm); (case k5 => k_asm); (case k6 => k_is); (case k7 => k_is); (case k8 => ktr_room); (case k9 => exact BindsTo.of_eq rfl); (case c5 => decide); (case kB => exact locs rfl); (case c2 => exact rfl); (case c3 => exact rfl); (case c4 => exact rfl); k_whole; intro g' L' h' FG' F' N' B' X' T' kG'; (try dsimp only); (try k_lift B'); (try k_fold))
  k_steps
  all_goals (refine' tel_ret hret ?e1 ?e2 ?e3 ?e4; (case e1 => exact rem_is x y); (case e2 => k_asm); (case e3 => first | k_asm | (refine' cb_drop ?cbN ?cbS; (case cbN => assumption); (case cbS => kcj_all))); (case e4 => assumption))
set_option maxRecDepth 100000 in
set_option maxHeartbeats 8000000 in
theorem by_mod (w : World) (t : Addr) (x y : Int) (ts tx ty : Tok) (hy1 : -32768 ≤ y) (hy2 : y ≤ 32767) (hy0 : y ≠ 0) : Tel w 340 6 64 (HasT · t) [.ref t, .str "mod" ts, .int x tx, .int y ty] (fun k => .int (x.fmod y) k) := by
  unfold Tel
  k_fill
  w_on
  intro loose mean mg mb dp un gd cn cs a ccd cl outer A₀ base h₀ L m news s Q E B F X N T hk hmem hd hu hret
  obtain ⟨dx, es, n, k1, k2, k3, hm1, hm2, hg1, hg2, hg3⟩ := HasT.has hmem
  have cE0 := InElt.start s.heap
  refine wpAny_call ?_
  k_dflt (refine' code_defG ?k1 ?k2 ?k3 ?k4 ?k5 ?kA ?kF ?kK ?k6 ?k7 ?k8 ?k9 ?kB ?_ ?c2 ?c3 ?c4 ?c5; (case kA => exact rfl); (case kF => exact rfl); (case kK => assumption); (case k1 => k_asm); (case k2 => k_asm); (case k3 => k_asm); (case k4 => k_asm); (case k5 => k_asm); (case k6 => k_is); (case k7 => k_is); (case k8 => ktr_room); (case k9 => exact BindsTo.of_eq rfl); (case c5 => decide); (case kB => exact locs rfl); (case c2 => exact rfl); (case c3 => exact rfl); (case c4 => exact rfl); k_whole; intro g' L' h' FG' F' N' B' X' T' kG'; (try dsimp only); (try k_lift B'); (try k_fold))
  k_steps
  all_goals (refine' tel_ret hret ?e1 ?e2 ?e3 ?e4; (case e1 => exact mod_is x y); (case e2 => k_asm); (case e3 => first | k_asm | (refine' cb_drop ?cbN ?cbS; (case cbN => assumption); (case cbS => kcj_all))); (case e4 => assumption))
set_option maxRecDepth 100000 in
set_option maxHeartbeats 8000000 in
theorem size_of (w : World) (t : Addr) (x : Int) (tx : Tok) (h1 : -32767 ≤ x) (h2 : x ≤ 32767) : Tel w 347 6 64 (HasT · t) [.ref t, .int x tx] (fun k => .int (x.natAbs : Int) k) := by
  unfold Tel
  k_fill
  w_on
  intro loose mean mg mb dp un gd cn cs a ccd cl outer A₀ base h₀ L m news s Q E B F X N T hk hmem hd hu hret
  obtain ⟨dx, es, n, k1, k2, k3, hm1, hm2, hg1, hg2, hg3⟩ := HasT.has hmem
  have cE0 := InElt.start s.heap
  refine wpAny_call ?_
  k_dflt (refine' code_defG ?k1 ?k2 ?k3 ?k4 ?k5 ?kA ?kF ?kK ?k6 ?k7 ?k8 ?k9 ?kB ?_ ?c2 ?c3 ?c4 ?c5; (case kA => exact rfl); (case kF => exact rfl); (case kK => assumption); (case k1 => k_asm); (case k2 => k_asm); (case k3 => k_asm); (case k4 => k_asm); (case k5 => k_asm); (case k6 => k_is); (case k7 => k_is); (case k8 => ktr_room); (case k9 => exact BindsTo.of_eq rfl); (case c5 => decide); (case kB => exact locs rfl); (case c2 => exact rfl); (case c3 => exact rfl); (case c4 => exact rfl); k_whole; intro g' L' h' FG' F' N' B' X' T' kG'; (try dsimp only); (try k_lift B'); (try k_fold))
  k_steps
  all_goals (refine' tel_ret hret ?e1 ?e2 ?e3 ?e4; (case e1 => exact abs_is x); (case e2 => k_asm); (case e3 => first | k_asm | (refine' cb_drop ?cbN ?cbS; (case cbN => assumption); (case cbS => kcj_all))); (case e4 => assumption))
local macro_rules | `(tactic| walk_at "call ref") => `(tactic| (k_here; (with_reducible show wpAny _ _ (call (Value.ref 340) [Value.ref _, Value.str (PySem.Str.ofString "+") _, Value.int _ _, Value.int _ _]) _ _ _); k_dflt (refine' Tel.use (by_add _ _ _ _ _ _ _ ?p0 ?p1) ?k1 ?k2 ?k3 ?k4 ?k5 ?k6 ?k7 ?k8 ?k9 ?_; (case k1 => k_asm); (case k2 => k_asm); (case k3 => k_asm); (case k4 => k_asm); (case k5 => k_asm); (case k6 => first | exact rfl | assumption); (case k7 => first | ((repeat (first | assumption | refine HasT.cons ?_)); done) | ktn_open); (case k8 => ktr_room); (case k9 => ktr_units); (case p0 => first | assumption | omega | ktr_rel); (case p1 => first | assumption | omega | ktr_rel);); (intro t9 h9 tk9 F9 N9 E9); (first | (have cE9 := elt_trans (by assumption) E9; clear E9) | clear E9); (try dsimp only); (try k_fold)))
local macro_rules | `(tactic| walk_at "call ref") => `(tactic| (k_here; (with_reducible show wpAny _ _ (call (Value.ref 340) [Value.ref _, Value.str (PySem.Str.ofString "-") _, Value.int _ _, Value.int _ _]) _ _ _); k_dflt (refine' Tel.use (by_sub _ _ _ _ _ _ _ ?p0 ?p1) ?k1 ?k2 ?k3 ?k4 ?k5 ?k6 ?k7 ?k8 ?k9 ?_; (case k1 => k_asm); (case k2 => k_asm); (case k3 => k_asm); (case k4 => k_asm); (case k5 => k_asm); (case k6 => first | exact rfl | assumption); (case k7 => first | ((repeat (first | assumption | refine HasT.cons ?_)); done) | ktn_open); (case k8 => ktr_room); (case k9 => ktr_units); (case p0 => first | assumption | omega | ktr_rel); (case p1 => first | assumption | omega | ktr_rel);); (intro t9 h9 tk9 F9 N9 E9); (first | (have cE9 := elt_trans (by assumption) E9; clear E9) | clear E9); (try dsimp only); (try k_fold)))
local macro_rules | `(tactic| walk_at "call ref") => `(tactic| (k_here; (with_reducible show wpAny _ _ (call (Value.ref 340) [Value.ref _, Value.str (PySem.Str.ofString "*") _, Value.int _ _, Value.int _ _]) _ _ _); k_dflt (refine' Tel.use (by_mul _ _ _ _ _ _ _ ?p0 ?p1 ?p2 ?p3) ?k1 ?k2 ?k3 ?k4 ?k5 ?k6 ?k7 ?k8 ?k9 ?_; (case k1 => k_asm); (case k2 => k_asm); (case k3 => k_asm); (case k4 => k_asm); (case k5 => k_asm); (case k6 => first | exact rfl | assumption); (case k7 => first | ((repeat (first | assumption | refine HasT.cons ?_)); done) | ktn_open); (case k8 => ktr_room); (case k9 => ktr_units); (case p0 => first | assumption | omega | ktr_rel); (case p1 => first | assumption | omega | ktr_rel); (case p2 => first | assumption | omega | ktr_rel); (case p3 => first | assumption | omega | ktr_rel);); (intro t9 h9 tk9 F9 N9 E9); (first | (have cE9 := elt_trans (by assumption) E9; clear E9) | clear E9); (try dsimp only); (try k_fold)))
local macro_rules | `(tactic| walk_at "call ref") => `(tactic| (k_here; (with_reducible show wpAny _ _ (call (Value.ref 340) [Value.ref _, Value.str (PySem.Str.ofString "/") _, Value.int _ _, Value.int _ _]) _ _ _); k_dflt (refine' Tel.use (by_div _ _ _ _ _ _ _ ?p0 ?p1 ?p2 ?p3 ?p4) ?k1 ?k2 ?k3 ?k4 ?k5 ?k6 ?k7 ?k8 ?k9 ?_; (case k1 => k_asm); (case k2 => k_asm); (case k3 => k_asm); (case k4 => k_asm); (case k5 => k_asm); (case k6 => first | exact rfl | assumption); (case k7 => first | ((repeat (first | assumption | refine HasT.cons ?_)); done) | ktn_open); (case k8 => ktr_room); (case k9 => ktr_units); (case p0 => first | assumption | omega | ktr_rel); (case p1 => first | assumption | omega | ktr_rel); (case p2 => first | assumption | omega | ktr_rel); (case p3 => first | assumption | omega | ktr_rel); (case p4 => first | assumption | omega | ktr_rel);); (intro t9 h9 tk9 F9 N9 E9); (first | (have cE9 := elt_trans (by assumption) E9; clear E9) | clear E9); (try dsimp only); (try k_fold)))
local macro_rules | `(tactic| walk_at "call ref") => `(tactic| (k_here; (with_reducible show wpAny _ _ (call (Value.ref 340) [Value.ref _, Value.str (PySem.Str.ofString "rem") _, Value.int _ _, Value.int _ _]) _ _ _); k_dflt (refine' Tel.use (by_rem _ _ _ _ _ _ _ ?p0 ?p1 ?p2) ?k1 ?k2 ?k3 ?k4 ?k5 ?k6 ?k7 ?k8 ?k9 ?_; (case k1 => k_asm); (case k2 => k_asm); (case k3 => k_asm); (case k4 => k_asm); (case k5 => k_asm); (case k6 => first | exact rfl | assumption); (case k7 => first | ((repeat (first | assumption | refine HasT.cons ?_)); done) | ktn_open); (case k8 => ktr_room); (case k9 => ktr_units); (case p0 => first | assumption | omega | ktr_rel); (case p1 => first | assumption | omega | ktr_rel); (case p2 => first | assumption | omega | ktr_rel);); (intro t9 h9 tk9 F9 N9 E9); (first | (have cE9 := elt_trans (by assumption) E9; clear E9) | clear E9); (try dsimp only); (try k_fold)))
local macro_rules | `(tactic| walk_at "call ref") => `(tactic| (k_here; (with_reducible show wpAny _ _ (call (Value.ref 340) [Value.ref _, Value.str (PySem.Str.ofString "mod") _, Value.int _ _, Value.int _ _]) _ _ _); k_dflt (refine' Tel.use (by_mod _ _ _ _ _ _ _ ?p0 ?p1 ?p2) ?k1 ?k2 ?k3 ?k4 ?k5 ?k6 ?k7 ?k8 ?k9 ?_; (case k1 => k_asm); (case k2 => k_asm); (case k3 => k_asm); (case k4 => k_asm); (case k5 => k_asm); (case k6 => first | exact rfl | assumption); (case k7 => first | ((repeat (first | assumption | refine HasT.cons ?_)); done) | ktn_open); (case k8 => ktr_room); (case k9 => ktr_units); (case p0 => first | assumption | omega | ktr_rel); (case p1 => first | assumption | omega | ktr_rel); (case p2 => first | assumption | omega | ktr_rel);); (intro t9 h9 tk9 F9 N9 E9); (first | (have cE9 := elt_trans (by assumption) E9; clear E9) | clear E9); (try dsimp only); (try k_fold)))
local macro_rules | `(tactic| walk_at "call ref") => `(tactic| (k_here; (with_reducible show wpAny _ _ (call (Value.ref 347) [Value.ref _, Value.int _ _]) _ _ _); k_dflt (refine' Tel.use (size_of _ _ _ _ ?p0 ?p1) ?k1 ?k2 ?k3 ?k4 ?k5 ?k6 ?k7 ?k8 ?k9 ?_; (case k1 => k_asm); (case k2 => k_asm); (case k3 => k_asm); (case k4 => k_asm); (case k5 => k_asm); (case k6 => first | exact rfl | assumption); (case k7 => first | ((repeat (first | assumption | refine HasT.cons ?_)); done) | ktn_open); (case k8 => ktr_room); (case k9 => ktr_units); (case p0 => first | assumption | omega | ktr_rel); (case p1 => first | assumption | omega | ktr_rel);); (intro t9 h9 tk9 F9 N9 E9); (first | (have cE9 := elt_trans (by assumption) E9; clear E9) | clear E9); (try dsimp only); (try k_fold)))
set_option maxRecDepth 100000 in
set_option maxHeartbeats 8000000 in
theorem taking (w : World) (t : Addr) (x y : Int) (tx ty : Tok) (hx1 : 0 < x) (hx2 : x ≤ 60) (hy1 : 0 < y) (hy2 : y ≤ 60) : Tel w 359 10 160 (HasT · t) [.ref t, .int x tx, .int y ty] (fun k => .int (Int.gcd x y : Int) k) := by
  unfold Tel
  k_fill
  w_on
  intro loose mean mg mb dp un gd cn cs a ccd cl outer A₀ base h₀ L m news s Q E B F X N T hk hmem hd hu hret
  have cE0 := InElt.start s.heap
  refine wpAny_call ?_
  k_dflt (refine' code_defG ?k1 ?k2 ?k3 ?k4 ?k5 ?kA ?kF ?kK ?k6 ?k7 ?k8 ?k9 ?kB ?_ ?c2 ?c3 ?c4 ?c5; (case kA => exact rfl); (case kF => exact rfl); (case kK => assumption); (case k1 => k_asm); (case k2 => k_asm); (case k3 => k_asm); (case k4 => k_asm); (case k5 => k_asm); (case k6 => k_is); (case k7 => k_is); (case k8 => ktr_room); (case k9 => exact BindsTo.of_eq rfl); (case c5 => decide); (case kB => exact locs rfl); (case c2 => exact rfl); (case c3 => exact rfl); (case c4 => exact rfl); k_whole; intro g' L' h' FG' F' N' B' X' T' kG'; (try dsimp only); (try k_lift B'); (try k_fold))
  k_with "exec While Compare cons nil" => k_while (fun (_ : List Int) u v => 0 < u ∧ u ≤ 60 ∧ 0 < v ∧ v ≤ 60 ∧ Int.gcd u v = Int.gcd x y) (fun _ u v => (u + v).toNat) "a" "b"
  k_steps
  refine' tel_ret hret ?e1 ?e2 ?e3 ?e4; (case e1 => cb_eq); (case e2 => k_asm); (case e3 => k_asm); (case e4 => assumption)
theorem gcd_two_left {u v : Int} (h : v % 2 ≠ 0) : Int.gcd (2 * u) v = Int.gcd u v := by
  rw [Int.gcd, Int.gcd, Int.natAbs_mul]
  refine Nat.Coprime.gcd_mul_left_cancel _ ?_
  rw [show (2 : Int).natAbs = 2 from rfl, Nat.coprime_comm, Nat.Coprime, Nat.gcd_comm]
  have h2 : v.natAbs % 2 = 1 := by omega
  rw [Nat.gcd_rec, h2]; decide
theorem halve_both {u v p : Int} (hu : u % 2 = 0) (hv : v % 2 = 0) : (Int.gcd (u / 2) (v / 2) : Int) * (p * 2) = (Int.gcd u v : Int) * p := by
  have e1 : u = 2 * (u / 2) := by omega
  have e2 : v = 2 * (v / 2) := by omega
  have e : Int.gcd u v = 2 * Int.gcd (u / 2) (v / 2) := by
    conv => lhs; rw [e1, e2]
    rw [Int.gcd_mul_left]; rfl
  rw [e, Int.natCast_mul, show ((2 : Nat) : Int) = 2 from rfl, Int.mul_comm p 2, ← Int.mul_assoc, Int.mul_comm (Int.gcd _ _ : Int) 2]
theorem halve_left {u v : Int} (hu : u % 2 = 0) (hv : v % 2 ≠ 0) : Int.gcd (u / 2) v = Int.gcd u v := by
  have e1 : u = 2 * (u / 2) := by omega
  conv => rhs; rw [e1]
  exact (gcd_two_left hv).symm
theorem halve_right {u v : Int} (hv : v % 2 = 0) (hu : u % 2 ≠ 0) : Int.gcd u (v / 2) = Int.gcd u v := by
  rw [Int.gcd_comm, halve_left hv hu, Int.gcd_comm]
theorem halve_less {u v : Int} (hu : u % 2 ≠ 0) (hv : v % 2 ≠ 0) : Int.gcd ((u - v) / 2) v = Int.gcd u v := by
  rw [halve_left (by omega) hv]; simp
theorem halve_more {u v : Int} (hu : u % 2 ≠ 0) (hv : v % 2 ≠ 0) : Int.gcd u ((v - u) / 2) = Int.gcd u v := by
  rw [Int.gcd_comm, halve_less hv hu, Int.gcd_comm]
theorem gcd_most {x y : Int} (hx : 0 < x) : (Int.gcd x y : Int) ≤ x := by
  have := Nat.le_of_dvd (by omega) (Int.gcd_dvd_natAbs_left x y)
  omega
theorem gcd_least {u : Int} (v : Int) (hu : 0 < u) : 0 < (Int.gcd u v : Int) := by
  have := Int.gcd_pos_of_ne_zero_left v (show u ≠ 0 by omega)
  omega
theorem part_most {g p m : Int} (hg : 0 < g) (hp : 0 < p) (h : g * p ≤ m) : p ≤ m := by
  have := Int.mul_le_mul_of_nonneg_right (show (1 : Int) ≤ g by omega) (Int.le_of_lt hp)
  omega
/-- what a turn of the halving loop leaves -/
theorem halve_turn {x y u v p u' v' p' : Int} (hx : 0 < x) (hx2 : x ≤ 60) (e : (Int.gcd u v : Int) * p = (Int.gcd x y : Int)) (e' : (Int.gcd u' v' : Int) * p' = (Int.gcd u v : Int) * p)
    (h1 : 0 < u') (h2 : u' ≤ 60) (h3 : 0 < v') (h4 : v' ≤ 60) (h5 : 0 < p') : 0 < u' ∧ u' ≤ 60 ∧ 0 < v' ∧ v' ≤ 60 ∧ 0 < p' ∧ p' ≤ 60 ∧ (Int.gcd u' v' : Int) * p' = (Int.gcd x y : Int) := by
  have e2 := e'.trans e
  have := gcd_most (y := y) hx
  exact ⟨h1, h2, h3, h4, h5, part_most (gcd_least v' h1) h5 (by omega), e2⟩
theorem halve_end {x y u v p : Int} (e : (Int.gcd u v : Int) * p = (Int.gcd x y : Int)) (h : u = v) (hx : 0 < x) (hx2 : x ≤ 60) (hu : 0 < u) : u * p = (Int.gcd x y : Int) ∧ 0 ≤ u * p ∧ u * p ≤ 60 := by
  subst h
  have e1 : (Int.gcd u u : Int) = u := by rw [Int.gcd_self]; omega
  rw [e1] at e
  have := gcd_most (y := y) hx
  omega
theorem by_half (w : World) (t : Addr) (x : Int) (ts tx ty : Tok) (h1 : 0 ≤ x) (h2 : x ≤ 32767) : Tel w 340 6 64 (HasT · t) [.ref t, .str "/" ts, .int x tx, .int 2 ty] (fun k => .int (x / 2) k) := by
  have h := by_div w t x 2 ts tx ty (by rw [Int.tdiv_eq_ediv_of_nonneg h1]; omega) (by rw [Int.tdiv_eq_ediv_of_nonneg h1]; omega) (by decide) (by decide) (by decide)
  rw [Int.tdiv_eq_ediv_of_nonneg h1] at h
  exact h
theorem by_odd (w : World) (t : Addr) (x : Int) (ts tx ty : Tok) (h1 : 0 ≤ x) : Tel w 340 6 64 (HasT · t) [.ref t, .str "rem" ts, .int x tx, .int 2 ty] (fun k => .int (x % 2) k) := by
  have h := by_rem w t x 2 ts tx ty (by decide) (by decide) (by decide)
  rw [Int.tmod_eq_emod_of_nonneg h1] at h
  exact h
local macro_rules | `(tactic| walk_at "call ref") => `(tactic| (k_here; (with_reducible show wpAny _ _ (call (Value.ref 340) [Value.ref _, Value.str (PySem.Str.ofString "/") _, Value.int _ _, Value.int 2 _]) _ _ _); k_dflt (refine' Tel.use (by_half _ _ _ _ _ _ ?p0 ?p1) ?k1 ?k2 ?k3 ?k4 ?k5 ?k6 ?k7 ?k8 ?k9 ?_; (case k1 => k_asm); (case k2 => k_asm); (case k3 => k_asm); (case k4 => k_asm); (case k5 => k_asm); (case k6 => first | exact rfl | assumption); (case k7 => first | ((repeat (first | assumption | refine HasT.cons ?_)); done) | ktn_open); (case k8 => ktr_room); (case k9 => ktr_units); (case p0 => omega); (case p1 => omega)); (intro t9 h9 tk9 F9 N9 E9); (first | (have cE9 := elt_trans (by assumption) E9; clear E9) | clear E9); (try dsimp only); (try k_fold)))
local macro_rules | `(tactic| walk_at "call ref") => `(tactic| (k_here; (with_reducible show wpAny _ _ (call (Value.ref 340) [Value.ref _, Value.str (PySem.Str.ofString "rem") _, Value.int _ _, Value.int 2 _]) _ _ _); k_dflt (refine' Tel.use (by_odd _ _ _ _ _ _ ?p0) ?k1 ?k2 ?k3 ?k4 ?k5 ?k6 ?k7 ?k8 ?k9 ?_; (case k1 => k_asm); (case k2 => k_asm); (case k3 => k_asm); (case k4 => k_asm); (case k5 => k_asm); (case k6 => first | exact rfl | assumption); (case k7 => first | ((repeat (first | assumption | refine HasT.cons ?_)); done) | ktn_open); (case k8 => ktr_room); (case k9 => ktr_units); (case p0 => omega)); (intro t9 h9 tk9 F9 N9 E9); (first | (have cE9 := elt_trans (by assumption) E9; clear E9) | clear E9); (try dsimp only); (try k_fold)))
local macro_rules | `(tactic| ktr_rel) => `(tactic| ((have q9 := halve_end (by assumption) (by assumption) (by assumption) (by assumption) (by assumption)); omega))
set_option maxRecDepth 100000 in
set_option maxHeartbeats 8000000 in
theorem halving (w : World) (t : Addr) (x y : Int) (tx ty : Tok) (hx1 : 0 < x) (hx2 : x ≤ 60) (hy1 : 0 < y) (hy2 : y ≤ 60) : Tel w 366 10 160 (HasT · t) [.ref t, .int x tx, .int y ty] (fun k => .int (Int.gcd x y : Int) k) := by
  unfold Tel
  k_fill
  w_on
  intro loose mean mg mb dp un gd cn cs a ccd cl outer A₀ base h₀ L m news s Q E B F X N T hk hmem hd hu hret
  have cE0 := InElt.start s.heap
  refine wpAny_call ?_
  k_dflt (refine' code_defG ?k1 ?k2 ?k3 ?k4 ?k5 ?kA ?kF ?kK ?k6 ?k7 ?k8 ?k9 ?kB ?_ ?c2 ?c3 ?c4 ?c5; (case kA => exact rfl); (case kF => exact rfl); (case kK => assumption); (case k1 => k_asm); (case k2 => k_asm); (case k3 => k_asm); (case k4 => k_asm); (case k5 => k_asm); (case k6 => k_is); (case k7 => k_is); (case k8 => ktr_room); (case k9 => exact BindsTo.of_eq rfl); (case c5 => decide); (case kB => exact locs rfl); (case c2 => exact rfl); (case c3 => exact rfl); (case c4 => exact rfl); k_whole; intro g' L' h' FG' F' N' B' X' T' kG'; (try dsimp only); (try k_lift B'); (try k_fold))
  k_with "exec While Compare cons nil" => k_while (fun (_ : List Int) u v p => 0 < u ∧ u ≤ 60 ∧ 0 < v ∧ v ≤ 60 ∧ 0 < p ∧ p ≤ 60 ∧ (Int.gcd u v : Int) * p = (Int.gcd x y : Int)) (fun _ u v _ => (u + v).toNat) "a" "b" "twos"
  k_with "state" => first
    | exact ⟨hx1, hx2, hy1, hy2, by decide, by decide, by omega⟩
    | exact halve_turn hx1 hx2 (by assumption) (halve_both (by assumption) (by assumption)) (by omega) (by omega) (by omega) (by omega) (by omega)
    | exact halve_turn hx1 hx2 (by assumption) (congrArg (fun g : Nat => (g : Int) * _) (halve_left (by assumption) (by omega))) (by omega) (by omega) (by omega) (by omega) (by omega)
    | exact halve_turn hx1 hx2 (by assumption) (congrArg (fun g : Nat => (g : Int) * _) (halve_right (by assumption) (by omega))) (by omega) (by omega) (by omega) (by omega) (by omega)
    | exact halve_turn hx1 hx2 (by assumption) (congrArg (fun g : Nat => (g : Int) * _) (halve_less (by omega) (by omega))) (by omega) (by omega) (by omega) (by omega) (by omega)
    | exact halve_turn hx1 hx2 (by assumption) (congrArg (fun g : Nat => (g : Int) * _) (halve_more (by omega) (by omega))) (by omega) (by omega) (by omega) (by omega) (by omega)
  k_steps
  refine' tel_ret hret ?e1 ?e2 ?e3 ?e4; (case e1 => exact (halve_end (by assumption) (by assumption) hx1 hx2 (by assumption)).1); (case e2 => k_asm); (case e3 => k_asm); (case e4 => assumption)
abbrev tupO (vs : List Value) (n : Nat) : Obj := { cls := .type "tuple", data := .seq vs.toArray n }
/-- what the loop of _law_bezout turns: two tuples, three cells -/
structure BzS where
  q1 : Addr
  q2 : Addr
  o1 : Obj
  o2 : Obj
  oq : Obj
  vq : Option Value
  g1 : Int
  u1 : Int
  v1 : Int
  g2 : Int
  u2 : Int
  v2 : Int
  a1 : Tok
  b1 : Tok
  c1 : Tok
  a2 : Tok
  b2 : Tok
  c2 : Tok
def BzS.led (L : Addr) (ot : Obj) (news : List (Addr × Obj)) (c : BzS) : List (Addr × Obj) :=
  (c.q2, tupO [.int c.g2 c.a2, .int c.u2 c.b2, .int c.v2 c.c2] 0) :: (c.q1, tupO [.int c.g1 c.a1, .int c.u1 c.b1, .int c.v1 c.c1] 0) ::
    (L + 1 + 1 + 1 + 1, c.oq) :: (L + 1 + 1 + 1, c.o2) :: (L + 1 + 1, c.o1) :: (L + 1, ot) :: news
def BzS.facts (L : Addr) (c : BzS) : Prop :=
  c.o1.data = .cell (some (.ref c.q1)) ∧ c.o2.data = .cell (some (.ref c.q2)) ∧ c.oq.data = .cell c.vq ∧ @LT.lt Nat _ (L + 1 + 1 + 1 + 1) c.q1 ∧ @LT.lt Nat _ (L + 1 + 1 + 1 + 1) c.q2
/-- what holds between the turns -/
structure BzI (x y g1 u1 v1 g2 u2 v2 : Int) : Prop where
  e1 : g1 = u1 * x + v1 * y
  e2 : g2 = u2 * x + v2 * y
  gcd : Int.gcd g1 g2 = Int.gcd x y
  hu : u2.natAbs * g1.natAbs + u1.natAbs * g2.natAbs ≤ y.natAbs
  hv : v2.natAbs * g1.natAbs + v1.natAbs * g2.natAbs ≤ x.natAbs
  bg1 : g1.natAbs ≤ 60
  bg2 : g2.natAbs ≤ 60
  bu1 : u1.natAbs ≤ 60
  bv1 : v1.natAbs ≤ 60
  bu2 : u2.natAbs ≤ 60
  bv2 : v2.natAbs ≤ 60
def BzS.inv (x y : Int) (c : BzS) : Prop := BzI x y c.g1 c.u1 c.v1 c.g2 c.u2 c.v2
theorem bz_first {x y : Int} (hx : x.natAbs ≤ 60) (hy : y.natAbs ≤ 60) : BzI x y x 1 0 y 0 1 where
  e1 := by omega
  e2 := by omega
  gcd := rfl
  hu := by simp
  hv := by simp
  bg1 := hx
  bg2 := hy
  bu1 := by decide
  bv1 := by decide
  bu2 := by decide
  bv2 := by decide
theorem rem_part (g1 g2 : Int) : (g1.tdiv g2).natAbs * g2.natAbs + (g1.tmod g2).natAbs = g1.natAbs := by
  rw [Int.natAbs_tdiv, Int.natAbs_tmod]
  exact Nat.div_add_mod' _ _
/-- a factor, a turn on: how far the quotient's product goes -/
theorem turn_small {g1 g2 u1 u2 : Int} {Y : Nat} (h0 : g2 ≠ 0) (h : u2.natAbs * g1.natAbs + u1.natAbs * g2.natAbs ≤ Y) : (g1.tdiv g2 * u2).natAbs ≤ Y := by
  have h1 := rem_part g1 g2
  rw [Int.natAbs_mul]
  have h2 : (g1.tdiv g2).natAbs * g2.natAbs ≤ g1.natAbs := by omega
  have h3 := Nat.mul_le_mul_left u2.natAbs h2
  have h4 : 1 ≤ g2.natAbs := by omega
  have h5 : u2.natAbs * ((g1.tdiv g2).natAbs * g2.natAbs) = ((g1.tdiv g2).natAbs * u2.natAbs) * g2.natAbs := by
    rw [← Nat.mul_assoc, Nat.mul_comm u2.natAbs]
  have h6 := Nat.mul_le_mul_left ((g1.tdiv g2).natAbs * u2.natAbs) h4
  omega
theorem turn_bound {g1 g2 u1 u2 : Int} {Y : Nat} (h : u2.natAbs * g1.natAbs + u1.natAbs * g2.natAbs ≤ Y) :
    (u1 - g1.tdiv g2 * u2).natAbs * g2.natAbs + u2.natAbs * (g1.tmod g2).natAbs ≤ Y := by
  have h1 := rem_part g1 g2
  have h2 : (u1 - g1.tdiv g2 * u2).natAbs ≤ u1.natAbs + (g1.tdiv g2).natAbs * u2.natAbs := by
    have := Int.natAbs_mul (g1.tdiv g2) u2
    omega
  have h3 := Nat.mul_le_mul_right g2.natAbs h2
  rw [Nat.add_mul] at h3
  have h5 : (g1.tdiv g2).natAbs * u2.natAbs * g2.natAbs = u2.natAbs * ((g1.tdiv g2).natAbs * g2.natAbs) := by
    rw [← Nat.mul_assoc, Nat.mul_comm u2.natAbs]
  have h6 : u2.natAbs * ((g1.tdiv g2).natAbs * g2.natAbs) + u2.natAbs * (g1.tmod g2).natAbs = u2.natAbs * g1.natAbs := by
    rw [← Nat.mul_add, h1]
  omega
theorem le_of_part {a b c Y : Nat} (hb : 0 < b) (h : a * b + c ≤ Y) : a ≤ Y := by
  have := Nat.mul_le_mul_left a hb
  omega
theorem gcd_turn (g1 g2 : Int) : Int.gcd g2 (g1.tmod g2) = Int.gcd g1 g2 := by
  rw [Int.gcd, Int.gcd, Int.natAbs_tmod, Nat.gcd_comm g1.natAbs, Nat.gcd_rec g2.natAbs g1.natAbs, Nat.gcd_comm]
theorem bz_next {x y g1 u1 v1 g2 u2 v2 : Int} (hx : x.natAbs ≤ 60) (hy : y.natAbs ≤ 60) (h : BzI x y g1 u1 v1 g2 u2 v2) (h0 : g2 ≠ 0) :
    BzI x y g2 u2 v2 (g1.tmod g2) (u1 - g1.tdiv g2 * u2) (v1 - g1.tdiv g2 * v2) where
  e1 := h.e2
  e2 := by
    have k : ∀ q : Int, g1 - q * g2 = (u1 - q * u2) * x + (v1 - q * v2) * y := by
      intro q
      rw [h.e1, h.e2, Int.sub_mul, Int.sub_mul, Int.mul_add, Int.mul_assoc q u2 x, Int.mul_assoc q v2 y]
      omega
    rw [← rem_is]
    exact k _
  gcd := (gcd_turn g1 g2).trans h.gcd
  hu := turn_bound h.hu
  hv := turn_bound h.hv
  bg1 := h.bg2
  bg2 := by
    have := rem_part g1 g2
    have := h.bg1
    omega
  bu1 := h.bu2
  bv1 := h.bv2
  bu2 := Nat.le_trans (le_of_part (by omega) (turn_bound h.hu)) hy
  bv2 := Nat.le_trans (le_of_part (by omega) (turn_bound h.hv)) hx
theorem bz_fact {x y g1 u1 v1 g2 u2 v2 : Int} (h : BzI x y g1 u1 v1 g2 u2 v2) (h0 : g2 ≠ 0) (hx : -60 ≤ x) (hx' : x ≤ 60) (hy : -60 ≤ y) (hy' : y ≤ 60) :
    (g1.tdiv g2).natAbs ≤ 60 ∧ g2.natAbs ≤ 60 ∧ u1.natAbs ≤ 60 ∧ v1.natAbs ≤ 60 ∧ u2.natAbs ≤ 60 ∧ v2.natAbs ≤ 60 ∧ (g1.tdiv g2 * u2).natAbs ≤ 60 ∧ (g1.tdiv g2 * v2).natAbs ≤ 60 := by
  refine ⟨?_, h.bg2, h.bu1, h.bv1, h.bu2, h.bv2, ?_, ?_⟩
  · have h1 := rem_part g1 g2
    have h2 := le_of_part (c := (g1.tmod g2).natAbs) (Y := g1.natAbs) (show 0 < g2.natAbs by omega) (Nat.le_of_eq h1)
    have := h.bg1
    omega
  · have := turn_small h0 h.hu
    omega
  · have := turn_small h0 h.hv
    omega
theorem bz_loop {prog : Program} {w : World} {A : Around} {E : Value → Shared → Prop} {Q : Flow → Shared → Prop} {s : Shared} {env : Env} {g : Heap} {L : Addr} {test : Expr} {body : List Stmt} {pos : Pos} {m₀ : Str → Option Value}
    {x y : Int} {q1 q2 pr : Addr} {op o1 o2 oq ot : Obj} {vq : Option Value} {a1 b1 c1 a2 b2 c2 : Tok} {news : List (Addr × Obj)} (hx : x.natAbs ≤ 60) (hy : y.natAbs ≤ 60)
    (F : Fr g L s.heap m₀)
    (N : News g L s.heap ((pr, op) :: (q2, tupO [.int y a2, .int 0 b2, .int 1 c2] 0) :: (q1, tupO [.int x a1, .int 1 b1, .int 0 c1] 0) :: (L + 1 + 1 + 1 + 1, oq) :: (L + 1 + 1 + 1, o2) :: (L + 1 + 1, o1) :: (L + 1, ot) :: news))
    (d1 : o1.data = .cell (some (.ref q1))) (d2 : o2.data = .cell (some (.ref q2))) (dq : oq.data = .cell vq) (l1 : @LT.lt Nat _ (L + 1 + 1 + 1 + 1) q1) (l2 : @LT.lt Nat _ (L + 1 + 1 + 1 + 1) q2)
    (turn : ∀ (q1 q2 : Addr) (o1 o2 oq : Obj) (vq : Option Value) (g1 u1 v1 g2 u2 v2 : Int) (a1 b1 c1 a2 b2 c2 : Tok) (u : Str → Option Value) (h : Heap) (tk : Nat),
      BzI x y g1 u1 v1 g2 u2 v2 → o1.data = .cell (some (.ref q1)) → o2.data = .cell (some (.ref q2)) → oq.data = .cell vq → @LT.lt Nat _ (L + 1 + 1 + 1 + 1) q1 → @LT.lt Nat _ (L + 1 + 1 + 1 + 1) q2 →
      Fr g L h (fun z => if [Str.ofString "rest", Str.ofString "factors"].contains z then u z else m₀ z) →
      News g L h ((q2, tupO [.int g2 a2, .int u2 b2, .int v2 c2] 0) :: (q1, tupO [.int g1 a1, .int u1 b1, .int v1 c1] 0) :: (L + 1 + 1 + 1 + 1, oq) :: (L + 1 + 1 + 1, o2) :: (L + 1 + 1, o1) :: (L + 1, ot) :: news) →
      wpAny (model prog w) A (isTrue test env (eval test env)) (fun b s₂ =>
        if b = true then wpAny (model prog w) A (execs body env) (KswPost g L s (BzS.led L ot news) (fun _ => []) (BzS.facts L) [Str.ofString "rest", Str.ofString "factors"] m₀ (BzS.inv x y) (fun c => c.g2.natAbs) Q ⟨q1, q2, o1, o2, oq, vq, g1, u1, v1, g2, u2, v2, a1, b1, c1, a2, b2, c2⟩) E s₂ else Q .next s₂) E { s with heap := h, toks := tk })
    (hE : PassesOwn (model prog w) A env E) :
    wpAny (model prog w) A (exec (.While test body [] pos) env) Q E s :=
  ksw_while (BzS.led L ot news) (fun _ => []) (BzS.facts L) [Str.ofString "rest", Str.ofString "factors"] (BzS.inv x y) (fun c => c.g2.natAbs) ⟨q1, q2, o1, o2, oq, vq, x, 1, 0, y, 0, 1, a1, b1, c1, a2, b2, c2⟩
    F (fun p hp => N p (.tail _ hp)) ⟨d1, d2, dq, l1, l2⟩ (fun _ h => nomatch h) (bz_first hx hy)
    (fun ⟨q1, q2, o1, o2, oq, vq, g1, u1, v1, g2, u2, v2, a1, b1, c1, a2, b2, c2⟩ u h tk ⟨f1, f2, f3, f4, f5⟩ hp F N => turn q1 q2 o1 o2 oq vq g1 u1 v1 g2 u2 v2 a1 b1 c1 a2 b2 c2 u h tk hp f1 f2 f3 f4 f5 F N) hE
/-- what _law_bezout hands back -/
structure BzR (x y g u v : Int) : Prop where
  e : g = u * x + v * y
  gcd : g.natAbs = Int.gcd x y
  bu : u.natAbs ≤ 60
  bv : v.natAbs ≤ 60
theorem bz_result {x y g1 u1 v1 g2 u2 v2 : Int} (h : BzI x y g1 u1 v1 g2 u2 v2) (h0 : g2 = 0) : BzR x y g1 u1 v1 where
  e := h.e1
  gcd := by
    have := h.gcd
    rw [h0, Int.gcd_zero_right] at this
    exact this
  bu := h.bu1
  bv := h.bv1
theorem tmod_less {g1 g2 : Int} (h0 : g2 ≠ 0) : (g1.tmod g2).natAbs < g2.natAbs := by
  rw [Int.natAbs_tmod]
  exact Nat.mod_lt _ (by omega)
theorem lt_all {c d : Nat} : ∀ {l : List (Addr × Obj)}, AllLt d l → d ≤ c → ∀ p ∈ l, p.1 < c
  | [], _, _, _, h => nomatch h
  | q :: r, h, hc, p, hp => by
    have h1 : @LT.lt Nat _ q.1 d := h.1
    rcases List.mem_cons.mp hp with rfl | hp
    · exact Nat.lt_of_lt_of_le h1 hc
    · exact lt_all h.2 hc p hp
theorem bz_end {s : Shared} {g : Heap} {L : Addr} {m₀ m' : Str → Option Value} {c : BzS} {h' : Heap} {tk : Nat}
    {x y : Int} {q1 q2 q3 pr lD tD pq : Addr} {op ol ot2 opq o9 o1 o2 oq ot : Obj} {vq : Option Value} {g2 u2 v2 g3 u3 v3 : Int} {a2 b2 c2 a3 b3 c3 : Tok} {news : List (Addr × Obj)} (F : Fr g L h' m')
    (N : News g L h' ((pr, op) :: (q3, tupO [.int g3 a3, .int u3 b3, .int v3 c3] 0) :: (lD, ol) :: (tD, ot2) :: (pq, opq) :: (q2, tupO [.int g2 a2, .int u2 b2, .int v2 c2] 0) :: (q1, o9) :: (L + 1 + 1 + 1 + 1, oq) :: (L + 1 + 1 + 1, o2) :: (L + 1 + 1, o1) :: (L + 1, ot) :: news))
    (d1 : o1.data = .cell (some (.ref q2))) (d2 : o2.data = .cell (some (.ref q3))) (dq : oq.data = .cell vq) (l1 : @LT.lt Nat _ (L + 1 + 1 + 1 + 1) q2) (l2 : @LT.lt Nat _ (L + 1 + 1 + 1 + 1) q3)
    (hr : ∀ z, (∀ p ∈ ([] : List (Str × Value)), z ≠ p.1) → [Str.ofString "rest", Str.ofString "factors"].contains z = false → m' z = m₀ z)
    (hI : BzI x y g2 u2 v2 g3 u3 v3) (hm : g3.natAbs < c.g2.natAbs) :
    KswEnd g L s (BzS.led L ot news) (fun _ => []) (BzS.facts L) [Str.ofString "rest", Str.ofString "factors"] m₀ (BzS.inv x y) (fun c => c.g2.natAbs) c { s with heap := h', toks := tk } :=
  ksw_end (⟨q2, q3, o1, o2, oq, vq, g2, u2, v2, g3, u3, v3, a2, b2, c2, a3, b3, c3⟩ : BzS) F N
    (fun p hp => by
      simp only [BzS.led, List.mem_cons] at hp ⊢
      rcases hp with h | h | h | h | h | h | h <;> simp only [h, true_or, or_true])
    ⟨d1, d2, dq, l1, l2⟩ (fun _ h => nomatch h) hr hI hm
def PairPack (P : Prop) : Prop := P
theorem PairPack.intro {P : Prop} (h : P) : PairPack P := h
noncomputable def AllNe (d : Nat) : List (Addr × Obj) → Prop
  | [] => True
  | p :: r => @Ne Nat p.1 d ∧ AllNe d r
theorem allNe_of {d : Addr} : ∀ {l : List (Addr × Obj)}, (∀ p ∈ l, p.1 ≠ d) → AllNe d l
  | [], _ => trivial
  | p :: _, h => ⟨h p (.head _), allNe_of fun q hq => h q (.tail _ hq)⟩
/-- the block's own name -/
theorem own_name {M : Model} {A : Around} {E : Value → Shared → Prop} {s : Shared} {C : Addr} {scope : Scope} {cl : List (Str × Addr)} {env : Env} {x : Str} {pos : Pos} {v : Value} {m₂ : Str → Option Value} {Q : Value → Shared → Prop}
    (hn : s.heap.Ns (compEnvC scope cl C env).locals m₂) (hv : m₂ x = some v) (h : Q v s)
    (hk : (compEnvC scope cl C env).scope.kind = .function) (hx : (compEnvC scope cl C env).kindOf x = some .local) (hd : (x == ("__debug__" : Str)) = false) :
    wpAny M A (eval (.Name x pos) (compEnvC scope cl C env)) Q E s := wpAny_Name (wpAny_loadName_local hk hx hn hv h) hd
/-- a list comprehension over a made pair of ints, its element an int at each: the list of the two -/
theorem comp_pair {prog : Program} {w : World} {A : Around} {E : Value → Shared → Prop} {s : Shared} {h₀ : Heap} {L : Addr} {m : Str → Option Value} {env : Env} {elt iter : Expr} {x y : Str} {px py : Pos} {scope : Scope} {cl : List (Str × Addr)} {pos spos : Pos} {Q : Flow → Shared → Prop} {i1 i2 d1 d2 : Int}
    (F₀ : Fr h₀ L s.heap m) (hne : i1 ≠ i2)
    (hsw : swapsWith (.ListComp elt [⟨.Name x px, iter, [], 0⟩] scope pos) (some (.Name y py)) spos.line env = pure true) (hL : env.locals = L)
    (hh : A.handled = none) (hclos : closureFor scope env = pure cl) (hcell : ∀ z ∈ scope.names, z.2 ≠ .cell) (hkind : scope.kind = .function)
    (hnames : ∀ z ∈ scope.names, z.2 = .local → scope.names.lookup z.1 = some .local) (hx : scope.names.lookup x = some .local)
    (hy : env.kindOf y = some .local) (hp : (env.scope.kind == .class || (env.scope.kind == .module && env.locals != env.globals)) = false)
    (hs : ∀ x, foldedSetIterable iter env x = pure x)
    (h : wpAny (model prog w) A (eval iter env) (fun xv s₁ => PairPack (∃ (news : List (Addr × Obj)) (ax : Addr) (t1 t2 : Tok), xv = .ref ax ∧ (ax, tupO [.int i1 t1, .int i2 t2] 0) ∈ news ∧ Fr h₀ L s₁.heap m ∧ News h₀ L s₁.heap news ∧
      (∀ C s₂ m₂ E', s₁.heap.objs.size ≤ C → s₂.heap.Ns (compEnvC scope cl C env).locals m₂ → m₂ x = some (.int i1 t1) → (∀ b o, s₁.heap.get? b = some o → s₂.heap.get? b = some o) →
        wpAny (model prog w) A (eval elt (compEnvC scope cl C env)) (fun y s₃ => SeqLeaf (Carried y (.int d1) ∧ Keeps s₂ s₃)) E' s₂) ∧
      (∀ C s₂ m₂ E', s₁.heap.objs.size ≤ C → s₂.heap.Ns (compEnvC scope cl C env).locals m₂ → m₂ x = some (.int i2 t2) → (∀ b o, s₁.heap.get? b = some o → s₂.heap.get? b = some o) →
        wpAny (model prog w) A (eval elt (compEnvC scope cl C env)) (fun y s₃ => SeqLeaf (Carried y (.int d2) ∧ Keeps s₂ s₃)) E' s₂) ∧
      (∀ D n j1 j2 h' tk, Fr h₀ L h' (fun z => if z = y then some (.ref D) else m z) → News h₀ L h' ((D, PySem.W.listOf #[.int d1 j1, .int d2 j2] n) :: news) → AllNe D news → Q .next { s₁ with heap := h', toks := tk }))) E s) :
    wpAny (model prog w) A (exec (.Assign [.Name y py] (.ListComp elt [⟨.Name x px, iter, [], 0⟩] scope pos) spos) env) Q E s := by
  subst hL
  refine wpAny_Assign_ListComp_free (fun _ => true) (fun v r => ((∃ t, v = .int i1 t) ∧ Carried r (.int d1)) ∨ ((∃ t, v = .int i2 t) ∧ Carried r (.int d2))) hsw hclos hcell hkind hnames hx hy hp (wpAny_mono h (fun xv s₁ h₁ => ?_) fun _ _ e => e) hs
  obtain ⟨news, ax, t1, t2, rfl, hm, F, N, e1, e2, hQ⟩ := h₁
  have hl : s₁.heap.IsTuple ax #[.int i1 t1, .int i2 t2] := ⟨_, (N _ hm).1, rfl, 0, rfl⟩
  have hlt : ax < s₁.heap.objs.size := Heap.lt_size (N _ hm).1
  have up : ∀ (s₃ : Shared), (∀ b o, b ∉ [s₁.heap.objs.size] → (s₁.heap.push { cls := .type "tuple_iterator", data := .fields #[.ref ax, .int 0 0] }).get? b = some o → s₃.heap.get? b = some o) → ∀ b o, s₁.heap.get? b = some o → s₃.heap.get? b = some o :=
    fun s₃ hk b o e => hk b o (fun hm => by rcases List.mem_cons.mp hm with rfl | hm; exact Nat.lt_irrefl _ (Heap.lt_size e); cases hm) (Heap.get?_push_of_some _ e)
  refine wpAny_pyIter_tuple hl ⟨s₁.heap.objs.size, [s₁.heap.objs.size, ax], [s₁.heap.objs.size], _, _, _, m, rfl, Walks.tuple hh _ _ (Nat.ne_of_lt hlt) #[.int i1 t1, .int i2 t2], (by rw [sizeLine_eq]; exact Nat.le_of_ble_eq_true rfl), ⟨⟨_, Heap.get?_push_size _ rfl, rfl, rfl⟩, ⟨_, Heap.get?_push_of_some _ (N _ hm).1, rfl, 0, rfl⟩⟩, ?_, ?_, F.ns.push _, ⟨?_, ?_⟩, ?_⟩
  · intro b hb
    show b < (s₁.heap.push _).objs.size
    rw [Heap.size_push]
    rcases List.mem_cons.mp hb with rfl | hb
    · exact Nat.lt_succ_self _
    · rcases List.mem_cons.mp hb with rfl | hb
      · exact Nat.lt_succ_of_lt hlt
      · cases hb
  · intro hm
    rcases List.mem_cons.mp hm with e | hm
    · exact Nat.lt_irrefl _ (e ▸ F.ns.lt)
    · cases hm
  · intro C i v s₃ m₃ E' hC hP hn hm hk _
    exact wpAny_pure ⟨rfl, ⟨s₃.heap, s₃.toks, rfl, fun _ _ e => e⟩⟩
  · intro C i v s₃ m₃ E' hC hP _ hn hm hk _
    have hC' : s₁.heap.objs.size ≤ C := Nat.le_of_succ_le (by simpa [Heap.size_push] using hC)
    have hv : v = .int i1 t1 ∨ v = .int i2 t2 := by
      have := Array.mem_of_getElem? hP
      simpa using this
    rcases hv with rfl | rfl
    · exact wpAny_mono (e1 C s₃ m₃ E' hC' hn hm (up s₃ hk)) (fun y s₄ h₄ => ⟨.inl ⟨⟨_, rfl⟩, h₄.1⟩, h₄.2⟩) fun _ _ e => e
    · exact wpAny_mono (e2 C s₃ m₃ E' hC' hn hm (up s₃ hk)) (fun y s₄ h₄ => ⟨.inr ⟨⟨_, rfl⟩, h₄.1⟩, h₄.2⟩) fun _ _ e => e
  · intro D h' tk ys vs' hnew hlD hplD hlen hP hF hn' hk
    have keep : ∀ b o, b ≠ env.locals → s₁.heap.get? b = some o → h'.get? b = some o := fun b o hb e =>
      hk b o hb (fun hm => by rcases List.mem_cons.mp hm with rfl | hm; exact Nat.lt_irrefl _ (Heap.lt_size e); cases hm) (Heap.get?_push_of_some _ e)
    have e : vs' = [.int i1 t1, .int i2 t2] := by
      match vs', hlen, hP with
      | [a, b], _, hP =>
        have h1 := hP 0 a rfl
        have h2 := hP 1 b rfl
        simp at h1 h2
        rw [h1, h2]
    subst e
    have two : ∃ j1 j2, ys = #[.int d1 j1, .int d2 j2] := by
      obtain ⟨l⟩ := ys
      change Paired _ [Value.int i1 t1, Value.int i2 t2] l at hF
      cases hF with
      | cons ha hr =>
        cases hr with
        | cons hb hr =>
          cases hr
          rcases ha with ⟨_, ha⟩ | ⟨⟨t, ha⟩, _⟩
          · rcases hb with ⟨⟨t, hb⟩, _⟩ | ⟨_, hb⟩
            · cases hb; exact absurd rfl hne
            · cases ha; cases hb; exact ⟨_, _, rfl⟩
          · cases ha; exact absurd rfl hne
    obtain ⟨j1, j2, rfl⟩ := two
    obtain ⟨n, hpD⟩ := hplD
    refine hQ D n j1 j2 h' tk ⟨hn', fun b o e => keep b o (Nat.ne_of_lt (Nat.lt_of_lt_of_le (Heap.lt_size e) F.above)) (F.keep b o e), F.above⟩ (fun p hp => ?_) (allNe_of fun p hp e => by rw [← e, Heap.get?_push_of_some _ (N p hp).1] at hnew; cases hnew)
    rcases List.mem_cons.mp hp with rfl | hp
    · refine ⟨hpD, fun e => ?_, ?_⟩
      · obtain ⟨oL, _, _, hL, _⟩ := F.ns
        have e' : D = env.locals := e
        rw [e', Heap.get?_push_of_some _ hL] at hnew; cases hnew
      · cases e : h₀.get? D with
        | none => rfl
        | some o' => rw [Heap.get?_push_of_some _ (F.keep _ _ e)] at hnew; cases hnew
    · exact ⟨keep _ _ (N p hp).2.1 (N p hp).1, (N p hp).2⟩
/-- a call of _law_bezout, in whatever frame it stands -/
def TelB (w : World) (t : Addr) (x y : Int) (tx ty : Tok) : Prop :=
  ∀ (loose : List Str) (mean : ExcName → Option Value) (mg mb : Str → Option Value) (dp un : Nat) (gd : Option (List Code)) (cn : Str) (cs : Scope) (a : Addr) (ccd : Value) (cl : List (Str × Addr)) (outer : List Env) (A₀ : Around) (base h₀ : Heap) (L : Addr) (m : Str → Option Value) (news : List (Addr × Obj)) (s : Shared) (Q E : Value → Shared → Prop),
    Below A₀ base outer h₀ → Fr h₀ L s.heap m → (hd.heap_1 w.params).In h₀ → News h₀ L s.heap news → Top hd.view_1 loose mean mg mb h₀ → cs.kind = .function → HasT news t →
    dp + 10 < recursionLimit → un + 160 < cLine →
    (∀ (q : Addr) (g u v : Int) (t1 t2 t3 : Tok) (h' : Heap) (tk' : Nat), BzR x y g u v → (∀ p ∈ news, p.1 < q) → Fr h₀ L h' m → News h₀ L h' ((q, tupO [.int g t1, .int u t2, .int v t3] 0) :: news) → Q (.ref q) { s with heap := h', toks := tk' }) →
      wpAny (model PySem.Challenge.rw_xw0003_01.row.prog w) (ktrTop dp un gd cn cs L a ccd cl outer) (call (.ref 352) [.ref t, .int x tx, .int y ty]) Q E s

theorem all_ne {c d : Nat} : ∀ {l : List (Addr × Obj)}, AllLt d l → d ≤ c → ∀ p ∈ l, p.1 ≠ c
  | [], _, _, _, h => nomatch h
  | q :: r, h, hc, p, hp => by
    have h1 : @LT.lt Nat _ q.1 d := h.1
    rcases List.mem_cons.mp hp with rfl | hp
    · exact Nat.ne_of_lt (Nat.lt_of_lt_of_le h1 hc)
    · exact all_ne h.2 hc p hp
local macro_rules | `(tactic| k_all) => `(tactic| (refine all_ne (by with_reducible assumption) ?_; omega))
local macro_rules | `(tactic| walk_at "exec Assign cons ListComp") => `(tactic| (k_here; k_extra "comp"))
local macro_rules | `(tactic| walk_at "PairPack") => `(tactic| ((refine PairPack.intro ?_); (rename Fr _ _ _ _ => lF'); (rename News _ _ _ _ => lN'); (with_unfolding_all refine' ⟨_, _, _, _, rfl, ?mem, lF', lN', ?_, ?_, ?_⟩); (case mem => k_mem); (intro C9 s9 m9 E9 hC9 hN9 hx9 hk9); (have cF9 := Fr.keeps lF' hk9); (have cN9 := News.grown lN' hk9); (have cE9 := InElt.start s9.heap); (clear lF' lN'); rotate_left; (intro C9 s9 m9 E9 hC9 hN9 hx9 hk9); (have cF9 := Fr.keeps lF' hk9); (have cN9 := News.grown lN' hk9); (have cE9 := InElt.start s9.heap); (clear lF' lN'); rotate_left; (clear lF' lN'); (intro D9 n9 j9 k9 h9 tk9 F9 N9 o9); (simp only [AllNe] at o9)))
local macro_rules | `(tactic| walk_at "eval Name") => `(tactic| (k_here; (with_reducible show wpAny _ _ (eval (Expr.Name _ _) (compEnvC _ _ _ _)) _ _ _); k_dflt (refine' own_name ?n ?x ?_ ?a ?b ?c; (case n => assumption); (case x => assumption); (case a => rfl); (case b => rfl); (case c => decide))))
local macro_rules | `(tactic| ktr_rel) => `(tactic| ((have q9 := bz_fact (by with_reducible assumption) (by assumption) (by assumption) (by assumption) (by assumption) (by assumption)); omega))
set_option maxRecDepth 100000 in
set_option maxHeartbeats 8000000 in
theorem bezout (w : World) (t : Addr) (x y : Int) (tx ty : Tok) (hx1 : -60 ≤ x) (hx2 : x ≤ 60) (hy1 : -60 ≤ y) (hy2 : y ≤ 60) : TelB w t x y tx ty := by
  unfold TelB
  k_fill
  w_on
  intro loose mean mg mb dp un gd cn cs a ccd cl outer A₀ base h₀ L m news s Q E B F X N T hk hmem hd hu hret
  have cE0 := InElt.start s.heap
  refine wpAny_call ?_
  k_dflt (refine' code_defC ?k1 ?k2 ?k3 ?k4 ?k5 ?kA ?kF ?kK ?k6 ?k7 ?k8 ?k9 ?kB ?kD ?_ ?c2 ?c3 ?c4; (case kA => exact rfl); (case kF => exact rfl); (case kK => assumption); (case k1 => k_asm); (case k2 => k_asm); (case k3 => k_asm); (case k4 => k_asm); (case k5 => k_asm); (case k6 => k_is); (case k7 => k_is); (case k8 => ktr_room); (case k9 => exact BindsTo.of_eq rfl); (case kB => exact rfl); (case kD => decide +kernel); (case c2 => exact rfl); (case c3 => exact rfl); (case c4 => exact rfl); k_whole; intro g' L' h' tk' cells' FG' F' N' Y' B' X' T' l1; (replace l1 := allLt_of l1); obtain ⟨o', o2', o3', o4', hE', d1', d2', d3', d4'⟩ := CellsAre.four Y'; subst hE'; clear Y'; (try simp only [List.cons_append, List.nil_append] at N'); (try dsimp only); (try k_lift B'); (try k_fold))
  k_with "exec While Compare cons nil" => ((rename Fr _ _ _ _ => lF'); (rename News _ _ _ _ => lN'); (with_unfolding_all refine' bz_loop (x := x) (y := y) (vq := none) ?bx ?bz lF' lN' ?d1 ?d2 ?dq ?l1 ?l2 ?_ ?hE); (case bx => omega); (case bz => omega); (case d1 => assumption); (case d2 => assumption); (case dq => assumption); (case l1 => omega); (case l2 => omega); (case hE => passes_own); (clear lF' lN'); intro q1 q2 o1 o2 oq vq g1 u1 v1 g2 u2 v2 a1 b1 c1 a2 b2 c2 u h tk hI f1 f2 f3 f4 f5 F8 N8; (try k_fold))
  k_with "comp" => ((refine' comp_pair (d1 := u1 - g1.tdiv g2 * u2) (d2 := v1 - g1.tdiv g2 * v2) (i1 := 1) (i2 := 2) ?hF ?hne ?hsw ?hL ?hh ?hclos ?hcell ?hkind ?hnames ?hx ?hy ?hp ?hs ?_); (case hF => k_asm); (case hne => decide); (case hsw => with_unfolding_all rfl); (case hL => with_unfolding_all rfl); (case hh => with_unfolding_all rfl); (case hclos => with_unfolding_all rfl); (case hcell => decide); (case hkind => with_unfolding_all rfl); (case hnames => decide); (case hx => with_unfolding_all rfl); (case hy => with_unfolding_all rfl); (case hp => with_unfolding_all rfl); (case hs => intro _; with_unfolding_all rfl))
  k_steps
  · refine' bz_end ?F ?N ?d1 ?d2 ?dq ?l1 ?l2 ?hr ?hI ?hm; (case F => k_asm); (case N => k_asm); (case d1 => assumption); (case d2 => assumption); (case dq => assumption); (case l1 => omega); (case l2 => omega); (case hr => ksw_same); (case hI => exact bz_next (by omega) (by omega) hI (by assumption)); (case hm => exact tmod_less (by assumption))
  · refine' hret q1 g1 u1 v1 a1 b1 c1 _ _ ?hR ?hq ?F ?N; (case hR => exact bz_result hI (by assumption)); (case hq => exact lt_all l1 (by omega)); (case F => k_asm); (case N => (refine' cb_drop ?cbN ?cbS; (case cbN => assumption); (case cbS => (intro p9 h9; (rcases List.mem_cons.mp h9 with h9 | h9); (subst h9; k_mem); (repeat (first | exact h9 | (refine' List.Mem.tail _ ?_)))))))
theorem get_at {prog : Program} {w : World} {A : Around} {E : Value → Shared → Prop} {s : Shared} {h₀ : Heap} {L l : Addr} {vs : List Value} {n : Nat} {k : Int} {t : Tok} {x : Value} {news : List (Addr × Obj)} {Q : Value → Shared → Prop} (N : News h₀ L s.heap news) (hm : (l, PySem.W.listOf vs.toArray n) ∈ news)
    (h0 : 0 ≤ k) (hfit : k < 2 ^ 63) (hx : vs[k.toNat]? = some x) (h : Q x s) : wpAny (model prog w) A (getItem (.ref l) (.int k t)) Q E s :=
  wpAny_getItem_list ⟨_, (N _ hm).1, rfl, n, rfl⟩ h0 hfit (by simpa using hx) h
/-- a call of _law_chew -/
def TelC (w : World) (l D : Addr) (k : Int) (tk : Tok) (n n2 : Nat) (ws : List Value) (xs : List Int) (many : Int) (tm : Tok) : Prop :=
  ∀ (loose : List Str) (mean : ExcName → Option Value) (mg mb : Str → Option Value) (dp un : Nat) (gd : Option (List Code)) (cn : Str) (cs : Scope) (a : Addr) (ccd : Value) (cl : List (Str × Addr)) (outer : List Env) (A₀ : Around) (base h₀ : Heap) (L : Addr) (m : Str → Option Value) (news : List (Addr × Obj)) (s : Shared) (Q E : Value → Shared → Prop),
    Below A₀ base outer h₀ → Fr h₀ L s.heap m → (hd.heap_1 w.params).In h₀ → News h₀ L s.heap ((l, PySem.W.listOf #[.ref D, .int k tk] n) :: news) → Top hd.view_1 loose mean mg mb h₀ → cs.kind = .function → (D, PySem.W.listOf ws.toArray n2) ∈ news → (∀ p ∈ news, p.1 ≠ l) →
    dp + 4 < recursionLimit → un + 60 < cLine →
    (∀ (r : Int) (t t1 : Tok) (h' : Heap) (tk' : Nat), 0 ≤ r → r < many → Fr h₀ L h' m → News h₀ L h' ((l, PySem.W.listOf #[.ref D, .int (k + 1) t1] n) :: news) → Q (.int r t) { s with heap := h', toks := tk' }) →
      wpAny (model PySem.Challenge.rw_xw0003_01.row.prog w) (ktrTop dp un gd cn cs L a ccd cl outer) (call (.ref 333) [.ref l, .int many tm]) Q E s
theorem news_less {h₀ h : Heap} {L : Addr} {p : Addr × Obj} {news : List (Addr × Obj)} (N : News h₀ L h (p :: news)) : News h₀ L h news := fun q hq => N q (.tail _ hq)
theorem fmod_in {a b : Int} (h : 0 < b) : 0 ≤ a.fmod b ∧ a.fmod b < b := ⟨Int.fmod_nonneg_of_pos a h, Int.fmod_lt_of_pos a h⟩
local macro_rules | `(tactic| walk_at "getItem ref int") => `(tactic| (k_here; k_dflt (refine' get_at ?k1 ?k2 ?k3 ?k4 ?k5 ?_; (case k1 => k_asm); (case k2 => k_mem); (case k3 => decide); (case k4 => decide); (case k5 => rfl); k_whole)))
theorem len_at {prog : Program} {w : World} {A : Around} {E : Value → Shared → Prop} {s : Shared} {h₀ : Heap} {L l : Addr} {vs : List Value} {ns : List Int} {n : Nat} {news : List (Addr × Obj)} {Q : Value → Shared → Prop} (N : News h₀ L s.heap news) (hi : IntsAre vs ns) (hm : (l, PySem.W.listOf vs.toArray n) ∈ news)
    (hfit : ns.length < 2 ^ 62) (h : Q (.int (ns.length : Nat) (s.toks + 1)) { s with toks := s.toks + 1 + 1 }) : wpAny (model prog w) A (call (.builtin "len") [.ref l]) Q E s :=
  len_ints_fit ⟨_, (N _ hm).1, rfl, n, rfl⟩ hi hfit h
theorem item_at {prog : Program} {w : World} {A : Around} {E : Value → Shared → Prop} {s : Shared} {h₀ : Heap} {L l : Addr} {vs : List Value} {ns : List Int} {n : Nat} {k : Int} {u : Tok} {value slice : Expr} {news : List (Addr × Obj)} {Q : Value → Shared → Prop} (N : News h₀ L s.heap news) (hi : IntsAre vs ns) (hm : (l, PySem.W.listOf vs.toArray n) ∈ news)
    (h0 : 0 ≤ k) (h1 : k < ns.length) (hfit : k < 2 ^ 63) (h : ∀ r t, Q (.int r t) s)
    (hs : subscripted slice false (.ref l) (.int k u) = operate [.ref l, .int k u] (getItem (.ref l) (.int k u)) := by with_unfolding_all rfl) (hg : ∀ r, letTemporaryGo value (.ref l) r = pure () := by intro _; with_unfolding_all rfl) :
    wpAny (model prog w) A (subscriptTail value slice (.ref l) (.int k u)) Q E s :=
  item_list_ints ⟨_, (N _ hm).1, rfl, n, rfl⟩ hi h0 h1 hfit (h _) hs hg
theorem rest_at {prog : Program} {w : World} {A : Around} {E : Value → Shared → Prop} {s : Shared} {h₀ : Heap} {L l : Addr} {a b c d : Int} {t1 t2 t3 t4 : Tok} {n : Nat} {k : Int} {u : Tok} {value slice : Expr} {news : List (Addr × Obj)} {Q : Value → Shared → Prop} (N : News h₀ L s.heap news) (hm : (l, tupO [.int a t1, .int b t2, .int c t3, .int d t4] n) ∈ news)
    (h0 : 0 ≤ k) (h1 : k ≤ 3) (h : ∀ r t, Q (.int r t) s)
    (hs : subscripted slice false (.ref l) (.int k u) = operate [.ref l, .int k u] (getItem (.ref l) (.int k u)) := by with_unfolding_all rfl) (hg : ∀ r, letTemporaryGo value (.ref l) r = pure () := by intro _; with_unfolding_all rfl) :
    wpAny (model prog w) A (subscriptTail value slice (.ref l) (.int k u)) Q E s :=
  item_tuple_ints (News.isTup N hm) (.cons a t1 (.cons b t2 (.cons c t3 (.cons d t4 .nil)))) h0 (by simp only [List.length_cons, List.length_nil]; omega) (by omega) (h _) hs hg
local macro_rules | `(tactic| k_mem) => `(tactic| assumption)
local macro_rules | `(tactic| walk_at "call builtin:len") => `(tactic| (k_here; k_dflt (refine' len_at ?k1 ?k2 ?k3 ?k4 ?_; (case k1 => k_asm); (case k2 => assumption); (case k3 => k_mem); (case k4 => omega))))
local macro_rules | `(tactic| walk_at "subscriptTail Subscript BinOp ref int") => `(tactic| (k_here; k_dflt (refine' item_at ?k1 ?k2 ?k3 ?k4 ?k5 ?k6 ?_; (case k1 => k_asm); (case k2 => assumption); (case k3 => k_mem); (case k4 => omega); (case k5 => omega); (case k6 => omega)); intro _ _))
local macro_rules | `(tactic| walk_at "subscriptTail Call BinOp ref int") => `(tactic| (k_here; k_dflt (refine' rest_at ?k1 ?k2 ?k3 ?k4 ?_; (case k1 => k_asm); (case k2 => k_mem); (case k3 => omega); (case k4 => omega)); intro _ _))
local macro_rules | `(tactic| k_all) => `(tactic| with_reducible assumption)
set_option maxRecDepth 100000 in
set_option maxHeartbeats 8000000 in
theorem chew (w : World) (l D : Addr) (k : Int) (tk : Tok) (n n2 : Nat) (ws : List Value) (xs : List Int) (many : Int) (tm : Tok) (hi : IntsAre ws xs) (hxs : xs.length ≤ 4) (hk0 : 0 ≤ k) (hk3 : k ≤ 3) (hm0 : 0 < many) (hm1 : many ≤ 1000) : TelC w l D k tk n n2 ws xs many tm := by
  unfold TelC
  k_fill
  w_on
  intro loose mean mg mb dp un gd cn cs a ccd cl outer A₀ base h₀ L m news s Q E B F X N T hk hD hne hd hu hret
  refine wpAny_call ?_
  k_dflt cell_enter
  k_steps
  all_goals (refine' hret _ _ _ _ _ (fmod_in hm0).1 (fmod_in hm0).2 ?F ?N; (case F => k_asm); (case N => first | k_asm | exact news_less (by assumption)))
def FiltPack (P : Prop) : Prop := P
theorem FiltPack.intro {P : Prop} (h : P) : FiltPack P := h
def FiltLeaf (P : Prop) : Prop := P
theorem FiltLeaf.intro {P : Prop} (h : P) : FiltLeaf P := h
theorem rangeKs_succ (lo : Int) (n : Nat) : rangeKs lo (n + 1) = lo :: rangeKs (lo + 1) n := by
  simp only [rangeKs, List.range_succ_eq_map, List.map_cons, List.map_map, Int.natCast_zero, Int.add_zero]
  congr 1
  apply List.map_congr_left
  intro i _
  simp only [Function.comp, Nat.succ_eq_add_one]
  omega
theorem ints_range : ∀ (vs : List Value) (lo : Int) (n : Nat), vs.length = n → (∀ (j : Nat) (v : Value), vs[j]? = some v → ∃ t, v = Value.int (lo + (j : Int) * 1) t) → IntsAre vs (rangeKs lo n)
  | [], lo, n, hl, _ => by subst hl; exact .nil
  | v :: r, lo, n, hl, h => by
    subst hl
    obtain ⟨t, e⟩ := h 0 v rfl
    rw [show (v :: r).length = r.length + 1 from rfl, rangeKs_succ, e, show lo + ((0 : Nat) : Int) * 1 = lo by omega]
    refine .cons _ _ (ints_range r (lo + 1) r.length rfl fun j v' hv => ?_)
    obtain ⟨t', e'⟩ := h (j + 1) v' hv
    exact ⟨t', by rw [e']; congr 1; omega⟩
def passV (pz : Int → Bool) : Value → Bool
  | .int k _ => pz k
  | _ => false
theorem ints_filter {pz : Int → Bool} : ∀ {vs : List Value} {ns : List Int}, IntsAre vs ns → IntsAre (vs.filter (passV pz)) (ns.filter pz)
  | _, _, .nil => .nil
  | _, _, .cons n t r => by
    have ih := ints_filter (pz := pz) r
    cases h : pz n with
    | true => rw [List.filter_cons_of_pos (by exact h), List.filter_cons_of_pos (by exact h)]; exact .cons _ _ ih
    | false => rw [List.filter_cons_of_neg (by rw [passV, h]; decide), List.filter_cons_of_neg (by rw [h]; decide)]; exact ih
theorem paired_same : ∀ {l r : List Value}, Paired (fun v y => y = v) l r → r = l
  | _, _, .nil => rfl
  | _, _, .cons h r => by rw [h, paired_same r]
/-- what a list comprehension over a range asks, its test told, its element the name itself -/
def FiltAsk (prog : Program) (w : World) (A : Around) (h₀ : Heap) (L : Addr) (m : Str → Option Value) (env : Env) (x : Str) (c : Expr) (scope : Scope) (cl : List (Str × Addr)) (pz : Int → Bool) (lo hi : Int) (Done : Addr → Heap → Prop) (R : Addr → Shared → Prop) (xv : Value) (s₁ : Shared) : Prop :=
  ∃ (news : List (Addr × Obj)) (r : Addr) (t0 u0 v0 : Tok), xv = .ref r ∧ IsRange s₁.heap r lo hi 1 t0 u0 v0 ∧ -1000 ≤ lo ∧ lo ≤ 1000 ∧ -1000 ≤ hi ∧ hi ≤ 1000 ∧ Fr h₀ L s₁.heap m ∧ News h₀ L s₁.heap news ∧
    (∀ C k t s₂ m₂ E', s₁.heap.objs.size ≤ C → lo ≤ k → k < hi → s₂.heap.Ns (compEnvC scope cl C env).locals m₂ → m₂ x = some (.int k t) → (∀ b o, s₁.heap.get? b = some o → s₂.heap.get? b = some o) →
      wpAny (model prog w) A (isTrue c (compEnvC scope cl C env) (eval c (compEnvC scope cl C env))) (fun ok s₃ => FiltLeaf (ok = pz k ∧ Keeps s₂ s₃)) E' s₂) ∧
    (∀ D n ys h' tk, Done D h' → News h₀ L h' ((D, PySem.W.listOf (ys : List Value).toArray n) :: news) → AllNe D news → IntsAre ys ((rangeKs lo (hi - lo).toNat).filter pz) → R D { s₁ with heap := h', toks := tk })
section
variable {prog : Program} {w : World} {A : Around} {E : Value → Shared → Prop} {s : Shared} {h₀ : Heap} {L : Addr} {m : Str → Option Value} {env : Env} {iter c : Expr} {x y : Str} {px py px' : Pos} {scope : Scope} {cl : List (Str × Addr)} {pos spos : Pos} {pz : Int → Bool} {lo hi : Int}
theorem filt_quiet {s₁ : Shared} (hkC : ∀ C, (compEnvC scope cl C env).scope.kind = .function) (hxC : ∀ C, (compEnvC scope cl C env).kindOf x = some .local) (hd : (x == ("__debug__" : Str)) = false)
    (test : ∀ C k t s₂ m₂ E', s₁.heap.objs.size ≤ C → lo ≤ k → k < hi → s₂.heap.Ns (compEnvC scope cl C env).locals m₂ → m₂ x = some (.int k t) → (∀ b o, s₁.heap.get? b = some o → s₂.heap.get? b = some o) →
      wpAny (model prog w) A (isTrue c (compEnvC scope cl C env) (eval c (compEnvC scope cl C env))) (fun ok s₃ => FiltLeaf (ok = pz k ∧ Keeps s₂ s₃)) E' s₂) (o : Obj) :
    QuietOnC prog w A env scope cl x [c] (.Name x px') [s₁.heap.objs.size] (fun i v => i < (hi - lo).toNat ∧ ∃ t, v = .int (lo + (i : Int) * 1) t) (passV pz) (fun v y => y = v) { s₁ with heap := s₁.heap.push o } where
  tests := fun C i v s₃ m₃ E' hC hP hn hm hk _ => by
    obtain ⟨hi', t, rfl⟩ := hP
    have up : ∀ b o', s₁.heap.get? b = some o' → s₃.heap.get? b = some o' :=
      fun b o' e => hk b o' (fun hm => by rcases List.mem_cons.mp hm with rfl | hm; exact Nat.lt_irrefl _ (Heap.lt_size e); cases hm) (Heap.get?_push_of_some _ e)
    have h1 := test C (lo + (i : Int) * 1) t s₃ m₃ E' (Nat.le_of_succ_le (by simpa [Heap.size_push] using hC)) (by omega) (by omega) hn hm up
    simp only [List.forIn_cons, List.forIn_nil, if_true]
    refine wpAny_bind (wpAny_bind (wpAny_mono h1 (fun ok s₄ h => wpAny_pure (wpAny_pure h)) fun _ _ e => e))
  elt := fun C i v s₃ m₃ E' hC hP hp hn hm hk _ => by
    exact wpAny_Name (wpAny_loadName_local (hkC C) (hxC C) hn hm ⟨rfl, ⟨s₃.heap, s₃.toks, rfl, fun _ _ e => e⟩⟩) hd
theorem comp_filter {Q : Value → Shared → Prop} (F₀ : Fr h₀ L s.heap m) (hh : A.handled = none) (hclos : closureFor scope env = pure cl) (hcell : ∀ z ∈ scope.names, z.2 ≠ .cell) (hkind : scope.kind = .function)
    (hnames : ∀ z ∈ scope.names, z.2 = .local → scope.names.lookup z.1 = some .local) (hx : scope.names.lookup x = some .local) (hkC : ∀ C, (compEnvC scope cl C env).scope.kind = .function) (hxC : ∀ C, (compEnvC scope cl C env).kindOf x = some .local) (hd : (x == ("__debug__" : Str)) = false) (hs : ∀ x, foldedSetIterable iter env x = pure x)
    (h : wpAny (model prog w) A (eval iter env) (fun xv s₁ => FiltPack (FiltAsk prog w A h₀ L m env x c scope cl pz lo hi (fun _ h' => Fr h₀ L h' m) (fun D s' => Q (.ref D) s') xv s₁)) E s) :
    wpAny (model prog w) A (eval (.ListComp (.Name x px') [⟨.Name x px, iter, [c], 0⟩] scope pos) env) Q E s := by
  refine wpAny_ListComp_free (passV pz) (fun v r => r = v) hclos hcell hkind hnames hx (wpAny_mono h (fun xv s₁ h₁ => ?_) fun _ _ e => e) hs
  obtain ⟨news, r, t0, u0, v0, rfl, hr, b1, b2, b3, b4, F, N, test, hQ⟩ := h₁
  refine wpAny_pyIter_range hr (small_one (by omega) (by omega) (by omega) (by omega)) ?_
  refine ⟨s₁.heap.objs.size, [s₁.heap.objs.size], [s₁.heap.objs.size], (hi - lo).toNat, _, _, rfl, (Walks.range hh _ lo 1 (hi - lo).toNat).bound, by rw [sizeLine_eq]; omega, ?_, ?_, filt_quiet hkC hxC hd test _, ?_⟩
  · show IsRangeIter _ _ _ _ _
    rw [rangeSize_nat]
    simpa using Heap.get?_push_size _ rfl
  · intro b hb
    rw [List.mem_singleton.mp hb]
    show _ < (s₁.heap.push _).objs.size
    rw [Heap.size_push]
    exact Nat.lt_succ_self _
  · intro D h' tk ys vs' hnew hlD hplD hlen hP hF hk
    have keep : ∀ b o, s₁.heap.get? b = some o → h'.get? b = some o := fun b o e =>
      hk b o (fun hm => by rcases List.mem_cons.mp hm with rfl | hm; exact Nat.lt_irrefl _ (Heap.lt_size e); cases hm) (Heap.get?_push_of_some _ e)
    obtain ⟨n, hpD⟩ := hplD
    have hy : ys = (vs'.filter (passV pz)).toArray := by rw [← paired_same hF]
    have hI := ints_filter (pz := pz) (ints_range vs' lo _ hlen fun j v hv => (hP j v hv).2)
    rw [hy] at hpD
    refine hQ D n (vs'.filter (passV pz)) h' tk (F.keeps keep) (fun p hp => ?_) (allNe_of fun p hp e => by rw [← e, Heap.get?_push_of_some _ (N p hp).1] at hnew; cases hnew) hI
    rcases List.mem_cons.mp hp with rfl | hp
    · refine ⟨hpD, fun e => ?_, ?_⟩
      · obtain ⟨oL, _, _, hL, _⟩ := F.ns
        have e' : D = L := e
        rw [e', Heap.get?_push_of_some _ hL] at hnew; cases hnew
      · cases e : h₀.get? D with
        | none => rfl
        | some o' => rw [Heap.get?_push_of_some _ (F.keep _ _ e)] at hnew; cases hnew
    · exact ⟨keep _ _ (N p hp).1, (N p hp).2⟩
theorem comp_filter_assign {Q : Flow → Shared → Prop} (F₀ : Fr h₀ L s.heap m) (hsw : swapsWith (.ListComp (.Name x px') [⟨.Name x px, iter, [c], 0⟩] scope pos) (some (.Name y py)) spos.line env = pure true) (hL : env.locals = L)
    (hh : A.handled = none) (hclos : closureFor scope env = pure cl) (hcell : ∀ z ∈ scope.names, z.2 ≠ .cell) (hkind : scope.kind = .function)
    (hnames : ∀ z ∈ scope.names, z.2 = .local → scope.names.lookup z.1 = some .local) (hx : scope.names.lookup x = some .local) (hkC : ∀ C, (compEnvC scope cl C env).scope.kind = .function) (hxC : ∀ C, (compEnvC scope cl C env).kindOf x = some .local) (hd : (x == ("__debug__" : Str)) = false)
    (hy : env.kindOf y = some .local) (hp : (env.scope.kind == .class || (env.scope.kind == .module && env.locals != env.globals)) = false) (hs : ∀ x, foldedSetIterable iter env x = pure x)
    (h : wpAny (model prog w) A (eval iter env) (fun xv s₁ => FiltPack (FiltAsk prog w A h₀ L m env x c scope cl pz lo hi (fun D h' => Fr h₀ L h' (fun z => if z = y then some (.ref D) else m z)) (fun _ s' => Q .next s') xv s₁)) E s) :
    wpAny (model prog w) A (exec (.Assign [.Name y py] (.ListComp (.Name x px') [⟨.Name x px, iter, [c], 0⟩] scope pos) spos) env) Q E s := by
  subst hL
  refine wpAny_Assign_ListComp_free (passV pz) (fun v r => r = v) hsw hclos hcell hkind hnames hx hy hp (wpAny_mono h (fun xv s₁ h₁ => ?_) fun _ _ e => e) hs
  obtain ⟨news, r, t0, u0, v0, rfl, hr, b1, b2, b3, b4, F, N, test, hQ⟩ := h₁
  refine wpAny_pyIter_range hr (small_one (by omega) (by omega) (by omega) (by omega)) ?_
  refine ⟨s₁.heap.objs.size, [s₁.heap.objs.size], [s₁.heap.objs.size], (hi - lo).toNat, _, _, m, rfl, (Walks.range hh _ lo 1 (hi - lo).toNat).bound, by rw [sizeLine_eq]; omega, ?_, ?_, ?_, F.ns.push _, filt_quiet hkC hxC hd test _, ?_⟩
  · show IsRangeIter _ _ _ _ _
    rw [rangeSize_nat]
    simpa using Heap.get?_push_size _ rfl
  · intro b hb
    rw [List.mem_singleton.mp hb]
    show _ < (s₁.heap.push _).objs.size
    rw [Heap.size_push]
    exact Nat.lt_succ_self _
  · intro hm
    rcases List.mem_cons.mp hm with e | hm
    · exact Nat.lt_irrefl _ (e ▸ F.ns.lt)
    · cases hm
  · intro D h' tk ys vs' hnew hlD hplD hlen hP hF hn' hk
    have keep : ∀ b o, b ≠ env.locals → s₁.heap.get? b = some o → h'.get? b = some o := fun b o hb e =>
      hk b o hb (fun hm => by rcases List.mem_cons.mp hm with rfl | hm; exact Nat.lt_irrefl _ (Heap.lt_size e); cases hm) (Heap.get?_push_of_some _ e)
    obtain ⟨n, hpD⟩ := hplD
    have hy : ys = (vs'.filter (passV pz)).toArray := by rw [← paired_same hF]
    have hI := ints_filter (pz := pz) (ints_range vs' lo _ hlen fun j v hv => (hP j v hv).2)
    rw [hy] at hpD
    refine hQ D n (vs'.filter (passV pz)) h' tk ⟨hn', fun b o e => keep b o (Nat.ne_of_lt (Nat.lt_of_lt_of_le (Heap.lt_size e) F.above)) (F.keep b o e), F.above⟩ (fun p hp => ?_) (allNe_of fun p hp e => by rw [← e, Heap.get?_push_of_some _ (N p hp).1] at hnew; cases hnew) hI
    rcases List.mem_cons.mp hp with rfl | hp
    · refine ⟨hpD, fun e => ?_, ?_⟩
      · obtain ⟨oL, _, _, hL, _⟩ := F.ns
        have e' : D = env.locals := e
        rw [e', Heap.get?_push_of_some _ hL] at hnew; cases hnew
      · cases e : h₀.get? D with
        | none => rfl
        | some o' => rw [Heap.get?_push_of_some _ (F.keep _ _ e)] at hnew; cases hnew
    · exact ⟨keep _ _ (N p hp).2.1 (N p hp).1, (N p hp).2⟩
end
theorem filter_none {pz : Int → Bool} : ∀ (n : Nat) (lo : Int), (∀ k, lo ≤ k → k < lo + (n : Int) → pz k = false) → (rangeKs lo n).filter pz = []
  | 0, _, _ => rfl
  | n + 1, lo, h => by
    rw [rangeKs_succ, List.filter_cons_of_neg (by rw [h lo (by omega) (by omega)]; decide)]
    exact filter_none n (lo + 1) fun k h1 h2 => h k (by omega) (by omega)
theorem filter_one {pz : Int → Bool} {N : Int} : ∀ (n : Nat) (lo : Int), lo ≤ N → N < lo + (n : Int) → pz N = true → (∀ k, lo ≤ k → k < lo + (n : Int) → pz k = true → k = N) → (rangeKs lo n).filter pz = [N]
  | 0, lo, h1, h2, _, _ => by omega
  | n + 1, lo, h1, h2, hN, h => by
    rw [rangeKs_succ]
    by_cases e : lo = N
    · subst e
      rw [List.filter_cons_of_pos hN, filter_none n (lo + 1) fun k h3 h4 => ?_]
      cases hk : pz k with
      | false => rfl
      | true => have := h k (by omega) (by omega) hk; omega
    · rw [List.filter_cons_of_neg (fun hk => e (h lo (by omega) (by omega) hk))]
      exact filter_one n (lo + 1) (by omega) (by omega) hN fun k h3 h4 => h k (by omega) (by omega)
theorem fmod_pos (a : Int) {b : Int} (hb : 0 < b) : a.fmod b = a % b := Int.fmod_eq_emod_of_nonneg a (by omega)
theorem same_rest {p q m : Int} (h : p % m = q % m) : m ∣ p - q := Int.dvd_of_emod_eq_zero (Int.emod_eq_emod_iff_emod_sub_eq_zero.mp h)
theorem rest_same {p q m : Int} (h : m ∣ p - q) : p % m = q % m := Int.emod_eq_emod_iff_emod_sub_eq_zero.mpr (Int.emod_eq_zero_of_dvd h)
/-- the one number below the product that leaves both rests -/
theorem one_number {a b k n : Int} (hc : Int.gcd a b = 1) (k0 : 0 ≤ k) (k1 : k < a * b) (n0 : 0 ≤ n) (n1 : n < a * b) (h1 : k % a = n % a) (h2 : k % b = n % b) : k = n := by
  have d1 : a.natAbs ∣ (k - n).natAbs := Int.natAbs_dvd_natAbs.mpr (same_rest h1)
  have d2 : b.natAbs ∣ (k - n).natAbs := Int.natAbs_dvd_natAbs.mpr (same_rest h2)
  have d := Nat.Coprime.mul_dvd_of_dvd_of_dvd (show Nat.Coprime a.natAbs b.natAbs from hc) d1 d2
  have hm : (a * b).natAbs = a.natAbs * b.natAbs := Int.natAbs_mul a b
  rw [← hm] at d
  rcases Nat.eq_zero_or_pos (k - n).natAbs with h | h
  · omega
  · have := Nat.le_of_dvd h d
    omega
theorem unit_square {g : Int} (h : g.natAbs = 1) : g * g = 1 := by
  rcases Int.natAbs_eq g with e | e <;> rw [e, h] <;> rfl
theorem turn_rest {a b g x y d : Int} (e : g = x * a + y * b) (hg : g * g = 1) : b ∣ a * (x * g * d) - d := by
  refine ⟨-(y * g * d), ?_⟩
  have h1 : a * (x * g * d) = (x * a) * g * d := by
    rw [Int.mul_comm x a, ← Int.mul_assoc, ← Int.mul_assoc]
  have h2 : x * a = g - y * b := by omega
  rw [h1, h2, Int.sub_mul, hg, Int.sub_mul, Int.one_mul, Int.mul_neg, Int.mul_comm y b, Int.mul_assoc b y g, Int.mul_assoc b (y * g) d]
  omega
theorem met_number {a b g x y u v : Int} (ha : 0 < a) (hb : 0 < b) (e : g = x * a + y * b) (hg : g.natAbs = 1) :
    ((u + a * ((x * g * ((v - u).fmod b)).fmod b)).fmod (a * b)) % a = u % a ∧ ((u + a * ((x * g * ((v - u).fmod b)).fmod b)).fmod (a * b)) % b = v % b := by
  have hab : 0 < a * b := Int.mul_pos ha hb
  rw [fmod_pos _ hab, fmod_pos _ hb, fmod_pos _ hb]
  constructor
  · rw [Int.emod_emod_of_dvd _ (Int.dvd_mul_right a b), Int.add_mul_emod_self_left]
  · rw [Int.emod_emod_of_dvd _ (Int.dvd_mul_left a b)]
    refine rest_same ?_
    have h1 : b ∣ (x * g * ((v - u) % b)) - (x * g * ((v - u) % b)) % b := Int.dvd_self_sub_emod ..
    have h2 := turn_rest (d := (v - u) % b) e (unit_square hg)
    have h3 : b ∣ (v - u) - (v - u) % b := Int.dvd_self_sub_emod ..
    have h4 := Int.dvd_trans h1 (Int.dvd_mul_left a _)
    rw [Int.mul_sub] at h4
    have h5 := Int.dvd_sub h2 (Int.dvd_add h4 h3)
    have e5 : u + a * ((x * g * ((v - u) % b)) % b) - v = (a * (x * g * ((v - u) % b)) - (v - u) % b) - ((a * (x * g * ((v - u) % b)) - a * ((x * g * ((v - u) % b)) % b)) + (v - u - (v - u) % b)) := by omega
    rw [e5]
    exact h5
/-- the facts that the walk of _law_is_met asks -/
structure MetF (a b g x u v : Int) : Prop where
  ab0 : 0 < a * b
  ab1 : a * b ≤ 144
  xg0 : -60 ≤ x * g
  xg1 : x * g ≤ 60
  d0 : 0 ≤ (v - u).fmod b
  d1 : (v - u).fmod b ≤ 12
  xd0 : -720 ≤ x * g * ((v - u).fmod b)
  xd1 : x * g * ((v - u).fmod b) ≤ 720
  t0 : 0 ≤ (x * g * ((v - u).fmod b)).fmod b
  t1 : (x * g * ((v - u).fmod b)).fmod b ≤ 12
  at0 : 0 ≤ a * (x * g * ((v - u).fmod b)).fmod b
  at1 : a * (x * g * ((v - u).fmod b)).fmod b ≤ 144
theorem abs_mul {p q : Int} {P R : Nat} (h1 : p.natAbs ≤ P) (h2 : q.natAbs ≤ R) : (p * q).natAbs ≤ P * R := by
  rw [Int.natAbs_mul]
  exact Nat.mul_le_mul h1 h2
theorem met_facts {a b g x u v : Int} (ha : 0 < a) (ha' : a ≤ 12) (hb : 0 < b) (hb' : b ≤ 12) (hg : g.natAbs = 1) (hx : x.natAbs ≤ 60) : MetF a b g x u v := by
  have ab0 : 0 < a * b := Int.mul_pos ha hb
  have ab1 := abs_mul (p := a) (q := b) (P := 12) (R := 12) (by omega) (by omega)
  have xg := abs_mul (p := x) (q := g) (P := 60) (R := 1) (by omega) (by omega)
  have d0 := Int.fmod_nonneg_of_pos (v - u) hb
  have d1 := Int.fmod_lt_of_pos (v - u) hb
  have xd := abs_mul (p := x * g) (q := (v - u).fmod b) (P := 60) (R := 12) (by omega) (by omega)
  have t0 := Int.fmod_nonneg_of_pos (x * g * ((v - u).fmod b)) hb
  have t1 := Int.fmod_lt_of_pos (x * g * ((v - u).fmod b)) hb
  have at0 := Int.mul_nonneg (Int.le_of_lt ha) t0
  have at1 := abs_mul (p := a) (q := (x * g * ((v - u).fmod b)).fmod b) (P := 12) (R := 12) (by omega) (by omega)
  exact ⟨ab0, by omega, by omega, by omega, d0, by omega, by omega, by omega, t0, by omega, at0, by omega⟩
def metN (a b g x u v : Int) : Int := (u + a * ((x * g * ((v - u).fmod b)).fmod b)).fmod (a * b)
theorem met_law {a b g x y u v : Int} (ha : 0 < a) (hb : 0 < b) (hc : Int.gcd a b = 1) (e : g = x * a + y * b) (hg : g.natAbs = 1) :
    (rangeKs 0 (a * b - 0).toNat).filter (fun k => k.fmod a == u.fmod a && k.fmod b == v.fmod b) = [metN a b g x u v] ∧ (metN a b g x u v).fmod a = u.fmod a ∧ (metN a b g x u v).fmod b = v.fmod b := by
  obtain ⟨h1, h2⟩ := met_number (u := u) (v := v) ha hb e hg
  have hab : 0 < a * b := Int.mul_pos ha hb
  have n0 : 0 ≤ metN a b g x u v := Int.fmod_nonneg_of_pos _ hab
  have n1 : metN a b g x u v < a * b := Int.fmod_lt_of_pos _ hab
  have e1 : (metN a b g x u v).fmod a = u.fmod a := by rw [fmod_pos _ ha, fmod_pos _ ha]; exact h1
  have e2 : (metN a b g x u v).fmod b = v.fmod b := by rw [fmod_pos _ hb, fmod_pos _ hb]; exact h2
  refine ⟨filter_one _ 0 n0 (by omega) (by simp [e1, e2]) fun k k0 k1 hk => ?_, e1, e2⟩
  simp only [Bool.and_eq_true, beq_iff_eq] at hk
  refine one_number hc k0 (by omega) n0 n1 ?_ ?_
  · have := hk.1.trans e1.symm
    rw [fmod_pos _ ha, fmod_pos _ ha] at this
    exact this
  · have := hk.2.trans e2.symm
    rw [fmod_pos _ hb, fmod_pos _ hb] at this
    exact this
/-- a call of a def that hands back a bool, in whatever frame it stands -/
def TelS (w : World) (f : Addr) (mem : List (Addr × Obj) → Prop) (vs : List Value) (r : Bool) : Prop :=
  ∀ (loose : List Str) (mean : ExcName → Option Value) (mg mb : Str → Option Value) (dp un : Nat) (gd : Option (List Code)) (cn : Str) (cs : Scope) (a : Addr) (ccd : Value) (cl : List (Str × Addr)) (outer : List Env) (A₀ : Around) (base h₀ : Heap) (L : Addr) (m : Str → Option Value) (news : List (Addr × Obj)) (s : Shared) (Q E : Value → Shared → Prop),
    Below A₀ base outer h₀ → Fr h₀ L s.heap m → (hd.heap_1 w.params).In h₀ → News h₀ L s.heap news → Top hd.view_1 loose mean mg mb h₀ → cs.kind = .function → mem news →
    dp + 10 < recursionLimit → un + 160 < cLine →
    (∀ (h' : Heap) (tk' : Nat), Fr h₀ L h' m → News h₀ L h' news → Q (.bool r) { s with heap := h', toks := tk' }) →
      wpAny (model PySem.Challenge.rw_xw0003_01.row.prog w) (ktrTop dp un gd cn cs L a ccd cl outer) (call (.ref f) vs) Q E s
theorem two_tt {p q r s : Int} (h1 : p = q) (h2 : r = s) : true = (p == q && r == s) := by simp [h1, h2]
theorem two_tf {p q r s : Int} (h1 : p = q) (h2 : r ≠ s) : false = (p == q && r == s) := by simp [h1, h2]
theorem two_f {p q r s : Int} (h1 : p ≠ q) : false = (p == q && r == s) := by simp [h1]
theorem one_t {p q : Int} (h1 : p = q) : true = (p == q) := by simp [h1]
theorem one_f {p q : Int} (h1 : p ≠ q) : false = (p == q) := by simp [h1]
theorem bool_ret {Q : Value → Shared → Prop} {x y : Bool} {s : Shared} (h : Q (.bool x) s) (e : y = x) : Q (.bool y) s := e ▸ h
local macro_rules | `(tactic| walk_at "FiltPack") => `(tactic| ((refine FiltPack.intro ?_); (rename Fr _ _ _ _ => lF'); (rename News _ _ _ _ => lN'); (rename IsRange _ _ _ _ _ _ _ _ => lR'); (with_unfolding_all refine' ⟨_, _, _, _, _, rfl, lR', ?b1, ?b2, ?b3, ?b4, lF', lN', ?_, ?_⟩); (case b1 => omega); (case b2 => omega); (case b3 => omega); (case b4 => omega); (intro C9 k9 t9 s9 m9 E9 hC9 hlo9 hhi9 hN9 hx9 hk9); (have cF9 := Fr.keeps lF' hk9); (have cN9 := News.grown lN' hk9); (have cE9 := InElt.start s9.heap); (clear lF' lN'); rotate_left; (clear lF' lN'); (intro D9 n9 ys9 h9 tk9 F9 N9 o9 i9); (clear o9)))
local macro_rules | `(tactic| walk_at "call type:range") => `(tactic| (k_here; (rename Fr _ _ _ _ => lF'); (rename News _ _ _ _ => lN'); first | (with_unfolding_all refine range1_rows lF' lN' ?_; intro _ _ _ _ _ _ _ _ _) | (with_unfolding_all refine range2_rows lF' lN' ?_; intro _ _ _ _ _ _ _ _ _)))
local macro_rules | `(tactic| walk_at "FiltLeaf") => `(tactic| ((refine FiltLeaf.intro ?_); (rename InElt _ _ => kE'); (with_unfolding_all refine ⟨?_, _, _, rfl, kE'⟩); first | rfl | exact two_tt (by assumption) (by assumption) | exact two_tf (by assumption) (by assumption) | exact two_f (by assumption) | exact one_t (by assumption) | exact one_f (by assumption)))
set_option maxRecDepth 100000 in
set_option maxHeartbeats 8000000 in
theorem ismet (w : World) (t q : Addr) (a b g x y u v : Int) (ta tb tu tv t1 t2 t3 : Tok) (ha : 0 < a) (ha' : a ≤ 12) (hb : 0 < b) (hb' : b ≤ 12) (hc : Int.gcd a b = 1) (he : g = x * a + y * b) (hg : g.natAbs = 1) (hx : x.natAbs ≤ 60)
    (hu : 0 ≤ u) (hu' : u ≤ 12) (hv : 0 ≤ v) (hv' : v ≤ 12) :
    TelS w 371 (fun news => HasT news t ∧ (q, tupO [.int g t1, .int x t2, .int y t3] 0) ∈ news) [.ref t, .int a ta, .int b tb, .ref q, .int u tu, .int v tv] true := by
  unfold TelS
  k_fill
  w_on
  intro loose mean mg mb dp un gd cn cs aa ccd cl outer A₀ base h₀ L m news s Q E B F X N T hk hmm hd hun hret
  obtain ⟨hmem, hq⟩ := hmm
  obtain ⟨f1, f2, f3, f4, f5, f6, f7, f8, f9, f10, f11, f12⟩ := met_facts (u := u) (v := v) ha ha' hb hb' hg hx
  have g1 : (u + a * ((x * g * ((v - u).fmod b)).fmod b)).fmod (a * b) < a * b := Int.fmod_lt_of_pos _ f1
  have g0 : 0 ≤ (u + a * ((x * g * ((v - u).fmod b)).fmod b)).fmod (a * b) := Int.fmod_nonneg_of_pos _ f1
  have hL := met_law (u := u) (v := v) ha hb hc he hg
  unfold metN at hL
  refine wpAny_call ?_
  k_dflt (refine' code_defC ?k1 ?k2 ?k3 ?k4 ?k5 ?kA ?kF ?kK ?k6 ?k7 ?k8 ?k9 ?kB ?kD ?_ ?c2 ?c3 ?c4; (case kA => exact rfl); (case kF => exact rfl); (case kK => assumption); (case k1 => k_asm); (case k2 => k_asm); (case k3 => k_asm); (case k4 => k_asm); (case k5 => k_asm); (case k6 => k_is); (case k7 => k_is); (case k8 => ktr_room); (case k9 => exact BindsTo.of_eq rfl); (case kB => exact rfl); (case kD => decide +kernel); (case c2 => exact rfl); (case c3 => exact rfl); (case c4 => exact rfl); k_whole; intro g' L' h' tk' cells' FG' F' N' Y' B' X' T' l1; (replace l1 := allLt_of l1); obtain ⟨o', o2', o3', o4', hE', d1', d2', d3', d4'⟩ := CellsAre.four Y'; subst hE'; clear Y'; (try simp only [List.cons_append, List.nil_append] at N'); (try dsimp only); (try k_lift B'); (try k_fold))
  k_with "comp" => ((refine' comp_filter_assign (pz := fun k => k.fmod a == u.fmod a && k.fmod b == v.fmod b) (lo := 0) (hi := a * b) ?hF ?hsw ?hL ?hh ?hclos ?hcell ?hkind ?hnames ?hx ?hkC ?hxC ?hd ?hy ?hp ?hs ?_); (case hF => k_asm); (case hsw => with_unfolding_all rfl); (case hL => with_unfolding_all rfl); (case hh => with_unfolding_all rfl); (case hclos => with_unfolding_all rfl); (case hcell => decide); (case hkind => with_unfolding_all rfl); (case hnames => decide); (case hx => with_unfolding_all rfl); (case hkC => intro _; with_unfolding_all rfl); (case hxC => intro _; with_unfolding_all rfl); (case hd => decide); (case hy => with_unfolding_all rfl); (case hp => with_unfolding_all rfl); (case hs => intro _; with_unfolding_all rfl))
  k_steps
  all_goals try (refine' bool_ret (hret _ _ ?F ?N) ?e; (case F => k_asm); (case N => (refine' cb_drop ?cbN ?cbS; (case cbN => assumption); (case cbS => (intro p9 h9; (repeat (first | exact h9 | (refine' List.Mem.tail _ ?_))))))); (case e => first | exact beq_iff_eq.mpr hL.2.1 | exact beq_iff_eq.mpr hL.2.2 | exact decide_eq_true hL.1.symm))
theorem rangeKs_append (lo : Int) : ∀ (m n : Nat), rangeKs lo (m + n) = rangeKs lo m ++ rangeKs (lo + (m : Int)) n := by
  intro m
  induction m generalizing lo with
  | zero => intro n; simp [rangeKs]
  | succ m ih =>
    intro n
    rw [show m + 1 + n = (m + n) + 1 by omega, rangeKs_succ, rangeKs_succ, ih, List.cons_append, show lo + 1 + (m : Int) = lo + ((m + 1 : Nat) : Int) by omega]
theorem fmod_dvd {a d : Int} (hd : 0 < d) : (a.fmod d == 0) = true ↔ d ∣ a := by
  rw [beq_iff_eq, fmod_pos a hd]
  exact ⟨Int.dvd_of_emod_eq_zero, Int.emod_eq_zero_of_dvd⟩
theorem gcd_bound {x y : Int} (hx : -60 ≤ x) (hx' : x ≤ 60) (hy : -60 ≤ y) (hy' : y ≤ 60) : Int.gcd x y ≤ 60 := by
  by_cases h : x = 0
  · subst h
    rw [Int.gcd_zero_left]; omega
  · have := Nat.le_of_dvd (show 0 < x.natAbs by omega) (Int.gcd_dvd_natAbs_left x y)
    omega
/-- what a Bezout triple of two numbers up to 60 says -/
theorem law_f1 {x y g u v : Int} (h : BzR x y g u v) (hx : -60 ≤ x) (hx' : x ≤ 60) (hy : -60 ≤ y) (hy' : y ≤ 60) :
    u * x + v * y = g ∧ ((g.natAbs : Nat) : Int) = ((Int.gcd x y : Nat) : Int) ∧ -60 ≤ g ∧ g ≤ 60 ∧ -3600 ≤ u * x ∧ u * x ≤ 3600 ∧ -3600 ≤ v * y ∧ v * y ≤ 3600 := by
  have h1 := abs_mul (p := u) (q := x) (P := 60) (R := 60) h.bu (by omega)
  have h2 := abs_mul (p := v) (q := y) (P := 60) (R := 60) h.bv (by omega)
  have h3 := gcd_bound hx hx' hy hy'
  have h4 := h.gcd
  exact ⟨h.e.symm, by rw [h4], by omega, by omega, by omega, by omega, by omega, by omega⟩
/-- the greatest that divides both stands last -/
theorem law_due {x y : Int} (h : ¬ (x = 0 ∧ y = 0)) (hx : -60 ≤ x) (hx' : x ≤ 60) (hy : -60 ≤ y) (hy' : y ≤ 60) :
    ∃ pre, (rangeKs 1 (61 - 1 : Int).toNat).filter (fun d => x.fmod d == 0 && y.fmod d == 0) = pre ++ [((Int.gcd x y : Nat) : Int)] := by
  have hG := gcd_bound hx hx' hy hy'
  have h0 : 0 < Int.gcd x y := by
    by_cases hx0 : x = 0
    · exact Int.gcd_pos_of_ne_zero_right x (fun hy0 => h ⟨hx0, hy0⟩)
    · exact Int.gcd_pos_of_ne_zero_left y hx0
  obtain ⟨G, hGe⟩ : ∃ G, Int.gcd x y = G + 1 := ⟨Int.gcd x y - 1, by omega⟩
  rw [show ((61 : Int) - 1).toNat = G + (1 + (59 - G)) by omega, rangeKs_append, rangeKs_append, List.filter_append, List.filter_append]
  rw [filter_none (59 - G) _ fun k h1 h2 => ?_, List.append_nil]
  · refine ⟨_, congrArg _ ?_⟩
    rw [rangeKs_succ, List.filter_cons_of_pos ?_]
    · rw [hGe, show ((1 : Int) + (G : Int)) = ((G + 1 : Nat) : Int) by omega]; rfl
    · have e : (1 : Int) + (G : Int) = ((Int.gcd x y : Nat) : Int) := by rw [hGe]; omega
      have hp : (0 : Int) < 1 + (G : Int) := by omega
      have d1 := (fmod_dvd (a := x) hp).mpr (e ▸ Int.gcd_dvd_left x y)
      have d2 := (fmod_dvd (a := y) hp).mpr (e ▸ Int.gcd_dvd_right x y)
      simp only [d1, d2, Bool.and_self]
  · cases hk : (x.fmod k == 0 && y.fmod k == 0) with
    | false => rfl
    | true =>
      obtain ⟨k1, k2⟩ := Bool.and_eq_true_iff.mp hk
      have d1 := (fmod_dvd (a := x) (by omega)).mp k1
      have d2 := (fmod_dvd (a := y) (by omega)).mp k2
      have := Int.le_of_dvd (by omega) (Int.dvd_coe_gcd d1 d2)
      omega
/-- what stands behind the two ways to the greatest that divides both -/
structure LawF (a b c one other : Int) : Prop where
  c0 : 0 < c
  c1 : c ≤ 60
  a0 : 0 < a
  a1 : a ≤ 60
  b0 : 0 < b
  b1 : b ≤ 60
  o0 : 0 < one
  o1 : one ≤ 60
  p0 : 0 < other
  p1 : other ≤ 60
  cop : Int.gcd one other = 1
  l0 : 0 ≤ one * b
  l1 : one * b ≤ 3600
  m : one * b * c = a * b
  m0 : 0 ≤ a * b
  m1 : a * b ≤ 3600
  ra : (one * b).tmod a = 0
  rb : (one * b).tmod b = 0
  eq : one * b = a * other
  turns : (rangeKs 1 (other - 1).toNat).filter (fun k => (k * a).fmod b == 0) = []
theorem law_facts {A B g : Int} (hg : ((g.natAbs : Nat) : Int) = ((Int.gcd A B : Nat) : Int)) (hA : A ≠ 0) (hB : B ≠ 0) (hx : -60 ≤ A) (hx' : A ≤ 60) (hy : -60 ≤ B) (hy' : B ≤ 60) :
    LawF (A.natAbs : Int) (B.natAbs : Int) (g.natAbs : Int) ((A.natAbs : Int).tdiv (g.natAbs : Int)) ((B.natAbs : Int).tdiv (g.natAbs : Int)) := by
  have hd : g.natAbs = Nat.gcd A.natAbs B.natAbs := by have := Int.ofNat.inj hg; exact this
  have hp : 0 < A.natAbs := by omega
  have hq : 0 < B.natAbs := by omega
  have hp' : A.natAbs ≤ 60 := by omega
  have hq' : B.natAbs ≤ 60 := by omega
  rw [hd]
  generalize A.natAbs = p at *
  generalize B.natAbs = q at *
  have d0 : 0 < Nat.gcd p q := Nat.gcd_pos_of_pos_left q hp
  have e1 := Nat.div_mul_cancel (Nat.gcd_dvd_left p q)
  have e2 := Nat.div_mul_cancel (Nat.gcd_dvd_right p q)
  have hc := Nat.coprime_div_gcd_div_gcd d0
  rw [← Int.ofNat_tdiv, ← Int.ofNat_tdiv]
  generalize hone : p / Nat.gcd p q = one at *
  generalize hoth : q / Nat.gcd p q = other at *
  generalize Nat.gcd p q = c at *
  have c1 := Nat.mul_le_mul_left one d0
  have c2 := Nat.mul_le_mul_left other d0
  have o0 : 0 < one := Nat.pos_of_ne_zero fun h => by rw [h] at e1; omega
  have p0 : 0 < other := Nat.pos_of_ne_zero fun h => by rw [h] at e2; omega
  have c3 := Nat.mul_le_mul_right c o0
  have hab : p * q ≤ 60 * 60 := Nat.mul_le_mul hp' hq'
  have hob : one * q ≤ 60 * 60 := Nat.mul_le_mul (by omega) hq'
  have heq : one * q = p * other := by rw [← e1, ← e2, ← Nat.mul_assoc, Nat.mul_assoc one c other, Nat.mul_comm c other, Nat.mul_assoc]
  refine ⟨by omega, by omega, by omega, by omega, by omega, by omega, by omega, by omega, by omega, by omega, hc, by omega, ?_, ?_, by omega, ?_, ?_, ?_, ?_, ?_⟩
  · have : ((one * q : Nat) : Int) ≤ 3600 := by omega
    rwa [Int.natCast_mul] at this
  · rw [← Int.natCast_mul, ← Int.natCast_mul, ← Int.natCast_mul, Nat.mul_assoc, Nat.mul_comm q c, ← Nat.mul_assoc, e1]
  · have : ((p * q : Nat) : Int) ≤ 3600 := by omega
    rwa [Int.natCast_mul] at this
  · rw [← Int.natCast_mul, heq, ← Int.ofNat_tmod, Nat.mul_mod_right]; rfl
  · rw [← Int.natCast_mul, ← Int.ofNat_tmod, Nat.mul_mod_left]; rfl
  · rw [← Int.natCast_mul, heq, Int.natCast_mul]
  · refine filter_none _ 1 fun k k1 k2 => ?_
    cases hk : ((k * (p : Int)).fmod (q : Int) == 0) with
    | false => rfl
    | true =>
      have hdv := (fmod_dvd (a := k * (p : Int)) (d := (q : Int)) (by omega)).mp hk
      obtain ⟨n, rfl⟩ : ∃ n : Nat, k = (n : Int) := ⟨k.toNat, by omega⟩
      rw [← Int.natCast_mul, Int.natCast_dvd_natCast] at hdv
      rw [← e1, ← e2, ← Nat.mul_assoc] at hdv
      have hdv2 := Nat.dvd_of_mul_dvd_mul_right d0 hdv
      have hdv3 := Nat.Coprime.dvd_of_dvd_mul_right hc.symm hdv2
      have := Nat.le_of_dvd (by omega) hdv3
      omega
theorem gcd_abs {A B g : Int} (hg : ((g.natAbs : Nat) : Int) = ((Int.gcd A B : Nat) : Int)) : ((Int.gcd (A.natAbs : Int) (B.natAbs : Int) : Nat) : Int) = ((g.natAbs : Nat) : Int) := hg.symm
theorem one_of {x y g : Int} (h : ((g.natAbs : Nat) : Int) = ((Int.gcd x y : Nat) : Int)) (h1 : Int.gcd x y = 1) : ((g.natAbs : Nat) : Int) = 1 := by rw [h, h1]; rfl
theorem nought_of {x y g : Int} (h : ((g.natAbs : Nat) : Int) = ((Int.gcd x y : Nat) : Int)) (h1 : x = 0) (h2 : y = 0) : ((g.natAbs : Nat) : Int) = 0 := by rw [h, h1, h2]; rfl
theorem sum_of {x y g : Int} (h : ((g.natAbs : Nat) : Int) = ((Int.gcd x y : Nat) : Int)) (h1 : x = 0 ∨ y = 0) : ((g.natAbs : Nat) : Int) = (((x + y).natAbs : Nat) : Int) := by
  rw [h]
  rcases h1 with e | e
  · rw [e, Int.gcd_zero_left, Int.zero_add]
  · rw [e, Int.gcd_zero_right, Int.add_zero]
theorem hasT_mk {news : List (Addr × Obj)} {t dx : Addr} {es : List DictEntry} {n : Nat} {k1 k2 k3 : Tok} (h1 : (t, instObj 301 dx) ∈ news) (h2 : (dx, dictOf es n) ∈ news)
    (g1 : getL "kind" es = some (some (.str "int" k1))) (g2 : getL "low" es = some (some (.int (-32768) k2))) (g3 : getL "high" es = some (some (.int 32767 k3))) : HasT news t := ⟨dx, es, n, k1, k2, k3, h1, h2, g1, g2, g3⟩
theorem law_two {x y g : Int} (h : ((g.natAbs : Nat) : Int) = ((Int.gcd x y : Nat) : Int)) (hx : -60 ≤ x) (hx' : x ≤ 60) (hy : -60 ≤ y) (hy' : y ≤ 60) :
    (x = 0 ∧ y = 0 ∧ ((g.natAbs : Nat) : Int) = 0) ∨ (x = 0 ∧ y ≠ 0 ∧ ∃ pre, (rangeKs 1 (61 - 1 : Int).toNat).filter (fun d => x.fmod d == 0 && y.fmod d == 0) = pre ++ [((Int.gcd x y : Nat) : Int)]) ∨
      (x ≠ 0 ∧ ∃ pre, (rangeKs 1 (61 - 1 : Int).toNat).filter (fun d => x.fmod d == 0 && y.fmod d == 0) = pre ++ [((Int.gcd x y : Nat) : Int)]) := by
  by_cases h1 : x = 0
  · by_cases h2 : y = 0
    · exact .inl ⟨h1, h2, nought_of h h1 h2⟩
    · exact .inr (.inl ⟨h1, h2, law_due (fun z => h2 z.2) hx hx' hy hy'⟩)
  · exact .inr (.inr ⟨h1, law_due (fun z => h1 z.1) hx hx' hy hy'⟩)
theorem comp_filterR {prog : Program} {w : World} {A : Around} {E : Value → Shared → Prop} {s : Shared} {h₀ : Heap} {L : Addr} {m : Str → Option Value} {env : Env} {iter c : Expr} {x : Str} {px px' : Pos} {scope : Scope} {cl : List (Str × Addr)} {pos : Pos} {pz : Int → Bool} {lo hi : Int} {res : List Int} {Q : Value → Shared → Prop}
    (F₀ : Fr h₀ L s.heap m) (hres : (rangeKs lo (hi - lo).toNat).filter pz = res) (hh : A.handled = none) (hclos : closureFor scope env = pure cl) (hcell : ∀ z ∈ scope.names, z.2 ≠ .cell) (hkind : scope.kind = .function)
    (hnames : ∀ z ∈ scope.names, z.2 = .local → scope.names.lookup z.1 = some .local) (hx : scope.names.lookup x = some .local) (hkC : ∀ C, (compEnvC scope cl C env).scope.kind = .function) (hxC : ∀ C, (compEnvC scope cl C env).kindOf x = some .local) (hd : (x == ("__debug__" : Str)) = false) (hs : ∀ x, foldedSetIterable iter env x = pure x)
    (h : wpAny (model prog w) A (eval iter env) (fun xv s₁ => FiltPack (∃ (news : List (Addr × Obj)) (r : Addr) (t0 u0 v0 : Tok), xv = .ref r ∧ IsRange s₁.heap r lo hi 1 t0 u0 v0 ∧ -1000 ≤ lo ∧ lo ≤ 1000 ∧ -1000 ≤ hi ∧ hi ≤ 1000 ∧ Fr h₀ L s₁.heap m ∧ News h₀ L s₁.heap news ∧
      (∀ C k t s₂ m₂ E', s₁.heap.objs.size ≤ C → lo ≤ k → k < hi → s₂.heap.Ns (compEnvC scope cl C env).locals m₂ → m₂ x = some (.int k t) → (∀ b o, s₁.heap.get? b = some o → s₂.heap.get? b = some o) →
        wpAny (model prog w) A (isTrue c (compEnvC scope cl C env) (eval c (compEnvC scope cl C env))) (fun ok s₃ => FiltLeaf (ok = pz k ∧ Keeps s₂ s₃)) E' s₂) ∧
      (∀ D n ys h' tk, Fr h₀ L h' m → News h₀ L h' ((D, PySem.W.listOf (ys : List Value).toArray n) :: news) → AllNe D news → IntsAre ys res → Q (.ref D) { s₁ with heap := h', toks := tk }))) E s) :
    wpAny (model prog w) A (eval (.ListComp (.Name x px') [⟨.Name x px, iter, [c], 0⟩] scope pos) env) Q E s := by
  subst hres
  exact comp_filter F₀ hh hclos hcell hkind hnames hx hkC hxC hd hs h
theorem ne_nil {prog : Program} {w : World} {A : Around} {E : Value → Shared → Prop} {s : Shared} {h₀ : Heap} {L D l : Addr} {vs : List Value} {n n' : Nat} {news : List (Addr × Obj)} {Q : Value → Shared → Prop} (N : News h₀ L s.heap news) (hm : (D, PySem.W.listOf vs.toArray n) ∈ news) (hi : IntsAre vs [])
    (hl : (l, PySem.W.listOf ([] : List Value).toArray n') ∈ news) (hu : A.units + 64 < cLine) (h : Q (.bool false) s) : wpAny (model prog w) A (compareOp .NotEq (.ref D) (.ref l)) Q E s :=
  ne_intsK ⟨_, (N _ hm).1, rfl, n, rfl⟩ hi ⟨_, (N _ hl).1, rfl, n', rfl⟩ IntsAre.nil hu h
theorem eq_nil {prog : Program} {w : World} {A : Around} {E : Value → Shared → Prop} {s : Shared} {h₀ : Heap} {L D l : Addr} {vs : List Value} {n n' : Nat} {news : List (Addr × Obj)} {Q : Value → Shared → Prop} (N : News h₀ L s.heap news) (hm : (D, PySem.W.listOf vs.toArray n) ∈ news) (hi : IntsAre vs [])
    (hl : (l, PySem.W.listOf ([] : List Value).toArray n') ∈ news) (hu : A.units + 64 < cLine) (h : Q (.bool true) s) : wpAny (model prog w) A (compareOp .Eq (.ref D) (.ref l)) Q E s :=
  eq_intsK ⟨_, (N _ hm).1, rfl, n, rfl⟩ hi ⟨_, (N _ hl).1, rfl, n', rfl⟩ IntsAre.nil hu h
theorem last_at {prog : Program} {w : World} {A : Around} {E : Value → Shared → Prop} {s : Shared} {h₀ : Heap} {L l : Addr} {vs : List Value} {pre : List Int} {g : Int} {n : Nat} {u : Tok} {value slice : Expr} {news : List (Addr × Obj)} {Q : Value → Shared → Prop} (N : News h₀ L s.heap news) (hm : (l, PySem.W.listOf vs.toArray n) ∈ news) (hi : IntsAre vs (pre ++ [g]))
    (h : ∀ t, Q (.int g t) s)
    (hs : subscripted slice false (.ref l) (.int (-1) u) = operate [.ref l, .int (-1) u] (getItem (.ref l) (.int (-1) u)) := by with_unfolding_all rfl) :
    wpAny (model prog w) A (subscriptTail value slice (.ref l) (.int (-1) u)) Q E s := by
  have hl : s.heap.IsList l vs.toArray := ⟨_, (N _ hm).1, rfl, n, rfl⟩
  have hlen : vs.length = pre.length + 1 := by rw [hi.length]; simp
  obtain ⟨t, hx⟩ := hi.get pre.length g (by simp)
  exact tail_any hl.typeIs slot_list_getitem.lookup (wpAny_getItem_list_neg hl (by decide) (by simp [hlen]; omega) (by decide) (x := .int g t) (by
    rw [show ((-1 : Int) + (vs.toArray.size : Nat)).toNat = pre.length by simp [hlen]; omega]
    simpa using hx) (h t)) hs
theorem chew_use {w : World} {l D : Addr} {k : Int} {tk : Tok} {n n2 : Nat} {ws : List Value} {xs : List Int} {many : Int} {tm : Tok}
    {loose : List Str} {mean : ExcName → Option Value} {mg mb : Str → Option Value} {dp un : Nat} {gd : Option (List Code)} {cn : Str} {cs : Scope} {a : Addr} {ccd : Value} {cl : List (Str × Addr)} {outer : List Env} {A₀ : Around} {base h₀ : Heap} {L : Addr} {m : Str → Option Value} {news : List (Addr × Obj)} {g : Obj → List (Addr × Obj)} {s : Shared} {Q E : Value → Shared → Prop}
    (B : Below A₀ base outer h₀) (F : Fr h₀ L s.heap m) (X : (hd.heap_1 w.params).In h₀) (N : News h₀ L s.heap news) (T : Top hd.view_1 loose mean mg mb h₀) (hk : cs.kind = .function)
    (U : UpdF l (PySem.W.listOf #[.ref D, .int k tk] n) news g) (hD : (D, PySem.W.listOf ws.toArray n2) ∈ news) (hi : IntsAre ws xs) (hne : @Ne Nat D l) (hxs : xs.length ≤ 4) (hk0 : 0 ≤ k) (hk3 : k ≤ 3) (hm0 : 0 < many) (hm1 : many ≤ 1000)
    (hd : dp + 4 < recursionLimit) (hu : un + 60 < cLine)
    (ret : ∀ (r : Int) (t t1 : Tok) (h' : Heap) (tk' : Nat), 0 ≤ r → r < many → Fr h₀ L h' m → News h₀ L h' (g (PySem.W.listOf #[.ref D, .int (k + 1) t1] n)) → Q (.int r t) { s with heap := h', toks := tk' }) :
      wpAny (model PySem.Challenge.rw_xw0003_01.row.prog w) (ktrTop dp un gd cn cs L a ccd cl outer) (call (.ref 333) [.ref l, .int many tm]) Q E s := by
  obtain ⟨pre, post, rfl, hg, h1, h2⟩ := U.split
  refine chew w l D k tk n n2 ws xs many tm hi hxs hk0 hk3 hm0 hm1 loose mean mg mb dp un gd cn cs a ccd cl outer A₀ base h₀ L m (pre ++ post) s Q E B F X (fun p hp => N p ?_) T hk ?_ ?_ hd hu fun r t t1 h' tk' r0 r1 F' N' => ret r t t1 h' tk' r0 r1 F' ?_
  · rcases List.mem_cons.mp hp with rfl | hp
    · exact List.mem_append.mpr (.inr (.head _))
    · rcases List.mem_append.mp hp with hp | hp
      · exact List.mem_append.mpr (.inl hp)
      · exact List.mem_append.mpr (.inr (.tail _ hp))
  · rcases List.mem_append.mp hD with hp | hp
    · exact List.mem_append.mpr (.inl hp)
    · rcases List.mem_cons.mp hp with e | hp
      · exact absurd (congrArg Prod.fst e) hne
      · exact List.mem_append.mpr (.inr hp)
  · intro p hp
    rcases List.mem_append.mp hp with hp | hp
    · exact h1 p hp
    · exact h2 p hp
  · rw [hg]
    intro p hp
    rcases List.mem_append.mp hp with hp | hp
    · exact N' p (.tail _ (List.mem_append.mpr (.inl hp)))
    · rcases List.mem_cons.mp hp with rfl | hp
      · exact N' _ (.head _)
      · exact N' p (.tail _ (List.mem_append.mpr (.inr hp)))
theorem bezout_use {w : World} {t : Addr} {x y : Int} {tx ty : Tok} {loose : List Str} {mean : ExcName → Option Value} {mg mb : Str → Option Value} {dp un : Nat} {gd : Option (List Code)} {cn : Str} {cs : Scope} {a : Addr} {ccd : Value} {cl : List (Str × Addr)} {outer : List Env} {A₀ : Around} {base h₀ : Heap} {L : Addr} {m : Str → Option Value} {news : List (Addr × Obj)} {s : Shared} {Q E : Value → Shared → Prop}
    (B : Below A₀ base outer h₀) (F : Fr h₀ L s.heap m) (X : (hd.heap_1 w.params).In h₀) (N : News h₀ L s.heap news) (T : Top hd.view_1 loose mean mg mb h₀) (hk : cs.kind = .function) (hm : HasT news t)
    (hd : dp + 10 < recursionLimit) (hu : un + 160 < cLine) (hx : -60 ≤ x) (hx' : x ≤ 60) (hy : -60 ≤ y) (hy' : y ≤ 60)
    (ret : ∀ (q : Addr) (g u v : Int) (t1 t2 t3 : Tok) (h' : Heap) (tk' : Nat), BzR x y g u v → (∀ p ∈ news, p.1 < q) → Fr h₀ L h' m → News h₀ L h' ((q, tupO [.int g t1, .int u t2, .int v t3] 0) :: news) → Q (.ref q) { s with heap := h', toks := tk' }) :
      wpAny (model PySem.Challenge.rw_xw0003_01.row.prog w) (ktrTop dp un gd cn cs L a ccd cl outer) (call (.ref 352) [.ref t, .int x tx, .int y ty]) Q E s :=
  bezout w t x y tx ty hx hx' hy hy' _ _ _ _ _ _ _ _ _ _ _ _ _ _ _ _ _ _ _ _ _ _ B F X N T hk hm hd hu ret
theorem ismet_use {w : World} {t q : Addr} {a b g x y u v : Int} {ta tb tu tv t1 t2 t3 : Tok} {loose : List Str} {mean : ExcName → Option Value} {mg mb : Str → Option Value} {dp un : Nat} {gd : Option (List Code)} {cn : Str} {cs : Scope} {aa : Addr} {ccd : Value} {cl : List (Str × Addr)} {outer : List Env} {A₀ : Around} {base h₀ : Heap} {L : Addr} {m : Str → Option Value} {news : List (Addr × Obj)} {s : Shared} {Q E : Value → Shared → Prop}
    (B : Below A₀ base outer h₀) (F : Fr h₀ L s.heap m) (X : (hd.heap_1 w.params).In h₀) (N : News h₀ L s.heap news) (T : Top hd.view_1 loose mean mg mb h₀) (hk : cs.kind = .function) (hm : HasT news t) (hq : (q, tupO [.int g t1, .int x t2, .int y t3] 0) ∈ news)
    (hR : BzR a b g x y) (hc : Int.gcd a b = 1) (hd : dp + 10 < recursionLimit) (hun : un + 160 < cLine) (ha : 0 < a) (ha' : a ≤ 12) (hb : 0 < b) (hb' : b ≤ 12) (hu : 0 ≤ u) (hu' : u ≤ 12) (hv : 0 ≤ v) (hv' : v ≤ 12)
    (ret : ∀ (h' : Heap) (tk' : Nat), Fr h₀ L h' m → News h₀ L h' news → Q (.bool true) { s with heap := h', toks := tk' }) :
      wpAny (model PySem.Challenge.rw_xw0003_01.row.prog w) (ktrTop dp un gd cn cs L aa ccd cl outer) (call (.ref 371) [.ref t, .int a ta, .int b tb, .ref q, .int u tu, .int v tv]) Q E s :=
  ismet w t q a b g x y u v ta tb tu tv t1 t2 t3 ha ha' hb hb' hc hR.e (hR.gcd.trans hc) hR.bu hu hu' hv hv' _ _ _ _ _ _ _ _ _ _ _ _ _ _ _ _ _ _ _ _ _ _ B F X N T hk ⟨hm, hq⟩ hd hun ret
/-- the law's end -/
theorem good_true {cl : Str → Option Addr} {mean : ExcName → Option Value} {args : List WData} {s₁ s' : Shared} {L : Addr} {m : Str → Option Value} (F : Fr s₁.heap L s'.heap m) (hg : s'.gens = #[]) (hos : s'.os = s₁.os) :
    GoodW PySem.Challenge.rw_xw0003_01.row.claim cl mean args s₁ (.ok (.ret (.bool true))) s' := by
  refine goodW_bool F hg (raisesW_false ?_) ?_ hos
  · wrow_none_raised
  · wrow_post
theorem good_sum {cl : Str → Option Addr} {mean : ExcName → Option Value} {args : List WData} {s₁ s' : Shared} {L : Addr} {m : Str → Option Value} {x y g : Int} (F : Fr s₁.heap L s'.heap m) (h : ((g.natAbs : Nat) : Int) = ((Int.gcd x y : Nat) : Int)) (h0 : x = 0 ∨ y = 0) (hg : s'.gens = #[]) (hos : s'.os = s₁.os) :
    GoodW PySem.Challenge.rw_xw0003_01.row.claim cl mean args s₁ (.ok (.ret (.bool (((g.natAbs : Nat) : Int) == (((x + y).natAbs : Nat) : Int))))) s' := by
  rw [beq_iff_eq.mpr (sum_of h h0)]
  exact good_true F hg hos
local macro_rules | `(tactic| ktn_open) => `(tactic| (refine' hasT_mk ?m1 ?m2 ?g1 ?g2 ?g3; (case m1 => k_mem); (case m2 => k_mem); (case g1 => k_get); (case g2 => k_get); (case g3 => k_get)))
local macro_rules | `(tactic| walk_at "getItem ref int") => `(tactic| (k_here; k_dflt (refine' get_at ?k1 ?k2 ?k3 ?k4 ?k5 ?_; (case k1 => k_asm); (case k2 => k_mem); (case k3 => decide); (case k4 => decide); (case k5 => rfl); k_whole)))
local macro_rules | `(tactic| walk_at "call ref") => `(tactic| (k_here; (with_reducible show wpAny _ _ (call (Value.ref 333) [Value.ref _, Value.int _ _]) _ _ _); k_dflt (refine' chew_use ?k1 ?k2 ?k3 ?k4 ?k5 ?k6 ?k7 ?k8 ?k9 ?k10 ?k11 ?k12 ?k13 ?k14 ?k15 ?k16 ?k17 ?_; (case k1 => k_asm); (case k2 => k_asm); (case k3 => k_asm); (case k4 => k_asm); (case k5 => k_asm); (case k6 => first | exact rfl | assumption); (case k7 => k_updF); (case k8 => k_mem); (case k9 => assumption); (case k10 => omega); (case k11 => omega); (case k12 => decide); (case k13 => decide); (case k14 => decide); (case k15 => decide); (case k16 => ktr_room); (case k17 => ktr_units)); (intro r9 t9 u9 h9 tk9 lo9 hi9 F9 N9); (try dsimp only at N9); (try dsimp only); (try k_fold)))
local macro_rules | `(tactic| walk_at "call ref") => `(tactic| (k_here; (with_reducible show wpAny _ _ (call (Value.ref 352) [Value.ref _, Value.int _ _, Value.int _ _]) _ _ _); k_dflt (refine' bezout_use ?k1 ?k2 ?k3 ?k4 ?k5 ?k6 ?k7 ?k8 ?k9 ?p1 ?p2 ?p3 ?p4 ?_; (case k1 => k_asm); (case k2 => k_asm); (case k3 => k_asm); (case k4 => k_asm); (case k5 => k_asm); (case k6 => first | exact rfl | assumption); (case k7 => ktn_open); (case k8 => ktr_room); (case k9 => ktr_units); (case p1 => omega); (case p2 => omega); (case p3 => omega); (case p4 => omega)); (intro q9 g9 u9 v9 t9 t9' t9'' h9 tk9 R9 l9 F9 N9); (k_lt l9); (obtain ⟨f1, f2, f3, f4, f5, f6, f7, f8⟩ := law_f1 R9 (by omega) (by omega) (by omega) (by omega)); first | ((have f9 := one_of f2 (by assumption)); (try dsimp only); (try k_fold)) | ((have f9 := gcd_abs f2); (rcases law_two f2 (by omega) (by omega) (by omega) (by omega) with ⟨z1, z2, z3⟩ | ⟨z1, z2, pre9, z3⟩ | ⟨z1, pre9, z3⟩) <;> ((try dsimp only); (try k_fold)))))
local macro_rules | `(tactic| walk_at "eval ListComp") => `(tactic| (k_here; k_dflt ((refine' comp_filterR ?hF ?hres ?hh ?hclos ?hcell ?hkind ?hnames ?hx ?hkC ?hxC ?hd ?hs ?_); (case hF => k_asm); (case hres => assumption); (case hh => with_unfolding_all rfl); (case hclos => with_unfolding_all rfl); (case hcell => decide); (case hkind => with_unfolding_all rfl); (case hnames => decide); (case hx => with_unfolding_all rfl); (case hkC => intro _; with_unfolding_all rfl); (case hxC => intro _; with_unfolding_all rfl); (case hd => decide); (case hs => intro _; with_unfolding_all rfl))))
local macro_rules | `(tactic| walk_at "subscriptTail") => `(tactic| (k_here; (with_reducible show wpAny _ _ (subscriptTail _ _ (Value.ref _) (Value.int (-1) _)) _ _ _); k_dflt (refine' last_at ?k1 ?k2 ?k3 ?_; (case k1 => k_asm); (case k2 => k_mem); (case k3 => assumption)); intro _; (have N7 := news_less (by assumption))))
local macro_rules | `(tactic| walk_at "call ref") => `(tactic| (k_here; (with_reducible show wpAny _ _ (call (Value.ref 366) _) _ _ _); k_dflt (refine' Tel.use (halving _ _ _ _ _ _ ?p0 ?p1 ?p2 ?p3) ?k1 ?k2 ?k3 ?k4 ?k5 ?k6 ?k7 ?k8 ?k9 ?_; (case k1 => k_asm); (case k2 => k_asm); (case k3 => k_asm); (case k4 => k_asm); (case k5 => k_asm); (case k6 => first | exact rfl | assumption); (case k7 => ktn_open); (case k8 => ktr_room); (case k9 => ktr_units); (case p0 => omega); (case p1 => omega); (case p2 => omega); (case p3 => omega)); (intro t9 h9 tk9 F9 N9 E9); (clear E9); (try dsimp only); (try k_fold)))
local macro_rules | `(tactic| walk_at "call ref") => `(tactic| (k_here; (with_reducible show wpAny _ _ (call (Value.ref 359) _) _ _ _); k_dflt (refine' Tel.use (taking _ _ _ _ _ _ ?p0 ?p1 ?p2 ?p3) ?k1 ?k2 ?k3 ?k4 ?k5 ?k6 ?k7 ?k8 ?k9 ?_; (case k1 => k_asm); (case k2 => k_asm); (case k3 => k_asm); (case k4 => k_asm); (case k5 => k_asm); (case k6 => first | exact rfl | assumption); (case k7 => ktn_open); (case k8 => ktr_room); (case k9 => ktr_units); (case p0 => omega); (case p1 => omega); (case p2 => omega); (case p3 => omega)); (intro t9 h9 tk9 F9 N9 E9); (clear E9); (rename (((Int.natAbs _ : Nat) : Int) = ((Int.gcd _ _ : Nat) : Int)) => z8); (obtain ⟨y1, y2, y3, y4, y5, y6, y7, y8, y9, y10, y11, y12, y13, y14, y15, y16, y17, y18, y19, y20⟩ := law_facts z8 (by assumption) (by assumption) (by omega) (by omega) (by omega) (by omega)); (try dsimp only); (try k_fold)))
local macro_rules | `(tactic| walk_at "call ref") => `(tactic| (k_here; (with_reducible show wpAny _ _ (call (Value.ref 371) _) _ _ _); k_dflt (refine' ismet_use ?k1 ?k2 ?k3 ?k4 ?k5 ?k6 ?k7 ?q1 ?q2 ?q3 ?k8 ?k9 ?p0 ?p1 ?p2 ?p3 ?p4 ?p5 ?p6 ?p7 ?_; (case k1 => k_asm); (case k2 => k_asm); (case k3 => k_asm); (case k4 => k_asm); (case k5 => k_asm); (case k6 => first | exact rfl | assumption); (case k7 => ktn_open); (case q1 => k_mem); (case q2 => assumption); (case q3 => assumption); (case k8 => ktr_room); (case k9 => ktr_units); (case p0 => omega); (case p1 => omega); (case p2 => omega); (case p3 => omega); (case p4 => omega); (case p5 => omega); (case p6 => omega); (case p7 => omega)); (intro h9 tk9 F9 N9); (try dsimp only); (try k_fold)))
local macro_rules | `(tactic| walk_at "ite") => `(tactic| (k_here; (refine ite_neg (fun h9 => absurd rfl (bne_iff_ne.mp h9)) ?_)))
local macro_rules | `(tactic| walk_at "compareOp NotEq ref ref") => `(tactic| (k_here; k_dflt (refine' ne_nil ?k1 ?k2 ?k3 ?k4 ?k5 ?_; (case k1 => k_asm); (case k2 => k_mem); (case k3 => assumption); (case k4 => k_mem); (case k5 => units_room)); (have N7 := news_less (news_less (by assumption)))))
local macro_rules | `(tactic| walk_at "compareOp Eq ref ref") => `(tactic| (k_here; k_dflt (refine' eq_nil ?k1 ?k2 ?k3 ?k4 ?k5 ?_; (case k1 => k_asm); (case k2 => k_mem); (case k3 => assumption); (case k4 => k_mem); (case k5 => units_room))))
local macro_rules | `(tactic| wrow_close) => `(tactic| first
  | exact good_true (by assumption) (by assumption) rfl
  | exact good_sum (by assumption) (by assumption) (by first | exact Or.inl (by assumption) | exact Or.inr (by assumption)) (by assumption) rfl)
set_option maxRecDepth 100000 in
set_option maxHeartbeats 40000000 in
theorem law_holds : PySem.Challenge.rw_xw0003_01.Holds := by
  refine hd_use ?_
  unfold hd
  dsimp only
  w_on
  k_fill
  intro w s₀ s₁ mg mb G Y fa o pm cd doc dV kV ho hdl hcd hD hmg hg args vals as hpre hlay hrd hwl hlo
  have KX := kIn_of Y
  have X := (Ground.X G).1
  have V := (Ground.X G).2
  have GL := glob_more (Ground.glob G names_ok imports_none) V
  refine Ground.open G ?_
  intro T B D TE TW
  refine guard_noD D (by decide +kernel) ?_
  clear D
  obtain ⟨_, _, M⟩ := bmod_of_top T
  have TA := at_of_top T
  obtain ⟨_, _, he, B0⟩ := based_of_top T rfl hmg ho hdl
  have he' : cd = _ := he
  subst he'
  clear he
  clear hmg
  wrow_args hpre hlay hrd hwl hlo
  refine enter_call ?_
  w_top on
  refine codeAny_mono ?_ (fun _ _ g => GoodW.toG g)
  have K0 := below_caller (Top.heap T)
  w_call any ho hdl hcd hD T F
  clear hdl TA
  k_drop
  all_goals try k_fold
  k_steps
end Mine

theorem PySem.Challenge.cw_xw0003_01_holds : PySem.Challenge.rw_xw0003_01.Holds :=
  Mine.law_holds
