import PyProof.Rows.All
import Wide.All
import OpenK.AllK
import Wide.FinOn
import Lean
import PySem.Challenge.RW_sm0102_01
set_option Elab.async false
set_option linter.unusedVariables false
set_option maxRecDepth 100000
set_option maxHeartbeats 0
namespace Mine
section
open PySem PySem.W PySem.Calls PyProof.Rows
def runG (thr ok : Thread → Bool) (stp : SharedT → Thread → Option (SharedT × Thread)) : Nat → SharedT → Thread → Option SharedT
  | 0, _, _ => none
  | n + 1, s, t => match thr t with
    | true => some s
    | false => match ok t with
      | false => none
      | true => match stp s t with
        | some (s', t') => runG thr ok stp n s' t'
        | none => none
theorem runG_spec {tb : String → Option Builtin} {p : Program} {w : World} {m : Nat} {ann : Option Value} : ∀ {n : Nat} {s s' : SharedT} {t : Thread}, runG through (stepOk m ann) (stepT (denote tb) p w) n s t = some s' → topRun tb p w m ann n s.abs t = some s'.abs
  | 0, _, _, _, h => by cases h
  | n + 1, s, s', t, h => by
    unfold runG at h
    unfold topRun
    cases ht : through t with
    | true => rw [ht] at h; cases h; rfl
    | false =>
      rw [ht] at h
      cases hk : stepOk m ann t with
      | false => rw [hk] at h; cases h
      | true =>
        rw [hk] at h
        cases hs : stepT (denote tb) p w s t with
        | none => rw [hs] at h; cases h
        | some r => obtain ⟨s₂, t₂⟩ := r; rw [hs] at h; rw [stepT_spec hs]; exact runG_spec h
noncomputable def bootT (P : Params) : BT := .node (boot_o_0 P)
  (.node (boot_o_1 P) (.node (boot_o_3 P) (.node (boot_o_7 P) .nil .nil) .nil) (.node (boot_o_5 P) (.node (boot_o_9 P) .nil .nil) .nil))
  (.node (boot_o_2 P) (.node (boot_o_4 P) (.node (boot_o_8 P) .nil .nil) .nil) (.node (boot_o_6 P) (.node (boot_o_10 P) .nil .nil) .nil))
noncomputable def startT (w : World) (os : OsState) : SharedT := ⟨bootT w.params, 11, {}, #[], boot_drawn, boot_toks, os⟩
theorem startT_abs (w : World) (os : OsState) : (startT w os).abs = ⟨boot_heap w.params, #[], boot_drawn, boot_toks, os⟩ := by kernel_rfl
noncomputable abbrev stpQ := Fast.tw10156331382660048174
noncomputable abbrev denQ := Fast.tw11892475500146522536
noncomputable abbrev okQ := Fast.tw6613529449190102663
noncomputable abbrev tbQ := Fast.tw14364793385576792824
abbrev pwM := PySem.Challenge.pw_sm0102_01
abbrev rwM := PySem.Challenge.rw_sm0102_01
/-- the run of the top, from the booted machine -/
noncomputable def runQ (w : World) (os : OsState) : Option SharedT := runG through (okQ 11 (some (.ref 6))) (stpQ (denQ tbQ) pwM w) 7596 (startT w os) (topStub pwM)
def Gives {α : Type} (f : World → SharedT → α) (v : World → α) : Prop := ∀ w os, (runQ w os).map (f w) = some (v w)
theorem runQ_top {w : World} {os : OsState} {s : SharedT} (h : runQ w os = some s) : topRun treeTable pwM w 11 (some (.ref 6)) 7596 ⟨boot_heap w.params, #[], boot_drawn, boot_toks, os⟩ (topStub pwM) = some s.abs := by
  rw [← startT_abs w os]
  refine runG_spec ?_
  rw [Fast.te10156331382660048174, Fast.te11892475500146522536, Fast.te6613529449190102663, Fast.te14364793385576792824]
  exact h
theorem boot_opens : ∀ w : World, (fencedOpening treeTable pwM w 7596).map (fun s => (s.heap, s.gens, s.drawn, s.toks)) = some (boot_heap w.params, Array.mk [], boot_drawn, boot_toks) :=
  boot_open (by kernel_rfl) (by decide +kernel) (fun s => by kernel_rfl)
theorem boot_size (w : World) : ((boot_heap w.params).isNs mainGlobals && (Array.mk ([] : List GenState)).size == 0, (boot_heap w.params).objs.size, (boot_heap w.params).nsMap mainGlobals "__annotations__") = (true, 11, some (.ref 6)) := by kernel_rfl
theorem left_of {α : Type} {q : Program} {loose : List Str} {xt : Shared → Bool} {Yf : Shared → α} {Ya : World → α}
    (g1 : Gives (fun w s => staticsOk (importedModules pwM.main.body) (boot_heap w.params) s.abs.heap && namesBound pwM s.abs.heap && gensDone s.abs && laidKept (boot_heap w.params) s.abs.heap) fun _ => true)
    (g2 : Gives (fun _ s => (Fast.tw5160383126252970620 (R.mapR (fun x => x.name) (Fast.tw3399658132070893891 q)) (Fast.tw5991557255702980513 q) [] { heap := s.abs.heap, gens := #[], drawn := s.abs.drawn, toks := s.abs.toks, os := s.abs.os }))
    fun _ => ({ defs := List.map (fun d => some d.shape) (Fast.tw3399658132070893891 q), ownsOk := true, names := [], globalsOk := true, builtinsOk := true, noLimit := true, gens := 0 } : PyProof.Rows.Seen))
    (g3 : Gives (fun _ s => (s.abs.heap.bltView, Fast.tw10880121769531294198 s.abs.heap (Fast.tw821141287760084731 q loose) (R.mapR (fun x => x.name) (Fast.tw3399658132070893891 q)) (R.mapR (fun x => x.fst) (Fast.tw7409074990110511671 q)) (R.mapR (fun x => x.name) (Fast.tw13664370479719496447 q (Fast.tw821141287760084731 q loose)))))
    fun _ => (bltViewBooted, true))
    (g4 : Gives (fun _ s => (Fast.tw14722251495701143533 s.abs.heap (importedModules pwM.main.body) && s.abs.heap.isNs mainGlobals && s.abs.heap.isNs builtinsNs && Fast.tw10994771534591457954 q s.abs.heap && xt s.abs && (s.abs.gens.size == 0), Fast.tw16090120013241838585 q (Fast.tw3247288618530077131 q) s.abs))
    fun _ => (true, pinGoodD (Fast.tw3247288618530077131 q)))
    (g5 : Gives (fun _ s => Fast.tw479339242167458305 q s.abs) fun _ => true)
    (g6 : Gives (fun _ s => (Fast.tw2386780881361962483 q (Fast.tw821141287760084731 q loose) s.abs, Fast.tw11698064438423848299 q loose s.abs)) fun _ => (List.map (fun c => some c.withCmp.plainShape) (Fast.tw210736558901404530 q (Fast.tw821141287760084731 q loose)), plainGoodD q loose))
    (g7 : Gives (fun _ s => (Fast.tw7317090234206586261 q s.abs, Fast.tw7369524293546568484 q loose s.abs)) fun _ => (((List.map (fun d => some d.fst.shape) (Fast.tw694669760492028198 q), true) : List (Option FnShape) × Bool), clsGoodW q loose))
    (gY : Gives (fun _ s => Yf s.abs) Ya) : LeftO pwM q loose xt Yf Ya 7596 := fun w => by
  obtain ⟨⟨h, gs, d, k, os⟩, e, e'⟩ := Option.map_eq_some_iff.mp (boot_opens w)
  obtain ⟨rfl, rfl, rfl, rfl⟩ : h = boot_heap w.params ∧ gs = Array.mk [] ∧ d = boot_drawn ∧ k = boot_toks := by simpa using e'
  obtain ⟨z1, z2, z3⟩ : _ ∧ _ ∧ _ := by simpa only [Prod.mk.injEq] using boot_size w
  obtain ⟨s, r1, l3⟩ := Option.map_eq_some_iff.mp (gY w os)
  have at_ : ∀ {β : Type} {f : World → SharedT → β} {v : World → β}, Gives f v → f w s = v w := fun g => by
    have := g w os
    rw [r1] at this
    exact Option.some.inj this
  have r := runQ_top r1
  have t : topFrom treeTable pwM w 7596 ⟨boot_heap w.params, Array.mk [], boot_drawn, boot_toks, os⟩ = some s.abs := by
    unfold topFrom
    dsimp only
    rw [z1, z2, z3]
    rw [r, Option.bind_some]
    have e1 := at_ g1
    dsimp only at e1 ⊢
    rw [e1]
  unfold openEnds
  rw [e, Option.bind_some, t, Option.map_some]
  refine congrArg some (Prod.ext ?_ l3)
  have e2 := at_ g2
  obtain ⟨e3, e4⟩ := Prod.mk.inj (at_ g3)
  obtain ⟨e5, e6⟩ := Prod.mk.inj (at_ g4)
  have e7 := at_ g5
  obtain ⟨e8, e9⟩ := Prod.mk.inj (at_ g6)
  obtain ⟨e10, e11⟩ := Prod.mk.inj (at_ g7)
  show openSeen q loose (importedModules pwM.main.body) xt true s.abs = openGood q loose
  rw [Fast.te4187177175401517315]
  unfold Fast.tw4187177175401517315 openGood expectedOf plainGoodE wideGood
  rw [Fast.te3399658132070893891, Fast.te3247288618530077131, Fast.te210736558901404530, Fast.te821141287760084731, Fast.te694669760492028198]
  refine Prod.ext e2 (Prod.ext e3 (Prod.ext ?_ (Prod.ext e7 (Prod.ext e6 (Prod.ext e8 (Prod.ext e9 (Prod.ext e10 e11)))))))
  show (Fast.tw10880121769531294198 s.abs.heap (Fast.tw821141287760084731 q loose) (R.mapR (fun x => x.name) (Fast.tw3399658132070893891 q)) (R.mapR (fun x => x.fst) (Fast.tw7409074990110511671 q)) (R.mapR (fun x => x.name) (Fast.tw13664370479719496447 q (Fast.tw821141287760084731 q loose))) && Fast.tw14722251495701143533 s.abs.heap (importedModules pwM.main.body) && s.abs.heap.isNs mainGlobals && s.abs.heap.isNs builtinsNs && Fast.tw10994771534591457954 q s.abs.heap && xt s.abs && (s.abs.gens.size == 0)) = true
  rw [e4, Bool.true_and]
  exact e5
/-- the statements of the text that are neither a name's change nor loose -/
def viewQ : Program := view pwM ((List.range 113).filter fun i => ![1, 4, 6, 12, 24, 25, 34, 43, 52, 54, 60, 61, 71, 72, 95, 98].contains i)
def looseQ : List Str := [Str.ofString "number_text", Str.ofString "compare_op", Str.ofString "order_by"]
def xtQ (s : Shared) : Bool := xlAt viewQ [] s && recOk (RowW.records (OpenRow.toRowW (OpenLaw.row rwM))) s
theorem gA : Gives (fun w s => (staticsOk (importedModules pwM.main.body) (boot_heap w.params) s.abs.heap && namesBound pwM s.abs.heap && gensDone s.abs && laidKept (boot_heap w.params) s.abs.heap,
 Fast.tw479339242167458305 viewQ s.abs)) fun _ => ((true),
 (true)) := by intro w os; kernel_rfl
theorem gD : Gives (fun w s => (Fast.tw5160383126252970620 (R.mapR (fun x => x.name) (Fast.tw3399658132070893891 viewQ)) (Fast.tw5991557255702980513 viewQ) [] { heap := s.abs.heap, gens := #[], drawn := s.abs.drawn, toks := s.abs.toks, os := s.abs.os })) fun _ => ({ defs := List.map (fun d => some d.shape) (Fast.tw3399658132070893891 viewQ), ownsOk := true, names := [], globalsOk := true, builtinsOk := true, noLimit := true, gens := 0 } : PyProof.Rows.Seen) := by intro w os; kernel_rfl
theorem gB : Gives (fun w s => ((s.abs.heap.bltView, Fast.tw10880121769531294198 s.abs.heap (Fast.tw821141287760084731 viewQ looseQ) (R.mapR (fun x => x.name) (Fast.tw3399658132070893891 viewQ)) (R.mapR (fun x => x.fst) (Fast.tw7409074990110511671 viewQ)) (R.mapR (fun x => x.name) (Fast.tw13664370479719496447 viewQ (Fast.tw821141287760084731 viewQ looseQ)))),
 (Fast.tw14722251495701143533 s.abs.heap (importedModules pwM.main.body) && s.abs.heap.isNs mainGlobals && s.abs.heap.isNs builtinsNs && Fast.tw10994771534591457954 viewQ s.abs.heap && xtQ s.abs && (s.abs.gens.size == 0), Fast.tw16090120013241838585 viewQ (Fast.tw3247288618530077131 viewQ) s.abs))) fun _ => (((bltViewBooted, true)),
 ((true, pinGoodD (Fast.tw3247288618530077131 viewQ)))) := by intro w os; kernel_rfl
theorem gC : Gives (fun w s => ((Fast.tw2386780881361962483 viewQ (Fast.tw821141287760084731 viewQ looseQ) s.abs, Fast.tw11698064438423848299 viewQ looseQ s.abs),
 (Fast.tw7317090234206586261 viewQ s.abs, Fast.tw7369524293546568484 viewQ looseQ s.abs))) fun _ => (((List.map (fun c => some c.withCmp.plainShape) (Fast.tw210736558901404530 viewQ (Fast.tw821141287760084731 viewQ looseQ)), plainGoodD viewQ looseQ)),
 ((((List.map (fun d => some d.fst.shape) (Fast.tw694669760492028198 viewQ), true) : List (Option FnShape) × Bool), clsGoodW viewQ looseQ))) := by intro w os; kernel_rfl
theorem Gives.l {α β : Type} {f : World → SharedT → α × β} {v : World → α × β} (h : Gives f v) : Gives (fun w s => (f w s).1) (fun w => (v w).1) := fun w os => by
  have e := congrArg (Option.map Prod.fst) (h w os)
  rw [Option.map_map] at e
  exact e
theorem Gives.r {α β : Type} {f : World → SharedT → α × β} {v : World → α × β} (h : Gives f v) : Gives (fun w s => (f w s).2) (fun w => (v w).2) := fun w os => by
  have e := congrArg (Option.map Prod.snd) (h w os)
  rw [Option.map_map] at e
  exact e
theorem left_q {α : Type} {Yf : Shared → α} {Ya : World → α} (gY : Gives (fun _ s => Yf s.abs) Ya) : LeftO pwM viewQ looseQ xtQ Yf Ya 7596 := left_of gA.l gD gB.l gB.r gA.r gC.l gC.r gY
theorem said3 : Fast.tw8377067652309620493 (Fast.tw2368527892694137696 PySem.Challenge.rw_sm0102_01).prog = true := by kernel_rfl
theorem said6 : (Fast.tw17119622794617984870 (Fast.tw2368527892694137696 PySem.Challenge.rw_sm0102_01).prog (Fast.tw2368527892694137696 PySem.Challenge.rw_sm0102_01).prog.main.body fun _ n => Fast.tw17868728402115742887 n) = true := by kernel_rfl
theorem saidL : Fast.tw12908688711261696721 (Fast.tw2368527892694137696 PySem.Challenge.rw_sm0102_01).prog = true := by
  unfold Fast.tw12908688711261696721
  repeat' with_reducible refine look_both ?_ ?_
  all_goals (first | with_reducible exact said3 | with_reducible exact said6 | kernel_rfl)
theorem saidR : Fast.tw17960256430627541270 (Fast.tw2368527892694137696 PySem.Challenge.rw_sm0102_01) = true := by
  unfold Fast.tw17960256430627541270
  repeat' with_reducible refine look_both ?_ ?_
  all_goals try unfold Fast.tw2436336058641802641
  repeat' with_reducible refine look_both ?_ ?_
  all_goals (first | with_reducible exact saidL | kernel_rfl)
theorem said : PySem.Challenge.rw_sm0102_01.wellSaid = true := by
  rw [Fast.te9446332074065402090]
  unfold Fast.tw9446332074065402090
  repeat' with_reducible refine look_both ?_ ?_
  all_goals (first | with_reducible exact saidR | kernel_rfl)
/-- the law's def as the view holds it -/
noncomputable def dLaw : DefRec × List (Str × Expr) := (defOf viewQ "law").getD (⟨"", ⟨[], [], none, [], [], none, []⟩, [], default, default⟩, [])
theorem dLaw_def : defOf viewQ (RowW.name (OpenRow.toRowW (OpenLaw.row rwM))) = some (dLaw.1, dLaw.2) := by kernel_rfl
theorem dLaw_the : (RowW.prog (OpenRow.toRowW (OpenLaw.row rwM))).theDef (RowW.name (OpenRow.toRowW (OpenLaw.row rwM))) = some (dLaw.1.params, dLaw.1.body, dLaw.1.scope) := by kernel_rfl
theorem dLaw_kw : kwWritten? dLaw.1.params.kwonlyargs dLaw.1.params.kw_defaults = some dLaw.2 := by kernel_rfl
theorem dLaw_name : dLaw.1.name = "law" := by kernel_rfl
theorem okQ1 : (chainsOk viewQ && opensWell (RowW.prog (OpenRow.toRowW (OpenLaw.row rwM))) && (frees (OpenRow.toRowW (OpenLaw.row rwM)) && (RowW.within (OpenRow.toRowW (OpenLaw.row rwM))).isEmpty)) = true := by kernel_rfl
theorem bareQ : (RowW.prog (OpenRow.toRowW (OpenLaw.row rwM))).bare := ⟨rfl, rfl, rfl, rfl, rfl, by decide +kernel⟩
local macro_rules | `(tactic| o_law) => `(tactic| refine holds_law Mine.said fun said => ?_)
local macro_rules | `(tactic| o_head $H) => `(tactic| (
  refine holds_open (q := Mine.viewQ) (loose := Mine.looseQ) (Xt := Mine.xtQ) (XP := XL Mine.viewQ []) (Yf := Hook.obs $H) (Ya := Hook.val $H) (YP := Hook.says $H) (d := Mine.dLaw.1) (kwd := Mine.dLaw.2) (N := 7596)
    (Mine.left_q ?gY) (Hook.of $H) (Hook.keeps $H) (fun s e => xl_of s (Bool.and_eq_true_iff.mp e).1) XL.keeps Mine.dLaw_def Mine.dLaw_the Mine.dLaw_kw (fun s e => recFacts_of (Bool.and_eq_true_iff.mp e).2) (by rfl) (by assumption) Mine.okQ1 Mine.bareQ ?hw ?hc
  case gY => (intro w os; kernel_rfl)))
open_top hd for PySem.Challenge.rw_sm0102_01
end
section
open PySem PySem.Spec PySem.Calls PyProof.Rows PySem.W
-- MBase
/-- a value without its token -/
noncomputable def er : Value → Value
  | .int i _ => .int i 0
  | .str s _ => .str s 0
  | .float b _ => .float b 0
  | .bytes b _ => .bytes b 0
  | v => v

theorem er_int {v : Value} {i : Int} (h : er v = .int i 0) : ∃ t, v = .int i t := by
  cases v <;> simp [er] at h; exact ⟨_, by rw [h]⟩
theorem er_str {v : Value} {x : Str} (h : er v = .str x 0) : ∃ t, v = .str x t := by
  cases v <;> simp [er] at h; exact ⟨_, by rw [h]⟩
theorem er_bool {v : Value} {b : Bool} (h : er v = .bool b) : v = .bool b := by cases v <;> simp [er] at h; rw [h]
theorem er_none {v : Value} (h : er v = .none) : v = .none := by cases v <;> simp [er] at h; rfl
theorem er_ref {v : Value} {a : Addr} (h : er v = .ref a) : v = .ref a := by cases v <;> simp [er] at h; rw [h]
theorem er_builtin {v : Value} {a : String} (h : er v = .builtin a) : v = .builtin a := by cases v <;> simp [er] at h; rw [h]
theorem er_type {v : Value} {a : String} (h : er v = .type a) : v = .type a := by cases v <;> simp [er] at h; rw [h]
theorem er_er (v : Value) : er (er v) = er v := by cases v <;> rfl

/-- None or a str as a key -/
noncomputable def optIs : Option Str → Value → Bool
  | none, .none => true
  | none, _ => false
  | some x, v => Value.isStrOf x v
theorem optIs_shape {k : Option Str} {v : Value} (h : optIs k v = true) : (k = none ∧ v = .none) ∨ ∃ x t, k = some x ∧ v = .str x t := by
  cases k with
  | none => cases v <;> simp [optIs] at h; exact .inl ⟨rfl, rfl⟩
  | some x => exact .inr ⟨x, let ⟨t, e⟩ := Value.isStrOf_shape (show Value.isStrOf x v = true from h); ⟨t, rfl, e⟩⟩
noncomputable def optHash (w : World) : Option Str → Int
  | none => 0xFCA86420
  | some x => hashStr w x
section
variable {prog : Program} {w : World} {A : Around} {E : Value → Shared → Prop} {s : Shared}
theorem pyHash_none {Q : Int → Shared → Prop} (h : Q 0xFCA86420 { s with toks := s.toks + 1 }) : wpAny (model prog w) A (pyHash .none) Q E s := by
  have hT : ∀ s : Shared, s.TypeIs .none "NoneType" := fun _ => rfl
  unfold pyHash pyHashByItsType
  have hv : [Value.none].any Value.onHeap = false := rfl
  refine wpAny_bind ?_
  rw [cRoomFor, if_neg (by rw [hv]; exact Bool.false_ne_true)]; refine wpAny_pure ?_
  refine wpAny_bind (wpAny_specialOf (hT s) PySem.F.slot_NoneType_hash.lookup ?_)
  show wpAny _ _ (if (some (Value.builtin "NoneType.__hash__") == some Value.none) = true then _ else _) Q E s
  rw [if_neg (by rw [beq_builtin_none]; exact Bool.false_ne_true)]
  refine wpAny_bind (wpAny_specialOf (hT s) PySem.F.slot_NoneType_hash.lookup ?_)
  show wpAny _ _ (callSpecialIfBoundUnlessNone? .none "__hash__" _ >>= _) Q E s
  refine wpAny_bind (wpAny_callSpecialIfBoundUnlessNone?_slot (hT s) PySem.F.slot_NoneType_hash
    (wpAny_call_entry PySem.F.slot_NoneType_hash (hT s) PySem.F.entry_NoneType_hash
      (show wpAny _ _ (do ret (← mkInt 0xFCA86420)) _ _ s from wpAny_ret_mkInt ?_) (PySem.F.args_NoneType_hash_1 _)))
  show wpAny _ _ (if (decide (-(2 : Int) ^ 63 ≤ 0xFCA86420) && decide ((0xFCA86420 : Int) < 2 ^ 63)) = true then _ else _) Q E _
  rw [if_pos (by decide)]
  exact wpAny_pure h
theorem eqBool_opt {a b : Option Str} {u v : Value} {Q : Bool → Shared → Prop} (hu : optIs a u = true) (hv : optIs b v = true) (h : Q (decide (a = b)) s) :
    wpAny (model prog w) A (PySem.eqBool u v) Q E s := by
  rcases optIs_shape hu with ⟨rfl, rfl⟩ | ⟨x, t, rfl, rfl⟩ <;> rcases optIs_shape hv with ⟨rfl, rfl⟩ | ⟨y, t', rfl, rfl⟩
  · unfold PySem.eqBool
    show wpAny _ _ (rule "eq-bool.same-object" >>= fun _ => pure true) Q E s
    exact wpAny_bind (wpAny_rule (wpAny_pure (by simpa using h)))
  · unfold PySem.eqBool
    show wpAny _ _ (richCompare .Eq Value.none (Value.str y t') >>= truthOfDropped) Q E s
    exact wpAny_bind (EqNone.eq_none_str (wpAny_truthy_bool (by simpa using h)))
  · unfold PySem.eqBool
    show wpAny _ _ (richCompare .Eq (Value.str x t) Value.none >>= truthOfDropped) Q E s
    exact wpAny_bind (EqNone.eq_str_none (wpAny_truthy_bool (by simpa using h)))
  · refine wpAny_eqBool_str ?_
    have : decide (some x = some y) = decide (x = y) := by simp
    rw [← this]; exact h
end
noncomputable def optKind (prog : Program) (w : World) : KeyKind prog w (Option Str) where
  is := optIs
  hash := optHash w
  inj := fun v a b ha hb => by
    rcases optIs_shape ha with ⟨rfl, rfl⟩ | ⟨x, t, rfl, rfl⟩ <;> rcases optIs_shape hb with ⟨rfl, h⟩ | ⟨y, t', rfl, h⟩
    · rfl
    · cases h
    · cases h
    · injection h with h1; rw [h1]
  byValue := fun k v h => by rcases optIs_shape h with ⟨rfl, rfl⟩ | ⟨x, t, rfl, rfl⟩ <;> rfl
  pyHash := fun hv h => by
    rcases optIs_shape hv with ⟨rfl, rfl⟩ | ⟨x, t, rfl, rfl⟩
    · exact pyHash_none h
    · exact wpAny_pyHash_str h
  eqBool := fun hu hv h => eqBool_opt hu hv h
  «strs» := fun k x t v h => by
    rcases optIs_shape h with ⟨_, h'⟩ | ⟨y, t', rfl, h'⟩
    · cases h'
    · injection h' with h1; subst h1; cases v <;> rfl

inductive AO where
  | list (xs : List Value)
  | tup (xs : List Value)
  | dict (es : List (Option Str × Value)) (ep : Nat)
  | ns (es : List (Str × Value))
  | inst (C dx : Addr)
  | obj (o : Obj)
  | fld (name : Str) (val : Value)

abbrev AH := Addr → Option AO
abbrev Loc := Str → Option Value
abbrev Prot := Addr → Option Obj
abbrev PR : Program := PySem.Challenge.rw_sm0102_01.row.prog
noncomputable abbrev KK (w : World) : Frag := hd.heap_1 w.params
noncomputable def upd {α β : Type} [DecidableEq α] (H : α → Option β) (a : α) (o : β) : α → Option β := fun b => if b = a then some o else H b
section
variable {α β : Type} [DecidableEq α] {H : α → Option β} {a b : α} {o x : β}
theorem upd_self : upd H a o a = some o := by simp [upd]
theorem upd_ne (h : b ≠ a) : upd H a o b = H b := by simp [upd, h]
theorem upd_of (hn : H a = none) (h : H b = some x) : upd H a o b = some x := by
  rw [upd_ne, h]; rintro rfl; rw [hn] at h; cases h
theorem upd_none (h : b ≠ a) (hn : H b = none) : upd H a o b = none := by rw [upd_ne h, hn]
theorem upd_upd : upd (upd H a o) a x = upd H a x := by funext b; unfold upd; split <;> rfl
end

noncomputable def Ext (H H' : AH) : Prop := ∀ a o, H a = some o → H' a = some o
theorem Ext.refl (H : AH) : Ext H H := fun _ _ e => e
theorem Ext.trans {H H' H'' : AH} (x : Ext H H') (y : Ext H' H'') : Ext H H'' := fun a o e => y a o (x a o e)
theorem Ext.upd {H H' : AH} {a : Addr} {o : AO} (x : Ext H H') (hn : H' a = none) : Ext H (Mine.upd H' a o) := fun _ _ e => upd_of hn (x _ _ e)
theorem Ext.new {H : AH} {a : Addr} {o : AO} (hn : H a = none) : Ext H (Mine.upd H a o) := (Ext.refl H).upd hn

/-- a dict's data: a frame is such a one -/
noncomputable def IsD (o : Obj) : Prop := ∃ es ep, o.data = .dict es ep
structure Gl where
  w : World
  h₀ : Heap
  gens : Array GenState
  os : OsState
  drawn : Drawn
  mg : Str → Option Value
  mb : Str → Option Value
structure Gl.Ok (Γ : Gl) : Prop where
  k : (KK Γ.w).In Γ.h₀
  g : Γ.h₀.Ns mainGlobals Γ.mg
  b : Γ.h₀.Ns builtinsNs Γ.mb
  bi : ∀ x : Str, x ≠ "__name__" → Γ.mb x = bootBuiltins x
  nolimit : Γ.h₀.NoLimit
  nodigits : ∃ mc, Γ.h₀.Ns cStatics mc ∧ mc "sys.int_max_str_digits" = none
  last : ∃ z o, Γ.h₀.get? z = some o ∧ Γ.h₀.objs.size ≤ z + 1
  sys : ∃ o, Γ.h₀.get? sysModules = some o

noncomputable def AO.Is (Γ : Gl) (h : Heap) (a : Addr) : AO → Prop
  | .list xs => ∃ vs n, h.get? a = some (listOf vs n) ∧ vs.toList.map er = xs
  | .tup xs => ∃ vs n, h.get? a = some ({ cls := .type "tuple", data := .seq vs n } : Obj) ∧ vs.toList.map er = xs
  | .dict es ep => ∃ kvs, h.DictAt (optKind PR Γ.w) a kvs ep ∧ kvs.map (fun p => (p.1, er p.2)) = es
  | .ns es => ∃ ds n, h.get? a = some (dictOf ds n) ∧ ds.map (fun e => (er e.key, er e.val)) = es.map fun p => (Value.str p.1 0, p.2)
  | .inst C dx => h.get? a = some (instObj C dx)
  | .obj o => h.get? a = some o
  | .fld name val => ∃ m v, h.Ns a m ∧ m name = some v ∧ er v = val

structure Base (Γ : Gl) (g : Prot) (H : AH) (s : Shared) : Prop where
  ok : Γ.Ok
  gens : s.gens = Γ.gens
  os : s.os = Γ.os
  drawn : s.drawn = Γ.drawn
  k0 : ∀ b o, Γ.h₀.get? b = some o → s.heap.get? b = some o
  kg : ∀ b o, g b = some o → ∃ sl, s.heap.get? b = some { o with slots := sl } ∧ (IsD o ∨ sl = o.slots)
  sees : ∀ a o, H a = some o → o.Is Γ s.heap a
  sep : ∀ a o, H a = some o → g a = none ∧ Γ.h₀.get? a = none

structure Fm where
  A : Around
  e : Env
  fn : Bool
  fr : List Env
  k : Nat
  hd : Bool
noncomputable def Room (A : Around) (k : Nat) : Prop := A.depth + 2 * k < recursionLimit ∧ A.units + 20 * k + 20 < cLine
noncomputable def Fm.own (c : Fm) : List Addr := c.e.locals :: (if c.fn then c.e.cells.map (·.2) else [])
structure Fm.Ok (c : Fm) : Prop where
  kind : c.e.scope.kind = .function
  glob : c.e.globals = mainGlobals
  bui : c.e.builtins = builtinsNs
  apart : c.fn = true → c.e.cells.Pairwise fun x y => x.2 ≠ y.2
  off : ∀ n a, c.e.cells.lookup n = some a → a ≠ c.e.locals
  room : Room c.A c.k
  frames : c.A.frames = some c.fr
  handled : c.hd = true → c.A.handled = none

structure Locs (e : Env) (ρ : Loc) (h : Heap) (m cm : Str → Option Value) : Prop where
  ns : h.Ns e.locals m
  cell : ∀ n a, e.cells.lookup n = some a → h.IsCell a (cm n)
  loc : ∀ x v, ρ x = some v → e.kindOf x = some .local → ∃ v', m x = some v' ∧ er v' = v
  cel : ∀ x v, ρ x = some v → (e.kindOf x = some .cell ∨ e.kindOf x = some .free) → ∃ a v', e.cells.lookup x = some a ∧ cm x = some v' ∧ er v' = v

structure Rel (Γ : Gl) (c : Fm) (g : Prot) (ρ : Loc) (H : AH) (s : Shared) : Prop where
  base : Base Γ g H s
  fok : c.Ok
  loc : ∃ m cm, Locs c.e ρ s.heap m cm
  own : ∀ a, a ∈ c.own → g a = none ∧ Γ.h₀.get? a = none ∧ H a = none ∧ (s.heap.get? a).isSome
  pro : ∀ n a, c.e.cells.lookup n = some a → a ∈ c.own ∨ ∃ o, g a = some o
  abv : Γ.h₀.objs.size ≤ c.e.locals
  frs : ∀ env ∈ c.fr, env.scope.kind ≠ .module ∧ ∃ L, env.frame = some L ∧ Γ.h₀.get? L = none ∧ (L = c.e.locals ∨ ∃ o, g L = some o ∧ IsD o)

/-! keeping -/
theorem Is_keep {Γ : Gl} {h h' : Heap} {a : Addr} {o : AO} (x : o.Is Γ h a) (e : ∀ ob, h.get? a = some ob → h'.get? a = some ob) : o.Is Γ h' a := by
  cases o with
  | list xs => obtain ⟨vs, n, h1, h3⟩ := x; exact ⟨vs, n, e _ h1, h3⟩
  | tup xs => obtain ⟨vs, n, h1, h3⟩ := x; exact ⟨vs, n, e _ h1, h3⟩
  | dict es ep => obtain ⟨kvs, ⟨ob, e1, h1, h2⟩, h3⟩ := x; exact ⟨kvs, ⟨ob, e1, e _ h1, h2⟩, h3⟩
  | ns es => obtain ⟨ds, n, h1, h3⟩ := x; exact ⟨ds, n, e _ h1, h3⟩
  | inst C dx => exact e _ x
  | obj o => exact e _ x
  | fld name val => obtain ⟨m, v, ⟨ob, e1, e2, h1, h2⟩, h3⟩ := x; exact ⟨m, v, ⟨ob, e1, e2, e _ h1, h2⟩, h3⟩
theorem Is_get {Γ : Gl} {h : Heap} {a : Addr} {o : AO} (x : o.Is Γ h a) : ∃ ob, h.get? a = some ob := by
  cases o with
  | list xs => obtain ⟨vs, n, h1, h3⟩ := x; exact ⟨_, h1⟩
  | tup xs => obtain ⟨vs, n, h1, h3⟩ := x; exact ⟨_, h1⟩
  | dict es ep => obtain ⟨kvs, ⟨ob, e1, h1, h2⟩, h3⟩ := x; exact ⟨ob, h1⟩
  | ns m => obtain ⟨ds, n, h1, h3⟩ := x; exact ⟨_, h1⟩
  | inst C dx => exact ⟨_, x⟩
  | obj o => exact ⟨_, x⟩
  | fld name val => obtain ⟨m, v, ⟨ob, e1, e2, h1, h2⟩, h3⟩ := x; exact ⟨_, h1⟩
theorem ns_slots {h h' : Heap} {a : Addr} {m : Str → Option Value} (x : h.Ns a m) (e : ∀ ob, h.get? a = some ob → ∃ sl, h'.get? a = some { ob with slots := sl }) : h'.Ns a m := by
  obtain ⟨ob, e1, e2, h1, h2, h3⟩ := x
  obtain ⟨sl, q⟩ := e _ h1
  exact ⟨_, e1, e2, q, h2, h3⟩
theorem cell_slots {h h' : Heap} {a : Addr} {v : Option Value} (x : h.IsCell a v) (e : ∀ ob, h.get? a = some ob → ∃ sl, h'.get? a = some { ob with slots := sl }) : h'.IsCell a v := by
  obtain ⟨ob, h1, h2⟩ := x
  obtain ⟨sl, q⟩ := e _ h1
  exact ⟨_, q, h2⟩

section
variable {Γ : Gl} {c : Fm} {g : Prot} {ρ : Loc} {H : AH} {s : Shared} {h' : Heap} {tk : Nat}

theorem Base.grow (B : Base Γ g H s) (e : ∀ b o, s.heap.get? b = some o → h'.get? b = some o) : Base Γ g H { s with heap := h', toks := tk } where
  ok := B.ok
  gens := B.gens
  os := B.os
  drawn := B.drawn
  k0 := fun b o q => e _ _ (B.k0 b o q)
  kg := fun b o q => let ⟨sl, z, f⟩ := B.kg b o q; ⟨sl, e _ _ z, f⟩
  sees := fun a o q => Is_keep (B.sees a o q) fun _ z => e _ _ z
  sep := B.sep
theorem Locs.grow {e : Env} {h h' : Heap} {m cm : Str → Option Value} (x : Locs e ρ h m cm) (k : ∀ b o, h.get? b = some o → h'.get? b = some o) : Locs e ρ h' m cm :=
  ⟨x.ns.keeps k, fun n a q => (x.cell n a q).keeps k, x.loc, x.cel⟩
theorem Rel.grow (R : Rel Γ c g ρ H s) (e : ∀ b o, s.heap.get? b = some o → h'.get? b = some o) : Rel Γ c g ρ H { s with heap := h', toks := tk } where
  base := R.base.grow e
  fok := R.fok
  loc := let ⟨m, cm, x⟩ := R.loc; ⟨m, cm, x.grow e⟩
  own := fun a q => let ⟨h1, h2, h3, h4⟩ := R.own a q; ⟨h1, h2, h3, let ⟨o, z⟩ := Option.isSome_iff_exists.mp h4; by show (h'.get? a).isSome = true; rw [e _ _ z]; rfl⟩
  pro := R.pro
  abv := R.abv
  frs := R.frs
theorem Rel.tok (R : Rel Γ c g ρ H s) : Rel Γ c g ρ H { s with toks := tk } := R.grow (h' := s.heap) fun _ _ e => e
theorem Base.tok (B : Base Γ g H s) : Base Γ g H { s with toks := tk } := B.grow (h' := s.heap) fun _ _ e => e

theorem none_size (h : Heap) : h.get? h.objs.size = none := by
  cases e : h.get? h.objs.size with
  | none => rfl
  | some o => exact absurd (Heap.lt_size e) (Nat.lt_irrefl _)
theorem Base.fresh (B : Base Γ g H s) {a : Addr} (e : s.heap.get? a = none) : g a = none ∧ Γ.h₀.get? a = none ∧ H a = none := by
  refine ⟨?_, ?_, ?_⟩
  · cases q : g a with
    | none => rfl
    | some o => obtain ⟨sl, z, _⟩ := B.kg a o q; rw [e] at z; cases z
  · cases q : Γ.h₀.get? a with
    | none => rfl
    | some o => rw [B.k0 a o q] at e; cases e
  · cases q : H a with
    | none => rfl
    | some o => obtain ⟨ob, z⟩ := Is_get (B.sees a o q); rw [e] at z; cases z
/-- a new object enters -/
theorem Base.enter (B : Base Γ g H s) {a : Addr} {o : AO} (hn : H a = none) (hg : g a = none) (h0 : Γ.h₀.get? a = none) (io : o.Is Γ s.heap a) : Base Γ g (upd H a o) s where
  ok := B.ok
  gens := B.gens
  os := B.os
  drawn := B.drawn
  k0 := B.k0
  kg := B.kg
  sees := fun b x q => by
    by_cases hb : b = a
    · subst hb; rw [upd_self] at q; cases q; exact io
    · rw [upd_ne hb] at q; exact B.sees b x q
  sep := fun b x q => by
    by_cases hb : b = a
    · subst hb; exact ⟨hg, h0⟩
    · rw [upd_ne hb] at q; exact B.sep b x q
theorem Rel.enter (R : Rel Γ c g ρ H s) {a : Addr} {o : AO} (hn : H a = none) (hg : g a = none) (h0 : Γ.h₀.get? a = none) (ho : a ∉ c.own) (io : o.Is Γ s.heap a) : Rel Γ c g ρ (upd H a o) s where
  base := R.base.enter hn hg h0 io
  fok := R.fok
  loc := R.loc
  own := fun b q => by
    have hb : b ≠ a := fun e => ho (e ▸ q)
    have := R.own b q
    rw [upd_ne hb]; exact this
  pro := R.pro
  abv := R.abv
  frs := R.frs
theorem Rel.notOwn (R : Rel Γ c g ρ H s) {a : Addr} (e : s.heap.get? a = none) : a ∉ c.own := fun q => by
  have := (R.own a q).2.2.2; rw [e] at this; cases this
theorem Rel.push (R : Rel Γ c g ρ H s) {ob : Obj} {o : AO} (io : o.Is Γ (s.heap.push ob) s.heap.objs.size) :
    Rel Γ c g ρ (upd H s.heap.objs.size o) { s with heap := s.heap.push ob, toks := tk } := by
  have e := none_size s.heap
  obtain ⟨h1, h2, h3⟩ := R.base.fresh e
  exact (R.grow fun b x q => Heap.get?_push_of_some _ q).enter h3 h1 h2 (R.notOwn e) io
theorem Rel.fresh (R : Rel Γ c g ρ H s) : H s.heap.objs.size = none := (R.base.fresh (none_size s.heap)).2.2
/-- an object of H changes -/
theorem Base.change (B : Base Γ g H s) {a : Addr} {o o' : AO} (ha : H a = some o) (hs : Heap.SameBut a s.heap h') (io : o'.Is Γ h' a) : Base Γ g (upd H a o') { s with heap := h', toks := tk } where
  ok := B.ok
  gens := B.gens
  os := B.os
  drawn := B.drawn
  k0 := fun b x q => (hs.2 b fun e => by rw [e, (B.sep a o ha).2] at q; cases q).trans (B.k0 b x q)
  kg := fun b x q => let ⟨sl, z, f⟩ := B.kg b x q; ⟨sl, (hs.2 b fun e => by rw [e, (B.sep a o ha).1] at q; cases q).trans z, f⟩
  sees := fun b x q => by
    by_cases hb : b = a
    · subst hb; rw [upd_self] at q; cases q; exact io
    · rw [upd_ne hb] at q; exact Is_keep (B.sees b x q) fun ob z => (hs.2 b hb).trans z
  sep := fun b x q => by
    by_cases hb : b = a
    · subst hb; exact B.sep b o ha
    · rw [upd_ne hb] at q; exact B.sep b x q
theorem Rel.change (R : Rel Γ c g ρ H s) {a : Addr} {o o' : AO} (ha : H a = some o) (hs : Heap.SameBut a s.heap h') (io : o'.Is Γ h' a) :
    Rel Γ c g ρ (upd H a o') { s with heap := h', toks := tk } := by
  have ne : ∀ b, b ∈ c.own → b ≠ a := fun b q e => by have := (R.own b q).2.2.1; rw [e, ha] at this; cases this
  have nec : ∀ n b, c.e.cells.lookup n = some b → b ≠ a := fun n b q => by
    rcases R.pro n b q with z | ⟨o, z⟩
    · exact ne b z
    · intro e; rw [e, (R.base.sep a _ ha).1] at z; cases z
  refine ⟨R.base.change ha hs io, R.fok, ?_, fun b q => ?_, R.pro, R.abv, R.frs⟩
  · obtain ⟨m, cm, x⟩ := R.loc
    exact ⟨m, cm, x.ns.sameBut hs (ne _ (.head _)), fun n b q => (x.cell n b q).sameBut hs (nec n b q), x.loc, x.cel⟩
  · obtain ⟨h1, h2, h3, h4⟩ := R.own b q
    refine ⟨h1, h2, by rw [upd_ne (ne b q)]; exact h3, ?_⟩
    show (h'.get? b).isSome = true
    rw [hs.2 b (ne b q)]; exact h4
/-- something hidden changes -/
theorem Base.hidden (B : Base Γ g H s) {a : Addr} (hg : g a = none) (h0 : Γ.h₀.get? a = none) (ha : H a = none) (hs : Heap.ExtBut a s.heap h') : Base Γ g H { s with heap := h', toks := tk } where
  ok := B.ok
  gens := B.gens
  os := B.os
  drawn := B.drawn
  k0 := fun b x q => hs b x (fun e => by rw [e, h0] at q; cases q) (B.k0 b x q)
  kg := fun b x q => let ⟨sl, z, f⟩ := B.kg b x q; ⟨sl, hs b _ (fun e => by rw [e, hg] at q; cases q) z, f⟩
  sees := fun b x q => Is_keep (B.sees b x q) fun ob z => hs b _ (fun e => by rw [e, ha] at q; cases q) z
  sep := B.sep
theorem Rel.hidden (R : Rel Γ c g ρ H s) {a : Addr} (hg : g a = none) (h0 : Γ.h₀.get? a = none) (ha : H a = none) (ho : a ∉ c.own) (hs : Heap.ExtBut a s.heap h') : Rel Γ c g ρ H { s with heap := h', toks := tk } := by
  have ne : ∀ b, b ∈ c.own → b ≠ a := fun b q e => ho (e ▸ q)
  have nec : ∀ n b, c.e.cells.lookup n = some b → b ≠ a := fun n b q => by
    rcases R.pro n b q with z | ⟨o, z⟩
    · exact ne b z
    · intro e; rw [e, hg] at z; cases z
  refine ⟨R.base.hidden hg h0 ha hs, R.fok, ?_, fun b q => ?_, R.pro, R.abv, R.frs⟩
  · obtain ⟨m, cm, x⟩ := R.loc
    exact ⟨m, cm, x.ns.extBut hs (ne _ (.head _)), fun n b q => let ⟨o, z, d⟩ := x.cell n b q; ⟨o, hs b o (nec n b q) z, d⟩, x.loc, x.cel⟩
  · obtain ⟨h1, h2, h3, h4⟩ := R.own b q
    obtain ⟨o, z⟩ := Option.isSome_iff_exists.mp h4
    exact ⟨h1, h2, h3, by show (h'.get? b).isSome = true; rw [hs b o (ne b q) z]; rfl⟩
theorem Rel.weakLoc {ρ' : Loc} (R : Rel Γ c g ρ H s) (h : ∀ x v, ρ' x = some v → ρ x = some v) : Rel Γ c g ρ' H s :=
  ⟨R.base, R.fok, let ⟨m, cm, x⟩ := R.loc; ⟨m, cm, x.ns, x.cell, fun y v q => x.loc y v (h y v q), fun y v q => x.cel y v (h y v q)⟩, R.own, R.pro, R.abv, R.frs⟩
theorem Base.weak {H' : AH} (B : Base Γ g H s) (h : Ext H' H) : Base Γ g H' s :=
  ⟨B.ok, B.gens, B.os, B.drawn, B.k0, B.kg, fun a o q => B.sees a o (h a o q), fun a o q => B.sep a o (h a o q)⟩
theorem Rel.weak {H' : AH} (R : Rel Γ c g ρ H s) (h : Ext H' H) : Rel Γ c g ρ H' s :=
  ⟨R.base.weak h, R.fok, R.loc, fun a q => let ⟨h1, h2, h3, h4⟩ := R.own a q; ⟨h1, h2, (by cases z : H' a with
    | none => rfl
    | some o => rw [h a o z] at h3; cases h3), h4⟩, R.pro, R.abv, R.frs⟩
end

/-! a wider ground -/
noncomputable def Wider (g g' : Prot) : Prop := ∀ b o, g b = some o → ∃ sl, g' b = some { o with slots := sl } ∧ (IsD o ∨ sl = o.slots)
section
variable {Γ : Gl} {c : Fm} {g g' : Prot} {ρ : Loc} {H H' : AH} {s s' : Shared}
theorem Base.narrow (W : Wider g g') (B : Base Γ g' H s) : Base Γ g H s where
  ok := B.ok
  gens := B.gens
  os := B.os
  drawn := B.drawn
  k0 := B.k0
  kg := fun b o q => by
    obtain ⟨sl, z, f⟩ := W b o q
    obtain ⟨sl', z', f'⟩ := B.kg b _ z
    exact ⟨sl', z', f.elim .inl fun e => f'.elim .inl fun e' => .inr (e'.trans e)⟩
  sees := B.sees
  sep := fun a o q => ⟨(by
    cases z : g a with
    | none => rfl
    | some x => obtain ⟨sl, y, _⟩ := W a x z; rw [(B.sep a o q).1] at y; cases y), (B.sep a o q).2⟩
/-- everything that stands, but what H and own hold -/
noncomputable def wide (c : Fm) (H : AH) (s : Shared) : Prot := fun b => if (H b).isSome || c.own.contains b then none else s.heap.get? b
noncomputable def wideAll (H : AH) (s : Shared) : Prot := fun b => if (H b).isSome then none else s.heap.get? b
theorem wide_eq {b : Addr} (h1 : H b = none) (h2 : b ∉ c.own) : wide c H s b = s.heap.get? b := by
  have : c.own.contains b = false := by simpa using h2
  unfold wide; rw [h1, this]; rfl
theorem wideAll_eq {b : Addr} (h1 : H b = none) : wideAll H s b = s.heap.get? b := by unfold wideAll; rw [h1]; rfl
theorem Rel.wider (R : Rel Γ c g ρ H s) : Wider g (wide c H s) := fun b o q => by
  obtain ⟨sl, z, f⟩ := R.base.kg b o q
  refine ⟨sl, ?_, f⟩
  rw [wide_eq ?_ ?_]
  · exact z
  · cases y : H b with
    | none => rfl
    | some x => rw [(R.base.sep b x y).1] at q; cases q
  · intro y; rw [(R.own b y).1] at q; cases q
theorem Rel.widen (R : Rel Γ c g ρ H s) : Rel Γ c (wide c H s) ρ H s where
  base := { R.base with
    kg := fun b o q => by
      unfold wide at q; split at q
      · cases q
      · exact ⟨o.slots, q, .inr rfl⟩
    sep := fun a o q => ⟨by unfold wide; rw [q]; rfl, (R.base.sep a o q).2⟩ }
  fok := R.fok
  loc := R.loc
  own := fun a q => let ⟨_, h2, h3, h4⟩ := R.own a q; ⟨by
    have : c.own.contains a = true := by simpa using q
    unfold wide; rw [this]; simp, h2, h3, h4⟩
  pro := fun n a q => by
    rcases R.pro n a q with z | ⟨o, z⟩
    · exact .inl z
    · obtain ⟨sl, y, _⟩ := R.wider a o z; exact .inr ⟨_, y⟩
  abv := R.abv
  frs := fun env q => by
    obtain ⟨h1, L, h2, h3, h4⟩ := R.frs env q
    refine ⟨h1, L, h2, h3, h4.imp id ?_⟩
    rintro ⟨o, z, d⟩
    obtain ⟨sl, y, _⟩ := R.wider L o z
    exact ⟨_, y, d⟩
theorem Rel.narrow (W : Wider g g') (R₀ : Rel Γ c g ρ H s) {ρ' : Loc} (R : Rel Γ c g' ρ' H' s') : Rel Γ c g ρ' H' s' where
  base := R.base.narrow W
  fok := R.fok
  loc := R.loc
  own := fun a q => let ⟨_, h2, h3, h4⟩ := R.own a q; ⟨(R₀.own a q).1, h2, h3, h4⟩
  pro := R₀.pro
  abv := R₀.abv
  frs := R₀.frs

noncomputable def FrOK (Γ : Gl) (fr : List Env) (g : Prot) : Prop :=
  ∀ env ∈ fr, env.scope.kind ≠ .module ∧ ∃ L, env.frame = some L ∧ Γ.h₀.get? L = none ∧ ∃ o, g L = some o ∧ IsD o

theorem Rel.out (R : Rel Γ c g ρ H s) : Base Γ (wideAll H s) H s ∧ FrOK Γ c.fr (wideAll H s) := by
  refine ⟨{ R.base with
    kg := fun b o q => by
      unfold wideAll at q; split at q
      · cases q
      · exact ⟨o.slots, q, .inr rfl⟩
    sep := fun a o q => ⟨by unfold wideAll; rw [q]; rfl, (R.base.sep a o q).2⟩ }, fun env q => ?_⟩
  obtain ⟨h1, L, h2, h3, h4⟩ := R.frs env q
  refine ⟨h1, L, h2, h3, ?_⟩
  rcases h4 with rfl | ⟨o, z, d⟩
  · have w := R.own c.e.locals (.head _)
    obtain ⟨m, cm, x⟩ := R.loc
    obtain ⟨ob, e1, e2, y1, y2, _⟩ := x.ns
    exact ⟨ob, by rw [wideAll_eq w.2.2.1]; exact y1, ⟨_, _, y2⟩⟩
  · obtain ⟨sl, y, _⟩ := R.base.kg L o z
    refine ⟨{ o with slots := sl }, ?_, d⟩
    · rw [wideAll_eq]
      · exact y
      · cases y : H L with
        | none => rfl
        | some x => rw [(R.base.sep L x y).1] at z; cases z
/-- back from a call -/
theorem Rel.back (R : Rel Γ c g ρ H s) (B : Base Γ (wideAll H s) H' s') : Rel Γ c g ρ H' s' := by
  have st : ∀ b o, H b = none → s.heap.get? b = some o → ∃ sl, s'.heap.get? b = some { o with slots := sl } ∧ (IsD o ∨ sl = o.slots) := fun b o hn q => B.kg b o (by rw [wideAll_eq hn]; exact q)
  have gn : ∀ b o, g b = some o → H b = none := fun b o q => by
    cases y : H b with
    | none => rfl
    | some x => rw [(R.base.sep b x y).1] at q; cases q
  have W : Wider g (wideAll H s) := fun b o q => by
    obtain ⟨sl, z, f⟩ := R.base.kg b o q
    exact ⟨sl, by rw [wideAll_eq (gn b o q)]; exact z, f⟩
  refine ⟨B.narrow W, R.fok, ?_, fun a q => ?_, R.pro, R.abv, R.frs⟩
  · obtain ⟨m, cm, x⟩ := R.loc
    refine ⟨m, cm, ns_slots x.ns fun _ z => (let ⟨sl, y, _⟩ := st _ _ (R.own _ (.head _)).2.2.1 z; ⟨sl, y⟩), fun n a q => cell_slots (x.cell n a q) fun ob z => (let ⟨sl, y, _⟩ := st a _ ?_ z; ⟨sl, y⟩), x.loc, x.cel⟩
    rcases R.pro n a q with y | ⟨o, y⟩
    · exact (R.own a y).2.2.1
    · exact gn a o y
  · obtain ⟨h1, h2, h3, h4⟩ := R.own a q
    obtain ⟨o, z⟩ := Option.isSome_iff_exists.mp h4
    obtain ⟨sl, y, _⟩ := st a o h3 z
    refine ⟨h1, h2, ?_, by rw [y]; rfl⟩
    cases e : H' a with
    | none => rfl
    | some x => have := (B.sep a x e).1; rw [wideAll_eq h3, z] at this; cases this
end

/-! the ledger that holds all -/
theorem Base.size {Γ : Gl} {g : Prot} {H : AH} {s : Shared} (B : Base Γ g H s) : Γ.h₀.objs.size ≤ s.heap.objs.size := by
  obtain ⟨z, o, h1, h2⟩ := B.ok.last
  exact Nat.le_trans h2 (Heap.lt_size (B.k0 z o h1))
noncomputable def ledger (h₀ : Heap) (L : Addr) (h : Heap) : List (Addr × Obj) :=
  (List.range h.objs.size).filterMap fun a => if a = L ∨ (h₀.get? a).isSome then none else (h.get? a).map fun o => (a, o)
theorem mem_ledger {h₀ h : Heap} {L a : Addr} {o : Obj} : (a, o) ∈ ledger h₀ L h ↔ h.get? a = some o ∧ a ≠ L ∧ h₀.get? a = none := by
  unfold ledger
  rw [List.mem_filterMap]
  constructor
  · rintro ⟨b, hb, e⟩
    split at e
    · cases e
    · rename_i hn
      obtain ⟨o', h1, h2⟩ := Option.map_eq_some_iff.mp e
      cases h2
      refine ⟨h1, fun q => hn (.inl q), ?_⟩
      cases z : h₀.get? a with
      | none => rfl
      | some x => exact absurd (.inr (by rw [z]; rfl)) hn
  · rintro ⟨h1, h2, h3⟩
    refine ⟨a, List.mem_range.mpr (Heap.lt_size h1), ?_⟩
    rw [if_neg (by rw [h3]; rintro (q | q); exact h2 q; cases q), h1]; rfl
theorem ledger_news {h₀ h : Heap} {L : Addr} : News h₀ L h (ledger h₀ L h) := fun p hp => mem_ledger.mp hp
theorem upd_split {D : Addr} {o o' : Obj} : ∀ {l : List (Addr × Obj)}, (D, o) ∈ l → (l.map (·.1)).Nodup → ∃ l', Upd D o o' l l' ∧ (∀ p ∈ l, p.1 ≠ D → p ∈ l') ∧ (D, o') ∈ l'
  | p :: r, hm, hn => by
    rw [List.map_cons, List.nodup_cons] at hn
    rcases List.mem_cons.mp hm with rfl | hm
    · exact ⟨_, (.head fun q hq e => hn.1 (List.mem_map.mpr ⟨q, hq, e⟩)), fun q hq hne => by
        rcases List.mem_cons.mp hq with rfl | hq
        · exact absurd rfl hne
        · exact .tail _ hq, .head _⟩
    · obtain ⟨l', U, h1, h2⟩ := upd_split hm hn.2
      refine ⟨p :: l', .tail (fun e => hn.1 (List.mem_map.mpr ⟨_, hm, e.symm⟩)) U, fun q hq hne => ?_, .tail _ h2⟩
      rcases List.mem_cons.mp hq with rfl | hq
      · exact .head _
      · exact .tail _ (h1 q hq hne)
theorem ledger_nodup {h₀ h : Heap} {L : Addr} : ((ledger h₀ L h).map (·.1)).Nodup := by
  unfold ledger
  rw [List.map_filterMap]
  have e : (fun a => ((if a = L ∨ (h₀.get? a).isSome = true then none else (h.get? a).map fun o => (a, o)) : Option (Addr × Obj)).map (·.1)) = fun a => if (if a = L ∨ (h₀.get? a).isSome = true then none else h.get? a).isSome then some a else none := by
    funext a
    split
    · rfl
    · cases h.get? a <;> rfl
  rw [e]
  have : ∀ (f : Nat → Bool) (l : List Nat), l.Nodup → (l.filterMap fun a => if f a = true then some a else none).Nodup := by
    intro f l hl
    rw [show (l.filterMap fun a => if f a = true then some a else none) = l.filter f from by
      induction l with
      | nil => rfl
      | cons x r ih =>
        rw [List.nodup_cons] at hl
        rw [List.filterMap_cons, List.filter_cons, ih hl.2]
        cases f x <;> rfl]
    exact hl.filter _
  exact this _ _ List.nodup_range

section
variable {Γ : Gl} {c : Fm} {g : Prot} {ρ : Loc} {H : AH} {s : Shared} {h' : Heap} {tk : Nat}
theorem Rel.above (R : Rel Γ c g ρ H s) : c.e.locals ∈ c.own := .head _
/-- a frame's fact over the ground h₀ -/
theorem Rel.fr (R : Rel Γ c g ρ H s) {m cm : Str → Option Value} (x : Locs c.e ρ s.heap m cm) : Fr Γ.h₀ c.e.locals s.heap m := ⟨x.ns, R.base.k0, R.abv⟩
theorem Rel.ofKeep (R : Rel Γ c g ρ H s) {m cm : Str → Option Value} (x : Locs c.e ρ s.heap m cm) (F : Fr Γ.h₀ c.e.locals h' m)
    (e : ∀ b o, b ≠ c.e.locals → s.heap.get? b = some o → h'.get? b = some o) : Rel Γ c g ρ H { s with heap := h', toks := tk } := by
  obtain ⟨oL, e1, e2, hL, _⟩ := F.ns
  have nl := R.own c.e.locals (.head _)
  refine ⟨⟨R.base.ok, R.base.gens, R.base.os, R.base.drawn, F.keep, fun b o q => ?_, fun a o q => ?_, R.base.sep⟩, R.fok, ?_, fun b q => ?_, R.pro, R.abv, R.frs⟩
  · obtain ⟨sl, z, f⟩ := R.base.kg b o q
    exact ⟨sl, e b _ (fun y => by rw [y, nl.1] at q; cases q) z, f⟩
  · exact Is_keep (R.base.sees a o q) fun ob z => e a _ (fun y => by rw [y, nl.2.2.1] at q; cases q) z
  · refine ⟨m, cm, F.ns, fun n a q => ?_, x.loc, x.cel⟩
    obtain ⟨o, z, d⟩ := x.cell n a q
    refine ⟨o, e a o ?_ z, d⟩
    exact R.fok.off n a q
  · obtain ⟨h1, h2, h3, h4⟩ := R.own b q
    refine ⟨h1, h2, h3, ?_⟩
    show (h'.get? b).isSome = true
    by_cases y : b = c.e.locals
    · rw [y, hL]; rfl
    · obtain ⟨o, z⟩ := Option.isSome_iff_exists.mp h4
      rw [e b o y z]; rfl
theorem Rel.ofNews (R : Rel Γ c g ρ H s) {m cm : Str → Option Value} (x : Locs c.e ρ s.heap m cm) {news : List (Addr × Obj)} (hn : ∀ p ∈ ledger Γ.h₀ c.e.locals s.heap, p ∈ news) (F : Fr Γ.h₀ c.e.locals h' m)
    (N : News Γ.h₀ c.e.locals h' news) : Rel Γ c g ρ H { s with heap := h', toks := tk } := by
  refine R.ofKeep x F fun b o hb z => ?_
  cases q : Γ.h₀.get? b with
  | some o' =>
    have := R.base.k0 b o' q
    rw [z] at this; cases this
    exact F.keep b _ q
  | none => exact (N _ (hn _ (mem_ledger.mpr ⟨z, hb, q⟩))).1
/-- a change of one object D of H, all else kept -/
theorem Rel.ofKeepBut (R : Rel Γ c g ρ H s) {m cm : Str → Option Value} (x : Locs c.e ρ s.heap m cm) {D : Addr} {o o' : AO} (hD : H D = some o) (F : Fr Γ.h₀ c.e.locals h' m)
    (e : ∀ b ob, b ≠ c.e.locals → b ≠ D → s.heap.get? b = some ob → h'.get? b = some ob) (io : o'.Is Γ h' D) : Rel Γ c g ρ (upd H D o') { s with heap := h', toks := tk } := by
  obtain ⟨oL, e1, e2, hL, _⟩ := F.ns
  have nl := R.own c.e.locals (.head _)
  have sD := R.base.sep D o hD
  have ne : ∀ b, b ∈ c.own → b ≠ D := fun b q e => by have := (R.own b q).2.2.1; rw [e, hD] at this; cases this
  refine ⟨⟨R.base.ok, R.base.gens, R.base.os, R.base.drawn, F.keep, fun b ob q => ?_, fun a ob q => ?_, fun a ob q => ?_⟩, R.fok, ?_, fun b q => ?_, R.pro, R.abv, R.frs⟩
  · obtain ⟨sl, z, f⟩ := R.base.kg b ob q
    exact ⟨sl, e b _ (fun y => by rw [y, nl.1] at q; cases q) (fun y => by rw [y, sD.1] at q; cases q) z, f⟩
  · by_cases y : a = D
    · subst y; rw [upd_self] at q; cases q; exact io
    · rw [upd_ne y] at q
      exact Is_keep (R.base.sees a ob q) fun ob' z => e a _ (fun y => by rw [y, nl.2.2.1] at q; cases q) y z
  · by_cases y : a = D
    · subst y; exact sD
    · rw [upd_ne y] at q; exact R.base.sep a ob q
  · refine ⟨m, cm, F.ns, fun n a q => ?_, x.loc, x.cel⟩
    obtain ⟨ob, z, d⟩ := x.cell n a q
    refine ⟨ob, e a ob (R.fok.off n a q) ?_ z, d⟩
    rcases R.pro n a q with y | ⟨o2, y⟩
    · exact ne a y
    · rintro rfl; rw [sD.1] at y; cases y
  · obtain ⟨h1, h2, h3, h4⟩ := R.own b q
    refine ⟨h1, h2, by rw [upd_ne (ne b q)]; exact h3, ?_⟩
    show (h'.get? b).isSome = true
    by_cases y : b = c.e.locals
    · rw [y, hL]; rfl
    · obtain ⟨ob, z⟩ := Option.isSome_iff_exists.mp h4
      rw [e b ob y (ne b q) z]; rfl
/-- the ledger's own change: for K's lines that change one object -/
theorem Rel.updNews (R : Rel Γ c g ρ H s) {m cm : Str → Option Value} (x : Locs c.e ρ s.heap m cm) {D : Addr} {o : AO} {ob : Obj} (hD : H D = some o) (hob : s.heap.get? D = some ob) (ob' : Obj) :
    ∃ news', Upd D ob ob' (ledger Γ.h₀ c.e.locals s.heap) news' ∧ ∀ h' tk o', Fr Γ.h₀ c.e.locals h' m → News Γ.h₀ c.e.locals h' news' → (h'.get? D = some ob' → o'.Is Γ h' D) → Rel Γ c g ρ (upd H D o') { s with heap := h', toks := tk } := by
  have hDL : D ≠ c.e.locals := fun y => by have := (R.own _ (.head _)).2.2.1; rw [← y, hD] at this; cases this
  have hD0 := (R.base.sep D o hD).2
  obtain ⟨news', U, k1, k2⟩ := upd_split (o' := ob') (mem_ledger.mpr ⟨hob, hDL, hD0⟩) ledger_nodup
  refine ⟨news', U, fun h' tk o' F N io => R.ofKeepBut x hD F (fun b o2 hb hbD z => ?_) (io (N _ k2).1)⟩
  cases q : Γ.h₀.get? b with
  | some o3 =>
    have := R.base.k0 b o3 q
    rw [z] at this; cases this
    exact F.keep b _ q
  | none => exact (N _ (k1 _ (mem_ledger.mpr ⟨z, hb, q⟩) hbD)).1
end

-- MRule1
noncomputable def Hid (Γ : Gl) (g : Prot) (H : AH) (own : List Addr) (a : Addr) : Prop := g a = none ∧ Γ.h₀.get? a = none ∧ H a = none ∧ a ∉ own

/-- the address of the class Refusal -/
abbrev RefusalC : Addr := 51
/-- an exception Refusal(msg) that has been raised -/
inductive Exc (Γ : Gl) (g : Prot) (H : AH) (own : List Addr) (x : Addr) (msg : Str) (fl : Value) (h : Heap) : Prop
  | mk (dx : Addr) (oe : Obj) (vs : Array Value) (m : Str → Option Value) (t : Tok) (e1 : h.get? x = some oe) (e2 : oe.cls = .ref RefusalC) (e3 : oe.dict = some dx) (e4 : oe.data = .fields vs) (e5 : vs[2]? = some .none) (e6 : h.Ns dx m) (e7 : m "message" = some (.str msg t))
    (e8 : Hid Γ g H own x) (e9 : Hid Γ g H own dx)
    (e10 : vs[1]? = some .none ∨ ∃ T oT ts, vs[1]? = some (.ref T) ∧ T ≠ x ∧ h.get? T = some oT ∧ oT.data = .fields ts ∧ ts[3]? = some fl ∧ Hid Γ g H own T) : Exc Γ g H own x msg fl h

abbrev XP := Str → AH → Prop
inductive EXp (Γ : Gl) (c : Fm) (g : Prot) (ρ : Loc) (X : XP) (e : Value) (s' : Shared) : Prop
  | mk (x : Addr) (msg : Str) (H' : AH) (e1 : e = .ref x) (R : Rel Γ c g ρ H' s') (h : Exc Γ g H' c.own x msg .none s'.heap) (k : X msg H') : EXp Γ c g ρ X e s'
/-- what stands behind a term that has given a value -/
inductive PA (Γ : Gl) (c : Fm) (g : Prot) (ρ : Loc) {α : Type} (K : α → AH → Prop) (v : α) (s' : Shared) : Prop
  | mk (H' : AH) (R : Rel Γ c g ρ H' s') (k : K v H') : PA Γ c g ρ K v s'

noncomputable def TA (Γ : Gl) (c : Fm) (ρ : Loc) (H : AH) {α : Type} (t : Sem α) (K : α → AH → Prop) (X : XP) : Prop :=
  ∀ g s, Rel Γ c g ρ H s → wpAny (model PR Γ.w) c.A t (PA Γ c g ρ K) (EXp Γ c g ρ X) s

theorem PA.to {Γ : Gl} {c : Fm} {g : Prot} {ρ : Loc} {α β : Type} {K : α → AH → Prop} {K' : β → AH → Prop} {v : α} {w : β} {s' : Shared} (h : PA Γ c g ρ K v s') (k : ∀ H', K v H' → K' w H') : PA Γ c g ρ K' w s' := by cases h with | mk H' R z => exact ⟨H', R, k H' z⟩
abbrev KP := Value → AH → Prop
@[reducible] noncomputable def kEr (K : KP) : KP := fun v H' => K (er v) H'
noncomputable def TE (Γ : Gl) (c : Fm) (ρ : Loc) (H : AH) (t : Sem Value) (K : KP) (X : XP) : Prop := TA Γ c ρ H t (kEr K) X
noncomputable def TX (Γ : Gl) (c : Fm) (ρ : Loc) (H : AH) (e : Expr) (K : KP) (X : XP) : Prop := TE Γ c ρ H (eval e c.e) K X
noncomputable def TT (Γ : Gl) (c : Fm) (ρ : Loc) (H : AH) (e : Expr) (K : Bool → AH → Prop) (X : XP) : Prop := TA Γ c ρ H (isTrue e c.e (eval e c.e)) K X
noncomputable def Op1 (Γ : Gl) (c : Fm) (ρ : Loc) (H : AH) (f : Value → Sem Value) (a : Value) (K : KP) (X : XP) : Prop := ∀ v, er v = a → TE Γ c ρ H (f v) K X
noncomputable def Op2 (Γ : Gl) (c : Fm) (ρ : Loc) (H : AH) (f : Value → Value → Sem Value) (a b : Value) (K : KP) (X : XP) : Prop := ∀ v w, er v = a → er w = b → TE Γ c ρ H (f v w) K X
noncomputable def Tru (Γ : Gl) (c : Fm) (ρ : Loc) (H : AH) (a : Value) (K : Bool → AH → Prop) (X : XP) : Prop := ∀ v, er v = a → TA Γ c ρ H (truthy v) K X

/-! continuations by name: a goal holds their names -/
section
variable (Γ : Gl) (c : Fm) (ρ : Loc) (X : XP) (K : KP) (B : Bool → AH → Prop)
@[reducible] noncomputable def kO2 (f : Value → Value → Sem Value) (a : Value) : KP := fun b H2 => Op2 Γ c ρ H2 f a b K X
@[reducible] noncomputable def kR2 (f : Value → Value → Sem Value) (r : Expr) : KP := fun a H1 => TX Γ c ρ H1 r (kO2 Γ c ρ X K f a) X
@[reducible] noncomputable def kO1 (f : Value → Sem Value) : KP := fun a H1 => Op1 Γ c ρ H1 f a K X
@[reducible] noncomputable def kIfX (b o : Expr) : Bool → AH → Prop := fun q H1 => if q then TX Γ c ρ H1 b K X else TX Γ c ρ H1 o K X
@[reducible] noncomputable def kNot : Bool → AH → Prop := fun q H1 => B (!q) H1
@[reducible] noncomputable def kTru : KP := fun v H1 => Tru Γ c ρ H1 v B X
@[reducible] noncomputable def kAnd (rest : List Expr) : Bool → AH → Prop := fun q H1 => if q then TA Γ c ρ H1 (allTrue .And rest c.e) B X else B false H1
@[reducible] noncomputable def kOr (rest : List Expr) : Bool → AH → Prop := fun q H1 => if q then B true H1 else TA Γ c ρ H1 (allTrue .Or rest c.e) B X
/-- a test's outcome -/
inductive kQ (v : Value) (H : AH) : Prop
  | mk (q : Bool) (e : v = .bool q) (k : B q H) : kQ v H
end
theorem ifP {p : Prop} [Decidable p] {A B : Prop} (h : p) (a : A) : if p then A else B := by rw [if_pos h]; exact a
theorem ifN {p : Prop} [Decidable p] {A B : Prop} (h : ¬p) (b : B) : if p then A else B := by rw [if_neg h]; exact b
theorem ifS {p : Prop} [Decidable p] {A B : Prop} (a : p → A) (b : ¬p → B) : if p then A else B := by by_cases h : p; exact ifP h (a h); exact ifN h (b h)

section
variable {Γ : Gl} {c : Fm} {ρ : Loc} {H : AH} {α β : Type} {X : XP}

theorem TA.mono {t : Sem α} {K K' : α → AH → Prop} {X' : XP} (h : TA Γ c ρ H t K X) (hK : ∀ v H', K v H' → K' v H') (hX : ∀ m H', X m H' → X' m H') : TA Γ c ρ H t K' X' :=
  fun g s R => wpAny_mono (h g s R) (fun v s' ⟨H', R', k⟩ => ⟨H', R', hK v H' k⟩) fun e s' ⟨x, msg, H', h1, h2, h3, h4⟩ => ⟨x, msg, H', h1, h2, h3, hX _ _ h4⟩
theorem TA.bind {m : Sem α} {f : α → Sem β} {K : β → AH → Prop} (h : TA Γ c ρ H m (fun a H' => TA Γ c ρ H' (f a) K X) X) : TA Γ c ρ H (m >>= f) K X :=
  fun g s R => wpAny_bind (wpAny_mono (h g s R) (fun _ s' ⟨_, R', k⟩ => k g s' R') fun _ _ e => e)
theorem TA.pure {a : α} {K : α → AH → Prop} (h : K a H) : TA Γ c ρ H (Pure.pure a) K X := fun _ _ R => wpAny_pure ⟨H, R, h⟩
theorem TA.hold {vs : List Value} {m : Sem α} {K : α → AH → Prop} (h : TA Γ c ρ H m K X) : TA Γ c ρ H (holding vs m) K X := fun g s R => wpAny_holding (h g s R)
theorem TA.standAt {p : Pos} {K : Unit → AH → Prop} (h : K () H) : TA Γ c ρ H (PySem.standAt p) K X := fun _ _ R => wpAny_standAt ⟨H, R, h⟩
theorem TA.rule {p : String} {K : Unit → AH → Prop} (h : K () H) : TA Γ c ρ H (PySem.rule p) K X := fun _ _ R => wpAny_rule ⟨H, R, h⟩
theorem TA.oper {vs : List Value} {m : Sem Value} {K : Value → AH → Prop} (h : TA Γ c ρ H m K X) : TA Γ c ρ H (operate vs m) K X := fun g s R => by
  refine fun Γ' p hΓ => ?_
  rw [Sem.wp_operate]; exact h g s R Γ' p hΓ
theorem TA.eq {m m' : Sem α} {K : α → AH → Prop} (e : m = m') (h : TA Γ c ρ H m' K X) : TA Γ c ρ H m K X := e ▸ h
theorem TX.mono {e : Expr} {K K' : KP} {X' : XP} (h : TX Γ c ρ H e K X) (hK : ∀ v H', K v H' → K' v H') (hX : ∀ m H', X m H' → X' m H') : TX Γ c ρ H e K' X' := TA.mono h (fun v H' => hK (er v) H') hX

/-! leaves -/
theorem xNone {k pos} {K : KP} (h : K .none H) : TX Γ c ρ H (.Constant .none k pos) K X := fun _ _ R => wpAny_pure ⟨H, R, h⟩
theorem xBool {b k pos} {K : KP} (h : K (.bool b) H) : TX Γ c ρ H (.Constant (.bool b) k pos) K X := fun _ _ R => wpAny_pure ⟨H, R, h⟩
theorem xInt {i k pos} {K : KP} (h : K (.int i 0) H) : TX Γ c ρ H (.Constant (.int i) k pos) K X := fun _ _ R => wpAny_Constant_int ⟨H, R.tok, h⟩
theorem xStr {x k pos} {K : KP} (h : K (.str x 0) H) : TX Γ c ρ H (.Constant (.str x) k pos) K X := fun _ _ R => wpAny_mkText ⟨H, R.tok, h⟩

theorem xLoc {x pos} {v : Value} {K : KP} {names : List (Str × NameKind)} (hs : c.e.scope.names = names) (hk : names.lookup x = some .local) (hv : ρ x = some v) (h : K v H) (hd : (x == ("__debug__" : Str)) = false) :
    TX Γ c ρ H (.Name x pos) K X := fun g s R => by
  obtain ⟨m, cm, L⟩ := R.loc
  have hk' : c.e.kindOf x = some .local := by show c.e.scope.names.lookup x = _; rw [hs]; exact hk
  obtain ⟨v', h1, rfl⟩ := L.loc x v hv hk'
  exact wpAny_Name (wpAny_loadName_local R.fok.kind hk' L.ns h1 ⟨H, R, h⟩) hd
theorem xCel {x pos} {v : Value} {K : KP} {names : List (Str × NameKind)} (hs : c.e.scope.names = names) (hk : names.lookup x = some .cell) (hv : ρ x = some v) (h : K v H) (hd : (x == ("__debug__" : Str)) = false) :
    TX Γ c ρ H (.Name x pos) K X := fun g s R => by
  obtain ⟨m, cm, L⟩ := R.loc
  have hk' : c.e.kindOf x = some .cell := by show c.e.scope.names.lookup x = _; rw [hs]; exact hk
  obtain ⟨a, v', h1, h2, rfl⟩ := L.cel x v hv (.inl hk')
  exact wpAny_Name (wpAny_loadName_cell R.fok.kind hk' h1 (h2 ▸ L.cell x a h1) ⟨H, R, h⟩) hd
theorem xFree {x pos} {v : Value} {K : KP} {names : List (Str × NameKind)} (hs : c.e.scope.names = names) (hk : names.lookup x = some .free) (hv : ρ x = some v) (h : K v H) (hd : (x == ("__debug__" : Str)) = false) (hn : (x == ("__classdict__" : Str)) = false) :
    TX Γ c ρ H (.Name x pos) K X := fun g s R => by
  obtain ⟨m, cm, L⟩ := R.loc
  have hk' : c.e.kindOf x = some .free := by show c.e.scope.names.lookup x = _; rw [hs]; exact hk
  obtain ⟨a, v', h1, h2, rfl⟩ := L.cel x v hv (.inr hk')
  exact wpAny_Name (wpAny_loadName_free R.fok.kind hk' h1 (h2 ▸ L.cell x a h1) ⟨H, R, h⟩ hn) hd
theorem xGlo {x pos} {v : Value} {K : KP} {names : List (Str × NameKind)} (hs : c.e.scope.names = names) (hk : names.lookup x = some .globalImplicit) (hv : nsIn (KK Γ.w) mainGlobals x = some (some v)) (h : K (er v) H) (hd : (x == ("__debug__" : Str)) = false) :
    TX Γ c ρ H (.Name x pos) K X := fun g s R => by
  have hk' : c.e.kindOf x = some .globalImplicit := by show c.e.scope.names.lookup x = _; rw [hs]; exact hk
  have ok := R.base.ok
  exact Name_function_global R.fok.kind hk' (loadGlobal_global (env := c.e) (by rw [R.fok.glob]; exact ok.g.keeps R.base.k0) (mg_of ok.k ok.g hv) ⟨H, R, h⟩) hd
theorem xBui {x pos} {v : Value} {K : KP} {names : List (Str × NameKind)} (hs : c.e.scope.names = names) (hk : names.lookup x = some .globalImplicit) (hg : nsIn (KK Γ.w) mainGlobals x = some none) (hv : bootBuiltins x = some v) (hn : x ≠ "__name__") (h : K (er v) H) (hd : (x == ("__debug__" : Str)) = false) :
    TX Γ c ρ H (.Name x pos) K X := fun g s R => by
  have hk' : c.e.kindOf x = some .globalImplicit := by show c.e.scope.names.lookup x = _; rw [hs]; exact hk
  have ok := R.base.ok
  exact Name_function_global R.fok.kind hk' (loadGlobal_builtin (env := c.e) (by rw [R.fok.glob]; exact ok.g.keeps R.base.k0) (mg_none_of ok.k ok.g hg) (by rw [R.fok.bui]; exact ok.b.keeps R.base.k0) ((ok.bi x hn).trans hv) ⟨H, R, h⟩) hd

/-! nodes -/
theorem xBin {l r : Expr} {op pos} {K : KP} (h : TX Γ c ρ H l (kR2 Γ c ρ X K (binaryOp op) r) X) : TX Γ c ρ H (.BinOp l op r pos) K X :=
  TA.eq (arm_eval_BinOp ..) (TA.bind (TA.mono h (fun a H1 h1 => TA.bind (TA.hold (TA.mono h1 (fun b H2 h2 => TA.bind (TA.standAt (TA.oper (h2 a b rfl rfl)))) fun _ _ e => e))) fun _ _ e => e))
theorem xUn {x : Expr} {op pos} {K : KP} (h : TX Γ c ρ H x (kO1 Γ c ρ X K (unaryOp op)) X) : TX Γ c ρ H (.UnaryOp op x pos) K X :=
  TA.eq (arm_eval_UnaryOp ..) (TA.bind (TA.mono h (fun a H1 h1 => TA.bind (TA.standAt (TA.hold (h1 a rfl)))) fun _ _ e => e))
theorem xIf {t b o : Expr} {pos} {K : KP} (h : TT Γ c ρ H t (kIfX Γ c ρ X K b o) X) : TX Γ c ρ H (.IfExp t b o pos) K X :=
  TA.eq (arm_eval_IfExp ..) (TA.bind (TA.mono h (fun q H1 h1 => by cases q <;> exact h1) fun _ _ e => e))
theorem xCmp {l r : Expr} {op pos} {K : KP} (hm : behindInMarks op r = false) (h : TX Γ c ρ H l (kR2 Γ c ρ X K (compareOp op) r) X) : TX Γ c ρ H (.Compare l [op] [r] pos) K X := fun g s R => by
  refine wpAny_Compare1 (wpAny_mono (h g s R) (fun a s1 ⟨H1, R1, h1⟩ => wpAny_mono (h1 g s1 R1) (fun b s2 ⟨H2, R2, h2⟩ => h2 a b rfl rfl g s2 R2) fun _ _ e => e) fun _ _ e => e) hm
theorem tCmp {l r : Expr} {op pos} {K : Bool → AH → Prop} (hm : behindInMarks op r = false) (h : TX Γ c ρ H l (kR2 Γ c ρ X (kQ K) (compareOp op) r) X) : TT Γ c ρ H (.Compare l [op] [r] pos) K X := fun g s R => by
  refine wpAny_isTrue_Compare1 (wpAny_mono (h g s R) (fun a s1 ⟨H1, R1, h1⟩ => wpAny_mono (h1 g s1 R1) (fun b s2 ⟨H2, R2, h2⟩ => wpAny_mono (h2 a b rfl rfl g s2 R2) (fun v s3 h3 => ?_) fun _ _ e => e) fun _ _ e => e) fun _ _ e => e) hm
  obtain ⟨H3, R3, q, e, k⟩ := h3
  rw [er_bool e]
  exact wpAny_truthy_bool ⟨H3, R3, k⟩
theorem tNot {x : Expr} {pos} {K : Bool → AH → Prop} (h : TT Γ c ρ H x (kNot K) X) : TT Γ c ρ H (.UnaryOp .Not x pos) K X := fun g s R => isTrue_not (wpAny_mono (h g s R) (fun _ _ z => z.to fun _ k => k) fun _ _ e => e)
theorem tVal {x : Expr} {K : Bool → AH → Prop} (he : isTrue x c.e (eval x c.e) = (do let v ← eval x c.e; standAt x.pos; holding [v] (truthy v))) (h : TX Γ c ρ H x (kTru Γ c ρ X K) X) : TT Γ c ρ H x K X := fun g s R =>
  isTrue_plain (wpAny_mono (h g s R) (fun a s1 ⟨_, R1, h1⟩ => h1 a rfl g s1 R1) fun _ _ e => e) he
theorem tAnd1 {x : Expr} {rest : List Expr} {K : Bool → AH → Prop} (h : TT Γ c ρ H x (kAnd Γ c ρ X K rest) X) : TA Γ c ρ H (allTrue .And (x :: rest) c.e) K X :=
  TA.eq (arm_allTrue_cons ..) (TA.bind (TA.mono h (fun q H1 h1 => by cases q; exact TA.pure h1; exact h1) fun _ _ e => e))
theorem tOr1 {x : Expr} {rest : List Expr} {K : Bool → AH → Prop} (h : TT Γ c ρ H x (kOr Γ c ρ X K rest) X) : TA Γ c ρ H (allTrue .Or (x :: rest) c.e) K X :=
  TA.eq (arm_allTrue_cons ..) (TA.bind (TA.mono h (fun q H1 h1 => by cases q; exact h1; exact TA.pure h1) fun _ _ e => e))
theorem tAndN {K : Bool → AH → Prop} (h : K true H) : TA Γ c ρ H (allTrue .And [] c.e) K X := TA.eq (arm_allTrue_nil ..) (TA.pure h)
theorem tOrN {K : Bool → AH → Prop} (h : K false H) : TA Γ c ρ H (allTrue .Or [] c.e) K X := TA.eq (arm_allTrue_nil ..) (TA.pure h)
theorem tBool {op} {vs : List Expr} {pos} {K : Bool → AH → Prop} (h : TA Γ c ρ H (allTrue op vs c.e) K X) : TT Γ c ρ H (.BoolOp op vs pos) K X := TA.eq (arm_isTrue_BoolOp ..) h
end

-- MRule2
inductive All2 {α β : Type} (R : α → β → Prop) : List α → List β → Prop
  | nil : All2 R [] []
  | cons {a b as bs} : R a b → All2 R as bs → All2 R (a :: as) (b :: bs)
/-- plain data as the abstract heap tells it: one layer -/
inductive DtS (H : AH) (R : Value → PyData → Prop) : Value → PyData → Prop
  | none : DtS H R .none .none
  | bool (b) : DtS H R (.bool b) (.bool b)
  | int (i t) : DtS H R (.int i t) (.int i)
  | str (x t) : PyData.strOk x = true → DtS H R (.str x t) (.str x)
  | list {a xs ds} : H a = some (.list xs) → All2 R xs ds → DtS H R (.ref a) (.list ds)
  | tup {a xs ds} : H a = some (.tup xs) → All2 R xs ds → DtS H R (.ref a) (.tuple ds)
noncomputable def Dt (H : AH) : Nat → Value → PyData → Prop
  | 0 => DtS H fun _ _ => False
  | n + 1 => DtS H (Dt H n)

section
variable {Γ : Gl} {c : Fm} {g : Prot} {ρ : Loc} {H : AH} {s : Shared} {X : XP} {K : KP}

/-- what a plain value reads as -/
noncomputable def RdOk (h : Heap) (m : Nat) (w : Value) (d : PyData) : Prop := (∃ as, Reads h w d as) ∧ d.canLay0 = true ∧ d.depth ≤ m
theorem reads_all {h : Heap} {m : Nat} {R : Value → PyData → Prop} (ih : ∀ w d, R (er w) d → RdOk h m w d) {xs : List Value} {ds : List PyData} (a : All2 R xs ds) : ∀ ws : List Value, ws.map er = xs → (∃ as, ReadsAll h ws ds as) ∧ PyData.canLayAll0 ds = true ∧ PyData.depthAll ds ≤ m := by
  induction a with
  | nil => intro ws e; rw [List.map_eq_nil_iff.mp e]; exact ⟨⟨_, .nil⟩, rfl, Nat.zero_le _⟩
  | cons h1 _ ih2 =>
    intro ws e
    cases ws with
    | nil => cases e
    | cons w ws =>
      rw [List.map_cons] at e
      obtain ⟨rfl, e2⟩ := List.cons.inj e
      obtain ⟨⟨as, r⟩, c1, d1⟩ := ih w _ h1
      obtain ⟨⟨bs, rs⟩, c2, d2⟩ := ih2 ws e2
      exact ⟨⟨_, .cons r rs⟩, (Bool.and_eq_true_iff.mpr ⟨c1, c2⟩ :), Nat.max_le.mpr ⟨d1, d2⟩⟩
theorem reads_s {H : AH} {m : Nat} {R : Value → PyData → Prop} (S : ∀ a o, H a = some o → o.Is Γ s.heap a) (ih : ∀ w d, R (er w) d → RdOk s.heap m w d) {v w : Value} {d : PyData} (h : DtS H R v d) (e : er w = v) : RdOk s.heap (m + 1) w d := by
  cases h with
  | none => rw [er_none e]; exact ⟨⟨_, .none⟩, rfl, Nat.zero_le _⟩
  | bool b => rw [er_bool e]; exact ⟨⟨_, .bool _⟩, rfl, Nat.zero_le _⟩
  | int i t =>
    cases w <;> cases e
    exact ⟨⟨_, .int _ _⟩, rfl, Nat.zero_le _⟩
  | str x t ok =>
    cases w <;> cases e
    exact ⟨⟨_, .str _ _⟩, ok, Nat.zero_le _⟩
  | list h1 h2 =>
    obtain ⟨vs, k, h3, h4⟩ := S _ _ h1
    obtain ⟨⟨as, r⟩, c1, d1⟩ := reads_all ih h2 vs.toList h4
    rw [er_ref e]
    exact ⟨⟨_, .list h3 rfl rfl r⟩, c1, Nat.succ_le_succ d1⟩
  | tup h1 h2 =>
    obtain ⟨vs, k, h3, h4⟩ := S _ _ h1
    obtain ⟨⟨as, r⟩, c1, d1⟩ := reads_all ih h2 vs.toList h4
    rw [er_ref e]
    exact ⟨⟨_, .tuple h3 rfl rfl r⟩, c1, Nat.succ_le_succ d1⟩
theorem reads_of (S : ∀ a o, H a = some o → o.Is Γ s.heap a) : ∀ (n : Nat) (v w : Value) (d : PyData), Dt H n v d → er w = v → RdOk s.heap (n + 1) w d := by
  intro n
  induction n with
  | zero => exact fun v w d h e => reads_s S (fun _ _ z => z.elim) h e
  | succ n ih => exact fun v w d h e => reads_s S (fun w d z => ih _ w d z rfl) h e

theorem Rel.units (R : Rel Γ c g ρ H s) : c.A.units + 20 < cLine := by have := R.fok.room.2; omega

theorem oEqD {n : Nat} {a b : Value} {da db : PyData} (ha : Dt H n a da) (hb : Dt H n b db) (hn : n ≤ 9) (k : K (.bool (PyData.eqv da db)) H) : Op2 Γ c ρ H (compareOp .Eq) a b K X := fun v w ev ew g s R => by
  obtain ⟨⟨as, ra⟩, c1, d1⟩ := reads_of R.base.sees n a v da ha ev
  obtain ⟨⟨bs, rb⟩, c2, d2⟩ := reads_of R.base.sees n b w db hb ew
  exact SeqAt.compareEq_reads ra rb c1 c2 (by have := R.units; omega) ⟨H, R, k⟩
theorem oNeD {n : Nat} {a b : Value} {da db : PyData} (ha : Dt H n a da) (hb : Dt H n b db) (hn : n ≤ 9) (k : K (.bool (!PyData.eqv da db)) H) : Op2 Γ c ρ H (compareOp .NotEq) a b K X := fun v w ev ew g s R => by
  obtain ⟨⟨as, ra⟩, c1, d1⟩ := reads_of R.base.sees n a v da ha ev
  obtain ⟨⟨bs, rb⟩, c2, d2⟩ := reads_of R.base.sees n b w db hb ew
  exact SeqAt.compareNe_reads ra rb c1 c2 (by have := R.units; omega) ⟨H, R, k⟩
theorem oInL {n : Nat} {a b : Value} {da : PyData} {ds : List PyData} (ha : Dt H n a da) (hb : Dt H n b (.list ds)) (hn : n ≤ 9) (k : K (.bool (ds.any fun y => PyData.eqv y da)) H) : Op2 Γ c ρ H (compareOp .In) a b K X := fun v w ev ew g s R => by
  obtain ⟨⟨as, ra⟩, c1, d1⟩ := reads_of R.base.sees n a v da ha ev
  obtain ⟨⟨bs, rb⟩, c2, d2⟩ := reads_of R.base.sees n b w _ hb ew
  exact SeqAt.in_list_reads rb ra (by simpa [PyData.canLay0] using c2) c1 (by have := R.units; omega) ⟨H, R, k⟩
theorem oNotInL {n : Nat} {a b : Value} {da : PyData} {ds : List PyData} (ha : Dt H n a da) (hb : Dt H n b (.list ds)) (hn : n ≤ 9) (k : K (.bool (!ds.any fun y => PyData.eqv y da)) H) : Op2 Γ c ρ H (compareOp .NotIn) a b K X := fun v w ev ew g s R => by
  obtain ⟨⟨as, ra⟩, c1, d1⟩ := reads_of R.base.sees n a v da ha ev
  obtain ⟨⟨bs, rb⟩, c2, d2⟩ := reads_of R.base.sees n b w _ hb ew
  exact SeqAt.notIn_list_reads rb ra (by simpa [PyData.canLay0] using c2) c1 (by have := R.units; omega) ⟨H, R, k⟩
theorem oInT {n : Nat} {a b : Value} {da : PyData} {ds : List PyData} (ha : Dt H n a da) (hb : Dt H n b (.tuple ds)) (hn : n ≤ 9) (k : K (.bool (ds.any fun y => PyData.eqv y da)) H) : Op2 Γ c ρ H (compareOp .In) a b K X := fun v w ev ew g s R => by
  obtain ⟨⟨as, ra⟩, c1, d1⟩ := reads_of R.base.sees n a v da ha ev
  obtain ⟨⟨bs, rb⟩, c2, d2⟩ := reads_of R.base.sees n b w _ hb ew
  exact SeqAt.in_tuple_reads rb ra (by simpa [PyData.canLay0] using c2) c1 (by have := R.units; omega) ⟨H, R, k⟩
theorem oNotInT {n : Nat} {a b : Value} {da : PyData} {ds : List PyData} (ha : Dt H n a da) (hb : Dt H n b (.tuple ds)) (hn : n ≤ 9) (k : K (.bool (!ds.any fun y => PyData.eqv y da)) H) : Op2 Γ c ρ H (compareOp .NotIn) a b K X := fun v w ev ew g s R => by
  obtain ⟨⟨as, ra⟩, c1, d1⟩ := reads_of R.base.sees n a v da ha ev
  obtain ⟨⟨bs, rb⟩, c2, d2⟩ := reads_of R.base.sees n b w _ hb ew
  exact SeqAt.notIn_tuple_reads rb ra (by simpa [PyData.canLay0] using c2) c1 (by have := R.units; omega) ⟨H, R, k⟩

/-! ints -/
variable {i j : Int}
theorem oAdd (k : K (.int (i + j) 0) H) : Op2 Γ c ρ H (binaryOp .Add) (.int i 0) (.int j 0) K X := fun v w ev ew g s R => by
  obtain ⟨t, rfl⟩ := er_int ev; obtain ⟨u, rfl⟩ := er_int ew
  exact add_int ⟨H, R.tok, k⟩
theorem oSub (k : K (.int (i - j) 0) H) : Op2 Γ c ρ H (binaryOp .Sub) (.int i 0) (.int j 0) K X := fun v w ev ew g s R => by
  obtain ⟨t, rfl⟩ := er_int ev; obtain ⟨u, rfl⟩ := er_int ew
  exact sub_int ⟨H, R.tok, k⟩
theorem oMul (hm : -(2 ^ 64) < i ∧ i < 2 ^ 64) (k : K (.int (i * j) 0) H) : Op2 Γ c ρ H (binaryOp .Mult) (.int i 0) (.int j 0) K X := fun v w ev ew g s R => by
  obtain ⟨t, rfl⟩ := er_int ev; obtain ⟨u, rfl⟩ := er_int ew
  exact PyProof.Rows.mul_int ⟨H, R.tok, k⟩ (IntMulOk.of_left (intBits_le_64 hm.1 hm.2))
theorem oMod (hj : j ≠ 0) (k : K (.int (i.fmod j) 0) H) : Op2 Γ c ρ H (binaryOp .Mod) (.int i 0) (.int j 0) K X := fun v w ev ew g s R => by
  obtain ⟨t, rfl⟩ := er_int ev; obtain ⟨u, rfl⟩ := er_int ew
  exact PyProof.Rows.mod_int hj ⟨H, R.tok, k⟩
theorem oDiv (hj : 0 < j) (hj' : j < 2 ^ 30) (k : K (.int (i.fdiv j) 0) H) : Op2 Γ c ρ H (binaryOp .FloorDiv) (.int i 0) (.int j 0) K X := fun v w ev ew g s R => by
  obtain ⟨t, rfl⟩ := er_int ev; obtain ⟨u, rfl⟩ := er_int ew
  exact PyProof.Rows.floordiv_int (by omega) ⟨H, R.tok, k⟩ (.inl (PyProof.noPylong_small (by omega)))
theorem oNeg (k : K (.int (-i) 0) H) : Op1 Γ c ρ H (unaryOp .USub) (.int i 0) K X := fun v ev g s R => by
  obtain ⟨t, rfl⟩ := er_int ev
  exact PyProof.Rows.neg_int ⟨H, R.tok, k⟩
theorem oEqI (k : K (.bool (i == j)) H) : Op2 Γ c ρ H (compareOp .Eq) (.int i 0) (.int j 0) K X := fun v w ev ew g s R => by
  obtain ⟨t, rfl⟩ := er_int ev; obtain ⟨u, rfl⟩ := er_int ew
  exact PyProof.Rows.eq_int ⟨H, R, k⟩
theorem oNeI (k : K (.bool (i != j)) H) : Op2 Γ c ρ H (compareOp .NotEq) (.int i 0) (.int j 0) K X := fun v w ev ew g s R => by
  obtain ⟨t, rfl⟩ := er_int ev; obtain ⟨u, rfl⟩ := er_int ew
  exact PyProof.Rows.ne_int ⟨H, R, k⟩
theorem oLtI (k : K (.bool (decide (i < j))) H) : Op2 Γ c ρ H (compareOp .Lt) (.int i 0) (.int j 0) K X := fun v w ev ew g s R => by
  obtain ⟨t, rfl⟩ := er_int ev; obtain ⟨u, rfl⟩ := er_int ew
  exact PyProof.Rows.lt_int ⟨H, R, k⟩
theorem oLeI (k : K (.bool (decide (i ≤ j))) H) : Op2 Γ c ρ H (compareOp .LtE) (.int i 0) (.int j 0) K X := fun v w ev ew g s R => by
  obtain ⟨t, rfl⟩ := er_int ev; obtain ⟨u, rfl⟩ := er_int ew
  exact PyProof.Rows.le_int ⟨H, R, k⟩
theorem oGtI (k : K (.bool (decide (i > j))) H) : Op2 Γ c ρ H (compareOp .Gt) (.int i 0) (.int j 0) K X := fun v w ev ew g s R => by
  obtain ⟨t, rfl⟩ := er_int ev; obtain ⟨u, rfl⟩ := er_int ew
  exact PyProof.Rows.gt_int ⟨H, R, k⟩
theorem oGeI (k : K (.bool (decide (i ≥ j))) H) : Op2 Γ c ρ H (compareOp .GtE) (.int i 0) (.int j 0) K X := fun v w ev ew g s R => by
  obtain ⟨t, rfl⟩ := er_int ev; obtain ⟨u, rfl⟩ := er_int ew
  exact PyProof.Rows.ge_int ⟨H, R, k⟩

/-! strs -/
variable {x y : Str}
theorem oEqS (k : K (.bool (x == y)) H) : Op2 Γ c ρ H (compareOp .Eq) (.str x 0) (.str y 0) K X := fun v w ev ew g s R => by
  obtain ⟨t, rfl⟩ := er_str ev; obtain ⟨u, rfl⟩ := er_str ew
  exact PyProof.Rows.eq_str ⟨H, R, k⟩
theorem oNeS (k : K (.bool (x != y)) H) : Op2 Γ c ρ H (compareOp .NotEq) (.str x 0) (.str y 0) K X := fun v w ev ew g s R => by
  obtain ⟨t, rfl⟩ := er_str ev; obtain ⟨u, rfl⟩ := er_str ew
  exact PyProof.Rows.ne_str ⟨H, R, k⟩
theorem oLtS (k : K (.bool (decide (x.cps.toList < y.cps.toList))) H) : Op2 Γ c ρ H (compareOp .Lt) (.str x 0) (.str y 0) K X := fun v w ev ew g s R => by
  obtain ⟨t, rfl⟩ := er_str ev; obtain ⟨u, rfl⟩ := er_str ew
  exact PyProof.Rows.lt_str ⟨H, R, k⟩
theorem oAddS (hz : x.length + y.length ≤ 1000) (k : K (.str (x ++ y) 0) H) : Op2 Γ c ρ H (binaryOp .Add) (.str x 0) (.str y 0) K X := fun v w ev ew g s R => by
  obtain ⟨t, rfl⟩ := er_str ev; obtain ⟨u, rfl⟩ := er_str ew
  exact PyProof.Rows.add_str (fun t' tk => ⟨H, R.tok, k⟩) (by rw [sizeLine_eq]; omega)
theorem oInS (k : K (.bool (Txt.contains x y)) H) : Op2 Γ c ρ H (compareOp .In) (.str y 0) (.str x 0) K X := fun v w ev ew g s R => by
  obtain ⟨t, rfl⟩ := er_str ev; obtain ⟨u, rfl⟩ := er_str ew
  exact SB.contains ⟨H, R, k⟩

/-! is None -/
theorem oIsN {a : Value} (ha : er a = a) (k : K (.bool (a == .none)) H) : Op2 Γ c ρ H (compareOp .Is) a .none K X := fun v w ev ew g s R => by
  rw [er_none ew]
  refine is_none ⟨H, R, ?_⟩
  have e : (v == Value.none) = (a == Value.none) := by subst ev; cases v <;> rfl
  rw [e]; exact k
theorem oIsNotN {a : Value} (ha : er a = a) (k : K (.bool (!(a == .none))) H) : Op2 Γ c ρ H (compareOp .IsNot) a .none K X := fun v w ev ew g s R => by
  rw [er_none ew]
  refine isNot_none ⟨H, R, ?_⟩
  have e : (v == Value.none) = (a == Value.none) := by subst ev; cases v <;> rfl
  rw [e]; exact k

/-! truth -/
theorem uBool {b : Bool} {K : Bool → AH → Prop} (k : K b H) : Tru Γ c ρ H (.bool b) K X := fun v ev g s R => by
  rw [er_bool ev]; exact wpAny_truthy_bool ⟨H, R, k⟩
end

-- MRule3
noncomputable def TL (Γ : Gl) (c : Fm) (ρ : Loc) : List Expr → AH → (List Value → AH → Prop) → XP → Prop
  | [], H, K, _ => K [] H
  | e :: r, H, K, X => TX Γ c ρ H e (fun v H1 => TL Γ c ρ r H1 (fun vs H2 => K (v :: vs) H2) X) X
/-- the callee may be kept -/
noncomputable def Kept (Γ : Gl) (f : Value) : Prop := (∃ id, f = .builtin id) ∨ (∃ T, f = .type T) ∨ keepIn (KK Γ.w) f = true
/-- a call with its values -/
noncomputable def Cal (Γ : Gl) (c : Fm) (ρ : Loc) (H : AH) (f : Value) (vs : List Value) (K : KP) (X : XP) : Prop :=
  Kept Γ f ∧ ∀ ws, ws.map er = vs → TE Γ c ρ H (call f ws) K X
section
variable (Γ : Gl) (c : Fm) (ρ : Loc) (X : XP) (K : KP) (L : List Value → AH → Prop)
@[reducible] noncomputable def kCons (v : Value) : List Value → AH → Prop := fun vs H2 => L (v :: vs) H2
@[reducible] noncomputable def kTL (r : List Expr) : KP := fun v H1 => TL Γ c ρ r H1 (kCons L v) X
inductive kNewL (vs : List Value) (H : AH) : Prop
  | mk (hz : vs.length ≤ 1000) (k : ∀ a, H a = none → K (.ref a) (upd H a (.list vs))) : kNewL vs H
inductive kNewT (vs : List Value) (H : AH) : Prop
  | mk (hz : vs.length ≤ 1000) (k : ∀ a, H a = none → K (.ref a) (upd H a (.tup vs))) : kNewT vs H
@[reducible] noncomputable def kCal (f : Value) : List Value → AH → Prop := fun vs H2 => ∀ ws, ws.map er = vs → TE Γ c ρ H2 (call f ws) K X
@[reducible] noncomputable def kMe2 (f v : Value) : List Value → AH → Prop := fun vs H2 => ∀ ws, ws.map er = v :: vs → TE Γ c ρ H2 (call f ws) K X
inductive kMe (T : String) (f : Value) (args : List Expr) (v : Value) (H : AH) : Prop
  | mk (t : ∀ s : Shared, (∀ a o, H a = some o → o.Is Γ s.heap a) → ∀ u, er u = v → s.TypeIs u T ∧ ∀ a : Addr, u = .ref a → ∃ ob, s.heap.get? a = some ob ∧ ob.dict = none)
    (h : TL Γ c ρ args H (kMe2 Γ c ρ X K f v) X) : kMe T f args v H
end
@[reducible] noncomputable def plainE (es : List Expr) (e : Env) (p : Pos) : Prop := backTo p (starEach es e) = es.map fun x => (false, eval x e)
structure MethF (T : String) (name : Str) (id : String) : Prop where
  plain : PlainAttrs T
  slot : Slot T name id
  ty : typeOf (.builtin id) = pure (.type "method_descriptor")

section
variable {Γ : Gl} {c : Fm} {g : Prot} {ρ : Loc} {H : AH} {s : Shared} {X : XP} {K : KP}

theorem tl_spliced : ∀ {es : List Expr} {H : AH} {K : List Value → AH → Prop}, TL Γ c ρ es H K X → TA Γ c ρ H (spliced (es.map fun x => (false, eval x c.e))) (fun vs H' => K (vs.map er) H') X
  | [], H, K, h => fun g s R => Calls.spliced_nil ⟨H, R, h⟩
  | e :: r, H, K, h => fun g s R => Calls.spliced_cons (wpAny_mono (h g s R) (fun v s1 ⟨H1, R1, h1⟩ => wpAny_mono (tl_spliced h1 g s1 R1) (fun _ _ z => z.to fun _ k => k) fun _ _ e => e) fun _ _ x => x)

theorem xNewList {vs : List Value} (hz : vs.length ≤ 1000) (k : ∀ a, H a = none → K (.ref a) (upd H a (.list (vs.map er)))) : TE Γ c ρ H (newList vs) K X := fun g s R =>
  wpAny_newObj_type ⟨_, R.push (o := .list (vs.map er)) ⟨vs.toArray, 0, Heap.get?_push_size _ rfl, by simp⟩, k _ R.fresh⟩ (by show vs.toArray.size ≤ sizeLine; rw [List.size_toArray, sizeLine_eq]; omega)
theorem xNewTup {vs : List Value} (hz : vs.length ≤ 1000) (k : ∀ a, H a = none → K (.ref a) (upd H a (.tup (vs.map er)))) : TE Γ c ρ H (newTuple vs) K X := fun g s R =>
  wpAny_newObj_type ⟨_, R.push (o := .tup (vs.map er)) ⟨vs.toArray, 0, Heap.get?_push_size _ rfl, by simp⟩, k _ R.fresh⟩ (by show vs.toArray.size ≤ sizeLine; rw [List.size_toArray, sizeLine_eq]; omega)
theorem xList {es : List Expr} {pos} (he : plainE es c.e pos) (h : TL Γ c ρ es H (kNewL K) X) : TX Γ c ρ H (.List es pos) K X := fun g s R => by
  rw [arm_eval_List, he]
  refine wpAny_bind (wpAny_standAt (wpAny_bind (wpAny_mono (tl_spliced h g s R) (fun vs s1 ⟨H1, R1, z, h1⟩ => ?_) fun _ _ x => x)))
  exact xNewList (by rw [List.length_map] at z; exact z) h1 g s1 R1
theorem xTup {es : List Expr} {kk pos} (he : plainE es c.e pos) (h : TL Γ c ρ es H (kNewT K) X) : TX Γ c ρ H (.Tuple es kk pos) K X := fun g s R => by
  rw [arm_eval_Tuple, he]
  refine wpAny_bind (wpAny_standAt (wpAny_bind (wpAny_mono (tl_spliced h g s R) (fun vs s1 ⟨H1, R1, z, h1⟩ => ?_) fun _ _ x => x)))
  exact xNewTup (by rw [List.length_map] at z; exact z) h1 g s1 R1

theorem kept_looks {f : Value} (hk : Kept Γ f) : ∀ h, (KK Γ.w).In h → ∃ k, (k = Keeper.frame ∨ k = Keeper.machine ∨ k = Keeper.boundFrame) ∧ Looks (model PR Γ.w) h (keeperOf f) k := by
  rcases hk with ⟨id, rfl⟩ | ⟨T, rfl⟩ | hk
  · exact fun h _ => ⟨.machine, .inr (.inl rfl), Looks.of_pure rfl⟩
  · exact fun h _ => ⟨.machine, .inr (.inl rfl), Looks.of_pure rfl⟩
  · exact keeps_K hk
theorem callWith_mine {f : Value} {first : List Value} {es : List Expr} {pos : Pos} (hk : Kept Γ f) (h : TL Γ c ρ es H (fun vs H1 => ∀ ws, ws.map er = vs → TE Γ c ρ H1 (call f (first ++ ws)) K X) X) :
    TE Γ c ρ H (callWith pos f first (es.map fun x => (false, eval x c.e)) []) K X := fun g s R => by
  have hp : ((es.map fun x => (false, eval x c.e)).any (·.1) || ([] : List (Option Str × Sem Value)).any (·.1.isNone)) = false := by
    rw [List.any_map, List.any_nil, Bool.or_false, List.any_eq_false]
    intro x _; simp
  refine callWith_of (P := fun h => (KK Γ.w).In h) hp (kept_looks hk) ?_
  cases es with
  | nil => exact evalArgs_nil3 ⟨R.base.ok.k.keeps R.base.k0, h [] rfl g s R⟩
  | cons e r => exact evalArgs_plain (wpAny_mono (tl_spliced h g s R) (fun vs s1 ⟨H1, R1, h1⟩ => ⟨R1.base.ok.k.keeps R1.base.k0, h1 vs rfl g s1 R1⟩) fun _ _ x => x)
theorem xCall {id : Str} {p pos : Pos} {args : List Expr} (he : plainE args c.e pos)
    (h : TX Γ c ρ H (.Name id p) (fun f H1 => er f = f ∧ (∀ v, er v = f → v = f) ∧ Kept Γ f ∧ TL Γ c ρ args H1 (fun vs H2 => Cal Γ c ρ H2 f vs K X) X) X) : TX Γ c ρ H (.Call (.Name id p) args [] pos) K X := fun g s R => by
  refine Call_Name he (wpAny_mono (h g s R) (fun f s1 ⟨H1, R1, _, e2, k, h1⟩ => ?_) fun _ _ x => x)
  have hf := e2 f rfl
  rw [hf]
  refine callWith_mine k ?_ g s1 R1
  have mono : ∀ (es : List Expr) (H : AH) {P Q : List Value → AH → Prop}, (∀ vs H', P vs H' → Q vs H') → TL Γ c ρ es H P X → TL Γ c ρ es H Q X := by
    intro es
    induction es with
    | nil => intro H P Q hpq z; exact hpq _ _ z
    | cons e r ih => intro H P Q hpq z; exact TX.mono z (fun v H' z => ih H' (fun vs H2 z => hpq _ _ z) z) fun _ _ z => z
  exact mono args H1 (fun vs H' z ws hw => by simpa using z.2 ws hw) h1
theorem TL.mono : ∀ {es : List Expr} {H : AH} {P Q : List Value → AH → Prop}, TL Γ c ρ es H P X → (∀ vs H', P vs H' → Q vs H') → TL Γ c ρ es H Q X
  | [], _, _, _, z, hpq => hpq _ _ z
  | _ :: _, _, _, _, z, hpq => TX.mono z (fun _ _ z => TL.mono z fun vs H2 z => hpq _ _ z) fun _ _ z => z

theorem xMeth {o : Expr} {name : Str} {apos pos : Pos} {args : List Expr} {T id : String} (mf : MethF T name id) (he : plainE args c.e pos) (hb : attributeBase o name c.e (eval o c.e) = eval o c.e)
    (hl : (apos.endLine == pos.line) = true) (hn : decide (args.length + 0 + 0 < 30) = true)
    (h : TX Γ c ρ H o (kMe Γ c ρ X K T (.builtin id) args) X) : TX Γ c ρ H (.Call (.Attribute o name apos) args [] pos) K X := fun g s R => by
  refine wpAny_Call_method_late hb ?_ hl he (wpAny_mono (h g s R) (fun v s1 ⟨H1, R1, h1, h2⟩ => ?_) fun _ _ x => x)
  · rw [show backTo pos (starEach args c.e) = _ from he]
    have e1 : ((args.map fun x => (false, eval x c.e)).all fun x => !x.1) = true := by rw [List.all_map, List.all_eq_true]; intro x _; rfl
    rw [e1]
    show (true && true && decide (args.length + 0 + 0 < 30)) = true
    rw [hn]; rfl
  · obtain ⟨t1, t2⟩ := h1 s1 R1.base.sees v rfl
    refine ⟨T, id, mf.plain, mf.slot, mf.ty, t1, t2, ?_⟩
    exact callWith_mine (first := [v]) (.inl ⟨id, rfl⟩) (h2.mono fun vs H' z ws hw => z (v :: ws) (by simp [hw])) g s1 R1
theorem isList_of {a : Addr} {xs : List Value} (h : H a = some (.list xs)) : ∀ s : Shared, (∀ a o, H a = some o → o.Is Γ s.heap a) → ∀ u, er u = .ref a → s.TypeIs u "list" ∧ ∀ b : Addr, u = .ref b → ∃ ob, s.heap.get? b = some ob ∧ ob.dict = none := fun s S u eu => by
  obtain ⟨vs, n, h1, _⟩ := S _ _ h
  rw [er_ref eu]
  exact ⟨⟨_, h1, rfl⟩, fun b e => by cases e; exact ⟨_, h1, rfl⟩⟩
theorem isDict_of {a : Addr} {es : List (Option Str × Value)} {ep : Nat} (h : H a = some (.dict es ep)) : ∀ s : Shared, (∀ a o, H a = some o → o.Is Γ s.heap a) → ∀ u, er u = .ref a → s.TypeIs u "dict" ∧ ∀ b : Addr, u = .ref b → ∃ ob, s.heap.get? b = some ob ∧ ob.dict = none := fun s S u eu => by
  obtain ⟨kvs, ⟨ob, e1, h1, h2, _⟩, _⟩ := S _ _ h
  rw [er_ref eu]
  exact ⟨⟨_, h1, h2.1⟩, fun b e => by cases e; exact ⟨_, h1, h2.2.1⟩⟩
theorem isStr_of' {x : Str} : ∀ s : Shared, (∀ a o, H a = some o → o.Is Γ s.heap a) → ∀ u, er u = .str x 0 → s.TypeIs u "str" ∧ ∀ b : Addr, u = .ref b → ∃ ob, s.heap.get? b = some ob ∧ ob.dict = none := fun s S u eu => by
  obtain ⟨t, rfl⟩ := er_str eu
  exact ⟨rfl, fun b e => by cases e⟩

theorem mf_append : MethF "list" "append" "list.append" := ⟨PySem.F.plainAttrs_list, PySem.F.slot_list_append, PySem.F.type_list_append⟩
theorem mf_pop : MethF "list" "pop" "list.pop" := ⟨PySem.F.plainAttrs_list, PySem.F.slot_list_pop, PySem.F.type_list_pop⟩
theorem mf_reverse : MethF "list" "reverse" "list.reverse" := ⟨PySem.F.plainAttrs_list, PySem.F.slot_list_reverse, PySem.F.type_list_reverse⟩
theorem mf_index : MethF "list" "index" "list.index" := ⟨PySem.F.plainAttrs_list, PySem.F.slot_list_index, PySem.F.type_list_index⟩
theorem mf_get : MethF "dict" "get" "dict.get" := ⟨PySem.F.plainAttrs_dict, PySem.F.slot_dict_get, PySem.F.type_dict_get⟩
theorem mf_endswith : MethF "str" "endswith" "str.endswith" := ⟨PySem.F.plainAttrs_str, PySem.F.slot_str_endswith, PySem.F.type_str_endswith⟩

theorem map2 {ws : List Value} {a b : Value} (h : ws.map er = [a, b]) : ∃ v u, ws = [v, u] ∧ er v = a ∧ er u = b := by
  cases ws with
  | nil => cases h
  | cons v r => cases r with
    | nil => cases h
    | cons u r => cases r with
      | nil => simp at h; exact ⟨v, u, rfl, h.1, h.2⟩
      | cons _ _ => cases h
theorem map1 {ws : List Value} {a : Value} (h : ws.map er = [a]) : ∃ v, ws = [v] ∧ er v = a := by
  cases ws with
  | nil => cases h
  | cons v r => cases r with
    | nil => simp at h; exact ⟨v, rfl, h⟩
    | cons _ _ => cases h

theorem bAppend {a : Addr} {xs : List Value} {x : Value} (h : H a = some (.list xs)) (hz : xs.length ≤ 1000) (k : K .none (upd H a (.list (xs ++ [x])))) (ws : List Value) (hw : ws.map er = [.ref a, x]) :
    TE Γ c ρ H (call (.builtin "list.append") ws) K X := fun g s R => by
  obtain ⟨v, u, rfl, e1, e2⟩ := map2 hw
  rw [er_ref e1]
  obtain ⟨vs, n, h1, h2⟩ := R.base.sees _ _ h
  obtain ⟨m, cm, L⟩ := R.loc
  obtain ⟨news', U, hR⟩ := R.updNews L h h1 (listOf (vs.push u) (n + 1))
  have hl : vs.size = xs.length := by rw [← h2, List.length_map, Array.length_toList]
  exact append_K (R.fr L) ledger_news U (fun h' F' N' => ⟨_, hR h' _ (.list (xs ++ [x])) F' N' fun e => ⟨vs.push u, n + 1, e, by rw [Array.toList_push, List.map_append, h2]; simp [e2]⟩, k⟩) (by rw [hl, sizeLine_eq]; omega)
theorem bPop {a : Addr} {xs : List Value} {x : Value} (h : H a = some (.list (xs ++ [x]))) (hz : xs.length ≤ 1000) (k : K x (upd H a (.list xs))) (ws : List Value) (hw : ws.map er = [.ref a]) :
    TE Γ c ρ H (call (.builtin "list.pop") ws) K X := fun g s R => by
  obtain ⟨v, rfl, e1⟩ := map1 hw
  rw [er_ref e1]
  obtain ⟨vs, n, h1, h2⟩ := R.base.sees _ _ h
  obtain ⟨m, cm, L⟩ := R.loc
  have hl : vs.toList.length = xs.length + 1 := by rw [← List.length_map (as := vs.toList) er, h2]; simp
  obtain ⟨p, y, hp⟩ : ∃ p y, vs.toList = p ++ [y] := by
    refine ⟨vs.toList.dropLast, vs.toList.getLast (by intro e; rw [e] at hl; cases hl), (List.dropLast_concat_getLast _).symm⟩
  have hk : ∀ (p : List Value) (y : Value), kl_last (p ++ [y]) = some (p, y) := by
    intro p y
    induction p with
    | nil => rfl
    | cons z r ih => show (match kl_last (r ++ [y]) with | some (p, y) => some (z :: p, y) | none => some ([], z)) = _; rw [ih]
  obtain ⟨news', U, hR⟩ := R.updNews L h h1 (listOf p.toArray (n + 1))
  rw [hp, List.map_append] at h2
  have h3 := List.append_inj' h2 rfl
  refine kl_pop (R.fr L) ledger_news (by rw [hp]; exact hk p y) U (by rw [hl, sizeLine_eq]; omega) fun h' F' N' => ⟨_, hR h' _ (.list xs) F' N' fun e => ⟨p.toArray, n + 1, e, by simpa using h3.1⟩, ?_⟩
  have : er y = x := by simpa using h3.2
  show K (er y) _
  rw [this]; exact k
theorem bPopAt {a : Addr} {xs ys : List Value} {x : Value} (h : H a = some (.list (xs ++ x :: ys))) (hz : xs.length + ys.length ≤ 1000) (k : K x (upd H a (.list (xs ++ ys)))) (ws : List Value) (hw : ws.map er = [.ref a, .int xs.length 0]) :
    TE Γ c ρ H (call (.builtin "list.pop") ws) K X := fun g s R => by
  obtain ⟨v, u, rfl, e1, e2⟩ := map2 hw
  rw [er_ref e1]
  obtain ⟨t, rfl⟩ := er_int e2
  obtain ⟨vs, n, h1, h2⟩ := R.base.sees _ _ h
  obtain ⟨m, cm, L⟩ := R.loc
  have hl : vs.toList.length = xs.length + (ys.length + 1) := by rw [← List.length_map (as := vs.toList) er, h2]; simp
  obtain ⟨p, y, q, hp, hpl⟩ : ∃ p y q, vs.toList = p ++ y :: q ∧ p.length = xs.length := by
    have : xs.length < vs.toList.length := by omega
    exact ⟨vs.toList.take xs.length, vs.toList[xs.length], vs.toList.drop (xs.length + 1), by rw [← List.drop_eq_getElem_cons, List.take_append_drop], by rw [List.length_take]; omega⟩
  have hk : ∀ (p q : List Value) (y : Value), kl_cut (p ++ y :: q) p.length = some (p, y, q) := by
    intro p q y
    induction p with
    | nil => rfl
    | cons z r ih => show (match kl_cut (r ++ y :: q) r.length with | some (p, y, q) => some (z :: p, y, q) | none => none) = _; rw [ih]
  obtain ⟨news', U, hR⟩ := R.updNews L h h1 (listOf (p ++ q).toArray (n + 1))
  rw [hp, List.map_append, List.map_cons] at h2
  have h3 := List.append_inj h2 (by rw [List.length_map]; exact hpl)
  obtain ⟨h4, h5⟩ := List.cons.inj h3.2
  have hsz : vs.size = xs.length + (ys.length + 1) := by rw [← Array.length_toList]; exact hl
  refine kl_popAt (k := xs.length) (R.fr L) ledger_news ?_ ?_ (by rw [hp, ← hpl]; exact hk p q y) U (by rw [hl, sizeLine_eq]; omega) fun h' F' N' => ⟨_, hR h' _ (.list (xs ++ ys)) F' N' fun e => ⟨(p ++ q).toArray, n + 1, e, by simp [h3.1, h5]⟩, by show K (er y) _; rw [h4]; exact k⟩
  · exact fitsIndex_of (by omega) (by omega)
  · rw [hsz]; exact seqIndex_of (by omega) (by omega)
theorem bReverse {a : Addr} {xs : List Value} (h : H a = some (.list xs)) (hz : xs.length ≤ 1000) (k : K .none (upd H a (.list xs.reverse))) (ws : List Value) (hw : ws.map er = [.ref a]) :
    TE Γ c ρ H (call (.builtin "list.reverse") ws) K X := fun g s R => by
  obtain ⟨v, rfl, e1⟩ := map1 hw
  rw [er_ref e1]
  obtain ⟨vs, n, h1, h2⟩ := R.base.sees _ _ h
  obtain ⟨m, cm, L⟩ := R.loc
  have hl : vs.toList.length = xs.length := by rw [← h2, List.length_map]
  obtain ⟨news', U, hR⟩ := R.updNews L h h1 (listOf vs.toList.reverse.toArray n)
  exact kl_reverse (R.fr L) ledger_news rfl U (by rw [hl, sizeLine_eq]; omega) fun h' F' N' => ⟨_, hR h' _ (.list xs.reverse) F' N' fun e => ⟨vs.toList.reverse.toArray, n, e, by simp [← h2]⟩, k⟩
end

-- MStmt
noncomputable def erF : Flow → Flow
  | .ret v => .ret (er v)
  | f => f
abbrev KS := Flow → Loc → AH → Prop
abbrev XS := Str → Loc → AH → Prop
inductive XSp (Γ : Gl) (c : Fm) (g : Prot) (X : XS) (e : Value) (s' : Shared) : Prop
  | mk (x : Addr) (msg : Str) (ρ' : Loc) (H' : AH) (e1 : e = .ref x) (R : Rel Γ c g ρ' H' s') (h : Exc Γ g H' c.own x msg .none s'.heap) (k : X msg ρ' H') : XSp Γ c g X e s'
inductive PS (Γ : Gl) (c : Fm) (g : Prot) (K : KS) (f : Flow) (s' : Shared) : Prop
  | mk (ρ' : Loc) (H' : AH) (R : Rel Γ c g ρ' H' s') (k : K (erF f) ρ' H') : PS Γ c g K f s'
inductive PU (Γ : Gl) (c : Fm) (g : Prot) (K : Loc → AH → Prop) (s' : Shared) : Prop
  | mk (ρ' : Loc) (H' : AH) (R : Rel Γ c g ρ' H' s') (k : K ρ' H') : PU Γ c g K s'
noncomputable def TS (Γ : Gl) (c : Fm) (ρ : Loc) (H : AH) (t : Sem Flow) (K : KS) (X : XS) : Prop :=
  ∀ g s, Rel Γ c g ρ H s → wpAny (model PR Γ.w) c.A t (PS Γ c g K) (XSp Γ c g X) s
/-- a store -/
noncomputable def TU (Γ : Gl) (c : Fm) (ρ : Loc) (H : AH) (t : Sem Unit) (K : Loc → AH → Prop) (X : XS) : Prop :=
  ∀ g s, Rel Γ c g ρ H s → wpAny (model PR Γ.w) c.A t (fun _ s' => PU Γ c g K s') (XSp Γ c g X) s
abbrev TB (Γ : Gl) (c : Fm) (ρ : Loc) (H : AH) (ss : List Stmt) (K : KS) (X : XS) : Prop := TS Γ c ρ H (execs ss c.e) K X
abbrev T1 (Γ : Gl) (c : Fm) (ρ : Loc) (H : AH) (st : Stmt) (K : KS) (X : XS) : Prop := TS Γ c ρ H (exec st c.e) K X
/-- no exception -/
abbrev nX : XP := fun _ _ => False
abbrev nXS : XS := fun _ _ _ => False
section
variable (Γ : Gl) (c : Fm) (X : XS) (K : KS) (ρ : Loc)
@[reducible] noncomputable def kRet : KP := fun v H => K (.ret v) ρ H
@[reducible] noncomputable def xAt : XP := fun m H => X m ρ H
@[reducible] noncomputable def kNext : Loc → AH → Prop := fun ρ H => K .next ρ H
@[reducible] noncomputable def kDone : KP := fun _ H => K .next ρ H
@[reducible] noncomputable def kIfS (body orelse : List Stmt) : Bool → AH → Prop := fun q H1 => if q then TB Γ c ρ H1 body K X else TB Γ c ρ H1 orelse K X
@[reducible] noncomputable def kAsg (t : Expr) : KP := fun v H1 => ∀ w, er w = v → TU Γ c ρ H1 (assign t c.e w) (kNext K) X
@[reducible] noncomputable def kAsgA2 (attr : Str) (v : Value) : KP := fun ov H2 => ∀ u w, er u = ov → er w = v → TU Γ c ρ H2 (setAttr u attr w) (kNext K) X
@[reducible] noncomputable def kAsgA (o : Expr) (attr : Str) : KP := fun v H1 => TX Γ c ρ H1 o (kAsgA2 Γ c X K ρ attr v) (xAt X ρ)
@[reducible] noncomputable def kAsgI3 (v ov : Value) : KP := fun iv H3 => ∀ u j w, er u = ov → er j = iv → er w = v → TU Γ c ρ H3 (setItem u j w) (kNext K) X
@[reducible] noncomputable def kAsgI2 (i : Expr) (v : Value) : KP := fun ov H2 => TX Γ c ρ H2 i (kAsgI3 Γ c X K ρ v ov) (xAt X ρ)
@[reducible] noncomputable def kAsgI (o i : Expr) : KP := fun v H1 => TX Γ c ρ H1 o (kAsgI2 Γ c X K ρ i v) (xAt X ρ)
end

section
variable {Γ : Gl} {c : Fm} {g : Prot} {ρ : Loc} {H : AH} {s : Shared} {X : XS} {K : KS}
theorem nX_no {e : Value} {s' : Shared} (h : EXp Γ c g ρ nX e s') : False := by obtain ⟨_, _, _, _, _, _, z⟩ := h; exact z

theorem XSp.of {e : Value} {s' : Shared} {X' : XP} (h : EXp Γ c g ρ X' e s') (hX : ∀ m H', X' m H' → X m ρ H') : XSp Γ c g X e s' :=
  let ⟨x, msg, H', h1, h2, h3, h4⟩ := h; ⟨x, msg, ρ, H', h1, h2, h3, hX _ _ h4⟩
theorem XSp.mono {e : Value} {s' : Shared} {X' : XS} (h : XSp Γ c g X' e s') (hX : ∀ m ρ' H', X' m ρ' H' → X m ρ' H') : XSp Γ c g X e s' :=
  let ⟨x, msg, ρ', H', h1, h2, h3, h4⟩ := h; ⟨x, msg, ρ', H', h1, h2, h3, hX _ _ _ h4⟩
theorem TS.mono {t : Sem Flow} {K' : KS} {X' : XS} (h : TS Γ c ρ H t K X) (hK : ∀ f ρ' H', K f ρ' H' → K' f ρ' H') (hX : ∀ m ρ' H', X m ρ' H' → X' m ρ' H') : TS Γ c ρ H t K' X' :=
  fun g s R => wpAny_mono (h g s R) (fun f s' ⟨ρ', H', R', k⟩ => ⟨ρ', H', R', hK _ _ _ k⟩) fun e s' x => x.mono hX
theorem TU.mono {t : Sem Unit} {K K' : Loc → AH → Prop} {X' : XS} (h : TU Γ c ρ H t K X) (hK : ∀ ρ' H', K ρ' H' → K' ρ' H') (hX : ∀ m ρ' H', X m ρ' H' → X' m ρ' H') : TU Γ c ρ H t K' X' :=
  fun g s R => wpAny_mono (h g s R) (fun f s' ⟨ρ', H', R', k⟩ => ⟨ρ', H', R', hK _ _ k⟩) fun e s' x => x.mono hX

/-- what follows a statement -/
@[reducible] noncomputable def seqK (Γ : Gl) (c : Fm) (rest : List Stmt) (K : KS) (X : XS) : KS := fun f ρ' H' => match f with
  | .next => TB Γ c ρ' H' rest K X
  | f => K f ρ' H'
theorem sNil (h : K .next ρ H) : TB Γ c ρ H [] K X := fun g s R => wpAny_execs_nil ⟨ρ, H, R, h⟩
theorem sCons {st : Stmt} {rest : List Stmt} (h : T1 Γ c ρ H st (seqK Γ c rest K X) X) : TB Γ c ρ H (st :: rest) K X := fun g s R => by
  refine wpAny_execs_cons (wpAny_mono (h g s R) (fun f s' ⟨ρ', H', R', k⟩ => ?_) fun _ _ x => x)
  cases f with
  | next => exact k g s' R'
  | brk => exact ⟨ρ', H', R', k⟩
  | cont => exact ⟨ρ', H', R', k⟩
  | ret v => exact ⟨ρ', H', R', k⟩
/-- cut: the rest does not see how -/
theorem sRet {e : Expr} {pos} (h : TX Γ c ρ H e (kRet K ρ) (xAt X ρ)) : T1 Γ c ρ H (.Return (some e) pos) K X := fun g s R =>
  wpAny_Return_some (wpAny_mono (h g s R) (fun v s' ⟨H', R', k⟩ => ⟨ρ, H', R', k⟩) fun _ _ x => XSp.of x fun _ _ z => z)
theorem sRetQ {e : Expr} {pos} {K' : KP} (hq : ∀ v ρ' H', K' v H' → K (.ret v) ρ' H') (h : TX Γ c ρ H e K' (xAt X ρ)) : T1 Γ c ρ H (.Return (some e) pos) K X :=
  sRet (TX.mono h (fun v H' z => hq v ρ H' z) fun _ _ z => z)
theorem sNilQ {P : Loc → AH → Prop} (hn : ∀ ρ' H', P ρ' H' → K .next ρ' H') (h : P ρ H) : TB Γ c ρ H [] K X := sNil (hn ρ H h)
theorem sIf {test : Expr} {body orelse pos} (h : TT Γ c ρ H test (kIfS Γ c X K ρ body orelse) (xAt X ρ)) : T1 Γ c ρ H (.If test body orelse pos) K X := fun g s R =>
  wpAny_If (wpAny_mono (h g s R) (fun q s1 ⟨H1, R1, h1⟩ => by cases q; exact h1 g s1 R1; exact h1 g s1 R1) fun _ _ x => XSp.of x fun _ _ z => z)
theorem sBreak {pos} (h : K .brk ρ H) : T1 Γ c ρ H (.Break pos) K X := fun g s R => wpAny_bind (wpAny_standAt (wpAny_pure ⟨ρ, H, R, h⟩))
theorem not_interactive (R : Rel Γ c g ρ H s) : interactive c.e = false := by
  have := R.fok.kind
  simp [interactive, this]
theorem sExpr {e : Expr} {pos} (h : TX Γ c ρ H e (kDone K ρ) (xAt X ρ)) (hs : swapsWith e none (Pos.line pos) c.e = pure false := by rfl) : T1 Γ c ρ H (.Expr e pos) K X := fun g s R =>
  wpAny_Expr_any (wpAny_mono (h g s R) (fun v s' ⟨H', R', k⟩ => ⟨ρ, H', R', k⟩) fun _ _ x => XSp.of x fun _ _ z => z) (not_interactive R) hs

/-! stores -/
theorem lookup_kind {e : Env} {x : Str} {k : NameKind} {names : List (Str × NameKind)} (hs : e.scope.names = names) (hk : names.lookup x = some k) : e.kindOf x = some k := by show e.scope.names.lookup x = _; rw [hs]; exact hk
theorem Rel.storeLoc (R : Rel Γ c g ρ H s) {m cm : Str → Option Value} (L : Locs c.e ρ s.heap m cm) {x : Str} {v : Value} {h' : Heap} {tk : Nat} (hk : c.e.kindOf x = some .local)
    (hn : h'.Ns c.e.locals (fun y => if y = x then some v else m y)) (hs : Heap.SameBut c.e.locals s.heap h') : Rel Γ c g (upd ρ x (er v)) H { s with heap := h', toks := tk } := by
  have own := R.own c.e.locals (.head _)
  refine ⟨R.base.hidden own.1 own.2.1 own.2.2.1 hs.extBut, R.fok, ⟨_, cm, hn, fun n a q => (L.cell n a q).sameBut hs (R.fok.off n a q), fun y w hw hy => ?_, fun y w hw hy => ?_⟩, fun b q => ?_, R.pro, R.abv, R.frs⟩
  · by_cases e : y = x
    · subst e; rw [upd_self] at hw; cases hw; exact ⟨v, by simp, rfl⟩
    · rw [upd_ne e] at hw; rw [if_neg e]; exact L.loc y w hw hy
  · have e : y ≠ x := by rintro rfl; rw [hk] at hy; simp at hy
    rw [upd_ne e] at hw; exact L.cel y w hw hy
  · obtain ⟨h1, h2, h3, h4⟩ := R.own b q
    refine ⟨h1, h2, h3, ?_⟩
    show (h'.get? b).isSome = true
    by_cases e : b = c.e.locals
    · subst e; obtain ⟨o, _, _, z, _⟩ := hn; rw [z]; rfl
    · rw [hs.2 b e]; exact h4
theorem uLoc {x pos} {v : Value} {K : Loc → AH → Prop} {names : List (Str × NameKind)} (hs : c.e.scope.names = names) (hk : names.lookup x = some .local) (h : K (upd ρ x (er v)) H) : TU Γ c ρ H (assign (.Name x pos) c.e v) K X := fun g s R => by
  obtain ⟨m, cm, L⟩ := R.loc
  have hk' := lookup_kind hs hk
  refine wpAny_assign_Name (wpAny_storeName_local hk' L.ns (fun h' hn hsb => ⟨_, H, R.storeLoc L hk' hn hsb, h⟩) ?_)
  rw [R.fok.kind]; rfl
theorem uLocE {x pos} {v w : Value} {K : Loc → AH → Prop} {names : List (Str × NameKind)} (hs : c.e.scope.names = names) (hk : names.lookup x = some .local) (hw : er w = v) (h : K (upd ρ x v) H) : TU Γ c ρ H (assign (.Name x pos) c.e w) K X := by
  subst hw; exact uLoc hs hk h
theorem Rel.storeCel (R : Rel Γ c g ρ H s) {m cm : Str → Option Value} (L : Locs c.e ρ s.heap m cm) {x : Str} {a : Addr} {v : Value} {h' : Heap} {tk : Nat} (hk : c.e.kindOf x = some .cell) (ha : c.e.cells.lookup x = some a) (hao : a ∈ c.own)
    (hn : h'.IsCell a (some v)) (hs : Heap.SameBut a s.heap h') : Rel Γ c g (upd ρ x (er v)) H { s with heap := h', toks := tk } := by
  have own := R.own a hao
  have hne : c.e.locals ≠ a := fun e => R.fok.off x a ha e.symm
  have hfn : c.fn = true := by
    cases q : c.fn with
    | true => rfl
    | false => simp [Fm.own, q] at hao; exact absurd hao.symm hne
  refine ⟨R.base.hidden own.1 own.2.1 own.2.2.1 hs.extBut, R.fok, ⟨m, fun y => if y = x then some v else cm y, L.ns.sameBut hs hne, fun n b q => ?_, fun y w hw hy => ?_, fun y w hw hy => ?_⟩, fun b q => ?_, R.pro, R.abv, R.frs⟩
  · by_cases e : n = x
    · subst e; rw [ha] at q; cases q; simpa using hn
    · rw [if_neg e]
      exact (L.cell n b q).sameBut hs fun e' => e (name_of_addr (R.fok.apart hfn) (mem_of_lookup q) (e' ▸ mem_of_lookup ha))
  · have e : y ≠ x := by rintro rfl; rw [hk] at hy; cases hy
    rw [upd_ne e] at hw; exact L.loc y w hw hy
  · by_cases e : y = x
    · subst e; rw [upd_self] at hw; cases hw; exact ⟨a, v, ha, by simp, rfl⟩
    · rw [upd_ne e] at hw; rw [if_neg e]; exact L.cel y w hw hy
  · obtain ⟨h1, h2, h3, h4⟩ := R.own b q
    refine ⟨h1, h2, h3, ?_⟩
    show (h'.get? b).isSome = true
    by_cases e : b = a
    · subst e; obtain ⟨o, z, _⟩ := hn; rw [z]; rfl
    · rw [hs.2 b e]; exact h4
/-- the frame lays its cells itself: a name of kind cell has one of its own -/
noncomputable def Fm.Celled (c : Fm) (x : Str) : Prop := ∃ a, c.e.cells.lookup x = some a ∧ a ∈ c.own
theorem uCel {x pos} {v : Value} {K : Loc → AH → Prop} {names : List (Str × NameKind)} (hs : c.e.scope.names = names) (hk : names.lookup x = some .cell) (hc : c.Celled x) (h : K (upd ρ x (er v)) H) : TU Γ c ρ H (assign (.Name x pos) c.e v) K X := fun g s R => by
  obtain ⟨m, cm, L⟩ := R.loc
  have hk' := lookup_kind hs hk
  obtain ⟨a, ha, hao⟩ := hc
  exact wpAny_assign_Name (wpAny_storeName_cell R.fok.kind hk' ha (L.cell x a ha) (fun h' hn hsb => ⟨_, H, R.storeCel L hk' ha hao hn hsb, h⟩))

theorem uCelE {x pos} {v w : Value} {K : Loc → AH → Prop} {names : List (Str × NameKind)} (hs : c.e.scope.names = names) (hk : names.lookup x = some .cell) (hc : c.Celled x) (hw : er w = v) (h : K (upd ρ x v) H) : TU Γ c ρ H (assign (.Name x pos) c.e w) K X := by
  subst hw; exact uCel hs hk hc h

/-- the stores of a walk -/
theorem stL {x pos} {v : Value} {K : Loc → AH → Prop} {names : List (Str × NameKind)} (hs : c.e.scope.names = names) (hk : names.lookup x = some .local) (h : K (upd ρ x v) H) : ∀ w, er w = v → TU Γ c ρ H (assign (.Name x pos) c.e w) K X := fun _ hw => uLocE hs hk hw h
theorem stC {x pos} {v : Value} {K : Loc → AH → Prop} {names : List (Str × NameKind)} (hs : c.e.scope.names = names) (hk : names.lookup x = some .cell) (hc : c.Celled x) (h : K (upd ρ x v) H) : ∀ w, er w = v → TU Γ c ρ H (assign (.Name x pos) c.e w) K X := fun _ hw => uCelE hs hk hc hw h
/-- x = value -/
theorem sAsg {x pos' value pos} (h : TX Γ c ρ H value (kAsg Γ c X K ρ (.Name x pos')) (xAt X ρ)) (hs : swapsWith value (some (.Name x pos')) (Pos.line pos) c.e = pure false := by rfl) :
    T1 Γ c ρ H (.Assign [.Name x pos'] value pos) K X := fun g s R => by
  rw [arm_exec_Assign]
  refine wpAny_bind (wpAny_standAt ?_)
  rw [show swapsWithSole [.Name x pos'] value pos.line c.e = pure false from hs]
  refine wpAny_bind (wpAny_pure ?_)
  rw [if_neg (by decide)]
  refine wpAny_bind (wpAny_mono (h g s R) (fun v s1 ⟨H1, R1, h1⟩ => ?_) fun _ _ x => XSp.of x fun _ _ z => z)
  refine wpAny_bind (wpAny_pure ?_)
  show wpAny _ _ (do (do holding [] (assign (.Name x pos') c.e v)); pure Flow.next) _ _ s1
  exact wpAny_bind (wpAny_holding (wpAny_mono (h1 v rfl g s1 R1) (fun _ s2 ⟨ρ2, H2, R2, k⟩ => wpAny_pure ⟨ρ2, H2, R2, k⟩) fun _ _ x => x))
/-- o.attr = value -/
theorem sAsgA {o attr pos' value pos} (h : TX Γ c ρ H value (kAsgA Γ c X K ρ o attr) (xAt X ρ))
    (hs : swapsWith value (some (.Attribute o attr pos')) (Pos.line pos) c.e = pure false := by rfl) : T1 Γ c ρ H (.Assign [.Attribute o attr pos'] value pos) K X := fun g s R =>
  plainObj_wpAny_Assign_Attribute (wpAny_mono (h g s R) (fun v s1 ⟨H1, R1, h1⟩ => wpAny_mono (h1 g s1 R1) (fun u s2 ⟨H2, R2, h2⟩ => wpAny_mono (h2 u v rfl rfl g s2 R2) (fun _ s3 ⟨ρ3, H3, R3, k⟩ => ⟨ρ3, H3, R3, k⟩) fun _ _ x => x) fun _ _ x => XSp.of x fun _ _ z => z)
    fun _ _ x => XSp.of x fun _ _ z => z) hs
/-- o[i] = value -/
theorem sAsgI {o i pos' value pos} (h : TX Γ c ρ H value (kAsgI Γ c X K ρ o i) (xAt X ρ))
    (hs : swapsWith value (some (.Subscript o i pos')) (Pos.line pos) c.e = pure false := by rfl) : T1 Γ c ρ H (.Assign [.Subscript o i pos'] value pos) K X := fun g s R =>
  wpAny_Assign_Subscript (wpAny_mono (h g s R) (fun v s1 ⟨H1, R1, h1⟩ => wpAny_mono (h1 g s1 R1) (fun u s2 ⟨H2, R2, h2⟩ => wpAny_mono (h2 g s2 R2) (fun j s3 ⟨H3, R3, h3⟩ => wpAny_mono (h3 u j v rfl rfl rfl g s3 R3) (fun _ s4 ⟨ρ4, H4, R4, k⟩ => ⟨ρ4, H4, R4, k⟩) fun _ _ x => x) fun _ _ x => XSp.of x fun _ _ z => z) fun _ _ x => XSp.of x fun _ _ z => z)
    fun _ _ x => XSp.of x fun _ _ z => z) hs

/-! unpacking a tuple -/
noncomputable def TUs (Γ : Gl) (c : Fm) : List Expr → List Value → Loc → AH → (Loc → AH → Prop) → XS → Prop
  | [], [], ρ, H, K, _ => K ρ H
  | t :: ts, v :: vs, ρ, H, K, X => ∀ w, er w = v → TU Γ c ρ H (assign t c.e w) (fun ρ' H' => TUs Γ c ts vs ρ' H' K X) X
  | _, _, _, _, _, _ => False
theorem assignAll_in : ∀ {ts : List Expr} {ws : List Value} {vs : List Value} {ρ : Loc} {H : AH} {K : Loc → AH → Prop}, ws.map er = vs → TUs Γ c ts vs ρ H K X → (assignEach ts c.e).map (·.2) = ts.map (fun t => assign t c.e) →
    TU Γ c ρ H (assignInOrder ((assignEach ts c.e).map (·.2)) ws) K X
  | ts, ws, vs, ρ, H, K, hw, h, he => by
    rw [he]; clear he
    induction ts generalizing ws vs ρ H with
    | nil =>
      cases vs with
      | nil => cases ws with
        | nil => exact fun g s R => assignInOrder_nil ⟨ρ, H, R, h⟩
        | cons _ _ => cases hw
      | cons _ _ => exact h.elim
    | cons t ts ih =>
      cases vs with
      | nil => exact h.elim
      | cons v vs => cases ws with
        | nil => cases hw
        | cons w ws =>
          rw [List.map_cons, List.cons.injEq] at hw
          exact fun g s R => assignInOrder_cons (wpAny_mono (h w hw.1 g s R) (fun _ s1 ⟨ρ1, H1, R1, h1⟩ => ih _ _ _ _ hw.2 h1 g s1 R1) fun _ _ x => x)
theorem Rel.atNew (R : Rel Γ c g ρ H s) {h' : Heap} (he : Heap.ExtBut s.heap.objs.size s.heap h') : Rel Γ c g ρ H { s with heap := h' } :=
  R.grow (tk := s.toks) fun b o q => he b o (Nat.ne_of_lt (Heap.lt_size q)) q
inductive kAsgT (Γ : Gl) (c : Fm) (X : XS) (K : KS) (ρ : Loc) (ts : List Expr) (v : Value) (H1 : AH) : Prop
  | mk (t : Addr) (xs : List Value) (e : v = .ref t) (ht : H1 t = some (.tup xs)) (hl : xs.length = ts.length) (k : TUs Γ c ts xs ρ H1 (kNext K) X) : kAsgT Γ c X K ρ ts v H1
theorem sAsgT {ts : List Expr} {kk pos' value pos} (h : TX Γ c ρ H value (kAsgT Γ c X K ρ ts) (xAt X ρ))
    (hh : c.hd = true) (he : (assignEach ts c.e).map (·.2) = ts.map (fun t => assign t c.e)) (hstar : (assignEach ts c.e).findIdx? (·.1) = none)
    (hw : swappedStores [.Tuple ts kk pos'] value c.e = pure none) (hs : swapsWith value (some (.Tuple ts kk pos')) (Pos.line pos) c.e = pure false := by rfl) : T1 Γ c ρ H (.Assign [.Tuple ts kk pos'] value pos) K X := fun g s R => by
  refine wpAny_Assign_stores (wpAny_mono (h g s R) (fun v s1 ⟨H1, R1, t, xs, ev, ht, hl, h1⟩ => ?_) fun _ _ x => XSp.of x fun _ _ z => z) hs hw
  show wpAny _ _ (do holding [] (assign (.Tuple ts kk pos') c.e v)) _ _ s1
  refine wpAny_holding ?_
  rw [er_ref ev]
  obtain ⟨vs, n, z1, z2⟩ := R1.base.sees _ _ ht
  refine assign_Tuple_tuple (items := vs) (R1.fok.handled hh) ⟨_, z1, rfl, _, rfl⟩ ?_ hstar fun h' hx => ?_
  · have := congrArg List.length he; rw [List.length_map, List.length_map] at this; rw [this, ← hl, ← z2, List.length_map, Array.length_toList]
  · exact wpAny_mono (assignAll_in z2 h1 he g _ (R1.atNew hx)) (fun _ s2 ⟨ρ2, H2, R2, k⟩ => ⟨ρ2, H2, R2, k⟩) fun _ _ x => x
end

-- MLoop
/-- where the items of a walk come from -/
structure Src (Γ : Gl) (xs : List Value) (It : Nat → Obj → Prop) (Hc : AH → Prop) : Prop where
  notFrame : ∀ i (o : Obj), It i o → ¬ IsD o
  item : ∀ (A : Around) g H (s : Shared) I o i x (Q : Option Value → Shared → Prop) (E : Value → Shared → Prop), Base Γ g H s → Hc H → s.heap.get? I = some o → It i o → xs[i]? = some x →
    (∀ v o' h' tk, er v = x → It (i + 1) o' → h'.get? I = some o' → Heap.SameBut I s.heap h' → Q (some v) { s with heap := h', toks := tk }) → wpAny (model PR Γ.w) A (pyNext (.ref I)) Q E s
  done : ∀ (A : Around) g H (s : Shared) I o i (Q : Option Value → Shared → Prop) (E : Value → Shared → Prop), A.handled = none → Base Γ g H s → Hc H → s.heap.get? I = some o → It i o → xs[i]? = none →
    (∀ h', Heap.ExtBut I s.heap h' → Q none { s with heap := h' }) → wpAny (model PR Γ.w) A (pyNext (.ref I)) Q E s
  self : ∀ (A : Around) (s : Shared) I o i (Q : Value → Shared → Prop) (E : Value → Shared → Prop), s.heap.get? I = some o → It i o → Q (.ref I) s → wpAny (model PR Γ.w) A (pyIter (.ref I)) Q E s
structure Itb (Γ : Gl) (H : AH) (v : Value) (xs : List Value) (It : Nat → Obj → Prop) (Hc : AH → Prop) : Prop where
  src : Src Γ xs It Hc
  hc : Hc H
  make : ∀ (A : Around) g (s : Shared) u (Q : Value → Shared → Prop) (E : Value → Shared → Prop), Base Γ g H s → er u = v →
    (∀ o, It 0 o → (s.heap.push o).get? s.heap.objs.size = some o → Q (.ref s.heap.objs.size) { s with heap := s.heap.push o }) → wpAny (model PR Γ.w) A (pyIter u) Q E s

section
variable {Γ : Gl} {H : AH}
noncomputable def ListIt (l : Addr) (i : Nat) (o : Obj) : Prop := o.cls = .type "list_iterator" ∧ o.data = .fields #[.ref l, .int i 0]
theorem itbList {a : Addr} {xs : List Value} (h : H a = some (.list xs)) : Itb Γ H (.ref a) xs (ListIt a) (fun H' => H' a = some (.list xs)) where
  src := {
    notFrame := fun i o h => fun ⟨_, _, d⟩ => by rw [h.2] at d; cases d
    item := fun A g H' s I o i x Q E B hc e ⟨i1, i2⟩ hx hQ => by
      obtain ⟨vs, n, h1, h2⟩ := B.sees _ _ hc
      have hx' : (vs.toList.map er)[i]? = some x := by rw [h2]; exact hx
      rw [List.getElem?_map, Option.map_eq_some_iff] at hx'
      obtain ⟨v, hv, ev⟩ := hx'
      rw [Array.getElem?_toList] at hv
      refine wpAny_pyNext_list_item ⟨o, e, i1, i2⟩ ⟨_, h1, rfl, _, rfl⟩ hv fun h' hi hs => ?_
      obtain ⟨o', e', r⟩ := hi
      exact hQ v o' h' s.toks ev r e' hs
    done := fun A g H' s I o i Q E hh B hc e ⟨i1, i2⟩ hx hQ => by
      obtain ⟨vs, n, h1, h2⟩ := B.sees _ _ hc
      refine wpAny_pyNext_list_end hh ⟨o, e, i1, i2⟩ ⟨_, h1, rfl, _, rfl⟩ ?_ hQ
      rw [← h2, List.getElem?_map, Option.map_eq_none_iff, Array.getElem?_toList] at hx
      exact hx
    self := fun A s I o i Q E e ⟨i1, i2⟩ hQ => wpAny_pyIter_listiter (l := a) (i := i) ⟨o, e, i1, i2⟩ hQ }
  hc := h
  make := fun A g s u Q E B eu hQ => by
    obtain ⟨vs, n, h1, h2⟩ := B.sees _ _ h
    rw [er_ref eu]
    exact wpAny_pyIter_list ⟨_, h1, rfl, _, rfl⟩ (hQ _ ⟨rfl, rfl⟩ (Heap.get?_push_size _ rfl))
noncomputable def TupIt (l : Addr) (i : Nat) (o : Obj) : Prop := o.cls = .type "tuple_iterator" ∧ o.data = .fields #[.ref l, .int i 0]
theorem itbTup {a : Addr} {xs : List Value} (h : H a = some (.tup xs)) : Itb Γ H (.ref a) xs (TupIt a) (fun H' => H' a = some (.tup xs)) where
  src := {
    notFrame := fun i o h => fun ⟨_, _, d⟩ => by rw [h.2] at d; cases d
    item := fun A g H' s I o i x Q E B hc e ⟨i1, i2⟩ hx hQ => by
      obtain ⟨vs, n, h1, h2⟩ := B.sees _ _ hc
      have hx' : (vs.toList.map er)[i]? = some x := by rw [h2]; exact hx
      rw [List.getElem?_map, Option.map_eq_some_iff] at hx'
      obtain ⟨v, hv, ev⟩ := hx'
      rw [Array.getElem?_toList] at hv
      refine wpAny_pyNext_tuple_item ⟨o, e, i1, i2⟩ ⟨_, h1, rfl, _, rfl⟩ hv fun h' hi hs => ?_
      obtain ⟨o', e', r⟩ := hi
      exact hQ v o' h' s.toks ev r e' hs
    done := fun A g H' s I o i Q E hh B hc e ⟨i1, i2⟩ hx hQ => by
      obtain ⟨vs, n, h1, h2⟩ := B.sees _ _ hc
      refine wpAny_pyNext_tuple_end hh ⟨o, e, i1, i2⟩ ⟨_, h1, rfl, _, rfl⟩ ?_ hQ
      rw [← h2, List.getElem?_map, Option.map_eq_none_iff, Array.getElem?_toList] at hx
      exact hx
    self := fun A s I o i Q E e ⟨i1, i2⟩ hQ => wpAny_pyIter_tupleiter (t := a) (i := i) ⟨o, e, i1, i2⟩ hQ }
  hc := h
  make := fun A g s u Q E B eu hQ => by
    obtain ⟨vs, n, h1, h2⟩ := B.sees _ _ h
    rw [er_ref eu]
    exact wpAny_pyIter_tuple ⟨_, h1, rfl, _, rfl⟩ (hQ _ ⟨rfl, rfl⟩ (Heap.get?_push_size _ rfl))
theorem Base.notSys {g : Prot} {s : Shared} (B : Base Γ g H s) {a : Addr} {o : AO} (h : H a = some o) : (a == sysModules) = false := by
  cases q : (a == sysModules) with
  | false => rfl
  | true =>
    have e : a = sysModules := by simpa using q
    have := (B.sep a o h).2
    rw [e] at this
    obtain ⟨ob, k⟩ := B.ok.sys
    rw [k] at this; cases this
noncomputable def keyV : Option Str → Value
  | none => .none
  | some x => .str x 0
theorem optIs_er {k : Option Str} {v : Value} (h : optIs k v = true) : er v = keyV k := by
  rcases optIs_shape h with ⟨rfl, rfl⟩ | ⟨x, t, rfl, rfl⟩ <;> rfl
theorem optIs_of {k : Option Str} {v : Value} (h : er v = keyV k) : optIs k v = true := by
  cases k with
  | none => rw [er_none h]; rfl
  | some x => obtain ⟨t, rfl⟩ := er_str h; exact beq_self_eq_true x
noncomputable def KeyIt (d : Addr) (n ep : Nat) (i : Nat) (o : Obj) : Prop := o.cls = .type "dict_keyiterator" ∧ o.data = .fields #[.ref d, .int i 0, .int n 0, .int ep 0]
theorem itbDict {a : Addr} {es : List (Option Str × Value)} {ep : Nat} (h : H a = some (.dict es ep)) : Itb Γ H (.ref a) (es.map fun p => keyV p.1) (KeyIt a es.length ep) (fun H' => H' a = some (.dict es ep)) where
  src := {
    notFrame := fun i o h => fun ⟨_, _, d⟩ => by rw [h.2] at d; cases d
    item := fun A g H' s I o i x Q E B hc e ⟨i1, i2⟩ hx hQ => by
      obtain ⟨kvs, h1, h2⟩ := B.sees _ _ hc
      have hl : kvs.length = es.length := by rw [← h2, List.length_map]
      rw [List.getElem?_map, ← h2, List.getElem?_map, Option.map_map, Option.map_eq_some_iff] at hx
      obtain ⟨kv, hkv, rfl⟩ := hx
      refine wpAny_pyNext_dict_item (ep := ep) (i := i) (k := kv.1) (v := kv.2) ⟨o, e, i1, by rw [hl]; exact i2⟩ h1 hkv fun key h' hk hi hs => ?_
      obtain ⟨o', e', r1, r2⟩ := hi
      exact hQ key o' h' s.toks (optIs_er hk) ⟨r1, by rw [hl] at r2; exact r2⟩ e' hs
    done := fun A g H' s I o i Q E hh B hc e ⟨i1, i2⟩ hx hQ => by
      obtain ⟨kvs, h1, h2⟩ := B.sees _ _ hc
      have hl : kvs.length = es.length := by rw [← h2, List.length_map]
      refine wpAny_pyNext_dict_end (ep := ep) (i := i) hh ⟨o, e, i1, by rw [hl]; exact i2⟩ h1 ?_ hQ
      rw [List.getElem?_eq_none_iff] at hx ⊢
      rw [List.length_map] at hx; omega
    self := fun A s I o i Q E e ⟨i1, i2⟩ hQ => wpAny_pyIter_keyiter (i := i) ⟨o, e, i1, i2⟩ hQ }
  hc := h
  make := fun A g s u Q E B eu hQ => by
    obtain ⟨kvs, h1, h2⟩ := B.sees _ _ h
    have hl : kvs.length = es.length := by rw [← h2, List.length_map]
    rw [er_ref eu]
    exact wpAny_pyIter_dict (B.notSys h) h1 (hQ _ ⟨rfl, by rw [hl]; rfl⟩ (Heap.get?_push_size _ rfl))
noncomputable def RangeIt (n : Nat) (i : Nat) (o : Obj) : Prop := o.cls = .type "range_iterator" ∧ o.dict = none ∧ o.data = .fields #[rawInt (i : Int), rawInt ((n : Int) - i), rawInt 1] ∧ i ≤ n ∧ o.slots = #[]
end

/-! the loop -/
noncomputable def forK (Hc : AH → Prop) (K : KS) (P : Loc → AH → Prop) : KS := fun f ρ' H' => match f with
  | .next => Hc H' ∧ P ρ' H'
  | .cont => Hc H' ∧ P ρ' H'
  | .brk => K .next ρ' H'
  | .ret w => K (.ret w) ρ' H'
noncomputable def ForP (Γ : Gl) (c : Fm) (x : Str) (body : List Stmt) (Hc : AH → Prop) (K : KS) : List Value → Loc → AH → Prop
  | [], ρ, H => K .next ρ H
  | v :: r, ρ, H => TB Γ c (upd ρ x v) H body (forK Hc K (ForP Γ c x body Hc K r)) nXS
section
variable {Γ : Gl} {c : Fm} {g : Prot} {ρ : Loc} {H : AH} {s : Shared} {X : XS} {K : KS}
theorem no_exc {e : Value} {s' : Shared} (h : XSp Γ c g nXS e s') : False := let ⟨_, _, _, _, _, _, _, z⟩ := h; z
/-- something that stands, neither of H nor of the frame's own -/
theorem Rel.stays {ρ' : Loc} {H' : AH} {s' : Shared} (R : Rel Γ c g ρ H s) (R' : Rel Γ c (wide c H s) ρ' H' s') {I : Addr} {o : Obj} (e : s.heap.get? I = some o) (h1 : H I = none) (h2 : I ∉ c.own) :
    (¬ IsD o → s'.heap.get? I = some o) ∧ H' I = none := by
  have w : wide c H s I = some o := (wide_eq h1 h2).trans e
  refine ⟨fun nf => by
    obtain ⟨sl, z, f⟩ := R'.base.kg I o w
    rcases f with f | rfl
    · exact absurd f nf
    · exact z, ?_⟩
  cases q : H' I with
  | none => rfl
  | some x => rw [(R'.base.sep I x q).1] at w; cases w
/-- an iterable with what the loop over it does -/
inductive kFor (Γ : Gl) (P : (AH → Prop) → List Value → AH → Prop) (v : Value) (H1 : AH) : Prop
  | mk (xs : List Value) (It : Nat → Obj → Prop) (Hc : AH → Prop) (b : Itb Γ H1 v xs It Hc) (h : P Hc xs H1) : kFor Γ P v H1
theorem sFor {x px iter body pos} {names : List (Str × NameKind)} (hs : c.e.scope.names = names) (hk : names.lookup x = some .local) (hh : c.hd = true)
    (h : TX Γ c ρ H iter (kFor Γ fun Hc xs H1 => ForP Γ c x body Hc K xs ρ H1) (xAt X ρ)) (hf : ∀ x, foldedSetIterable iter c.e x = pure x := by intro _; rfl) :
    T1 Γ c ρ H (.For (.Name x px) iter body [] pos) K X := fun g s R => by
  refine wpAny_For (wpAny_mono (h g s R) (fun v s1 ⟨H1, R1, xs, It, Hc, B, h1⟩ => ?_) fun _ _ z => XSp.of z fun _ _ z => z) hf
  have hh' := R.fok.handled hh
  refine B.make _ g s1 v _ _ R1.base rfl fun o ho hget => ?_
  have fresh := none_size s1.heap
  have hb := R1.base.fresh fresh
  have hI0 := R1.notOwn fresh
  refine codeAny_forLoop (fun n s' => ∃ i ρ' H' o', n = xs.length - i ∧ i ≤ xs.length ∧ Rel Γ c g ρ' H' s' ∧ s'.heap.get? s1.heap.objs.size = some o' ∧ It i o' ∧ Hc H' ∧ H' s1.heap.objs.size = none ∧ ForP Γ c x body Hc K (xs.drop i) ρ' H') ?_ xs.length
    ⟨0, ρ, H1, o, rfl, Nat.zero_le _, R1.grow (tk := s1.toks) fun b ob q => Heap.get?_push_of_some _ q, hget, ho, B.hc, hb.2.2, h1⟩
  · rintro n s' ⟨i, ρ', H', o', rfl, hi, R', e', hit, hc', hH', hP⟩
    cases hx : xs[i]? with
    | none =>
      refine B.src.done _ _ _ _ _ _ i _ _ hh' R'.base hc' e' hit hx fun h' he => ?_
      show wpAny _ _ (execs [] c.e) _ _ _
      refine wpAny_execs_nil ?_
      have : xs.drop i = [] := List.drop_eq_nil_of_le (List.getElem?_eq_none_iff.mp hx)
      rw [this] at hP
      exact ⟨ρ', H', R'.hidden (tk := s'.toks) hb.1 hb.2.1 hH' hI0 he, hP⟩
    | some v =>
      obtain ⟨hlt, hv⟩ := List.getElem?_eq_some_iff.mp hx
      refine B.src.item _ _ _ _ _ _ i v _ _ R'.base hc' e' hit hx fun u o2 h2 tk eu hit2 e2 hs2 => ?_
      have R2 := R'.hidden (tk := tk) hb.1 hb.2.1 hH' hI0 hs2.extBut
      rw [List.drop_eq_getElem_cons hlt, hv] at hP
      refine wpAny_mono (uLoc (X := nXS) (K := fun ρ2 H2 => TB Γ c ρ2 H2 body (forK Hc K (ForP Γ c x body Hc K (xs.drop (i + 1)))) nXS) hs hk (by rw [eu]; exact hP) _ _ R2.widen) (fun _ s3 ⟨ρ3, H3, R3, h3⟩ => ?_) fun _ _ z => (no_exc z).elim
      obtain ⟨e3, n3⟩ := R2.stays R3 e2 hH' hI0
      replace e3 := e3 (B.src.notFrame _ _ hit2)
      have R3' : Rel Γ c g ρ3 H3 s3 := Rel.narrow R2.wider R2 R3
      refine wpAny_mono (h3 _ _ R3'.widen) (fun f s4 ⟨ρ4, H4, R4, h4⟩ => ?_) fun _ _ z => (no_exc z).elim
      obtain ⟨e4, n4⟩ := R3'.stays R4 e3 n3 hI0
      replace e4 := e4 (B.src.notFrame _ _ hit2)
      have R4' : Rel Γ c g ρ4 H4 s4 := Rel.narrow R3'.wider R3' R4
      cases f with
      | next => exact ⟨xs.length - (i + 1), by omega, i + 1, ρ4, H4, _, rfl, hlt, R4', e4, hit2, h4.1, n4, h4.2⟩
      | cont => exact ⟨xs.length - (i + 1), by omega, i + 1, ρ4, H4, _, rfl, hlt, R4', e4, hit2, h4.1, n4, h4.2⟩
      | brk => exact ⟨ρ4, H4, R4', h4⟩
      | ret w => exact ⟨ρ4, H4, R4', h4⟩
end

-- MComp
abbrev Names := List (Str × NameKind)
noncomputable def relabN (outer names : Names) : Names := names.map fun p => if p.2 == .free && outer.lookup p.1 == some .cell then (p.1, .cell) else p
/-- what a comprehension sees of the frame around it -/
noncomputable def seen (names : Names) (ρ : Loc) : Loc := fun n => match names.lookup n with
  | some .free => ρ n
  | _ => none
noncomputable def CTest (Γ : Gl) (c : Fm) (ρ : Loc) (H : AH) : List Expr → (Bool → AH → Prop) → Prop
  | [], k => k true H
  | [t], k => TT Γ c ρ H t k nX
  | _, _ => False
noncomputable def CompP (Γ : Gl) (N : Names) (k : Nat) (hd : Bool) (x : Str) (ρ₀ : Loc) (ifs : List Expr) (elt : Expr) (Hc : AH → Prop) (K : KP) : List Value → List Value → AH → Prop
  | [], ys, H => ∀ D, H D = none → K (.ref D) (upd H D (.list ys))
  | v :: r, ys, H => ∀ c : Fm, c.e.scope.names = N → c.k = k → c.hd = hd → CTest Γ c (upd ρ₀ x v) H ifs fun b H1 =>
      if b then TX Γ c (upd ρ₀ x v) H1 elt (fun y H2 => Hc H2 ∧ CompP Γ N k hd x ρ₀ ifs elt Hc K r (ys ++ [y]) H2) nX else Hc H1 ∧ CompP Γ N k hd x ρ₀ ifs elt Hc K r ys H1

/-- the value of an element: no old thing changes -/
inductive kPv {α : Type} (H' : AH) (w y : α) (H2 : AH) : Prop
  | mk (e : Ext H' H2) (h : y = w) : kPv H' w y H2
noncomputable def compFm (c : Fm) (scope : Scope) (cl : List (Str × Addr)) (C : Addr) : Fm := { A := c.A, e := compEnvC scope cl C c.e, fn := false, fr := c.fr, k := c.k, hd := c.hd }

theorem closure_go {env : Env} (f : Str × NameKind → List (Str × Addr) → Sem (ForInStep (List (Str × Addr))))
    (hf : ∀ n k cs, f (n, k) cs = if k == .free then (do let a ← cellOf env n; pure (.yield ((n, a) :: cs))) else pure (.yield cs)) : ∀ (names : Names) (acc : List (Str × Addr)), (∀ n, (n, NameKind.free) ∈ names → ∃ a, env.cells.lookup n = some a) →
    ∃ cl, (forIn names acc f : Sem _) = pure cl ∧ ∀ n, cl.lookup n = if (n, NameKind.free) ∈ names then env.cells.lookup n else acc.lookup n
  | [], acc, _ => ⟨acc, by rw [List.forIn_nil], fun n => by simp⟩
  | (m, k) :: r, acc, h => by
    have hr : ∀ n, (n, NameKind.free) ∈ r → ∃ a, env.cells.lookup n = some a := fun n hn => h n (List.mem_cons_of_mem _ hn)
    by_cases hk : k = .free
    · subst hk
      obtain ⟨a, ha⟩ := h m (.head _)
      obtain ⟨cl, h1, h2⟩ := closure_go f hf r ((m, a) :: acc) hr
      refine ⟨cl, ?_, fun n => ?_⟩
      · rw [List.forIn_cons, hf]
        have : cellOf env m = pure a := by unfold cellOf; rw [ha]
        rw [if_pos (by rfl), this]
        exact h1
      · rw [h2]
        by_cases hn : (n, NameKind.free) ∈ r
        · rw [if_pos hn, if_pos (List.mem_cons_of_mem _ hn)]
        · rw [if_neg hn]
          by_cases hnm : n = m
          · subst hnm; rw [if_pos (.head _), List.lookup_cons, beq_self_eq_true, ha]
          · rw [if_neg (by simp [hnm, hn]), List.lookup_cons]
            have : (n == m) = false := by simpa using hnm
            rw [this]
    · obtain ⟨cl, h1, h2⟩ := closure_go f hf r acc hr
      refine ⟨cl, ?_, fun n => ?_⟩
      · rw [List.forIn_cons, hf, if_neg (by simpa using hk)]
        exact h1
      · rw [h2]
        have : ((n, NameKind.free) ∈ (m, k) :: r) ↔ (n, NameKind.free) ∈ r := by
          simp [Ne.symm hk]
        simp only [this]
theorem closure_of {env : Env} {scope : Scope} (h : ∀ n, (n, NameKind.free) ∈ scope.names → ∃ a, env.cells.lookup n = some a) :
    ∃ cl, closureFor scope env = pure cl ∧ ∀ n, cl.lookup n = if (n, NameKind.free) ∈ scope.names then env.cells.lookup n else none := by
  obtain ⟨cl, h1, h2⟩ := closure_go (env := env) (fun p cs => if p.2 == .free then (do let a ← cellOf env p.1; pure (.yield ((p.1, a) :: cs))) else pure (.yield cs)) (fun n k cs => rfl) scope.names [] h
  refine ⟨cl, ?_, h2⟩
  unfold closureFor
  refine Eq.trans ?_ h1
  show (forIn scope.names [] _ >>= pure) = _
  rw [bind_pure]

section
variable {Γ : Gl} {c : Fm} {g : Prot} {ρ : Loc} {H : AH} {s : Shared}
theorem relab_names {scope : Scope} {outer : Names} (hs : c.e.scope.names = outer) (hk : c.e.scope.kind = .function) : (relabel scope c.e).names = relabN outer scope.names := by
  unfold relabel relabN
  simp only [hk, Env.kindOf, hs]
  apply List.map_congr_left
  rintro ⟨n, k⟩ _
  simp
theorem lookup_relab {outer : Names} : ∀ {names : Names} {y : Str}, (relabN outer names).lookup y = (names.lookup y).map fun k => if k == .free && outer.lookup y == some .cell then .cell else k
  | [], y => rfl
  | (n, k) :: r, y => by
    have ih := @lookup_relab outer r y
    unfold relabN at ih ⊢
    rw [List.map_cons, List.lookup_cons]
    cases hy : y == n with
    | true =>
      have e : y = n := by simpa using hy
      subst e
      by_cases hc : (k == NameKind.free && outer.lookup y == some NameKind.cell) = true
      · simp only [hc, if_true, List.lookup_cons, beq_self_eq_true, Option.map_some]
      · simp only [hc, List.lookup_cons, beq_self_eq_true, Option.map_some, Bool.false_eq_true, if_false]
    | false =>
      by_cases hc : (k == NameKind.free && outer.lookup n == some NameKind.cell) = true
      · simp only [hc, if_true, List.lookup_cons, hy]; exact ih
      · simp only [hc, List.lookup_cons, hy, Bool.false_eq_true, if_false]; exact ih
/-- the inner frame -/
theorem Rel.comp (R : Rel Γ c g ρ H s) {scope : Scope} {cl : List (Str × Addr)} {C : Addr} {x : Str} {v : Value} {m' : Str → Option Value} {outer : Names} (hs : c.e.scope.names = outer) (hkind : scope.kind = .function)
    (hcl : ∀ n, cl.lookup n = if (n, NameKind.free) ∈ scope.names then c.e.cells.lookup n else none)
    (hfree : ∀ n, (n, NameKind.free) ∈ scope.names → (outer.lookup n = some .cell ∨ outer.lookup n = some .free) ∧ scope.names.lookup n = some .free)
    (hx : scope.names.lookup x = some .local) (hC : Hid Γ g H c.own C) (hCn : s.heap.Ns C m') (hm : ∃ u, m' x = some u ∧ er u = v) (hab : Γ.h₀.objs.size ≤ C) :
    Rel Γ (compFm c scope cl C) (wide (compFm c scope cl C) H s) (upd (seen scope.names ρ) x v) H s := by
  obtain ⟨oB, oF⟩ := R.out
  have memf : ∀ n a, (n, a) ∈ cl → True := fun _ _ _ => trivial
  have cell : ∀ n a, cl.lookup n = some a → c.e.cells.lookup n = some a ∧ (n, NameKind.free) ∈ scope.names := fun n a q => by
    rw [hcl] at q; split at q
    · exact ⟨q, by assumption⟩
    · cases q
  have hH : ∀ n a, c.e.cells.lookup n = some a → H a = none ∧ a ≠ C := fun n a q => by
    rcases R.pro n a q with z | ⟨o, z⟩
    · exact ⟨(R.own a z).2.2.1, fun e => hC.2.2.2 (e ▸ z)⟩
    · refine ⟨?_, fun e => by rw [e, hC.1] at z; cases z⟩
      cases y : H a with
      | none => rfl
      | some w => rw [(R.base.sep a w y).1] at z; cases z
  have own : (compFm c scope cl C).own = [C] := rfl
  obtain ⟨m, cm, L⟩ := R.loc
  have wd : ∀ b o, H b = none → b ≠ C → s.heap.get? b = some o → wide (compFm c scope cl C) H s b = some o := fun b o h1 h2 h3 => by
    rw [wide_eq h1 (by rw [own]; simpa using h2)]; exact h3
  refine ⟨{ R.base with
      kg := fun b o q => by
        unfold wide at q; split at q
        · cases q
        · exact ⟨o.slots, q, .inr rfl⟩
      sep := fun a o q => ⟨by unfold wide; rw [q]; rfl, (R.base.sep a o q).2⟩ },
    ⟨hkind, R.fok.glob, R.fok.bui, (fun h => by cases h), ?_, R.fok.room, R.fok.frames, R.fok.handled⟩, ⟨m', cm, hCn, fun n a q => L.cell n a (cell n a q).1, ?_, ?_⟩, ?_, ?_, hab, ?_⟩
  · exact fun n a q => (hH n a (cell n a q).1).2
  · intro y w hw hy
    by_cases e : y = x
    · subst e; rw [upd_self] at hw; cases hw; exact hm
    · exfalso
      rw [upd_ne e] at hw
      have hk : (relabN outer scope.names).lookup y = some .local := by rw [← relab_names hs R.fok.kind]; exact hy
      rw [lookup_relab] at hk
      unfold seen at hw
      split at hw
      · rename_i q
        rw [q] at hk
        simp only [Option.map_some, beq_self_eq_true, Bool.true_and] at hk
        split at hk <;> simp at hk
      · cases hw
  · intro y w hw hy
    have hk : (relabN outer scope.names).lookup y = some .cell ∨ (relabN outer scope.names).lookup y = some .free := by rw [← relab_names hs R.fok.kind]; exact hy
    rw [lookup_relab] at hk
    have e : y ≠ x := by
      rintro rfl
      rw [hx] at hk; simp at hk
    rw [upd_ne e] at hw
    unfold seen at hw
    split at hw
    · rename_i q
      have hmem := mem_of_lookup q
      obtain ⟨a, v', h1, h2, h3⟩ := L.cel y w hw (by
        rcases (hfree y hmem).1 with z | z
        · exact .inl (lookup_kind hs z)
        · exact .inr (lookup_kind hs z))
      exact ⟨a, v', by show cl.lookup y = some a; rw [hcl, if_pos hmem]; exact h1, h2, h3⟩
    · cases hw
  · intro a ha
    have ha' : a = C := List.mem_singleton.mp (own ▸ ha)
    subst ha'
    obtain ⟨o, _, _, z, _⟩ := hCn
    exact ⟨by unfold wide; rw [if_pos (by rw [own]; simp)], hC.2.1, hC.2.2.1, by rw [z]; rfl⟩
  · intro n a q
    obtain ⟨o, z, _⟩ := L.cell n a (cell n a q).1
    exact .inr ⟨o, wd a o (hH n a (cell n a q).1).1 (hH n a (cell n a q).1).2 z⟩
  · intro env q
    obtain ⟨h1, L', h2, h3, h4⟩ := R.frs env q
    refine ⟨h1, L', h2, h3, .inr ?_⟩
    rcases h4 with rfl | ⟨o, z, d⟩
    · have w := R.own c.e.locals (.head _)
      obtain ⟨ob, e1, e2, y1, y2, _⟩ := L.ns
      exact ⟨ob, wd _ _ w.2.2.1 (fun e => hC.2.2.2 (e ▸ .head _)) y1, ⟨_, _, y2⟩⟩
    · obtain ⟨sl, y, _⟩ := R.base.kg L' o z
      refine ⟨{ o with slots := sl }, wd _ _ ?_ (fun e => by rw [e, hC.1] at z; cases z) y, d⟩
      cases y : H L' with
      | none => rfl
      | some x => rw [(R.base.sep L' x y).1] at z; cases z
/-- back from the inner frame -/
theorem Rel.compBack (R : Rel Γ c g ρ H s) {c' : Fm} {C : Addr} {ρ' : Loc} {H' : AH} {s' : Shared} (ho : c'.own = [C]) (hC : Hid Γ g H c.own C) (R' : Rel Γ c' (wide c' H s) ρ' H' s') : Rel Γ c g ρ H' s' ∧ Hid Γ g H' c.own C := by
  have st : ∀ b o, H b = none → b ≠ C → s.heap.get? b = some o → (∃ sl, s'.heap.get? b = some { o with slots := sl } ∧ (IsD o ∨ sl = o.slots)) ∧ H' b = none := fun b o hn hb q => by
    have w : wide c' H s b = some o := (wide_eq hn (by rw [ho]; simpa using hb)).trans q
    refine ⟨R'.base.kg b o w, ?_⟩
    cases y : H' b with
    | none => rfl
    | some x => rw [(R'.base.sep b x y).1] at w; cases w
  have gn : ∀ b o, g b = some o → H b = none ∧ b ≠ C := fun b o q => ⟨(by
    cases y : H b with
    | none => rfl
    | some x => rw [(R.base.sep b x y).1] at q; cases q), fun e => by rw [e, hC.1] at q; cases q⟩
  have W : Wider g (wide c' H s) := fun b o q => by
    obtain ⟨sl, z, f⟩ := R.base.kg b o q
    exact ⟨sl, by rw [wide_eq (gn b o q).1 (by rw [ho]; simpa using (gn b o q).2)]; exact z, f⟩
  have on : ∀ b, b ∈ c.own → b ≠ C := fun b q e => hC.2.2.2 (e ▸ q)
  refine ⟨⟨R'.base.narrow W, R.fok, ?_, fun a q => ?_, R.pro, R.abv, R.frs⟩, hC.1, hC.2.1, (R'.own C (by rw [ho]; exact .head _)).2.2.1, hC.2.2.2⟩
  · obtain ⟨m, cm, x⟩ := R.loc
    refine ⟨m, cm, ns_slots x.ns fun _ z => (let ⟨⟨sl, y, _⟩, _⟩ := st _ _ (R.own _ (.head _)).2.2.1 (on _ (.head _)) z; ⟨sl, y⟩), fun n a q => cell_slots (x.cell n a q) fun ob z => (let ⟨⟨sl, y, _⟩, _⟩ := st a _ ?_ ?_ z; ⟨sl, y⟩), x.loc, x.cel⟩
    · rcases R.pro n a q with y | ⟨o, y⟩
      · exact (R.own a y).2.2.1
      · exact (gn a o y).1
    · rcases R.pro n a q with y | ⟨o, y⟩
      · exact on a y
      · exact (gn a o y).2
  · obtain ⟨h1, h2, h3, h4⟩ := R.own a q
    obtain ⟨o, z⟩ := Option.isSome_iff_exists.mp h4
    obtain ⟨⟨sl, y, _⟩, n⟩ := st a o h3 (on a q) z
    exact ⟨h1, h2, n, by rw [y]; rfl⟩

theorem Hid.at' {s : Shared} (R : Rel Γ c g ρ H s) {a : Addr} (e : s.heap.get? a = none) : Hid Γ g H c.own a := by
  obtain ⟨h1, h2, h3⟩ := R.base.fresh e
  exact ⟨h1, h2, h3, R.notOwn e⟩
theorem append_any {A : Around} {E : Value → Shared → Prop} {s : Shared} {D : Addr} {its : Array Value} {n : Nat} {x : Value} {Q : Value → Shared → Prop} (ho : s.heap.get? D = some (listOf its n)) (hsz : its.size ≤ sizeLine)
    (h : ∀ h', Heap.SameBut D s.heap h' → h'.get? D = some (listOf (its.push x) (n + 1)) → Q .none { s with heap := h' }) : wpAny (model PR Γ.w) A (call (.builtin "list.append") [.ref D, x]) Q E s :=
  append_at ho h hsz
/-- the end of a comprehension -/
inductive CompDone (Γ : Gl) (c : Fm) (g : Prot) (ρ : Loc) (K : KP) (D : Value) (C : Addr) (s' : Shared) : Prop
  | mk (H' : AH) (m' : Str → Option Value) (R : Rel Γ c g ρ H' s') (n : s'.heap.Ns C m') (h : Hid Γ g H' c.own C) (k : K (er D) H') : CompDone Γ c g ρ K D C s'
/-- what stands at each turn of a comprehension -/
inductive CInv (Γ : Gl) (c : Fm) (g : Prot) (ρ : Loc) (I D C : Addr) (It : Nat → Obj → Prop) (Hc : AH → Prop) (P : List Value → List Value → AH → Prop) (xs : List Value) (n : Nat) (s' : Shared) : Prop
  | mk (i : Nat) (ys : List Value) (vs : Array Value) (m' : Str → Option Value) (o' : Obj) (H' : AH) (en : n = xs.length - i) (hi : i ≤ xs.length) (R : Rel Γ c g ρ H' s') (e : s'.heap.get? I = some o') (it : It i o') (ns : s'.heap.Ns C m')
    (eD : s'.heap.get? D = some (listOf vs vs.size)) (hys : vs.toList.map er = ys) (hvs : vs.size ≤ i) (hc : Hc H') (hI : Hid Γ g H' c.own I) (hC : Hid Γ g H' c.own C) (hD : Hid Γ g H' c.own D) (h : P (xs.drop i) ys H') : CInv Γ c g ρ I D C It Hc P xs n s'
theorem comp_block {elt iter : Expr} {x : Str} {px : Pos} {ifs : List Expr} {scope : Scope} {cl : List (Str × Addr)} {pos : Pos} {I : Addr} {oI : Obj} {xs : List Value} {It : Nat → Obj → Prop} {Hc : AH → Prop} {K : KP} {outer : Names} {RR : Value → Addr → Result → Shared → Prop} {E : Value → Shared → Prop}
    (B : Src Γ xs It Hc) (R : Rel Γ c g ρ H s) (hI : s.heap.get? I = some oI) (hit : It 0 oI) (hIh : Hid Γ g H c.own I) (hh : c.A.handled = none) (hc : Hc H) (hlen : xs.length ≤ 1000)
    (hs : c.e.scope.names = outer) (hkind : scope.kind = .function) (hcell : ∀ y ∈ scope.names, y.2 ≠ .cell)
    (hcl : ∀ n, cl.lookup n = if (n, NameKind.free) ∈ scope.names then c.e.cells.lookup n else none)
    (hfree : ∀ n, (n, NameKind.free) ∈ scope.names → (outer.lookup n = some .cell ∨ outer.lookup n = some .free) ∧ scope.names.lookup n = some .free)
    (hx : scope.names.lookup x = some .local)
    (h : CompP Γ (relabN outer scope.names) c.k c.hd x (seen scope.names ρ) ifs elt Hc K xs [] H)
    (hRR : ∀ D C s', CompDone Γ c g ρ K D C s' → RR D C (.ok .next) s') :
    wpAny (model PR Γ.w) c.A (newList []) (fun acc s₃ => wpAny (model PR Γ.w) c.A (newFunctionEnv scope c.e.globals cl [] c.e.qual none .none (some c.e)) (fun cenv s₄ =>
      codeAny (model PR Γ.w) c.A (.compStart (.ListComp elt [⟨.Name x px, iter, ifs, 0⟩] scope pos) 0 (.ref I) acc { cenv with scope := relabel scope c.e }) (RR acc cenv.locals) s₄) E s₃) E s := by
  refine wpAny_newObj_type (wpAny_newFunctionEnv hcell (by intro y hy; simp at hy) (fun h₁ hns₁ hsb₁ => ?_) hkind)
  dsimp only at hns₁ hsb₁ ⊢
  generalize hH2 : s.heap.push { cls := .type "list", dict := none, data := .seq ([] : List Value).toArray } = H2 at hns₁ hsb₁ ⊢
  have hC : H2.objs.size = s.heap.objs.size + 1 := by rw [← hH2, Heap.size_push]
  have hDC : s.heap.objs.size ≠ H2.objs.size := by rw [hC]; exact Nat.ne_of_lt (Nat.lt_succ_self _)
  have below : ∀ b, b < s.heap.objs.size → b ≠ H2.objs.size ∧ b ≠ s.heap.objs.size := fun b hb => ⟨by rw [hC]; exact Nat.ne_of_lt (Nat.lt_succ_of_lt hb), Nat.ne_of_lt hb⟩
  have old : ∀ b o, s.heap.get? b = some o → h₁.get? b = some o := fun b o e => hsb₁.extBut b o (below b (Heap.lt_size e)).1 (Heap.get?_push_of_some _ (hH2 ▸ Heap.get?_push_of_some _ e))
  have hacc : h₁.get? s.heap.objs.size = some (listOf #[] 0) := hsb₁.extBut _ _ hDC (Heap.get?_push_of_some _ (hH2 ▸ Heap.get?_push_size _ rfl))
  have fresh : ∀ a, s.heap.objs.size ≤ a → s.heap.get? a = none := fun a ha => by
    cases e : s.heap.get? a with
    | none => rfl
    | some o' => exact absurd (Heap.lt_size e) (Nat.not_lt.mpr ha)
  have hCf := fresh H2.objs.size (by rw [hC]; exact Nat.le_succ _)
  have hDh := Hid.at' R (none_size s.heap)
  have hCh := Hid.at' R hCf
  have hCI : I ≠ H2.objs.size := (below I (Heap.lt_size hI)).1
  have hDI : I ≠ s.heap.objs.size := (below I (Heap.lt_size hI)).2
  have hab : Γ.h₀.objs.size ≤ H2.objs.size := by rw [hC]; exact Nat.le_succ_of_le R.base.size
  have R₁ : Rel Γ c g ρ H { s with heap := h₁, toks := s.toks + ([] : List (Str × Value)).length } := R.grow old
  have hI₁ := old _ _ hI
  clear old fresh hCf below hsb₁
  generalize hDdef : s.heap.objs.size = D at *
  generalize hCdef : H2.objs.size = C at *
  have loop : ∀ s₃ : Shared, s₃ = { s with heap := h₁, toks := s.toks + ([] : List (Str × Value)).length } →
      codeAny (model PR Γ.w) c.A (.compLoop (.ListComp elt [⟨.Name x px, iter, ifs, 0⟩] scope pos) 0 (.ref I) (.ref D) (compEnvC scope cl C c.e)) (RR (.ref D) C) s₃ := by
    rintro s₃ rfl
    refine codeAny_compLoop_tests (CInv Γ c g ρ I D C It Hc (CompP Γ (relabN outer scope.names) c.k c.hd x (seen scope.names ρ) ifs elt Hc K) xs) ?_ xs.length
      ⟨0, [], #[], _, oI, H, rfl, Nat.zero_le _, R₁, hI₁, hit, hns₁, hacc, rfl, Nat.le_refl _, hc, hIh, hCh, hDh, h⟩
    · rintro n s' ⟨i, ys, vs, m', o', H', rfl, hi, R', e', hit', hn', eD, hys, hvs, hc', hI', hC', hD', hP⟩
      cases hxi : xs[i]? with
      | none =>
        refine B.done _ _ _ _ _ _ i _ _ hh R'.base hc' e' hit' hxi fun h' he => ?_
        have : xs.drop i = [] := List.drop_eq_nil_of_le (List.getElem?_eq_none_iff.mp hxi)
        rw [this] at hP
        have R2 := R'.hidden (tk := s'.toks) hI'.1 hI'.2.1 hI'.2.2.1 hI'.2.2.2 he
        refine hRR _ _ _ ⟨_, m', R2.enter hD'.2.2.1 hD'.1 hD'.2.1 hD'.2.2.2 (o := .list ys) ⟨vs, vs.size, he D _ (Ne.symm hDI) eD, hys⟩, hn'.extBut he (Ne.symm hCI), ⟨hC'.1, hC'.2.1, upd_none (Ne.symm hDC) hC'.2.2.1, hC'.2.2.2⟩, hP D hD'.2.2.1⟩
      | some v =>
        obtain ⟨hlt, hv⟩ := List.getElem?_eq_some_iff.mp hxi
        rw [List.drop_eq_getElem_cons hlt, hv] at hP
        refine B.item _ _ _ _ _ _ i v _ _ R'.base hc' e' hit' hxi fun u o2 h2 tk eu hit2 e2 hs2 => ?_
        have R2 := R'.hidden (tk := tk) hI'.1 hI'.2.1 hI'.2.2.1 hI'.2.2.2 hs2.extBut
        refine wpAny_assign_Name (wpAny_storeName_local (lookup_relabel_local hx) (hn'.extBut hs2.extBut (Ne.symm hCI)) (fun h3 hn3 hs3 => ?_) (by simp [compEnvC, relabel, hkind]))
        have R3 : Rel Γ c g ρ H' { s' with heap := h3, toks := tk + 1 } := R2.hidden (tk := tk + 1) hC'.1 hC'.2.1 hC'.2.2.1 hC'.2.2.2 hs3.extBut
        have e3 : h3.get? I = some o2 := hs3.extBut _ _ hCI e2
        have eD3 : h3.get? D = some (listOf vs vs.size) := hs3.extBut _ _ hDC (hs2.extBut _ _ (Ne.symm hDI) eD)
        have Ri := R3.comp (scope := scope) (cl := cl) (C := C) (x := x) (v := v) hs hkind hcl hfree hx hC' hn3 ⟨u, by simp, eu⟩ hab
        have hcs := hP (compFm c scope cl C) (relab_names hs R.fok.kind) rfl rfl
        have ho : (compFm c scope cl C).own = [C] := rfl
        -- what stands through the inner code
        have stI : ∀ {ρ4 : Loc} {H4 : AH} {s4 : Shared}, Rel Γ (compFm c scope cl C) (wide (compFm c scope cl C) H' { s' with heap := h3, toks := tk + 1 }) ρ4 H4 s4 →
            s4.heap.get? I = some o2 ∧ s4.heap.get? D = some (listOf vs vs.size) ∧ Rel Γ c g ρ H4 s4 ∧ Hid Γ g H4 c.own I ∧ Hid Γ g H4 c.own C ∧ Hid Γ g H4 c.own D ∧ ∃ m4, s4.heap.Ns C m4 := fun {ρ4 H4 s4} R4 => by
          obtain ⟨b1, b2⟩ := R3.compBack ho hC' R4
          have kp : ∀ b o, H' b = none → b ≠ C → h3.get? b = some o → ¬ IsD o → s4.heap.get? b = some o ∧ H4 b = none := fun b o h1 h2 h3' nf => by
            have w : wide (compFm c scope cl C) H' { s' with heap := h3, toks := tk + 1 } b = some o := (wide_eq h1 (by rw [ho]; simpa using h2)).trans h3'
            refine ⟨?_, ?_⟩
            · obtain ⟨sl, z, f⟩ := R4.base.kg b o w
              rcases f with f | rfl
              · exact absurd f nf
              · exact z
            · cases y : H4 b with
              | none => rfl
              | some x => rw [(R4.base.sep b x y).1] at w; cases w
          obtain ⟨kI, nI⟩ := kp I o2 hI'.2.2.1 hCI e3 (B.notFrame _ _ hit2)
          obtain ⟨kD, nD⟩ := kp D _ hD'.2.2.1 hDC eD3 (fun z => by obtain ⟨_, _, d⟩ := z; cases d)
          obtain ⟨m4, _, L4⟩ := R4.loc
          exact ⟨kI, kD, b1, ⟨hI'.1, hI'.2.1, nI, hI'.2.2.2⟩, b2, ⟨hD'.1, hD'.2.1, nD, hD'.2.2.2⟩, m4, L4.ns⟩
        have go : ∀ (b : Bool) (s4 : Shared) (H4 : AH), Rel Γ (compFm c scope cl C) (wide (compFm c scope cl C) H' { s' with heap := h3, toks := tk + 1 }) (upd (seen scope.names ρ) x v) H4 s4 →
            (if b = true then TX Γ (compFm c scope cl C) (upd (seen scope.names ρ) x v) H4 elt (fun y H2 => Hc H2 ∧ CompP Γ (relabN outer scope.names) c.k c.hd x (seen scope.names ρ) ifs elt Hc K (xs.drop (i + 1)) (ys ++ [y]) H2) nX
              else Hc H4 ∧ CompP Γ (relabN outer scope.names) c.k c.hd x (seen scope.names ρ) ifs elt Hc K (xs.drop (i + 1)) ys H4) →
            (if b = true then wpAny (model PR Γ.w) c.A (eval elt (compEnvC scope cl C c.e)) (fun x_1 s₄ =>
              wpAny (model PR Γ.w) c.A (call (.builtin "list.append") [.ref D, x_1]) (fun _ s₅ => ∃ m, m < xs.length - i ∧ CInv Γ c g ρ I D C It Hc (CompP Γ (relabN outer scope.names) c.k c.hd x (seen scope.names ρ) ifs elt Hc K) xs m s₅) (notedBy (model PR Γ.w) c.A (compEnvC scope cl C c.e) fun e s' => RR (.ref D) C (.error e) s') s₄) (notedBy (model PR Γ.w) c.A (compEnvC scope cl C c.e) fun e s' => RR (.ref D) C (.error e) s') s4
            else ∃ m, m < xs.length - i ∧ CInv Γ c g ρ I D C It Hc (CompP Γ (relabN outer scope.names) c.k c.hd x (seen scope.names ρ) ifs elt Hc K) xs m s4) := fun b s4 H4 R4 hb => by
          cases b with
          | false =>
            rw [if_neg Bool.false_ne_true] at hb ⊢
            obtain ⟨k1, k2, k3, k4, k5, k6, m4, k7⟩ := stI R4
            exact ⟨xs.length - (i + 1), by omega, i + 1, ys, vs, m4, o2, H4, rfl, hlt, k3, k1, hit2, k7, k2, hys, by omega, hb.1, k4, k5, k6, hb.2⟩
          | true =>
            rw [if_pos rfl] at hb ⊢
            refine wpAny_mono (hb _ _ R4) (fun y s5 z => ?_) fun _ _ z => (nX_no z).elim
            obtain ⟨H5, R5, hc5, hP5⟩ := z
            obtain ⟨k1, k2, k3, k4, k5, k6, m5, k7⟩ := stI R5
            refine append_any k2 (by rw [sizeLine_eq]; omega) fun h6 hs6 e6 => ?_
            exact ⟨xs.length - (i + 1), by omega, i + 1, ys ++ [er y], vs.push y, m5, o2, H5, rfl, hlt, k3.hidden (tk := s5.toks) k6.1 k6.2.1 k6.2.2.1 k6.2.2.2 hs6.extBut, hs6.extBut _ _ hDI k1, hit2, k7.sameBut hs6 (Ne.symm hDC),
              by rw [Array.size_push]; exact e6, by rw [Array.toList_push, List.map_append, hys]; rfl, by rw [Array.size_push]; omega, hc5, k4, k5, k6, hP5⟩
        cases ifs with
        | nil => exact wpAny_tests_nil (go true _ _ Ri hcs)
        | cons t r => cases r with
          | nil =>
            refine wpAny_tests_one (wpAny_mono (hcs _ _ Ri) (fun b s4 z => ?_) fun _ _ z => (nX_no z).elim)
            obtain ⟨H4, R4, hb⟩ := z
            exact go b s4 H4 R4 hb
          | cons _ _ => exact hcs.elim
  exact codeAny_compStart_list (loop _ rfl) (B.self _ _ _ _ 0 _ _ hI₁ hit (loop _ rfl))

/-- what a comprehension's names must be like -/
noncomputable def compOk (outer : Names) (scope : Scope) (x : Str) : Bool :=
  scope.kind == .function && scope.names.all (fun p => p.2 != .cell) && (scope.names.lookup x == some .local) &&
  scope.names.all (fun p => if p.2 == .free then (outer.lookup p.1 == some .cell || outer.lookup p.1 == some .free) && scope.names.lookup p.1 == some .free else if p.2 == .local then scope.names.lookup p.1 == some .local else true)
theorem compOk.of {outer : Names} {scope : Scope} {x : Str} (h : compOk outer scope x = true) : scope.kind = .function ∧ (∀ y ∈ scope.names, y.2 ≠ .cell) ∧ scope.names.lookup x = some .local ∧
    (∀ n, (n, NameKind.free) ∈ scope.names → (outer.lookup n = some .cell ∨ outer.lookup n = some .free) ∧ scope.names.lookup n = some .free) ∧ (∀ y ∈ scope.names, y.2 = .local → scope.names.lookup y.1 = some .local) := by
  unfold compOk at h
  simp only [Bool.and_eq_true, List.all_eq_true, beq_iff_eq, bne_iff_ne] at h
  obtain ⟨⟨⟨h1, h2⟩, h3⟩, h4⟩ := h
  refine ⟨h1, fun y hy => h2 y hy, h3, fun n hn => ?_, fun y hy hl => ?_⟩
  · have := h4 _ hn
    simpa using this
  · have := h4 _ hy
    rw [hl] at this
    simpa using this
theorem seen_of {scope : Scope} (h : (scope.names.all fun p => p.2 != .free || (ρ p.1).isSome) = true) : ∀ n, (n, NameKind.free) ∈ scope.names → ∃ v, ρ n = some v := fun n hn => by
  have := List.all_eq_true.mp h _ hn
  simpa [Option.isSome_iff_exists] using this
inductive kComp (Γ : Gl) (P : (AH → Prop) → List Value → AH → Prop) (v : Value) (H1 : AH) : Prop
  | mk (xs : List Value) (It : Nat → Obj → Prop) (Hc : AH → Prop) (b : Itb Γ H1 v xs It Hc) (hz : xs.length ≤ 1000) (h : P Hc xs H1) : kComp Γ P v H1
@[reducible] noncomputable def kCompP (Γ : Gl) (N : Names) (k : Nat) (hd : Bool) (x : Str) (ρ₀ : Loc) (ifs : List Expr) (elt : Expr) (K : KP) : (AH → Prop) → List Value → AH → Prop := fun Hc xs H1 => CompP Γ N k hd x ρ₀ ifs elt Hc K xs [] H1
@[reducible] noncomputable def kStore (K : KS) (ρ : Loc) (y : Str) : KP := fun v H' => K .next (upd ρ y v) H'
theorem xComp {elt iter : Expr} {x : Str} {px : Pos} {ifs : List Expr} {scope : Scope} {pos : Pos} {K : KP} {X : XP} {outer : Names} (hs : c.e.scope.names = outer) (hok : compOk outer scope x = true) (hh : c.hd = true)
    (hseen : (scope.names.all fun p => p.2 != .free || (ρ p.1).isSome) = true)
    (h : TX Γ c ρ H iter (kComp Γ (kCompP Γ (relabN outer scope.names) c.k c.hd x (seen scope.names ρ) ifs elt K)) X)
    (hf : ∀ x, foldedSetIterable iter c.e x = pure x := by intro _; rfl) : TX Γ c ρ H (.ListComp elt [⟨.Name x px, iter, ifs, 0⟩] scope pos) K X := fun g s R => by
  obtain ⟨hkind, hcell, hx, hfree, hnames⟩ := compOk.of hok
  obtain ⟨m, cm, L⟩ := R.loc
  obtain ⟨cl, hclos, hcl⟩ := closure_of (env := c.e) (scope := scope) fun n hn => by
    obtain ⟨v, hv⟩ := seen_of hseen n hn
    obtain ⟨a, _, h1, _⟩ := L.cel n v hv ((hfree n hn).1.imp (lookup_kind hs) (lookup_kind hs))
    exact ⟨a, h1⟩
  rw [eval_ListComp]
  refine wpAny_comprehension_free (use := none) rfl hf hclos hkind hnames (wpAny_mono (h g s R) (fun v s1 ⟨H1, R1, xs, It, Hc, B, hlen, hP⟩ => B.make _ g s1 v _ _ R1.base rfl fun o ho hget => ?_) fun _ _ z => z)
  have R2 : Rel Γ c g ρ H1 { s1 with heap := s1.heap.push o } := R1.grow (tk := s1.toks) fun b ob q => Heap.get?_push_of_some _ q
  refine comp_block (RR := fun acc C => compPost (model PR Γ.w) c.A (EXp Γ c g ρ X) none (PA Γ c g ρ (kEr K)) acc C) B.src R2 hget ho (Hid.at' R1 (none_size _)) (R.fok.handled hh) B.hc hlen hs hkind hcell hcl hfree hx hP ?_
  rintro D C s' ⟨H', m', R', hn, hC, k⟩
  exact ⟨m', hn, fun h' hs' => ⟨H', R'.hidden (tk := s'.toks) hC.1 hC.2.1 hC.2.2.1 hC.2.2.2 hs'.extBut, k⟩⟩
theorem sAsgComp {elt iter : Expr} {x y : Str} {px py : Pos} {ifs : List Expr} {scope : Scope} {pos spos : Pos} {K : KS} {X : XS} {outer : Names} (hs : c.e.scope.names = outer) (hok : compOk outer scope x = true) (hh : c.hd = true)
    (hy : outer.lookup y = some .local) (hyn : (scope.names.any fun p => p.1 == y && (p.2 == .local || p.2 == .cell)) = false) (hline : (py.line == pos.line) = true)
    (hseen : (scope.names.all fun p => p.2 != .free || (ρ p.1).isSome) = true)
    (h : TX Γ c ρ H iter (kComp Γ (kCompP Γ (relabN outer scope.names) c.k c.hd x (seen scope.names ρ) ifs elt (kStore K ρ y))) (xAt X ρ))
    (hf : ∀ x, foldedSetIterable iter c.e x = pure x := by intro _; rfl) : T1 Γ c ρ H (.Assign [.Name y py] (.ListComp elt [⟨.Name x px, iter, ifs, 0⟩] scope pos) spos) K X := fun g s R => by
  obtain ⟨hkind, hcell, hx, hfree, hnames⟩ := compOk.of hok
  obtain ⟨m, cm, L⟩ := R.loc
  obtain ⟨cl, hclos, hcl⟩ := closure_of (env := c.e) (scope := scope) fun n hn => by
    obtain ⟨v, hv⟩ := seen_of hseen n hn
    obtain ⟨a, _, h1, _⟩ := L.cel n v hv ((hfree n hn).1.imp (lookup_kind hs) (lookup_kind hs))
    exact ⟨a, h1⟩
  have hky := lookup_kind hs hy
  have hsw : swapsWith (.ListComp elt [⟨.Name x px, iter, ifs, 0⟩] scope pos) (some (.Name y py)) spos.line c.e = pure true := by
    have e1 : c.e.blockKind = .function := by simp [Env.blockKind, R.fok.kind, ScopeKind.isAnnotationScope]
    have e2 : (py.line == (Expr.ListComp elt [⟨.Name x px, iter, ifs, 0⟩] scope pos).pos.line) = true := hline
    unfold swapsWith
    simp only [e1, hky, e2, hyn]
    rfl
  rw [exec_Assign_Name_used _ _ _ _ hsw]
  refine wpAny_bind (wpAny_standAt (wpAny_bind ?_))
  show wpAny _ c.A (do let _ ← comprehension (.ListComp elt [⟨.Name x px, iter, ifs, 0⟩] scope pos) scope c.e _ (newList []) false (eval iter c.e) (some (assign (.Name y py) c.e))) _ _ s
  refine wpAny_bind (wpAny_mono (wpAny_comprehension_free (use := some (assign (.Name y py) c.e)) (Q := fun _ s' => PS Γ c g K .next s') rfl hf hclos hkind hnames
    (wpAny_mono (h g s R) (fun v s1 ⟨H1, R1, xs, It, Hc, B, hlen, hP⟩ => B.make _ g s1 v _ _ R1.base rfl fun o ho hget => ?_) fun _ _ z => XSp.of z fun _ _ z => z)) (fun _ s' hq => wpAny_pure (wpAny_pure hq)) fun _ _ e => e)
  have R2 : Rel Γ c g ρ H1 { s1 with heap := s1.heap.push o } := R1.grow (tk := s1.toks) fun b ob q => Heap.get?_push_of_some _ q
  refine comp_block (RR := fun acc C => compPost (model PR Γ.w) c.A (XSp Γ c g X) (some (assign (.Name y py) c.e)) (fun _ s' => PS Γ c g K .next s') acc C) B.src R2 hget ho (Hid.at' R1 (none_size _)) (R.fok.handled hh) B.hc hlen hs hkind hcell hcl hfree hx hP ?_
  rintro D C s' ⟨H', m', R', hn, hC, k⟩
  obtain ⟨m2, cm2, L2⟩ := R'.loc
  have hLC : c.e.locals ≠ C := fun e => hC.2.2.2 (e ▸ .head _)
  show wpAny _ c.A (assign (.Name y py) c.e D) _ _ _
  refine wpAny_assign_Name (wpAny_storeName_local hky L2.ns (fun h2 hn2 hs2 => ?_) (by rw [R.fok.kind]; rfl))
  have R3 := R'.storeLoc (tk := s'.toks + 1) L2 hky hn2 hs2
  refine ⟨m', hn.sameBut hs2 (Ne.symm hLC), fun h3 hs3 => ⟨_, H', R3.hidden (tk := s'.toks + 1) hC.1 hC.2.1 hC.2.2.1 hC.2.2.2 hs3.extBut, k⟩⟩
end

-- MExc
/-- only what is hidden changes, and slots of frames -/
noncomputable def Mild (Γ : Gl) (g : Prot) (H : AH) (own : List Addr) (h h' : Heap) : Prop :=
  ∀ b o, h.get? b = some o → Hid Γ g H own b ∨ ∃ sl, h'.get? b = some { o with slots := sl } ∧ (sl = o.slots ∨ (IsD o ∧ H b = none ∧ Γ.h₀.get? b = none))
section
variable {Γ : Gl} {c : Fm} {g : Prot} {ρ : Loc} {H : AH} {own : List Addr} {s : Shared} {h h' h'' : Heap} {tk : Nat}
theorem Mild.refl : Mild Γ g H own h h := fun b o e => .inr ⟨o.slots, e, .inl rfl⟩
theorem Mild.trans (x : Mild Γ g H own h h') (y : Mild Γ g H own h' h'') : Mild Γ g H own h h'' := fun b o e => by
  rcases x b o e with z | ⟨sl, z, f⟩
  · exact .inl z
  · rcases y b _ z with w | ⟨sl', w, f'⟩
    · exact .inl w
    · refine .inr ⟨sl', w, ?_⟩
      rcases f with rfl | f
      · exact f'
      · exact .inr f
theorem Mild.grow (e : ∀ b o, h.get? b = some o → h'.get? b = some o) : Mild Γ g H own h h' := fun b o q => .inr ⟨o.slots, e b o q, .inl rfl⟩
theorem Mild.but {a : Addr} (ha : Hid Γ g H own a) (e : Heap.ExtBut a h h') : Mild Γ g H own h h' := fun b o q => by
  by_cases y : b = a
  · subst y; exact .inl ha
  · exact .inr ⟨o.slots, e b o y q, .inl rfl⟩
theorem Mild.slots {S : List Addr} (hs : Heap.SlotsOnly S h h') (hS : ∀ b ∈ S, Γ.h₀.get? b = none ∧ H b = none ∧ ∃ o, h.get? b = some o ∧ IsD o) : Mild Γ g H own h h' := fun b o q => by
  by_cases y : b ∈ S
  · obtain ⟨sl, z⟩ := hs.2.2 b o q
    obtain ⟨h1, h2, o', h3, h4⟩ := hS b y
    rw [q] at h3; cases h3
    exact .inr ⟨sl, z, .inr ⟨h4, h2, h1⟩⟩
  · exact .inr ⟨o.slots, (hs.2.1 b y).trans q, .inl rfl⟩
theorem Base.mild (B : Base Γ g H s) (M : Mild Γ g H own s.heap h') : Base Γ g H { s with heap := h', toks := tk } where
  ok := B.ok
  gens := B.gens
  os := B.os
  drawn := B.drawn
  k0 := fun b o q => by
    rcases M b o (B.k0 b o q) with z | ⟨sl, z, f⟩
    · rw [z.2.1] at q; cases q
    · rcases f with rfl | ⟨_, _, f⟩
      · exact z
      · rw [f] at q; cases q
  kg := fun b o q => by
    obtain ⟨sl, z, f⟩ := B.kg b o q
    rcases M b _ z with w | ⟨sl', w, f'⟩
    · rw [w.1] at q; cases q
    · refine ⟨sl', w, ?_⟩
      rcases f with f | rfl
      · exact .inl f
      · rcases f' with rfl | f'
        · exact .inr rfl
        · exact .inl f'.1
  sees := fun a o q => Is_keep (B.sees a o q) fun ob z => by
    rcases M a _ z with w | ⟨sl', w, f'⟩
    · rw [w.2.2.1] at q; cases q
    · rcases f' with rfl | f'
      · exact w
      · rw [f'.2.1] at q; cases q
  sep := B.sep
theorem Rel.mild (R : Rel Γ c g ρ H s) (M : Mild Γ g H c.own s.heap h') : Rel Γ c g ρ H { s with heap := h', toks := tk } := by
  have st : ∀ b o, b ∈ c.own ∨ (∃ o, g b = some o) → s.heap.get? b = some o → ∃ sl, h'.get? b = some { o with slots := sl } := fun b o hb q => by
    rcases M b o q with z | ⟨sl, z, _⟩
    · rcases hb with hb | ⟨o, hb⟩
      · exact absurd hb z.2.2.2
      · rw [z.1] at hb; cases hb
    · exact ⟨sl, z⟩
  refine ⟨R.base.mild M, R.fok, ?_, fun a q => ?_, R.pro, R.abv, R.frs⟩
  · obtain ⟨m, cm, x⟩ := R.loc
    exact ⟨m, cm, ns_slots x.ns fun _ z => st _ _ (.inl (.head _)) z, fun n a q => cell_slots (x.cell n a q) fun ob z => st a _ (R.pro n a q) z, x.loc, x.cel⟩
  · obtain ⟨h1, h2, h3, h4⟩ := R.own a q
    obtain ⟨o, z⟩ := Option.isSome_iff_exists.mp h4
    obtain ⟨sl, y⟩ := st a o (.inl q) z
    exact ⟨h1, h2, h3, by show (h'.get? a).isSome = true; rw [y]; rfl⟩
/-- the frames below, as the exception machine needs them -/
noncomputable def FrNow (Γ : Gl) (H : AH) (h : Heap) (l : List Env) : Prop := ∀ e ∈ l, e.scope.kind ≠ .module ∧ ∃ L o, e.frame = some L ∧ Γ.h₀.get? L = none ∧ H L = none ∧ h.get? L = some o ∧ IsD o
theorem FrNow.fun {l : List Env} (F : FrNow Γ H h l) : h.FunFrames Γ.h₀ l := by
  induction l with
  | nil => trivial
  | cons e r ih =>
    obtain ⟨h1, L, o, h2, h3, h4, h5, es, ep, h6⟩ := F e (.head _)
    exact ⟨h1, ⟨L, o, h2, h3, h5, fun vs q => by rw [h6] at q; cases q⟩, ih fun e he => F e (.tail _ he)⟩
theorem FrNow.slots {l : List Env} (F : FrNow Γ H h l) : ∀ b ∈ l.filterMap (·.frame), Γ.h₀.get? b = none ∧ H b = none ∧ ∃ o, h.get? b = some o ∧ IsD o := fun b hb => by
  obtain ⟨e, he, hf⟩ := List.mem_filterMap.mp hb
  obtain ⟨_, L, o, h2, h3, h4, h5, h6⟩ := F e he
  rw [hf] at h2; cases h2
  exact ⟨h3, h4, o, h5, h6⟩
theorem Rel.frNow (R : Rel Γ c g ρ H s) : FrNow Γ H s.heap c.fr := fun e he => by
  obtain ⟨h1, L, h2, h3, h4⟩ := R.frs e he
  refine ⟨h1, L, ?_⟩
  rcases h4 with rfl | ⟨o, z, es, ep, d⟩
  · obtain ⟨m, cm, x⟩ := R.loc
    obtain ⟨ob, e1, e2, y1, y2, _⟩ := x.ns
    exact ⟨ob, h2, h3, (R.own _ (.head _)).2.2.1, y1, e1, e2, y2⟩
  · obtain ⟨sl, y, _⟩ := R.base.kg L o z
    refine ⟨_, h2, h3, ?_, y, es, ep, d⟩
    cases q : H L with
    | none => rfl
    | some x => rw [(R.base.sep L x q).1] at z; cases z

theorem Exc.mono {own' : List Addr} {x : Addr} {msg : Str} {fl : Value} (X : Exc Γ g H own x msg fl h) (ho : ∀ a, a ∈ own' → a ∈ own) : Exc Γ g H own' x msg fl h := by
  obtain ⟨dx, oe, vs, m, t, h1, h2, h3, h4, h5, h6, h7, h8, h9, h10⟩ := X
  have hh : ∀ a, Hid Γ g H own a → Hid Γ g H own' a := fun a ⟨a1, a2, a3, a4⟩ => ⟨a1, a2, a3, fun q => a4 (ho a q)⟩
  refine ⟨dx, oe, vs, m, t, h1, h2, h3, h4, h5, h6, h7, hh _ h8, hh _ h9, h10.imp id ?_⟩
  rintro ⟨T, oT, ts, a1, a2, a3, a4, a5, a6⟩
  exact ⟨T, oT, ts, a1, a2, a3, a4, a5, hh _ a6⟩
/-- slots alone, and new objects -/
theorem Exc.like {x : Addr} {msg : Str} {fl : Value} (X : Exc Γ g H own x msg fl h) (k : ∀ b o, h.get? b = some o → ∃ sl, h'.get? b = some { o with slots := sl }) : Exc Γ g H own x msg fl h' := by
  obtain ⟨dx, oe, vs, m, t, h1, h2, h3, h4, h5, h6, h7, h8, h9, h10⟩ := X
  obtain ⟨sl, k1⟩ := k _ _ h1
  refine ⟨dx, _, vs, m, t, k1, h2, h3, h4, h5, ns_slots h6 fun ob z => k _ _ z, h7, h8, h9, h10.imp id ?_⟩
  rintro ⟨T, oT, ts, a1, a2, a3, a4, a5, a6⟩
  obtain ⟨sl', k2⟩ := k _ _ a3
  exact ⟨T, _, ts, a1, a2, k2, a4, a5, a6⟩
theorem lt1 {vs : Array Value} {v : Value} (h : vs[2]? = some v) : 1 < vs.size := Nat.lt_of_succ_lt (Array.getElem?_eq_some_iff.mp h).1
theorem mapFields_dict (o : Obj) (f) : (o.mapFields f).dict = o.dict := by
  obtain ⟨c, d, dt, sl⟩ := o; cases dt <;> rfl
/-- a new traceback at x -/
theorem Exc.newTb {x T : Addr} {msg : Str} {fl fl' : Value} {ts : Array Value} (X : Exc Γ g H own x msg fl h) (hT : T ≠ x) (hTH : Hid Γ g H own T) (hg : h.get? T = some { cls := .type "traceback", data := .fields ts }) (h3 : ts[3]? = some fl') :
    Exc Γ g H own x msg fl' (h.update x (Obj.mapFields (·.setIfInBounds 1 (.ref T)))) := by
  obtain ⟨dx, oe, vs, m, t, e1, e2, e3, e4, e5, e6, e7, e8, e9, e10⟩ := X
  have hd := Obj.data_mapFields e4 (·.setIfInBounds 1 (Value.ref T))
  have hne : dx ≠ x := by
    rintro rfl
    obtain ⟨o, es, ep, z1, z2, _⟩ := e6
    rw [e1] at z1; cases z1; rw [e4] at z2; cases z2
  refine ⟨dx, _, _, m, t, Heap.get?_update_self (Obj.mapFields (·.setIfInBounds 1 (.ref T))) e1 (Obj.isFreed_of_fields hd), (Obj.cls_mapFields ..).trans e2, (mapFields_dict ..).trans e3, hd, by simpa using e5, ?_, e7, e8, e9,
    .inr ⟨T, _, ts, by simp [lt1 e5], hT, (Heap.get?_update_other _ _ (Ne.symm hT)).trans hg, rfl, h3, hTH⟩⟩
  exact ns_slots e6 fun ob z => ⟨ob.slots, (Heap.get?_update_other _ _ (Ne.symm hne)).trans z⟩
/-- the traceback's third field -/
theorem Exc.flight {x : Addr} {msg : Str} {fl fl' : Value} (X : Exc Γ g H own x msg fl h) : ∃ oe vs, h.get? x = some oe ∧ oe.data = .fields vs ∧ (vs[1]? = some .none ∨ ∃ T oT ts, vs[1]? = some (.ref T) ∧ h.get? T = some oT ∧ oT.data = .fields ts ∧ ts[3]? = some fl ∧ Hid Γ g H own T ∧ T ≠ x ∧
    Exc Γ g H own x msg fl' (h.update T (Obj.mapFields (·.setIfInBounds 3 fl')))) := by
  obtain ⟨dx, oe, vs, m, t, e1, e2, e3, e4, e5, e6, e7, e8, e9, e10⟩ := X
  refine ⟨oe, vs, e1, e4, e10.imp id ?_⟩
  rintro ⟨T, oT, ts, a1, a2, a3, a4, a5, a6⟩
  have hd := Obj.data_mapFields a4 (·.setIfInBounds 3 fl')
  have hne : dx ≠ T := by
    rintro rfl
    obtain ⟨o, es, ep, z1, z2, _⟩ := e6
    rw [a3] at z1; cases z1; rw [a4] at z2; cases z2
  have h3 := (Array.getElem?_eq_some_iff.mp a5).1
  refine ⟨T, oT, ts, a1, a3, a4, a5, a6, a2, dx, oe, vs, m, t, (Heap.get?_update_other _ _ a2).trans e1, e2, e3, e4, e5, ns_slots e6 fun ob z => ⟨ob.slots, (Heap.get?_update_other _ _ (Ne.symm hne)).trans z⟩, e7, e8, e9,
    .inr ⟨T, _, _, a1, a2, Heap.get?_update_self (Obj.mapFields (·.setIfInBounds 3 fl')) a3 (Obj.isFreed_of_fields hd), hd, by simp [h3], a6⟩⟩

section
variable {A : Around} {E : Value → Shared → Prop} {env : Env} {outer : List Env} {x L : Addr} {msg : Str} {fl : Value}
theorem setFlight_exc {Q : Unit → Shared → Prop} (X : Exc Γ g H own x msg fl s.heap) (hQ : ∀ h', Mild Γ g H own s.heap h' → Exc Γ g H own x msg .none h' → Q () { s with heap := h' }) : wpAny (model PR Γ.w) A (setFlight (.ref x) none) Q E s := by
  obtain ⟨oe, vs, e1, e2, e3⟩ := X.flight (fl' := .none)
  unfold setFlight
  rcases e3 with e3 | ⟨T, oT, ts, a1, a2, a3, a4, a5, a6, a7⟩
  · refine wpAny_bind (wpAny_field e1 e2 e3 ?_)
    rw [if_neg (by decide)]
    refine wpAny_pure (hQ s.heap .refl ?_)
    obtain ⟨dx, oe', vs', m, t, b1, b2, b3, b4, b5, b6, b7, b8, b9, b10⟩ := X
    rw [e1] at b1; cases b1; rw [e2] at b4; cases b4
    exact ⟨dx, oe, vs, m, t, e1, b2, b3, e2, b5, b6, b7, b8, b9, .inl e3⟩
  · refine wpAny_bind (wpAny_field e1 e2 a1 ?_)
    rw [if_pos (show (Value.ref T != Value.none) = true from by simp)]
    exact wpAny_setField a2 a3 (Array.getElem?_eq_some_iff.mp a4).1 (hQ _ (Mild.but a5 (Heap.SameBut.update ..).extBut) a7)
theorem noteFrame_exc {Q : Unit → Shared → Prop} (hfr : A.frames = some (env :: outer)) (F : FrNow Γ H s.heap (env :: outer)) (hf : env.frame = some L) (hfresh : ∀ a, (∀ o, s.heap.get? a ≠ some o) → Hid Γ g H own a)
    (X : Exc Γ g H own x msg .none s.heap) (hQ : ∀ h', Mild Γ g H own s.heap h' → Exc Γ g H own x msg (rawInt L) h' → Q () { s with heap := h' }) : wpAny (model PR Γ.w) A (noteFrame (.ref x) env) Q E s := by
  unfold noteFrame
  simp only [hf]
  -- the new entry
  have go : ∀ (head : Value) (hn : Bool) (s₁ : Shared) (fl₁ : Value), FrNow Γ H s₁.heap (env :: outer) → (∀ b o, s.heap.get? b = some o → ∃ o', s₁.heap.get? b = some o') → Exc Γ g H own x msg fl₁ s₁.heap →
      (∀ h', Mild Γ g H own s₁.heap h' → Exc Γ g H own x msg (rawInt L) h' → Q () { s₁ with heap := h' }) →
      wpAny (model PR Γ.w) A (do let a ← frameOf env; let pl ← entryPlaceOf L hn; let b ← EntryCells.newEntry head a .none (rawInt L) .none pl; setField (.ref x) 1 b) Q E s₁ := by
    intro head hn s₁ fl₁ F₁ hst X₁ hQ₁
    refine wpAny_bind (wpAny_frameOf_fun hfr F₁.fun hf fun h₁ hs₁ => ?_)
    refine wpAny_bind (wpAny_entryPlaceOf fun pl hpl => ?_)
    unfold EntryCells.newEntry newFields
    refine wpAny_bind (wpAny_newObj_type ?_ (hpl.sizeOk5 _ _ _ _ _))
    have X₂ : Exc Γ g H own x msg fl₁ h₁ := X₁.like hs₁.2.2
    have X₃ : Exc Γ g H own x msg fl₁ (h₁.push { cls := .type "traceback", dict := none, data := .fields ([head, .ref L, .none, rawInt L, .none] ++ (if pl.isEmpty then List.replicate 6 Value.none else pl)).toArray }) :=
      X₂.like fun b o e => ⟨o.slots, Heap.get?_push_of_some _ e⟩
    obtain ⟨oe, vs, e1, e2, _⟩ := X₃.flight (fl' := .none)
    have hx : x ≠ h₁.objs.size := by
      obtain ⟨_, _, e1, _⟩ := X₂.flight (fl' := .none)
      exact Nat.ne_of_lt (Heap.lt_size e1)
    have hTH : Hid Γ g H own h₁.objs.size := hfresh _ fun o q => by
      obtain ⟨o', q'⟩ := hst _ _ q
      obtain ⟨sl, q2⟩ := hs₁.2.2 _ _ q'
      exact Nat.lt_irrefl _ (Heap.lt_size q2)
    obtain ⟨dx, oe', vs', m, t, b1, b2, b3, b4, b5, b6, b7, b8, b9, b10⟩ := id X₃
    refine wpAny_setField b1 b4 (lt1 b5) (hQ₁ _ ?_ (X₃.newTb (Ne.symm hx) hTH (Heap.get?_push_size _ rfl) (by first | (simp; done) | (rcases hpl with rfl | ⟨_, _, _, _, _, _, _, rfl⟩ <;> simp))))
    exact ((Mild.slots hs₁ F₁.slots).trans (Mild.grow fun b o e => Heap.get?_push_of_some _ e)).trans (Mild.but b8 (Heap.SameBut.update ..).extBut)
  obtain ⟨oe, vs, e1, e2, e3⟩ := X.flight (fl' := .none)
  rcases e3 with e3 | ⟨T, oT, ts, a1, a2, a3, a4, a5, a6, a7⟩
  · refine wpAny_bind (wpAny_field e1 e2 e3 ?_)
    rw [if_neg (by decide)]
    exact go _ _ s .none F (fun b o q => ⟨o, q⟩) X hQ
  · refine wpAny_bind (wpAny_field e1 e2 a1 ?_)
    rw [if_pos (show (Value.ref T != Value.none) = true from by simp)]
    refine wpAny_bind (wpAny_field a2 a3 a4 ?_)
    rw [if_neg (show ¬ ((Value.none == rawInt L) = true) from by simp [rawInt])]
    refine wpAny_bind (wpAny_setField a2 a3 (Array.getElem?_eq_some_iff.mp a4).1 ?_)
    have other : ∀ b, b ≠ T → (s.heap.update T (Obj.mapFields (·.setIfInBounds 3 Value.none))).get? b = s.heap.get? b := fun b hb => Heap.get?_update_other _ _ (Ne.symm hb)
    refine go _ _ _ .none ?_ ?_ a7 fun h' M X' => hQ h' ((Mild.but a5 (Heap.SameBut.update ..).extBut).trans M) X'
    · intro e he
      obtain ⟨h1, L', o, h2, h3, h4, h5, es, ep, h6⟩ := F e he
      have hLT : L' ≠ T := by rintro rfl; rw [a2] at h5; cases h5; rw [a3] at h6; cases h6
      exact ⟨h1, L', o, h2, h3, h4, (other _ hLT).trans h5, es, ep, h6⟩
    · intro b o q
      by_cases hb : b = T
      · subst hb; exact ⟨_, Heap.get?_update_self (Obj.mapFields (·.setIfInBounds 3 Value.none)) a2 (Obj.isFreed_of_fields (Obj.data_mapFields a3 _))⟩
      · exact ⟨o, (other b hb).trans q⟩
theorem Base.hid (B : Base Γ g H s) {a : Addr} (e : ∀ o, s.heap.get? a ≠ some o) : Hid Γ g H [] a := by
  have : s.heap.get? a = none := by
    cases q : s.heap.get? a with
    | none => rfl
    | some o => exact absurd q (e o)
  obtain ⟨h1, h2, h3⟩ := B.fresh this
  exact ⟨h1, h2, h3, fun q => by cases q⟩
theorem leaving_exc {Q : Unit → Shared → Prop} (R : Rel Γ c g ρ H s) (hfr : c.fr = c.e :: outer) (hf : c.e.frame = some L) (X : Exc Γ g H c.own x msg .none s.heap)
    (hQ : ∀ h', Base Γ g H { s with heap := h' } → Exc Γ g H [] x msg .none h' → Q () { s with heap := h' }) : wpAny (model PR Γ.w) c.A (leaving c.e (.ref x)) Q E s := by
  have hA : c.A.frames = some (c.e :: outer) := hfr ▸ R.fok.frames
  unfold leaving
  refine wpAny_bind (noteFrame_exc hA (hfr ▸ R.frNow) hf (fun a => R.base.hid) (X.mono fun a q => by cases q) fun h₁ M₁ X₁ => ?_)
  refine setFlight_exc X₁ fun h₂ M₂ X₂ => hQ h₂ (R.base.mild (tk := s.toks) (M₁.trans M₂)) X₂
end
end

-- MCall
noncomputable def FEnd (Γ : Gl) (g : Prot) (K : KP) (X : XP) (r : Result) (s' : Shared) : Prop :=
  match r with
  | .ok f => ∃ v H', f = .ret v ∧ Base Γ g H' s' ∧ K (er v) H'
  | .error e => ∃ x msg H', e = .ref x ∧ Base Γ g H' s' ∧ Exc Γ g H' [] x msg .none s'.heap ∧ X msg H'
/-- what a call of the function at fa does -/
noncomputable def FS (Γ : Gl) (k : Nat) (fa : Addr) (H : AH) (args : List Value) (K : KP) (X : XP) : Prop :=
  ∀ A fr g s vals, vals.map er = args → Room A k → A.handled = none → A.frames = some fr → FrOK Γ fr g → Base Γ g H s → codeAny (model PR Γ.w) A (.call (.ref fa) ⟨vals, []⟩) (FEnd Γ g K X) s
/-- a function's body's end -/
noncomputable def RetK (K : KP) : KS := fun f _ H' => match f with
  | .ret v => K v H'
  | .next => K .none H'
  | _ => False

theorem Room.mono {A : Around} {k k' : Nat} (h : Room A k) (hk : k' ≤ k) : Room A k' := by
  unfold Room at *; omega
section
variable {Γ : Gl} {c : Fm} {g : Prot} {ρ : Loc} {H : AH} {s : Shared} {K : KP} {X : XP} {k : Nat} {fa : Addr} {vs : List Value}
theorem FS.mono {K' : KP} {X' : XP} (h : FS Γ k fa H vs K X) (hK : ∀ v H', K v H' → K' v H') (hX : ∀ m H', X m H' → X' m H') : FS Γ k fa H vs K' X' :=
  fun A fr g s vals h1 h2 h3 h4 h5 h6 => codeAny_mono (h A fr g s vals h1 h2 h3 h4 h5 h6) fun r s' hr => by
    cases r with
    | ok f => obtain ⟨v, H', e1, e2, e3⟩ := hr; exact ⟨v, H', e1, e2, hK _ _ e3⟩
    | error e => obtain ⟨x, m, H', e1, e2, e3, e4⟩ := hr; exact ⟨x, m, H', e1, e2, e3, hX _ _ e4⟩
theorem Rel.outHid (R : Rel Γ c g ρ H s) {H' : AH} {a : Addr} (h : Hid Γ (wideAll H s) H' [] a) : Hid Γ g H' c.own a := by
  obtain ⟨h1, h2, h3, _⟩ := h
  have key : ∀ o, H a = none → s.heap.get? a ≠ some o := fun o hn q => by rw [wideAll_eq hn, q] at h1; cases h1
  refine ⟨?_, h2, h3, fun q => ?_⟩
  · cases q : g a with
    | none => rfl
    | some o =>
      have hn : H a = none := by
        cases y : H a with
        | none => rfl
        | some x => rw [(R.base.sep a x y).1] at q; cases q
      obtain ⟨sl, z, _⟩ := R.base.kg a o q
      exact absurd z (key _ hn)
  · obtain ⟨_, _, hn, hs⟩ := R.own a q
    obtain ⟨o, z⟩ := Option.isSome_iff_exists.mp hs
    exact absurd z (key _ hn)
theorem Rel.outExc (R : Rel Γ c g ρ H s) {H' : AH} {x : Addr} {msg : Str} {fl : Value} {h : Heap} (X : Exc Γ (wideAll H s) H' [] x msg fl h) : Exc Γ g H' c.own x msg fl h := by
  obtain ⟨dx, oe, vs, m, t, e1, e2, e3, e4, e5, e6, e7, e8, e9, e10⟩ := X
  refine ⟨dx, oe, vs, m, t, e1, e2, e3, e4, e5, e6, e7, R.outHid e8, R.outHid e9, e10.imp id ?_⟩
  rintro ⟨T, oT, ts, a1, a2, a3, a4, a5, a6⟩
  exact ⟨T, oT, ts, a1, a2, a3, a4, a5, R.outHid a6⟩
theorem FS.te (h : FS Γ k fa H vs K X) (hk : k ≤ c.k) (hh : c.hd = true) {ws : List Value} (hw : ws.map er = vs) : TE Γ c ρ H (call (.ref fa) ws) K X := fun g s R => by
  refine wpAny_call (codeAny_mono (h c.A c.fr (wideAll H s) s ws hw (R.fok.room.mono hk) (R.fok.handled hh) R.fok.frames R.out.2 R.out.1) fun r s' hr => ?_)
  cases r with
  | ok f => obtain ⟨v, H', rfl, B, e⟩ := hr; exact ⟨H', R.back B, e⟩
  | error e => obtain ⟨x, m, H', rfl, B, e1, e2⟩ := hr; exact ⟨x, m, H', rfl, R.back B, R.outExc e1, e2⟩
theorem FS.cal (h : FS Γ k fa H vs K X) (hk : k ≤ c.k) (hh : c.hd = true) (kept : keepIn (KK Γ.w) (.ref fa) = true) : Cal Γ c ρ H (.ref fa) vs K X :=
  ⟨.inr (.inr kept), fun ws hw => h.te hk hh hw⟩

/-! entering -/
theorem bindL_off {kd : Str → Option NameKind} : ∀ {bs : List (Str × Value)} {m : Str → Option Value} {x : Str}, x ∉ bs.map (·.1) → bindL kd bs m x = m x
  | [], _, _, _ => rfl
  | (n, v) :: r, m, x, h => by
    rw [List.map_cons, List.mem_cons, not_or] at h
    unfold bindL
    rw [bindL_off h.2]
    split
    · exact if_neg h.1
    · rfl
theorem bindL_at {kd : Str → Option NameKind} : ∀ {bs : List (Str × Value)} {m : Str → Option Value} {x : Str} {v : Value}, (bs.map (·.1)).Nodup → kd x = some .local → bs.lookup x = some v → bindL kd bs m x = some v
  | (n, u) :: r, m, x, v, hn, hk, h => by
    rw [List.map_cons, List.nodup_cons] at hn
    unfold bindL
    rw [List.lookup_cons] at h
    cases hx : x == n with
    | true =>
      rw [hx] at h; cases h
      have e : x = n := by simpa using hx
      subst e
      rw [if_pos hk, bindL_off hn.1]; simp
    | false =>
      rw [hx] at h
      exact bindL_at hn.2 hk h
theorem bindC_off {kd : Str → Option NameKind} : ∀ {bs : List (Str × Value)} {m : Str → Option Value} {x : Str}, x ∉ bs.map (·.1) → bindC kd bs m x = m x
  | [], _, _, _ => rfl
  | (n, v) :: r, m, x, h => by
    rw [List.map_cons, List.mem_cons, not_or] at h
    unfold bindC
    rw [bindC_off h.2]
    split
    · rfl
    · exact if_neg h.1
theorem bindC_at {kd : Str → Option NameKind} : ∀ {bs : List (Str × Value)} {m : Str → Option Value} {x : Str} {v : Value}, (bs.map (·.1)).Nodup → kd x ≠ some .local → bs.lookup x = some v → bindC kd bs m x = some v
  | (n, u) :: r, m, x, v, hn, hk, h => by
    rw [List.map_cons, List.nodup_cons] at hn
    unfold bindC
    rw [List.lookup_cons] at h
    cases hx : x == n with
    | true =>
      rw [hx] at h; cases h
      have e : x = n := by simpa using hx
      subst e
      rw [if_neg hk, bindC_off hn.1]; simp
    | false =>
      rw [hx] at h
      exact bindC_at hn.2 hk h
theorem cellsFrom_has : ∀ {names : Names} {n : Nat} {acc : List (Str × Addr)} {x : Str}, (names.lookup x = some .cell ∨ (acc.lookup x).isSome) → ((cellsFrom n names acc).lookup x).isSome
  | [], _, _, _, h => by
    rcases h with h | h
    · cases h
    · exact h
  | (m, kd) :: r, n, acc, x, h => by
    unfold cellsFrom
    rw [List.lookup_cons] at h
    cases hx : x == m with
    | true =>
      rw [hx] at h
      have e : x = m := by simpa using hx
      subst e
      split
      · exact cellsFrom_has (.inr (by simp))
      · rename_i hc
        rcases h with h | h
        · simp at h; subst h; simp at hc
        · exact cellsFrom_has (.inr h)
    | false =>
      rw [hx] at h
      split
      · exact cellsFrom_has (h.imp id fun h => by rw [List.lookup_cons, hx]; exact h)
      · exact cellsFrom_has h
theorem lookup_zip : ∀ {ps : List Str} {vs : List Value} {x : Str} {v : Value}, (ps.zip (vs.map er)).lookup x = some v → ∃ u, (ps.zip vs).lookup x = some u ∧ er u = v
  | [], _, _, _, h => by cases h
  | _ :: _, [], _, _, h => by cases h
  | p :: ps, u :: vs, x, v, h => by
    rw [List.map_cons, List.zip_cons_cons, List.lookup_cons] at h
    rw [List.zip_cons_cons, List.lookup_cons]
    cases hx : x == p with
    | true => rw [hx] at h; cases h; exact ⟨u, rfl, rfl⟩
    | false => rw [hx] at h; exact lookup_zip h

/-- what must hold of a function's header -/
structure FnOk (w : World) (fd : FuncData) (ps : List Str) : Prop where
  glob : fd.globals = mainGlobals
  bui : fd.builtins = builtinsNs
  clo : fd.closure = []
  code : codeIn (KK w) fd.code fd.qualname = true
  kind : fd.scope.kind = .function
  co : fd.scope.isCoroutine = false
  gen : fd.scope.isGenerator = false
  kinds : ∀ p ∈ ps, fd.scope.names.lookup p = some .local ∨ fd.scope.names.lookup p = some .cell
  nodup : ps.Nodup
  cells : ((cellsFrom 0 fd.scope.names []).map (·.1)).Nodup

/-- the frame that a call lays -/
structure LaidF (c : Fm) (names : Names) (k : Nat) : Prop where
  nm : c.e.scope.names = names
  k : c.k = k
  hd : c.hd = true
  cell : ∀ x, names.lookup x = some .cell → c.Celled x
  fr : ∃ outer, c.fr = c.e :: outer
  frame : c.e.frame = some c.e.locals
theorem FS.enter {fd : FuncData} {oc : Value} {od : Option Addr} {osl} {ps : List Str} {dv : List Value} {body : List Stmt} {names : Names} (ho : (KK Γ.w).lookup fa = some ⟨oc, od, .func fd, osl⟩) (hok : FnOk Γ.w fd ps) (hbody : fd.body = .stmts body) (hnames : fd.scope.names = names)
    (hbind : ∀ s vals, (KK Γ.w).In s.heap → vals.length = vs.length → BindsTo s fd ⟨vals, []⟩ (ps.zip (vals ++ dv))) (hlen : vs.length + dv.length = ps.length)
    (h : ∀ (c : Fm) (Q : KP), (∀ v ρ' H', K v H' → RetK Q (.ret v) ρ' H') → (∀ (ρ' : Loc) H', K .none H' → RetK Q .next ρ' H') → LaidF c names k → TB Γ c (fun x => (ps.zip (vs ++ dv.map er)).lookup x) H body (RetK Q) (fun m _ H' => X m H')) : FS Γ (k + 1) fa H vs K X := by
  intro A fr g s vals hv hroom hh hfr hF B
  have hl : vals.length = vs.length := by rw [← hv, List.length_map]
  have hK : (KK Γ.w).In s.heap := B.ok.k.keeps B.k0
  have hkeys : (ps.zip (vals ++ dv)).map (·.1) = ps := List.map_fst_zip (by rw [List.length_append]; omega)
  refine codeAny_call_function (Nat.lt_of_le_of_lt (Nat.le_add_right _ _) hroom.1) (hK _ _ ho) rfl hok.co hok.gen hbody (codeRec_of hK hok.code) (hbind s vals hK hl _ _ _ _ ?_)
  rw [hok.clo]
  have hmem : ∀ x ∈ ps.zip (vals ++ dv), x.1 ∈ ps := fun x hx => hkeys ▸ List.mem_map_of_mem hx
  refine wpAny_newFunctionEnv_cells hok.kind (fun x hx => (hok.kinds _ (hmem x hx)).imp id fun e => ⟨e, cellsFrom_has (.inl e)⟩) fun env he s1 x => ?_
  have hnd := hok.cells
  have hlocals : env.locals = s.heap.objs.size := by rw [he]; rfl
  have hcells : env.cells = cellsFrom (s.heap.objs.size + 1) fd.scope.names [] := by rw [he]; rfl
  have hscope : env.scope = fd.scope := by rw [he]; rfl
  have hframe : env.frame = some env.locals := by rw [he]; rfl
  have hglob : env.globals = mainGlobals := by rw [he]; exact hok.glob
  have hbui : env.builtins = builtinsNs := by rw [he]; exact hok.bui
  clear he
  have hnd' : (env.cells.map (·.1)).Nodup := by rw [hcells, cellsFrom_names fd.scope.names (s.heap.objs.size + 1) 0 [] [] rfl]; exact hnd
  refine ⟨(B.ok.nolimit.keeps B.k0).keeps x.toInCall.keep, codeAny_func ?_⟩
  obtain ⟨h1, tk, e1, hkeep⟩ := x.done
  let c : Fm := { A := A.deeper env, e := env, fn := true, fr := env :: fr, k := k, hd := true }
  have R : Rel Γ c g (fun x => (ps.zip (vs ++ dv.map er)).lookup x) H s1 := by
    have fresh : ∀ a, s.heap.objs.size ≤ a → g a = none ∧ Γ.h₀.get? a = none ∧ H a = none := fun a ha => by
      refine B.fresh ?_
      cases q : s.heap.get? a with
      | none => rfl
      | some o => exact absurd (Heap.lt_size q) (Nat.not_lt.mpr ha)
    refine ⟨?_, ⟨?_, hglob, hbui, fun _ => x.apart, fun n a q => Nat.ne_of_gt (x.above n a (mem_of_lookup q)), ?_, Around.frames_deeper hfr, fun _ => hh⟩, ⟨_, _, x.toInCall.ns, x.cell, ?_, ?_⟩, ?_, ?_, ?_, ?_⟩
    · rw [e1]; exact B.grow hkeep
    · show env.scope.kind = .function; rw [hscope]; exact hok.kind
    · unfold Room at hroom ⊢
      show A.depth + 1 + 2 * k < _ ∧ A.units + 3 + 20 * k + 20 < _
      omega
    · intro y v hy hk'
      rw [← hv, ← List.map_append] at hy
      obtain ⟨u, hu, eu⟩ := lookup_zip hy
      exact ⟨u, bindL_at (by rw [hkeys]; exact hok.nodup) hk' hu, eu⟩
    · intro y v hy hk'
      rw [← hv, ← List.map_append] at hy
      obtain ⟨u, hu, eu⟩ := lookup_zip hy
      have hk2 : env.kindOf y = some .cell := by
        rcases hk' with e | e
        · exact e
        · have := hok.kinds y (hmem _ (mem_of_lookup hu))
          have e' : fd.scope.names.lookup y = some .free := by rw [← hscope]; exact e
          rw [e'] at this
          rcases this with z | z <;> cases z
      obtain ⟨a, ha⟩ := Option.isSome_iff_exists.mp (cellsFrom_has (names := fd.scope.names) (x := y) (n := s.heap.objs.size + 1) (acc := []) (.inl (by rw [← hscope]; exact hk2)))
      exact ⟨a, u, by rw [hcells]; exact ha, bindC_at (by rw [hkeys]; exact hok.nodup) (by show env.kindOf y ≠ _; rw [hk2]; simp) hu, eu⟩
    · intro a ha
      have ha' : a = env.locals ∨ ∃ n, (n, a) ∈ env.cells := by
        rcases List.mem_cons.mp ha with e | e
        · exact .inl e
        · obtain ⟨p, hp, e⟩ := List.mem_map.mp (show a ∈ env.cells.map (·.2) from e)
          exact .inr ⟨p.1, e ▸ hp⟩
      have hge : s.heap.objs.size ≤ a := by
        rcases ha' with e | ⟨n, e⟩
        · rw [e]; exact x.toInCall.fresh
        · exact Nat.le_trans x.toInCall.fresh (Nat.le_of_lt (x.above n a e))
      obtain ⟨h1', h2', h3'⟩ := fresh a hge
      refine ⟨h1', h2', h3', ?_⟩
      rcases ha' with e | ⟨n, e⟩
      · obtain ⟨o, _, _, z, _⟩ := x.toInCall.ns; rw [e, z]; rfl
      · obtain ⟨o, z, _⟩ := x.cell n a (lookup_of_mem_nodup hnd' e); rw [z]; rfl
    · exact fun n a q => .inl (.tail _ (List.mem_map.mpr ⟨(n, a), mem_of_lookup q, rfl⟩))
    · exact Nat.le_trans B.size x.toInCall.fresh
    · intro e he
      rcases List.mem_cons.mp he with rfl | he
      · refine ⟨by rw [hscope, hok.kind]; simp, _, hframe, ?_, .inl rfl⟩
        exact (fresh _ x.toInCall.fresh).2.1
      · obtain ⟨f1, L, f2, f3, f4⟩ := hF e he
        exact ⟨f1, L, f2, f3, .inr f4⟩
  have hL : LaidF c names k := ⟨by show env.scope.names = _; rw [hscope]; exact hnames, rfl, rfl, fun y hy => by
    obtain ⟨a, ha⟩ := Option.isSome_iff_exists.mp (cellsFrom_has (names := fd.scope.names) (x := y) (n := s.heap.objs.size + 1) (acc := []) (.inl (hnames ▸ hy)))
    exact ⟨a, by show env.cells.lookup y = _; rw [hcells]; exact ha, .tail _ (List.mem_map.mpr ⟨(y, a), mem_of_lookup (by show env.cells.lookup y = _; rw [hcells]; exact ha), rfl⟩)⟩, ⟨fr, rfl⟩, hframe⟩
  refine wpAny_mono (h c K (fun _ _ _ z => z) (fun _ _ z => z) hL g s1 R) (fun f s' ⟨ρ', H', R', k'⟩ => ?_) fun e s' he => ?_
  · cases f with
    | next => exact ⟨.none, H', rfl, R'.base, k'⟩
    | ret v => exact ⟨v, H', rfl, R'.base, k'⟩
    | brk => exact k'.elim
    | cont => exact k'.elim
  · obtain ⟨xe, msg, ρ', H', rfl, R', X', k'⟩ := he
    exact leaving_exc R' rfl hframe X' fun h' B' X'' => ⟨xe, msg, H', rfl, B', X'', k'⟩

theorem binds0 {fd : FuncData} (h : bindArgs fd ⟨[], []⟩ = pure []) : ∀ (s : Shared) (vals : List Value), (KK Γ.w).In s.heap → vals.length = 0 → BindsTo s fd ⟨vals, []⟩ (([] : List Str).zip (vals ++ [])) := fun s vals _ hl => by
  obtain rfl := List.eq_nil_of_length_eq_zero hl
  exact .of_eq h
end

-- MInst
theorem Ext.upd' {H H' : AH} {a : Addr} {o : AO} (x : Ext H H') (hn : H a = none) : Ext H (Mine.upd H' a o) := fun b p q => by
  rw [upd_ne (by rintro rfl; rw [hn] at q; cases q)]; exact x b p q
theorem handedIn_er {v : Value} (h : handedIn (er v) = true) : handedIn v = true := by cases v <;> first | rfl | exact h
noncomputable def nsPut (name : Str) (v : Value) : List (Str × Value) → List (Str × Value)
  | [] => [(name, v)]
  | p :: r => if p.1 = name then (name, v) :: r else p :: nsPut name v r
noncomputable def nsMap (ds : List DictEntry) (es : List (Str × Value)) : Prop := ds.map (fun e => (er e.key, er e.val)) = es.map fun p => (Value.str p.1 0, p.2)
theorem nsMap.get {name : Str} {v : Value} : ∀ {ds : List DictEntry} {es : List (Str × Value)}, nsMap ds es → es.lookup name = some v → ∃ e, ds.find? (·.key.isStr name) = some e ∧ er e.val = v
  | [], [], _, h => by cases h
  | [], _ :: _, h, _ => by cases h
  | _ :: _, [], h, _ => by cases h
  | d :: ds, p :: es, h, hl => by
    unfold nsMap at h
    rw [List.map_cons, List.map_cons, List.cons.injEq, Prod.mk.injEq] at h
    obtain ⟨⟨hk, hv⟩, hr⟩ := h
    obtain ⟨t, hk⟩ := er_str hk
    rw [List.lookup_cons] at hl
    have e1 : d.key.isStr name = (p.1 == name) := by rw [hk]; rfl
    cases hx : name == p.1 with
    | true =>
      rw [hx] at hl; cases hl
      have e : name = p.1 := by simpa using hx
      refine ⟨d, ?_, hv⟩
      rw [List.find?_cons, e1, e, beq_self_eq_true]
    | false =>
      rw [hx] at hl
      obtain ⟨e, h1, h2⟩ := nsMap.get (es := es) hr hl
      refine ⟨e, ?_, h2⟩
      rw [List.find?_cons, e1, show (p.1 == name) = false from by rw [beq_eq_false_iff_ne] at hx ⊢; exact Ne.symm hx]
      exact h1
theorem nsMap.noRef : ∀ {ds : List DictEntry} {es : List (Str × Value)}, nsMap ds es → ds.any (·.refKey) = false
  | [], _, _ => rfl
  | _ :: _, [], h => by cases h
  | d :: ds, p :: es, h => by
    unfold nsMap at h
    rw [List.map_cons, List.map_cons, List.cons.injEq, Prod.mk.injEq] at h
    obtain ⟨⟨hk, hv⟩, hr⟩ := h
    obtain ⟨t, hk⟩ := er_str hk
    rw [List.any_cons, nsMap.noRef (es := es) hr]
    show (d.refKey || false) = false
    unfold DictEntry.refKey
    rw [hk]; rfl
theorem nsMap.put {name : Str} {v : Value} {hsh : Int} {t : Tok} : ∀ {ds : List DictEntry} {es : List (Str × Value)}, nsMap ds es → nsMap (putL name hsh (.str name t) v ds) (nsPut name (er v) es)
  | [], [], _ => rfl
  | [], _ :: _, h => by cases h
  | _ :: _, [], h => by cases h
  | d :: ds, p :: es, h => by
    unfold nsMap at h
    rw [List.map_cons, List.map_cons, List.cons.injEq, Prod.mk.injEq] at h
    obtain ⟨⟨hk, hv⟩, hr⟩ := h
    obtain ⟨t', hk'⟩ := er_str hk
    have e1 : d.key.isStr name = (p.1 == name) := by rw [hk']; rfl
    unfold putL nsPut
    rw [e1]
    by_cases hx : p.1 = name
    · rw [if_pos (by simpa using hx), if_pos hx]
      unfold nsMap
      rw [List.map_cons, List.map_cons]
      show (er d.key, er v) :: _ = _
      rw [hk, hx]
      exact congrArg _ hr
    · rw [if_neg (by simpa using hx), if_neg hx]
      unfold nsMap
      rw [List.map_cons, List.map_cons, hk, hv]
      exact congrArg _ (nsMap.put (es := es) hr)
theorem nsMap.len {ds : List DictEntry} {es : List (Str × Value)} (h : nsMap ds es) : ds.length = es.length := by
  have := congrArg List.length h; simpa using this

section
variable {Γ : Gl} {c : Fm} {g : Prot} {ρ : Loc} {H : AH} {s : Shared} {K : KP} {X : XP}
theorem instAt_of {C dx a : Addr} {es : List (Str × Value)} (B : Base Γ g H s) (ha : H a = some (.inst C dx)) (hd : H dx = some (.ns es)) : ∃ ds n, nsMap ds es ∧ s.heap.get? dx = some (dictOf ds n) ∧ W.InstAt s.heap a (instObj C dx) C (some (dictOf ds n)) := by
  obtain ⟨ds, n, h1, h2⟩ := B.sees _ _ hd
  exact ⟨ds, n, h2, h1, B.sees _ _ ha, rfl, rfl, h1⟩
theorem Base.kin (B : Base Γ g H s) : (KK Γ.w).In s.heap := B.ok.k.keeps B.k0
/-- reading the own attribute of an object -/
structure AttrOk (w : World) (C : Addr) (name : Str) : Prop where
  get : plainGet (KK w) C name = true
  dict : hasDictIn (KK w) C = true
  no : findIn (KK w) (.ref C) name = some none
theorem tGet {C dx a : Addr} {es : List (Str × Value)} {name : Str} {val : Value} (ok : AttrOk Γ.w C name) (ha : H a = some (.inst C dx)) (hd : H dx = some (.ns es)) (hl : es.lookup name = some val) (hand : handedIn val = true) (k : K val H) {u : Value} (hu : er u = .ref a) :
    TE Γ c ρ H (getAttr u name true) K X := fun g s R => by
  rw [er_ref hu]
  obtain ⟨ds, n, h1, h2, I⟩ := instAt_of R.base ha hd
  obtain ⟨e, h3, h4⟩ := h1.get hl
  refine get_value R.base.kin I (plainGet_of ok.get).1 (findObj_own (v := e.val) ok.dict ok.no rfl ?_) (handedIn_er (h4 ▸ hand)) ⟨H, R.tok, ?_⟩
  · rw [lookIn_dict]; unfold getL; rw [h3]
  · show K (er e.val) H; rw [h4]; exact k
@[reducible] noncomputable def kAttr (Γ : Gl) (c : Fm) (ρ : Loc) (X : XP) (K : KP) (name : Str) : KP := fun v H1 => ∀ u, er u = v → TE Γ c ρ H1 (getAttr u name true) K X
theorem xAttr {o : Expr} {name : Str} {pos : Pos} (hb : attributeBase o name c.e (eval o c.e) = eval o c.e) (h : TX Γ c ρ H o (kAttr Γ c ρ X K name) X) : TX Γ c ρ H (.Attribute o name pos) K X := fun g s R => by
  rw [arm_eval_Attribute, hb]
  refine wpAny_bind (wpAny_mono (h g s R) (fun o s1 ⟨H1, R1, h1⟩ => wpAny_bind (wpAny_standAt (wpAny_bind (wpAny_holding (wpAny_mono (h1 o rfl g s1 R1) (fun r s2 h2 => ?_) fun _ _ x => x))))) fun _ _ x => x)
  exact wpAny_bind (wpAny_letTemporaryGo (wpAny_pure h2))
/-- setting an attribute -/
structure SetOk (w : World) (C : Addr) (name : Str) : Prop where
  set : findIn (KK w) (.ref C) "__setattr__" = some (some (.builtin "object.__setattr__"))
  over : plainOver (KK w) C = true
  taker : takerIn (KK w) C name = some none
  dict : hasDictIn (KK w) C = true
theorem tSet {C dx a : Addr} {es : List (Str × Value)} {name : Str} {val : Value} {K : Loc → AH → Prop} {X : XS} (ok : SetOk Γ.w C name) (ha : H a = some (.inst C dx)) (hd : H dx = some (.ns es)) (hz : es.length < 1000) (k : K ρ (upd H dx (.ns (nsPut name val es)))) {u v : Value} (hu : er u = .ref a) (hv : er v = val) :
    TU Γ c ρ H (setAttr u name v) K X := fun g s R => by
  rw [er_ref hu]
  obtain ⟨ds, n, h1, h2, I⟩ := instAt_of R.base ha hd
  obtain ⟨m, cm, L⟩ := R.loc
  obtain ⟨news', U, hR⟩ := R.updNews L hd h2 (dictOf (putL name (PyData.keyHash Γ.w.params name) (.str name (s.toks + 1)) v ds) (putN name ds n))
  have hl : (getL name ds).isSome = true := by
    unfold getL
    cases ds.find? (·.key.isStr name) with
    | some e => rfl
    | none => rw [h1.noRef]; rfl
  have hlen : (putL name (PyData.keyHash Γ.w.params name) (.str name (s.toks + 1)) v ds).length ≤ 1000 := by
    have h3 := (h1.put (name := name) (v := v) (hsh := PyData.keyHash Γ.w.params name) (t := s.toks + 1)).len
    have h4 : ∀ es : List (Str × Value), (nsPut name (er v) es).length ≤ es.length + 1 := by
      intro es
      induction es with
      | nil => simp [nsPut]
      | cons p r ih => unfold nsPut; split <;> simp <;> omega
    rw [h3]; exact Nat.le_trans (h4 es) (by omega)
  refine set_dict (R.fr L) R.base.ok.k ledger_news I rfl ok.set ok.over ok.taker ok.dict hl rfl U hlen fun h' F' N' => ⟨ρ, _, hR h' _ (.ns (nsPut name val es)) F' N' fun e => ⟨_, _, e, ?_⟩, k⟩
  rw [← hv]
  exact h1.put

/-- making an object -/
structure MakeOk (w : World) (C fI : Addr) : Prop where
  makes : makesIn (KK w) C = true
  init : findIn (KK w) (.ref C) "__init__" = some (some (.ref fI))
  fn : typeIn (KK w) (.ref fI) = some (.type "function")
  keep : keepIn (KK w) (.ref C) = true
theorem make_mine {A : Around} {C fI : Addr} {rest : List Value} {R : Result → Shared → Prop} (B : Base Γ g H s) (ok : MakeOk Γ.w C fI)
    (h : ∀ x dx h' tk, x ≠ dx → Base Γ g (upd (upd H dx (.ns [])) x (.inst C dx)) { s with heap := h', toks := tk } → H dx = none → H x = none → Heap.get? s.heap x = none → Heap.get? s.heap dx = none →
      (∀ b o, s.heap.get? b = some o → h'.get? b = some o) → codeAny (model PR Γ.w) (A.under (.builtin "type.__call__" ⟨.ref C :: rest, []⟩)) (.call (.ref fI) ⟨.ref x :: rest, []⟩) (InitBack x R) { s with heap := h', toks := tk }) :
    codeAny (model PR Γ.w) A (.call (.ref C) ⟨rest, []⟩) R s := by
  have X := B.kin
  obtain ⟨hh, gg, d, t, os⟩ := s
  have k : ∀ b o, hh.get? b = some o → ((hh.push emptyDict).push (instObj C hh.objs.size)).get? b = some o := fun b o e => Heap.get?_push_of_some _ (Heap.get?_push_of_some _ e)
  have n1 := none_size hh
  have n2 : hh.get? (hh.objs.size + 1) = none := by
    cases e : hh.get? (hh.objs.size + 1) with
    | none => rfl
    | some o => exact absurd (Heap.lt_size e) (Nat.not_lt.mpr (Nat.le_succ _))
  obtain ⟨a1, a2, a3⟩ := B.fresh n1
  obtain ⟨b1, b2, b3⟩ := B.fresh n2
  have hne : hh.objs.size + 1 ≠ hh.objs.size := Nat.succ_ne_self _
  have B1 : Base Γ g H ⟨(hh.push emptyDict).push (instObj C hh.objs.size), gg, d, t, os⟩ := B.grow (tk := t) k
  have e1 : ((hh.push emptyDict).push (instObj C hh.objs.size)).get? hh.objs.size = some (dictOf [] 0) := Heap.get?_push_of_some _ (Heap.get?_push_size _ rfl)
  have e2 : ((hh.push emptyDict).push (instObj C hh.objs.size)).get? (hh.objs.size + 1) = some (instObj C hh.objs.size) := by
    have := Heap.get?_push_size (hh.push emptyDict) (o := instObj C hh.objs.size) rfl
    rwa [Heap.size_push] at this
  have B2 := (B1.enter (o := .ns []) a3 a1 a2 ⟨[], 0, e1, rfl⟩).enter (o := .inst C hh.objs.size) (upd_none hne b3) b1 b2 e2
  exact make_core (makes_of X ok.makes) (looks_findIn X ok.init) (fun self => bind_fn X self ok.fn) (.inl rfl) (h _ _ _ t hne B2 a3 b3 n2 n1 k)
theorem FS.make {C fI : Addr} {k : Nat} {vs : List Value} (ok : MakeOk Γ.w C fI)
    (h : ∀ x dx, x ≠ dx → H x = none → H dx = none → FS Γ k fI (upd (upd H dx (.ns [])) x (.inst C dx)) (.ref x :: vs) (fun v H' => v = .none ∧ K (.ref x) H') nX) : FS Γ (k + 1) C H vs K nX := by
  intro A fr g s vals hv hroom hh hfr hF B
  refine make_mine B ok fun x dx h' tk hne B2 hdx hx _ _ hkeep => ?_
  have hroom' : Room (A.under (.builtin "type.__call__" ⟨.ref C :: vals, []⟩)) k := by
    unfold Room at hroom ⊢
    rw [depth_under_make, units_under_make]
    omega
  refine codeAny_mono (h x dx hne hx hdx _ fr g _ (.ref x :: vals) (by rw [List.map_cons, hv]; rfl) hroom' hh (by rw [← hfr]; show pushEnvs [] A.frames = A.frames; cases A.frames <;> rfl) hF B2) fun r s' hr => ?_
  · cases r with
    | error e => obtain ⟨_, _, _, _, _, _, z⟩ := hr; exact z.elim
    | ok f => obtain ⟨v, H', rfl, B', ev, hk⟩ := hr; exact ⟨er_none ev, .ref x, H', rfl, B', hk⟩
end

-- MVec
abbrev VectorC : Addr := 203
noncomputable def vecNs (kind : Str) (items ats : Value) : List (Str × Value) := [("kind", .str kind 0), ("items", items), ("attrs", ats), ("shared", .bool false), ("loose", .bool false)]
/-- a Vector -/
noncomputable def Vc (H : AH) (v : Addr) (kind : Str) (items ats : Value) : Prop := ∃ dx, H v = some (.inst VectorC dx) ∧ H dx = some (.ns (vecNs kind items ats))
theorem Vc.up {H H' : AH} {v : Addr} {kind : Str} {items ats : Value} (x : Vc H v kind items ats) (e : Ext H H') : Vc H' v kind items ats := let ⟨dx, a, b⟩ := x; ⟨dx, e _ _ a, e _ _ b⟩
section
variable {Γ : Gl} {c : Fm} {g : Prot} {ρ : Loc} {H : AH} {s : Shared} {K : KP} {X : XP}
theorem ok_kind (w : World) : AttrOk w VectorC "kind" := ⟨rfl, rfl, rfl⟩
theorem ok_items (w : World) : AttrOk w VectorC "items" := ⟨rfl, rfl, rfl⟩
theorem ok_attrs (w : World) : AttrOk w VectorC "attrs" := ⟨rfl, rfl, rfl⟩
theorem set_kind (w : World) : SetOk w VectorC "kind" := ⟨rfl, rfl, rfl, rfl⟩
theorem set_items (w : World) : SetOk w VectorC "items" := ⟨rfl, rfl, rfl, rfl⟩
theorem set_attrs (w : World) : SetOk w VectorC "attrs" := ⟨rfl, rfl, rfl, rfl⟩
theorem set_shared (w : World) : SetOk w VectorC "shared" := ⟨rfl, rfl, rfl, rfl⟩
theorem set_loose (w : World) : SetOk w VectorC "loose" := ⟨rfl, rfl, rfl, rfl⟩
theorem makeVec (w : World) : MakeOk w VectorC 193 := ⟨rfl, rfl, rfl, rfl⟩
theorem gKind {v : Addr} {kind : Str} {items ats : Value} (x : Vc H v kind items ats) (k : K (.str kind 0) H) : ∀ u, er u = .ref v → TE Γ c ρ H (getAttr u "kind" true) K X := fun u hu => let ⟨dx, a, b⟩ := x; tGet (ok_kind Γ.w) a b rfl rfl k hu
theorem gItems {v : Addr} {kind : Str} {items ats : Value} (x : Vc H v kind items ats) (hi : handedIn items = true) (k : K items H) : ∀ u, er u = .ref v → TE Γ c ρ H (getAttr u "items" true) K X := fun u hu => let ⟨dx, a, b⟩ := x; tGet (ok_items Γ.w) a b rfl hi k hu
theorem gAttrs {v : Addr} {kind : Str} {items ats : Value} (x : Vc H v kind items ats) (hi : handedIn ats = true) (k : K ats H) : ∀ u, er u = .ref v → TE Γ c ρ H (getAttr u "attrs" true) K X := fun u hu => let ⟨dx, a, b⟩ := x; tGet (ok_attrs Γ.w) a b rfl hi k hu

theorem ln0 {l : List Value} {C : List Value → Prop} (h : l.length = 0) (k : C []) : C l := by
  cases l with
  | nil => exact k
  | cons a t => cases h
theorem lnS {l : List Value} {n : Nat} {C : List Value → Prop} (h : l.length = n + 1) (k : ∀ a t, t.length = n → C (a :: t)) : C l := by
  cases l with
  | nil => cases h
  | cons a t => exact k a t (Nat.succ.inj h)
theorem ln2 {l : List Value} {C : List Value → Prop} (h : l.length = 2) (k : ∀ a b, C [a, b]) : C l :=
  lnS h fun a _ h => lnS (C := fun t => C (a :: t)) h fun b _ h => ln0 (C := fun t => C (a :: b :: t)) h (k a b)
theorem ln3 {l : List Value} {C : List Value → Prop} (h : l.length = 3) (k : ∀ a b d, C [a, b, d]) : C l :=
  lnS h fun a _ h => ln2 (C := fun t => C (a :: t)) h (k a)
theorem ln4 {l : List Value} {C : List Value → Prop} (h : l.length = 4) (k : ∀ a b d e, C [a, b, d, e]) : C l :=
  lnS h fun a _ h => ln3 (C := fun t => C (a :: t)) h (k a)
theorem ln5 {l : List Value} {C : List Value → Prop} (h : l.length = 5) (k : ∀ a b d e f, C [a, b, d, e, f]) : C l :=
  lnS h fun a _ h => ln4 (C := fun t => C (a :: t)) h (k a)
theorem ln7 {l : List Value} {C : List Value → Prop} (h : l.length = 7) (k : ∀ a b d e f i j, C [a, b, d, e, f, i, j]) : C l :=
  lnS h fun a _ h => lnS (C := fun t => C (a :: t)) h fun b _ h => ln5 (C := fun t => C (a :: b :: t)) h (k a b)
theorem binds1 {p : Str} {fd : FuncData} (h : ∀ a, bindArgs fd ⟨[a], []⟩ = pure [(p, a)]) (s : Shared) (vals : List Value) (_ : (KK Γ.w).In s.heap) (hl : vals.length = 1) : BindsTo s fd ⟨vals, []⟩ ([p].zip (vals ++ [])) := by
  obtain ⟨a, rfl⟩ := List.length_eq_one_iff.mp hl
  exact .of_eq (h a)
theorem binds2 {p q : Str} {fd : FuncData} (h : ∀ a b, bindArgs fd ⟨[a, b], []⟩ = pure [(p, a), (q, b)]) (s : Shared) (vals : List Value) (_ : (KK Γ.w).In s.heap) (hl : vals.length = 2) : BindsTo s fd ⟨vals, []⟩ ([p, q].zip (vals ++ [])) := by
  exact ln2 (C := fun vals => BindsTo s fd ⟨vals, []⟩ ([p, q].zip (vals ++ []))) hl fun a b => .of_eq (h a b)
theorem binds3 {p q r : Str} {fd : FuncData} (h : ∀ a b d, bindArgs fd ⟨[a, b, d], []⟩ = pure [(p, a), (q, b), (r, d)]) (s : Shared) (vals : List Value) (_ : (KK Γ.w).In s.heap) (hl : vals.length = 3) : BindsTo s fd ⟨vals, []⟩ ([p, q, r].zip (vals ++ [])) := by
  exact ln3 (C := fun vals => BindsTo s fd ⟨vals, []⟩ ([p, q, r].zip (vals ++ []))) hl fun a b d => .of_eq (h a b d)
theorem binds4 {p q r t : Str} {fd : FuncData} (h : ∀ a b d e, bindArgs fd ⟨[a, b, d, e], []⟩ = pure [(p, a), (q, b), (r, d), (t, e)]) (s : Shared) (vals : List Value) (_ : (KK Γ.w).In s.heap) (hl : vals.length = 4) : BindsTo s fd ⟨vals, []⟩ ([p, q, r, t].zip (vals ++ [])) := by
  exact ln4 (C := fun vals => BindsTo s fd ⟨vals, []⟩ ([p, q, r, t].zip (vals ++ []))) hl fun a b d e => .of_eq (h a b d e)
theorem binds5 {p q r t x : Str} {fd : FuncData} (h : ∀ a b d e f, bindArgs fd ⟨[a, b, d, e, f], []⟩ = pure [(p, a), (q, b), (r, d), (t, e), (x, f)]) (s : Shared) (vals : List Value) (_ : (KK Γ.w).In s.heap) (hl : vals.length = 5) : BindsTo s fd ⟨vals, []⟩ ([p, q, r, t, x].zip (vals ++ [])) := by
  exact ln5 (C := fun vals => BindsTo s fd ⟨vals, []⟩ ([p, q, r, t, x].zip (vals ++ []))) hl fun a b d e f => .of_eq (h a b d e f)
theorem binds7 {p q r t x y z : Str} {fd : FuncData} (h : ∀ a b d e f i j, bindArgs fd ⟨[a, b, d, e, f, i, j], []⟩ = pure [(p, a), (q, b), (r, d), (t, e), (x, f), (y, i), (z, j)]) (s : Shared) (vals : List Value) (_ : (KK Γ.w).In s.heap) (hl : vals.length = 7) : BindsTo s fd ⟨vals, []⟩ ([p, q, r, t, x, y, z].zip (vals ++ [])) := by
  exact ln7 (C := fun vals => BindsTo s fd ⟨vals, []⟩ ([p, q, r, t, x, y, z].zip (vals ++ []))) hl fun a b d e f i j => .of_eq (h a b d e f i j)
/-- one default, in a tuple of the written heap -/
theorem bindsD4 {p q r t : Str} {fd : FuncData} {T : Addr} {oc od n osl} {vs : Array Value} (hd : fd.defaults = .ref T) (ho : (KK Γ.w).lookup T = some ⟨oc, od, .seq vs n, osl⟩)
    (h : ∀ a b d e, ∃ k, bindArgs fd ⟨[a, b, d, e], []⟩ = (seqItems? fd.defaults >>= k) ∧ k (some vs) = pure [(p, a), (q, b), (r, d), (t, e)])
    (s : Shared) (vals : List Value) (hk : (KK Γ.w).In s.heap) (hl : vals.length = 4) : BindsTo s fd ⟨vals, []⟩ ([p, q, r, t].zip (vals ++ [])) := by
  refine ln4 (C := fun vals => BindsTo s fd ⟨vals, []⟩ ([p, q, r, t].zip (vals ++ []))) hl fun a b d e => ?_
  obtain ⟨k, h1, h2⟩ := h a b d e; exact .of_defaults hd (hk _ _ ho) rfl h1 h2
theorem bindsD3 {p q r t : Str} {fd : FuncData} {T : Addr} {oc od n osl} {vs : Array Value} {v : Value} (hd : fd.defaults = .ref T) (ho : (KK Γ.w).lookup T = some ⟨oc, od, .seq vs n, osl⟩)
    (h : ∀ a b d, ∃ k, bindArgs fd ⟨[a, b, d], []⟩ = (seqItems? fd.defaults >>= k) ∧ k (some vs) = pure [(p, a), (q, b), (r, d), (t, v)])
    (s : Shared) (vals : List Value) (hk : (KK Γ.w).In s.heap) (hl : vals.length = 3) : BindsTo s fd ⟨vals, []⟩ ([p, q, r, t].zip (vals ++ [v])) := by
  refine ln3 (C := fun vals => BindsTo s fd ⟨vals, []⟩ ([p, q, r, t].zip (vals ++ [v]))) hl fun a b d => ?_
  obtain ⟨k, h1, h2⟩ := h a b d; exact .of_defaults hd (hk _ _ ho) rfl h1 h2
theorem bindsD4' {p q r t x : Str} {fd : FuncData} {T : Addr} {oc od n osl} {vs : Array Value} {v : Value} (hd : fd.defaults = .ref T) (ho : (KK Γ.w).lookup T = some ⟨oc, od, .seq vs n, osl⟩)
    (h : ∀ a b d e, ∃ k, bindArgs fd ⟨[a, b, d, e], []⟩ = (seqItems? fd.defaults >>= k) ∧ k (some vs) = pure [(p, a), (q, b), (r, d), (t, e), (x, v)])
    (s : Shared) (vals : List Value) (hk : (KK Γ.w).In s.heap) (hl : vals.length = 4) : BindsTo s fd ⟨vals, []⟩ ([p, q, r, t, x].zip (vals ++ [v])) := by
  refine ln4 (C := fun vals => BindsTo s fd ⟨vals, []⟩ ([p, q, r, t, x].zip (vals ++ [v]))) hl fun a b d e => ?_
  obtain ⟨k, h1, h2⟩ := h a b d e; exact .of_defaults hd (hk _ _ ho) rfl h1 h2
end

section
local macro_rules | `(tactic| walk_at "mx") => `(tactic| first
  | refine xNone ?_ | refine xBool ?_ | refine xInt ?_ | refine xStr ?_
  | refine xLoc (by assumption) rfl rfl ?_ rfl | refine xCel (by assumption) rfl rfl ?_ rfl | refine xFree (by assumption) rfl rfl ?_ rfl rfl
  | refine xAttr rfl ?_)
section
variable {Γ : Gl} {H : AH}
set_option hygiene false in
local macro_rules | `(tactic| walk_at "minit") => `(tactic| (
  have hs := hL.nm
  dsimp only at hs
  have hne : x ≠ dx := by rintro rfl; rw [hx] at hd; cases hd
  refine sCons (sAsgA ?_)
  walk_at "mx"
  walk_at "mx"
  refine fun u w hu hw => tSet (set_kind _) hx hd (by decide) ?_ hu hw
  refine sCons (sAsgA ?_)
  walk_at "mx"
  walk_at "mx"
  refine fun u w hu hw => tSet (set_items _) ((upd_ne hne).trans hx) upd_self (by show 1 < 1000; decide) ?_ hu hw
  rw [upd_upd]
  refine sCons (sAsgA ?_)
  walk_at "mx"
  walk_at "mx"
  refine fun u w hu hw => tSet (set_attrs _) ((upd_ne hne).trans hx) upd_self (by show 2 < 1000; decide) ?_ hu hw
  rw [upd_upd]
  refine sCons (sAsgA ?_)
  walk_at "mx"
  walk_at "mx"
  refine fun u w hu hw => tSet (set_shared _) ((upd_ne hne).trans hx) upd_self (by show 3 < 1000; decide) ?_ hu hw
  rw [upd_upd]
  refine sCons (sAsgA ?_)
  walk_at "mx"
  walk_at "mx"
  refine fun u w hu hw => tSet (set_loose _) ((upd_ne hne).trans hx) upd_self (by show 4 < 1000; decide) ?_ hu hw
  rw [upd_upd]
  exact sNil (hQn _ _ ⟨rfl, rfl⟩)))


theorem fs_init4 {x dx : Addr} {kind : Str} {items ats : Value} (hx : H x = some (.inst VectorC dx)) (hd : H dx = some (.ns [])) : FS Γ 1 193 H [.ref x, .str kind 0, items, ats] (fun r H' => r = .none ∧ H' = upd H dx (.ns (vecNs kind items ats))) nX := by
  refine FS.enter (ps := ["self", "kind", "items", "attrs"]) (dv := []) (ho := rfl) (hok := ⟨rfl, rfl, rfl, by rfl, rfl, rfl, rfl, by decide, by decide, by decide⟩) (hbody := rfl) (hnames := rfl) (bindsD4 rfl rfl fun _ _ _ _ => ⟨_, rfl, rfl⟩) rfl (fun c Q hQ hQn hL => ?_)
  walk_at "minit"
theorem fs_init3 {x dx : Addr} {kind : Str} {items : Value} (hx : H x = some (.inst VectorC dx)) (hd : H dx = some (.ns [])) : FS Γ 1 193 H [.ref x, .str kind 0, items] (fun r H' => r = .none ∧ H' = upd H dx (.ns (vecNs kind items .none))) nX := by
  refine FS.enter (ps := ["self", "kind", "items", "attrs"]) (dv := [.none]) (ho := rfl) (hok := ⟨rfl, rfl, rfl, by rfl, rfl, rfl, rfl, by decide, by decide, by decide⟩) (hbody := rfl) (hnames := rfl) (bindsD3 rfl rfl fun _ _ _ => ⟨_, rfl, rfl⟩) rfl (fun c Q hQ hQn hL => ?_)
  walk_at "minit"
end
end

-- MRule4
section
variable {Γ : Gl} {c : Fm} {g : Prot} {ρ : Loc} {H : AH} {s : Shared} {K : KP} {X : XP}

/-! boolean values and chains -/
noncomputable def BoolP (Γ : Gl) (c : Fm) (ρ : Loc) (op : BoolOp) (K : KP) (X : XP) : List Expr → AH → Prop
  | [], _ => False
  | [x], H => TX Γ c ρ H x K X
  | x :: rest, H => TX Γ c ρ H x (fun v H1 => Tru Γ c ρ H1 v (fun t H2 => match op, t with
      | .And, false => K v H2
      | .Or, true => K v H2
      | _, _ => BoolP Γ c ρ op K X rest H2) X) X
@[reducible] noncomputable def kCh4 (Γ : Gl) (c : Fm) (ρ : Loc) (X : XP) (K : Bool → AH → Prop) (o2 : CmpOp) (r : Expr) (b : Value) : Bool → AH → Prop := fun q H3 => if q then TX Γ c ρ H3 r (kO2 Γ c ρ X (kQ K) (compareOp o2) b) X else K false H3
@[reducible] noncomputable def kCh2 (Γ : Gl) (c : Fm) (ρ : Loc) (X : XP) (K : Bool → AH → Prop) (o1 o2 : CmpOp) (r : Expr) (a : Value) : KP := fun b H2 => Op2 Γ c ρ H2 (compareOp o1) a b (kQ (kCh4 Γ c ρ X K o2 r b)) X
@[reducible] noncomputable def kCh1 (Γ : Gl) (c : Fm) (ρ : Loc) (X : XP) (K : Bool → AH → Prop) (o1 o2 : CmpOp) (m r : Expr) : KP := fun a H1 => TX Γ c ρ H1 m (kCh2 Γ c ρ X K o1 o2 r a) X
theorem boolP_go {op : BoolOp} {pos : Pos} : ∀ {es : List Expr} {H : AH}, BoolP Γ c ρ op K X es H → TE Γ c ρ H (boolOp pos op (evalEach es c.e)) K X
  | [], _, h => h.elim
  | [x], _, h => h
  | x :: y :: r, H, h => fun g s R => by
    rw [arm_evalEach_cons]
    show wpAny _ _ (eval x c.e >>= fun v => standAt pos >>= fun _ => holding [v] (truthy v) >>= _) _ _ s
    refine wpAny_bind (wpAny_mono (h g s R) (fun v s1 ⟨H1, R1, h1⟩ => wpAny_bind (wpAny_standAt (wpAny_bind (wpAny_holding (wpAny_mono (h1 v rfl g s1 R1) (fun t s2 ⟨H2, R2, h2⟩ => ?_) fun _ _ z => z))))) fun _ _ z => z)
    cases op <;> cases t
    · exact wpAny_pure ⟨H2, R2, h2⟩
    · exact boolP_go (es := y :: r) h2 g s2 R2
    · exact boolP_go (es := y :: r) h2 g s2 R2
    · exact wpAny_pure ⟨H2, R2, h2⟩
theorem xBoolOp {op : BoolOp} {es : List Expr} {pos : Pos} (h : BoolP Γ c ρ op K X es H) : TX Γ c ρ H (.BoolOp op es pos) K X := TA.eq (arm_eval_BoolOp ..) (boolP_go h)
/-- a < b < c as a test -/
theorem tChain {l m r : Expr} {o1 o2 : CmpOp} {pos : Pos} {K : Bool → AH → Prop} (hm : behindInMarks o2 r = false)
    (h : TX Γ c ρ H l (kCh1 Γ c ρ X K o1 o2 m r) X) :
    TT Γ c ρ H (.Compare l [o1, o2] [m, r] pos) K X := fun g s R => by
  rw [arm_isTrue_Compare]
  have e2 : markedEach [o1, o2] [m, r] (evalEach [m, r] c.e) = [eval m c.e, eval r c.e] := by
    show eval m c.e :: markedEach [o2] [r] [eval r c.e] = _
    show eval m c.e :: [markedBehindIn o2 r (eval r c.e)] = _
    rw [markedBehindIn_of_false hm]
  rw [e2]
  refine wpAny_bind (wpAny_mono (h g s R) (fun a s1 ⟨H1, R1, h1⟩ => ?_) fun _ _ z => z)
  show wpAny _ _ (do let rv ← holding [a] (eval m c.e); standAt pos; let cc ← holding [a, rv] (compareOp o1 a rv); release [a, rv] [cc]; if ← holding [cc, rv] (truthy cc) then testChain pos rv [o2] [eval r c.e] else pure false) _ _ s1
  refine wpAny_bind (wpAny_holding (wpAny_mono (h1 g s1 R1) (fun b s2 ⟨H2, R2, h2⟩ => wpAny_bind (wpAny_standAt (wpAny_bind (wpAny_holding (wpAny_mono (h2 a b rfl rfl g s2 R2) (fun v s3 ⟨H3, R3, q, ev, h3⟩ => ?_) fun _ _ z => z))))) fun _ _ z => z))
  rw [er_bool ev]
  refine wpAny_bind (wpAny_release (wpAny_bind (wpAny_holding (wpAny_truthy_bool ?_))))
  cases q with
  | false => exact wpAny_pure ⟨H3, R3, h3⟩
  | true =>
    show wpAny _ _ (do let rv ← holding [b] (eval r c.e); standAt pos; let cc ← operate [b, rv] (compareOp o2 b rv); holding [cc] (truthy cc)) _ _ s3
    refine wpAny_bind (wpAny_holding (wpAny_mono (h3 g s3 R3) (fun d s4 ⟨H4, R4, h4⟩ => wpAny_bind (wpAny_standAt (wpAny_bind (wpAny_operateT (wpAny_mono (h4 b d rfl rfl g s4 R4) (fun v s5 ⟨H5, R5, q, ev, h5⟩ => ?_) fun _ _ z => z))))) fun _ _ z => z))
    rw [er_bool ev]
    exact wpAny_holding (wpAny_truthy_bool ⟨H5, R5, h5⟩)

/-! items -/
noncomputable def dget (es : List (Option Str × Value)) (k : Option Str) : Option Value := valueAt es k
theorem dget_map {kvs : List (Option Str × Value)} {k : Option Str} : dget (kvs.map fun p => (p.1, er p.2)) k = (valueAt kvs k).map er := by
  unfold dget valueAt
  induction kvs with
  | nil => rfl
  | cons p r ih =>
    rw [List.map_cons, List.find?_cons, List.find?_cons]
    by_cases h : p.1 = k
    · simp [h]
    · simp only [h, decide_false]
      exact ih
theorem stored_map {kvs : List (Option Str × Value)} {k : Option Str} {v : Value} : stored (kvs.map fun p => (p.1, er p.2)) k (er v) = (stored kvs k v).map fun p => (p.1, er p.2) := by
  unfold stored
  rw [List.any_map]
  split
  · rename_i h
    rw [if_pos (by simpa [Function.comp_def] using h), List.map_map, List.map_map]
    apply List.map_congr_left
    intro p _
    simp only [Function.comp_def]
    split <;> rfl
  · rename_i h
    rw [if_neg (by simpa [Function.comp_def] using h), List.map_append]
    rfl
/-- what an item is -/
inductive SubK (H : AH) (K : KP) : Value → Value → Prop
  | list {a : Addr} {xs : List Value} {n : Nat} {x : Value} : H a = some (.list xs) → xs[n]? = some x → n ≤ 1000 → K x H → SubK H K (.ref a) (.int n 0)
  | tup {a : Addr} {xs : List Value} {n : Nat} {x : Value} : H a = some (.tup xs) → xs[n]? = some x → n ≤ 1000 → K x H → SubK H K (.ref a) (.int n 0)
  | dict {a : Addr} {es : List (Option Str × Value)} {ep : Nat} {k : Option Str} {x : Value} : H a = some (.dict es ep) → dget es k = some x → K x H → SubK H K (.ref a) (keyV k)
theorem at_map {vs : Array Value} {xs : List Value} {n : Nat} {x : Value} (h : vs.toList.map er = xs) (hx : xs[n]? = some x) : ∃ v, vs[n]? = some v ∧ er v = x := by
  rw [← h, List.getElem?_map, Option.map_eq_some_iff] at hx
  obtain ⟨v, hv, ev⟩ := hx
  exact ⟨v, by rw [← Array.getElem?_toList]; exact hv, ev⟩
theorem sub_wp {A : Around} {E : Value → Shared → Prop} {Q : Value → Shared → Prop} {T id : String} {value slice : Expr} {u j : Value} (hT : s.TypeIs u T) (hl : typeLookup (.type T) "__getitem__" = pure (some (.builtin id)))
    (hs : ∀ o i, subscripted slice false o i = operate [o, i] (getItem o i)) (hw : wpAny (model PR Γ.w) A (getItem u j) Q E s) :
    wpAny (model PR Γ.w) A (do let r ← subscripted slice (← getitemInPython u) u j; letTemporaryGo value u r; pure r) Q E s := by
  have fin : wpAny (model PR Γ.w) A (subscripted slice false u j) (fun r s₃ => wpAny (model PR Γ.w) A (letTemporaryGo value u r >>= fun _ => pure r) Q E s₃) E s := by
    rw [hs]
    exact wpAny_operateT (wpAny_mono hw (fun r s₃ h₃ => wpAny_bind (wpAny_letTemporaryGo (wpAny_pure h₃))) fun _ _ x => x)
  first
    | (refine wpAny_bind ?_
       rw [getitemInPython_of_ne hT.not_modules]
       refine wpAny_bind (wpAny_specialOf hT hl ?_)
       first
         | exact wpAny_pure (wpAny_bind fin)
         | exact wpAny_bind (wpAny_pure (wpAny_bind fin))
         | exact wpAny_bind fin)
    | (refine wpAny_bind (wpAny_specialOf hT hl ?_)
       first
         | exact wpAny_bind (wpAny_pure (wpAny_bind fin))
         | exact wpAny_bind fin)
theorem SubK.te {value slice : Expr} {o i : Value} (hs : ∀ o i, subscripted slice false o i = operate [o, i] (getItem o i)) (h : SubK H K o i) : ∀ u j, er u = o → er j = i → TE Γ c ρ H (do let r ← subscripted slice (← getitemInPython u) u j; letTemporaryGo value u r; pure r) K X := fun u j eu ej g s R => by
  cases h with
  | @list a xs n x h1 h2 h3 k =>
    obtain ⟨vs, m, z1, z2⟩ := R.base.sees _ _ h1
    rw [er_ref eu]
    obtain ⟨t, rfl⟩ := er_int ej
    obtain ⟨v, hv, ev⟩ := at_map z2 h2
    exact sub_wp (T := "list") ⟨_, z1, rfl⟩ slot_list_getitem.lookup hs (wpAny_getItem_list ⟨_, z1, rfl, _, rfl⟩ (by omega) (by omega) (by simpa using hv) ⟨H, R, by show K (er v) H; rw [ev]; exact k⟩)
  | @tup a xs n x h1 h2 h3 k =>
    obtain ⟨vs, m, z1, z2⟩ := R.base.sees _ _ h1
    rw [er_ref eu]
    obtain ⟨t, rfl⟩ := er_int ej
    obtain ⟨v, hv, ev⟩ := at_map z2 h2
    have hlt : n < vs.size := (Array.getElem?_eq_some_iff.mp hv).1
    exact sub_wp (T := "tuple") ⟨_, z1, rfl⟩ PySem.F.slot_tuple_getitem.lookup hs (P.getItem_tuple (items := vs) (n := m) z1 (by omega) (by omega) (seqIndex_of (by omega) (by omega)) hv ⟨H, R, by show K (er v) H; rw [ev]; exact k⟩)
  | @dict a es ep kk x h1 h2 k =>
    obtain ⟨kvs, z1, z2⟩ := R.base.sees _ _ h1
    rw [er_ref eu]
    rw [← z2, dget_map, Option.map_eq_some_iff] at h2
    obtain ⟨v, hv, ev⟩ := h2
    exact sub_wp (T := "dict") z1.dictOf.typeIs slot_dict_getitem.lookup hs (wpAny_getItem_of (knd := optKind PR Γ.w) (k := kk) (optIs_of ej) z1.dictOf.mapOf hv ⟨H, R.tok, by show K (er v) H; rw [ev]; exact k⟩)
@[reducible] noncomputable def kSub2 (K : KP) (o : Value) : KP := fun i H2 => SubK H2 K o i
@[reducible] noncomputable def kSub1 (Γ : Gl) (c : Fm) (ρ : Loc) (X : XP) (K : KP) (slice : Expr) : KP := fun o H1 => TX Γ c ρ H1 slice (kSub2 K o) X
theorem xSub {value slice : Expr} {pos : Pos} (h : TX Γ c ρ H value (kSub1 Γ c ρ X K slice) X) (hs : ∀ o i, subscripted slice false o i = operate [o, i] (getItem o i) := by intro _ _; rfl) :
    TX Γ c ρ H (.Subscript value slice pos) K X := fun g s R => by
  rw [arm_eval_Subscript]
  refine wpAny_bind (wpAny_mono (h g s R) (fun o s1 ⟨H1, R1, h1⟩ => wpAny_bind (wpAny_holding (wpAny_mono (h1 g s1 R1) (fun i s2 ⟨H2, R2, h2⟩ => wpAny_bind (wpAny_standAt ?_)) fun _ _ z => z))) fun _ _ z => z)
  exact h2.te hs o i rfl rfl g s2 R2
/-- a[lo:hi:st] -/
noncomputable def TOpt (Γ : Gl) (c : Fm) (ρ : Loc) (H : AH) (e : Option Expr) (K : KP) (X : XP) : Prop := match e with
  | none => K .none H
  | some e => TX Γ c ρ H e K X
theorem part_go {e : Option Expr} (h : TOpt Γ c ρ H e K X) : TE Γ c ρ H (evalPart e c.e) K X := fun g s R => by
  cases e with
  | none => rw [evalPart_none]; exact wpAny_pure ⟨H, R, h⟩
  | some e => exact h g s R
noncomputable def partI : Option Int → Value
  | none => .none
  | some i => .int i 0
theorem isPart_of {v : Value} {o : Option Int} (h : er v = partI o) : IsPart v o := by
  cases o with
  | none => rw [er_none h]; exact .none
  | some i => obtain ⟨t, rfl⟩ := er_int h; exact .int i t
theorem pick_map (vs : Array Value) (lo hi st : Option Int) : (slicePick vs lo hi st).toList.map er = (slicePick (vs.toList.map er).toArray lo hi st).toList := by
  unfold slicePick
  simp [List.map_filterMap]
theorem tSlice {a : Addr} {xs : List Value} {lo hi st : Option Int} {vl vu vs : Value} {sl : Addr} {u : Value} (h : H a = some (.list xs)) (hz : xs.length ≤ 1000) (h0 : st ≠ some 0) (e1 : er vl = partI lo) (e2 : er vu = partI hi) (e3 : er vs = partI st) (eu : er u = .ref a)
    (k : ∀ b, H b = none → K (.ref b) (upd H b (.list (slicePick xs.toArray lo hi st).toList))) (g : Prot) (s : Shared) (R : Rel Γ c g ρ H s) (hs : s.heap.IsSliceOf sl vl vu vs) :
    s.TypeIs u "list" ∧ wpAny (model PR Γ.w) c.A (getItem u (.ref sl)) (PA Γ c g ρ (kEr K)) (EXp Γ c g ρ X) s := by
  obtain ⟨ws, n, h1, h2⟩ := R.base.sees _ _ h
  rw [er_ref eu]
  have hl : ws.size = xs.length := by rw [← h2, List.length_map, Array.length_toList]
  refine ⟨⟨_, h1, rfl⟩, wpAny_getItem_list_slice ⟨_, h1, rfl, _, rfl⟩ hs (isPart_of e1) (isPart_of e2) (isPart_of e3) h0 ⟨_, R.push (o := .list (slicePick xs.toArray lo hi st).toList) (tk := s.toks) ⟨_, 0, Heap.get?_push_size _ rfl, ?_⟩, k _ R.fresh⟩ (by rw [hl, sizeLine_eq]; omega)⟩
  rw [pick_map, h2]
theorem xSlice3 {value st : Expr} {lo hi : Option Expr} {p pos : Pos}
    (h : TX Γ c ρ H value (fun o H1 => TOpt Γ c ρ H1 lo (fun l H2 => TOpt Γ c ρ H2 hi (fun u H3 => TX Γ c ρ H3 st (fun t H4 => ∃ a xs li ui ti, o = .ref a ∧ H4 a = some (.list xs) ∧ xs.length ≤ 1000 ∧ l = partI li ∧ u = partI ui ∧ t = partI ti ∧ ti ≠ some 0 ∧
      ∀ b, H4 b = none → K (.ref b) (upd H4 b (.list (slicePick xs.toArray li ui ti).toList))) X) X) X) X)
    (ht : ∀ o r, letTemporaryGo value o r = pure () := by intro _ _; rfl) : TX Γ c ρ H (.Subscript value (.Slice lo hi (some st) p) pos) K X := fun g s R => by
  refine wpAny_Subscript_Slice_step (T := "list") list_getitem_lookup (wpAny_mono (h g s R) ?_ fun _ _ z => z) ht
  rintro o s1 ⟨H1, R1, h1⟩
  refine wpAny_Slice (wpAny_mono (part_go h1 g s1 R1) ?_ fun _ _ z => z)
  rintro l s2 ⟨H2, R2, h2⟩
  refine wpAny_mono (part_go h2 g s2 R2) ?_ fun _ _ z => z
  rintro u s3 ⟨H3, R3, h3⟩
  refine wpAny_mono (h3 g s3 R3) ?_ fun _ _ z => z
  rintro t s4 ⟨H4, R4, a, xs, li, ui, ti, eo, ha, hz, el, eu, et, h0, k⟩
  have R5 : Rel Γ c g ρ H4 { s4 with heap := s4.heap.push { cls := .type "slice", data := .fields #[l, u, t] } } := R4.grow (tk := s4.toks) fun b o q => Heap.get?_push_of_some _ q
  exact tSlice ha hz h0 el eu et eo k g _ R5 (Heap.IsSliceOf.new ..)
/-- d[k] = v -/
theorem uSetD {a : Addr} {es : List (Option Str × Value)} {ep : Nat} {kk : Option Str} {val : Value} {K : Loc → AH → Prop} {X : XS} (h : H a = some (.dict es ep)) (hz : es.length < 1000) (k : ∀ ep', K ρ (upd H a (.dict (stored es kk val) ep'))) {u j v : Value} (eu : er u = .ref a) (ej : er j = keyV kk) (ev : er v = val) :
    TU Γ c ρ H (setItem u j v) K X := fun g s R => by
  obtain ⟨kvs, z1, z2⟩ := R.base.sees _ _ h
  have hl : kvs.length = es.length := by rw [← z2, List.length_map]
  rw [er_ref eu]
  refine wpAny_setItem_pairs (knd := optKind PR Γ.w) (k := kk) (optIs_of ej) z1.dictOf (fun h' hd hs => ?_) (by rw [hl, sizeLine_eq]; omega)
  obtain ⟨ep', hd'⟩ := hd.dictAt
  exact ⟨ρ, _, R.change (o' := .dict (stored es kk val) ep') (tk := s.toks + 1) h hs ⟨_, hd', by rw [← stored_map, z2, ev]⟩, k ep'⟩
end

-- MRule5
/-- a word or nothing, as a value -/
abbrev sv (x : Str) : Value := .str x 0
section
variable {Γ : Gl} {c : Fm} {g : Prot} {ρ : Loc} {H : AH} {s : Shared} {K : KP} {X : XP}

theorem Rel.newAt (R : Rel Γ c g ρ H s) {D : Addr} (h1 : D ≠ c.e.locals) (h2 : Γ.h₀.get? D = none) (hD : ∀ p ∈ ledger Γ.h₀ c.e.locals s.heap, p.1 < D) : s.heap.get? D = none := by
  cases q : s.heap.get? D with
  | none => rfl
  | some o => exact absurd (hD _ (mem_ledger.mpr ⟨q, h1, h2⟩)) (Nat.lt_irrefl _)
theorem bLenL {a : Addr} {xs : List Value} (h : H a = some (.list xs)) (hz : xs.length ≤ 1000) (k : K (.int xs.length 0) H) (ws : List Value) (hw : ws.map er = [.ref a]) : TE Γ c ρ H (call (.builtin "len") ws) K X := fun g s R => by
  obtain ⟨v, rfl, e1⟩ := map1 hw
  rw [er_ref e1]
  obtain ⟨vs, n, h1, h2⟩ := R.base.sees _ _ h
  have hl : vs.size = xs.length := by rw [← h2, List.length_map, Array.length_toList]
  exact call_len_list ⟨_, h1, rfl, _, rfl⟩ (by omega) ⟨H, R.tok, by show K (.int vs.size 0) H; rw [hl]; exact k⟩
theorem bLenD {a : Addr} {es : List (Option Str × Value)} {ep : Nat} (h : H a = some (.dict es ep)) (hz : es.length ≤ 1000) (k : K (.int es.length 0) H) (ws : List Value) (hw : ws.map er = [.ref a]) : TE Γ c ρ H (call (.builtin "len") ws) K X := fun g s R => by
  obtain ⟨v, rfl, e1⟩ := map1 hw
  rw [er_ref e1]
  obtain ⟨kvs, h1, h2⟩ := R.base.sees _ _ h
  have hl : kvs.length = es.length := by rw [← h2, List.length_map]
  exact call_len_dict (knd := optKind PR Γ.w) (R.base.notSys h) h1.dictOf (by omega) ⟨H, R.tok, by show K (.int kvs.length 0) H; rw [hl]; exact k⟩
theorem uDict {a : Addr} {es : List (Option Str × Value)} {ep : Nat} {K : Bool → AH → Prop} (h : H a = some (.dict es ep)) (hz : es.length ≤ 1000) (k : K (!es.isEmpty) H) : Tru Γ c ρ H (.ref a) K X := fun v ev g s R => by
  rw [er_ref ev]
  obtain ⟨kvs, h1, h2⟩ := R.base.sees _ _ h
  have hl : kvs.length = es.length := by rw [← h2, List.length_map]
  have he : kvs.isEmpty = es.isEmpty := by rw [← h2]; cases kvs <;> rfl
  exact wpAny_truthy_dict (knd := optKind PR Γ.w) (R.base.notSys h) h1.dictOf (by omega) ⟨H, R.tok, by rw [he]; exact k⟩
/-- list(xs) -/
theorem bListL {a : Addr} {xs : List Value} (h : H a = some (.list xs)) (hz : xs.length ≤ 1000) (k : ∀ b, H b = none → K (.ref b) (upd H b (.list xs))) (ws : List Value) (hw : ws.map er = [.ref a]) : TE Γ c ρ H (call (.type "list") ws) K X := fun g s R => by
  obtain ⟨v, rfl, e1⟩ := map1 hw
  rw [er_ref e1]
  obtain ⟨vs, n, h1, h2⟩ := R.base.sees _ _ h
  have hl : vs.size = xs.length := by rw [← h2, List.length_map, Array.length_toList]
  refine call_list_seq a (.inl rfl) h1 rfl rfl (fun h' c' hk hb => ⟨_, (R.grow (tk := s.toks) hk).enter R.fresh (R.base.fresh (none_size _)).1 (R.base.fresh (none_size _)).2.1 (R.notOwn (none_size _)) (o := .list xs) ⟨vs, c', hb, h2⟩, k _ R.fresh⟩) (by rw [hl, sizeLine_eq]; omega)
theorem keys_of {kvs : List (Option Str × Value)} {es : List (Option Str × Value)} (h2 : kvs.map (fun p => (p.1, er p.2)) = es) {acc : List Value} (hn : acc.length = kvs.length) (hi : ∀ (j : Nat) (v : Value), acc[j]? = some v → ∃ k x, kvs[j]? = some (k, x) ∧ (optKind PR Γ.w).is k v = true) :
    acc.map er = es.map fun p : Option Str × Value => keyV p.1 := by
  apply List.ext_getElem?
  intro j
  rw [List.getElem?_map, List.getElem?_map, ← h2, List.getElem?_map]
  cases hj : acc[j]? with
  | none =>
    have : kvs[j]? = none := by rw [List.getElem?_eq_none_iff] at hj ⊢; omega
    rw [this]; rfl
  | some v =>
    obtain ⟨k, x, h3, h4⟩ := hi j v hj
    rw [h3]
    show some (er v) = some (keyV k)
    rw [optIs_er h4]
/-- list(dict) -/
theorem bListD {a : Addr} {es : List (Option Str × Value)} {ep : Nat} (hh : c.hd = true) (h : H a = some (.dict es ep)) (hz : es.length ≤ 1000) (k : ∀ b, H b = none → K (.ref b) (upd H b (.list (es.map fun p : Option Str × Value => keyV p.1)))) (ws : List Value) (hw : ws.map er = [.ref a]) : TE Γ c ρ H (call (.type "list") ws) K X := fun g s R => by
  obtain ⟨v, rfl, e1⟩ := map1 hw
  rw [er_ref e1]
  obtain ⟨kvs, h1, h2⟩ := R.base.sees _ _ h
  have hl : kvs.length = es.length := by rw [← h2, List.length_map]
  refine kdl_call (kdl_dict (knd := optKind PR Γ.w) (R.base.notSys h)) (R.fok.handled hh) h1 (by rw [hl, sizeLine_eq]; omega) fun h' tk acc' c' hk hb hi => ?_
  refine ⟨upd H s.heap.objs.size (.list (es.map fun p : Option Str × Value => keyV p.1)), (R.grow (tk := tk) hk).enter R.fresh (R.base.fresh (none_size _)).1 (R.base.fresh (none_size _)).2.1 (R.notOwn (none_size _)) ⟨acc', c', hb, ?_⟩, k _ R.fresh⟩
  exact keys_of h2 (by rw [Array.length_toList]; exact hi.1) fun j v e => hi.2 j v (by rw [← Array.getElem?_toList]; exact e)
/-- range(n) -/
noncomputable def rangeObj (n : Nat) (t u v : Tok) : Obj := { cls := .type "range", data := .fields #[.int 0 t, .int n u, .int 1 v] }
theorem bRange {n : Nat} (k : ∀ b t u v, H b = none → K (.ref b) (upd H b (.obj (rangeObj n t u v)))) (ws : List Value) (hw : ws.map er = [.int n 0]) : TE Γ c ρ H (call (.type "range") ws) K X := fun g s R => by
  obtain ⟨v, rfl, e1⟩ := map1 hw
  obtain ⟨t, rfl⟩ := er_int e1
  exact call_range_1 ⟨_, R.push (o := .obj (rangeObj n s.toks t (s.toks + 1))) (Heap.get?_push_size _ rfl), k _ _ _ _ R.fresh⟩
noncomputable def upto (n : Nat) : List Value := (List.range n).map fun (i : Nat) => Value.int (Int.ofNat i) 0
theorem upto_len (n : Nat) : (upto n).length = n := by simp [upto]
theorem itbRange {a : Addr} {n : Nat} {t u v : Tok} (h : H a = some (.obj (rangeObj n t u v))) (hn : n ≤ 1000) : Itb Γ H (.ref a) (upto n) (RangeIt n) (fun _ => True) where
  src := {
    notFrame := fun i o h => fun ⟨_, _, d⟩ => by rw [h.2.2.1] at d; cases d
    item := fun A g H' s I o i x Q E B hc e ⟨i1, i2, i3, i4, i5⟩ hx hQ => by
      obtain ⟨oc, od, oda, osl⟩ := o
      dsimp only at i1 i2 i3 i5
      subst i1 i2 i3 i5
      have hlt : i < n := by
        have := (List.getElem?_eq_some_iff.mp hx).1
        rwa [upto_len] at this
      have hxi : x = .int (i : Int) 0 := by
        have := (List.getElem?_eq_some_iff.mp hx).2
        rw [← this]; simp [upto]
      refine wpAny_pyNext_range_item (x := (i : Int)) (left := (n : Int) - i) (step := 1) e (by omega) fun h' hi hs => ?_
      refine hQ _ _ h' (s.toks + 1) (by rw [hxi]; rfl) ⟨rfl, rfl, ?_, hlt, rfl⟩ hi hs
      show Data.fields #[rawInt ((i : Int) + 1), rawInt ((n : Int) - i - 1), rawInt 1] = _
      rw [show (n : Int) - ((i + 1 : Nat) : Int) = (n : Int) - i - 1 by omega]; rfl
    done := fun A g H' s I o i Q E hh B hc e ⟨i1, i2, i3, i4, i5⟩ hx hQ => by
      obtain ⟨oc, od, oda, osl⟩ := o
      dsimp only at i1 i2 i3 i5
      subst i1 i2 i3 i5
      have hle : n ≤ i := by
        have := List.getElem?_eq_none_iff.mp hx
        rwa [upto_len] at this
      exact wpAny_pyNext_range_end (x := (i : Int)) (left := (n : Int) - i) (step := 1) hh e (by omega) hQ
    self := fun A s I o i Q E e ⟨i1, i2, i3, i4, i5⟩ hQ => by
      obtain ⟨oc, od, oda, osl⟩ := o
      dsimp only at i1 i2 i3 i5
      subst i1 i2 i3 i5
      exact wpAny_pyIter_rangeiter (x := (i : Int)) (left := (n : Int) - i) (step := 1) e hQ }
  hc := trivial
  make := fun A g s u' Q E B eu hQ => by
    rw [er_ref eu]
    have e := B.sees _ _ h
    have hsz : Builtin.Range.rangeSize 0 (n : Int) 1 = n := by rw [rangeSize_one]; split <;> omega
    refine wpAny_pyIter_range (a := 0) (b := n) (c := 1) e (small_one (by omega) (by omega) (by omega) (by omega)) (hQ _ ⟨rfl, rfl, ?_, Nat.zero_le _, rfl⟩ (Heap.get?_push_size _ rfl))
    rw [hsz]; simp
/-- max, min -/
theorem bMax {i j : Int} (hh : c.hd = true) (k : K (.int (if j > i then j else i) 0) H) (ws : List Value) (hw : ws.map er = [.int i 0, .int j 0]) : TE Γ c ρ H (call (.builtin "max") ws) K X := fun g s R => by
  obtain ⟨v, u, rfl, e1, e2⟩ := map2 hw
  obtain ⟨t, rfl⟩ := er_int e1; obtain ⟨t', rfl⟩ := er_int e2
  refine max_two_ints (R.fok.handled hh) fun h' tk hk => ⟨H, R.grow hk, ?_⟩
  by_cases hc : j > i
  · rw [if_pos hc] at k ⊢; exact k
  · rw [if_neg hc] at k ⊢; exact k
theorem bMin {i j : Int} (hh : c.hd = true) (k : K (.int (if j < i then j else i) 0) H) (ws : List Value) (hw : ws.map er = [.int i 0, .int j 0]) : TE Γ c ρ H (call (.builtin "min") ws) K X := fun g s R => by
  obtain ⟨v, u, rfl, e1, e2⟩ := map2 hw
  obtain ⟨t, rfl⟩ := er_int e1; obtain ⟨t', rfl⟩ := er_int e2
  refine min_two_ints (R.fok.handled hh) fun h' tk hk => ⟨H, R.grow hk, ?_⟩
  by_cases hc : j < i
  · rw [if_pos hc] at k ⊢; exact k
  · rw [if_neg hc] at k ⊢; exact k
/-- str(int), int(text) -/
theorem bStrI {i : Int} (hi : i.natAbs < 10 ^ 9) (k : K (.str (Str.ofString (toString i)) 0) H) (ws : List Value) (hw : ws.map er = [.int i 0]) : TE Γ c ρ H (call (.type "str") ws) K X := fun g s R => by
  obtain ⟨v, rfl, e1⟩ := map1 hw
  obtain ⟨t, rfl⟩ := er_int e1
  refine P.str_of_int ?_ ⟨H, R.tok, k⟩
  by_cases h0 : i.natAbs = 0
  · rw [h0]; decide
  · have := Nat.log2_lt h0 |>.mpr (show i.natAbs < 2 ^ 1920 from Nat.lt_of_lt_of_le hi (by
      calc 10 ^ 9 ≤ 2 ^ 30 := by decide
        _ ≤ 2 ^ 1920 := Nat.pow_le_pow_right (by decide) (by decide)))
    exact this
theorem bIntS {x : Str} {i : Int} (hn : PySem.intText? x = some i) (hl : x.length ≤ 640) (k : K (.int i 0) H) (ws : List Value) (hw : ws.map er = [.str x 0]) : TE Γ c ρ H (call (.type "int") ws) K X := fun g s R => by
  obtain ⟨v, rfl, e1⟩ := map1 hw
  obtain ⟨t, rfl⟩ := er_str e1
  exact KIN.call_text hn hl ⟨H, R.tok, k⟩
/-- isinstance(v, Vector) -/
theorem bIsVec {v : Addr} {kind : Str} {items ats : Value} (h : Vc H v kind items ats) (k : K (.bool true) H) (ws : List Value) (hw : ws.map er = [.ref v, .ref VectorC]) : TE Γ c ρ H (call (.builtin "isinstance") ws) K X := fun g s R => by
  obtain ⟨a, b, rfl, e1, e2⟩ := map2 hw
  rw [er_ref e1, er_ref e2]
  obtain ⟨dx, h1, h2⟩ := h
  obtain ⟨ds, n, z1, z2, I⟩ := instAt_of R.base h1 h2
  exact isi_call R.base.kin (fun M => I.type) (by rfl) (by simp) ⟨H, R, k⟩
/-- x + y, xs * n on lists -/
theorem oAddL {a b : Addr} {xs ys : List Value} (ha : H a = some (.list xs)) (hb : H b = some (.list ys)) (hz : xs.length + ys.length ≤ 1000) (k : ∀ d, H d = none → K (.ref d) (upd H d (.list (xs ++ ys)))) : Op2 Γ c ρ H (binaryOp .Add) (.ref a) (.ref b) K X := fun v w ev ew g s R => by
  rw [er_ref ev, er_ref ew]
  obtain ⟨vs, n, h1, h2⟩ := R.base.sees _ _ ha
  obtain ⟨us, m, h3, h4⟩ := R.base.sees _ _ hb
  have l1 : vs.size = xs.length := by rw [← h2, List.length_map, Array.length_toList]
  have l2 : us.size = ys.length := by rw [← h4, List.length_map, Array.length_toList]
  exact P.add_list h1 h3 ⟨_, R.push (o := .list (xs ++ ys)) (tk := s.toks) ⟨vs ++ us, 0, Heap.get?_push_size _ rfl, by simp [h2, h4]⟩, k _ R.fresh⟩ (by rw [l1, l2, sizeLine_eq]; omega)
theorem oMulL {a : Addr} {xs : List Value} {n : Nat} (ha : H a = some (.list xs)) (hz : xs.length * n ≤ 256) (hn : n ≤ 1000) (k : ∀ d, H d = none → K (.ref d) (upd H d (.list (List.replicate n xs).flatten))) : Op2 Γ c ρ H (binaryOp .Mult) (.ref a) (.int n 0) K X := fun v w ev ew g s R => by
  rw [er_ref ev]
  obtain ⟨t, rfl⟩ := er_int ew
  obtain ⟨vs, m, h1, h2⟩ := R.base.sees _ _ ha
  obtain ⟨mm, cm, L⟩ := R.loc
  have l1 : vs.toList.length = xs.length := by rw [← h2, List.length_map]
  have hl : s.heap.IsList a vs.toList.toArray := ⟨_, h1, rfl, m, by simp⟩
  refine KMa.mul (R.fr L) (ledger_news (h := s.heap)) hl (by omega) (by omega) (by rw [l1]; simpa using hz) rfl fun D h' F' N' hD => ?_
  have z := N' _ (.head _)
  have hn := R.newAt z.2.1 z.2.2 hD
  have fr := R.base.fresh hn
  refine ⟨_, (R.ofNews (tk := s.toks) L (fun p hp => .tail _ hp) F' N').enter fr.2.2 fr.1 fr.2.1 (R.notOwn hn) (o := .list (List.replicate n xs).flatten) ⟨_, 0, z.1, ?_⟩, k _ fr.2.2⟩
  rw [← h2]; simp [List.map_flatten, List.map_replicate]
/-- {} and {k: v} -/
theorem xDict0 {pos : Pos} (k : ∀ d, H d = none → K (.ref d) (upd H d (.dict [] 0))) : TX Γ c ρ H (.Dict [] [] pos) K X := fun g s R =>
  wpAny_Dict_empty ⟨_, R.push (o := .dict [] 0) (tk := s.toks) ⟨[], ⟨_, #[], Heap.get?_push_size _ rfl, ⟨rfl, rfl, rfl⟩, rfl, (fun e h => by simp at h), .nil, List.nodup_nil⟩, rfl⟩, k _ R.fresh⟩
theorem xDict1 {ke ve : Expr} {pos : Pos}
    (h : ∀ D, H D = none → TX Γ c ρ (upd H D (.dict [] 0)) ke (fun kv H1 => TX Γ c ρ H1 ve (fun vv H2 => ∃ kk, kv = keyV kk ∧ (∃ ep, H2 D = some (.dict [] ep)) ∧ ∀ ep', K (.ref D) (upd H2 D (.dict [(kk, vv)] ep'))) X) X) : TX Γ c ρ H (.Dict [some ke] [ve] pos) K X := fun g s R => by
  refine wpAny_Dict_pairs (knd := optKind PR Γ.w) (pairs := [(eval ke c.e, do let x ← eval ve c.e; standAt pos; pure x)]) rfl (by simp) (by simp) ?_
  have R1 : Rel Γ c g ρ (upd H s.heap.objs.size (.dict [] 0)) { s with heap := s.heap.push { cls := .type "dict", data := .dict #[] } } :=
    R.push (o := .dict [] 0) (tk := s.toks) ⟨[], ⟨_, #[], Heap.get?_push_size _ rfl, ⟨rfl, rfl, rfl⟩, rfl, (fun e h => by simp at h), .nil, List.nodup_nil⟩, rfl⟩
  refine evalPairs_cons (wpAny_mono (h _ R.fresh g _ R1) (fun kv s2 ⟨H2, R2, h2⟩ => wpAny_bind (wpAny_mono (h2 g s2 R2) (fun vv s3 ⟨H3, R3, kk, ek, ⟨ep, eD⟩, k⟩ => wpAny_bind (wpAny_standAt (wpAny_pure (evalPairs_nil ?_)))) fun _ _ z => z)) fun _ _ z => z)
  obtain ⟨kvs, z1, z2⟩ := R3.base.sees _ _ eD
  have e0 : kvs = [] := by cases kvs with | nil => rfl | cons _ _ => cases z2
  subst e0
  refine ⟨[(kk, vv)], ⟨optIs_of ek, rfl, trivial⟩, z1.dictOf, fun h' hd hs => ?_⟩
  obtain ⟨ep', hd'⟩ := hd.dictAt
  exact ⟨_, R3.change (o' := .dict [(kk, er vv)] ep') (tk := s3.toks + 1) eD hs ⟨_, hd', rfl⟩, k ep'⟩
/-- dict.get -/
theorem bGet {a : Addr} {es : List (Option Str × Value)} {ep : Nat} {kk : Option Str} {ws : List Value} (h : H a = some (.dict es ep)) (k : K ((dget es kk).getD .none) H) (hw : ws.map er = [.ref a, keyV kk]) : TE Γ c ρ H (call (.builtin "dict.get") ws) K X := fun g s R => by
  obtain ⟨v, u, rfl, e1, e2⟩ := map2 hw
  rw [er_ref e1]
  obtain ⟨kvs, z1, z2⟩ := R.base.sees _ _ h
  refine call_meetsIn PySem.F.slot_dict_get z1.dictOf.typeIs PySem.F.entry_dict_get (PySem.F.args_dict_get_2 _ _) (meets_dict_get (optKind PR Γ.w) a (k := kk) (optIs_of e2) (R.base.notSys h)) ⟨_, z1.dictOf.mapOf, H, R.tok, ?_⟩
  show K (er ((valueAt kvs kk).getD .none)) H
  rw [← z2, dget_map] at k
  cases hq : valueAt kvs kk with
  | none => rw [hq] at k; exact k
  | some v => rw [hq] at k; exact k
/-- k in d -/
theorem oInD {a : Addr} {es : List (Option Str × Value)} {ep : Nat} {kk : Option Str} (h : H a = some (.dict es ep)) (k : K (.bool (dget es kk).isSome) H) : Op2 Γ c ρ H (compareOp .In) (keyV kk) (.ref a) K X := fun v w ev ew g s R => by
  rw [er_ref ew]
  obtain ⟨kvs, z1, z2⟩ := R.base.sees _ _ h
  refine wpAny_in_of (knd := optKind PR Γ.w) (k := kk) (optIs_of ev) (R.base.notSys h) z1.dictOf.mapOf ⟨H, R.tok, ?_⟩
  rw [← z2, dget_map, Option.isSome_map] at k
  exact k
theorem oNotInD {a : Addr} {es : List (Option Str × Value)} {ep : Nat} {kk : Option Str} (h : H a = some (.dict es ep)) (k : K (.bool (!(dget es kk).isSome)) H) : Op2 Γ c ρ H (compareOp .NotIn) (keyV kk) (.ref a) K X := fun v w ev ew g s R => by
  rw [er_ref ew]
  obtain ⟨kvs, z1, z2⟩ := R.base.sees _ _ h
  refine wpAny_notIn_of (knd := optKind PR Γ.w) (k := kk) (optIs_of ev) (R.base.notSys h) z1.dictOf.mapOf ⟨H, R.tok, ?_⟩
  rw [← z2, dget_map, Option.isSome_map] at k
  exact k
/-- text.endswith(tail) -/
theorem bEnds {x y : Str} (k : K (.bool (Txt.endswith x y)) H) (ws : List Value) (hw : ws.map er = [.str x 0, .str y 0]) : TE Γ c ρ H (call (.builtin "str.endswith") ws) K X := fun g s R => by
  obtain ⟨v, u, rfl, e1, e2⟩ := map2 hw
  obtain ⟨t, rfl⟩ := er_str e1; obtain ⟨t', rfl⟩ := er_str e2
  exact SC.endswith ⟨H, R, k⟩
/-- list.index -/
theorem eqGives_str {x y : Str} {t u : Tok} : MeetsSeq.EqGives (.str x t) (.str y u) (decide (x = y)) := fun _ _ _ _ _ _ h => wpAny_eqBool_str h
theorem bIndex {a : Addr} {ss : List Str} {x : Str} {j : Nat} (h : H a = some (.list (ss.map sv))) (hz : ss.length ≤ 1000) (hj : ss[j]? = some x) (hno : ∀ m, m < j → ss[m]? ≠ some x) (k : K (.int j 0) H) (ws : List Value) (hw : ws.map er = [.ref a, .str x 0]) : TE Γ c ρ H (call (.builtin "list.index") ws) K X := fun g s R => by
  obtain ⟨v, u, rfl, e1, e2⟩ := map2 hw
  rw [er_ref e1]
  obtain ⟨t, rfl⟩ := er_str e2
  obtain ⟨vs, n, h1, h2⟩ := R.base.sees _ _ h
  have hl : vs.size = ss.length := by rw [← Array.length_toList, ← List.length_map (f := er), h2, List.length_map]
  have hat : ∀ (i : Nat) (hi : i < vs.size), ∃ y t', vs[i] = .str y t' ∧ ss[i]? = some y := fun i hi => by
    have e : (vs.toList.map er)[i]? = (ss.map sv)[i]? := by rw [h2]
    rw [List.getElem?_map, List.getElem?_map, Array.getElem?_toList, Array.getElem?_eq_getElem hi] at e
    have hi' : i < ss.length := by omega
    rw [List.getElem?_eq_getElem hi'] at e
    obtain ⟨t', e'⟩ := er_str (Option.some.inj e)
    exact ⟨_, t', e', List.getElem?_eq_getElem hi'⟩
  have hjl : j < vs.size := by rw [hl]; exact (List.getElem?_eq_some_iff.mp hj).1
  refine call_meets PySem.F.slot_list_index ⟨_, h1, rfl⟩ PySem.F.entry_list_index (PySem.F.args_list_index_2 _ _) (MeetsSeq.list_index a vs n (.str x t) (fun y => match y with | .str z _ => decide (z = x) | _ => false) (fun y hy => ?_) j hjl (by omega) ?_ fun m hm hmj => ?_) ⟨h1, H, R.tok, k⟩
  · obtain ⟨i, hi, rfl⟩ := Array.mem_iff_getElem.mp hy
    obtain ⟨z, t', e, _⟩ := hat i hi
    rw [e]; exact eqGives_str
  · obtain ⟨z, t', e, e'⟩ := hat j hjl
    rw [e]; rw [hj] at e'; cases e'; simp
  · obtain ⟨z, t', e, e'⟩ := hat m hm
    rw [e]
    have := hno m hmj
    rw [e'] at this
    simpa using this
/-- sorted(texts) -/
theorem strsAre_of : ∀ {vs : List Value} {ss : List Str}, vs.map er = ss.map sv → StrsAre vs ss
  | [], [], _ => .nil
  | [], _ :: _, h => by cases h
  | _ :: _, [], h => by cases h
  | v :: vs, x :: ss, h => by
    rw [List.map_cons, List.map_cons, List.cons.injEq] at h
    obtain ⟨t, rfl⟩ := er_str h.1
    exact .cons x t (strsAre_of h.2)
theorem strsAre_er : ∀ {vs : List Value} {ss : List Str}, StrsAre vs ss → vs.map er = ss.map sv
  | _, _, .nil => rfl
  | _, _, .cons x t h => by rw [List.map_cons, List.map_cons, strsAre_er h]; rfl
theorem bSortedL {a : Addr} {ss : List Str} (h : H a = some (.list (ss.map sv))) (hz : ss.length < 64) (k : ∀ b ss', ss'.Perm ss → sortedS ss' = true → H b = none → K (.ref b) (upd H b (.list (ss'.map sv)))) (ws : List Value) (hw : ws.map er = [.ref a]) : TE Γ c ρ H (call (.builtin "sorted") ws) K X := fun g s R => by
  obtain ⟨v, rfl, e1⟩ := map1 hw
  rw [er_ref e1]
  obtain ⟨vs, n, h1, h2⟩ := R.base.sees _ _ h
  obtain ⟨mm, cm, L⟩ := R.loc
  have hl : vs.toList.length = ss.length := by rw [← List.length_map (f := er), h2, List.length_map]
  refine sorted_N_str (R.fr L) (ledger_news (h := s.heap)) (vs := vs.toList) (l := a) ⟨_, h1, rfl, n, by simp⟩ (strsAre_of h2) (by rw [hl]; exact hz) fun h' vs' ss' e F' N' hS hp hs => ?_
  have z := N' _ (.head _)
  have hn : s.heap.get? (s.heap.objs.size + 1) = none := by
    cases q : s.heap.get? (s.heap.objs.size + 1) with
    | none => rfl
    | some o => exact absurd (Heap.lt_size q) (Nat.not_lt.mpr (Nat.le_succ _))
  have fr := R.base.fresh hn
  exact ⟨_, (R.ofNews (tk := s.toks) L (fun p hp => .tail _ hp) F' N').enter fr.2.2 fr.1 fr.2.1 (R.notOwn hn) (o := .list (ss'.map sv)) ⟨_, e, z.1, by rw [← strsAre_er hS]⟩, k _ ss' hp hs fr.2.2⟩
theorem bSortedD {a : Addr} {ss : List Str} {es : List (Option Str × Value)} {ep : Nat} (hh : c.hd = true) (h : H a = some (.dict es ep)) (he : es.map (·.1) = ss.map some) (hz : ss.length < 64) (k : ∀ b ss', ss'.Perm ss → sortedS ss' = true → H b = none → K (.ref b) (upd H b (.list (ss'.map sv)))) (ws : List Value) (hw : ws.map er = [.ref a]) :
    TE Γ c ρ H (call (.builtin "sorted") ws) K X := fun g s R => by
  obtain ⟨v, rfl, e1⟩ := map1 hw
  rw [er_ref e1]
  obtain ⟨kvs, h1, h2⟩ := R.base.sees _ _ h
  obtain ⟨mm, cm, L⟩ := R.loc
  have hl : kvs.length = es.length := by rw [← h2, List.length_map]
  have hl2 : es.length = ss.length := by rw [← List.length_map (f := (·.1)), he, List.length_map]
  refine kdu_sorted (kdl_dict (knd := optKind PR Γ.w) (R.base.notSys h)) (R.fok.handled hh) (R.fr L) (ledger_news (h := s.heap)) h1 (by rw [hl, sizeLine_eq]; omega) fun D h' tk vs F' N' hD hvl hi => ?_
  have hz' := N' _ (.head _)
  have hn := R.newAt hz'.2.1 hz'.2.2 hD
  have fr := R.base.fresh hn
  have hk := keys_of h2 hvl fun j v e => hi j v e
  have hS : StrsAre vs ss := strsAre_of (by
    rw [hk]
    have : es.map (fun p : Option Str × Value => keyV p.1) = (es.map (·.1)).map keyV := by rw [List.map_map]; rfl
    rw [this, he, List.map_map]; rfl)
  have R1 := R.ofNews (tk := tk) L (fun p hp => .tail _ hp) F' N'
  refine wpAny_call_entry slot_list_sort ⟨_, hz'.1, rfl⟩ entry_list_sort (list_sort_treeK strKind_oneLt (n := 0) hz'.1 hS.keysOf (fun v₁ v₂ rest e => keyKind_strs (by rw [← e]; exact hS)) (by rw [hvl]; omega) fun st' a1 a2 => ?_) (args_list_sort _)
  obtain ⟨ss', b1, b2, b3⟩ := sorted_out_str hS a1 a2
  refine ⟨_, rfl, ?_⟩
  obtain ⟨e, he'⟩ := sortedHeap_at (h := h') (a := D) (vs := vs) (n := 0) (out := (arrOf st').map (·.2)) hz'.1
  have R2 := R1.hidden (h' := sortedHeap h' D vs ((arrOf st').map (·.2))) (tk := tk) fr.1 fr.2.1 fr.2.2 (R.notOwn hn) fun b o hb q => (sortedHeap_old hb (Heap.lt_size q)).trans q
  exact ⟨_, R2.enter fr.2.2 fr.1 fr.2.1 (R.notOwn hn) (o := .list (ss'.map sv)) ⟨_, e, he', by rw [← strsAre_er b1]⟩, k _ ss' b2 b3 fr.2.2⟩
end

-- MTab
/-! the globals by their code points -/
noncomputable def eqL : List Nat → List Nat → Bool
  | [], [] => true
  | a :: as, b :: bs => bif Nat.beq a b then eqL as bs else false
  | _, _ => false
theorem eqL_eq : ∀ {a b : List Nat}, eqL a b = true → a = b
  | [], [], _ => rfl
  | [], _ :: _, h => by cases h
  | _ :: _, [], h => by cases h
  | a :: as, b :: bs, h => by
    have h : (bif Nat.beq a b then eqL as bs else false) = true := h
    cases q : Nat.beq a b with
    | false => rw [q] at h; cases h
    | true => rw [q] at h; rw [Nat.eq_of_beq_eq_true q, eqL_eq (a := as) (b := bs) h]
noncomputable def findL {α : Type} : List (List Nat × α) → List Nat → Option α
  | [], _ => none
  | p :: r, k => bif eqL p.1 k then some p.2 else findL r k
theorem findL_mem {α : Type} {k : List Nat} {v : α} : ∀ {t : List (List Nat × α)}, findL t k = some v → (k, v) ∈ t
  | [], h => by cases h
  | p :: r, h => by
    have h : (bif eqL p.1 k then some p.2 else findL r k) = some v := h
    cases q : eqL p.1 k with
    | false => rw [q] at h; exact .tail _ (findL_mem h)
    | true => rw [q] at h; cases h; rw [← eqL_eq q]; exact .head _
noncomputable def cpsL (x : Str) : List Nat := x.cps.toList
theorem cpsL_str (x : Str) : x = ⟨(cpsL x).toArray⟩ := rfl
noncomputable def gloT : List (List Nat × Nat) := [([114,101,99,121,99,108,101,95,108,101,110,103,116,104], 313), ([110,111,116,101,95,114,101,99,121,99,108,105,110,103], 320), ([114,101,115,117,108,116,95,100,105,109], 334), ([110,111,116,101,95,97,114,114,97,121,95,111,102,95,111,110,101], 341), ([99,111,109,109,111,110,95,108,101,110,103,116,104], 348), ([97,116,116,114,105,98,117,116,101], 355), ([115,104,97,112,101,95,97,116,116,114,115], 362), ([116,111,95,116,101,120,116], 369), ([104,111,108,100,115], 376), ([112,108,97,105,110,95,111,114,100,101,114], 383), ([99,111,109,112,97,114,97,98,108,101], 390), ([116,101,120,116,95,105,116,101,109,115], 395), ([99,111,109,112,97,114,101,95,111,112], 406), ([105,115,95,102,97,99,116,111,114], 480), ([105,115,95,111,114,100,101,114,101,100], 487), ([108,101,118,101,108,95,116,101,120,116,115], 492), ([99,111,100,101,115,95,105,110], 497), ([102,97,99,116,111,114,95,116,101,120,116,115], 502), ([102,97,99,116,111,114,95,99,108,97,115,115], 509), ([119,105,116,104,95,108,101,118,101,108,115], 516), ([100,105,115,116,105,110,99,116,95,116,101,120,116,115], 523), ([99,111,100,101,115,95,111,102], 533), ([105,116,101,109,95,116,101,120,116,115], 540), ([108,97,98,101,108,95,108,105,115,116], 545), ([99,104,101,99,107,95,100,105,115,116,105,110,99,116], 552), ([109,97,107,101,95,102,97,99,116,111,114], 557), ([99,111,100,101,115,95,97,108,111,110,101], 569), ([114,101,108,101,118,101,108,108,101,100], 574), ([109,101,97,110,105,110,103,108,101,115,115], 581), ([116,101,120,116,95,118,101,99,116,111,114], 588), ([99,104,101,99,107,95,115,97,109,101,95,108,101,118,101,108,115], 595), ([99,111,109,112,97,114,101,95,111,114,100,101,114,101,100], 602), ([99,111,109,112,97,114,101,95,102,97,99,116,111,114], 609), ([99,104,101,99,107,95,102,97,99,116,111,114], 616), ([98,95,115,101,116,95,108,101,118,101,108,115,95,102,97,99,116,111,114], 621), ([95,108,97,119,95,103,114,97,105,110,115], 628), ([95,108,97,119,95,103,114,97,105,110], 635), ([95,108,97,119,95,100,114,97,119,110], 640), ([95,108,97,119,95,114,111,119,95,111,102,95,108,101,118,101,108,115], 647), ([95,108,97,119,95,99,111,100,101,115], 652), ([95,108,97,119,95,99,108,97,115,115,101,115], 659), ([95,108,97,119,95,102,97,99,116,111,114], 666), ([95,108,97,119,95,105,115], 673), ([95,108,97,119,95,114,101,110,97,109,101,100], 678), ([95,108,97,119,95,108,97,115,116,95,104,101,97,100], 685), ([95,108,97,119,95,118,101,114,100,105,99,116], 692), ([95,108,97,119,95,99,111,109,112,97,114,101,100], 699), ([95,108,97,119,95,114,105,103,104,116], 704), ([86,101,99,116,111,114], 203), ([82,101,102,117,115,97,108], 51), ([115,101,116,116,101,114,95,97,114,103,115], 60), ([108,111,103,105,99,97,108], 214), ([105,110,116,101,103,101,114], 221), ([99,104,97,114,97,99,116,101,114], 228), ([110,97,109,101,100], 235), ([108,101,110,103,116,104], 249), ([105,115,95,97,116,111,109,105,99], 256), ([103,101,116,95,97,116,116,114], 263), ([108,97,98,101,108,95,116,101,120,116], 270), ([108,97,98,101,108,95,116,101,120,116,115], 282), ([110,97,109,101,115,95,111,102], 287), ([100,105,109,95,111,102], 294), ([99,108,97,115,115,95,97,116,116,114], 306)]
noncomputable def buiT : List (List Nat × String) := [([108,101,110], "len"), ([109,97,120], "max"), ([109,105,110], "min"), ([115,111,114,116,101,100], "sorted"), ([105,115,105,110,115,116,97,110,99,101], "isinstance")]
noncomputable def typT : List (List Nat × String) := [([108,105,115,116], "list"), ([105,110,116], "int"), ([115,116,114], "str"), ([114,97,110,103,101], "range")]
noncomputable def gloOk (w : World) (p : List Nat × Nat) : Bool := (match nsIn (KK w) mainGlobals ⟨p.1.toArray⟩ with | some (some (.ref a)) => Nat.beq a p.2 | _ => false) && keepIn (KK w) (.ref p.2)
noncomputable def buiOk (w : World) (p : List Nat × String) : Bool := (match nsIn (KK w) mainGlobals ⟨p.1.toArray⟩ with | some none => true | _ => false) && (match bootBuiltins ⟨p.1.toArray⟩ with | some (.builtin c) => decide (c = p.2) | _ => false) && !(eqL p.1 (cpsL "__name__"))
noncomputable def typOk (w : World) (p : List Nat × String) : Bool := (match nsIn (KK w) mainGlobals ⟨p.1.toArray⟩ with | some none => true | _ => false) && (match bootBuiltins ⟨p.1.toArray⟩ with | some (.type c) => decide (c = p.2) | _ => false) && !(eqL p.1 (cpsL "__name__"))
theorem gloT_ok (w : World) : gloT.all (gloOk w) = true := by kernel_rfl
theorem buiT_ok (w : World) : buiT.all (buiOk w) = true := by kernel_rfl
theorem typT_ok (w : World) : typT.all (typOk w) = true := by kernel_rfl
theorem eqL_refl : ∀ a : List Nat, eqL a a = true
  | [] => rfl
  | a :: as => by
    show (bif Nat.beq a a then eqL as as else false) = true
    rw [Nat.beq_refl]; exact eqL_refl as
theorem notName {x : Str} (h : (!(eqL (cpsL x) (cpsL "__name__"))) = true) : x ≠ "__name__" := by
  rintro rfl
  rw [eqL_refl] at h; cases h
theorem glo_of (w : World) {x : Str} {n : Addr} (h : findL gloT (cpsL x) = some n) : nsIn (KK w) mainGlobals x = some (some (.ref n)) ∧ keepIn (KK w) (.ref n) = true := by
  have z := List.all_eq_true.mp (gloT_ok w) _ (findL_mem h)
  obtain ⟨z1, z2⟩ := Bool.and_eq_true_iff.mp z
  refine ⟨?_, z2⟩
  dsimp only at z1
  rw [← cpsL_str x] at z1
  split at z1
  · rename_i a e; rw [e, Nat.eq_of_beq_eq_true z1]
  · cases z1
theorem bui_of (w : World) {x : Str} {b : String} (h : findL buiT (cpsL x) = some b) : nsIn (KK w) mainGlobals x = some none ∧ bootBuiltins x = some (.builtin b) ∧ x ≠ "__name__" := by
  have z := List.all_eq_true.mp (buiT_ok w) _ (findL_mem h)
  obtain ⟨z12, z3⟩ := Bool.and_eq_true_iff.mp z
  obtain ⟨z1, z2⟩ := Bool.and_eq_true_iff.mp z12
  dsimp only at z1 z2
  rw [← cpsL_str x] at z1 z2
  refine ⟨?_, ?_, notName z3⟩
  · split at z1
    · assumption
    · cases z1
  · split at z2
    · rename_i c e; rw [e, of_decide_eq_true z2]
    · cases z2
theorem typ_of (w : World) {x : Str} {b : String} (h : findL typT (cpsL x) = some b) : nsIn (KK w) mainGlobals x = some none ∧ bootBuiltins x = some (.type b) ∧ x ≠ "__name__" := by
  have z := List.all_eq_true.mp (typT_ok w) _ (findL_mem h)
  obtain ⟨z12, z3⟩ := Bool.and_eq_true_iff.mp z
  obtain ⟨z1, z2⟩ := Bool.and_eq_true_iff.mp z12
  dsimp only at z1 z2
  rw [← cpsL_str x] at z1 z2
  refine ⟨?_, ?_, notName z3⟩
  · split at z1
    · assumption
    · cases z1
  · split at z2
    · rename_i c e; rw [e, of_decide_eq_true z2]
    · cases z2

-- MWalk
section
variable {Γ : Gl} {c : Fm} {g : Prot} {ρ : Loc} {H H' H'' : AH} {s : Shared} {K : KP} {X : XP}

@[reducible] noncomputable def kBA2 (Γ : Gl) (c : Fm) (ρ : Loc) (X : XP) (K : KP) (r : List Expr) (v : Value) : Bool → AH → Prop := fun t H2 => if t then BoolP Γ c ρ .And K X r H2 else K v H2
@[reducible] noncomputable def kBO2 (Γ : Gl) (c : Fm) (ρ : Loc) (X : XP) (K : KP) (r : List Expr) (v : Value) : Bool → AH → Prop := fun t H2 => if t then K v H2 else BoolP Γ c ρ .Or K X r H2
@[reducible] noncomputable def kBA (Γ : Gl) (c : Fm) (ρ : Loc) (X : XP) (K : KP) (r : List Expr) : KP := fun v H1 => Tru Γ c ρ H1 v (kBA2 Γ c ρ X K r v) X
@[reducible] noncomputable def kBO (Γ : Gl) (c : Fm) (ρ : Loc) (X : XP) (K : KP) (r : List Expr) : KP := fun v H1 => Tru Γ c ρ H1 v (kBO2 Γ c ρ X K r v) X
theorem bpLast {op : BoolOp} {x : Expr} (h : TX Γ c ρ H x K X) : BoolP Γ c ρ op K X [x] H := h
theorem bpAnd {x y : Expr} {r : List Expr} (h : TX Γ c ρ H x (kBA Γ c ρ X K (y :: r)) X) : BoolP Γ c ρ .And K X (x :: y :: r) H :=
  h.mono (fun v H1 z => fun u hu => TA.mono (z u hu) (fun t H2 q => by cases t <;> exact q) fun _ _ z => z) fun _ _ z => z
theorem bpOr {x y : Expr} {r : List Expr} (h : TX Γ c ρ H x (kBO Γ c ρ X K (y :: r)) X) : BoolP Γ c ρ .Or K X (x :: y :: r) H :=
  h.mono (fun v H1 z => fun u hu => TA.mono (z u hu) (fun t H2 q => by cases t <;> exact q) fun _ _ z => z) fun _ _ z => z
theorem tlNil {K : List Value → AH → Prop} (h : K [] H) : TL Γ c ρ [] H K X := h
theorem tlCons {e : Expr} {r : List Expr} {K : List Value → AH → Prop} (h : TX Γ c ρ H e (kTL Γ c ρ X K r) X) : TL Γ c ρ (e :: r) H K X := h
/-- the value of a plain operand -/
noncomputable def sxn (k : Option NameKind) (v : Option Value) : Option Value := match k with
  | some .local => v
  | some .cell => v
  | _ => none
noncomputable def sx (names : List (Str × NameKind)) (ρ : Loc) : Expr → Option Value
  | .Name x _ => bif x == ("__debug__" : Str) then none else sxn (names.lookup x) (ρ x)
  | .Constant .none _ _ => some .none
  | .Constant (.bool b) _ _ => some (.bool b)
  | .Constant (.int i) _ _ => some (.int i 0)
  | .Constant (.str t) _ _ => some (.str t 0)
  | _ => none
noncomputable def sxs (names : List (Str × NameKind)) (ρ : Loc) : List Expr → Option (List Value)
  | [] => some []
  | e :: r => match sx names ρ e with
    | some v => (match sxs names ρ r with
      | some vs => some (v :: vs)
      | none => none)
    | none => none
theorem xS {e : Expr} {v : Value} {K : KP} {names : List (Str × NameKind)} (hs : c.e.scope.names = names) (he : sx names ρ e = some v) (h : K v H) : TX Γ c ρ H e K X := by
  cases e with
  | Name x p =>
    cases hd : (x == ("__debug__" : Str)) with
    | true =>
      have he : (bif (x == ("__debug__" : Str)) then none else sxn (names.lookup x) (ρ x)) = some v := he
      rw [hd] at he
      cases he
    | false =>
      have he : (bif (x == ("__debug__" : Str)) then none else sxn (names.lookup x) (ρ x)) = some v := he
      rw [hd] at he
      cases hk : names.lookup x with
      | none => rw [hk] at he; cases he
      | some k =>
        rw [hk] at he
        cases k with
        | «local» => exact xLoc hs hk he h hd
        | cell => exact xCel hs hk he h hd
        | _ => cases he
  | Constant k a b =>
    cases k with
    | none => cases he; exact xNone h
    | bool b => cases he; exact xBool h
    | int i => cases he; exact xInt h
    | str t => cases he; exact xStr h
    | _ => cases he
  | _ => cases he
theorem tlS {names : List (Str × NameKind)} (hs : c.e.scope.names = names) : ∀ {es : List Expr} {vs : List Value} {K : List Value → AH → Prop}, sxs names ρ es = some vs → K vs H → TL Γ c ρ es H K X := by
  intro es
  induction es with
  | nil => intro vs K he h; cases he; exact h
  | cons e r ih =>
    intro vs K he h
    have he : (match sx names ρ e with | some v => (match sxs names ρ r with | some vs => some (v :: vs) | none => none) | none => none) = some vs := he
    cases hv : sx names ρ e with
    | none => rw [hv] at he; cases he
    | some v =>
      cases hvs : sxs names ρ r with
      | none => rw [hv, hvs] at he; cases he
      | some vs' =>
        rw [hv, hvs] at he
        cases he
        exact xS hs hv (ih hvs h)
theorem tlConsS {e : Expr} {r : List Expr} {v : Value} {K : List Value → AH → Prop} {names : List (Str × NameKind)} (hs : c.e.scope.names = names) (he : sx names ρ e = some v) (h : TL Γ c ρ r H (kCons K v) X) : TL Γ c ρ (e :: r) H K X := xS hs he h
theorem tCmpS {l r : Expr} {op pos} {a b : Value} {K : Bool → AH → Prop} {names : List (Str × NameKind)} (hm : behindInMarks op r = false) (hs : c.e.scope.names = names) (ha : sx names ρ l = some a) (hb : sx names ρ r = some b) (h : Op2 Γ c ρ H (compareOp op) a b (kQ K) X) : TT Γ c ρ H (.Compare l [op] [r] pos) K X := tCmp hm (xS hs ha (xS hs hb h))
theorem xCmpS {l r : Expr} {op pos} {a b : Value} {K : KP} {names : List (Str × NameKind)} (hm : behindInMarks op r = false) (hs : c.e.scope.names = names) (ha : sx names ρ l = some a) (hb : sx names ρ r = some b) (h : Op2 Γ c ρ H (compareOp op) a b K X) : TX Γ c ρ H (.Compare l [op] [r] pos) K X := xCmp hm (xS hs ha (xS hs hb h))
theorem xBinS {l r : Expr} {op pos} {a b : Value} {K : KP} {names : List (Str × NameKind)} (hs : c.e.scope.names = names) (ha : sx names ρ l = some a) (hb : sx names ρ r = some b) (h : Op2 Γ c ρ H (binaryOp op) a b K X) : TX Γ c ρ H (.BinOp l op r pos) K X := xBin (xS hs ha (xS hs hb h))
theorem xSubS {value slice : Expr} {pos : Pos} {a b : Value} {K : KP} {names : List (Str × NameKind)} (hs : c.e.scope.names = names) (ha : sx names ρ value = some a) (hb : sx names ρ slice = some b) (h : SubK H K a b) (ht : ∀ o i, subscripted slice false o i = operate [o, i] (getItem o i)) : TX Γ c ρ H (.Subscript value slice pos) K X := xSub (xS hs ha (xS hs hb h)) ht
/-- a call of a global function or class -/
theorem xCallG {id : Str} {p pos : Pos} {args : List Expr} {fa : Addr} {names : Names} (hs : c.e.scope.names = names) (hk : names.lookup id = some .globalImplicit) (hv : findL gloT (cpsL id) = some fa) (he : plainE args c.e pos)
    (h : TL Γ c ρ args H (kCal Γ c ρ X K (.ref fa)) X) (hd : (id == ("__debug__" : Str)) = false) : TX Γ c ρ H (.Call (.Name id p) args [] pos) K X :=
  xCall he (xGlo hs hk (glo_of Γ.w hv).1 ⟨rfl, fun v h => er_ref h, .inr (.inr (glo_of Γ.w hv).2), h.mono fun vs H2 z => ⟨.inr (.inr (glo_of Γ.w hv).2), z⟩⟩ hd)
/-- a call of a builtin -/
theorem xCallB {id : Str} {p pos : Pos} {args : List Expr} {b : String} {names : Names} (hs : c.e.scope.names = names) (hk : names.lookup id = some .globalImplicit) (hv : findL buiT (cpsL id) = some b) (he : plainE args c.e pos)
    (h : TL Γ c ρ args H (kCal Γ c ρ X K (.builtin b)) X) (hd : (id == ("__debug__" : Str)) = false) : TX Γ c ρ H (.Call (.Name id p) args [] pos) K X :=
  let z := bui_of Γ.w hv
  xCall he (xBui hs hk z.1 z.2.1 z.2.2 ⟨rfl, fun v h => er_builtin h, .inl ⟨_, rfl⟩, h.mono fun vs H2 z => ⟨.inl ⟨_, rfl⟩, z⟩⟩ hd)
theorem xCallT {id : Str} {p pos : Pos} {args : List Expr} {b : String} {names : Names} (hs : c.e.scope.names = names) (hk : names.lookup id = some .globalImplicit) (hv : findL typT (cpsL id) = some b) (he : plainE args c.e pos)
    (h : TL Γ c ρ args H (kCal Γ c ρ X K (.type b)) X) (hd : (id == ("__debug__" : Str)) = false) : TX Γ c ρ H (.Call (.Name id p) args [] pos) K X :=
  let z := typ_of Γ.w hv
  xCall he (xBui hs hk z.1 z.2.1 z.2.2 ⟨rfl, fun v h => er_type h, .inr (.inl ⟨_, rfl⟩), h.mono fun vs H2 z => ⟨.inr (.inl ⟨_, rfl⟩), z⟩⟩ hd)
theorem FS.use {k : Nat} {fa : Addr} {vs ws : List Value} {K' : KP} {X' : XP} (hk : k ≤ c.k) (hh : c.hd = true) (hw : ws.map er = vs) (h : FS Γ k fa H vs K' X') (hK : ∀ v H', K' v H' → K v H') (hX : ∀ m H', X' m H' → X m H') : TE Γ c ρ H (call (.ref fa) ws) K X :=
  (h.mono hK hX).te hk hh hw
theorem FS.use' {k : Nat} {fa : Addr} {vs ws : List Value} {K' : KP} (hk : k ≤ c.k) (hh : c.hd = true) (hw : ws.map er = vs) (h : FS Γ k fa H vs K' nX) (hK : ∀ v H', K' v H' → K v H') : TE Γ c ρ H (call (.ref fa) ws) K X :=
  (h.mono hK fun _ _ z => z.elim).te hk hh hw
/-- what a call gives, taken apart without a look at the goal -/
theorem eRE {α : Type} {P : α → AH → Prop} {a : α} {B : AH → Prop} (h : ∀ H', B H' → P a H') : ∀ r H', (r = a ∧ B H') → P r H' := fun _ H' z => z.1 ▸ h H' z.2
theorem eRR {α : Type} {P : α → AH → Prop} {a : α} {H : AH} (h : P a H) : ∀ r H', (r = a ∧ H' = H) → P r H' := fun _ _ z => z.1 ▸ z.2 ▸ h
theorem eN1 {α β : Type} {P : α → AH → Prop} {f : β → α} {B : β → AH → Prop} (h : ∀ x H', B x H' → P (f x) H') : ∀ r H', (∃ x, r = f x ∧ B x H') → P r H' := fun _ H' ⟨x, e, b⟩ => e ▸ h x H' b
theorem eN2 {α β : Type} {P : α → AH → Prop} {f : β → α} {B C : β → AH → Prop} (h : ∀ x H', B x H' → C x H' → P (f x) H') : ∀ r H', (∃ x, r = f x ∧ B x H' ∧ C x H') → P r H' := fun _ H' ⟨x, e, b, d⟩ => e ▸ h x H' b d
theorem eN3 {α β : Type} {P : α → AH → Prop} {f : β → α} {B C D : β → AH → Prop} (h : ∀ x H', B x H' → C x H' → D x H' → P (f x) H') : ∀ r H', (∃ x, r = f x ∧ B x H' ∧ C x H' ∧ D x H') → P r H' := fun _ H' ⟨x, e, b, d, g⟩ => e ▸ h x H' b d g
theorem eV2 {α β γ : Type} {P : α → AH → Prop} {f : β → γ → α} {B : β → γ → AH → Prop} (h : ∀ x y H', B x y H' → P (f x y) H') : ∀ r H', (∃ x y, r = f x y ∧ B x y H') → P r H' := fun _ H' ⟨x, y, e, b⟩ => e ▸ h x y H' b
theorem eV3 {α β γ δ : Type} {P : α → AH → Prop} {f : β → γ → δ → α} {B : β → γ → δ → AH → Prop} (h : ∀ x y z H', B x y z H' → P (f x y z) H') : ∀ r H', (∃ x y z, r = f x y z ∧ B x y z H') → P r H' := fun _ H' ⟨x, y, z, e, b⟩ => e ▸ h x y z H' b
theorem eG1 {α : Type} {P : α → AH → Prop} {a : α} {A B : AH → Prop} (h : ∀ H', A H' → B H' → P a H') : ∀ r H', (A H' ∧ r = a ∧ B H') → P r H' := fun _ H' z => z.2.1 ▸ h H' z.1 z.2.2
theorem eG2 {α β : Type} {P : α → AH → Prop} {f : β → α} {A : AH → Prop} {B : β → AH → Prop} (h : ∀ x H', A H' → B x H' → P (f x) H') : ∀ r H', (A H' ∧ ∃ x, r = f x ∧ B x H') → P r H' := fun _ H' ⟨a, x, e, b⟩ => e ▸ h x H' a b
theorem eG3 {α β : Type} {P : α → AH → Prop} {f : β → α} {A : AH → Prop} {B C : β → AH → Prop} (h : ∀ x H', A H' → B x H' → C x H' → P (f x) H') : ∀ r H', (A H' ∧ ∃ x, r = f x ∧ B x H' ∧ C x H') → P r H' := fun _ H' ⟨a, x, e, b, d⟩ => e ▸ h x H' a b d
theorem FS.uses' {k : Nat} {fa : Addr} {vs : List Value} {K' : KP} (hk : k ≤ c.k) (hh : c.hd = true) (h : FS Γ k fa H vs K' nX) (hK : ∀ v H', K' v H' → K v H') : ∀ ws : List Value, ws.map er = vs → TE Γ c ρ H (call (.ref fa) ws) K X := fun _ hw => FS.use' hk hh hw h hK
theorem FS.uses {k : Nat} {fa : Addr} {vs : List Value} {K' : KP} {X' : XP} (hk : k ≤ c.k) (hh : c.hd = true) (h : FS Γ k fa H vs K' X') (hK : ∀ v H', K' v H' → K v H') (hX : ∀ m H', X' m H' → X m H') : ∀ ws : List Value, ws.map er = vs → TE Γ c ρ H (call (.ref fa) ws) K X := fun _ hw => FS.use hk hh hw h hK hX
theorem LaidF.le {names : Names} {k n : Nat} (h : LaidF c names k) (hn : n ≤ k) : n ≤ c.k := by rw [h.k]; exact hn
/-- a new Vector -/
structure NV (H H' : AH) (v dx : Addr) (kind : Str) (items ats : Value) : Prop where
  ext : Ext H H'
  nv : H v = none
  nd : H dx = none
  ne : v ≠ dx
  iv : H' v = some (.inst VectorC dx)
  id : H' dx = some (.ns (vecNs kind items ats))
theorem NV.vc {v dx : Addr} {kind : Str} {items ats : Value} (x : NV H H' v dx kind items ats) : Vc H' v kind items ats := ⟨dx, x.iv, x.id⟩
theorem NV.up {v dx : Addr} {kind : Str} {items ats : Value} (x : NV H H' v dx kind items ats) (e : Ext H' H'') : NV H H'' v dx kind items ats := ⟨x.ext.trans e, x.nv, x.nd, x.ne, e _ _ x.iv, e _ _ x.id⟩
theorem none_of_ext {a : Addr} (e : Ext H H') (h : H' a = none) : H a = none := by
  cases q : H a with
  | none => rfl
  | some o => rw [e _ _ q] at h; cases h
theorem NV.down {v dx : Addr} {kind : Str} {items ats : Value} (e : Ext H H') (x : NV H' H'' v dx kind items ats) : NV H H'' v dx kind items ats :=
  ⟨e.trans x.ext, none_of_ext e x.nv, none_of_ext e x.nd, x.ne, x.iv, x.id⟩
theorem NV.set {v dx : Addr} {kind kind' : Str} {items ats items' ats' : Value} (x : NV H H' v dx kind items ats) : NV H (upd H' dx (.ns (vecNs kind' items' ats'))) v dx kind' items' ats' :=
  ⟨x.ext.upd' x.nd, x.nv, x.nd, x.ne, by rw [upd_ne x.ne]; exact x.iv, upd_self⟩
theorem uAttrs {v dx : Addr} {kind : Str} {items ats val : Value} {K : Loc → AH → Prop} {X : XS} (ha : H v = some (.inst VectorC dx)) (hd : H dx = some (.ns (vecNs kind items ats))) (k : K ρ (upd H dx (.ns (vecNs kind items val)))) {u w : Value} (hu : er u = .ref v) (hw : er w = val) :
    TU Γ c ρ H (setAttr u "attrs" w) K X := tSet (set_attrs Γ.w) ha hd (by show 5 < 1000; decide) k hu hw
theorem uItems {v dx : Addr} {kind : Str} {items ats val : Value} {K : Loc → AH → Prop} {X : XS} (ha : H v = some (.inst VectorC dx)) (hd : H dx = some (.ns (vecNs kind items ats))) (k : K ρ (upd H dx (.ns (vecNs kind val ats)))) {u w : Value} (hu : er u = .ref v) (hw : er w = val) :
    TU Γ c ρ H (setAttr u "items" w) K X := tSet (set_items Γ.w) ha hd (by show 5 < 1000; decide) k hu hw
theorem fs_vec3 {kind : Str} {items : Value} : FS Γ 2 VectorC H [.str kind 0, items] (fun r H' => ∃ v dx, r = .ref v ∧ NV H H' v dx kind items .none) nX :=
  FS.make (makeVec Γ.w) fun x dx hne hx hd => (fs_init3 upd_self (by rw [upd_ne hne.symm, upd_self])).mono (fun v H' ⟨h1, h2⟩ => ⟨h1, x, dx, rfl, by
    subst h2
    exact ⟨((Ext.new hd).upd' hx).upd' hd, hx, hd, hne, by rw [upd_ne hne, upd_self], upd_self⟩⟩) fun _ _ z => z
theorem fs_vec4 {kind : Str} {items ats : Value} : FS Γ 2 VectorC H [.str kind 0, items, ats] (fun r H' => ∃ v dx, r = .ref v ∧ NV H H' v dx kind items ats) nX :=
  FS.make (makeVec Γ.w) fun x dx hne hx hd => (fs_init4 upd_self (by rw [upd_ne hne.symm, upd_self])).mono (fun v H' ⟨h1, h2⟩ => ⟨h1, x, dx, rfl, by
    subst h2
    exact ⟨((Ext.new hd).upd' hx).upd' hd, hx, hd, hne, by rw [upd_ne hne, upd_self], upd_self⟩⟩) fun _ _ z => z
end

set_option compiler.extract_closed false
local macro_rules | `(tactic| walk_at "mx") => `(tactic| first | (with_reducible first | refine' tlNil ?_ | refine' bpLast ?_ | refine' bpAnd ?_ | refine' bpOr ?_ | refine' sCons ?_ | refine' sIf ?_ | refine' tNot ?_ | refine' tBool ?_ | refine' tAnd1 ?_ | refine' tOr1 ?_ | refine' tAndN ?_ | refine' tOrN ?_ | refine' xUn ?_ | refine' xIf ?_ | refine' xBoolOp ?_ | refine' xDict0 ?_) | ((with_reducible refine' tlS ?hs ?he ?h); (case hs => assumption); (case he => rfl)) | ((with_reducible refine' tlConsS ?hs ?he ?h); (case hs => assumption); (case he => rfl)) | ((with_reducible refine' sNilQ ?hn ?h); (case hn => assumption)) | ((with_reducible refine' sRetQ ?hq ?h); (case hq => assumption)) | ((with_reducible refine' sExpr ?h ?hs); (case hs => rfl)) | ((with_reducible refine' sAsg ?h ?hs); (case hs => rfl)) | ((with_reducible refine' xS ?hs ?he ?h); (case hs => assumption); (case he => rfl)) | ((with_reducible refine' xFree ?hs ?hk ?hv ?h ?hd ?hn); (case hs => assumption); (case hk => rfl); (case hv => rfl); (case hd => rfl); (case hn => rfl)) | ((with_reducible refine' xAttr ?hb ?h); (case hb => rfl)) | ((with_reducible refine' xCallG ?hs ?hk ?hv ?he ?h ?hd); (case hs => assumption); (case hk => rfl); (case hv => rfl); (case he => rfl); (case hd => rfl)) | ((with_reducible refine' xCallB ?hs ?hk ?hv ?he ?h ?hd); (case hs => assumption); (case hk => rfl); (case hv => rfl); (case he => rfl); (case hd => rfl)) | ((with_reducible refine' xCallT ?hs ?hk ?hv ?he ?h ?hd); (case hs => assumption); (case hk => rfl); (case hv => rfl); (case he => rfl); (case hd => rfl)) | ((with_reducible refine' tCmpS ?hm ?hs ?ha ?hb ?h); (case hm => rfl); (case hs => assumption); (case ha => rfl); (case hb => rfl)) | ((with_reducible refine' xCmpS ?hm ?hs ?ha ?hb ?h); (case hm => rfl); (case hs => assumption); (case ha => rfl); (case hb => rfl)) | ((with_reducible refine' xBinS ?hs ?ha ?hb ?h); (case hs => assumption); (case ha => rfl); (case hb => rfl)) | ((with_reducible refine' xSubS ?hs ?ha ?hb ?h ?ht); (case hs => assumption); (case ha => rfl); (case hb => rfl); (case ht => (intro _ _; rfl))) | ((with_reducible refine' tChain ?hm ?h); (case hm => rfl)) | ((with_reducible refine' tCmp ?hm ?h); (case hm => rfl)) | ((with_reducible refine' tVal ?he ?h); (case he => rfl)) | ((with_reducible refine' xCmp ?hm ?h); (case hm => rfl)) | ((with_reducible refine' xSub ?h ?hs); (case hs => (intro _ _; rfl))) | ((with_reducible refine' xTup ?he ?h); (case he => rfl)) | ((with_reducible refine' xList ?he ?h); (case he => rfl)) | with_reducible first | refine' tlCons ?_ | refine' sNil ?_ | refine' sRet ?_ | refine' xBin ?_)
local macro_rules | `(tactic| walk_at "mif") => `(tactic| repeat (first | refine ifP rfl ?_ | refine ifN Bool.false_ne_true ?_ | refine ifP (by decide) ?_ | refine ifN (by decide) ?_))
local macro_rules | `(tactic| walk_at "mxs") => `(tactic| repeat walk_at "mx")
local macro_rules | `(tactic| walk_at "mo") => `(tactic| first | (with_reducible first | refine' oEqS ?_ | refine' oNeS ?_ | refine' oEqI ?_ | refine' oNeI ?_ | refine' oLtI ?_ | refine' oGtI ?_ | refine' oLeI ?_ | refine' oGeI ?_ | refine' oAdd ?_ | refine' oSub ?_ | refine' uBool ?_) | ((with_reducible refine' oIsN ?ha ?k); (case ha => rfl)) | ((with_reducible refine' oIsNotN ?ha ?k); (case ha => rfl)))
section
variable {Γ : Gl} {H : AH}
theorem fs_get_attr0 {v : Addr} {kind : Str} {items : Value} {name : Str} (hv : Vc H v kind items .none) : FS Γ 1 263 H [.ref v, sv name] (fun r H' => r = .none ∧ H' = H) nX := by
  refine FS.enter (ps := ["v", "name"]) (dv := []) (ho := rfl) (hok := ⟨rfl, rfl, rfl, by rfl, rfl, rfl, rfl, by decide, by decide, by decide⟩) (hbody := rfl) (hnames := rfl) (binds2 fun _ _ => rfl) rfl (fun c Q hQ hQn hL => ?_)
  have hs := hL.nm; dsimp only at hs
  walk_at "mxs"
  refine gAttrs hv rfl ?_
  walk_at "mxs"
  walk_at "mo"
  refine ⟨_, rfl, ?_⟩
  first | refine ifP (by decide) ?_ | rw [if_pos (by decide)]
  walk_at "mxs"
  exact ⟨rfl, rfl⟩
end

-- MLoopI
noncomputable def Sub (ρ ρ' : Loc) : Prop := ∀ x v, ρ x = some v → ρ' x = some v
theorem Sub.refl (ρ : Loc) : Sub ρ ρ := fun _ _ h => h
theorem Sub.trans {a b d : Loc} (h : Sub a b) (h' : Sub b d) : Sub a d := fun x v e => h' x v (h x v e)
theorem Sub.off {L ρ : Loc} {x : Str} {v : Value} (h : Sub L ρ) (hn : L x = none) : Sub L (upd ρ x v) := fun y w e => by
  rw [upd_ne (by rintro rfl; rw [hn] at e; cases e)]; exact h y w e
theorem Sub.on {L ρ : Loc} {x : Str} {v : Value} (h : Sub L ρ) : Sub (upd L x v) (upd ρ x v) := fun y w e => by
  by_cases q : y = x
  · subst q; rw [upd_self] at e ⊢; exact e
  · rw [upd_ne q] at e ⊢; exact h y w e
/-- a store over a store -/
theorem Sub.over {L ρ : Loc} {x : Str} {v u : Value} (h : Sub L ρ) : Sub (upd L x v) (upd (upd ρ x u) x v) := fun y w e => by
  by_cases q : y = x
  · subst q; rw [upd_self] at e ⊢; exact e
  · rw [upd_ne q] at e ⊢; rw [upd_ne q]; exact h y w e
section
variable {Γ : Gl} {c : Fm} {g : Prot} {ρ ρ' : Loc} {H : AH} {s : Shared} {X : XS} {K : KS}
theorem TS.weakL {t : Sem Flow} (h : Sub ρ' ρ) (k : TS Γ c ρ' H t K X) : TS Γ c ρ H t K X := fun g s R => k g s (R.weakLoc h)
theorem TS.weakK {t : Sem Flow} {K' : KS} (k : TS Γ c ρ H t K' X) (h : ∀ f ρ H, K' f ρ H → ∃ ρ2, Sub ρ2 ρ ∧ K f ρ2 H) : TS Γ c ρ H t K X := fun g s R =>
  wpAny_mono (k g s R) (fun f s' ⟨ρ', H', R', k'⟩ => let ⟨ρ2, h2, k2⟩ := h _ _ _ k'; ⟨ρ2, H', R'.weakLoc h2, k2⟩) fun _ _ z => z
/-- a cut behind a statement -/
inductive kCut (P : Loc → AH → Prop) (f : Flow) (ρ' : Loc) (H' : AH) : Prop
  | mk (e : f = .next) (h : P ρ' H') : kCut P f ρ' H'
inductive kCutH (ρ : Loc) (P : AH → Prop) (f : Flow) (ρ' : Loc) (H' : AH) : Prop
  | mk (e : f = .next) (e' : ρ' = ρ) (h : P H') : kCutH ρ P f ρ' H'
theorem sCut {st : Stmt} (P : Loc → AH → Prop) (h : T1 Γ c ρ H st (kCut P) X) (k : ∀ ρ' H', P ρ' H' → K .next ρ' H') : T1 Γ c ρ H st K X :=
  TS.mono h (fun f ρ' H' ⟨e, p⟩ => by subst e; exact k _ _ p) fun _ _ _ z => z
theorem sCutH {st : Stmt} (P : AH → Prop) (h : T1 Γ c ρ H st (kCutH ρ P) X) (k : ∀ H', P H' → K .next ρ H') : T1 Γ c ρ H st K X :=
  TS.mono h (fun f ρ' H' ⟨e, e', p⟩ => by subst e e'; exact k _ p) fun _ _ _ z => z
noncomputable def forW (K : KS) : KS := fun f ρ H => match f with
  | .next => ∃ ρ2, Sub ρ2 ρ ∧ K .next ρ2 H
  | f => K f ρ H
noncomputable def ForI (Γ : Gl) (c : Fm) (x : Str) (body : List Stmt) (Hc : AH → Prop) (K : KS) (xs : List Value) (ρ : Loc) (H : AH) : Prop := ForP Γ c x body Hc (forW K) xs ρ H
@[reducible] noncomputable def kForI (Γ : Gl) (c : Fm) (x : Str) (body : List Stmt) (K : KS) (ρ : Loc) : (AH → Prop) → List Value → AH → Prop := fun Hc xs H1 => ForI Γ c x body Hc K xs ρ H1
theorem sForI {x px iter body pos} {names : List (Str × NameKind)} (hs : c.e.scope.names = names) (hk : names.lookup x = some .local) (hh : c.hd = true)
    (h : TX Γ c ρ H iter (kFor Γ (kForI Γ c x body K ρ)) (xAt X ρ)) (hf : ∀ x, foldedSetIterable iter c.e x = pure x := by intro _; rfl) :
    T1 Γ c ρ H (.For (.Name x px) iter body [] pos) K X :=
  TS.weakK (sFor hs hk hh h hf) fun f ρ' H' k => by
    cases f with
    | next => exact k
    | brk => exact ⟨ρ', Sub.refl _, k⟩
    | cont => exact ⟨ρ', Sub.refl _, k⟩
    | ret v => exact ⟨ρ', Sub.refl _, k⟩
inductive InvS {σ : Type} (L : σ → Loc) (Hc : AH → Prop) (I : σ → AH → Prop) (ρ' : Loc) (H' : AH) : Prop
  | mk (h : Hc H') (st : σ) (s : Sub (L st) ρ') (i : I st H') : InvS L Hc I ρ' H'
noncomputable def forS {σ : Type} (L : σ → Loc) (Hc : AH → Prop) (K : KS) (I : σ → AH → Prop) : KS := fun f ρ' H' => match f with
  | .next => InvS L Hc I ρ' H'
  | .cont => InvS L Hc I ρ' H'
  | .brk => ∃ ρ2, Sub ρ2 ρ' ∧ K .next ρ2 H'
  | .ret w => K (.ret w) ρ' H'
theorem ForI.intro {α σ : Type} {x : Str} {body : List Stmt} {Hc : AH → Prop} {g : α → Value} (L : σ → Loc) (I : List α → σ → AH → Prop) (st : σ) {as : List α} (h0 : I as st H) (hsub : Sub (L st) ρ)
    (step : ∀ a r st H, I (a :: r) st H → TB Γ c (upd (L st) x (g a)) H body (forS L Hc K (I r)) nXS) (fin : ∀ st H, I [] st H → K .next (L st) H) : ForI Γ c x body Hc K (as.map g) ρ H := by
  unfold ForI
  induction as generalizing st ρ H with
  | nil => exact ⟨L st, hsub, fin st H h0⟩
  | cons a r ih =>
    show TB Γ c (upd ρ x (g a)) H body (forK Hc (forW K) (ForP Γ c x body Hc (forW K) (r.map g))) nXS
    refine TS.weakL hsub.on (TS.mono (step a r st H h0) (fun f ρ' H' k => ?_) fun _ _ _ z => z)
    cases f with
    | next => obtain ⟨h1, st', h2, h3⟩ := k; exact ⟨h1, ih st' h3 h2⟩
    | cont => obtain ⟨h1, st', h2, h3⟩ := k; exact ⟨h1, ih st' h3 h2⟩
    | brk => exact k
    | ret w => exact k
end

-- MRaise
/-- the object of a Refusal -/
abbrev refObj (dx : Option Addr) (t0 : Addr) : Obj := { cls := .ref 51, dict := dx, data := .fields #[.ref t0, .none, .none, .none, .bool false, .none] }
abbrev excMro : List Value := [.type "Exception", .type "BaseException", .type "object"]
section
variable {Γ : Gl} {c : Fm} {g : Prot} {ρ : Loc} {H : AH} {s : Shared} {h : Heap}
inductive RefCls (h : Heap) : Prop
  | mk nm q bs hdct sn sub ab col dd k0 k1 k2 k3 k5 (e : h.get? 51 = some (excClassObj nm q 51 50 bs (.ref 31 :: excMro) hdct sn sub ab col dd k0 k1 k2 k3 k5 "Exception.__new__")) : RefCls h
theorem refCls (X : (KK Γ.w).In h) : RefCls h :=
  ⟨_, _, _, _, _, _, _, _, _, _, _, _, _, _, X 51 _ rfl⟩
theorem refTail (X : (KK Γ.w).In h) : OwnTail h excMro (.ref 31 :: excMro) := tail_of_in X (by kernel_rfl)
theorem refNs (X : (KK Γ.w).In h) : ∃ mN, h.Ns 50 mN ∧ mN "__init__" = some (.ref 48) := by
  have n := Heap.Ns.of_isNs (isNs_of_in X (show nsOkIn (KK Γ.w) 50 = true by kernel_rfl))
  refine ⟨_, n, ?_⟩
  obtain ⟨o, es, ep, ho, hd, _, hf⟩ := n
  obtain ⟨ob, hob⟩ : ∃ ob, (KK Γ.w).lookup 50 = some ob := ⟨_, rfl⟩
  have := X 50 _ (rfl : (KK Γ.w).lookup 50 = some _)
  rw [ho] at this
  cases this
  cases hd
  rw [← hf]; rfl
theorem fn48 (X : (KK Γ.w).In h) : ∃ oI, h.get? 48 = some oI ∧ oI.cls = .type "function" := ⟨_, X 48 _ rfl, rfl⟩
section
variable {A : Around} {E : Value → Shared → Prop} {gg : Array GenState} {d : Drawn} {t : Nat} {os : OsState}
theorem type_call_ref (X : (KK Γ.w).In h) {msg : Value} {Q : Fin → Shared → Prop}
    (hq : wpAny (model PR Γ.w) A (call (.ref 48) [.ref (h.objs.size + 1), msg]) (fun r s' => r = .none ∧ Q (.done (.ret (.ref (h.objs.size + 1)))) s') E
      ⟨(h.push { cls := .type "tuple", data := .seq #[msg] }).push (refObj none h.objs.size), gg, d, t, os⟩) :
    wpAny (model PR Γ.w) A (Builtin.«type.__call__» ⟨[.ref 51, msg], []⟩) Q E ⟨h, gg, d, t, os⟩ := by
  obtain ⟨nm, q, bs, hdct, sn, sub, ab, col, dd, k0, k1, k2, k3, k5, hC⟩ := refCls X
  obtain ⟨mN, hn, hi⟩ := refNs X
  obtain ⟨oI, hfI, hfc⟩ := fn48 X
  have T := refTail X
  have F := PySem.F.excBase_Exception
  have hB : excMro.contains (.type "Exception") = true := by decide +kernel
  repeat (first | with_reducible refine wpAny_loadPart_at hC ?_ | with_reducible refine wpAny_madeBy_exc hC ?_ | wp_step)
  refine codeAny_call_builtin_code (Code.quiet_builtin _ F.quiet) (wpAny_check_new_subU F hB T hC ?_)
  refine codeAny_exc_new_subU F hB F T hC ?_ (by rw [sizeLine_eq]; simp)
  show wpAny _ _ _ _ _ _
  have hC₁ := Heap.get?_push_of_some (refObj none h.objs.size) (Heap.get?_push_of_some { cls := .type "tuple", data := .seq [msg].toArray } hC)
  have hfI₁ := Heap.get?_push_of_some (refObj none h.objs.size) (Heap.get?_push_of_some { cls := .type "tuple", data := .seq [msg].toArray } hfI)
  have kp : ∀ b o, h.get? b = some o → ((h.push { cls := .type "tuple", data := .seq [msg].toArray }).push (refObj none h.objs.size)).get? b = some o := fun b o e => Heap.get?_push_of_some _ (Heap.get?_push_of_some _ e)
  have hn₁ := hn.keeps kp
  have hget : ((h.push { cls := .type "tuple", data := .seq [msg].toArray }).push (refObj none h.objs.size)).get? (h.objs.size + 1) = some (refObj none h.objs.size) := by heap_get
  have hcC : (Value.ref 51 :: Value.ref 31 :: excMro).contains (.ref 51) = true := by simp
  have T₁ := T.keeps kp
  unfold isInstance
  repeat (first | with_reducible refine wpAny_loadPart_at hget ?_ | (with_reducible refine wpAny_isSubtype_exc hC₁ ?_; rw [hcC]) | wp_step)
  show wpAny _ _ (typeLookup (.ref 51) _) _ _ _
  refine wpAny_typeLookup_tail hC₁ hn₁ T₁ F.mroIs F.init.lookup ?_
  rw [hi]
  refine wpAny_holding (wpAny_bind ?_)
  unfold bindSpecial
  refine wpAny_bind (wpAny_typeOf (T := "function") ⟨_, hfI₁, hfc⟩ ?_)
  first | refine ifP (by decide) ?_ | rw [if_pos (by decide)]
  refine wpAny_pure (wpAny_bind (wpAny_mono hq (fun r s' hr => ?_) fun _ _ x => x))
  obtain ⟨rfl, hQ⟩ := hr
  wp_walk
  exact hQ
theorem call_ref (X : (KK Γ.w).In h) {msg : Value} {R : Result → Shared → Prop}
    (hq : codeAny (model PR Γ.w) (A.under (.builtin "type.__call__" ⟨[.ref 51, msg], []⟩)) (.call (.ref 48) ⟨[.ref (h.objs.size + 1), msg], []⟩) (InitBack (h.objs.size + 1) R)
      ⟨(h.push { cls := .type "tuple", data := .seq #[msg] }).push (refObj none h.objs.size), gg, d, t, os⟩) :
    codeAny (model PR Γ.w) A (.call (.ref 51) ⟨[msg], []⟩) R ⟨h, gg, d, t, os⟩ := by
  obtain ⟨nm, q, bs, hdct, sn, sub, ab, col, dd, k0, k1, k2, k3, k5, hC⟩ := refCls X
  have f1 := tc_lookup
  have f2 := tc_bind (.ref 51)
  have hT : (⟨h, gg, d, t, os⟩ : Shared).TypeIs (.ref 51) "type" := ⟨_, hC, rfl⟩
  refine codeAny_of_tree ?_
  show wpAny _ _ (callAny (.ref 51) _) _ _ _
  repeat (any_goals (first | assumption | with_reducible refine wpAny_loadPart_at hC ?_ | wp_step))
  refine ⟨rfl, ?_⟩
  refine codeAny_call_builtin_at (Code.quiet_builtin _ (by decide +kernel)) entry_typeCall (wpAny_check_type_call_sub hC (type_call_ref X (wpAny_call (codeAny_mono hq fun r s' hr => ?_))))
  rcases r with e | f
  · exact hr
  · cases f with
    | ret v => exact ⟨hr.1, hr.2⟩
    | next => exact hr.elim
    | brk => exact hr.elim
    | cont => exact hr.elim
end

/-! the store of the message -/
theorem refInst {x dx : Addr} {t0 : Addr} (e : h.get? x = some (refObj none t0)) : W.InstAt h x (refObj none t0) 51 none := ⟨e, rfl, rfl, trivial⟩
theorem refuse_ref (self : Value) : refuseLoop self "__setattr__" (.ref 51 :: .ref 31 :: excMro) = pure () := by
  rw [refuseLoop_ref, refuseLoop_ref]; exact PySem.F.store_Exception.passes self
theorem store_ref {A : Around} {R : Result → Shared → Prop} {x t0 : Addr} {tk : Tok} {v : Value} (X : (KK Γ.w).In s.heap) (e : s.heap.get? x = some (refObj none t0))
    (hq : ∀ h' tk', h'.Ns s.heap.objs.size (fun y => if y = "message" then some v else none) → h'.get? x = some (refObj (some s.heap.objs.size) t0) → (∀ b o, b ≠ x → s.heap.get? b = some o → h'.get? b = some o) → R (.ok (.ret .none)) { s with heap := h', toks := tk' }) :
    codeAny (model PR Γ.w) A (.call (.builtin "object.__setattr__") ⟨[.ref x, .str "message" tk, v], []⟩) R s := by
  have SF := PySem.F.store_object
  have I := refInst (dx := 0) e
  have hcls : ∃ cd, clsIn (KK Γ.w) 51 = some cd ∧ cd.mro = .ref 51 :: .ref 31 :: excMro ∧ cd.hasDict = true := ⟨_, rfl, rfl, rfl⟩
  obtain ⟨cd, hc, hm0, hd⟩ := hcls
  have sub : Looks (model PR Γ.w) s.heap (isInstance (.ref x) (.type "object")) true := I.type.andThen (looks_mroIn X (by unfold mroIn; rw [hc, Option.bind_some, if_neg (by rw [hm0]; decide), hm0]; rfl))
  refine codeAny_call_builtin SF.slot.plain SF.entry (@check_slot (model PR Γ.w) _ _ s "object.__setattr__" "object" "__setattr__" (.ref x) [.str "message" tk, v] [] _ SF.kind SF.split sub (SF.args (.ref x) (.str "message" tk) v) ?_)
  have hm : Looks (model PR Γ.w) s.heap (mroOf (.ref 51)) (.ref 51 :: .ref 31 :: excMro) := hm0 ▸ (looks_clsIn X hc).andThen .now
  have ha : findIn (KK Γ.w) (.ref 51) "message" = some none := rfl
  rw [osa_eq, refuse_eq]
  refine wpAny_bind (wpAny_bind (I.type.here (wpAny_bind (hm.here ?_))))
  rw [refuse_ref]
  refine wpAny_pure (wpAny_bind (I.type.here (wpAny_bind ((looks_findIn X ha).here (wpAny_bind ?_)))))
  refine wpAny_pure (a := none) ?_
  show wpAny _ _ (Builtin.ObjectAttr.storeInOwnDict (.ref x) (.ref 51) (.str "message" tk) "message" v false) _ _ s
  refine wpAny_bind (wpAny_pure (wpAny_bind (wpAny_bind (wpAny_loadPart e (wpAny_bind ((looks_clsIn X hc).here ?_))))))
  rw [hd]
  first | refine ifN (by decide) ?_ | rw [if_neg (by decide)]
  show wpAny _ _ (if (!true || !typeHasDict (.ref 51)) = true then _ else _) _ _ s
  first | refine ifN (by decide) ?_ | rw [if_neg (by decide)]
  have hx₁ : (s.heap.push { cls := .type "dict", data := .dict #[] }).get? x = some (refObj none t0) := Heap.get?_push_of_some _ e
  have hxs : x ≠ s.heap.objs.size := Nat.ne_of_lt (Heap.lt_size e)
  obtain ⟨hh, gg, dd, tt, oo⟩ := s
  dsimp only at *
  refine wpAny_bind (wpAny_alloc' ?_)
  refine wpAny_bind (wpAny_update' hx₁ ?_)
  refine wpAny_pure ?_
  have hgd : ((hh.push { cls := .type "dict", data := .dict #[] }).update x fun o => { cls := o.cls, dict := some hh.objs.size, data := o.data, slots := o.slots }).get? hh.objs.size
      = some { cls := .type "dict", data := .dict #[] } :=
    (Heap.get?_update_ne _ _ _ _ hxs.symm).trans (Heap.get?_push_at rfl rfl)
  have hnd : ((hh.push { cls := .type "dict", data := .dict #[] }).update x fun o => { cls := o.cls, dict := some hh.objs.size, data := o.data, slots := o.slots }).Ns hh.objs.size (fun _ => none) :=
    ⟨_, #[], _, hgd, rfl, fun e he => absurd he (by simp), fun _ => rfl⟩
  show wpAny _ _ (Builtin.ObjectAttr.storeInDict hh.objs.size (.str "message" tk) "message" v) _ _ _
  unfold Builtin.ObjectAttr.storeInDict Builtin.ObjectAttr.newKeyGuard
  refine wpAny_bind (wpAny_pure (wpAny_bind (wpAny_nsSet1 (Heap.Ns1.of_empty hnd) fun h' hn' hs => ?_)))
  obtain ⟨oD, esD, epD, hoD, hdD, hcD⟩ := hn'.count (Within.cons "message" v Within.nil)
  refine wpAny_bind (wpAny_lookBehind hoD (by rw [hdD]; exact pastItsLine_dict (Nat.le_trans hcD (by rw [List.length_cons, List.length_nil, sizeLine_eq]; omega))) ?_)
  wp_walk
  refine hq h' _ ?_ ?_ fun b o hb q => ?_
  · obtain ⟨o', es, ep, e1, e2, e3, eu, e4⟩ := hn'
    exact ⟨o', es, ep, e1, e2, e3, e4⟩
  · exact (hs.2 x hxs).trans (Heap.get?_update_self _ hx₁ rfl)
  · exact (hs.2 b (Nat.ne_of_lt (Heap.lt_size q))).trans ((Heap.get?_update_ne _ _ _ _ hb).trans (Heap.get?_push_of_some _ q))

/-! reading the message -/
theorem get_message {A : Around} {E : Value → Shared → Prop} {expr : Bool} {Q : Value → Shared → Prop} {x dx : Addr} {oe od : Obj} {v : Value} (X : (KK Γ.w).In s.heap) (e : s.heap.get? x = some oe) (hc : oe.cls = .ref 51) (hn : notCls oe = true) (hd : oe.dict = some dx) (ed : s.heap.get? dx = some od)
    (hl : lookIn "message" od = some (some v)) (hv : handedIn v = true) (hq : Q v { s with toks := s.toks + 1 }) : wpAny (model PR Γ.w) A (getAttr (.ref x) "message" expr) Q E s := by
  have I : W.InstAt s.heap x oe 51 (some od) := ⟨e, hc, hn, by rw [hd]; exact ed⟩
  obtain ⟨hh, g, d, t, os⟩ := s
  have L0 := I.type (M := model PR Γ.w)
  have L1 := looks_findIn (M := model PR Γ.w) X (show findIn (KK Γ.w) (.ref 51) "__getattribute__" = some (some (.builtin "BaseException.__getattribute__")) from rfl)
  have L2 := looks_find (M := model PR Γ.w) X I (findObj_own (K := KK Γ.w) (name := "message") (v := v) rfl rfl rfl hl)
  have f3 := PySem.F.attr_Exception.ga.bind (.ref x)
  have L3 := looks_findIn (M := model PR Γ.w) X (show findIn (KK Γ.w) (.ref 51) "__getattr__" = some none from rfl)
  dsimp only at L0 L1 L2 L3
  have hx0 : (expr && onTheHeap (Value.builtin "BaseException.__getattribute__")) = false := by cases expr <;> rfl
  have hx2 : (Value.builtin "BaseException.__getattribute__" == Value.builtin "object.__getattribute__") = false := by decide +kernel
  have hx1 : (onTheHeap (Value.ref 51) && Value.builtin "BaseException.__getattribute__" == Value.builtin "object.__getattribute__") = false := by rw [hx2]; rfl
  unfold getAttr getAttrBy
  refine wpAny_bind (wpAny_mkText (wpAny_holding (wpAny_bind (L0.at (wpAny_bind (L1.at ?_))))))
  show wpAny _ _ (if _ = true then _ else getAttrByItsOwn _ _ _ _ _ _) _ _ _
  first | refine ifN (by rw [hx1]; exact Bool.false_ne_true) ?_ | rw [if_neg (by rw [hx1]; exact Bool.false_ne_true)]
  unfold getAttrByItsOwn
  refine wpAny_bind (L3.at ?_)
  refine wpAny_bind (wpAny_attempt (wpAny_holding ?_))
  unfold callGetattribute
  first | refine ifN (by rw [hx0]; exact Bool.false_ne_true) ?_ | rw [if_neg (by rw [hx0]; exact Bool.false_ne_true)]
  unfold boundAndCalled
  rw [f3]
  refine wpAny_bind (wpAny_pure (wpAny_call ?_))
  have sub : Looks (model PR Γ.w) hh (isInstance (.ref x) (.type "BaseException")) true := L0.andThen (looks_mroIn X (by rfl))
  refine codeAny_call_builtin PySem.F.attr_Exception.ga.plain PySem.F.entry_bexc_ga (@check_slot (model PR Γ.w) _ _ _ "BaseException.__getattribute__" "BaseException" "__getattribute__" (.ref x) [.str "message" t] [] _ (by decide +kernel) (by decide +kernel) sub (PySem.F.args_bexc_ga (.ref x) (.str "message" t)) ?_)
  unfold Builtin.«object.__getattribute__»
  refine wpAny_bind (wpAny_pure (a := (Value.ref x, [Value.str "message" t])) (wpAny_bind (wpAny_pure (a := ("message" : Str)) (wpAny_bind (L0.at (wpAny_bind (L2.at ?_)))))))
  refine wpAny_pure ?_
  show wpAny _ _ (handedOut v) _ _ _
  rw [handedOut_of hv]; exact wpAny_pure hq

theorem tSetRef {x t0 : Addr} {val : Value} {K : Loc → AH → Prop} {X : XS} (ha : H x = some (.obj (refObj none t0))) (k : ∀ dx, H dx = none → x ≠ dx → K ρ (upd (upd H dx (.fld "message" val)) x (.obj (refObj (some dx) t0)))) {u v : Value} (hu : er u = .ref x) (hv : er v = val) :
    TU Γ c ρ H (setAttr u "message" v) K X := fun g s R => by
  rw [er_ref hu]
  have e := R.base.sees _ _ ha
  have hxs : x ≠ s.heap.objs.size := Nat.ne_of_lt (Heap.lt_size e)
  refine set_plain R.base.kin (refInst (dx := 0) e) (by rfl) (store_ref (s := { s with toks := s.toks + 1 }) R.base.kin e fun h' tk' hn he hk => ?_)
  have fr := R.base.fresh (none_size s.heap)
  have R1 : Rel Γ c g ρ (upd H x (.obj (refObj (some s.heap.objs.size) t0))) { s with heap := h', toks := tk' } := by
    have sx := R.base.sep _ _ ha
    have ne : ∀ b, b ∈ c.own → b ≠ x := fun b q e => by have := (R.own b q).2.2.1; rw [e, ha] at this; cases this
    refine ⟨⟨R.base.ok, R.base.gens, R.base.os, R.base.drawn, fun b o q => hk b o (by rintro rfl; rw [sx.2] at q; cases q) (R.base.k0 b o q), fun b o q => ?_, fun a o q => ?_, fun a o q => ?_⟩, R.fok, ?_, fun b q => ?_, R.pro, R.abv, R.frs⟩
    · obtain ⟨sl, z, f⟩ := R.base.kg b o q
      exact ⟨sl, hk b _ (by rintro rfl; rw [sx.1] at q; cases q) z, f⟩
    · by_cases y : a = x
      · subst y; rw [upd_self] at q; cases q; exact he
      · rw [upd_ne y] at q; exact Is_keep (R.base.sees a o q) fun ob z => hk a _ y z
    · by_cases y : a = x
      · subst y; exact sx
      · rw [upd_ne y] at q; exact R.base.sep a o q
    · obtain ⟨m, cm, L⟩ := R.loc
      refine ⟨m, cm, ns_slots L.ns fun ob z => ⟨ob.slots, hk _ _ (ne _ (.head _)) z⟩, fun n a q => cell_slots (L.cell n a q) fun ob z => ⟨ob.slots, hk _ _ ?_ z⟩, L.loc, L.cel⟩
      rcases R.pro n a q with y | ⟨o, y⟩
      · exact ne a y
      · rintro rfl; rw [sx.1] at y; cases y
    · obtain ⟨h1, h2, h3, h4⟩ := R.own b q
      obtain ⟨o, z⟩ := Option.isSome_iff_exists.mp h4
      exact ⟨h1, h2, by rw [upd_ne (ne b q)]; exact h3, by show (h'.get? b).isSome = true; rw [hk b o (ne b q) z]; rfl⟩
  have hnx : upd H x (.obj (refObj (some s.heap.objs.size) t0)) s.heap.objs.size = none := upd_none (Ne.symm hxs) fr.2.2
  have R2 := R1.enter (o := .fld "message" val) hnx fr.1 fr.2.1 (R.notOwn (none_size _)) ⟨_, v, hn, by simp, hv⟩
  have ec : upd (upd H x (.obj (refObj (some s.heap.objs.size) t0))) s.heap.objs.size (.fld "message" val) = upd (upd H s.heap.objs.size (.fld "message" val)) x (.obj (refObj (some s.heap.objs.size) t0)) := by
    funext b
    unfold upd
    by_cases h1 : b = s.heap.objs.size
    · have h2 : ¬ b = x := fun e => hxs (e.symm.trans h1)
      first | refine ifP h1 ?_ | rw [if_pos h1]
      first | refine ifN h2 ?_ | rw [if_neg h2]
      first | refine ifP h1 ?_ | rw [if_pos h1]
    · first | refine ifN h1 ?_ | rw [if_neg h1]
      first | refine ifN h1 ?_ | rw [if_neg h1]
  rw [ec] at R2
  exact ⟨ρ, _, R2, k _ fr.2.2 hxs⟩
end
theorem upd_none' {a b : Addr} {o : AO} {H : AH} (h : upd H a o b = none) : H b = none := by
  by_cases e : b = a
  · subst e; rw [upd_self] at h; cases h
  · rw [upd_ne e] at h; exact h
section
variable {Γ : Gl} {H : AH}
theorem fs_refinit {x t0 : Addr} {msg : Str} (ha : H x = some (.obj (refObj none t0))) : FS Γ 1 48 H [.ref x, sv msg] (fun r H' => r = .none ∧ ∃ dx, H dx = none ∧ x ≠ dx ∧ H' = upd (upd H dx (.fld "message" (sv msg))) x (.obj (refObj (some dx) t0))) nX := by
  refine FS.enter (ps := ["self", "message"]) (dv := []) (ho := rfl) (hok := ⟨rfl, rfl, rfl, by rfl, rfl, rfl, rfl, by decide, by decide, by decide⟩) (hbody := rfl) (hnames := rfl) (binds2 fun _ _ => rfl) rfl (fun c Q hQ hQn hL => ?_)
  have hs := hL.nm; dsimp only at hs
  refine sCons (sAsgA ?_)
  walk_at "mxs"
  refine fun u w hu hw => tSetRef ha (fun dx hd hne => ?_) hu hw
  walk_at "mxs"
  exact ⟨rfl, dx, hd, hne, rfl⟩
theorem fs_refusal {msg : Str} : FS Γ 2 51 H [sv msg] (fun r H' => ∃ x dx t0, r = .ref x ∧ H x = none ∧ H dx = none ∧ x ≠ dx ∧ H' x = some (.obj (refObj (some dx) t0)) ∧ H' dx = some (.fld "message" (sv msg)) ∧ Ext H H') nX := by
  intro A fr g s vals hv hroom hh hfr hF B
  obtain ⟨m, rfl, em⟩ := map1 hv
  have X := B.kin
  obtain ⟨hp, gg, d, t, os⟩ := s
  have n1 := none_size hp
  have n2 : hp.get? (hp.objs.size + 1) = none := by
    cases e : hp.get? (hp.objs.size + 1) with
    | none => rfl
    | some o => exact absurd (Heap.lt_size e) (Nat.not_lt.mpr (Nat.le_succ _))
  have k : ∀ b o, hp.get? b = some o → ((hp.push { cls := .type "tuple", data := .seq #[m] }).push (refObj none hp.objs.size)).get? b = some o := fun b o e => Heap.get?_push_of_some _ (Heap.get?_push_of_some _ e)
  have e2 : ((hp.push { cls := .type "tuple", data := .seq #[m] }).push (refObj none hp.objs.size)).get? (hp.objs.size + 1) = some (refObj none hp.objs.size) := by
    have := Heap.get?_push_size (hp.push { cls := .type "tuple", data := .seq #[m] }) (o := refObj none hp.objs.size) rfl
    rwa [Heap.size_push] at this
  obtain ⟨b1, b2, b3⟩ := B.fresh n2
  have B1 : Base Γ g H ⟨(hp.push { cls := .type "tuple", data := .seq #[m] }).push (refObj none hp.objs.size), gg, d, t, os⟩ := B.grow (tk := t) k
  have B2 := B1.enter (o := .obj (refObj none hp.objs.size)) b3 b1 b2 e2
  have hroom' : Room (A.under (.builtin "type.__call__" ⟨[.ref 51, m], []⟩)) 1 := by
    unfold Room at hroom ⊢
    rw [depth_under_make, units_under_make]
    omega
  refine call_ref X (codeAny_mono (fs_refinit (msg := msg) upd_self _ fr g _ [.ref (hp.objs.size + 1), m] (by rw [List.map_cons, List.map_cons, em]; rfl) hroom' hh (by rw [← hfr]; show pushEnvs [] A.frames = A.frames; cases A.frames <;> rfl) hF B2) fun r s' hr => ?_)
  cases r with
  | error e => obtain ⟨_, _, _, _, _, _, z⟩ := hr; exact z.elim
  | ok f =>
    obtain ⟨v, H', rfl, B', ev, dx, h1, h2, h3⟩ := hr
    subst h3
    refine ⟨er_none ev, .ref (hp.objs.size + 1), _, rfl, B', hp.objs.size + 1, dx, hp.objs.size, rfl, b3, upd_none' h1, h2, upd_self, by rw [upd_ne (Ne.symm h2), upd_self], fun a o q => ?_⟩
    have hax : a ≠ hp.objs.size + 1 := by rintro rfl; rw [b3] at q; cases q
    have had : a ≠ dx := by rintro rfl; rw [upd_none' h1] at q; cases q
    rw [upd_ne hax, upd_ne had, upd_ne hax]; exact q
end

-- MTry
section
variable {Γ : Gl} {c : Fm} {g : Prot} {ρ : Loc} {H : AH} {s : Shared} {K : KS} {X : XS}
/-- a Refusal in H -/
inductive RefIn (H H0 : AH) (x : Addr) (msg : Str) : Prop
  | mk (dx t0 : Addr) (h1 : H x = some (.obj (refObj (some dx) t0))) (h2 : H dx = some (.fld "message" (sv msg))) (h3 : H0 x = none) (h4 : H0 dx = none) (e : Ext H0 H) : RefIn H H0 x msg
theorem exc_of (R : Rel Γ c g ρ H s) {H0 : AH} {x : Addr} {msg : Str} (h : RefIn H H0 x msg) : Exc Γ g H0 c.own x msg .none s.heap := by
  obtain ⟨dx, t0, h1, h2, h3, h4, h5⟩ := h
  obtain ⟨m, v, n, hm, ev⟩ := R.base.sees _ _ h2
  obtain ⟨t, rfl⟩ := er_str ev
  have hid : ∀ a o, H a = some o → H0 a = none → Hid Γ g H0 c.own a := fun a o e e0 => ⟨(R.base.sep a o e).1, (R.base.sep a o e).2, e0, fun q => by rw [(R.own a q).2.2.1] at e; cases e⟩
  exact ⟨dx, _, _, m, t, R.base.sees _ _ h1, rfl, rfl, rfl, rfl, n, hm, hid _ _ h1 h3, hid _ _ h2 h4, .inl rfl⟩
inductive kRaise (X : XS) (ρ : Loc) (v : Value) (H1 : AH) : Prop
  | mk (x : Addr) (msg : Str) (H0 : AH) (e : v = .ref x) (h : RefIn H1 H0 x msg) (k : X msg ρ H0) : kRaise X ρ v H1
theorem sRaise {e : Expr} {pos} (hh : c.hd = true) (h : TX Γ c ρ H e (kRaise X ρ) nX) : T1 Γ c ρ H (.Raise (some e) none pos) K X := fun g s R => by
  rw [arm_exec_Raise]
  have hA := R.fok.handled hh
  refine wpAny_bind (wpAny_standAt ?_)
  show wpAny _ _ (raiseStmt c.e (some (do let v ← eval e c.e; standAt pos; pure v)) none) _ _ s
  unfold raiseStmt
  refine wpAny_bind (wpAny_bind (wpAny_mono (h g s R) (fun v s1 ⟨H1, R1, x, msg, H0, ev, hr, hX⟩ => wpAny_bind (wpAny_standAt (wpAny_pure ?_))) fun _ _ z => (nX_no z).elim))
  rw [er_ref ev]
  have hE : XSp Γ c g X (.ref x) s1 := ⟨x, msg, ρ, H0, rfl, R1.weak (let ⟨_, _, _, _, _, _, z⟩ := hr; z), exc_of R1 hr, hX⟩
  obtain ⟨dx, t0, h1, _⟩ := hr
  have he := R1.base.sees _ _ h1
  obtain ⟨nm, q, bs, hdct, sn, sub, ab, col, dd, k0, k1, k2, k3, k5, hC⟩ := refCls R1.base.kin
  have hcB : (Value.ref 51 :: Value.ref 31 :: excMro).contains (.type "BaseException") = true := by decide +kernel
  obtain ⟨hp, gg, d, tk, os⟩ := s1
  have he' : hp.get? x = some (refObj (some dx) t0) := he
  dsimp only at hC
  repeat (first | with_reducible refine wpAny_loadPart_at he' ?_ | with_reducible refine wpAny_loadPart_at hC ?_ | (with_reducible refine wpAny_isSubtype_exc hC ?_; rw [hcB]) | wp_step)
  exact wpAny_raiseNew_none hA hE

/-- a Refusal that a handler holds -/
inductive ExcH (H : AH) (x : Addr) (msg : Str) : Prop
  | mk (dx : Addr) (oe : Obj) (vs : Array Value) (h1 : H x = some (.obj oe)) (h2 : oe.cls = .ref 51) (h3 : oe.dict = some dx) (h4 : oe.data = .fields vs) (h5 : H dx = some (.fld "message" (sv msg))) (h6 : vs[2]? = some .none) : ExcH H x msg
theorem ExcH.up {H H' : AH} {x : Addr} {msg : Str} (h : ExcH H x msg) (e : Ext H H') : ExcH H' x msg := let ⟨dx, oe, vs, a, b, d, f, k, l⟩ := h; ⟨dx, oe, vs, e _ _ a, b, d, f, e _ _ k, l⟩
/-- fault.message -/
theorem gMessage {x : Addr} {msg : Str} {K : KP} {X : XP} (h : ExcH H x msg) (k : K (sv msg) H) : ∀ u, er u = .ref x → TE Γ c ρ H (getAttr u "message" true) K X := fun u hu g s R => by
  rw [er_ref hu]
  obtain ⟨dx, oe, vs, h1, h2, h3, h4, h5, _⟩ := h
  obtain ⟨m, v, ⟨od, es, ep, e1, e2, e3, e4⟩, hm, ev⟩ := R.base.sees _ _ h5
  have hl : lookIn "message" od = some (some v) := by
    unfold lookIn
    rw [e2]
    have := e4 "message"
    rw [hm] at this
    unfold nsFind findBy at this
    rw [← Array.find?_toList] at this
    dsimp only at this ⊢
    cases q : es.toList.find? (fun e => e.key.isStr "message") with
    | none => rw [q] at this; cases this
    | some en =>
      rw [q] at this
      have : some en.val = some v := this
      cases this
      rfl
  obtain ⟨t, rfl⟩ := er_str ev
  exact get_message R.base.kin (R.base.sees _ _ h1) h2 (by obtain ⟨_, _, d, _⟩ := oe; dsimp only at h4; subst h4; rfl) h3 e1 hl rfl ⟨H, R.tok, k⟩
noncomputable def del (ρ : Loc) (n : Str) : Loc := fun y => if y = n then none else ρ y
/-- the frame while a handler runs -/
noncomputable def Fm.held (c : Fm) (x : Addr) : Fm := { c with A := c.A.mark (some (.ref x)), hd := false }
theorem Rel.held (R : Rel Γ c g ρ H s) (x : Addr) : Rel Γ (c.held x) g ρ H s :=
  ⟨R.base, ⟨R.fok.kind, R.fok.glob, R.fok.bui, R.fok.apart, R.fok.off, R.fok.room, R.fok.frames, fun h => by cases h⟩, R.loc, R.own, R.pro, R.abv, R.frs⟩
theorem Rel.unheld {x : Addr} {ρ' : Loc} {H' : AH} {s' : Shared} (R : Rel Γ c g ρ H s) (R' : Rel Γ (c.held x) g ρ' H' s') : Rel Γ c g ρ' H' s' :=
  ⟨R'.base, R.fok, R'.loc, R'.own, R'.pro, R'.abv, R'.frs⟩
theorem Rel.unbind (R : Rel Γ c g ρ H s) {m cm : Str → Option Value} (L : Locs c.e ρ s.heap m cm) {x : Str} {u : Option Value} {h' : Heap} {tk : Nat} (hk : c.e.kindOf x = some .local)
    (hn : h'.Ns c.e.locals (fun y => if y = x then u else m y)) (hs : Heap.SameBut c.e.locals s.heap h') : Rel Γ c g (del ρ x) H { s with heap := h', toks := tk } := by
  have own := R.own c.e.locals (.head _)
  refine ⟨R.base.hidden own.1 own.2.1 own.2.2.1 hs.extBut, R.fok, ⟨_, cm, hn, fun n a q => (L.cell n a q).sameBut hs (R.fok.off n a q), fun y w hw hy => ?_, fun y w hw hy => ?_⟩, fun b q => ?_, R.pro, R.abv, R.frs⟩
  · unfold del at hw
    split at hw
    · cases hw
    · rename_i e; rw [if_neg e]; exact L.loc y w hw hy
  · unfold del at hw
    split at hw
    · cases hw
    · exact L.cel y w hw hy
  · obtain ⟨h1, h2, h3, h4⟩ := R.own b q
    refine ⟨h1, h2, h3, ?_⟩
    show (h'.get? b).isSome = true
    by_cases e : b = c.e.locals
    · subst e; obtain ⟨o, _, _, z, _⟩ := hn; rw [z]; rfl
    · rw [hs.2 b e]; exact h4
theorem sTry {body : List Stmt} {n : Str} {b₀ : Stmt} {suite : List Stmt} {np hpos pos} {names : Names} {XB : XS} (hs : c.e.scope.names = names) (hn : names.lookup n = some .local) (hR : names.lookup ("Refusal" : Str) = some NameKind.globalImplicit)
    (hfr : ∃ outer, c.fr = c.e :: outer) (hf : c.e.frame = some c.e.locals)
    (hb : TB Γ c ρ H body K XB)
    (hx : ∀ (c' : Fm) msg ρ' H' H'' x, XB msg ρ' H' → c'.e.scope.names = names → c'.k = c.k → c'.A.handled = some (.ref x) → ExcH H'' x msg → Ext H' H'' → TB Γ c' (upd ρ' n (.ref x)) H'' (b₀ :: suite) (fun f ρ2 H2 => K f (del ρ2 n) H2) nXS) :
    T1 Γ c ρ H (.Try body [.ExceptHandler (some (.Name "Refusal" np)) (some n) (b₀ :: suite) hpos] [] [] pos) K X := fun g s R => by
  obtain ⟨outer, hfr⟩ := hfr
  have hkn := lookup_kind hs hn
  refine wpAny_Try_except (wpAny_mono (hb g s R) (fun f s1 ⟨ρ1, H1, R1, k1⟩ => ?_) fun e s1 he => ?_)
  · cases f with
    | next => exact wpAny_execs_nil ⟨ρ1, H1, R1, k1⟩
    | brk => exact ⟨ρ1, H1, R1, k1⟩
    | cont => exact ⟨ρ1, H1, R1, k1⟩
    | ret v => exact ⟨ρ1, H1, R1, k1⟩
  · obtain ⟨x, msg, ρ1, H1, rfl, R1, X1, k1⟩ := he
    refine noteFrame_exc (hfr ▸ R1.fok.frames) (hfr ▸ R1.frNow) hf (fun a hno => Hid.at' R1 (by
      cases q : s1.heap.get? a with
      | none => rfl
      | some o => exact absurd q (hno o))) X1 fun h2 M2 X2 => ?_
    refine setFlight_exc X2 fun h3 M3 X3 => ?_
    have R3 : Rel Γ c g ρ1 H1 { s1 with heap := h3 } := R1.mild (tk := s1.toks) (M2.trans M3)
    have R3h := R3.held x
    have ok := R3.base.ok
    have hkR := lookup_kind hs hR
    refine wpAny_handleBy_cons (codeAny_handlers_test (Name_function_global (x := "Refusal") R.fok.kind hkR (loadGlobal_global (env := c.e) (by rw [R.fok.glob]; exact ok.g.keeps R3.base.k0) (mg_of ok.k ok.g (v := .ref 51) rfl) ?_) rfl)) (by intro q; cases q)
    obtain ⟨nm, q, bs, hdct, sn, sub, ab, col, dd, k0, k1', k2, k3, k5, hC⟩ := refCls R3.base.kin
    obtain ⟨dx, oe, vs, m, t, e1, e2, e3, e4, e5, e6, e7, e8, e9, e10⟩ := id X3
    refine wpAny_excMatches_sub_self hC e1 e2 (by decide +kernel) (codeAny_handlers_suite_as ?_)
    refine setFlight_exc X3 fun h4 M4 X4 => ?_
    have R4 : Rel Γ (c.held x) g ρ1 H1 { s1 with heap := h4 } := (R3.mild (tk := s1.toks) M4).held x
    obtain ⟨dx, oe, vs, m, t, e1, e2, e3, e4, e5, e6, e7, e8, e9, e10⟩ := id X4
    have hne : x ≠ dx := by
      rintro rfl
      obtain ⟨o, es, ep, z1, z2, _⟩ := e6
      rw [e1] at z1; cases z1; rw [e4] at z2; cases z2
    have R5 := (R4.enter (o := .fld "message" (sv msg)) e9.2.2.1 e9.1 e9.2.1 e9.2.2.2 ⟨m, _, e6, e7, rfl⟩).enter (a := x) (o := .obj oe) (upd_none hne e8.2.2.1) e8.1 e8.2.1 e8.2.2.2 e1
    have hE : ExcH (upd (upd H1 dx (.fld "message" (sv msg))) x (.obj oe)) x msg := ⟨dx, oe, vs, upd_self, e2, e3, e4, by rw [upd_ne (Ne.symm hne), upd_self], e5⟩
    have hExt : Ext H1 (upd (upd H1 dx (.fld "message" (sv msg))) x (.obj oe)) := (Ext.new e9.2.2.1).upd' e8.2.2.1
    obtain ⟨mm, cm, L5⟩ := R5.loc
    refine wpAny_storeName_local hkn L5.ns (fun h5 hn5 hs5 => ?_) (by rw [R.fok.kind]; rfl)
    have R6 : Rel Γ (c.held x) g (upd ρ1 n (.ref x)) (upd (upd H1 dx (.fld "message" (sv msg))) x (.obj oe)) { s1 with heap := h5, toks := s1.toks + 1 } := R5.storeLoc (v := .ref x) L5 hkn hn5 hs5
    refine wpAny_mono (hx (c.held x) msg ρ1 H1 _ x k1 hs rfl (by show (Option.or (some (Value.ref x)) c.A.handled) = _; rfl) hE hExt g _ R6) (fun f s6 ⟨ρ6, H6, R7, k6⟩ => ?_) fun _ _ z => (no_exc z).elim
    have R7' : Rel Γ c g ρ6 H6 s6 := R.unheld (x := x) R7
    obtain ⟨m7, cm7, L7⟩ := R7'.loc
    refine wpAny_bind (wpAny_bindName (wpAny_storeName_local hkn L7.ns (fun h8 hn8 hs8 => ?_) (by rw [R.fok.kind]; rfl)))
    refine wpAny_onRaise (wpAny_unbindName_local (v := .none) hkn hn8 (by simp) (by rw [R.fok.kind]; rfl) fun h9 u hn9 hs9 => ?_)
    have e9 : (fun y => if y = n then u else (if y = n then some Value.none else m7 y)) = fun y => if y = n then u else m7 y := by funext y; split <;> rfl
    rw [e9] at hn9
    exact ⟨_, H6, R7'.unbind (tk := s6.toks + 1) L7 hkn hn9 (hs8.trans hs9), k6⟩

/-! unpacking a tuple while a Refusal is held -/
section
variable {A : Around} {E : Value → Shared → Prop} {t x it : Addr} {items : Array Value}
theorem unchain_held {oe : Obj} {vs : Array Value} {v : Value} {Q : Value → Shared → Prop} (e : s.heap.get? x = some oe) (hd : oe.data = .fields vs) (h2 : vs[2]? = some .none) (hq : Q .none s) :
    wpAny (model PR Γ.w) A (runValue (.builtin "proto.unchain" ⟨[v, .ref x, .ref x, .bool false], []⟩)) Q E s := by
  refine wpAny_runValue (codeAny_builtin (b := Builtin.«proto.unchain») (entryFor_of_tree (by kernel_rfl)) ?_)
  unfold Builtin.«proto.unchain»
  refine wpAny_bind (wpAny_field e hd h2 ?_)
  rw [if_pos (by rfl)]
  exact wpAny_pure hq
theorem next_tuple_end_held {oe : Obj} {vs : Array Value} {i : Nat} {Q : Option Value → Shared → Prop} (hh : A.handled = some (.ref x)) (e : s.heap.get? x = some oe) (hd : oe.data = .fields vs) (h2 : vs[2]? = some .none) (hxi : x ≠ it)
    (hit : IsTupIter s.heap it t i) (ht : IsTup s.heap t items) (hx : items[i]? = none) (hQ : ∀ h', Heap.ExtBut it s.heap h' → Q none { s with heap := h' }) : wpAny (model PR Γ.w) A (pyNext (.ref it)) Q E s := by
  have hT : s.TypeIs (.ref it) "tuple_iterator" := let ⟨o, ho, hc, _⟩ := hit; ⟨o, ho, hc⟩
  obtain ⟨o, ho, hc, hd'⟩ := id hit
  obtain ⟨ol, hol, _, nl, hdl⟩ := ht
  unfold pyNext
  refine wpAny_bind (wpAny_attempt (wpAny_callSpecial?_slot (name := Str.ofString "__next__") hT PySem.F.slot_tuple_iterator_next
    (wpAny_call_entry PySem.F.slot_tuple_iterator_next hT PySem.F.entry_tuple_iterator_next ?_ (PySem.F.args_tuple_iterator_next_1 _))))
  show wpAny _ _ (field (.ref it) 0 >>= _) _ _ s
  refine wpAny_bind (wpAny_field ho hd' (x := .ref t) rfl ?_)
  show wpAny _ _ (if (Value.ref t == Value.none) = true then _ else _) _ _ s
  rw [if_neg (show ¬ ((Value.ref t == Value.none) = true) from Bool.false_ne_true)]
  show wpAny _ _ (field (.ref it) 1 >>= _) _ _ s
  refine wpAny_bind (wpAny_field ho hd' (x := .int i 0) rfl ?_)
  show wpAny _ _ (seqItems? (.ref t) >>= _) _ _ s
  refine wpAny_bind (wpAny_seqItems hol hdl ?_)
  simp only [Int.toNat_natCast, hx]
  refine wpAny_bind (wpAny_rule (wpAny_bind (wpAny_setField ho hd' (by simp) ?_)))
  show wpAny _ _ (newExc (.type "StopIteration") [] >>= _) _ _ _
  refine wpAny_bind ?_
  simp only [newExc, newTuple]
  refine wpAny_bind (wpAny_newObj_type ?_ (by size_fits))
  refine wpAny_bind (m := firstArgMember _ _) (wpAny_of_eq (a := Value.none) (by first | rfl | (simp only [firstArgMember]; rfl)) ?_)
  refine wpAny_newObj_type ?_ (by size_fits)
  simp only [raiseNew]
  refine wpAny_bind (wpAny_handled ?_)
  rw [show A.in1.handled = some (.ref x) from hh]
  dsimp only
  have hxs : x < s.heap.objs.size := Heap.lt_size e
  generalize hh1 : s.heap.update it (Obj.mapFields fun x => x.setIfInBounds 0 Value.none) = h1
  have k1 : ∀ b o, b ≠ it → s.heap.get? b = some o → h1.get? b = some o := fun b o hb q => by rw [← hh1, Heap.get?_update_other _ _ (Ne.symm hb)]; exact q
  have e1 := k1 x oe hxi e
  generalize hh2 : h1.push { cls := .type "tuple", data := .seq ([] : List Value).toArray } = h2'
  have e2 : h2'.get? x = some oe := by rw [← hh2]; exact Heap.get?_push_of_some _ e1
  have hx2 : x ≠ h2'.objs.size := Nat.ne_of_lt (Heap.lt_size e2)
  rw [if_pos (by simpa using hx2)]
  refine wpAny_bind (wpAny_holding (unchain_held (oe := oe) (vs := vs) (Heap.get?_push_of_some _ e2) hd h2 ?_))
  have hF : ∃ ws, (#[.ref h1.objs.size, .none, .none, .none, .bool false, .none] ++ ownMembersOf (.type "StopIteration") [] : Array Value) = ws ∧ 2 < ws.size := ⟨_, rfl, by rw [Array.size_append]; exact Nat.lt_of_lt_of_le (by decide : 2 < 6) (Nat.le_add_right 6 _)⟩
  obtain ⟨ws, hws, hsz⟩ := hF
  rw [hws]
  have e3 := Heap.get?_push_size h2' (o := { cls := .type "StopIteration", data := .fields ws }) rfl
  show wpAny _ _ (setField (.ref h2'.objs.size) 2 (.ref x) >>= _) _ _ _
  refine wpAny_bind (wpAny_setField e3 rfl hsz ?_)
  have e4 := Heap.get?_update_self (Obj.mapFields (·.setIfInBounds 2 (Value.ref x))) e3 rfl
  refine wpAny_throw ?_
  refine wpAny_bind (wpAny_isInstance (T := "StopIteration") (b := true) ⟨_, e4, rfl⟩ isSubtype_stop ?_)
  refine wpAny_pure (hQ _ fun b o hb q => ?_)
  have q1 := k1 b o hb q
  have q2 : h2'.get? b = some o := by rw [← hh2]; exact Heap.get?_push_of_some _ q1
  have hb2 : h2'.objs.size ≠ b := Nat.ne_of_gt (Heap.lt_size q2)
  rw [Heap.get?_update_other _ _ hb2]
  exact Heap.get?_push_of_some _ q2
theorem unpackItems_held {oe : Obj} {vs : Array Value} {Q : List Value → Shared → Prop} (hh : A.handled = some (.ref x)) (e : s.heap.get? x = some oe) (hd : oe.data = .fields vs) (h2 : vs[2]? = some .none) (ht : IsTup s.heap t items)
    (hQ : ∀ h', Heap.ExtBut s.heap.objs.size s.heap h' → Q items.toList { s with heap := h' }) : wpAny (model PR Γ.w) A (unpackItems (.ref t) items.size none) Q E s := by
  have hlt : t ≠ s.heap.objs.size := by obtain ⟨o, ho, _⟩ := ht; exact Nat.ne_of_lt (Heap.lt_size ho)
  have hxs : x ≠ s.heap.objs.size := Nat.ne_of_lt (Heap.lt_size e)
  unfold unpackItems
  refine wpAny_bind ?_
  · unfold notIterableAtAll
    refine wpAny_bind (wpAny_specialOf ht.typeIs PySem.F.slot_tuple_iter.lookup ?_)
    refine wpAny_pure ?_
    simp only [Bool.false_eq_true, if_false]
    refine wpAny_bind (wpAny_holding (iter_tuple ht ?_))
    refine wpAny_bind (wpAny_holding (draw_tuple hlt items.size 0 _ _ ⟨_, Heap.get?_push_size _ rfl, rfl, rfl⟩ (ht.push _) (by omega) fun h₁ hit₁ hs₁ => ?_))
    have hall : List.take items.size (List.drop 0 items.toList) = items.toList := by
      rw [List.drop_zero]; exact List.take_of_length_le (by simp)
    rw [hall]
    rw [if_neg (by simp)]
    have ht₁ : IsTup h₁ t items := (ht.push _).extBut hs₁.extBut hlt
    have e₁ : h₁.get? x = some oe := hs₁.extBut _ _ hxs (Heap.get?_push_of_some _ e)
    refine wpAny_bind (wpAny_holding (next_tuple_end_held hh e₁ hd h2 hxs hit₁ ht₁ (by simp) fun h₂ he₂ => ?_))
    simp only [Option.isSome_none, Bool.false_eq_true, if_false]
    refine wpAny_pure (hQ h₂ fun b o hb e => he₂ b o hb (hs₁.extBut b o hb (Heap.get?_push_of_some _ e)))
end
inductive kSwap (K : KS) (ρ : Loc) (a b : Str) (x : Addr) (msg : Str) (v : Value) (H1 : AH) : Prop
  | mk (hE : ExcH H1 x msg) (t : Addr) (ua ub : Value) (e : v = .ref t) (h : H1 t = some (.tup [ua, ub])) (k : K .next (upd (upd ρ b ub) a ua) H1) : kSwap K ρ a b x msg v H1
theorem sSwap {a b : Str} {pa pb : Pos} {v1 v2 : Expr} {kk kv pt pv pos} {names : Names} {x : Addr} {msg : Str} (hs : c.e.scope.names = names) (ka : names.lookup a = some .local) (kb : names.lookup b = some .local) (hh : c.A.handled = some (.ref x))
    (hsw : c.e.blockKind = .function → c.e.kindOf a = some .local → c.e.kindOf b = some .local → swappedStores [.Tuple [.Name a pa, .Name b pb] kk pt] (.Tuple [v1, v2] kv pv) c.e = pure (some [a, b]))
    (h : TX Γ c ρ H (.Tuple [v1, v2] kv pv) (kSwap K ρ a b x msg) nX) : T1 Γ c ρ H (.Assign [.Tuple [.Name a pa, .Name b pb] kk pt] (.Tuple [v1, v2] kv pv) pos) K X := fun g s R => by
  have hka := lookup_kind hs ka
  have hkb := lookup_kind hs kb
  rw [arm_exec_Assign]
  refine wpAny_bind (wpAny_standAt ?_)
  rw [show swapsWithSole [.Tuple [.Name a pa, .Name b pb] kk pt] (.Tuple [v1, v2] kv pv) pos.line c.e = pure false from rfl]
  refine wpAny_bind (wpAny_pure ?_)
  rw [if_neg (by decide)]
  refine wpAny_bind (wpAny_mono (h g s R) (fun v s1 ⟨H1, R1, hE, t, ua, ub, ev, ht, k⟩ => ?_) fun _ _ z => (nX_no z).elim)
  rw [hsw (by simp [Env.blockKind, R.fok.kind, ScopeKind.isAnnotationScope]) hka hkb]
  refine wpAny_bind (wpAny_pure ?_)
  rw [er_ref ev]
  obtain ⟨vs, n, z1, z2⟩ := R1.base.sees _ _ ht
  obtain ⟨dx, oe, ws, q1, q2, q3, q4, q5, q6⟩ := hE
  obtain ⟨w1, w2, ew, e1, e2⟩ := map2 z2
  have hsz : vs.size = 2 := by rw [← Array.length_toList, ew]; rfl
  show wpAny _ _ (rule "assign.swapped-stores" >>= fun _ => unpackItems (.ref t) 2 none >>= fun items => assignInOrder ([b, a].map fun n => bindName c.e n) items.reverse >>= fun _ => pure Flow.next) _ _ s1
  refine wpAny_bind (wpAny_rule (wpAny_bind ?_))
  rw [← hsz]
  refine unpackItems_held hh (R1.base.sees _ _ q1) q4 q6 ⟨_, z1, rfl, _, rfl⟩ fun h' hx => ?_
  have R2 := R1.atNew hx
  rw [ew]
  obtain ⟨m, cm, L⟩ := R2.loc
  refine wpAny_bind (assignInOrder_cons (wpAny_bindName (wpAny_storeName_local hkb L.ns (fun h3 hn3 hs3 => ?_) (by rw [R.fok.kind]; rfl))))
  have R3 := R2.storeLoc (v := w2) (tk := s1.toks + 1) L hkb hn3 hs3
  obtain ⟨m3, cm3, L3⟩ := R3.loc
  refine assignInOrder_cons (wpAny_bindName (wpAny_storeName_local hka L3.ns (fun h4 hn4 hs4 => ?_) (by rw [R.fok.kind]; rfl)))
  have R4 := R3.storeLoc (v := w1) (tk := s1.toks + 1 + 1) L3 hka hn4 hs4
  rw [e1, e2] at R4
  exact assignInOrder_nil (wpAny_pure ⟨_, H1, R4, k⟩)
end

-- MF1
/-- a dict of attributes, or none -/
noncomputable def At (H : AH) (ats : Value) (es : List (Option Str × Value)) : Prop := (ats = .none ∧ es = []) ∨ ∃ D ep, ats = .ref D ∧ H D = some (.dict es ep)
/-- a Vector with its items and attributes -/
noncomputable def IV (H : AH) (v : Addr) (kind : Str) (xs : List Value) (es : List (Option Str × Value)) : Prop := ∃ it ats, Vc H v kind (.ref it) ats ∧ H it = some (.list xs) ∧ At H ats es
noncomputable def PV (H : AH) (v : Addr) (kind : Str) (xs : List Value) : Prop := ∃ it, Vc H v kind (.ref it) .none ∧ H it = some (.list xs)
theorem At.up {H H' : AH} {ats : Value} {es} (x : At H ats es) (e : Ext H H') : At H' ats es := x.imp id fun ⟨D, ep, a, b⟩ => ⟨D, ep, a, e _ _ b⟩
theorem IV.up {H H' : AH} {v : Addr} {kind : Str} {xs : List Value} {es} (x : IV H v kind xs es) (e : Ext H H') : IV H' v kind xs es := let ⟨it, ats, a, b, d⟩ := x; ⟨it, ats, a.up e, e _ _ b, d.up e⟩
theorem PV.up {H H' : AH} {v : Addr} {kind : Str} {xs : List Value} (x : PV H v kind xs) (e : Ext H H') : PV H' v kind xs := let ⟨it, a, b⟩ := x; ⟨it, a.up e, e _ _ b⟩
theorem PV.iv {H : AH} {v : Addr} {kind : Str} {xs : List Value} (x : PV H v kind xs) : IV H v kind xs [] := let ⟨it, a, b⟩ := x; ⟨it, .none, a, b, .inl ⟨rfl, rfl⟩⟩
theorem At.hand {H : AH} {ats : Value} {es} (x : At H ats es) : handedIn ats = true := by rcases x with ⟨rfl, _⟩ | ⟨D, ep, rfl, _⟩ <;> rfl
/-- an attribute that is a vector -/
noncomputable def AtV (H : AH) (es : List (Option Str × Value)) (key k : Str) : Option (List Value) → Prop
  | none => dget es (some key) = none
  | some xs => ∃ cv, dget es (some key) = some (.ref cv) ∧ PV H cv k xs
theorem AtV.up {H H' : AH} {es key k o} (x : AtV H es key k o) (e : Ext H H') : AtV H' es key k o := by
  cases o with
  | none => exact x
  | some xs => obtain ⟨cv, a, b⟩ := x; exact ⟨cv, a, b.up e⟩
section
variable {Γ : Gl} {H : AH} {v : Addr} {kind : Str} {xs : List Value} {es : List (Option Str × Value)}
/-- a comprehension whose elements only add to the heap -/
theorem CompP.pure {N : Names} {k : Nat} {hd : Bool} {x : Str} {ρ₀ : Loc} {elt : Expr} {Hc : AH → Prop} {K : KP} (f : Value → Value)
    (step : ∀ v ∈ xs, ∀ H', Ext H H' → ∀ c : Fm, c.e.scope.names = N → c.k = k → c.hd = hd → TX Γ c (upd ρ₀ x v) H' elt (kPv H' (f v)) nX) (hc : ∀ H', Ext H H' → Hc H')
    (fin : ∀ D H', Ext H H' → H' D = none → K (.ref D) (upd H' D (.list (xs.map f)))) : CompP Γ N k hd x ρ₀ [] elt Hc K xs [] H := by
  have go : ∀ (r ys : List Value) (H' : AH), Ext H H' → (∀ v ∈ r, v ∈ xs) → (∀ D H', Ext H H' → H' D = none → K (.ref D) (upd H' D (.list (ys ++ r.map f)))) → CompP Γ N k hd x ρ₀ [] elt Hc K r ys H' := by
    intro r
    induction r with
    | nil => intro ys H' e _ hf D hD; simpa using hf D H' e hD
    | cons v r ih =>
      intro ys H' e hm hf c h1 h2 h3
      simp only [CTest, if_true]
      refine (step v (hm v (.head _)) H' e c h1 h2 h3).mono (fun y H2 ⟨e2, ey⟩ => ⟨hc _ (e.trans e2), ih (ys ++ [y]) H2 (e.trans e2) (fun u hu => hm u (.tail _ hu)) fun D H3 e3 hD => ?_⟩) fun _ _ z => z
      have := hf D H3 e3 hD
      rw [ey]; simpa using this
  exact go xs [] H (Ext.refl H) (fun _ h => h) fin
/-- the same, with one test -/
theorem CompP.pureIf {N : Names} {k : Nat} {hd : Bool} {x : Str} {ρ₀ : Loc} {t elt : Expr} {Hc : AH → Prop} {K : KP} (p : Value → Bool) (f : Value → Value)
    (test : ∀ v ∈ xs, ∀ H', Ext H H' → ∀ c : Fm, c.e.scope.names = N → c.k = k → c.hd = hd → TT Γ c (upd ρ₀ x v) H' t (kPv H' (p v)) nX)
    (step : ∀ v ∈ xs, p v = true → ∀ H', Ext H H' → ∀ c : Fm, c.e.scope.names = N → c.k = k → c.hd = hd → TX Γ c (upd ρ₀ x v) H' elt (kPv H' (f v)) nX) (hc : ∀ H', Ext H H' → Hc H')
    (fin : ∀ D H', Ext H H' → H' D = none → K (.ref D) (upd H' D (.list ((xs.filter p).map f)))) : CompP Γ N k hd x ρ₀ [t] elt Hc K xs [] H := by
  have go : ∀ (r ys : List Value) (H' : AH), Ext H H' → (∀ v ∈ r, v ∈ xs) → (∀ D H', Ext H H' → H' D = none → K (.ref D) (upd H' D (.list (ys ++ (r.filter p).map f)))) → CompP Γ N k hd x ρ₀ [t] elt Hc K r ys H' := by
    intro r
    induction r with
    | nil => intro ys H' e _ hf D hD; simpa using hf D H' e hD
    | cons v r ih =>
      intro ys H' e hm hf c h1 h2 h3
      show TT Γ c (upd ρ₀ x v) H' t _ nX
      refine TA.mono (test v (hm v (.head _)) H' e c h1 h2 h3) (fun b H2 ⟨e2, eb⟩ => ?_) fun _ _ z => z
      cases b with
      | false =>
        first | refine ifN Bool.false_ne_true ?_ | rw [if_neg Bool.false_ne_true]
        refine ⟨hc _ (e.trans e2), ih ys H2 (e.trans e2) (fun u hu => hm u (.tail _ hu)) fun D H3 e3 hD => ?_⟩
        have := hf D H3 e3 hD
        rw [List.filter_cons, ← eb, if_neg Bool.false_ne_true] at this
        exact this
      | true =>
        first | refine ifP rfl ?_ | rw [if_pos rfl]
        refine (step v (hm v (.head _)) eb.symm H2 (e.trans e2) c h1 h2 h3).mono (fun y H3 ⟨e3, ey⟩ => ⟨hc _ ((e.trans e2).trans e3), ih (ys ++ [y]) H3 ((e.trans e2).trans e3) (fun u hu => hm u (.tail _ hu)) fun D H4 e4 hD => ?_⟩) fun _ _ z => z
        have := hf D H4 e4 hD
        rw [List.filter_cons, ← eb, if_pos rfl] at this
        rw [ey]; simpa using this
  exact go xs [] H (Ext.refl H) (fun _ h => h) fin
/-! the leaves -/
theorem fs_get_attr {ats items : Value} {name : Str} (hv : Vc H v kind items ats) (ha : At H ats es) : FS Γ 1 263 H [.ref v, sv name] (fun r H' => r = (dget es (some name)).getD .none ∧ H' = H) nX := by
  refine FS.enter (ps := ["v", "name"]) (dv := []) (ho := rfl) (hok := ⟨rfl, rfl, rfl, by rfl, rfl, rfl, rfl, by decide, by decide, by decide⟩) (hbody := rfl) (hnames := rfl) (binds2 fun _ _ => rfl) rfl (fun c Q hQ hQn hL => ?_)
  have hs := hL.nm; dsimp only at hs
  walk_at "mxs"
  refine gAttrs hv ha.hand ?_
  walk_at "mxs"
  rcases ha with ⟨rfl, rfl⟩ | ⟨D, ep, rfl, hD⟩
  · walk_at "mo"
    refine ⟨_, rfl, ?_⟩
    first | refine ifP (by decide) ?_ | rw [if_pos (by decide)]
    walk_at "mxs"
    exact ⟨rfl, rfl⟩
  · walk_at "mo"
    refine ⟨_, rfl, ?_⟩
    first | refine ifN (by simp) ?_ | rw [if_neg (by simp)]
    walk_at "mxs"
    refine xMeth mf_get rfl rfl rfl rfl ?_
    walk_at "mxs"
    refine gAttrs hv rfl ⟨isDict_of hD, ?_⟩
    walk_at "mxs"
    exact fun ws hw => bGet hD ⟨rfl, rfl⟩ hw
theorem fs_attribute {ats items : Value} {name : Str} (hv : Vc H v kind items ats) (ha : At H ats es) : FS Γ 1 355 H [.ref v, sv name] (fun r H' => r = (dget es (some name)).getD .none ∧ H' = H) nX := by
  refine FS.enter (ps := ["v", "name"]) (dv := []) (ho := rfl) (hok := ⟨rfl, rfl, rfl, by rfl, rfl, rfl, rfl, by decide, by decide, by decide⟩) (hbody := rfl) (hnames := rfl) (binds2 fun _ _ => rfl) rfl (fun c Q hQ hQn hL => ?_)
  have hs := hL.nm; dsimp only at hs
  walk_at "mxs"
  refine gAttrs hv ha.hand ?_
  walk_at "mxs"
  rcases ha with ⟨rfl, rfl⟩ | ⟨D, ep, rfl, hD⟩
  · walk_at "mo"
    refine ⟨_, rfl, ?_⟩
    first | refine ifP (by decide) ?_ | rw [if_pos (by decide)]
    walk_at "mxs"
    exact ⟨rfl, rfl⟩
  · walk_at "mo"
    refine ⟨_, rfl, ?_⟩
    first | refine ifN (by simp) ?_ | rw [if_neg (by simp)]
    walk_at "mxs"
    refine xMeth mf_get rfl rfl rfl rfl ?_
    walk_at "mxs"
    refine gAttrs hv rfl ⟨isDict_of hD, ?_⟩
    walk_at "mxs"
    exact fun ws hw => bGet hD ⟨rfl, rfl⟩ hw
theorem fs_class_attr {o : Option (List Value)} {k : Str} (hv : IV H v kind xs es) (hc : AtV H es "class" k o) (hz : ∀ l, o = some l → l.length ≤ 1000) : FS Γ 2 306 H [.ref v] (fun r H' => ∃ b, r = .ref b ∧ H b = none ∧ H' = upd H b (.list (o.getD []))) nX := by
  obtain ⟨it, ats, h1, h2, h3⟩ := hv
  refine FS.enter (ps := ["v"]) (dv := []) (ho := rfl) (hok := ⟨rfl, rfl, rfl, by rfl, rfl, rfl, rfl, by decide, by decide, by decide⟩) (hbody := rfl) (hnames := rfl) (binds1 fun _ => rfl) rfl (fun c Q hQ hQn hL => ?_)
  have hs := hL.nm; dsimp only at hs
  walk_at "mxs"
  refine FS.uses' (hL.le (by decide)) hL.hd (fs_get_attr h1 h3) ?_
  first | refine eRR ?_ | rintro _ _ ⟨rfl, rfl⟩
  refine stL (by assumption) rfl ?_
  walk_at "mxs"
  cases o with
  | none =>
    have e : dget es (some "class") = none := hc
    rw [e]
    walk_at "mo"
    refine ⟨_, rfl, ?_⟩
    first | refine ifP (by decide) ?_ | rw [if_pos (by decide)]
    walk_at "mxs"
    exact ⟨by decide, fun b hb => ⟨b, rfl, hb, rfl⟩⟩
  | some l =>
    obtain ⟨cv, e, jt, z1, z2⟩ := hc
    rw [e]
    walk_at "mo"
    refine ⟨_, rfl, ?_⟩
    first | refine ifN (by simp) ?_ | rw [if_neg (by simp)]
    walk_at "mxs"
    refine gItems z1 rfl ?_
    walk_at "mxs"
    exact bListL z2 (hz l rfl) (fun b hb => ⟨b, rfl, hb, rfl⟩)
end

-- MF2
/-- none, an int or a text -/
noncomputable def Fl (v : Value) : Prop := v = .none ∨ (∃ i, v = .int i 0) ∨ ∃ x, v = .str x 0 ∧ PyData.strOk x = true
noncomputable def dat : Value → PyData
  | .int i _ => .int i
  | .str x _ => .str x
  | _ => .none
theorem Fl.none : Fl .none := .inl rfl
theorem Fl.int (i : Int) : Fl (.int i 0) := .inr (.inl ⟨i, rfl⟩)
theorem Fl.str {x : Str} (h : PyData.strOk x = true) : Fl (.str x 0) := .inr (.inr ⟨x, rfl, h⟩)
theorem eqv_dat {a b : Value} (ha : Fl a) (hb : Fl b) : PyData.eqv (dat a) (dat b) = decide (a = b) := by
  rcases ha with rfl | ⟨i, rfl⟩ | ⟨x, rfl, _⟩ <;> rcases hb with rfl | ⟨j, rfl⟩ | ⟨y, rfl, _⟩ <;> simp [dat, PyData.eqv]
  · rw [Bool.eq_iff_iff]; simp
  · rw [Bool.eq_iff_iff]; simp
theorem eqvAll_dat : ∀ {xs ys : List Value}, (∀ x ∈ xs, Fl x) → (∀ y ∈ ys, Fl y) → PyData.eqvAll (xs.map dat) (ys.map dat) = decide (xs = ys)
  | [], [], _, _ => by simp [PyData.eqvAll]
  | [], _ :: _, _, _ => by simp [PyData.eqvAll]
  | _ :: _, [], _, _ => by simp [PyData.eqvAll]
  | x :: xs, y :: ys, h1, h2 => by
    rw [List.map_cons, List.map_cons]
    show (PyData.eqv (dat x) (dat y) && PyData.eqvAll (xs.map dat) (ys.map dat)) = _
    rw [eqv_dat (h1 _ (.head _)) (h2 _ (.head _)), eqvAll_dat (fun a ha => h1 a (.tail _ ha)) fun a ha => h2 a (.tail _ ha)]
    rw [Bool.eq_iff_iff]; simp
theorem any_dat {x : Value} (hx : Fl x) : ∀ {ys : List Value}, (∀ y ∈ ys, Fl y) → ((ys.map dat).any fun y => PyData.eqv y (dat x)) = decide (x ∈ ys)
  | [], _ => by simp
  | y :: ys, h => by
    rw [List.map_cons, List.any_cons, any_dat hx fun a ha => h a (.tail _ ha), eqv_dat (h _ (.head _)) hx, Bool.eq_iff_iff, Bool.or_eq_true, decide_eq_true_iff, decide_eq_true_iff, decide_eq_true_iff, List.mem_cons]
    constructor <;> (rintro (h | h); exact .inl h.symm; exact .inr h)
section
variable {Γ : Gl} {c : Fm} {ρ : Loc} {H : AH} {K : KP} {X : XP} {a b : Addr} {x y : Value} {xs ys : List Value}
theorem dt_dat {n : Nat} (h : Fl x) : Dt H n x (dat x) := by
  cases n <;> rcases h with rfl | ⟨i, rfl⟩ | ⟨y, rfl, hy⟩
  case zero.inr.inr => exact .str _ _ hy
  case succ.inr.inr => exact .str _ _ hy
  all_goals constructor
theorem all2_dat {n : Nat} : ∀ {xs : List Value}, (∀ x ∈ xs, Fl x) → All2 (Dt H n) xs (xs.map dat)
  | [], _ => .nil
  | _ :: _, h => .cons (dt_dat (h _ (.head _))) (all2_dat fun a ha => h a (.tail _ ha))
theorem dtL (h : H a = some (.list xs)) (hf : ∀ x ∈ xs, Fl x) : Dt H 1 (.ref a) (.list (xs.map dat)) := .list h (all2_dat hf)
theorem dtT (h : H a = some (.tup xs)) (hf : ∀ x ∈ xs, Fl x) : Dt H 1 (.ref a) (.tuple (xs.map dat)) := .tup h (all2_dat hf)
theorem oEqF (h1 : Fl x) (h2 : Fl y) (k : K (.bool (decide (x = y))) H) : Op2 Γ c ρ H (compareOp .Eq) x y K X := oEqD (n := 0) (dt_dat h1) (dt_dat h2) (by decide) (by rw [eqv_dat h1 h2]; exact k)
theorem oNeF (h1 : Fl x) (h2 : Fl y) (k : K (.bool (!decide (x = y))) H) : Op2 Γ c ρ H (compareOp .NotEq) x y K X := oNeD (n := 0) (dt_dat h1) (dt_dat h2) (by decide) (by rw [eqv_dat h1 h2]; exact k)
theorem oEqLL (h1 : H a = some (.list xs)) (h2 : H b = some (.list ys)) (f1 : ∀ x ∈ xs, Fl x) (f2 : ∀ x ∈ ys, Fl x) (k : K (.bool (decide (xs = ys))) H) : Op2 Γ c ρ H (compareOp .Eq) (.ref a) (.ref b) K X :=
  oEqD (dtL h1 f1) (dtL h2 f2) (by decide) (by show K (.bool (PyData.eqvAll _ _)) H; rw [eqvAll_dat f1 f2]; exact k)
theorem oNeLL (h1 : H a = some (.list xs)) (h2 : H b = some (.list ys)) (f1 : ∀ x ∈ xs, Fl x) (f2 : ∀ x ∈ ys, Fl x) (k : K (.bool (!decide (xs = ys))) H) : Op2 Γ c ρ H (compareOp .NotEq) (.ref a) (.ref b) K X :=
  oNeD (dtL h1 f1) (dtL h2 f2) (by decide) (by show K (.bool (!PyData.eqvAll _ _)) H; rw [eqvAll_dat f1 f2]; exact k)
theorem oInLL (hx : Fl x) (h2 : H b = some (.list ys)) (f2 : ∀ x ∈ ys, Fl x) (k : K (.bool (decide (x ∈ ys))) H) : Op2 Γ c ρ H (compareOp .In) x (.ref b) K X :=
  oInL (dt_dat hx) (dtL h2 f2) (by decide) (by rw [any_dat hx f2]; exact k)
theorem oNotInLL (hx : Fl x) (h2 : H b = some (.list ys)) (f2 : ∀ x ∈ ys, Fl x) (k : K (.bool (!decide (x ∈ ys))) H) : Op2 Γ c ρ H (compareOp .NotIn) x (.ref b) K X :=
  oNotInL (dt_dat hx) (dtL h2 f2) (by decide) (by rw [any_dat hx f2]; exact k)
theorem oInTT (hx : Fl x) (h2 : H b = some (.tup ys)) (f2 : ∀ x ∈ ys, Fl x) (k : K (.bool (decide (x ∈ ys))) H) : Op2 Γ c ρ H (compareOp .In) x (.ref b) K X :=
  oInT (dt_dat hx) (dtT h2 f2) (by decide) (by rw [any_dat hx f2]; exact k)
theorem oNotInTT (hx : Fl x) (h2 : H b = some (.tup ys)) (f2 : ∀ x ∈ ys, Fl x) (k : K (.bool (!decide (x ∈ ys))) H) : Op2 Γ c ρ H (compareOp .NotIn) x (.ref b) K X :=
  oNotInT (dt_dat hx) (dtT h2 f2) (by decide) (by rw [any_dat hx f2]; exact k)
theorem fl_strs {ss : List Str} (h : ∀ x ∈ ss, PyData.strOk x = true) : ∀ v ∈ ss.map sv, Fl v := fun v hv => by
  obtain ⟨x, hx, rfl⟩ := List.mem_map.mp hv; exact .str (h x hx)
theorem mem_strs {ss : List Str} {x : Str} : decide (sv x ∈ ss.map sv) = decide (x ∈ ss) := by
  rw [decide_eq_decide]; simp [sv]
end
section
variable {Γ : Gl} {H : AH} {v : Addr} {kind : Str} {xs : List Value} {es : List (Option Str × Value)}
theorem fs_dim_of (hv : IV H v kind xs es) (hc : dget es (some "dim") = none) : FS Γ 2 294 H [.ref v] (fun r H' => r = .none ∧ H' = H) nX := by
  obtain ⟨it, ats, h1, h2, h3⟩ := hv
  refine FS.enter (ps := ["v"]) (dv := []) (ho := rfl) (hok := ⟨rfl, rfl, rfl, by rfl, rfl, rfl, rfl, by decide, by decide, by decide⟩) (hbody := rfl) (hnames := rfl) (binds1 fun _ => rfl) rfl (fun c Q hQ hQn hL => ?_)
  have hs := hL.nm; dsimp only at hs
  walk_at "mxs"
  refine FS.uses' (hL.le (by decide)) hL.hd (fs_get_attr h1 h3) ?_
  first | refine eRR fun w hw => ?_ | rintro _ _ ⟨rfl, rfl⟩ w hw
  refine uLoc (by assumption) rfl ?_
  rw [hw, hc]
  walk_at "mxs"
  walk_at "mo"
  refine ⟨_, rfl, ?_⟩
  first | refine ifP (by decide) ?_ | rw [if_pos (by decide)]
  walk_at "mxs"
  exact ⟨rfl, rfl⟩
/-- the kinds that occur -/
noncomputable def Kd (kind : Str) : Prop := kind = "integer" ∨ kind = "character" ∨ kind = "logical"
theorem fs_is_atomic (hv : IV H v kind xs es) (hk : Kd kind) : FS Γ 1 256 H [.ref v] (fun r H' => r = .bool true ∧ Ext H H') nX := by
  obtain ⟨it, ats, h1, h2, h3⟩ := hv
  refine FS.enter (ps := ["v"]) (dv := []) (ho := rfl) (hok := ⟨rfl, rfl, rfl, by rfl, rfl, rfl, rfl, by decide, by decide, by decide⟩) (hbody := rfl) (hnames := rfl) (binds1 fun _ => rfl) rfl (fun c Q hQ hQn hL => ?_)
  have hs := hL.nm; dsimp only at hs
  walk_at "mxs"
  refine gKind h1 ?_
  walk_at "mxs"
  refine ⟨by decide, fun a ha => oInTT (.str ?_) upd_self ?_ ⟨?_, Ext.new ha⟩⟩
  · rcases hk with rfl | rfl | rfl <;> decide +kernel
  · intro x hx
    simp only [List.mem_cons, List.not_mem_nil, or_false] at hx
    rcases hx with rfl | rfl | rfl | rfl <;> exact .str (by decide +kernel)
  · rcases hk with rfl | rfl | rfl <;> decide
theorem fs_length (hv : IV H v kind xs es) (hk : Kd kind) (hz : xs.length ≤ 1000) : FS Γ 1 249 H [.ref v] (fun r H' => r = .int xs.length 0 ∧ H' = H) nX := by
  obtain ⟨it, ats, h1, h2, h3⟩ := hv
  refine FS.enter (ps := ["v"]) (dv := []) (ho := rfl) (hok := ⟨rfl, rfl, rfl, by rfl, rfl, rfl, rfl, by decide, by decide, by decide⟩) (hbody := rfl) (hnames := rfl) (binds1 fun _ => rfl) rfl (fun c Q hQ hQn hL => ?_)
  have hs := hL.nm; dsimp only at hs
  walk_at "mxs"
  refine gKind h1 ?_
  refine stL (by assumption) rfl ?_
  walk_at "mxs"
  walk_at "mo"
  refine ⟨_, rfl, ?_⟩
  first | refine ifN (by rcases hk with rfl | rfl | rfl <;> decide) ?_ | rw [if_neg (by rcases hk with rfl | rfl | rfl <;> decide)]
  walk_at "mxs"
  refine xGlo (by assumption) rfl rfl ?_ rfl
  walk_at "mxs"
  refine bIsVec h1 ?_
  walk_at "mo"
  first | refine ifP rfl ?_ | rw [if_pos rfl]
  first | refine ifP rfl ?_ | rw [if_pos rfl]
  walk_at "mxs"
  refine gItems h1 rfl ?_
  walk_at "mxs"
  exact bLenL h2 hz ⟨rfl, rfl⟩
end

-- MF3
/-- a new Vector over a new list -/
noncomputable def NL (H H' : AH) (v dx it : Addr) (kind : Str) (xs : List Value) (ats : Value) : Prop := NV H H' v dx kind (.ref it) ats ∧ H it = none ∧ it ≠ v ∧ it ≠ dx ∧ H' it = some (.list xs)
theorem NL.ext {H H' : AH} {v dx it : Addr} {kind : Str} {xs : List Value} {ats : Value} (x : NL H H' v dx it kind xs ats) : Ext H H' := x.1.ext
theorem NL.pv {H H' : AH} {v dx it : Addr} {kind : Str} {xs : List Value} (x : NL H H' v dx it kind xs .none) : PV H' v kind xs := ⟨it, x.1.vc, x.2.2.2.2⟩
theorem NL.up {H H' H'' : AH} {v dx it : Addr} {kind : Str} {xs : List Value} {ats : Value} (x : NL H H' v dx it kind xs ats) (e : Ext H' H'') : NL H H'' v dx it kind xs ats := ⟨x.1.up e, x.2.1, x.2.2.1, x.2.2.2.1, e _ _ x.2.2.2.2⟩
theorem NL.down {H H' H'' : AH} {v dx it : Addr} {kind : Str} {xs : List Value} {ats : Value} (e : Ext H H') (x : NL H' H'' v dx it kind xs ats) : NL H H'' v dx it kind xs ats := ⟨x.1.down e, none_of_ext e x.2.1, x.2.2.1, x.2.2.2.1, x.2.2.2.2⟩
theorem NL.set {H H' : AH} {v dx it : Addr} {kind : Str} {xs : List Value} {ats ats' : Value} (x : NL H H' v dx it kind xs ats) : NL H (upd H' dx (.ns (vecNs kind (.ref it) ats'))) v dx it kind xs ats' :=
  ⟨x.1.set, x.2.1, x.2.2.1, x.2.2.2.1, by rw [upd_ne x.2.2.2.1]; exact x.2.2.2.2⟩
theorem ne_of_none {H : AH} {a b : Addr} {o : AO} (ha : H a = some o) (hb : H b = none) : a ≠ b := by rintro rfl; rw [ha] at hb; cases hb
section
variable {Γ : Gl} {H : AH} {v a : Addr} {kind : Str} {xs : List Value} {es : List (Option Str × Value)}
set_option hygiene false in
local macro_rules | `(tactic| walk_at "mlist") => `(tactic| (
  walk_at "mxs"
  refine bListL ha hz (fun b hb => ?_)
  walk_at "mxs"
  refine FS.uses' (hL.le (by decide)) hL.hd fs_vec3 ?_
  rintro r H' ⟨v, dx, rfl, n⟩
  exact ⟨v, dx, b, rfl, n.down (Ext.new hb), hb, ne_of_none upd_self n.nv, ne_of_none upd_self n.nd, n.ext _ _ upd_self⟩))
theorem fs_logical (ha : H a = some (.list xs)) (hz : xs.length ≤ 1000) : FS Γ 3 214 H [.ref a] (fun r H' => ∃ v dx it, r = .ref v ∧ NL H H' v dx it "logical" xs .none) nX := by
  refine FS.enter (ps := ["items"]) (dv := []) (ho := rfl) (hok := ⟨rfl, rfl, rfl, by rfl, rfl, rfl, rfl, by decide, by decide, by decide⟩) (hbody := rfl) (hnames := rfl) (binds1 fun _ => rfl) rfl (fun c Q hQ hQn hL => ?_)
  have hs := hL.nm; dsimp only at hs
  walk_at "mlist"
theorem fs_integer (ha : H a = some (.list xs)) (hz : xs.length ≤ 1000) : FS Γ 3 221 H [.ref a] (fun r H' => ∃ v dx it, r = .ref v ∧ NL H H' v dx it "integer" xs .none) nX := by
  refine FS.enter (ps := ["items"]) (dv := []) (ho := rfl) (hok := ⟨rfl, rfl, rfl, by rfl, rfl, rfl, rfl, by decide, by decide, by decide⟩) (hbody := rfl) (hnames := rfl) (binds1 fun _ => rfl) rfl (fun c Q hQ hQn hL => ?_)
  have hs := hL.nm; dsimp only at hs
  walk_at "mlist"
theorem fs_character (ha : H a = some (.list xs)) (hz : xs.length ≤ 1000) : FS Γ 3 228 H [.ref a] (fun r H' => ∃ v dx it, r = .ref v ∧ NL H H' v dx it "character" xs .none) nX := by
  refine FS.enter (ps := ["items"]) (dv := []) (ho := rfl) (hok := ⟨rfl, rfl, rfl, by rfl, rfl, rfl, rfl, by decide, by decide, by decide⟩) (hbody := rfl) (hnames := rfl) (binds1 fun _ => rfl) rfl (fun c Q hQ hQn hL => ?_)
  have hs := hL.nm; dsimp only at hs
  walk_at "mlist"
/-- the label of an item -/
noncomputable def lab (kind : Str) (v : Value) : Value := match v with
  | .int i _ => if kind = "integer" then .str (Str.ofString (toString i)) 0 else v
  | v => v
theorem fs_label_text {x : Value} (h : (kind = "character" ∧ (x = .none ∨ ∃ y, x = sv y)) ∨ (kind = "integer" ∧ (x = .none ∨ ∃ i : Int, x = .int i 0 ∧ i.natAbs < 10 ^ 9))) : FS Γ 1 270 H [.str kind 0, x] (fun r H' => r = lab kind x ∧ H' = H) nX := by
  refine FS.enter (ps := ["kind", "item"]) (dv := []) (ho := rfl) (hok := ⟨rfl, rfl, rfl, by rfl, rfl, rfl, rfl, by decide, by decide, by decide⟩) (hbody := rfl) (hnames := rfl) (binds2 fun _ _ => rfl) rfl (fun c Q hQ hQn hL => ?_)
  have hs := hL.nm; dsimp only at hs
  walk_at "mxs"
  rcases h with ⟨rfl, h⟩ | ⟨rfl, h⟩
  · have hx : er x = x := by rcases h with rfl | ⟨y, rfl⟩ <;> rfl
    refine oIsN hx ⟨_, rfl, ?_⟩
    have fin : lab "character" x = x := by rcases h with rfl | ⟨y, rfl⟩ <;> rfl
    cases q : (x == Value.none) with
    | true =>
      first | refine ifP rfl ?_ | rw [if_pos rfl]
      first | refine ifP rfl ?_ | rw [if_pos rfl]
      walk_at "mxs"
      exact ⟨fin.symm, rfl⟩
    | false =>
      first | refine ifN Bool.false_ne_true ?_ | rw [if_neg Bool.false_ne_true]
      walk_at "mxs"
      walk_at "mo"
      refine ⟨_, rfl, ?_⟩
      first | refine ifP (by decide) ?_ | rw [if_pos (by decide)]
      first | refine ifP rfl ?_ | rw [if_pos rfl]
      walk_at "mxs"
      exact ⟨fin.symm, rfl⟩
  · have hx : er x = x := by rcases h with rfl | ⟨i, rfl, _⟩ <;> rfl
    refine oIsN hx ⟨_, rfl, ?_⟩
    rcases h with rfl | ⟨i, rfl, hi⟩
    · first | refine ifP (by decide) ?_ | rw [if_pos (by decide)]
      first | refine ifP rfl ?_ | rw [if_pos rfl]
      walk_at "mxs"
      exact ⟨rfl, rfl⟩
    · first | refine ifN (by simp) ?_ | rw [if_neg (by simp)]
      walk_at "mxs"
      walk_at "mo"
      refine ⟨_, rfl, ?_⟩
      first | refine ifN (by decide) ?_ | rw [if_neg (by decide)]
      walk_at "mxs"
      first | refine ifN (by decide) ?_ | rw [if_neg (by decide)]
      walk_at "mxs"
      walk_at "mo"
      refine ⟨_, rfl, ?_⟩
      first | refine ifN (by decide) ?_ | rw [if_neg (by decide)]
      walk_at "mxs"
      walk_at "mo"
      refine ⟨_, rfl, ?_⟩
      first | refine ifP (by decide) ?_ | rw [if_pos (by decide)]
      walk_at "mxs"
      exact bStrI hi ⟨by simp [lab], rfl⟩
/-- what an item of a labelled vector is -/
noncomputable def LabOk (kind : Str) (x : Value) : Prop := (kind = "character" ∧ (x = .none ∨ ∃ y, x = sv y)) ∨ (kind = "integer" ∧ (x = .none ∨ ∃ i : Int, x = .int i 0 ∧ i.natAbs < 10 ^ 9))
theorem fs_label_texts (hv : PV H v kind xs) (hx : ∀ x ∈ xs, LabOk kind x) (hz : xs.length ≤ 1000) : FS Γ 3 282 H [.ref v] (fun r H' => ∃ b, r = .ref b ∧ H b = none ∧ Ext H H' ∧ H' b = some (.list (xs.map (lab kind)))) nX := by
  obtain ⟨it, h1, h2⟩ := hv
  refine FS.enter (ps := ["value"]) (dv := []) (ho := rfl) (hok := ⟨rfl, rfl, rfl, by rfl, rfl, rfl, rfl, by decide, by decide, by decide⟩) (hbody := rfl) (hnames := rfl) (binds1 fun _ => rfl) rfl (fun c Q hQ hQn hL => ?_)
  have hs := hL.nm; dsimp only at hs
  walk_at "mxs"
  refine FS.uses' (hL.le (by decide)) hL.hd (fs_get_attr h1 (.inl ⟨rfl, rfl⟩)) ?_
  first | refine eRR ?_ | rintro _ _ ⟨rfl, rfl⟩
  refine stC (by assumption) rfl (hL.cell _ rfl) ?_
  walk_at "mxs"
  refine oIsNotN rfl ⟨_, rfl, ?_⟩
  first | refine ifN (by decide) ?_ | rw [if_neg (by decide)]
  first | refine ifN (by decide) ?_ | rw [if_neg (by decide)]
  walk_at "mxs"
  refine xComp hs rfl hL.hd rfl ?_
  walk_at "mxs"
  refine gItems h1 rfl ⟨xs, _, _, itbList h2, hz, CompP.pure (lab kind) ?_ (fun H' e => e _ _ h2) fun D H' e hD => ⟨D, rfl, none_of_ext e hD, e.upd hD, upd_self⟩⟩
  intro x hx' H' e c hs hk hhd
  walk_at "mxs"
  refine gKind (h1.up e) ?_
  walk_at "mxs"
  exact fun ws hw => FS.use' (by rw [hk, hL.k]; decide) (hhd.trans hL.hd) hw (fs_label_text (hx x hx')) fun v H2 ⟨h3, h4⟩ => ⟨h4 ▸ Ext.refl _, h3⟩
end

-- MF4
section
variable {Γ : Gl} {H : AH} {α : Type} {as : List α} {g f : α → Value}
theorem CompP.mapA {N : Names} {k : Nat} {hd : Bool} {x : Str} {ρ₀ : Loc} {elt : Expr} {Hc : AH → Prop} {K : KP} 
    (step : ∀ a ∈ as, ∀ H', Ext H H' → ∀ c : Fm, c.e.scope.names = N → c.k = k → c.hd = hd → TX Γ c (upd ρ₀ x (g a)) H' elt (kPv H' (f a)) nX) (hc : ∀ H', Ext H H' → Hc H')
    (fin : ∀ D H', Ext H H' → H' D = none → K (.ref D) (upd H' D (.list (as.map f)))) : CompP Γ N k hd x ρ₀ [] elt Hc K (as.map g) [] H := by
  have go : ∀ (r : List α) (ys : List Value) (H' : AH), Ext H H' → (∀ v ∈ r, v ∈ as) → (∀ D H', Ext H H' → H' D = none → K (.ref D) (upd H' D (.list (ys ++ r.map f)))) → CompP Γ N k hd x ρ₀ [] elt Hc K (r.map g) ys H' := by
    intro r
    induction r with
    | nil => intro ys H' e _ hf D hD; simpa using hf D H' e hD
    | cons v r ih =>
      intro ys H' e hm hf c h1 h2 h3
      simp only [CTest, if_true]
      refine (step v (hm v (.head _)) H' e c h1 h2 h3).mono (fun y H2 ⟨e2, ey⟩ => ⟨hc _ (e.trans e2), ih (ys ++ [y]) H2 (e.trans e2) (fun u hu => hm u (.tail _ hu)) fun D H3 e3 hD => ?_⟩) fun _ _ z => z
      have := hf D H3 e3 hD
      rw [ey]; simpa using this
  exact go as [] H (Ext.refl H) (fun _ h => h) fin
end
noncomputable def ov : Option Nat → Value
  | none => .none
  | some n => .int n 0
noncomputable def classes (falls : Bool) : List Str := if falls then ["ordered", "factor"] else ["factor"]
/-- a factor's attributes -/
noncomputable def FacAt (H : AH) (es : List (Option Str × Value)) (levels : List Str) (falls : Bool) (heads : Option (List Str)) : Prop :=
  ∃ lv cv nvs, es = nvs ++ [(some ("levels" : Str), Value.ref lv), (some ("class" : Str), Value.ref cv)] ∧ PV H lv "character" (levels.map sv) ∧ PV H cv "character" ((classes falls).map sv) ∧
    ((heads = none ∧ nvs = []) ∨ ∃ nv hs, heads = some hs ∧ nvs = [(some ("names" : Str), Value.ref nv)] ∧ PV H nv "character" (hs.map sv) ∧ hs.length ≤ 60 ∧ ∀ x ∈ hs, PyData.strOk x = true)
noncomputable def Fac (H : AH) (v : Addr) (codes : List (Option Nat)) (levels : List Str) (falls : Bool) (heads : Option (List Str)) : Prop :=
  ∃ es, IV H v "integer" (codes.map ov) es ∧ FacAt H es levels falls heads ∧ codes.length ≤ 60 ∧ levels.length < 60 ∧ ∀ x ∈ levels, PyData.strOk x = true
theorem FacAt.up {H H' : AH} {es levels falls heads} (x : FacAt H es levels falls heads) (e : Ext H H') : FacAt H' es levels falls heads := by
  obtain ⟨lv, cv, nvs, h1, h2, h3, h4⟩ := x
  refine ⟨lv, cv, nvs, h1, h2.up e, h3.up e, h4.imp id ?_⟩
  rintro ⟨nv, hs, a, b, d, f⟩
  exact ⟨nv, hs, a, b, d.up e, f⟩
theorem Fac.up {H H' : AH} {v codes levels falls heads} (x : Fac H v codes levels falls heads) (e : Ext H H') : Fac H' v codes levels falls heads := let ⟨es, a, b, d⟩ := x; ⟨es, a.up e, b.up e, d⟩
theorem FacAt.lev {H : AH} {es levels falls heads} (x : FacAt H es levels falls heads) : AtV H es "levels" "character" (some (levels.map sv)) := by
  obtain ⟨lv, cv, nvs, rfl, h2, h3, h4⟩ := x
  refine ⟨lv, ?_, h2⟩
  rcases h4 with ⟨_, rfl⟩ | ⟨nv, hs, _, rfl, _⟩ <;> rfl
theorem FacAt.cls {H : AH} {es levels falls heads} (x : FacAt H es levels falls heads) : AtV H es "class" "character" (some ((classes falls).map sv)) := by
  obtain ⟨lv, cv, nvs, rfl, h2, h3, h4⟩ := x
  refine ⟨cv, ?_, h3⟩
  rcases h4 with ⟨_, rfl⟩ | ⟨nv, hs, _, rfl, _⟩ <;> rfl
theorem FacAt.nam {H : AH} {es levels falls heads} (x : FacAt H es levels falls heads) : AtV H es "names" "character" (heads.map (·.map sv)) := by
  obtain ⟨lv, cv, nvs, rfl, h2, h3, h4⟩ := x
  rcases h4 with ⟨rfl, rfl⟩ | ⟨nv, hs, rfl, rfl, h5, _⟩
  · rfl
  · exact ⟨nv, rfl, h5⟩
theorem FacAt.dim {H : AH} {es levels falls heads} (x : FacAt H es levels falls heads) : dget es (some "dim") = none := by
  obtain ⟨lv, cv, nvs, rfl, h2, h3, h4⟩ := x
  rcases h4 with ⟨rfl, rfl⟩ | ⟨nv, hs, rfl, rfl, h5, _⟩ <;> rfl
theorem strOk_classes (falls : Bool) : ∀ x ∈ classes falls, PyData.strOk x = true := by cases falls <;> decide +kernel

section
variable {Γ : Gl} {H : AH} {v a : Addr} {kind : Str} {xs : List Value} {es : List (Option Str × Value)} {codes : List (Option Nat)} {levels : List Str} {falls : Bool} {heads : Option (List Str)}
theorem fs_item_texts (hv : PV H v kind xs) (hk : Kd kind) (hx : ∀ x ∈ xs, LabOk kind x) (hz : xs.length ≤ 1000) : FS Γ 4 540 H [.ref v] (fun r H' => ∃ b, r = .ref b ∧ H b = none ∧ Ext H H' ∧ H' b = some (.list (xs.map (lab kind)))) nX := by
  obtain ⟨it, h1, h2⟩ := id hv
  refine FS.enter (ps := ["v"]) (dv := []) (ho := rfl) (hok := ⟨rfl, rfl, rfl, by rfl, rfl, rfl, rfl, by decide, by decide, by decide⟩) (hbody := rfl) (hnames := rfl) (binds1 fun _ => rfl) rfl (fun c Q hQ hQn hL => ?_)
  have hs := hL.nm; dsimp only at hs
  walk_at "mxs"
  refine gKind h1 ?_
  walk_at "mxs"
  walk_at "mo"
  refine ⟨_, rfl, ?_⟩
  first | refine ifN (by rcases hk with rfl | rfl | rfl <;> decide) ?_ | rw [if_neg (by rcases hk with rfl | rfl | rfl <;> decide)]
  walk_at "mxs"
  refine FS.uses' (hL.le (by decide)) hL.hd (fs_is_atomic hv.iv hk) ?_
  first | refine eRE fun H1 e1 => ?_ | rintro _ H1 ⟨rfl, e1⟩
  walk_at "mo"
  walk_at "mif"
  walk_at "mxs"
  refine FS.uses' (hL.le (by decide)) hL.hd (fs_label_texts (hv.up e1) hx hz) ?_
  first | refine eN3 fun b H2 hb e2 hb2 => ?_ | rintro _ H2 ⟨b, rfl, hb, e2, hb2⟩
  exact ⟨b, rfl, none_of_ext e1 hb, e1.trans e2, hb2⟩
theorem fs_names_of {o : Option (List Value)} {k : Str} (hv : IV H v kind xs es) (hk : (kind == ("language" : Str)) = false ∧ (kind == ("environment" : Str)) = false) (hd : dget es (some "dim") = none) (hc : AtV H es "names" k o) (hz : ∀ l, o = some l → l.length ≤ 1000) :
    FS Γ 3 287 H [.ref v] (fun r H' => (o = none ∧ r = .none ∧ H' = H) ∨ ∃ l b, o = some l ∧ r = .ref b ∧ H b = none ∧ H' = upd H b (.list l)) nX := by
  obtain ⟨it, ats, h1, h2, h3⟩ := id hv
  refine FS.enter (ps := ["v"]) (dv := []) (ho := rfl) (hok := ⟨rfl, rfl, rfl, by rfl, rfl, rfl, rfl, by decide, by decide, by decide⟩) (hbody := rfl) (hnames := rfl) (binds1 fun _ => rfl) rfl (fun c Q hQ hQn hL => ?_)
  have hs := hL.nm; dsimp only at hs
  walk_at "mxs"
  refine gKind h1 ?_
  walk_at "mxs"
  walk_at "mo"
  refine ⟨_, rfl, ?_⟩
  first | refine ifN (by rw [hk.1]; exact Bool.false_ne_true) ?_ | rw [if_neg (by rw [hk.1]; exact Bool.false_ne_true)]
  walk_at "mxs"
  refine gKind h1 ?_
  walk_at "mxs"
  walk_at "mo"
  refine ⟨_, rfl, ?_⟩
  first | refine ifN (by rw [hk.2]; exact Bool.false_ne_true) ?_ | rw [if_neg (by rw [hk.2]; exact Bool.false_ne_true)]
  walk_at "mxs"
  refine FS.uses' (hL.le (by decide)) hL.hd (fs_dim_of hv hd) ?_
  first | refine eRR ?_ | rintro _ _ ⟨rfl, rfl⟩
  refine stL (by assumption) rfl ?_
  walk_at "mxs"
  walk_at "mo"
  refine ⟨_, rfl, ?_⟩
  walk_at "mif"
  walk_at "mxs"
  refine FS.uses' (hL.le (by decide)) hL.hd (fs_get_attr h1 h3) ?_
  first | refine eRR ?_ | rintro _ _ ⟨rfl, rfl⟩
  refine stL (by assumption) rfl ?_
  walk_at "mxs"
  cases o with
  | none =>
    have e : dget es (some "names") = none := hc
    rw [e]
    walk_at "mo"
    refine ⟨_, rfl, ?_⟩
    walk_at "mif"
    walk_at "mxs"
    exact .inl ⟨rfl, rfl, rfl⟩
  | some l =>
    obtain ⟨cv, e, jt, z1, z2⟩ := hc
    rw [e]
    walk_at "mo"
    refine ⟨_, rfl, ?_⟩
    first | refine ifN (by simp) ?_ | rw [if_neg (by simp)]
    walk_at "mxs"
    refine gItems z1 rfl ?_
    walk_at "mxs"
    exact bListL z2 (hz l rfl) (fun b hb => .inr ⟨l, b, rfl, rfl, hb, rfl⟩)
theorem fs_named : FS Γ 1 235 H [.ref v, .none] (fun r H' => r = .ref v ∧ H' = H) nX := by
  refine FS.enter (ps := ["v", "names"]) (dv := []) (ho := rfl) (hok := ⟨rfl, rfl, rfl, by rfl, rfl, rfl, rfl, by decide, by decide, by decide⟩) (hbody := rfl) (hnames := rfl) (binds2 fun _ _ => rfl) rfl (fun c Q hQ hQn hL => ?_)
  have hs := hL.nm; dsimp only at hs
  walk_at "mxs"
  walk_at "mo"
  refine ⟨_, rfl, ?_⟩
  walk_at "mif"
  walk_at "mxs"
  exact ⟨rfl, rfl⟩
theorem fs_is_factorC (hv : IV H v "character" xs es) : FS Γ 1 480 H [.ref v] (fun r H' => r = .bool false ∧ H' = H) nX := by
  obtain ⟨it, ats, h1, h2, h3⟩ := id hv
  refine FS.enter (ps := ["v"]) (dv := []) (ho := rfl) (hok := ⟨rfl, rfl, rfl, by rfl, rfl, rfl, rfl, by decide, by decide, by decide⟩) (hbody := rfl) (hnames := rfl) (binds1 fun _ => rfl) rfl (fun c Q hQ hQn hL => ?_)
  have hs := hL.nm; dsimp only at hs
  walk_at "mxs"
  refine gKind h1 ?_
  walk_at "mxs"
  walk_at "mo"
  refine uBool ?_
  walk_at "mif"
  exact ⟨rfl, rfl⟩
theorem fs_is_factor (hv : Fac H v codes levels falls heads) : FS Γ 3 480 H [.ref v] (fun r H' => r = .bool true ∧ Ext H H') nX := by
  obtain ⟨es, hi, hf, _⟩ := id hv
  obtain ⟨it, ats, h1, h2, h3⟩ := id hi
  refine FS.enter (ps := ["v"]) (dv := []) (ho := rfl) (hok := ⟨rfl, rfl, rfl, by rfl, rfl, rfl, rfl, by decide, by decide, by decide⟩) (hbody := rfl) (hnames := rfl) (binds1 fun _ => rfl) rfl (fun c Q hQ hQn hL => ?_)
  have hs := hL.nm; dsimp only at hs
  walk_at "mxs"
  refine gKind h1 ?_
  walk_at "mxs"
  walk_at "mo"
  refine uBool ?_
  walk_at "mif"
  walk_at "mxs"
  refine FS.uses' (hL.le (by decide)) hL.hd (fs_class_attr hi hf.cls (fun l hl => by cases hl; cases falls <;> decide)) ?_
  rintro _ _ ⟨b, rfl, hb, rfl⟩
  refine oInLL (.str (by decide +kernel)) upd_self (fl_strs (strOk_classes falls)) ⟨?_, Ext.new hb⟩
  rw [Option.getD_some, mem_strs]; cases falls <;> rfl
theorem fs_is_orderedC (hv : IV H v "character" xs es) : FS Γ 2 487 H [.ref v] (fun r H' => r = .bool false ∧ H' = H) nX := by
  refine FS.enter (ps := ["v"]) (dv := []) (ho := rfl) (hok := ⟨rfl, rfl, rfl, by rfl, rfl, rfl, rfl, by decide, by decide, by decide⟩) (hbody := rfl) (hnames := rfl) (binds1 fun _ => rfl) rfl (fun c Q hQ hQn hL => ?_)
  have hs := hL.nm; dsimp only at hs
  walk_at "mxs"
  refine FS.uses' (hL.le (by decide)) hL.hd (fs_is_factorC hv) ?_
  first | refine eRR ?_ | rintro _ _ ⟨rfl, rfl⟩
  refine uBool ?_
  walk_at "mif"
  exact ⟨rfl, rfl⟩
theorem fs_is_ordered (hv : Fac H v codes levels falls heads) : FS Γ 4 487 H [.ref v] (fun r H' => r = .bool falls ∧ Ext H H') nX := by
  obtain ⟨es, hi, hf, _⟩ := id hv
  refine FS.enter (ps := ["v"]) (dv := []) (ho := rfl) (hok := ⟨rfl, rfl, rfl, by rfl, rfl, rfl, rfl, by decide, by decide, by decide⟩) (hbody := rfl) (hnames := rfl) (binds1 fun _ => rfl) rfl (fun c Q hQ hQn hL => ?_)
  have hs := hL.nm; dsimp only at hs
  walk_at "mxs"
  refine FS.uses' (hL.le (by decide)) hL.hd (fs_is_factor hv) ?_
  first | refine eRE fun H1 e1 => ?_ | rintro _ H1 ⟨rfl, e1⟩
  refine uBool ?_
  walk_at "mif"
  walk_at "mxs"
  refine FS.uses' (hL.le (by decide)) hL.hd (fs_class_attr (hi.up e1) (hf.up e1).cls (fun l hl => by cases hl; cases falls <;> decide)) ?_
  rintro _ _ ⟨b, rfl, hb, rfl⟩
  refine oInLL (.str (by decide +kernel)) upd_self (fl_strs (strOk_classes falls)) ⟨?_, e1.upd hb⟩
  rw [Option.getD_some, mem_strs]; cases falls <;> rfl
theorem fs_level_texts (hv : Fac H v codes levels falls heads) : FS Γ 4 492 H [.ref v] (fun r H' => ∃ b, r = .ref b ∧ H b = none ∧ Ext H H' ∧ H' b = some (.list (levels.map sv))) nX := by
  obtain ⟨es, hi, hf, hz1, hz2, hok⟩ := id hv
  obtain ⟨it, ats, h1, h2, h3⟩ := id hi
  obtain ⟨lv, e, hlv⟩ := hf.lev
  obtain ⟨jt, z1, z2⟩ := id hlv
  refine FS.enter (ps := ["f"]) (dv := []) (ho := rfl) (hok := ⟨rfl, rfl, rfl, by rfl, rfl, rfl, rfl, by decide, by decide, by decide⟩) (hbody := rfl) (hnames := rfl) (binds1 fun _ => rfl) rfl (fun c Q hQ hQn hL => ?_)
  have hs := hL.nm; dsimp only at hs
  walk_at "mxs"
  refine FS.uses' (hL.le (by decide)) hL.hd (fs_get_attr h1 h3) ?_
  first | refine eRR fun w hw => ?_ | rintro _ _ ⟨rfl, rfl⟩ w hw
  refine uLoc (by assumption) rfl ?_
  rw [hw, e]
  walk_at "mxs"
  walk_at "mo"
  refine ⟨_, rfl, ?_⟩
  first | refine ifN (by simp) ?_ | rw [if_neg (by simp)]
  walk_at "mxs"
  refine FS.uses' (hL.le (by decide)) hL.hd (fs_is_atomic hlv.iv (.inr (.inl rfl))) ?_
  first | refine eRE fun H1 e1 => ?_ | rintro _ H1 ⟨rfl, e1⟩
  walk_at "mo"
  walk_at "mif"
  walk_at "mxs"
  walk_at "mif"
  walk_at "mxs"
  refine xComp hs rfl hL.hd rfl ?_
  walk_at "mxs"
  refine FS.uses' (hL.le (by decide)) hL.hd (fs_label_texts (hlv.up e1) (fun x hx => .inl ⟨rfl, .inr ?_⟩) (by rw [List.length_map]; omega)) ?_
  · obtain ⟨y, _, rfl⟩ := List.mem_map.mp hx; exact ⟨y, rfl⟩
  first | refine eN3 fun b H2 hb e2 hb2 => ?_ | rintro _ H2 ⟨b, rfl, hb, e2, hb2⟩
  have el : (levels.map sv).map (lab "character") = levels.map sv := by rw [List.map_map]; rfl
  rw [el] at hb2
  refine ⟨_, _, _, itbList hb2, by rw [List.length_map]; omega, CompP.mapA (f := sv) ?_ (fun H' e => e _ _ hb2) fun D H' e' hD => ⟨D, rfl, none_of_ext (e1.trans (e2.trans e')) hD, (e1.trans (e2.trans e')).upd hD, upd_self⟩⟩
  intro x hx H' e' c hs hk hhd
  walk_at "mxs"
  walk_at "mo"
  refine ⟨_, rfl, ?_⟩
  first | refine ifN (by simp) ?_ | rw [if_neg (by simp)]
  walk_at "mxs"
  exact ⟨Ext.refl _, rfl⟩
end

-- MF5
/-- a code that is valid among n levels -/
noncomputable def codeIn (n : Nat) (o : Option Nat) : Option Nat := o.bind fun c => if 1 ≤ c ∧ c ≤ n then some c else none
/-- the texts of a factor -/
noncomputable def facTexts (levels : List Str) (codes : List (Option Nat)) : List (Option Str) := codes.map fun o => (codeIn levels.length o).bind fun c => levels[c - 1]?
/-- the distinct texts, first come first -/
noncomputable def distA : List Str → List (Option Str) → List Str
  | acc, [] => acc
  | acc, none :: r => distA acc r
  | acc, some x :: r => distA (if x ∈ acc then acc else acc ++ [x]) r
/-- the place of a text -/
noncomputable def pos (levels : List Str) (x : Str) : Option Nat := (levels.findIdx? (· = x)).map (· + 1)
theorem dget_stored {es : List (Option Str × Value)} {k k' : Option Str} {v : Value} : dget (stored es k v) k' = if k' = k then some v else dget es k' := by
  unfold dget valueAt stored
  split
  · rename_i h
    induction es with
    | nil => simp at h
    | cons p r ih =>
      rw [List.any_cons, Bool.or_eq_true] at h
      rw [List.map_cons, List.find?_cons, List.find?_cons]
      by_cases hp : p.1 = k
      · first | refine ifP hp ?_ | rw [if_pos hp]
        by_cases hk : k' = k
        · subst hk; simp [hp]
        · have : ¬ p.1 = k' := fun e => hk (e.symm.trans hp)
          simp only [this, decide_false, if_neg hk]
          by_cases hr : (r.any fun kv => decide (kv.1 = k)) = true
          · have := ih hr; rw [if_neg hk] at this; exact this
          · have hr' : r.map (fun kv => if kv.1 = k then (kv.1, v) else kv) = r := by
              rw [List.map_congr_left (g := id)]
              · simp
              · intro q hq
                have : ¬ q.1 = k := fun e => hr (List.any_eq_true.mpr ⟨q, hq, by simpa using e⟩)
                simp [this]
            rw [hr']
      · first | refine ifN hp ?_ | rw [if_neg hp]
        have hr : (r.any fun kv => decide (kv.1 = k)) = true := by
          rcases h with h | h
          · exact absurd (by simpa using h) hp
          · exact h
        by_cases hk : p.1 = k'
        · have : ¬ k' = k := fun e => hp (hk.trans e)
          simp [hk, this]
        · simp only [hk, decide_false]
          exact ih hr
  · rename_i h
    rw [List.find?_append]
    by_cases hk : k' = k
    · subst hk
      have : es.find? (fun kv => decide (kv.1 = k')) = none := by
        rw [List.find?_eq_none]
        intro q hq e
        exact h (List.any_eq_true.mpr ⟨q, hq, e⟩)
      simp [this]
    · first | refine ifN hk ?_ | rw [if_neg hk]
      have : ¬ k = k' := fun e => hk e.symm
      simp [this]
theorem stored_len {es : List (Option Str × Value)} {k : Option Str} {v : Value} : (stored es k v).length ≤ es.length + 1 := by
  unfold stored; split <;> simp
theorem stored_strs {acc : List Str} {x : Str} : stored (acc.map fun y => (some y, Value.bool true)) (some x) (.bool true) = (if x ∈ acc then acc else acc ++ [x]).map fun y => (some y, Value.bool true) := by
  unfold stored
  have e : ((acc.map fun y => (some y, Value.bool true)).any fun kv => decide (kv.1 = some x)) = decide (x ∈ acc) := by
    rw [List.any_map, Bool.eq_iff_iff]; simp
  rw [e]
  by_cases h : x ∈ acc
  · simp only [h, decide_true, if_true, List.map_map]
    apply List.map_congr_left
    intro y _
    simp only [Function.comp_def]
    split <;> rfl
  · simp [h]
section
variable {Γ : Gl} {H : AH} {v a : Addr} {kind : Str} {xs : List Value} {es : List (Option Str × Value)} {codes : List (Option Nat)} {levels : List Str} {falls : Bool} {heads : Option (List Str)}
theorem fs_codes_in (hv : Fac H v codes levels falls heads) : FS Γ 5 497 H [.ref v] (fun r H' => ∃ b, r = .ref b ∧ H b = none ∧ Ext H H' ∧ H' b = some (.list ((codes.map (codeIn levels.length)).map ov))) nX := by
  obtain ⟨es, hi, hf, hz1, hz2, hok⟩ := id hv
  obtain ⟨it, ats, h1, h2, h3⟩ := id hi
  refine FS.enter (ps := ["f"]) (dv := []) (ho := rfl) (hok := ⟨rfl, rfl, rfl, by rfl, rfl, rfl, rfl, by decide, by decide, by decide⟩) (hbody := rfl) (hnames := rfl) (binds1 fun _ => rfl) rfl (fun c Q hQ hQn hL => ?_)
  have hs := hL.nm; dsimp only at hs
  walk_at "mxs"
  refine FS.uses' (hL.le (by decide)) hL.hd (fs_level_texts hv) ?_
  first | refine eN3 fun b H1 hb e1 hb1 => ?_ | rintro _ H1 ⟨b, rfl, hb, e1, hb1⟩
  walk_at "mxs"
  refine bLenL hb1 (by rw [List.length_map]; omega) (fun w hw => ?_)
  refine uCelE (by assumption) rfl (hL.cell _ rfl) hw ?_
  walk_at "mxs"
  refine xComp hs rfl hL.hd rfl ?_
  walk_at "mxs"
  refine gItems (h1.up e1) rfl ⟨_, _, _, itbList (e1 _ _ h2), by rw [List.length_map]; omega, CompP.mapA (f := fun o => ov (codeIn levels.length o)) ?_ (fun H' e => e _ _ (e1 _ _ h2)) fun D H' e' hD => ⟨D, rfl, none_of_ext (e1.trans e') hD, (e1.trans e').upd hD, by rw [upd_self, List.map_map]; rfl⟩⟩
  intro x hx H' e' c hs hk hhd
  walk_at "mxs"
  cases x with
  | none =>
    refine oIsNotN rfl ⟨_, rfl, ?_⟩
    walk_at "mif"
    walk_at "mxs"
    exact ⟨Ext.refl _, rfl⟩
  | some n =>
    refine oIsNotN rfl ⟨_, rfl, ?_⟩
    first | refine ifP (by rfl) ?_ | rw [if_pos (by rfl)]
    walk_at "mxs"
    refine oLeI (i := 1) (j := (n : Int)) ?_
    refine ⟨_, rfl, ?_⟩
    by_cases h : 1 ≤ n
    · first | refine ifP (decide_eq_true (by omega)) ?_ | rw [if_pos (decide_eq_true (by omega))]
      walk_at "mxs"
      refine oLeI (i := (n : Int)) ?_
      refine ⟨_, rfl, ?_⟩
      by_cases h' : n ≤ levels.length
      · first | refine ifP (by simpa using h') ?_ | rw [if_pos (by simpa using h')]
        walk_at "mxs"
        first | refine ifP rfl ?_ | rw [if_pos rfl]
        walk_at "mxs"
        exact ⟨Ext.refl _, by simp [codeIn, h, h', ov]⟩
      · first | refine ifN (by simpa using h') ?_ | rw [if_neg (by simpa using h')]
        first | refine ifN Bool.false_ne_true ?_ | rw [if_neg Bool.false_ne_true]
        walk_at "mxs"
        exact ⟨Ext.refl _, by simp [codeIn, h, h', ov]⟩
    · first | refine ifN (by rw [decide_eq_true_iff]; omega) ?_ | rw [if_neg (by rw [decide_eq_true_iff]; omega)]
      first | refine ifN Bool.false_ne_true ?_ | rw [if_neg Bool.false_ne_true]
      first | refine ifN Bool.false_ne_true ?_ | rw [if_neg Bool.false_ne_true]
      walk_at "mxs"
      exact ⟨Ext.refl _, by simp [codeIn, h, ov]⟩
theorem fs_factor_texts (hv : Fac H v codes levels falls heads) : FS Γ 6 502 H [.ref v] (fun r H' => ∃ b, r = .ref b ∧ H b = none ∧ Ext H H' ∧ H' b = some (.list ((facTexts levels codes).map keyV))) nX := by
  obtain ⟨es, hi, hf, hz1, hz2, hok⟩ := id hv
  refine FS.enter (ps := ["f"]) (dv := []) (ho := rfl) (hok := ⟨rfl, rfl, rfl, by rfl, rfl, rfl, rfl, by decide, by decide, by decide⟩) (hbody := rfl) (hnames := rfl) (binds1 fun _ => rfl) rfl (fun c Q hQ hQn hL => ?_)
  have hs := hL.nm; dsimp only at hs
  walk_at "mxs"
  refine FS.uses' (hL.le (by decide)) hL.hd (fs_level_texts hv) ?_
  first | refine eN3 fun b H1 hb e1 hb1 => ?_ | rintro _ H1 ⟨b, rfl, hb, e1, hb1⟩
  refine stC (by assumption) rfl (hL.cell _ rfl) ?_
  walk_at "mxs"
  refine xComp hs rfl hL.hd rfl ?_
  walk_at "mxs"
  refine FS.uses' (hL.le (by decide)) hL.hd (fs_codes_in (hv.up e1)) ?_
  first | refine eN3 fun b2 H2 hb2 e2 hb3 => ?_ | rintro _ H2 ⟨b2, rfl, hb2, e2, hb3⟩
  refine ⟨_, _, _, itbList hb3, by rw [List.length_map, List.length_map]; omega, CompP.mapA (f := fun o => keyV (o.bind fun c => levels[c - 1]?)) ?_ (fun H' e => e _ _ hb3) fun D H' e' hD => ⟨D, rfl, none_of_ext (e1.trans (e2.trans e')) hD, (e1.trans (e2.trans e')).upd hD, by rw [upd_self, List.map_map, facTexts, List.map_map]; rfl⟩⟩
  intro x hx H' e' c hs hk hhd
  walk_at "mxs"
  cases x with
  | none =>
    refine oIsN rfl ⟨_, rfl, ?_⟩
    walk_at "mif"
    walk_at "mxs"
    exact ⟨Ext.refl _, rfl⟩
  | some n =>
    obtain ⟨o, _, ho⟩ := List.mem_map.mp hx
    have hn : 1 ≤ n ∧ n ≤ levels.length := by
      cases o with
      | none => cases ho
      | some m =>
        unfold codeIn at ho
        rw [Option.bind_some] at ho
        split at ho
        · cases ho; assumption
        · cases ho
    have hlt : n - 1 < levels.length := by omega
    refine oIsN rfl ⟨_, rfl, ?_⟩
    first | refine ifN (by simp [ov]) ?_ | rw [if_neg (by simp [ov])]
    walk_at "mxs"
    refine oSub (i := (n : Int)) ?_
    rw [show ((n : Int) - 1) = ((n - 1 : Nat) : Int) by omega]
    refine .list (e' _ _ (e2 _ _ hb1)) (x := sv levels[n - 1]) (by rw [List.getElem?_map, List.getElem?_eq_getElem hlt]; rfl) (by omega) ⟨Ext.refl _, ?_⟩
    show _ = keyV (levels[n - 1]?)
    rw [List.getElem?_eq_getElem hlt]; rfl
theorem fs_factor_class : FS Γ 4 509 H [.bool falls] (fun r H' => ∃ b, r = .ref b ∧ H b = none ∧ Ext H H' ∧ PV H' b "character" ((classes falls).map sv)) nX := by
  refine FS.enter (ps := ["ordered"]) (dv := []) (ho := rfl) (hok := ⟨rfl, rfl, rfl, by rfl, rfl, rfl, rfl, by decide, by decide, by decide⟩) (hbody := rfl) (hnames := rfl) (binds1 fun _ => rfl) rfl (fun c Q hQ hQn hL => ?_)
  have hs := hL.nm; dsimp only at hs
  walk_at "mxs"
  refine uBool ?_
  cases falls with
  | true =>
    walk_at "mif"
    walk_at "mxs"
    refine ⟨by decide, fun b hb => ?_⟩
    walk_at "mxs"
    refine FS.uses' (hL.le (by decide)) hL.hd (fs_character upd_self (by decide)) ?_
    first | refine eV3 fun w dx jt H' n => ?_ | rintro _ H' ⟨w, dx, jt, rfl, n⟩
    exact ⟨w, rfl, none_of_ext (Ext.new hb) n.1.nv, (Ext.new hb).trans n.ext, n.pv⟩
  | false =>
    walk_at "mif"
    walk_at "mxs"
    refine ⟨by decide, fun b hb => ?_⟩
    walk_at "mxs"
    refine FS.uses' (hL.le (by decide)) hL.hd (fs_character upd_self (by decide)) ?_
    first | refine eV3 fun w dx jt H' n => ?_ | rintro _ H' ⟨w, dx, jt, rfl, n⟩
    exact ⟨w, rfl, none_of_ext (Ext.new hb) n.1.nv, (Ext.new hb).trans n.ext, n.pv⟩
end

-- MF6
theorem pos_none {levels : List Str} {x : Str} : pos levels x = none ↔ x ∉ levels := by
  unfold pos
  rw [Option.map_eq_none_iff, List.findIdx?_eq_none_iff]
  constructor
  · intro h hm; have := h x hm; simp at this
  · intro h y hy; simp; rintro rfl; exact h hy
theorem pos_snoc {levels : List Str} {x y : Str} : pos (levels ++ [y]) x = (pos levels x).or (if x = y then some (levels.length + 1) else none) := by
  unfold pos
  rw [List.findIdx?_append]
  cases levels.findIdx? (· = x) with
  | some i => rfl
  | none =>
    by_cases h : x = y
    · subst h; simp
    · have : ¬ y = x := fun e => h e.symm
      simp [h, this]
theorem distA_len : ∀ (ws : List (Option Str)) (acc : List Str), (distA acc ws).length ≤ acc.length + ws.length
  | [], acc => by simp [distA]
  | none :: r, acc => by have := distA_len r acc; simp only [distA, List.length_cons]; omega
  | some x :: r, acc => by
    have := distA_len r (if x ∈ acc then acc else acc ++ [x])
    simp only [distA, List.length_cons]
    have h2 : (if x ∈ acc then acc else acc ++ [x]).length ≤ acc.length + 1 := by split <;> simp
    omega
section
variable {Γ : Gl} {H : AH} {v a a' : Addr} {kind : Str} {xs : List Value} {es : List (Option Str × Value)} {codes : List (Option Nat)} {levels : List Str} {falls : Bool} {heads : Option (List Str)} {ws : List (Option Str)}
theorem fs_distinct_texts (ha : H a = some (.list (ws.map keyV))) (hz : ws.length ≤ 900) : FS Γ 1 523 H [.ref a] (fun r H' => ∃ b, r = .ref b ∧ H b = none ∧ Ext H H' ∧ H' b = some (.list ((distA [] ws).map sv))) nX := by
  refine FS.enter (ps := ["texts"]) (dv := []) (ho := rfl) (hok := ⟨rfl, rfl, rfl, by rfl, rfl, rfl, rfl, by decide, by decide, by decide⟩) (hbody := rfl) (hnames := rfl) (binds1 fun _ => rfl) rfl (fun c Q hQ hQn hL => ?_)
  have hs := hL.nm; dsimp only at hs
  walk_at "mxs"
  refine fun D hD => ?_
  refine stL (by assumption) rfl ?_
  refine sCons ?_
  refine sForI (x := "one") hs rfl hL.hd ?_
  walk_at "mxs"
  have hne : a ≠ D := ne_of_none ha hD
  refine ⟨_, _, _, itbList (show upd H D (.dict [] 0) a = some (.list (ws.map keyV)) by rw [upd_ne hne]; exact ha),
    ForI.intro (fun _ : Unit => _) (fun r _ H1 => ∃ acc ep, distA [] ws = distA acc r ∧ acc.length + r.length ≤ 900 ∧ Ext H H1 ∧ H1 D = some (.dict (acc.map fun y => (some y, Value.bool true)) ep)) () ⟨[], 0, rfl, by simpa using hz, Ext.new hD, upd_self⟩ (Sub.refl _) ?_ ?_⟩
  · rintro o r _ H1 ⟨acc, ep, h1, h2, h3, h4⟩
    walk_at "mxs"
    cases o with
    | none =>
      refine oIsNotN rfl ⟨_, rfl, ?_⟩
      walk_at "mif"
      walk_at "mxs"
      exact ⟨h3 _ _ ha, (), Sub.off (Sub.refl _) rfl, acc, ep, h1, by simpa using Nat.le_of_succ_le h2, h3, h4⟩
    | some x =>
      refine oIsNotN rfl ⟨_, rfl, ?_⟩
      first | refine ifP (by rfl) ?_ | rw [if_pos (by rfl)]
      refine sCons (sAsgI ?_)
      walk_at "mxs"
      refine fun u j w hu hj hw => uSetD (kk := some x) h4 (by rw [List.length_map]; omega) (fun ep' => ?_) hu hj hw
      walk_at "mxs"
      rw [stored_strs]
      refine ⟨by show upd _ _ _ a = _; rw [upd_ne hne]; exact h3 _ _ ha, (), Sub.off (Sub.refl _) rfl, _, ep', h1, ?_, h3.upd' hD, upd_self⟩
      simp only [List.length_cons] at h2
      split <;> first | omega | (rw [List.length_append, List.length_singleton]; omega)
  · rintro _ H1 ⟨acc, ep, h1, h2, h3, h4⟩
    walk_at "mxs"
    refine bListD hL.hd h4 (by rw [List.length_map]; simp at h2; omega) (fun b hb => ⟨b, rfl, none_of_ext h3 hb, h3.upd hb, ?_⟩)
    rw [upd_self, List.map_map, h1]; rfl
theorem fs_codes_of (ha : H a = some (.list (ws.map keyV))) (hb : H a' = some (.list (levels.map sv))) (hz : ws.length ≤ 900) (hz' : levels.length ≤ 900) :
    FS Γ 1 533 H [.ref a, .ref a'] (fun r H' => ∃ b, r = .ref b ∧ H b = none ∧ Ext H H' ∧ H' b = some (.list ((ws.map fun o => o.bind (pos levels)).map ov))) nX := by
  refine FS.enter (ps := ["texts", "levels"]) (dv := []) (ho := rfl) (hok := ⟨rfl, rfl, rfl, by rfl, rfl, rfl, rfl, by decide, by decide, by decide⟩) (hbody := rfl) (hnames := rfl) (binds2 fun _ _ => rfl) rfl (fun c Q hQ hQn hL => ?_)
  have hs := hL.nm; dsimp only at hs
  walk_at "mxs"
  refine fun D hD => ?_
  refine stC (by assumption) rfl (hL.cell _ rfl) ?_
  have hne : a' ≠ D := ne_of_none hb hD
  refine sCons ?_
  refine sForI (x := "i") hs rfl hL.hd ?_
  walk_at "mxs"
  refine bLenL (show upd H D (.dict [] 0) a' = some (.list (levels.map sv)) by rw [upd_ne hne]; exact hb) (by rw [List.length_map]; omega) ?_
  refine bRange (n := (levels.map sv).length) (fun r t u v hr => ?_)
  have e1 : Ext H (upd (upd H D (.dict [] 0)) r (.obj (rangeObj (levels.map sv).length t u v))) := (Ext.new hD).upd hr
  have hne2 : D ≠ r := ne_of_none upd_self hr
  refine ⟨_, _, _, itbRange upd_self (by rw [List.length_map]; omega),
    ForI.intro (as := List.range (levels.map sv).length) (fun _ : Unit => _) (fun r _ H1 => ∃ k es ep, r = (List.range (levels.map sv).length).drop k ∧ k ≤ levels.length ∧ es.length ≤ k ∧ Ext H H1 ∧ H1 D = some (.dict es ep) ∧ ∀ x : Str, dget es (some x) = (pos (levels.take k) x).map fun n => Value.int (n : Int) 0) ()
      ⟨0, [], 0, rfl, Nat.zero_le _, Nat.le_refl _, e1, by rw [upd_ne hne2, upd_self], fun x => rfl⟩ (Sub.refl _) ?_ ?_⟩
  · rintro i r _ H1 ⟨k, es, ep, h1, hk, h2, h3, h4, h5⟩
    have hk2 : i = k ∧ r = (List.range (levels.map sv).length).drop (k + 1) ∧ k < levels.length := by
      have hlt : k < (List.range (levels.map sv).length).length := by
        apply Nat.lt_of_not_le; intro hge; rw [List.drop_eq_nil_of_le hge] at h1; cases h1
      rw [List.drop_eq_getElem_cons hlt] at h1
      obtain ⟨ea, eb⟩ := List.cons.inj h1
      exact ⟨by rw [ea, List.getElem_range], eb, by simpa using hlt⟩
    obtain ⟨rfl, hr', hlt⟩ := hk2
    have hit : (levels.map sv)[i]? = some (sv levels[i]) := by rw [List.getElem?_map, List.getElem?_eq_getElem hlt]; rfl
    have ei : (Int.ofNat i) = ((i : Nat) : Int) := rfl
    have htake : levels.take (i + 1) = levels.take i ++ [levels[i]] := by rw [List.take_succ_eq_append_getElem hlt]
    walk_at "mxs"
    refine .list (h3 _ _ hb) hit (by omega) ?_
    walk_at "mxs"
    refine oIsNotN rfl ⟨_, rfl, ?_⟩
    first | refine ifP (by rfl) ?_ | rw [if_pos (by rfl)]
    walk_at "mxs"
    refine .list (h3 _ _ hb) hit (by omega) ?_
    walk_at "mxs"
    refine oNotInD (kk := some levels[i]) h4 ⟨_, rfl, ?_⟩
    rw [h5, Option.isSome_map]
    cases hp : pos (levels.take i) levels[i] with
    | some n =>
      first | refine ifN (by simp) ?_ | rw [if_neg (by simp)]
      walk_at "mxs"
      first | refine ifN (by simp) ?_ | rw [if_neg (by simp)]
      walk_at "mxs"
      refine ⟨trivial, (), Sub.off (Sub.refl _) rfl, i + 1, es, ep, hr', hlt, by omega, h3, h4, fun x => ?_⟩
      rw [htake, pos_snoc, h5]
      by_cases hx : x = levels[i]
      · subst hx; rw [hp]; rfl
      · rw [if_neg hx]; simp
    | none =>
      first | refine ifP (by rfl) ?_ | rw [if_pos (by rfl)]
      walk_at "mxs"
      first | refine ifP (by rfl) ?_ | rw [if_pos (by rfl)]
      refine sCons (sAsgI ?_)
      walk_at "mxs"
      walk_at "mo"
      walk_at "mxs"
      refine .list (h3 _ _ hb) hit (by omega) ?_
      refine fun u j w hu hj hw => uSetD (kk := some levels[i]) h4 (by omega) (fun ep' => ?_) hu hj hw
      walk_at "mxs"
      refine ⟨trivial, (), Sub.off (Sub.refl _) rfl, i + 1, _, ep', hr', hlt, by have := stored_len (es := es) (k := some levels[i]) (v := Value.int (Int.ofNat i + 1) 0); omega, h3.upd' hD, upd_self, fun x => ?_⟩
      rw [htake, pos_snoc, dget_stored, h5]
      by_cases hx : x = levels[i]
      · subst hx; rw [hp, if_pos rfl]; simp [List.length_take, Nat.min_eq_left (Nat.le_of_lt hlt)]
      · rw [if_neg (by simpa using hx), if_neg hx]; simp
  · rintro _ H1 ⟨k, es, ep, h1, hk, h2, h3, h4, h5⟩
    have hkl : k = levels.length := by
      have := congrArg List.length h1
      simp at this; omega
    subst hkl
    rw [List.take_length] at h5
    walk_at "mxs"
    refine xComp hs rfl hL.hd rfl ?_
    walk_at "mxs"
    refine ⟨_, _, _, itbList (h3 _ _ ha), by rw [List.length_map]; omega, CompP.mapA (f := fun o => ov (o.bind (pos levels))) ?_ (fun H' e => e _ _ (h3 _ _ ha)) fun D' H' e' hD' => ⟨D', rfl, none_of_ext (h3.trans e') hD', (h3.trans e').upd hD', by rw [upd_self, List.map_map]; rfl⟩⟩
    intro x hx H' e' c hs hk hhd
    walk_at "mxs"
    cases x with
    | none =>
      refine oIsN rfl ⟨_, rfl, ?_⟩
      walk_at "mif"
      walk_at "mxs"
      exact ⟨Ext.refl _, rfl⟩
    | some y =>
      refine oIsN rfl ⟨_, rfl, ?_⟩
      first | refine ifN (by simp [keyV]) ?_ | rw [if_neg (by simp [keyV])]
      refine xMeth mf_get rfl rfl rfl rfl ?_
      walk_at "mxs"
      refine ⟨isDict_of (e' _ _ h4), ?_⟩
      walk_at "mxs"
      refine fun ws' hw => bGet (kk := some y) (e' _ _ h4) ⟨Ext.refl _, ?_⟩ hw
      rw [h5, Option.bind_some]
      cases pos levels y <;> rfl
end

-- MF7
section
variable {Γ : Gl} {H : AH} {v a a' : Addr} {kind : Str} {xs : List Value} {es : List (Option Str × Value)} {codes : List (Option Nat)} {levels : List Str} {falls : Bool} {heads : Option (List Str)} {ws : List (Option Str)}
theorem fs_label_list (ha : H a = some (.list xs)) : FS Γ 1 545 H [.none, .ref a] (fun r H' => r = .ref a ∧ H' = H) nX := by
  refine FS.enter (ps := ["labels", "levels"]) (dv := []) (ho := rfl) (hok := ⟨rfl, rfl, rfl, by rfl, rfl, rfl, rfl, by decide, by decide, by decide⟩) (hbody := rfl) (hnames := rfl) (binds2 fun _ _ => rfl) rfl (fun c Q hQ hQn hL => ?_)
  have hs := hL.nm; dsimp only at hs
  walk_at "mxs"
  walk_at "mo"
  refine ⟨_, rfl, ?_⟩
  walk_at "mif"
  walk_at "mxs"
  exact ⟨rfl, rfl⟩
theorem fs_check_distinct (ha : H a = some (.list (levels.map sv))) (hz : levels.length ≤ 900) (hn : levels.Nodup) : FS Γ 1 552 H [.ref a] (fun r H' => r = .none ∧ Ext H H') nX := by
  refine FS.enter (ps := ["levels"]) (dv := []) (ho := rfl) (hok := ⟨rfl, rfl, rfl, by rfl, rfl, rfl, rfl, by decide, by decide, by decide⟩) (hbody := rfl) (hnames := rfl) (binds1 fun _ => rfl) rfl (fun c Q hQ hQn hL => ?_)
  have hs := hL.nm; dsimp only at hs
  walk_at "mxs"
  refine fun D hD => ?_
  refine stL (by assumption) rfl ?_
  have hne : a ≠ D := ne_of_none ha hD
  refine sCons ?_
  refine sForI (x := "i") hs rfl hL.hd ?_
  walk_at "mxs"
  refine bLenL (show upd H D (.dict [] 0) a = some (.list (levels.map sv)) by rw [upd_ne hne]; exact ha) (by rw [List.length_map]; omega) ?_
  refine bRange (n := (levels.map sv).length) (fun r t u v hr => ?_)
  have e1 : Ext H (upd (upd H D (.dict [] 0)) r (.obj (rangeObj (levels.map sv).length t u v))) := (Ext.new hD).upd hr
  have hne2 : D ≠ r := ne_of_none upd_self hr
  refine ⟨_, _, _, itbRange upd_self (by rw [List.length_map]; omega),
    ForI.intro (as := List.range (levels.map sv).length) (fun _ : Unit => _) (fun r _ H1 => ∃ k es ep, r = (List.range (levels.map sv).length).drop k ∧ k ≤ levels.length ∧ es.length ≤ k ∧ Ext H H1 ∧ H1 D = some (.dict es ep) ∧ ∀ x : Str, (dget es (some x)).isSome = decide (x ∈ levels.take k)) ()
      ⟨0, [], 0, rfl, Nat.zero_le _, Nat.le_refl _, e1, by rw [upd_ne hne2, upd_self], fun x => by simp [dget, valueAt]⟩ (Sub.refl _) ?_ ?_⟩
  · rintro i r _ H1 ⟨k, es, ep, h1, hk, h2, h3, h4, h5⟩
    have hk2 : i = k ∧ r = (List.range (levels.map sv).length).drop (k + 1) ∧ k < levels.length := by
      have hlt : k < (List.range (levels.map sv).length).length := by
        apply Nat.lt_of_not_le; intro hge; rw [List.drop_eq_nil_of_le hge] at h1; cases h1
      rw [List.drop_eq_getElem_cons hlt] at h1
      obtain ⟨ea, eb⟩ := List.cons.inj h1
      exact ⟨by rw [ea, List.getElem_range], eb, by simpa using hlt⟩
    obtain ⟨rfl, hr', hlt⟩ := hk2
    have hit : (levels.map sv)[i]? = some (sv levels[i]) := by rw [List.getElem?_map, List.getElem?_eq_getElem hlt]; rfl
    have htake : levels.take (i + 1) = levels.take i ++ [levels[i]] := by rw [List.take_succ_eq_append_getElem hlt]
    have hnot : levels[i] ∉ levels.take i := by
      intro hm
      have h6 := hn
      rw [← List.take_append_drop i levels, List.drop_eq_getElem_cons hlt] at h6
      exact (List.nodup_append.mp h6).2.2 _ hm _ (.head _) rfl
    walk_at "mxs"
    refine .list (h3 _ _ ha) hit (by omega) ?_
    walk_at "mxs"
    refine oInD (kk := some levels[i]) h4 ⟨_, rfl, ?_⟩
    rw [h5]
    first | refine ifN (by simpa using hnot) ?_ | rw [if_neg (by simpa using hnot)]
    walk_at "mxs"
    refine sAsgI ?_
    walk_at "mxs"
    refine .list (h3 _ _ ha) hit (by omega) ?_
    refine fun u j w hu hj hw => uSetD (kk := some levels[i]) h4 (by omega) (fun ep' => ?_) hu hj hw
    walk_at "mxs"
    refine ⟨trivial, (), Sub.off (Sub.refl _) rfl, i + 1, _, ep', hr', hlt, by have := stored_len (es := es) (k := some levels[i]) (v := Value.bool true); omega, h3.upd' hD, upd_self, fun x => ?_⟩
    rw [htake, dget_stored]
    by_cases hx : x = levels[i]
    · first | refine ifP (by rw [hx]) ?_ | rw [if_pos (by rw [hx])]
      symm; rw [Option.isSome_some, decide_eq_true_iff, hx]; exact List.mem_append_right _ (.head _)
    · rw [if_neg (by simpa using hx), h5, decide_eq_decide, List.mem_append, List.mem_singleton]
      exact ⟨Or.inl, fun h => h.resolve_right hx⟩
  · rintro _ H1 ⟨k, es, ep, h1, hk, h2, h3, h4, h5⟩
    walk_at "mxs"
    exact ⟨rfl, h3⟩
/-- with_levels: what it needs of the vector and what it leaves -/
theorem fs_with_levels {dx it : Addr} {ats : Value} {nvs : List (Option Str × Value)} {names : List Str} (hv : H v = some (.inst VectorC dx)) (hd : H dx = some (.ns (vecNs "integer" (.ref it) ats)))
    (hat : (ats = .none ∧ nvs = []) ∨ ∃ D ep, ats = .ref D ∧ H D = some (.dict nvs ep) ∧ D ≠ dx ∧ ∀ p ∈ nvs, p.1 = some ("names" : Str)) (hl : nvs.length ≤ 1) (ha : H a = some (.list (names.map sv))) (hz : names.length ≤ 900) :
    FS Γ 5 516 H [.ref v, .ref a, .bool falls] (fun r H' => r = .ref v ∧ ∃ D lv cv ep, H' v = some (.inst VectorC dx) ∧ H' dx = some (.ns (vecNs "integer" (.ref it) (.ref D))) ∧
      H' D = some (.dict (nvs ++ [(some ("levels" : Str), Value.ref lv), (some ("class" : Str), Value.ref cv)]) ep) ∧ PV H' lv "character" (names.map sv) ∧ PV H' cv "character" ((classes falls).map sv) ∧
      ∀ F, Ext F H → F dx = none → (∀ D, ats = .ref D → F D = none) → Ext F H') nX := by
  refine FS.enter (ps := ["v", "texts", "ordered"]) (dv := []) (ho := rfl) (hok := ⟨rfl, rfl, rfl, by rfl, rfl, rfl, rfl, by decide, by decide, by decide⟩) (hbody := rfl) (hnames := rfl) (binds3 fun _ _ _ => rfl) rfl (fun c Q hQ hQn hL => ?_)
  have hs := hL.nm; dsimp only at hs
  have hvx : v ≠ dx := by rintro rfl; rw [hv] at hd; cases hd
  refine sCons (sCutH (fun H' => ∃ D ep, H' v = some (.inst VectorC dx) ∧ H' dx = some (.ns (vecNs "integer" (.ref it) (.ref D))) ∧ H' D = some (.dict nvs ep) ∧ D ≠ dx ∧ D ≠ v ∧ H' a = some (.list (names.map sv)) ∧
    ∀ F, Ext F H → F dx = none → (∀ D, ats = .ref D → F D = none) → Ext F H' ∧ F D = none) ?_ ?_)
  · walk_at "mxs"
    rcases hat with ⟨rfl, rfl⟩ | ⟨D, ep, rfl, hD, hDx, hk⟩
    · refine gAttrs ⟨dx, hv, hd⟩ rfl ?_
      walk_at "mxs"
      walk_at "mo"
      refine ⟨_, rfl, ?_⟩
      walk_at "mif"
      refine sCons (sAsgA ?_)
      walk_at "mxs"
      refine fun D hD => ?_
      walk_at "mxs"
      have e1 := Ext.new (o := .dict [] 0) hD
      have hne : D ≠ dx := Ne.symm (ne_of_none hd hD)
      have hnv : D ≠ v := Ne.symm (ne_of_none hv hD)
      refine fun u w hu hw => uAttrs (e1 _ _ hv) (e1 _ _ hd) ?_ hu hw
      walk_at "mxs"
      refine ⟨rfl, rfl, D, 0, by rw [upd_ne hvx]; exact e1 _ _ hv, upd_self, by rw [upd_ne hne, upd_self], hne, hnv, ?_, fun F hF h1 _ => ⟨(hF.trans e1).upd' h1, none_of_ext hF hD⟩⟩
      rw [upd_ne (by rintro rfl; rw [hd] at ha; cases ha)]; exact e1 _ _ ha
    · refine gAttrs ⟨dx, hv, hd⟩ rfl ?_
      walk_at "mxs"
      walk_at "mo"
      refine ⟨_, rfl, ?_⟩
      first | refine ifN (by simp) ?_ | rw [if_neg (by simp)]
      walk_at "mxs"
      exact ⟨rfl, rfl, D, ep, hv, hd, hD, hDx, (by rintro rfl; rw [hv] at hD; cases hD), ha, fun F hF h1 h2 => ⟨hF, h2 D rfl⟩⟩
  · rintro H1 ⟨D, ep, f1, f2, f3, f4, f5, f6, f7⟩
    refine sCons (sAsgI ?_)
    walk_at "mxs"
    refine FS.uses' (hL.le (by decide)) hL.hd (fs_character f6 (by rw [List.length_map]; omega)) ?_
    first | refine eV3 fun lv ldx lit H2 nl => ?_ | rintro _ H2 ⟨lv, ldx, lit, rfl, nl⟩
    have e2 := nl.ext
    walk_at "mxs"
    refine gAttrs ⟨dx, e2 _ _ f1, e2 _ _ f2⟩ rfl ?_
    walk_at "mxs"
    refine fun u j w hu hj hw => uSetD (kk := some "levels") (e2 _ _ f3) (by omega) (fun ep2 => ?_) hu hj hw
    have g1 : stored nvs (some ("levels" : Str)) (Value.ref lv) = nvs ++ [(some ("levels" : Str), Value.ref lv)] := by
      unfold stored
      first | refine ifN  ?_ | rw [if_neg]
      rcases hat with ⟨_, rfl⟩ | ⟨_, _, _, _, _, hk⟩
      · simp
      · rw [List.any_eq_true]; rintro ⟨p, hp, hq⟩
        rw [hk p hp] at hq; exact absurd hq (by decide)
    rw [g1]
    have f1' : upd H2 D (.dict (nvs ++ [(some ("levels" : Str), Value.ref lv)]) ep2) v = some (.inst VectorC dx) := by rw [upd_ne (Ne.symm f5)]; exact e2 _ _ f1
    have f2' : upd H2 D (.dict (nvs ++ [(some ("levels" : Str), Value.ref lv)]) ep2) dx = some (.ns (vecNs "integer" (.ref it) (.ref D))) := by rw [upd_ne (Ne.symm f4)]; exact e2 _ _ f2
    refine sCons (sAsgI ?_)
    walk_at "mxs"
    refine FS.uses' (hL.le (by decide)) hL.hd fs_factor_class ?_
    first | refine eN3 fun cv H3 hcv e3 pcv => ?_ | rintro _ H3 ⟨cv, rfl, hcv, e3, pcv⟩
    walk_at "mxs"
    refine gAttrs ⟨dx, e3 _ _ f1', e3 _ _ f2'⟩ rfl ?_
    walk_at "mxs"
    refine fun u j w hu hj hw => uSetD (kk := some "class") (e3 _ _ upd_self) (by rw [List.length_append, List.length_singleton]; omega) (fun ep3 => ?_) hu hj hw
    have g2 : stored (nvs ++ [(some ("levels" : Str), Value.ref lv)]) (some ("class" : Str)) (Value.ref cv) = nvs ++ [(some ("levels" : Str), Value.ref lv), (some ("class" : Str), Value.ref cv)] := by
      unfold stored
      first | refine ifN  ?_ | rw [if_neg]
      · simp
      · rw [List.any_append, Bool.or_eq_true, not_or]
        refine ⟨?_, fun h => by simp at h; exact absurd h (by decide)⟩
        rcases hat with ⟨_, rfl⟩ | ⟨_, _, _, _, _, hk⟩
        · simp
        · rw [List.any_eq_true]; rintro ⟨p, hp, hq⟩
          rw [hk p hp] at hq; exact absurd hq (by decide)
    rw [g2]
    walk_at "mxs"
    have nD : ∀ b o, H2 b = some o → b ≠ D → upd H3 D (.dict (nvs ++ [(some ("levels" : Str), Value.ref lv), (some ("class" : Str), Value.ref cv)]) ep3) b = some o := fun b o q hb => by
      rw [upd_ne hb]; exact e3 _ _ (by rw [upd_ne hb]; exact q)
    have nD3 : ∀ b o, H3 b = some o → b ≠ D → upd H3 D (.dict (nvs ++ [(some ("levels" : Str), Value.ref lv), (some ("class" : Str), Value.ref cv)]) ep3) b = some o := fun b o q hb => by rw [upd_ne hb]; exact q
    have hlvD : H1 lv = none ∧ H1 ldx = none ∧ H1 lit = none := ⟨nl.1.nv, nl.1.nd, nl.2.1⟩
    refine ⟨rfl, D, lv, cv, ep3, nD _ _ (e2 _ _ f1) (Ne.symm f5), nD _ _ (e2 _ _ f2) (Ne.symm f4), upd_self, ?_, ?_, fun F hF h1 h2 => ?_⟩
    · obtain ⟨jt, ⟨jdx, z1, z2⟩, z3⟩ := nl.pv
      have n1 : lv ≠ D := Ne.symm (ne_of_none f3 hlvD.1)
      refine ⟨lit, ⟨ldx, nD _ _ nl.1.iv n1, nD _ _ nl.1.id (Ne.symm (ne_of_none f3 hlvD.2.1))⟩, nD _ _ nl.2.2.2.2 (Ne.symm (ne_of_none f3 hlvD.2.2))⟩
    · obtain ⟨jt, ⟨jdx, z1, z2⟩, z3⟩ := pcv
      have hD3 := e3 _ _ (upd_self (H := H2) (a := D) (o := AO.dict (nvs ++ [(some ("levels" : Str), Value.ref lv)]) ep2))
      refine ⟨jt, ⟨jdx, nD3 _ _ z1 ?_, nD3 _ _ z2 ?_⟩, nD3 _ _ z3 ?_⟩
      · rintro rfl; rw [hD3] at z1; cases z1
      · rintro rfl; rw [hD3] at z2; cases z2
      · rintro rfl; rw [hD3] at z3; cases z3
    · obtain ⟨k1, k2⟩ := f7 F hF h1 h2
      exact (((k1.trans e2).upd' k2).trans e3).upd' k2
end

-- MF8
theorem split2 {α : Type} {d r : List α} {a x y : α} (h : d ++ a :: r = [x, y]) : (d = [] ∧ a = x ∧ r = [y]) ∨ (d = [x] ∧ a = y ∧ r = []) := by
  match d, h with
  | [], h => simp at h; exact .inl ⟨rfl, h.1, h.2⟩
  | [_], h => simp at h; exact .inr ⟨by rw [h.1], h.2.1, h.2.2⟩
  | _ :: _ :: _, h => simp at h
theorem split3 {α : Type} {d r : List α} {a x y z : α} (h : d ++ a :: r = [x, y, z]) : (d = [] ∧ a = x) ∨ (d = [x] ∧ a = y) ∨ (d = [x, y] ∧ a = z) := by
  match d, h with
  | [], h => simp at h; exact .inl ⟨rfl, h.1⟩
  | [_], h => simp at h; exact .inr (.inl ⟨by rw [h.1], h.2.1⟩)
  | [_, _], h => simp at h; exact .inr (.inr ⟨by rw [h.1, h.2.1], h.2.2.1⟩)
  | _ :: _ :: _ :: _, h => simp at h
/-- the entries that codes_alone keeps -/
noncomputable def keepE (p : Option Str × Value) : Bool := !(decide (p.1 = some ("levels" : Str)) || decide (p.1 = some ("class" : Str)))
section
variable {Γ : Gl} {H : AH} {v a a' : Addr} {kind : Str} {xs : List Value} {es : List (Option Str × Value)} {codes : List (Option Nat)} {levels : List Str} {falls : Bool} {heads : Option (List Str)} {ws : List (Option Str)}
theorem fs_codes_alone (hv : Fac H v codes levels falls heads) : FS Γ 4 569 H [.ref v] (fun r H' => ∃ w dx it ats, r = .ref w ∧ NL H H' w dx it "integer" (codes.map ov) ats ∧
    ((heads = none ∧ ats = .none) ∨ ∃ D nv hs ep, heads = some hs ∧ ats = .ref D ∧ H D = none ∧ D ≠ dx ∧ H' D = some (.dict [(some ("names" : Str), Value.ref nv)] ep) ∧ PV H nv "character" (hs.map sv))) nX := by
  obtain ⟨es, hi, hf, hz1, hz2, hok⟩ := id hv
  obtain ⟨it, ats, h1, h2, h3⟩ := id hi
  refine FS.enter (ps := ["f"]) (dv := []) (ho := rfl) (hok := ⟨rfl, rfl, rfl, by rfl, rfl, rfl, rfl, by decide, by decide, by decide⟩) (hbody := rfl) (hnames := rfl) (binds1 fun _ => rfl) rfl (fun c Q hQ hQn hL => ?_)
  have hs := hL.nm; dsimp only at hs
  walk_at "mxs"
  refine gItems h1 rfl ?_
  walk_at "mxs"
  refine FS.uses' (hL.le (by decide)) hL.hd (fs_integer h2 (by rw [List.length_map]; omega)) ?_
  rintro _ H1 ⟨w, dx, jt, rfl, n⟩ u hu
  refine uLoc (by assumption) rfl ?_
  rw [hu]
  have e1 := n.ext
  obtain ⟨lv, cv, nvs, rfl, plv, pcv, hn⟩ := id hf
  obtain ⟨D, ep, rfl, hD⟩ : ∃ D ep, ats = .ref D ∧ H D = some (.dict (nvs ++ [(some ("levels" : Str), Value.ref lv), (some ("class" : Str), Value.ref cv)]) ep) := by
    rcases h3 with ⟨_, h⟩ | h
    · exfalso; have := congrArg List.length h; simp at this
    · exact h
  walk_at "mxs"
  refine gAttrs (h1.up e1) rfl ?_
  walk_at "mxs"
  refine oIsNotN rfl ⟨_, rfl, ?_⟩
  first | refine ifP (by rfl) ?_ | rw [if_pos (by rfl)]
  walk_at "mxs"
  refine fun K0 hK0 u2 hu2 => ?_
  refine uLoc (by assumption) rfl ?_
  rw [hu2]
  have e2 := Ext.new (o := .dict [] 0) hK0
  refine sCons ?_
  refine sForI (x := "name") hs rfl hL.hd ?_
  walk_at "mxs"
  refine gAttrs ((h1.up e1).up e2) rfl ?_
  have hDK : D ≠ K0 := ne_of_none (e1 _ _ hD) hK0
  have hDD : upd H1 K0 (.dict [] 0) D = some (.dict (nvs ++ [(some ("levels" : Str), Value.ref lv), (some ("class" : Str), Value.ref cv)]) ep) := e2 _ _ (e1 _ _ hD)
  have hnames : ∀ d a r, d ++ a :: r = nvs ++ [(some ("levels" : Str), Value.ref lv), (some ("class" : Str), Value.ref cv)] → (∃ k : Str, (k = ("names" : Str) ∨ k = ("levels" : Str) ∨ k = ("class" : Str)) ∧ a.1 = some k) ∧ dget (nvs ++ [(some ("levels" : Str), Value.ref lv), (some ("class" : Str), Value.ref cv)]) a.1 = some a.2 ∧ (keepE a = true → d = [] ∧ nvs = [a]) := by
    intro d a r h
    rcases hn with ⟨_, rfl⟩ | ⟨nv, hs', _, rfl, _⟩
    · rcases split2 h with ⟨rfl, rfl, _⟩ | ⟨rfl, rfl, _⟩
      · exact ⟨⟨("levels" : Str), .inr (.inl rfl), rfl⟩, rfl, fun h => by simp [keepE] at h⟩
      · exact ⟨⟨("class" : Str), .inr (.inr rfl), rfl⟩, rfl, fun h => by simp [keepE] at h⟩
    · rcases split3 h with ⟨rfl, rfl⟩ | ⟨rfl, rfl⟩ | ⟨rfl, rfl⟩
      · exact ⟨⟨("names" : Str), .inl rfl, rfl⟩, rfl, fun _ => ⟨rfl, rfl⟩⟩
      · exact ⟨⟨("levels" : Str), .inr (.inl rfl), rfl⟩, rfl, fun h => by simp [keepE] at h⟩
      · exact ⟨⟨("class" : Str), .inr (.inr rfl), rfl⟩, rfl, fun h => by simp [keepE] at h⟩
  refine ⟨_, _, _, itbDict hDD, ForI.intro (as := nvs ++ [(some ("levels" : Str), Value.ref lv), (some ("class" : Str), Value.ref cv)]) (g := fun p => keyV p.1) (fun _ : Unit => _)
    (fun r _ H2 => ∃ d ep', d ++ r = nvs ++ [(some ("levels" : Str), Value.ref lv), (some ("class" : Str), Value.ref cv)] ∧ H2 K0 = some (.dict (d.filter keepE) ep') ∧ Ext H1 H2) () ⟨[], 0, rfl, upd_self, e2⟩ (Sub.refl _) ?_ ?_⟩
  · rintro p r _ H2 ⟨d, ep', hd, hK, e3⟩
    obtain ⟨⟨k, hk, ek⟩, hget, hkeep⟩ := hnames d p r hd
    have hkv : keyV p.1 = sv k := by rw [ek]; rfl
    have hkok : PyData.strOk k = true := by rcases hk with rfl | rfl | rfl <;> decide +kernel
    walk_at "mxs"
    refine ⟨by decide, fun tu htu => ?_⟩
    rw [hkv]
    refine oNotInTT (.str hkok) upd_self (by
      intro x hx
      simp only [List.mem_cons, List.not_mem_nil, or_false] at hx
      rcases hx with rfl | rfl <;> exact .str (by decide +kernel)) ⟨_, rfl, ?_⟩
    have hKt : upd H2 tu (.tup [Value.str "levels" 0, Value.str "class" 0]) K0 = some (.dict (d.filter keepE) ep') := by rw [upd_ne (ne_of_none hK htu)]; exact hK
    have e4 := e3.upd (o := .tup [Value.str "levels" 0, Value.str "class" 0]) htu
    have hkeepE : keepE p = !decide (sv k ∈ [Value.str ("levels" : Str) 0, Value.str "class" 0]) := by
      unfold keepE; rw [ek]; rcases hk with rfl | rfl | rfl <;> decide
    cases hb : keepE p with
    | true =>
      rw [← hkeepE, hb]
      first | refine ifP rfl ?_ | rw [if_pos rfl]
      obtain ⟨rfl, hnv⟩ := hkeep hb
      refine sCons (sAsgI ?_)
      walk_at "mxs"
      refine gAttrs (h1.up (e1.trans e4)) rfl ?_
      walk_at "mxs"
      try rw [hkv]
      have hg2 := hget
      rw [ek] at hg2
      refine .dict (k := some k) (e4 _ _ (e1 _ _ hD)) hg2 ?_
      walk_at "mxs"
      try rw [hkv]
      refine fun u j w hu hj hw => uSetD (kk := some k) hKt (by simp) (fun ep2 => ?_) hu hj hw
      walk_at "mxs"
      have hne2 : K0 ≠ D := Ne.symm hDK
      refine ⟨by show upd _ _ _ D = _; rw [upd_ne hDK]; exact e4 _ _ (e1 _ _ hD), (), Sub.off (Sub.refl _) rfl, [p], ep2, by simpa using hd, ?_, e4.upd' hK0⟩
      rw [upd_self]
      have : p = (some k, p.2) := by rw [← ek]
      show some (AO.dict (stored ([] : List (Option Str × Value)) (some k) p.2) ep2) = some (.dict ([p].filter keepE) ep2)
      rw [List.filter_cons, if_pos hb, List.filter_nil]
      rw [this]; rfl
    | false =>
      rw [← hkeepE, hb]
      first | refine ifN Bool.false_ne_true ?_ | rw [if_neg Bool.false_ne_true]
      walk_at "mxs"
      exact ⟨e4 _ _ (e1 _ _ hD), (), Sub.off (Sub.refl _) rfl, d ++ [p], ep', by simpa using hd, by rw [hKt, List.filter_append, List.filter_cons, if_neg (by rw [hb]; exact Bool.false_ne_true)]; simp, e4⟩
  · rintro _ H2 ⟨d, ep', hd, hK, e3⟩
    rw [List.append_nil] at hd
    subst hd
    have hkeep2 : (nvs ++ [(some ("levels" : Str), Value.ref lv), (some ("class" : Str), Value.ref cv)]).filter keepE = nvs := by
      rcases hn with ⟨_, rfl⟩ | ⟨nv, hs', _, rfl, _⟩ <;> rfl
    rw [hkeep2] at hK
    have hlen : nvs.length ≤ 1 := by rcases hn with ⟨_, rfl⟩ | ⟨nv, hs', _, rfl, _⟩ <;> simp
    walk_at "mxs"
    refine bLenD hK (by omega) ?_
    walk_at "mxs"
    walk_at "mo"
    refine ⟨_, rfl, ?_⟩
    have n3 := n.up e3
    rcases hn with ⟨hh, rfl⟩ | ⟨nv, hs', hh, rfl, pnv⟩
    · first | refine ifN (by decide) ?_ | rw [if_neg (by decide)]
      walk_at "mxs"
      exact ⟨w, dx, jt, .none, rfl, n3, .inl ⟨hh, rfl⟩⟩
    · first | refine ifP (by rfl) ?_ | rw [if_pos (by rfl)]
      refine sCons (sAsgA ?_)
      walk_at "mxs"
      refine fun u w' hu hw => uAttrs n3.1.iv n3.1.id ?_ hu hw
      walk_at "mxs"
      have hne : K0 ≠ dx := Ne.symm (ne_of_none n.1.id hK0)
      exact ⟨w, dx, jt, _, rfl, n3.set, .inr ⟨K0, nv, hs', ep', hh, rfl, none_of_ext e1 hK0, hne, by rw [upd_ne hne]; exact hK, pnv.1⟩⟩
end

-- MF9
theorem distA_sub : ∀ (ws : List (Option Str)) (acc : List Str) (x : Str), x ∈ distA acc ws → x ∈ acc ∨ some x ∈ ws
  | [], acc, x, h => .inl h
  | none :: r, acc, x, h => (distA_sub r acc x h).imp id fun h => .tail _ h
  | some y :: r, acc, x, h => by
    rcases distA_sub r _ x h with h | h
    · split at h
      · exact .inl h
      · rcases List.mem_append.mp h with h | h
        · exact .inl h
        · simp at h; subst h; exact .inr (.head _)
    · exact .inr (.tail _ h)
/-- the codes after a renaming -/
noncomputable def recode (ws : List (Option Str)) (n : Nat) (o : Option Nat) : Option Nat := (codeIn n o).bind fun c => (ws[c - 1]?).join.bind (pos (distA [] ws))
section
variable {Γ : Gl} {H : AH} {v a a' : Addr} {kind : Str} {xs : List Value} {es : List (Option Str × Value)} {codes : List (Option Nat)} {levels : List Str} {falls : Bool} {heads : Option (List Str)} {ws : List (Option Str)}
theorem codeIn_le {n c : Nat} {o : Option Nat} (h : codeIn n o = some c) : 1 ≤ c ∧ c ≤ n := by
  unfold codeIn at h
  cases o with
  | none => cases h
  | some d =>
    rw [Option.bind_some] at h
    split at h
    · cases h; assumption
    · cases h
theorem fs_relevelled (hv : Fac H v codes levels falls heads) (ha : H a = some (.list (ws.map keyV))) (hz : ws.length < 60) (hok : ∀ x, some x ∈ ws → PyData.strOk x = true) :
    FS Γ 6 574 H [.ref v, .ref a] (fun r H' => levels.length ≤ ws.length ∧ ∃ w, r = .ref w ∧ Ext H H' ∧ Fac H' w (codes.map (recode ws levels.length)) (distA [] ws) falls heads)
      (fun m H' => ws.length < levels.length ∧ m = ("number of levels differs" : Str) ∧ Ext H H') := by
  obtain ⟨es, hi, hf, hz1, hz2, hok2⟩ := id hv
  refine FS.enter (ps := ["f", "texts"]) (dv := []) (ho := rfl) (hok := ⟨rfl, rfl, rfl, by rfl, rfl, rfl, rfl, by decide, by decide, by decide⟩) (hbody := rfl) (hnames := rfl) (binds2 fun _ _ => rfl) rfl (fun c Q hQ hQn hL => ?_)
  have hs := hL.nm; dsimp only at hs
  walk_at "mxs"
  refine FS.uses' (hL.le (by decide)) hL.hd (fs_level_texts hv) ?_
  first | refine eN3 fun b H1 hb e1 hb1 => ?_ | rintro _ H1 ⟨b, rfl, hb, e1, hb1⟩
  walk_at "mxs"
  refine bLenL hb1 (by rw [List.length_map]; omega) ?_
  refine stL (by assumption) rfl ?_
  walk_at "mxs"
  refine bLenL (e1 _ _ ha) (by rw [List.length_map]; omega) ?_
  walk_at "mxs"
  walk_at "mo"
  refine ⟨_, rfl, ?_⟩
  by_cases hlt : ws.length < levels.length
  · first | refine ifP (by simpa using hlt) ?_ | rw [if_pos (by simpa using hlt)]
    refine sCons (sRaise hL.hd ?_)
    walk_at "mxs"
    refine FS.uses' (hL.le (by decide)) hL.hd fs_refusal ?_
    rintro _ H2 ⟨x, dx, t0, rfl, hx, hdx, hne, h1, h2, e2⟩
    exact ⟨x, _, H1, rfl, ⟨dx, t0, h1, h2, hx, hdx, e2⟩, hlt, rfl, e1⟩
  · first | refine ifN (by simpa using hlt) ?_ | rw [if_neg (by simpa using hlt)]
    walk_at "mxs"
    refine FS.uses' (hL.le (by decide)) hL.hd (fs_distinct_texts (e1 _ _ ha) (by omega)) ?_
    first | refine eN3 fun b2 H2 hb2 e2 hb21 => ?_ | rintro _ H2 ⟨b2, rfl, hb2, e2, hb21⟩
    refine stL (by assumption) rfl ?_
    have e12 := e1.trans e2
    walk_at "mxs"
    refine FS.uses' (hL.le (by decide)) hL.hd (fs_codes_of (e12 _ _ ha) hb21 (by omega) (by have := distA_len ws []; simp at this; omega)) ?_
    first | refine eN3 fun b3 H3 hb3 e3 hb31 => ?_ | rintro _ H3 ⟨b3, rfl, hb3, e3, hb31⟩
    refine stC (by assumption) rfl (hL.cell _ rfl) ?_
    have e13 := e12.trans e3
    walk_at "mxs"
    refine FS.uses' (hL.le (by decide)) hL.hd (fs_codes_alone (hv.up e13)) ?_
    rintro _ H4 ⟨w, dx, it, ats, rfl, n, hat⟩
    refine stL (by assumption) rfl ?_
    have e4 := n.ext
    have e14 := e13.trans e4
    refine sCons (sAsgA ?_)
    refine xComp hs rfl hL.hd rfl ?_
    walk_at "mxs"
    refine FS.uses' (hL.le (by decide)) hL.hd (fs_codes_in (hv.up e14)) ?_
    first | refine eN3 fun b5 H5 hb5 e5 hb51 => ?_ | rintro _ H5 ⟨b5, rfl, hb5, e5, hb51⟩
    have e15 := e14.trans e5
    have e35 := e4.trans e5
    refine ⟨_, _, _, itbList hb51, by simp; omega, CompP.mapA (f := fun o => ov (o.bind fun c => (ws[c - 1]?).join.bind (pos (distA [] ws)))) ?_ (fun H' e => e _ _ hb51) fun D' H' e' hD' => ?_⟩
    · intro o ho H' e' c hs hk hhd
      walk_at "mxs"
      cases o with
      | none =>
        refine oIsN rfl ⟨_, rfl, ?_⟩
        walk_at "mif"
        walk_at "mxs"
        exact ⟨Ext.refl _, rfl⟩
      | some d =>
        obtain ⟨o', _, ho'⟩ := List.mem_map.mp ho
        obtain ⟨h1, h2⟩ := codeIn_le ho'
        have hlt2 : d - 1 < ws.length := by omega
        refine oIsN rfl ⟨_, rfl, ?_⟩
        first | refine ifN (by simp [ov]) ?_ | rw [if_neg (by simp [ov])]
        walk_at "mxs"
        refine oSub (i := (d : Int)) (j := 1) ?_
        rw [show (d : Int) - 1 = ((d - 1 : Nat) : Int) by omega]
        refine .list (n := d - 1) ((e35.trans e') _ _ hb31) (x := ov ((ws[d - 1]).bind (pos (distA [] ws)))) (by rw [List.getElem?_map, List.getElem?_map, List.getElem?_eq_getElem hlt2]; rfl) (by omega) ⟨Ext.refl _, ?_⟩
        rw [Option.bind_some, List.getElem?_eq_getElem hlt2]; rfl
    · have e6 := (e5.trans e').trans (Ext.new (o := .list ((codes.map (codeIn levels.length)).map fun o => ov (o.bind fun c => (ws[c - 1]?).join.bind (pos (distA [] ws))))) hD')
      have n6 := n.up e6
      walk_at "mxs"
      refine fun u w' hu hw => uItems n6.1.iv n6.1.id ?_ hu hw
      have n7 : NV H3 _ w dx "integer" (.ref D') ats := n6.1.set
      have e37 := e13.trans n7.ext
      walk_at "mxs"
      refine FS.uses' (hL.le (by decide)) hL.hd (fs_is_ordered (hv.up e37)) ?_
      first | refine eRE fun H8 e8 => ?_ | rintro _ H8 ⟨rfl, e8⟩
      walk_at "mxs"
      have n8 := n7.up e8
      have hb2' := n8.ext _ _ (e3 _ _ hb21)
      have hdD : D' ≠ dx := Ne.symm (ne_of_none ((n.up (e5.trans e')).1.id) hD')
      obtain ⟨F, hF8, hFx, hFa, hF3, hFD⟩ : ∃ F : AH, Ext F H8 ∧ F dx = none ∧ (∀ D, ats = .ref D → F D = none) ∧ Ext H3 F ∧ F D' = some (.list ((codes.map (recode ws levels.length)).map ov)) := by
        refine ⟨fun b => if b = dx ∨ ats = .ref b then none else H8 b, ?_, by simp, fun D hD => by simp [hD], ?_, ?_⟩
        · intro b o hb
          dsimp only at hb
          split at hb
          · cases hb
          · exact hb
        · intro b o hb
          have h1 : b ≠ dx := ne_of_none hb n.1.nd
          have h2 : ats ≠ .ref b := by
            rcases hat with ⟨_, rfl⟩ | ⟨D, nv, hs', ep, _, rfl, hD, _⟩
            · simp
            · intro h; cases h; rw [hb] at hD; cases hD
          dsimp only
          first | refine ifN (by rintro (h | h); exact h1 h; exact h2 h) ?_ | rw [if_neg (by rintro (h | h); exact h1 h; exact h2 h)]
          exact n8.ext _ _ hb
        · have h2 : ats ≠ .ref D' := by
            rcases hat with ⟨_, rfl⟩ | ⟨D, nv, hs', ep, _, rfl, hD, _, hDD, _⟩
            · simp
            · intro h; cases h; have := (e5.trans e') _ _ hDD; rw [hD'] at this; cases this
          dsimp only
          first | refine ifN (by rintro (h | h); exact hdD h; exact h2 h) ?_ | rw [if_neg (by rintro (h | h); exact hdD h; exact h2 h)]
          refine e8 _ _ ?_
          rw [upd_ne hdD, upd_self, List.map_map, List.map_map]; rfl
      have hfin : ∀ nvs : List (Option Str × Value), nvs.length ≤ 1 → ((ats = .none ∧ nvs = []) ∨ ∃ D ep, ats = .ref D ∧ H8 D = some (.dict nvs ep) ∧ D ≠ dx ∧ ∀ p ∈ nvs, p.1 = some ("names" : Str)) →
          ((heads = none ∧ nvs = []) ∨ ∃ nv hs, heads = some hs ∧ nvs = [(some ("names" : Str), Value.ref nv)] ∧ PV H3 nv "character" (hs.map sv) ∧ hs.length ≤ 60 ∧ ∀ x ∈ hs, PyData.strOk x = true) →
          FS Γ 5 516 H8 [.ref w, .ref b2, .bool falls] (fun r H' => ∃ w, r = .ref w ∧ Ext H H' ∧ Fac H' w (codes.map (recode ws levels.length)) (distA [] ws) falls heads) nX := by
        intro nvs hl h1 h2
        refine (fs_with_levels (falls := falls) n8.iv n8.id h1 hl hb2' (by have := distA_len ws []; simp at this; omega)).mono (fun r H9 hr => ?_) fun _ _ z => z
        obtain ⟨rfl, D, lv, cv, ep, k1, k2, k3, k4, k5, k6⟩ := hr
        have k7 := k6 F hF8 hFx hFa
        refine ⟨w, rfl, (e13.trans hF3).trans k7, _, ⟨D', _, ⟨dx, k1, k2⟩, k7 _ _ hFD, .inr ⟨D, ep, rfl, k3⟩⟩, ⟨lv, cv, nvs, rfl, k4, k5, h2.imp id ?_⟩, by simpa using hz1, by have := distA_len ws []; simp at this; omega, fun x hx => hok x ((distA_sub ws [] x hx).resolve_left (by simp))⟩
        rintro ⟨nv, hs', q1, q2, q3, q4⟩
        exact ⟨nv, hs', q1, q2, q3.up (hF3.trans k7), q4⟩
      refine FS.uses' (hL.le (by decide)) hL.hd (show FS Γ 5 516 H8 [.ref w, .ref b2, .bool falls] (fun r H' => ∃ w, r = .ref w ∧ Ext H H' ∧ Fac H' w (codes.map (recode ws levels.length)) (distA [] ws) falls heads) nX from ?_) ?_
      · obtain ⟨lv, cv, nvs0, _, _, _, hn⟩ := id hf
        rcases hat with ⟨hh, hats⟩ | ⟨D, nv, hs', ep, hh, hats, hD, hDx, hDD, pnv⟩
        · exact hfin [] (by simp) (.inl ⟨hats, rfl⟩) (.inl ⟨hh, rfl⟩)
        · refine hfin [(some ("names" : Str), Value.ref nv)] (by simp) (.inr ⟨D, ep, hats, ?_, hDx, fun p hp => by simp at hp; subst hp; rfl⟩) (.inr ⟨nv, hs', hh, rfl, pnv, ?_⟩)
          · refine e8 _ _ ?_
            rw [upd_ne hDx]
            exact e6 _ _ hDD
          · rcases hn with ⟨h, _⟩ | ⟨nv2, hs2, h, _, _, h3, h4⟩
            · rw [h] at hh; cases hh
            · rw [h] at hh; cases hh; exact ⟨h3, h4⟩
      · rintro _ H9 h
        exact ⟨by omega, h⟩
end

-- MF10
section
variable {Γ : Gl} {H : AH} {v a a' : Addr} {kind : Str} {xs : List Value} {es : List (Option Str × Value)} {codes : List (Option Nat)} {levels : List Str} {falls : Bool} {heads : Option (List Str)} {ws : List (Option Str)}
theorem distA_nodup : ∀ (ls acc : List Str), ls.Nodup → (∀ x ∈ ls, x ∉ acc) → distA acc (ls.map some) = acc ++ ls
  | [], acc, _, _ => by simp [distA]
  | x :: r, acc, h, hd => by
    rw [List.map_cons]
    show distA (if x ∈ acc then acc else acc ++ [x]) (r.map some) = _
    rw [if_neg (hd x (.head _)), distA_nodup r _ (List.nodup_cons.mp h).2]
    · simp
    · intro y hy hm
      rcases List.mem_append.mp hm with hm | hm
      · exact hd y (.tail _ hy) hm
      · simp at hm; subst hm; exact (List.nodup_cons.mp h).1 hy
theorem pos_get {levels : List Str} {x : Str} {c : Nat} (h : pos levels x = some c) : 1 ≤ c ∧ levels[c - 1]? = some x := by
  unfold pos at h
  rw [Option.map_eq_some_iff] at h
  obtain ⟨i, hi, rfl⟩ := h
  rw [List.findIdx?_eq_some_iff_getElem] at hi
  obtain ⟨hlt, h1, _⟩ := hi
  refine ⟨by omega, ?_⟩
  rw [Nat.add_sub_cancel, List.getElem?_eq_getElem hlt]
  simp at h1; rw [h1]
theorem fs_make_factor {ex : Addr} (hv : PV H v "character" (ws.map keyV)) (hl : PV H a "character" (levels.map sv)) (hex : H ex = some (.list [])) (hz : ws.length ≤ 60) (hz2 : levels.length < 60) (hok : ∀ x ∈ levels, PyData.strOk x = true) (hn : levels.Nodup) :
    FS Γ 6 557 H [.ref v, .ref a, .none, .ref ex, .bool falls] (fun r H' => ∃ w, r = .ref w ∧ Ext H H' ∧ Fac H' w (ws.map fun o => o.bind (pos levels)) levels falls none) nX := by
  refine FS.enter (ps := ["v", "levels", "labels", "exclude", "ordered"]) (dv := []) (ho := rfl) (hok := ⟨rfl, rfl, rfl, by rfl, rfl, rfl, rfl, by decide, by decide, by decide⟩) (hbody := rfl) (hnames := rfl) (binds5 fun _ _ _ _ _ => rfl) rfl (fun c Q hQ hQn hL => ?_)
  have hs := hL.nm; dsimp only at hs
  walk_at "mxs"
  have hlab : ∀ x ∈ ws.map keyV, LabOk "character" x := fun x hx => by
    obtain ⟨o, _, rfl⟩ := List.mem_map.mp hx
    cases o
    · exact .inl ⟨rfl, .inl rfl⟩
    · exact .inl ⟨rfl, .inr ⟨_, rfl⟩⟩
  have hlab2 : ∀ x ∈ levels.map sv, LabOk "character" x := fun x hx => by
    obtain ⟨o, _, rfl⟩ := List.mem_map.mp hx
    exact .inl ⟨rfl, .inr ⟨_, rfl⟩⟩
  have hlv : ∀ xs : List Value, xs.map (lab "character") = xs := fun xs => by
    have : lab "character" = id := by
      funext x
      cases x <;> rfl
    rw [this, List.map_id]
  refine FS.uses' (hL.le (by decide)) hL.hd (fs_item_texts hv (.inr (.inl rfl)) hlab (by rw [List.length_map]; omega)) ?_
  first | refine eN3 fun b H1 hb e1 hb1 => ?_ | rintro _ H1 ⟨b, rfl, hb, e1, hb1⟩
  refine stL (by assumption) rfl ?_
  walk_at "mxs"
  walk_at "mo"
  refine ⟨_, rfl, ?_⟩
  rw [hlv] at hb1
  walk_at "mxs"
  first | refine ifP (by rfl) ?_ | rw [if_pos (by rfl)]
  have hfl : ∀ xs : List Value, (xs.filter fun _ => true).map id = xs := fun xs => by simp
  refine sCons (sAsgComp hs rfl hL.hd rfl rfl rfl rfl ?_)
  walk_at "mxs"
  refine FS.uses' (hL.le (by decide)) hL.hd (fs_item_texts (hl.up e1) (.inr (.inl rfl)) hlab2 (by rw [List.length_map]; omega)) ?_
  first | refine eN3 fun b2 H2 hb2 e2 hb21 => ?_ | rintro _ H2 ⟨b2, rfl, hb2, e2, hb21⟩
  rw [hlv] at hb21
  have e12 := e1.trans e2
  refine ⟨_, _, _, itbList hb21, by rw [List.length_map]; omega, CompP.pureIf (fun _ => true) id ?_ ?_ (fun H' e => e _ _ hb21) fun D' H' e' hD' => ?_⟩
  · intro x hx H' e' c hs hk hhd
    obtain ⟨o, _, rfl⟩ := List.mem_map.mp hx
    walk_at "mxs"
    refine oIsNotN rfl ⟨_, rfl, Ext.refl _, rfl⟩
  · intro x hx _ H' e' c hs hk hhd
    walk_at "mxs"
    exact ⟨Ext.refl _, rfl⟩
  rw [hfl]
  have e3 := e'.trans (Ext.new (o := .list (levels.map sv)) hD')
  have e13 := e12.trans e3
  walk_at "mxs"
  refine sAsgComp hs rfl hL.hd rfl rfl rfl rfl ?_
  walk_at "mxs"
  refine ⟨_, _, _, itbList upd_self, by rw [List.length_map]; omega, CompP.pureIf (fun _ => true) id ?_ ?_ (fun H' e => e _ _ upd_self) fun D2 H'2 e'2 hD2 => ?_⟩
  · intro x hx H' e' c hs hk hhd
    obtain ⟨o, ho, rfl⟩ := List.mem_map.mp hx
    walk_at "mxs"
    refine oNotInLL (.str (hok o ho)) ((e13.trans e') _ _ hex) (by simp) ⟨_, rfl, Ext.refl _, rfl⟩
  · intro x hx _ H' e' c hs hk hhd
    walk_at "mxs"
    exact ⟨Ext.refl _, rfl⟩
  rw [hfl]
  have e4 := e'2.trans (Ext.new (o := .list (levels.map sv)) hD2)
  have e14 := e13.trans e4
  have hW := upd_self (H := H'2) (a := D2) (o := AO.list (levels.map sv))
  generalize hH4 : upd H'2 D2 (AO.list (levels.map sv)) = H4 at e4 e14 hW ⊢
  walk_at "mxs"
  refine FS.uses' (hL.le (by decide)) hL.hd (fs_check_distinct hW (by omega) hn) ?_
  first | refine eRE fun H5 e5 => ?_ | rintro _ H5 ⟨rfl, e5⟩
  have e15 := e14.trans e5
  walk_at "mxs"
  refine FS.uses' (hL.le (by decide)) hL.hd (fs_label_list (e5 _ _ hW)) ?_
  rintro _ H5 ⟨rfl, rfl⟩
  refine stL (by assumption) rfl ?_
  have hWk : H5 D2 = some (.list ((levels.map some).map keyV)) := by rw [List.map_map]; exact e5 _ _ hW
  walk_at "mxs"
  refine FS.uses' (hL.le (by decide)) hL.hd (fs_distinct_texts hWk (by rw [List.length_map]; omega)) ?_
  first | refine eN3 fun b7 H7 hb7 e7 hb71 => ?_ | rintro _ H7 ⟨b7, rfl, hb7, e7, hb71⟩
  refine stL (by assumption) rfl ?_
  rw [distA_nodup levels [] hn (by simp), List.nil_append] at hb71
  walk_at "mxs"
  refine FS.uses' (hL.le (by decide)) hL.hd (fs_codes_of (e7 _ _ hWk) hb71 (by rw [List.length_map]; omega) (by omega)) ?_
  first | refine eN3 fun b8 H8 hb8 e8 hb81 => ?_ | rintro _ H8 ⟨b8, rfl, hb8, e8, hb81⟩
  refine stC (by assumption) rfl (hL.cell _ rfl) ?_
  have e18 := (e15.trans e7).trans e8
  walk_at "mxs"
  refine sAsgComp hs rfl hL.hd rfl rfl rfl rfl ?_
  walk_at "mxs"
  have hb18 := (((((e2.trans e3).trans e4).trans e5).trans e7).trans e8) _ _ hb1
  refine FS.uses' (hL.le (by decide)) hL.hd (fs_codes_of hb18 (((e5.trans e7).trans e8) _ _ hW) (by omega) (by omega)) ?_
  first | refine eN3 fun b9 H9 hb9 e9 hb91 => ?_ | rintro _ H9 ⟨b9, rfl, hb9, e9, hb91⟩
  have e19 := e18.trans e9
  refine ⟨_, _, _, itbList hb91, by simp; omega, CompP.mapA (f := ov) ?_ (fun H' e => e _ _ hb91) fun D' H' e' hD' => ?_⟩
  · intro o ho H' e' c hs hk hhd
    walk_at "mxs"
    cases o with
    | none =>
      refine oIsN rfl ⟨_, rfl, ?_⟩
      walk_at "mif"
      walk_at "mxs"
      exact ⟨Ext.refl _, rfl⟩
    | some d =>
      obtain ⟨o', _, ho'⟩ := List.mem_map.mp ho
      obtain ⟨x, rfl, hx⟩ := Option.bind_eq_some_iff.mp ho'
      obtain ⟨h1, h2⟩ := pos_get hx
      have hlt2 : d - 1 < levels.length := (List.getElem?_eq_some_iff.mp h2).1
      refine oIsN rfl ⟨_, rfl, ?_⟩
      first | refine ifN (by simp [ov]) ?_ | rw [if_neg (by simp [ov])]
      walk_at "mxs"
      refine oSub (i := (d : Int)) (j := 1) ?_
      rw [show (d : Int) - 1 = ((d - 1 : Nat) : Int) by omega]
      refine .list (n := d - 1) ((e9.trans e') _ _ hb81) (x := ov (some d)) (by rw [List.getElem?_map, List.getElem?_map, List.getElem?_map, h2, ← hx]; rfl) (by omega) ⟨Ext.refl _, rfl⟩
  have e10 := e'.trans (Ext.new (o := .list ((ws.map fun o => o.bind (pos levels)).map ov)) hD')
  have e110 := e19.trans e10
  have hC := upd_self (H := H') (a := D') (o := AO.list ((ws.map fun o => o.bind (pos levels)).map ov))
  generalize upd H' D' (AO.list ((ws.map fun o => o.bind (pos levels)).map ov)) = H10 at e10 e110 hC ⊢
  walk_at "mxs"
  refine FS.uses' (hL.le (by decide)) hL.hd (fs_integer hC (by simp; omega)) ?_
  rintro _ H11 ⟨w, dx, it, rfl, n⟩
  refine stL (by assumption) rfl ?_
  obtain ⟨vit, hv1, hv2⟩ := hv.up (e110.trans n.ext)
  walk_at "mxs"
  refine gKind hv1 ?_
  walk_at "mxs"
  walk_at "mo"
  refine ⟨_, rfl, ?_⟩
  first | refine ifP (by decide) ?_ | rw [if_pos (by decide)]
  walk_at "mxs"
  refine FS.uses' (hL.le (by decide)) hL.hd (fs_names_of (o := none) (k := "character") (PV.iv ⟨vit, hv1, hv2⟩) (by decide) rfl rfl (by simp)) ?_
  rintro _ H12 (⟨_, rfl, rfl⟩ | ⟨l, b, h, _⟩)
  case inr => cases h
  walk_at "mxs"
  refine FS.uses' (hL.le (by decide)) hL.hd fs_named ?_
  rintro _ H12 ⟨rfl, rfl⟩
  walk_at "mxs"
  have hN := (((e8.trans e9).trans e10).trans n.ext) _ _ hb71
  obtain ⟨F, hF8, hFx, hF3, hFD⟩ : ∃ F : AH, Ext F H12 ∧ F dx = none ∧ Ext H10 F ∧ F it = some (.list ((ws.map fun o => o.bind (pos levels)).map ov)) := by
    refine ⟨fun b => if b = dx then none else H12 b, ?_, by simp, ?_, ?_⟩
    · intro b o hb
      dsimp only at hb
      split at hb
      · cases hb
      · exact hb
    · intro b o hb
      dsimp only
      first | refine ifN (ne_of_none hb n.1.nd) ?_ | rw [if_neg (ne_of_none hb n.1.nd)]
      exact n.ext _ _ hb
    · dsimp only
      first | refine ifN n.2.2.2.1 ?_ | rw [if_neg n.2.2.2.1]
      exact n.2.2.2.2
  refine FS.uses' (hL.le (by decide)) hL.hd (fs_with_levels (falls := falls) (nvs := []) n.1.iv n.1.id (.inl ⟨rfl, rfl⟩) (by simp) hN (by omega)) ?_
  rintro _ H13 ⟨rfl, D, lv, cv, ep, k1, k2, k3, k4, k5, k6⟩
  have k7 := k6 F hF8 hFx (by simp)
  exact ⟨w, rfl, (e110.trans hF3).trans k7, _, ⟨it, _, ⟨dx, k1, k2⟩, k7 _ _ hFD, .inr ⟨D, ep, rfl, k3⟩⟩, ⟨lv, cv, [], rfl, k4, k5, .inl ⟨rfl, rfl⟩⟩, by simpa using hz, hz2, hok⟩
end

-- MF11
/-- the heap without one object -/
noncomputable def drop (H : AH) (N : Addr) : AH := fun b => if b = N then none else H b
theorem drop_none {H : AH} {N : Addr} : drop H N N = none := by simp [drop]
theorem drop_some {H : AH} {N b : Addr} {o : AO} (h : H b = some o) (hb : b ≠ N) : drop H N b = some o := by unfold drop; rw [if_neg hb]; exact h
theorem drop_ext {H : AH} {N : Addr} : Ext (drop H N) H := fun b o h => by
  unfold drop at h; split at h
  · cases h
  · exact h
theorem drop_upd {H : AH} {N : Addr} {o : AO} : Ext (drop H N) (upd H N o) := drop_ext.upd' drop_none
theorem drop_of {F H : AH} {N : Addr} (h : Ext F H) (hn : F N = none) : Ext F (drop H N) := fun b o e => drop_some (h _ _ e) (ne_of_none e hn)
section
variable {Γ : Gl} {H : AH} {v u a a' : Addr} {kind : Str} {xs ys : List Value} {es : List (Option Str × Value)} {codes : List (Option Nat)} {levels : List Str} {falls : Bool} {heads : Option (List Str)} {ws : List (Option Str)}
theorem fs_setter_args {t1 t2 : Addr} {k1 k2 x y : Value} {nm : Str} (ha : H a = some (.list [.ref t1, .ref t2])) (h1 : H t1 = some (.tup [k1, x])) (h2 : H t2 = some (.tup [k2, y])) :
    FS Γ 1 60 H [.ref a, sv nm] (fun r H' => ∃ t, r = .ref t ∧ H t = none ∧ H' = upd H t (.tup [x, y])) nX := by
  refine FS.enter (ps := ["args", "name"]) (dv := []) (ho := rfl) (hok := ⟨rfl, rfl, rfl, by rfl, rfl, rfl, rfl, by decide, by decide, by decide⟩) (hbody := rfl) (hnames := rfl) (binds2 fun _ _ => rfl) rfl (fun c Q hQ hQn hL => ?_)
  have hs := hL.nm; dsimp only at hs
  walk_at "mxs"
  refine bLenL ha (by simp) ?_
  walk_at "mxs"
  walk_at "mo"
  refine ⟨_, rfl, ?_⟩
  first | refine ifN (by simp) ?_ | rw [if_neg (by simp)]
  walk_at "mxs"
  refine .list (n := 0) ha rfl (by decide) ?_
  walk_at "mxs"
  refine .tup (n := 1) h1 rfl (by decide) ?_
  walk_at "mxs"
  refine .list (n := 1) ha rfl (by decide) ?_
  walk_at "mxs"
  refine .tup (n := 1) h2 rfl (by decide) ?_
  walk_at "mxs"
  exact ⟨by simp, fun b hb => ⟨b, rfl, hb, rfl⟩⟩
theorem fs_check_factor {t1 t2 : Addr} {k1 : Value} (ha : H a = some (.list [.ref t1, .ref t2])) (h1 : H t1 = some (.tup [k1, .ref v])) (hv : Fac H v codes levels falls heads) :
    FS Γ 4 616 H [.ref a] (fun r H' => r = .none ∧ Ext H H') nX := by
  refine FS.enter (ps := ["args"]) (dv := []) (ho := rfl) (hok := ⟨rfl, rfl, rfl, by rfl, rfl, rfl, rfl, by decide, by decide, by decide⟩) (hbody := rfl) (hnames := rfl) (binds1 fun _ => rfl) rfl (fun c Q hQ hQn hL => ?_)
  have hs := hL.nm; dsimp only at hs
  walk_at "mxs"
  refine bLenL ha (by simp) ?_
  walk_at "mxs"
  walk_at "mo"
  refine ⟨_, rfl, ?_⟩
  first | refine ifN (by simp) ?_ | rw [if_neg (by simp)]
  walk_at "mxs"
  refine .list (n := 0) ha rfl (by decide) ?_
  walk_at "mxs"
  refine .tup (n := 1) h1 rfl (by decide) ?_
  refine FS.uses' (hL.le (by decide)) hL.hd (fs_is_factor hv) ?_
  first | refine eRE fun H1 e1 => ?_ | rintro _ H1 ⟨rfl, e1⟩
  walk_at "mo"
  first | refine ifN (by simp) ?_ | rw [if_neg (by simp)]
  walk_at "mxs"
  first | refine ifN (by simp) ?_ | rw [if_neg (by simp)]
  walk_at "mxs"
  exact ⟨rfl, e1⟩
/-- the warning -/
noncomputable def msgOf (op what : Str) : Str := ((("‘" : Str) ++ op) ++ ("’ not meaningful for " : Str)) ++ what
theorem flat_rep (n : Nat) : (List.replicate n [Value.none]).flatten = List.replicate n Value.none := by
  induction n with
  | zero => rfl
  | succ n ih => rw [List.replicate_succ, List.flatten_cons, ih, List.replicate_succ]; rfl
theorem fs_meaningless1 {op what : Str} {N : Addr} {ns : List Value} (hv : IV (drop H N) u kind xs es) (hk : Kd kind) (hN : H N = some (.list ns)) (hz : xs.length ≤ 200) (hn : ns.length ≤ 20) (ho : op.length ≤ 5) (hwl : what.length ≤ 40) :
    FS Γ 4 581 H [sv op, .ref u, .none, sv what, .ref N] (fun r H' => ∃ w, r = .ref w ∧ H' N = some (.list (ns ++ [sv (msgOf op what)])) ∧ PV H' w "logical" (List.replicate xs.length .none) ∧ Ext (drop H N) H') nX := by
  refine FS.enter (ps := ["op", "u", "v", "what", "notes"]) (dv := []) (ho := rfl) (hok := ⟨rfl, rfl, rfl, by rfl, rfl, rfl, rfl, by decide, by decide, by decide⟩) (hbody := rfl) (hnames := rfl) (binds5 fun _ _ _ _ _ => rfl) rfl (fun c Q hQ hQn hL => ?_)
  have hs := hL.nm; dsimp only at hs
  walk_at "mxs"
  refine xMeth mf_append rfl rfl rfl rfl ?_
  walk_at "mxs"
  refine ⟨isList_of hN, ?_⟩
  walk_at "mxs"
  refine oAddS (by show 1 + _ ≤ _; omega) ?_
  walk_at "mxs"
  refine oAddS (by rw [Str.length_append]; show (1 + _) + 21 ≤ _; omega) ?_
  walk_at "mxs"
  refine oAddS (by rw [Str.length_append, Str.length_append]; show ((1 + _) + 21) + _ ≤ _; omega) ?_
  walk_at "mxs"
  refine bAppend hN (by omega) ?_
  have k1 : Ext (drop H N) (upd H N (.list (ns ++ [sv (msgOf op what)]))) := drop_upd
  have hv1 := hv.up k1
  walk_at "mxs"
  refine FS.uses' (hL.le (by decide)) hL.hd (fs_length hv1 hk (by omega)) ?_
  first | refine eRR ?_ | rintro _ _ ⟨rfl, rfl⟩
  refine stL (by assumption) rfl ?_
  walk_at "mxs"
  walk_at "mo"
  refine ⟨_, rfl, ?_⟩
  walk_at "mif"
  walk_at "mxs"
  refine ⟨by simp, fun d hd => ?_⟩
  walk_at "mxs"
  refine oMulL upd_self (by simp; omega) (by omega) fun d2 hd2 => ?_
  rw [flat_rep]
  walk_at "mxs"
  refine FS.uses' (hL.le (by decide)) hL.hd (fs_logical upd_self (by rw [List.length_replicate]; omega)) ?_
  first | refine eV3 fun w dx it H3 n => ?_ | rintro _ H3 ⟨w, dx, it, rfl, n⟩
  have e3 := (Ext.new hd).trans ((Ext.new hd2).trans n.ext)
  exact ⟨w, rfl, e3 _ _ upd_self, n.pv, k1.trans e3⟩
theorem fs_meaningless2 {op what kind2 : Str} {N : Addr} {ns : List Value} {es2} (hv : IV (drop H N) u kind xs es) (hk : Kd kind) (hv2 : IV (drop H N) v kind2 ys es2) (hk2 : Kd kind2) (hN : H N = some (.list ns)) (hz : xs.length ≤ 200) (hz2 : ys.length ≤ 200) (hn : ns.length ≤ 20) (ho : op.length ≤ 5) (hwl : what.length ≤ 40) :
    FS Γ 4 581 H [sv op, .ref u, .ref v, sv what, .ref N] (fun r H' => ∃ w, r = .ref w ∧ H' N = some (.list (ns ++ [sv (msgOf op what)])) ∧ PV H' w "logical" (List.replicate (max xs.length ys.length) .none) ∧ Ext (drop H N) H') nX := by
  refine FS.enter (ps := ["op", "u", "v", "what", "notes"]) (dv := []) (ho := rfl) (hok := ⟨rfl, rfl, rfl, by rfl, rfl, rfl, rfl, by decide, by decide, by decide⟩) (hbody := rfl) (hnames := rfl) (binds5 fun _ _ _ _ _ => rfl) rfl (fun c Q hQ hQn hL => ?_)
  have hs := hL.nm; dsimp only at hs
  walk_at "mxs"
  refine xMeth mf_append rfl rfl rfl rfl ?_
  walk_at "mxs"
  refine ⟨isList_of hN, ?_⟩
  walk_at "mxs"
  refine oAddS (by show 1 + _ ≤ _; omega) ?_
  walk_at "mxs"
  refine oAddS (by rw [Str.length_append]; show (1 + _) + 21 ≤ _; omega) ?_
  walk_at "mxs"
  refine oAddS (by rw [Str.length_append, Str.length_append]; show ((1 + _) + 21) + _ ≤ _; omega) ?_
  walk_at "mxs"
  refine bAppend hN (by omega) ?_
  have k1 : Ext (drop H N) (upd H N (.list (ns ++ [sv (msgOf op what)]))) := drop_upd
  have hv1 := hv.up k1
  have hv21 := hv2.up k1
  walk_at "mxs"
  refine FS.uses' (hL.le (by decide)) hL.hd (fs_length hv1 hk (by omega)) ?_
  first | refine eRR ?_ | rintro _ _ ⟨rfl, rfl⟩
  refine stL (by assumption) rfl ?_
  walk_at "mxs"
  walk_at "mo"
  refine ⟨_, rfl, ?_⟩
  first | refine ifP (by rfl) ?_ | rw [if_pos (by rfl)]
  walk_at "mxs"
  refine FS.uses' (hL.le (by decide)) hL.hd (fs_length hv21 hk2 (by omega)) ?_
  first | refine eRR ?_ | rintro _ _ ⟨rfl, rfl⟩
  walk_at "mxs"
  refine bMax hL.hd ?_
  intro w hw
  refine uLoc (by assumption) rfl ?_
  have hmx : (if (ys.length : Int) > (xs.length : Int) then (ys.length : Int) else (xs.length : Int)) = ((max xs.length ys.length : Nat) : Int) := by split <;> omega
  rw [hw, hmx]
  walk_at "mxs"
  refine ⟨by simp, fun d hd => ?_⟩
  walk_at "mxs"
  refine oMulL upd_self (by simp; omega) (by omega) fun d2 hd2 => ?_
  rw [flat_rep]
  walk_at "mxs"
  refine FS.uses' (hL.le (by decide)) hL.hd (fs_logical upd_self (by rw [List.length_replicate]; omega)) ?_
  first | refine eV3 fun w dx it H3 n => ?_ | rintro _ H3 ⟨w, dx, it, rfl, n⟩
  have e3 := (Ext.new hd).trans ((Ext.new hd2).trans n.ext)
  exact ⟨w, rfl, e3 _ _ upd_self, n.pv, k1.trans e3⟩
end

-- MF12
theorem ltCps_asym : ∀ (a b : List Nat), ltCps a b = false → ltCps b a = false → a = b
  | [], [], _, _ => rfl
  | [], _ :: _, h, _ => by simp [ltCps] at h
  | _ :: _, [], _, h => by simp [ltCps] at h
  | a :: r, b :: t, h1, h2 => by
    simp only [ltCps, Bool.or_eq_false_iff, decide_eq_false_iff_not, Bool.and_eq_false_iff, beq_eq_false_iff_ne] at h1 h2
    have e : a = b := by omega
    subst e
    rw [ltCps_asym r t (h1.2.resolve_left (by simp)) (h2.2.resolve_left (by simp))]
theorem ltCps_tr : ∀ (a b c : List Nat), ltCps b a = false → ltCps c b = false → ltCps c a = false
  | [], _, [], _, _ => rfl
  | [], [], _ :: _, _, h => h
  | [], _ :: _, _ :: _, _, _ => rfl
  | _ :: _, [], [], h, _ => h
  | _ :: _, [], _ :: _, h, _ => by simp [ltCps] at h
  | _ :: _, _ :: _, [], _, h => by simp [ltCps] at h
  | a :: r, b :: t, c :: u, h1, h2 => by
    simp only [ltCps, Bool.or_eq_false_iff, decide_eq_false_iff_not, Bool.and_eq_false_iff, beq_eq_false_iff_ne] at h1 h2 ⊢
    refine ⟨by omega, ?_⟩
    by_cases e : c = a
    · subst e
      have e2 : b = c := by omega
      subst e2
      exact .inr (ltCps_tr r t u (h1.2.resolve_left (by simp)) (h2.2.resolve_left (by simp)))
    · exact .inl e
theorem sv_inj : ∀ {a b : List Str}, a.map sv = b.map sv → a = b
  | [], [], _ => rfl
  | [], _ :: _, h => by simp at h
  | _ :: _, [], h => by simp at h
  | x :: a, y :: b, h => by
    rw [List.map_cons, List.map_cons, List.cons.injEq] at h
    obtain ⟨h1, h2⟩ := h
    rw [sv_inj h2]
    cases h1; rfl
noncomputable def leS (a b : Str) : Prop := ltCps b.cps.toList a.cps.toList = false
theorem risingS_all : ∀ (ss : List Str) (p : Str), risingS p ss = true → (∀ x ∈ ss, leS p x) ∧ ss.Pairwise leS
  | [], _, _ => ⟨fun _ h => (List.not_mem_nil h).elim, .nil⟩
  | x :: r, p, h => by
    unfold risingS at h
    rw [Bool.and_eq_true, Bool.not_eq_true'] at h
    obtain ⟨h1, h2⟩ := risingS_all r x h.2
    refine ⟨fun y hy => ?_, List.pairwise_cons.mpr ⟨h1, h2⟩⟩
    rcases List.mem_cons.mp hy with rfl | hy
    · exact h.1
    · exact ltCps_tr _ _ _ h.1 (h1 y hy)
theorem sortedS_pw : ∀ {ss : List Str}, sortedS ss = true → ss.Pairwise leS
  | [], _ => .nil
  | x :: r, h => let ⟨h1, h2⟩ := risingS_all r x h; List.pairwise_cons.mpr ⟨h1, h2⟩
theorem leS_anti {a b : Str} (h1 : leS a b) (h2 : leS b a) : a = b := by
  have := ltCps_asym _ _ h2 h1
  cases a; cases b
  simpa using this
theorem sorted_eq {a b : List Str} (h1 : sortedS a = true) (h2 : sortedS b = true) (hp : a.Perm b) : a = b :=
  List.Perm.eq_of_pairwise (le := leS) (fun _ _ _ _ => leS_anti) (sortedS_pw h1) (sortedS_pw h2) hp
section
variable {Γ : Gl} {H : AH} {v u a a' : Addr} {kind : Str} {xs ys : List Value} {es : List (Option Str × Value)} {codes codes' : List (Option Nat)} {levels levels' : List Str} {falls falls' : Bool} {heads heads' : Option (List Str)} {ws : List (Option Str)}
theorem fs_text_vectorC (hv : PV H v "character" xs) : FS Γ 7 588 H [.ref v] (fun r H' => r = .ref v ∧ H' = H) nX := by
  refine FS.enter (ps := ["v"]) (dv := []) (ho := rfl) (hok := ⟨rfl, rfl, rfl, by rfl, rfl, rfl, rfl, by decide, by decide, by decide⟩) (hbody := rfl) (hnames := rfl) (binds1 fun _ => rfl) rfl (fun c Q hQ hQn hL => ?_)
  have hs := hL.nm; dsimp only at hs
  walk_at "mxs"
  refine FS.uses' (hL.le (by decide)) hL.hd (fs_is_factorC hv.iv) ?_
  first | refine eRR ?_ | rintro _ _ ⟨rfl, rfl⟩
  walk_at "mo"
  walk_at "mif"
  walk_at "mxs"
  exact ⟨rfl, rfl⟩
theorem fs_text_vector (hv : Fac H v codes levels falls none) : FS Γ 7 588 H [.ref v] (fun r H' => ∃ w, r = .ref w ∧ Ext H H' ∧ PV H' w "character" ((facTexts levels codes).map keyV)) nX := by
  refine FS.enter (ps := ["v"]) (dv := []) (ho := rfl) (hok := ⟨rfl, rfl, rfl, by rfl, rfl, rfl, rfl, by decide, by decide, by decide⟩) (hbody := rfl) (hnames := rfl) (binds1 fun _ => rfl) rfl (fun c Q hQ hQn hL => ?_)
  have hs := hL.nm; dsimp only at hs
  have hz : codes.length ≤ 60 := by obtain ⟨_, _, _, h, _⟩ := hv; exact h
  walk_at "mxs"
  refine FS.uses' (hL.le (by decide)) hL.hd (fs_is_factor hv) ?_
  first | refine eRE fun H1 e1 => ?_ | rintro _ H1 ⟨rfl, e1⟩
  walk_at "mo"
  walk_at "mif"
  walk_at "mxs"
  refine FS.uses' (hL.le (by decide)) hL.hd (fs_factor_texts (hv.up e1)) ?_
  first | refine eN3 fun b H2 hb e2 hb2 => ?_ | rintro _ H2 ⟨b, rfl, hb, e2, hb2⟩
  walk_at "mxs"
  refine FS.uses' (hL.le (by decide)) hL.hd (fs_character hb2 (by simp [facTexts]; omega)) ?_
  rintro _ H3 ⟨w, dx, it, rfl, n⟩
  refine stL (by assumption) rfl ?_
  have e13 := (e1.trans e2).trans n.ext
  refine sCons (sAsgA ?_)
  walk_at "mxs"
  refine FS.uses' (hL.le (by decide)) hL.hd (fs_codes_alone (hv.up e13)) ?_
  rintro _ H4 ⟨w2, dx2, it2, ats, rfl, n2, hat⟩
  have hats : ats = .none := by rcases hat with ⟨_, h⟩ | ⟨_, _, _, _, h, _⟩; exact h; cases h
  subst hats
  refine gAttrs n2.1.vc rfl ?_
  walk_at "mxs"
  have n4 := n.up n2.ext
  refine fun u w' hu hw => uAttrs n4.1.iv n4.1.id ?_ hu hw
  walk_at "mxs"
  have n5 := n4.set (ats' := .none)
  exact ⟨w, rfl, (e1.trans e2).trans n5.ext, n5.pv⟩
theorem fs_check_same (hu : Fac H u codes levels falls heads) (hv : Fac H v codes' levels' falls' heads') :
    FS Γ 5 595 H [.ref u, .ref v] (fun r H' => r = .none ∧ Ext H H' ∧ levels.Perm levels') (fun m H' => ¬ levels.Perm levels' ∧ m = ("level sets of factors are different" : Str) ∧ Ext H H') := by
  have hz : levels.length < 60 := by obtain ⟨_, _, _, _, h, _⟩ := hu; exact h
  have hz' : levels'.length < 60 := by obtain ⟨_, _, _, _, h, _⟩ := hv; exact h
  have hok : ∀ x ∈ levels, PyData.strOk x = true := by obtain ⟨_, _, _, _, _, h⟩ := hu; exact h
  have hok' : ∀ x ∈ levels', PyData.strOk x = true := by obtain ⟨_, _, _, _, _, h⟩ := hv; exact h
  refine FS.enter (ps := ["u", "v"]) (dv := []) (ho := rfl) (hok := ⟨rfl, rfl, rfl, by rfl, rfl, rfl, rfl, by decide, by decide, by decide⟩) (hbody := rfl) (hnames := rfl) (binds2 fun _ _ => rfl) rfl (fun c Q hQ hQn hL => ?_)
  have hs := hL.nm; dsimp only at hs
  walk_at "mxs"
  refine FS.uses' (hL.le (by decide)) hL.hd (fs_is_factor hu) ?_
  first | refine eRE fun H1 e1 => ?_ | rintro _ H1 ⟨rfl, e1⟩
  walk_at "mo"
  walk_at "mif"
  walk_at "mxs"
  refine FS.uses' (hL.le (by decide)) hL.hd (fs_is_factor (hv.up e1)) ?_
  first | refine eRE fun H2 e2 => ?_ | rintro _ H2 ⟨rfl, e2⟩
  walk_at "mo"
  walk_at "mif"
  walk_at "mxs"
  refine FS.uses' (hL.le (by decide)) hL.hd (fs_level_texts (hu.up (e1.trans e2))) ?_
  first | refine eN3 fun b H3 hb e3 hb3 => ?_ | rintro _ H3 ⟨b, rfl, hb, e3, hb3⟩
  walk_at "mxs"
  refine bSortedL hb3 (by omega) (fun d ss hp hs1 hd => ?_)
  have e4 := Ext.new (o := .list (ss.map sv)) hd
  walk_at "mxs"
  refine FS.uses' (hL.le (by decide)) hL.hd (fs_level_texts (hv.up (((e1.trans e2).trans e3).trans e4))) ?_
  first | refine eN3 fun b2 H5 hb2 e5 hb5 => ?_ | rintro _ H5 ⟨b2, rfl, hb2, e5, hb5⟩
  walk_at "mxs"
  refine bSortedL hb5 (by omega) (fun d2 ss2 hp2 hs2 hd2 => ?_)
  have e6 := Ext.new (o := .list (ss2.map sv)) hd2
  refine oNeLL ((e5.trans e6) _ _ upd_self) upd_self (fl_strs fun x hx => hok x (hp.subset hx)) (fl_strs fun x hx => hok' x (hp2.subset hx)) ⟨_, rfl, ?_⟩
  have e16 := ((((e1.trans e2).trans e3).trans e4).trans e5).trans e6
  have hinj : ss.map sv = ss2.map sv ↔ levels.Perm levels' := by
    constructor
    · intro h
      have : ss = ss2 := sv_inj h
      subst this
      exact hp.symm.trans hp2
    · intro h
      rw [sorted_eq hs1 hs2 ((hp.trans h).trans hp2.symm)]
  by_cases h : levels.Perm levels'
  · first | refine ifN (by simp [hinj.mpr h]) ?_ | rw [if_neg (by simp [hinj.mpr h])]
    first | refine ifN Bool.false_ne_true ?_ | rw [if_neg Bool.false_ne_true]
    walk_at "mxs"
    exact ⟨rfl, e16, h⟩
  · have h' : ¬ ss.map sv = ss2.map sv := fun e => h (hinj.mp e)
    first | refine ifP (by simp [h']) ?_ | rw [if_pos (by simp [h'])]
    walk_at "mxs"
    walk_at "mif"
    refine sCons (sRaise hL.hd ?_)
    walk_at "mxs"
    refine FS.uses' (hL.le (by decide)) hL.hd fs_refusal ?_
    rintro _ H7 ⟨x, dx, t0, rfl, hx, hdx, hne, h1, h2, e7⟩
    exact ⟨x, _, _, rfl, ⟨dx, t0, h1, h2, hx, hdx, e7⟩, h, rfl, e16⟩
theorem fs_check_sameC1 (hu : PV H u "character" xs) : FS Γ 5 595 H [.ref u, .ref v] (fun r H' => r = .none ∧ H' = H) nX := by
  refine FS.enter (ps := ["u", "v"]) (dv := []) (ho := rfl) (hok := ⟨rfl, rfl, rfl, by rfl, rfl, rfl, rfl, by decide, by decide, by decide⟩) (hbody := rfl) (hnames := rfl) (binds2 fun _ _ => rfl) rfl (fun c Q hQ hQn hL => ?_)
  have hs := hL.nm; dsimp only at hs
  walk_at "mxs"
  refine FS.uses' (hL.le (by decide)) hL.hd (fs_is_factorC hu.iv) ?_
  first | refine eRR ?_ | rintro _ _ ⟨rfl, rfl⟩
  walk_at "mo"
  walk_at "mif"
  walk_at "mxs"
  exact ⟨rfl, rfl⟩
theorem fs_check_sameC2 (hu : Fac H u codes levels falls heads) (hv : PV H v "character" xs) : FS Γ 5 595 H [.ref u, .ref v] (fun r H' => r = .none ∧ Ext H H') nX := by
  refine FS.enter (ps := ["u", "v"]) (dv := []) (ho := rfl) (hok := ⟨rfl, rfl, rfl, by rfl, rfl, rfl, rfl, by decide, by decide, by decide⟩) (hbody := rfl) (hnames := rfl) (binds2 fun _ _ => rfl) rfl (fun c Q hQ hQn hL => ?_)
  have hs := hL.nm; dsimp only at hs
  walk_at "mxs"
  refine FS.uses' (hL.le (by decide)) hL.hd (fs_is_factor hu) ?_
  first | refine eRE fun H1 e1 => ?_ | rintro _ H1 ⟨rfl, e1⟩
  walk_at "mo"
  walk_at "mif"
  walk_at "mxs"
  refine FS.uses' (hL.le (by decide)) hL.hd (fs_is_factorC (hv.up e1).iv) ?_
  first | refine eRR ?_ | rintro _ _ ⟨rfl, rfl⟩
  walk_at "mo"
  walk_at "mif"
  walk_at "mxs"
  exact ⟨rfl, e1⟩
end

-- MF13
theorem upd_same {H : AH} {a : Addr} {o : AO} (h : H a = some o) : upd H a o = H := by
  funext b; unfold upd; split
  · rename_i e; rw [e, h]
  · rfl
noncomputable def rlen (n m : Nat) : Nat := if n = 0 ∨ m = 0 then 0 else max n m
noncomputable def recMsg : Str := "longer object length is not a multiple of shorter object length"
noncomputable def rnote (n m : Nat) : List Str := if 0 < n ∧ 0 < m ∧ max n m % min n m ≠ 0 then [recMsg] else []
theorem maxI (n m : Nat) : (if (m : Int) > (n : Int) then (m : Int) else (n : Int)) = ((max n m : Nat) : Int) := by split <;> omega
theorem minI (n m : Nat) : (if (m : Int) < (n : Int) then (m : Int) else (n : Int)) = ((min n m : Nat) : Int) := by split <;> omega
theorem fmodN (n m : Nat) : ((n : Int)).fmod (m : Int) = ((n % m : Nat) : Int) := by
  rw [Int.fmod_eq_emod_of_nonneg _ (Int.natCast_nonneg m)]; rfl
theorem sCutR {Γ : Gl} {c : Fm} {ρ : Loc} {H : AH} {X : XS} {K : KS} {st : Stmt} (P : Loc → Loc → AH → Prop) (h : T1 Γ c ρ H st (fun f ρ' H' => f = .next ∧ P ρ ρ' H') X) (k : ∀ ρ' H', P ρ ρ' H' → K .next ρ' H') : T1 Γ c ρ H st K X :=
  TS.mono h (fun f ρ' H' ⟨e, p⟩ => by subst e; exact k _ _ p) fun _ _ _ z => z
/-- an int or None -/
noncomputable def iv : Option Int → Value
  | none => .none
  | some i => .int i 0
noncomputable def holdB (op : Str) (d : Int) : Bool :=
  if op = "==" then decide (d = 0) else if op = "!=" then !decide (d = 0) else if op = "<" then decide (d < 0) else if op = "<=" then decide (d ≤ 0) else if op = ">" then decide (d > 0) else decide (d ≥ 0)
noncomputable def hold (op : Str) (o : Option Int) : Option Nat := o.map fun d => if holdB op d then 1 else 0
noncomputable def pordS (a b : Option Str) : Option Int := a.bind fun x => b.map fun y => if x = y then 0 else if x.cps.toList < y.cps.toList then -1 else 1
noncomputable def pordN (a b : Option Nat) : Option Int := a.bind fun x => b.map fun y => if x = y then 0 else if x < y then -1 else 1
section
variable {Γ : Gl} {H : AH} {v u a a' : Addr} {kind kind2 : Str} {xs ys : List Value} {es : List (Option Str × Value)}
theorem fs_recycle_length {n m : Nat} : FS Γ 1 313 H [.int n 0, .int m 0] (fun r H' => r = .int (rlen n m : Nat) 0 ∧ H' = H) nX := by
  refine FS.enter (ps := ["n", "m"]) (dv := []) (ho := rfl) (hok := ⟨rfl, rfl, rfl, by rfl, rfl, rfl, rfl, by decide, by decide, by decide⟩) (hbody := rfl) (hnames := rfl) (binds2 fun _ _ => rfl) rfl (fun c Q hQ hQn hL => ?_)
  have hs := hL.nm; dsimp only at hs
  walk_at "mxs"
  walk_at "mo"
  refine ⟨_, rfl, ?_⟩
  by_cases h1 : n = 0
  · first | refine ifP (by subst h1; rfl) ?_ | rw [if_pos (by subst h1; rfl)]
    first | refine ifP rfl ?_ | rw [if_pos rfl]
    walk_at "mxs"
    exact ⟨by unfold rlen; rw [if_pos (.inl h1)]; rfl, rfl⟩
  · first | refine ifN (by simp [h1]) ?_ | rw [if_neg (by simp [h1])]
    walk_at "mxs"
    walk_at "mo"
    refine ⟨_, rfl, ?_⟩
    by_cases h2 : m = 0
    · first | refine ifP (by subst h2; rfl) ?_ | rw [if_pos (by subst h2; rfl)]
      first | refine ifP rfl ?_ | rw [if_pos rfl]
      walk_at "mxs"
      exact ⟨by unfold rlen; rw [if_pos (.inr h2)]; rfl, rfl⟩
    · first | refine ifN (by simp [h2]) ?_ | rw [if_neg (by simp [h2])]
      walk_at "mxs"
      first | refine ifN Bool.false_ne_true ?_ | rw [if_neg Bool.false_ne_true]
      walk_at "mxs"
      refine bMax hL.hd ?_
      rw [maxI]
      exact ⟨by unfold rlen; rw [if_neg (by omega)], rfl⟩
theorem fs_note_recycling {n m : Nat} {N : Addr} {ns : List Value} (hN : H N = some (.list ns)) (hz : ns.length ≤ 20) : FS Γ 1 320 H [.int n 0, .int m 0, .ref N] (fun r H' => r = .none ∧ H' = upd H N (.list (ns ++ (rnote n m).map sv))) nX := by
  have hno : ¬ (0 < n ∧ 0 < m ∧ max n m % min n m ≠ 0) → upd H N (.list (ns ++ (rnote n m).map sv)) = H := fun h => by
    unfold rnote; rw [if_neg h, List.map_nil, List.append_nil]; exact upd_same hN
  refine FS.enter (ps := ["n", "m", "notes"]) (dv := []) (ho := rfl) (hok := ⟨rfl, rfl, rfl, by rfl, rfl, rfl, rfl, by decide, by decide, by decide⟩) (hbody := rfl) (hnames := rfl) (binds3 fun _ _ _ => rfl) rfl (fun c Q hQ hQn hL => ?_)
  have hs := hL.nm; dsimp only at hs
  walk_at "mxs"
  walk_at "mo"
  refine ⟨_, rfl, ?_⟩
  by_cases h1 : 0 < n
  · first | refine ifP (decide_eq_true (by omega)) ?_ | rw [if_pos (decide_eq_true (by omega))]
    walk_at "mxs"
    walk_at "mo"
    refine ⟨_, rfl, ?_⟩
    by_cases h2 : 0 < m
    · first | refine ifP (decide_eq_true (by omega)) ?_ | rw [if_pos (decide_eq_true (by omega))]
      walk_at "mxs"
      refine bMax hL.hd ?_
      rw [maxI]
      walk_at "mxs"
      refine bMin hL.hd ?_
      rw [minI]
      refine oMod (by omega) ?_
      rw [fmodN]
      walk_at "mxs"
      walk_at "mo"
      refine ⟨_, rfl, ?_⟩
      by_cases h3 : max n m % min n m = 0
      · first | refine ifN (by rw [h3]; simp) ?_ | rw [if_neg (by rw [h3]; simp)]
        first | refine ifN Bool.false_ne_true ?_ | rw [if_neg Bool.false_ne_true]
        walk_at "mxs"
        exact ⟨rfl, (hno (fun h => h.2.2 h3)).symm⟩
      · first | refine ifP (by rw [bne_iff_ne]; omega) ?_ | rw [if_pos (by rw [bne_iff_ne]; omega)]
        walk_at "mxs"
        first | refine ifP rfl ?_ | rw [if_pos rfl]
        walk_at "mxs"
        refine xMeth mf_append rfl rfl rfl rfl ?_
        walk_at "mxs"
        refine ⟨isList_of hN, ?_⟩
        walk_at "mxs"
        refine bAppend hN (by omega) ?_
        walk_at "mxs"
        exact ⟨rfl, by unfold rnote; rw [if_pos ⟨h1, h2, h3⟩]; rfl⟩
    · first | refine ifN (by rw [decide_eq_true_iff]; omega) ?_ | rw [if_neg (by rw [decide_eq_true_iff]; omega)]
      first | refine ifN Bool.false_ne_true ?_ | rw [if_neg Bool.false_ne_true]
      walk_at "mxs"
      exact ⟨rfl, (hno (fun h => h2 h.2.1)).symm⟩
  · first | refine ifN (by rw [decide_eq_true_iff]; omega) ?_ | rw [if_neg (by rw [decide_eq_true_iff]; omega)]
    first | refine ifN Bool.false_ne_true ?_ | rw [if_neg Bool.false_ne_true]
    walk_at "mxs"
    exact ⟨rfl, (hno (fun h => h1 h.1)).symm⟩
theorem fs_result_dim (hu : PV H u kind xs) (hk : Kd kind) (hz : xs.length ≤ 1000) (hv : PV H v kind2 ys) (hk2 : Kd kind2) (hz2 : ys.length ≤ 1000) : FS Γ 3 334 H [.ref u, .ref v] (fun r H' => r = .none ∧ H' = H) nX := by
  refine FS.enter (ps := ["u", "v"]) (dv := []) (ho := rfl) (hok := ⟨rfl, rfl, rfl, by rfl, rfl, rfl, rfl, by decide, by decide, by decide⟩) (hbody := rfl) (hnames := rfl) (binds2 fun _ _ => rfl) rfl (fun c Q hQ hQn hL => ?_)
  have hs := hL.nm; dsimp only at hs
  walk_at "mxs"
  refine FS.uses' (hL.le (by decide)) hL.hd (fs_length hu.iv hk hz) ?_
  first | refine eRR ?_ | rintro _ _ ⟨rfl, rfl⟩
  refine stL (by assumption) rfl ?_
  walk_at "mxs"
  refine FS.uses' (hL.le (by decide)) hL.hd (fs_length hv.iv hk2 hz2) ?_
  first | refine eRR ?_ | rintro _ _ ⟨rfl, rfl⟩
  refine stL (by assumption) rfl ?_
  walk_at "mxs"
  refine FS.uses' (hL.le (by decide)) hL.hd (fs_dim_of hu.iv rfl) ?_
  first | refine eRR ?_ | rintro _ _ ⟨rfl, rfl⟩
  refine stL (by assumption) rfl ?_
  walk_at "mxs"
  refine FS.uses' (hL.le (by decide)) hL.hd (fs_dim_of hv.iv rfl) ?_
  first | refine eRR ?_ | rintro _ _ ⟨rfl, rfl⟩
  refine stL (by assumption) rfl ?_
  walk_at "mxs"
  walk_at "mo"
  refine ⟨_, rfl, ?_⟩
  walk_at "mif"
  walk_at "mxs"
  walk_at "mo"
  refine ⟨_, rfl, ?_⟩
  walk_at "mif"
  walk_at "mxs"
  walk_at "mo"
  refine ⟨_, rfl, ?_⟩
  walk_at "mif"
  walk_at "mxs"
  walk_at "mif"
  walk_at "mxs"
  exact ⟨rfl, rfl⟩
theorem fs_note_array (hu : PV H u kind xs) (hv : PV H v kind2 ys) {N : Value} : FS Γ 3 341 H [.ref u, .ref v, N] (fun r H' => r = .none ∧ H' = H) nX := by
  refine FS.enter (ps := ["u", "v", "notes"]) (dv := []) (ho := rfl) (hok := ⟨rfl, rfl, rfl, by rfl, rfl, rfl, rfl, by decide, by decide, by decide⟩) (hbody := rfl) (hnames := rfl) (binds3 fun _ _ _ => rfl) rfl (fun c Q hQ hQn hL => ?_)
  have hs := hL.nm; dsimp only at hs
  walk_at "mxs"
  refine FS.uses' (hL.le (by decide)) hL.hd (fs_dim_of hu.iv rfl) ?_
  first | refine eRR ?_ | rintro _ _ ⟨rfl, rfl⟩
  walk_at "mxs"
  walk_at "mo"
  walk_at "mo"
  walk_at "mif"
  refine stL (by assumption) rfl ?_
  walk_at "mxs"
  refine FS.uses' (hL.le (by decide)) hL.hd (fs_dim_of hv.iv rfl) ?_
  first | refine eRR ?_ | rintro _ _ ⟨rfl, rfl⟩
  walk_at "mxs"
  walk_at "mo"
  walk_at "mo"
  walk_at "mif"
  refine stL (by assumption) rfl ?_
  walk_at "mxs"
  walk_at "mo"
  walk_at "mif"
  walk_at "mxs"
  walk_at "mo"
  walk_at "mif"
  walk_at "mxs"
  walk_at "mif"
  walk_at "mxs"
  exact ⟨rfl, rfl⟩
theorem fs_common_length {N : Addr} {ns : List Value} (hu : PV (drop H N) u kind xs) (hk : Kd kind) (hz : xs.length ≤ 1000) (hv : PV (drop H N) v kind2 ys) (hk2 : Kd kind2) (hz2 : ys.length ≤ 1000) (hN : H N = some (.list ns)) (hn : ns.length ≤ 20) :
    FS Γ 4 348 H [.ref u, .ref v, .ref N] (fun r H' => r = .int (rlen xs.length ys.length : Nat) 0 ∧ H' = upd H N (.list (ns ++ (rnote xs.length ys.length).map sv))) nX := by
  have hu1 := hu.up drop_ext
  have hv1 := hv.up drop_ext
  refine FS.enter (ps := ["u", "v", "notes"]) (dv := []) (ho := rfl) (hok := ⟨rfl, rfl, rfl, by rfl, rfl, rfl, rfl, by decide, by decide, by decide⟩) (hbody := rfl) (hnames := rfl) (binds3 fun _ _ _ => rfl) rfl (fun c Q hQ hQn hL => ?_)
  have hs := hL.nm; dsimp only at hs
  walk_at "mxs"
  refine FS.uses' (hL.le (by decide)) hL.hd (fs_result_dim hu1 hk hz hv1 hk2 hz2) ?_
  first | refine eRR ?_ | rintro _ _ ⟨rfl, rfl⟩
  walk_at "mxs"
  refine FS.uses' (hL.le (by decide)) hL.hd (fs_note_array hu1 hv1) ?_
  first | refine eRR ?_ | rintro _ _ ⟨rfl, rfl⟩
  walk_at "mxs"
  refine FS.uses' (hL.le (by decide)) hL.hd (fs_length hu1.iv hk hz) ?_
  first | refine eRR ?_ | rintro _ _ ⟨rfl, rfl⟩
  walk_at "mxs"
  refine FS.uses' (hL.le (by decide)) hL.hd (fs_length hv1.iv hk2 hz2) ?_
  first | refine eRR ?_ | rintro _ _ ⟨rfl, rfl⟩
  walk_at "mxs"
  refine FS.uses' (hL.le (by decide)) hL.hd (fs_note_recycling hN hn) ?_
  first | refine eRR ?_ | rintro _ _ ⟨rfl, rfl⟩
  walk_at "mxs"
  refine FS.uses' (hL.le (by decide)) hL.hd (fs_length (hu.up drop_upd).iv hk hz) ?_
  first | refine eRR ?_ | rintro _ _ ⟨rfl, rfl⟩
  walk_at "mxs"
  refine FS.uses' (hL.le (by decide)) hL.hd (fs_length (hv.up drop_upd).iv hk2 hz2) ?_
  first | refine eRR ?_ | rintro _ _ ⟨rfl, rfl⟩
  walk_at "mxs"
  exact fun ws hw => FS.use' (hL.le (by decide)) hL.hd hw fs_recycle_length fun _ _ h => h
theorem fs_shape_attrs (hu : PV H u kind xs) (hk : Kd kind) (hz : xs.length ≤ 1000) (hv : PV H v kind2 ys) (hk2 : Kd kind2) (hz2 : ys.length ≤ 1000) {w : Value} : FS Γ 4 362 H [.ref u, .ref v, w] (fun r H' => r = .none ∧ Ext H H') nX := by
  refine FS.enter (ps := ["u", "v", "result"]) (dv := []) (ho := rfl) (hok := ⟨rfl, rfl, rfl, by rfl, rfl, rfl, rfl, by decide, by decide, by decide⟩) (hbody := rfl) (hnames := rfl) (binds3 fun _ _ _ => rfl) rfl (fun c Q hQ hQn hL => ?_)
  have hs := hL.nm; dsimp only at hs
  walk_at "mxs"
  refine fun D hD => ?_
  refine stL (by assumption) rfl ?_
  have e1 := Ext.new (o := .dict [] 0) hD
  walk_at "mxs"
  refine FS.uses' (hL.le (by decide)) hL.hd (fs_result_dim (hu.up e1) hk hz (hv.up e1) hk2 hz2) ?_
  first | refine eRR ?_ | rintro _ _ ⟨rfl, rfl⟩
  refine stL (by assumption) rfl ?_
  walk_at "mxs"
  walk_at "mo"
  refine ⟨_, rfl, ?_⟩
  walk_at "mif"
  refine sCons ?_
  refine sForI (x := "operand") hs rfl hL.hd ?_
  walk_at "mxs"
  refine ⟨by simp, fun t ht => ?_⟩
  have e2 := e1.trans (Ext.new (o := .tup [.ref v, .ref u]) ht)
  refine ⟨_, _, _, itbTup upd_self, ForI.intro (as := [v, u]) (g := fun a => Value.ref a) (fun _ : Unit => _) (fun r _ H1 => (∀ a ∈ r, a = v ∨ a = u) ∧ Ext H H1 ∧ H1 D = some (.dict [] 0) ∧ H1 t = some (.tup [.ref v, .ref u])) () ⟨by simp, e2, by rw [upd_ne (ne_of_none upd_self ht), upd_self], upd_self⟩ (Sub.refl _) ?_ ?_⟩
  · rintro a r _ H1 ⟨hm, e3, hD3, ht3⟩
    obtain ⟨kk, zs, hp⟩ : ∃ kk zs, PV H1 a kk zs := by
      rcases hm a (.head _) with rfl | rfl
      · exact ⟨_, _, hv.up e3⟩
      · exact ⟨_, _, hu.up e3⟩
    obtain ⟨it, hp1, hp2⟩ := hp
    walk_at "mxs"
    refine FS.uses' (hL.le (by decide)) hL.hd (fs_attribute hp1 (.inl ⟨rfl, rfl⟩)) ?_
    first | refine eRR ?_ | rintro _ _ ⟨rfl, rfl⟩
    refine stL (by assumption) rfl ?_
    walk_at "mxs"
    refine oIsNotN rfl ⟨_, rfl, ?_⟩
    first | refine ifN (by decide) ?_ | rw [if_neg (by decide)]
    first | refine ifN (by decide) ?_ | rw [if_neg (by decide)]
    walk_at "mxs"
    exact ⟨ht3, (), Sub.off (Sub.off (Sub.refl _) rfl) rfl, fun b hb => hm b (.tail _ hb), e3, hD3, ht3⟩
  · rintro _ H1 ⟨_, e3, hD3, _⟩
    walk_at "mxs"
    refine uDict hD3 (by simp) ?_
    first | refine ifN (by decide) ?_ | rw [if_neg (by decide)]
    walk_at "mxs"
    exact ⟨rfl, e3⟩
theorem fs_to_text {x : Value} (hx : er x = x) : FS Γ 1 369 H [.str "character" 0, x] (fun r H' => r = x ∧ H' = H) nX := by
  refine FS.enter (ps := ["kind", "item"]) (dv := []) (ho := rfl) (hok := ⟨rfl, rfl, rfl, by rfl, rfl, rfl, rfl, by decide, by decide, by decide⟩) (hbody := rfl) (hnames := rfl) (binds2 fun _ _ => rfl) rfl (fun c Q hQ hQn hL => ?_)
  have hs := hL.nm; dsimp only at hs
  walk_at "mxs"
  refine oIsN hx ⟨_, rfl, ?_⟩
  cases q : (x == Value.none) with
  | true =>
    first | refine ifP rfl ?_ | rw [if_pos rfl]
    first | refine ifP rfl ?_ | rw [if_pos rfl]
    walk_at "mxs"
    exact ⟨rfl, rfl⟩
  | false =>
    first | refine ifN Bool.false_ne_true ?_ | rw [if_neg Bool.false_ne_true]
    walk_at "mxs"
    walk_at "mo"
    refine ⟨_, rfl, ?_⟩
    first | refine ifP (by decide) ?_ | rw [if_pos (by decide)]
    first | refine ifP rfl ?_ | rw [if_pos rfl]
    walk_at "mxs"
    exact ⟨rfl, rfl⟩
theorem fs_text_items {α : Type} {as : List α} {f : α → Value} (hf : ∀ a, er (f a) = f a) (hv : PV H v "character" (as.map f)) (hz : as.length ≤ 1000) : FS Γ 2 395 H [.ref v] (fun r H' => ∃ b, r = .ref b ∧ H b = none ∧ Ext H H' ∧ H' b = some (.list (as.map f))) nX := by
  obtain ⟨it, h1, h2⟩ := hv
  refine FS.enter (ps := ["v"]) (dv := []) (ho := rfl) (hok := ⟨rfl, rfl, rfl, by rfl, rfl, rfl, rfl, by decide, by decide, by decide⟩) (hbody := rfl) (hnames := rfl) (binds1 fun _ => rfl) rfl (fun c Q hQ hQn hL => ?_)
  have hs := hL.nm; dsimp only at hs
  walk_at "mxs"
  refine xComp hs rfl hL.hd rfl ?_
  walk_at "mxs"
  refine gItems h1 rfl ⟨_, _, _, itbList h2, by rw [List.length_map]; omega, CompP.mapA (f := f) ?_ (fun H' e => e _ _ h2) fun D H' e hD => ⟨D, rfl, none_of_ext e hD, e.upd hD, upd_self⟩⟩
  intro x hx' H' e c hs hk hhd
  walk_at "mxs"
  refine gKind (h1.up e) ?_
  walk_at "mxs"
  exact fun ws hw => FS.use' (by rw [hk, hL.k]; decide) (hhd.trans hL.hd) hw (fs_to_text (hf x)) fun v H2 ⟨h3, h4⟩ => ⟨h4 ▸ Ext.refl _, h3⟩
theorem fs_comparable (hv : PV H v kind xs) (hk : Kd kind) {op : Value} : FS Γ 1 390 H [op, .ref v, .none] (fun r H' => r = .ref v ∧ Ext H H') nX := by
  obtain ⟨it, h1, h2⟩ := hv
  refine FS.enter (ps := ["op", "v", "show"]) (dv := []) (ho := rfl) (hok := ⟨rfl, rfl, rfl, by rfl, rfl, rfl, rfl, by decide, by decide, by decide⟩) (hbody := rfl) (hnames := rfl) (binds3 fun _ _ _ => rfl) rfl (fun c Q hQ hQn hL => ?_)
  have hs := hL.nm; dsimp only at hs
  walk_at "mxs"
  refine gKind h1 ?_
  walk_at "mxs"
  walk_at "mo"
  refine ⟨_, rfl, ?_⟩
  first | refine ifN (by rcases hk with rfl | rfl | rfl <;> decide) ?_ | rw [if_neg (by rcases hk with rfl | rfl | rfl <;> decide)]
  walk_at "mxs"
  refine gKind h1 ?_
  walk_at "mxs"
  walk_at "mo"
  refine ⟨_, rfl, ?_⟩
  first | refine ifN (by rcases hk with rfl | rfl | rfl <;> decide) ?_ | rw [if_neg (by rcases hk with rfl | rfl | rfl <;> decide)]
  first | refine ifN Bool.false_ne_true ?_ | rw [if_neg Bool.false_ne_true]
  walk_at "mxs"
  refine gKind h1 ?_
  walk_at "mxs"
  walk_at "mo"
  refine ⟨_, rfl, ?_⟩
  first | refine ifN (by rcases hk with rfl | rfl | rfl <;> decide) ?_ | rw [if_neg (by rcases hk with rfl | rfl | rfl <;> decide)]
  walk_at "mxs"
  refine gKind h1 ?_
  walk_at "mxs"
  refine ⟨by decide, fun a ha => oInTT (.str ?_) upd_self ?_ ⟨_, rfl, ?_⟩⟩
  · rcases hk with rfl | rfl | rfl <;> decide +kernel
  · intro x hx
    simp only [List.mem_cons, List.not_mem_nil, or_false] at hx
    rcases hx with rfl | rfl | rfl | rfl <;> exact .str (by decide +kernel)
  first | refine ifP (by rcases hk with rfl | rfl | rfl <;> decide) ?_ | rw [if_pos (by rcases hk with rfl | rfl | rfl <;> decide)]
  walk_at "mxs"
  exact ⟨rfl, Ext.new ha⟩
theorem fs_holds {op : Str} {o : Option Int} : FS Γ 1 376 H [sv op, iv o] (fun r H' => r = ov (hold op o) ∧ H' = H) nX := by
  refine FS.enter (ps := ["op", "order"]) (dv := []) (ho := rfl) (hok := ⟨rfl, rfl, rfl, by rfl, rfl, rfl, rfl, by decide, by decide, by decide⟩) (hbody := rfl) (hnames := rfl) (binds2 fun _ _ => rfl) rfl (fun c Q hQ hQn hL => ?_)
  have hs := hL.nm; dsimp only at hs
  walk_at "mxs"
  cases o with
  | none =>
    refine oIsN rfl ⟨_, rfl, ?_⟩
    walk_at "mif"
    walk_at "mxs"
    exact ⟨rfl, rfl⟩
  | some d =>
    refine oIsN rfl ⟨_, rfl, ?_⟩
    first | refine ifN (by simp [iv]) ?_ | rw [if_neg (by simp [iv])]
    refine sNil ?_
    refine sCons (sCutR (fun ρ ρ' H' => ρ' = upd ρ "found" (.bool (holdB op d)) ∧ H' = H) ?_ ?_)
    · walk_at "mxs"
      refine oEqS ⟨_, rfl, ?_⟩
      by_cases h1 : op = "=="
      · subst h1
        first | refine ifP (by decide) ?_ | rw [if_pos (by decide)]
        walk_at "mxs"
        refine oEqI (i := d) (j := 0) ?_
        refine stL (by assumption) rfl ?_
        walk_at "mxs"
        exact ⟨rfl, by simp only [holdB, if_true]; rfl, rfl⟩
      first | refine ifN (by simpa using h1) ?_ | rw [if_neg (by simpa using h1)]
      walk_at "mxs"
      refine oEqS ⟨_, rfl, ?_⟩
      by_cases h2 : op = "!="
      · subst h2
        first | refine ifP (by decide) ?_ | rw [if_pos (by decide)]
        walk_at "mxs"
        refine oNeI (i := d) (j := 0) ?_
        refine stL (by assumption) rfl ?_
        walk_at "mxs"
        exact ⟨rfl, rfl, rfl⟩
      first | refine ifN (by simpa using h2) ?_ | rw [if_neg (by simpa using h2)]
      walk_at "mxs"
      refine oEqS ⟨_, rfl, ?_⟩
      by_cases h3 : op = "<"
      · subst h3
        first | refine ifP (by decide) ?_ | rw [if_pos (by decide)]
        walk_at "mxs"
        refine oLtI (i := d) (j := 0) ?_
        refine stL (by assumption) rfl ?_
        walk_at "mxs"
        exact ⟨rfl, rfl, rfl⟩
      first | refine ifN (by simpa using h3) ?_ | rw [if_neg (by simpa using h3)]
      walk_at "mxs"
      refine oEqS ⟨_, rfl, ?_⟩
      by_cases h4 : op = "<="
      · subst h4
        first | refine ifP (by decide) ?_ | rw [if_pos (by decide)]
        walk_at "mxs"
        refine oLeI (i := d) (j := 0) ?_
        refine stL (by assumption) rfl ?_
        walk_at "mxs"
        exact ⟨rfl, rfl, rfl⟩
      first | refine ifN (by simpa using h4) ?_ | rw [if_neg (by simpa using h4)]
      walk_at "mxs"
      refine oEqS ⟨_, rfl, ?_⟩
      by_cases h5 : op = ">"
      · subst h5
        first | refine ifP (by decide) ?_ | rw [if_pos (by decide)]
        walk_at "mxs"
        refine oGtI (i := d) (j := 0) ?_
        refine stL (by assumption) rfl ?_
        walk_at "mxs"
        exact ⟨rfl, rfl, rfl⟩
      first | refine ifN (by simpa using h5) ?_ | rw [if_neg (by simpa using h5)]
      walk_at "mxs"
      refine oGeI (i := d) (j := 0) ?_
      refine stL (by assumption) rfl ?_
      walk_at "mxs"
      exact ⟨rfl, by unfold holdB; rw [if_neg h1, if_neg h2, if_neg h3, if_neg h4, if_neg h5], rfl⟩
    · first | refine eRR ?_ | rintro _ _ ⟨rfl, rfl⟩
      walk_at "mxs"
      refine uBool ?_
      show if holdB op d = true then _ else _
      cases q : holdB op d with
      | true =>
        first | refine ifP rfl ?_ | rw [if_pos rfl]
        walk_at "mxs"
        exact ⟨by simp [hold, q, ov], rfl⟩
      | false =>
        first | refine ifN Bool.false_ne_true ?_ | rw [if_neg Bool.false_ne_true]
        walk_at "mxs"
        exact ⟨by simp [hold, q, ov], rfl⟩
theorem fs_plain_orderS {a b : Option Str} : FS Γ 1 383 H [keyV a, keyV b] (fun r H' => r = iv (pordS a b) ∧ H' = H) nX := by
  refine FS.enter (ps := ["a", "b"]) (dv := []) (ho := rfl) (hok := ⟨rfl, rfl, rfl, by rfl, rfl, rfl, rfl, by decide, by decide, by decide⟩) (hbody := rfl) (hnames := rfl) (binds2 fun _ _ => rfl) rfl (fun c Q hQ hQn hL => ?_)
  have hs := hL.nm; dsimp only at hs
  walk_at "mxs"
  cases a with
  | none =>
    refine oIsN rfl ⟨_, rfl, ?_⟩
    walk_at "mif"
    walk_at "mxs"
    exact ⟨rfl, rfl⟩
  | some x =>
    refine oIsN rfl ⟨_, rfl, ?_⟩
    first | refine ifN (by simp [keyV]) ?_ | rw [if_neg (by simp [keyV])]
    walk_at "mxs"
    cases b with
    | none =>
      refine oIsN rfl ⟨_, rfl, ?_⟩
      walk_at "mif"
      walk_at "mxs"
      exact ⟨rfl, rfl⟩
    | some y =>
      refine oIsN rfl ⟨_, rfl, ?_⟩
      first | refine ifN (by simp [keyV]) ?_ | rw [if_neg (by simp [keyV])]
      walk_at "mxs"
      first | refine ifN Bool.false_ne_true ?_ | rw [if_neg Bool.false_ne_true]
      walk_at "mxs"
      refine oEqS ⟨_, rfl, ?_⟩
      by_cases h : x = y
      · first | refine ifP (by simpa using h) ?_ | rw [if_pos (by simpa using h)]
        walk_at "mxs"
        exact ⟨by simp [pordS, h, iv], rfl⟩
      · first | refine ifN (by simpa using h) ?_ | rw [if_neg (by simpa using h)]
        walk_at "mxs"
        refine oLtS ⟨_, rfl, ?_⟩
        by_cases h2 : x.cps.toList < y.cps.toList
        · first | refine ifP (decide_eq_true h2) ?_ | rw [if_pos (decide_eq_true h2)]
          walk_at "mxs"
          refine oNeg ⟨?_, rfl⟩
          show _ = iv (some (if x = y then 0 else if x.cps.toList < y.cps.toList then -1 else 1))
          rw [if_neg h, if_pos h2]; rfl
        · first | refine ifN (by rw [decide_eq_true_iff]; exact h2) ?_ | rw [if_neg (by rw [decide_eq_true_iff]; exact h2)]
          walk_at "mxs"
          exact ⟨by show _ = iv (some (if x = y then 0 else if x.cps.toList < y.cps.toList then -1 else 1)); rw [if_neg h, if_neg h2]; rfl, rfl⟩
theorem fs_plain_orderN {a b : Option Nat} : FS Γ 1 383 H [ov a, ov b] (fun r H' => r = iv (pordN a b) ∧ H' = H) nX := by
  refine FS.enter (ps := ["a", "b"]) (dv := []) (ho := rfl) (hok := ⟨rfl, rfl, rfl, by rfl, rfl, rfl, rfl, by decide, by decide, by decide⟩) (hbody := rfl) (hnames := rfl) (binds2 fun _ _ => rfl) rfl (fun c Q hQ hQn hL => ?_)
  have hs := hL.nm; dsimp only at hs
  walk_at "mxs"
  cases a with
  | none =>
    refine oIsN rfl ⟨_, rfl, ?_⟩
    walk_at "mif"
    walk_at "mxs"
    exact ⟨rfl, rfl⟩
  | some x =>
    refine oIsN rfl ⟨_, rfl, ?_⟩
    first | refine ifN (by simp [ov]) ?_ | rw [if_neg (by simp [ov])]
    walk_at "mxs"
    cases b with
    | none =>
      refine oIsN rfl ⟨_, rfl, ?_⟩
      walk_at "mif"
      walk_at "mxs"
      exact ⟨rfl, rfl⟩
    | some y =>
      refine oIsN rfl ⟨_, rfl, ?_⟩
      first | refine ifN (by simp [ov]) ?_ | rw [if_neg (by simp [ov])]
      walk_at "mxs"
      first | refine ifN Bool.false_ne_true ?_ | rw [if_neg Bool.false_ne_true]
      walk_at "mxs"
      refine oEqI (i := (x : Int)) (j := (y : Int)) ⟨_, rfl, ?_⟩
      by_cases h : x = y
      · first | refine ifP (by rw [beq_iff_eq]; exact Int.natCast_inj.mpr h) ?_ | rw [if_pos (by rw [beq_iff_eq]; exact Int.natCast_inj.mpr h)]
        walk_at "mxs"
        exact ⟨by simp [pordN, h, iv], rfl⟩
      · first | refine ifN (by rw [beq_iff_eq]; exact fun e => h (Int.natCast_inj.mp e)) ?_ | rw [if_neg (by rw [beq_iff_eq]; exact fun e => h (Int.natCast_inj.mp e))]
        walk_at "mxs"
        refine oLtI (i := (x : Int)) (j := (y : Int)) ⟨_, rfl, ?_⟩
        by_cases h2 : x < y
        · first | refine ifP (by simpa using h2) ?_ | rw [if_pos (by simpa using h2)]
          walk_at "mxs"
          refine oNeg ⟨?_, rfl⟩
          simp [pordN, h, h2, iv]
        · first | refine ifN (by simpa using h2) ?_ | rw [if_neg (by simpa using h2)]
          walk_at "mxs"
          exact ⟨by simp [pordN, h, h2, iv], rfl⟩
end

-- MF14
theorem drop_mono {H H1 : AH} {N : Addr} (e : Ext H H1) : Ext (drop H N) (drop H1 N) := drop_of (drop_ext.trans e) drop_none
noncomputable def cmpL {β : Type} (pord : Option β → Option β → Option Int) (op : Str) (as bs : List (Option β)) : List (Option Nat) :=
  (List.range (rlen as.length bs.length)).map fun i => hold op (pord ((as[i % as.length]?).getD none) ((bs[i % bs.length]?).getD none))
theorem rlen_le {n m k : Nat} (h1 : n ≤ k) (h2 : m ≤ k) : rlen n m ≤ k := by unfold rlen; split <;> omega
theorem rlen_pos {n m i : Nat} (h : i < rlen n m) : 0 < n ∧ 0 < m := by unfold rlen at h; split at h <;> omega
section
variable {Γ : Gl} {H : AH} {v u a a' : Addr} {kind kind2 : Str} {xs ys : List Value} {es : List (Option Str × Value)}
theorem fs_compare_op {β : Type} {emb : Option β → Value} {pord : Option β → Option β → Option Int} {N : Addr} {ns : List Value} {as bs : List (Option β)} {op : Str}
    (hkind : kind = "character" ∨ kind = "integer") (hemb : ∀ o, er (emb o) = emb o) (hpo : ∀ {H : AH} {a b : Option β}, FS Γ 1 383 H [emb a, emb b] (fun r H' => r = iv (pord a b) ∧ H' = H) nX)
    (hu : PV (drop H N) u kind (as.map emb)) (hv : PV (drop H N) v kind (bs.map emb)) (hza : as.length ≤ 60) (hzb : bs.length ≤ 60) (hN : H N = some (.list ns)) (hn : ns.length ≤ 20) :
    FS Γ 5 406 H [sv op, .ref u, .ref v, .ref N] (fun r H' => ∃ w, r = .ref w ∧ H' N = some (.list (ns ++ (rnote as.length bs.length).map sv)) ∧ PV H' w "logical" ((cmpL pord op as bs).map ov) ∧ Ext (drop H N) H') nX := by
  have hk : Kd kind := by rcases hkind with rfl | rfl; exact .inr (.inl rfl); exact .inl rfl
  refine FS.enter (ps := ["op", "u", "v", "notes", "show"]) (dv := [.none]) (ho := rfl) (hok := ⟨rfl, rfl, rfl, by rfl, rfl, rfl, rfl, by decide, by decide, by decide⟩) (hbody := rfl) (hnames := rfl) (bindsD4' rfl rfl fun _ _ _ _ => ⟨_, rfl, rfl⟩) rfl (fun c Q hQ hQn hL => ?_)
  have hs := hL.nm; dsimp only at hs
  walk_at "mxs"
  refine FS.uses' (hL.le (by decide)) hL.hd (fs_comparable (hu.up drop_ext) hk) ?_
  rintro _ H1 ⟨rfl, e1⟩
  refine stL (by assumption) rfl ?_
  have hu1 := hu.up (drop_mono e1)
  have hv1 := hv.up (drop_mono e1)
  walk_at "mxs"
  refine FS.uses' (hL.le (by decide)) hL.hd (fs_comparable (hv1.up drop_ext) hk) ?_
  rintro _ H2 ⟨rfl, e2⟩
  refine stL (by assumption) rfl ?_
  have hu2 := hu1.up (drop_mono e2)
  have hv2 := hv1.up (drop_mono e2)
  have hN2 := e2 _ _ (e1 _ _ hN)
  walk_at "mxs"
  refine FS.uses' (hL.le (by decide)) hL.hd (fs_common_length hu2 hk (by simp; omega) hv2 hk (by simp; omega) hN2 hn) ?_
  first | refine eRR ?_ | rintro _ _ ⟨rfl, rfl⟩
  refine stL (by assumption) rfl ?_
  have eF : Ext (drop H N) (upd H2 N (.list (ns ++ (rnote (as.map emb).length (bs.map emb).length).map sv))) := ((drop_mono e1).trans (drop_mono e2)).trans drop_upd
  have hu3 := hu.up eF
  have hv3 := hv.up eF
  have hN3 := upd_self (H := H2) (a := N) (o := AO.list (ns ++ (rnote (as.map emb).length (bs.map emb).length).map sv))
  generalize upd H2 N (.list (ns ++ (rnote (as.map emb).length (bs.map emb).length).map sv)) = H3 at eF hu3 hv3 hN3 ⊢
  rw [List.length_map, List.length_map] at hN3
  rw [List.length_map, List.length_map]
  refine sCons (sCutR (fun ρ ρ' H' => ∃ l r, ρ' = upd (upd (upd ρ "left" (.ref l)) "right" (.ref r)) "order" (.ref 383) ∧ Ext H3 H' ∧ H' l = some (.list (as.map emb)) ∧ H' r = some (.list (bs.map emb))) ?_ ?_)
  · walk_at "mxs"
    rcases hkind with rfl | rfl
    · obtain ⟨it, h1, h2⟩ := id hu3
      refine gKind h1 ?_
      walk_at "mxs"
      walk_at "mo"
      refine ⟨_, rfl, ?_⟩
      first | refine ifP (by decide) ?_ | rw [if_pos (by decide)]
      first | refine ifP (by rfl) ?_ | rw [if_pos (by rfl)]
      walk_at "mxs"
      refine FS.uses' (hL.le (by decide)) hL.hd (fs_text_items hemb hu3 (by omega)) ?_
      first | refine eN3 fun b H4 hb e4 hb4 => ?_ | rintro _ H4 ⟨b, rfl, hb, e4, hb4⟩
      refine stC (by assumption) rfl (hL.cell _ rfl) ?_
      walk_at "mxs"
      refine FS.uses' (hL.le (by decide)) hL.hd (fs_text_items hemb (hv3.up e4) (by omega)) ?_
      first | refine eN3 fun b2 H5 hb2 e5 hb5 => ?_ | rintro _ H5 ⟨b2, rfl, hb2, e5, hb5⟩
      refine stC (by assumption) rfl (hL.cell _ rfl) ?_
      refine sCons (sAsg ?_)
      refine xGlo (by assumption) rfl rfl ?_ rfl
      refine stC (by assumption) rfl (hL.cell _ rfl) ?_
      walk_at "mxs"
      exact ⟨rfl, b, b2, rfl, e4.trans e5, e5 _ _ hb4, hb5⟩
    · obtain ⟨it, h1, h2⟩ := id hu3
      obtain ⟨it2, g1, g2⟩ := id hv3
      refine gKind h1 ?_
      walk_at "mxs"
      walk_at "mo"
      refine ⟨_, rfl, ?_⟩
      first | refine ifN (by decide) ?_ | rw [if_neg (by decide)]
      walk_at "mxs"
      refine gKind g1 ?_
      walk_at "mxs"
      walk_at "mo"
      refine ⟨_, rfl, ?_⟩
      first | refine ifN (by decide) ?_ | rw [if_neg (by decide)]
      walk_at "mxs"
      first | refine ifN (by decide) ?_ | rw [if_neg (by decide)]
      walk_at "mxs"
      refine gKind h1 ?_
      walk_at "mxs"
      walk_at "mo"
      refine ⟨_, rfl, ?_⟩
      first | refine ifN (by decide) ?_ | rw [if_neg (by decide)]
      walk_at "mxs"
      refine gKind g1 ?_
      walk_at "mxs"
      walk_at "mo"
      refine ⟨_, rfl, ?_⟩
      first | refine ifN (by decide) ?_ | rw [if_neg (by decide)]
      walk_at "mxs"
      first | refine ifN (by decide) ?_ | rw [if_neg (by decide)]
      walk_at "mxs"
      refine gItems h1 rfl ?_
      refine stC (by assumption) rfl (hL.cell _ rfl) ?_
      walk_at "mxs"
      refine gItems g1 rfl ?_
      refine stC (by assumption) rfl (hL.cell _ rfl) ?_
      refine sCons (sAsg ?_)
      refine xGlo (by assumption) rfl rfl ?_ rfl
      refine stC (by assumption) rfl (hL.cell _ rfl) ?_
      walk_at "mxs"
      exact ⟨rfl, it, it2, rfl, Ext.refl _, h2, g2⟩
  · rintro _ H4 ⟨l, r, rfl, e4, hl, hr⟩
    walk_at "mxs"
    refine sAsgComp hs rfl hL.hd rfl rfl rfl rfl ?_
    walk_at "mxs"
    refine bRange (n := rlen as.length bs.length) (fun rr t u v hrr => ?_)
    have e5 := e4.trans (Ext.new (o := .obj (rangeObj (rlen as.length bs.length) t u v)) hrr)
    have hl5 := upd_of (o := .obj (rangeObj (rlen as.length bs.length) t u v)) hrr hl
    have hr5 := upd_of (o := .obj (rangeObj (rlen as.length bs.length) t u v)) hrr hr
    have hle := rlen_le hza hzb
    refine ⟨_, _, _, itbRange upd_self (by omega), by rw [upto_len]; omega, CompP.mapA (as := List.range (rlen as.length bs.length)) (f := fun i => ov (hold op (pord ((as[i % as.length]?).getD none) ((bs[i % bs.length]?).getD none)))) ?_ (fun H' e => trivial) fun D' H' e' hD' => ?_⟩
    · intro i hi H' e' c hs hk hhd
      obtain ⟨p1, p2⟩ := rlen_pos (List.mem_range.mp hi)
      have q1 : i % as.length < as.length := Nat.mod_lt _ p1
      have q2 : i % bs.length < bs.length := Nat.mod_lt _ p2
      walk_at "mxs"
      refine xCall rfl (xCel hs rfl rfl ⟨rfl, fun v h => er_ref h, .inr (.inr rfl), ?_⟩ rfl)
      walk_at "mxs"
      refine bLenL (e' _ _ hl5) (by rw [List.length_map]; omega) ?_
      refine oMod (i := Int.ofNat i) (by rw [List.length_map]; omega) ?_
      rw [show (Int.ofNat i) = ((i : Nat) : Int) from rfl, fmodN, List.length_map]
      refine .list (e' _ _ hl5) (x := emb ((as[i % as.length]?).getD none)) (by rw [List.getElem?_map, List.getElem?_eq_getElem q1]; rfl) (by omega) ?_
      walk_at "mxs"
      refine bLenL (e' _ _ hr5) (by rw [List.length_map]; omega) ?_
      refine oMod (i := Int.ofNat i) (by rw [List.length_map]; omega) ?_
      rw [show (Int.ofNat i) = ((i : Nat) : Int) from rfl, fmodN, List.length_map]
      refine .list (e' _ _ hr5) (x := emb ((bs[i % bs.length]?).getD none)) (by rw [List.getElem?_map, List.getElem?_eq_getElem q2]; rfl) (by omega) ?_
      walk_at "mxs"
      refine ⟨.inr (.inr rfl), fun ws hw => FS.use' (by rw [hk, hL.k]; decide) (hhd.trans hL.hd) hw hpo ?_⟩
      first | refine eRR ?_ | rintro _ _ ⟨rfl, rfl⟩
      walk_at "mxs"
      refine fun ws hw => FS.use' (by rw [hk, hL.k]; decide) (hhd.trans hL.hd) hw fs_holds ?_
      first | refine eRR ?_ | rintro _ _ ⟨rfl, rfl⟩
      exact ⟨Ext.refl _, rfl⟩
    have e6 := (e5.trans e').trans (Ext.new (o := .list ((List.range (rlen as.length bs.length)).map fun i => ov (hold op (pord ((as[i % as.length]?).getD none) ((bs[i % bs.length]?).getD none))))) hD')
    have hD6 := upd_self (H := H') (a := D') (o := AO.list ((List.range (rlen as.length bs.length)).map fun i => ov (hold op (pord ((as[i % as.length]?).getD none) ((bs[i % bs.length]?).getD none)))))
    generalize upd H' D' _ = H6 at e6 hD6 ⊢
    walk_at "mxs"
    refine FS.uses' (hL.le (by decide)) hL.hd fs_vec3 ?_
    rintro _ H7 ⟨w, dx, rfl, n7⟩
    refine stL (by assumption) rfl ?_
    have e7 := e6.trans n7.ext
    walk_at "mxs"
    refine FS.uses' (hL.le (by decide)) hL.hd (fs_shape_attrs (hu3.up e7) hk (by simp; omega) (hv3.up e7) hk (by simp; omega)) ?_
    first | refine eRE fun H8 e8 => ?_ | rintro _ H8 ⟨rfl, e8⟩
    walk_at "mxs"
    refine ⟨w, rfl, (e7.trans e8) _ _ hN3, ⟨D', n7.vc.up e8, ?_⟩, eF.trans (e7.trans e8)⟩
    rw [(n7.ext.trans e8) _ _ hD6, cmpL, List.map_map]; rfl
end

-- MG0
/-- a comprehension that keeps an invariant -/
theorem CompP.inv {α : Type} {as : List α} {g : α → Value} {N : Names} {k : Nat} {hd : Bool} {x : Str} {ρ₀ : Loc} {elt : Expr} {Hc : AH → Prop} {K : KP} {H : AH} (I : List Value → AH → Prop) (h0 : I [] H)
    (step : ∀ a ∈ as, ∀ ys H', I ys H' → ∀ c : Fm, c.e.scope.names = N → c.k = k → c.hd = hd → TX Γ c (upd ρ₀ x (g a)) H' elt (fun y H2 => I (ys ++ [y]) H2) nX) (hc : ∀ ys H', I ys H' → Hc H')
    (fin : ∀ ys D H', I ys H' → ys.length = as.length → H' D = none → K (.ref D) (upd H' D (.list ys))) : CompP Γ N k hd x ρ₀ [] elt Hc K (as.map g) [] H := by
  have go : ∀ (r : List α) (ys : List Value) (H' : AH), I ys H' → (∀ v ∈ r, v ∈ as) → ys.length + r.length = as.length → CompP Γ N k hd x ρ₀ [] elt Hc K (r.map g) ys H' := by
    intro r
    induction r with
    | nil => intro ys H' e _ hl D hD; exact fin ys D H' e (by simpa using hl) hD
    | cons v r ih =>
      intro ys H' e hm hl c h1 h2 h3
      simp only [CTest, if_true]
      refine (step v (hm v (.head _)) ys H' e c h1 h2 h3).mono (fun y H2 e2 => ⟨hc _ _ e2, ih (ys ++ [y]) H2 e2 (fun u hu => hm u (.tail _ hu)) (by rw [List.length_append]; simp at hl ⊢; omega)⟩) fun _ _ z => z
  exact go as [] H h0 (fun _ h => h) (by simp)
theorem lab_char (xs : List Value) : xs.map (lab "character") = xs := by
  have : lab "character" = id := by
    funext x
    cases x <;> rfl
  rw [this, List.map_id]
theorem labOk_keys (ws : List (Option Str)) : ∀ x ∈ ws.map keyV, LabOk "character" x := fun x hx => by
  obtain ⟨o, _, rfl⟩ := List.mem_map.mp hx
  cases o
  · exact .inl ⟨rfl, .inl rfl⟩
  · exact .inl ⟨rfl, .inr ⟨_, rfl⟩⟩
theorem NL.pvd {H H' : AH} {N : Addr} {o : AO} {v dx it : Addr} {kind : Str} {xs : List Value} (hN : H N = some o) (x : NL H H' v dx it kind xs .none) : PV (drop H' N) v kind xs :=
  ⟨it, ⟨dx, drop_some x.1.iv (ne_of_none hN x.1.nv).symm, drop_some x.1.id (ne_of_none hN x.1.nd).symm⟩, drop_some x.2.2.2.2 (ne_of_none hN x.2.1).symm⟩
noncomputable def levMsg : Str := "level sets of factors are different"
/-- the codes of texts in a row of levels -/
noncomputable def codesIn (row : List Str) (ws : List (Option Str)) : List (Option Nat) := ws.map fun o => o.bind (pos row)
theorem codesIn_len {row : List Str} {ws : List (Option Str)} : (codesIn row ws).length = ws.length := List.length_map ..
theorem NV.pvd {H H' : AH} {N : Addr} {o : AO} {v dx it : Addr} {kind : Str} {xs : List Value} (hN : H N = some o) (x : NV H H' v dx kind (.ref it) .none) (hi : H' it = some (.list xs)) (hne : it ≠ N) : PV (drop H' N) v kind xs :=
  ⟨it, ⟨dx, drop_some x.iv (ne_of_none hN x.nv).symm, drop_some x.id (ne_of_none hN x.nd).symm⟩, drop_some hi hne⟩
theorem drop_upd_none {H : AH} {N : Addr} {o : AO} (h : H N = none) : drop (upd H N o) N = H := by
  funext b
  unfold drop
  split
  · rename_i e; rw [e, h]
  · rename_i e; rw [upd_ne e]
theorem undrop {H H' : AH} {N : Addr} {o : AO} (e : Ext (drop H N) (drop H' N)) (h : H N = some o) (h' : H' N = some o) : Ext H H' := fun b x q => by
  by_cases hb : b = N
  · subst hb; rw [h] at q; cases q; exact h'
  · exact drop_ext _ _ (e _ _ (drop_some q hb))
theorem FS.frame {Γ : Gl} {k : Nat} {fa : Addr} {H : AH} {vs : List Value} {K : KP} {X : XP} {N : Addr} {xs : List Value} (hN : H N = some (.list xs)) (h : FS Γ k fa (drop H N) vs K X) :
    FS Γ k fa H vs (fun r H' => H' N = some (.list xs) ∧ K r (drop H' N)) (fun m H' => H' N = some (.list xs) ∧ X m (drop H' N)) := by
  intro A fr g s vals hv hroom hh hfr hF B
  obtain ⟨ws, n, hob, hws⟩ := B.sees _ _ hN
  have gN := (B.sep _ _ hN).1
  have hN0 := (B.sep _ _ hN).2
  let g' : Prot := fun b => if b = N then some (listOf ws n) else g b
  have gN' : g' N = some (listOf ws n) := if_pos rfl
  have gne : ∀ b, b ≠ N → g' b = g b := fun b hb => if_neg hb
  have nd : ¬ IsD (listOf ws n) := fun ⟨_, _, e⟩ => by cases e
  have B' : Base Γ g' (drop H N) s := ⟨B.ok, B.gens, B.os, B.drawn, B.k0, fun b o q => by
    by_cases hb : b = N
    · subst hb; rw [gN'] at q; cases q; exact ⟨_, hob, .inr rfl⟩
    · rw [gne b hb] at q; exact B.kg b o q, fun a o q => B.sees a o (drop_ext _ _ q), fun a o q => by
    by_cases ha : a = N
    · subst ha; rw [drop_none] at q; cases q
    · rw [gne a ha]; exact B.sep a o (drop_ext _ _ q)⟩
  have back : ∀ H'' s', Base Γ g' H'' s' → H'' N = none ∧ Base Γ g (upd H'' N (.list xs)) s' := fun H'' s' B2 => by
    have hn : H'' N = none := by
      cases q : H'' N with
      | none => rfl
      | some o => have := (B2.sep _ _ q).1; rw [gN'] at this; cases this
    refine ⟨hn, ⟨B2.ok, B2.gens, B2.os, B2.drawn, B2.k0, fun b o q => B2.kg b o (by rw [gne b (by rintro rfl; rw [gN] at q; cases q)]; exact q), fun a o q => ?_, fun a o q => ?_⟩⟩
    · by_cases ha : a = N
      · subst ha
        rw [upd_self] at q; cases q
        obtain ⟨sl, z, f⟩ := B2.kg _ _ gN'
        rcases f with f | rfl
        · exact absurd f nd
        · exact ⟨ws, n, z, hws⟩
      · rw [upd_ne ha] at q; exact B2.sees a o q
    · by_cases ha : a = N
      · subst ha; exact ⟨gN, hN0⟩
      · rw [upd_ne ha] at q; have := B2.sep a o q; rw [gne a ha] at this; exact this
  have hF' : FrOK Γ fr g' := fun env he => by
    obtain ⟨h1, L, h2, h3, o, h4, h5⟩ := hF env he
    exact ⟨h1, L, h2, h3, o, by rw [gne L (by rintro rfl; rw [gN] at h4; cases h4)]; exact h4, h5⟩
  refine codeAny_mono (h A fr g' s vals hv hroom hh hfr hF' B') fun r s' hr => ?_
  cases r with
  | ok f =>
    obtain ⟨v, H', e1, e2, e3⟩ := hr
    obtain ⟨hn, B3⟩ := back _ _ e2
    exact ⟨v, _, e1, B3, upd_self, by rw [drop_upd_none hn]; exact e3⟩
  | error e =>
    obtain ⟨x, m, H', e1, e2, e3, e4⟩ := hr
    obtain ⟨hn, B3⟩ := back _ _ e2
    have hid : ∀ a, Hid Γ g' H' [] a → Hid Γ g (upd H' N (.list xs)) [] a := fun a ⟨q1, q2, q3, q4⟩ => by
      have ha : a ≠ N := by rintro rfl; rw [gN'] at q1; cases q1
      exact ⟨by rw [← gne a ha]; exact q1, q2, by rw [upd_ne ha]; exact q3, q4⟩
    refine ⟨x, m, _, e1, B3, ?_, upd_self, by rw [drop_upd_none hn]; exact e4⟩
    obtain ⟨dx, oe, vs', mm, t, a1, a2, a3, a4, a5, a6, a7, a8, a9, a10⟩ := e3
    refine ⟨dx, oe, vs', mm, t, a1, a2, a3, a4, a5, a6, a7, hid _ a8, hid _ a9, a10.imp id ?_⟩
    rintro ⟨T, oT, ts, b1, b2, b3, b4, b5, b6⟩
    exact ⟨T, oT, ts, b1, b2, b3, b4, b5, hid _ b6⟩
theorem FS.frame0 {Γ : Gl} {k : Nat} {fa : Addr} {H : AH} {vs : List Value} {K : KP} {N : Addr} {xs : List Value} (hN : H N = some (.list xs)) (h : FS Γ k fa (drop H N) vs K nX) :
    FS Γ k fa H vs (fun r H' => H' N = some (.list xs) ∧ K r (drop H' N)) nX := (FS.frame hN h).mono (fun _ _ z => z) fun _ _ z => z.2

-- MF15
section
variable {Γ : Gl} {H : AH} {v u a a' N : Addr} {ns : List Value} {op : Str} {codes codes' : List (Option Nat)} {levels levels' : List Str} {ws : List (Option Str)}
/-- what a comparison leaves -/
noncomputable def CmpR (H : AH) (N : Addr) (ns : List Value) (items : List (Option Nat)) (note : List Str) : KP := fun r H' => ∃ w, r = .ref w ∧ H' N = some (.list (ns ++ note.map sv)) ∧ PV H' w "logical" (items.map ov) ∧ Ext (drop H N) H'
theorem CmpR.down {H H1 : AH} {N : Addr} {ns : List Value} {items : List (Option Nat)} {note : List Str} (e : Ext H H1) : ∀ r H', CmpR H1 N ns items note r H' → CmpR H N ns items note r H' :=
  fun _ _ ⟨w, h1, h2, h3, h4⟩ => ⟨w, h1, h2, h3, (drop_mono e).trans h4⟩
theorem fs_compare_ordered2 (hu : Fac (drop H N) u codes levels true none) (hv : Fac (drop H N) v codes' levels' true none) (hN : H N = some (.list ns)) (hn : ns.length ≤ 20) :
    FS Γ 6 602 H [sv op, .ref u, .ref v, .ref N] (fun r H' => levels = levels' ∧ CmpR H N ns (cmpL pordN op codes codes') (rnote codes.length codes'.length) r H') (fun m H' => levels ≠ levels' ∧ m = levMsg ∧ Ext H H') := by
  have hz : codes.length ≤ 60 := by obtain ⟨_, _, _, h, _⟩ := hu; exact h
  have hz' : codes'.length ≤ 60 := by obtain ⟨_, _, _, h, _⟩ := hv; exact h
  have hok : ∀ x ∈ levels, PyData.strOk x = true := by obtain ⟨_, _, _, _, _, h⟩ := hu; exact h
  have hok' : ∀ x ∈ levels', PyData.strOk x = true := by obtain ⟨_, _, _, _, _, h⟩ := hv; exact h
  refine FS.enter (ps := ["op", "u", "v", "notes"]) (dv := []) (ho := rfl) (hok := ⟨rfl, rfl, rfl, by rfl, rfl, rfl, rfl, by decide, by decide, by decide⟩) (hbody := rfl) (hnames := rfl) (binds4 fun _ _ _ _ => rfl) rfl (fun c Q hQ hQn hL => ?_)
  have hs := hL.nm; dsimp only at hs
  walk_at "mxs"
  refine FS.uses' (hL.le (by decide)) hL.hd (fs_is_ordered (hu.up drop_ext)) ?_
  first | refine eRE fun H1 e1 => ?_ | rintro _ H1 ⟨rfl, e1⟩
  walk_at "mo"
  walk_at "mif"
  walk_at "mxs"
  refine FS.uses' (hL.le (by decide)) hL.hd (fs_is_ordered (hv.up (drop_ext.trans e1))) ?_
  first | refine eRE fun H2 e2 => ?_ | rintro _ H2 ⟨rfl, e2⟩
  walk_at "mo"
  walk_at "mif"
  walk_at "mxs"
  walk_at "mif"
  walk_at "mxs"
  refine FS.uses' (hL.le (by decide)) hL.hd (fs_level_texts (hu.up (drop_ext.trans (e1.trans e2)))) ?_
  first | refine eN3 fun b3 H3 hb3 e3 h3 => ?_ | rintro _ H3 ⟨b3, rfl, hb3, e3, h3⟩
  walk_at "mxs"
  refine FS.uses' (hL.le (by decide)) hL.hd (fs_level_texts (hv.up (drop_ext.trans ((e1.trans e2).trans e3)))) ?_
  first | refine eN3 fun b4 H4 hb4 e4 h4 => ?_ | rintro _ H4 ⟨b4, rfl, hb4, e4, h4⟩
  have e14 := ((e1.trans e2).trans e3).trans e4
  refine oNeLL (e4 _ _ h3) h4 (fl_strs hok) (fl_strs hok') ⟨_, rfl, ?_⟩
  by_cases h : levels = levels'
  · first | refine ifN (by simp [h]) ?_ | rw [if_neg (by simp [h])]
    walk_at "mxs"
    refine FS.uses' (hL.le (by decide)) hL.hd (fs_codes_alone (hu.up (drop_ext.trans e14))) ?_
    rintro _ H5 ⟨w5, dx5, it5, ats, rfl, n5, hat⟩
    have hats : ats = .none := by rcases hat with ⟨_, h⟩ | ⟨_, _, _, _, h, _⟩; exact h; cases h
    subst hats
    have e15 := e14.trans n5.ext
    walk_at "mxs"
    refine FS.uses' (hL.le (by decide)) hL.hd (fs_codes_alone (hv.up (drop_ext.trans e15))) ?_
    rintro _ H6 ⟨w6, dx6, it6, ats, rfl, n6, hat⟩
    have hats : ats = .none := by rcases hat with ⟨_, h⟩ | ⟨_, _, _, _, h, _⟩; exact h; cases h
    subst hats
    have e16 := e15.trans n6.ext
    walk_at "mxs"
    refine FS.uses' (hL.le (by decide)) hL.hd (fs_compare_op (.inr rfl) (fun o => by cases o <;> rfl) fs_plain_orderN ((n5.pvd (e14 _ _ hN)).up (drop_mono n6.ext)) (n6.pvd (e15 _ _ hN)) hz hz' (e16 _ _ hN) hn) ?_
    exact fun r H' z => ⟨h, CmpR.down e16 _ _ z⟩
  · have h' : ¬ levels.map sv = levels'.map sv := fun e => h (sv_inj e)
    first | refine ifP (by simp [h']) ?_ | rw [if_pos (by simp [h'])]
    refine sCons (sRaise hL.hd ?_)
    walk_at "mxs"
    refine FS.uses' (hL.le (by decide)) hL.hd (fs_refusal) ?_
    rintro _ H7 ⟨x, dx, t0, rfl, hx, hdx, hne, h1, h2, e7⟩
    exact ⟨x, _, _, rfl, ⟨dx, t0, h1, h2, hx, hdx, e7⟩, h, rfl, e14⟩
theorem fs_compare_ordered1 (hu : Fac (drop H N) u codes levels true none) (hv : PV (drop H N) v "character" (ws.map keyV)) (hzw : ws.length ≤ 60) (hN : H N = some (.list ns)) (hn : ns.length ≤ 20) :
    FS Γ 6 602 H [sv op, .ref u, .ref v, .ref N] (CmpR H N ns (cmpL pordN op codes (codesIn levels ws)) (rnote codes.length ws.length)) nX := by
  have hz : codes.length ≤ 60 := by obtain ⟨_, _, _, h, _⟩ := hu; exact h
  have hz2 : levels.length < 60 := by obtain ⟨_, _, _, _, h, _⟩ := hu; exact h
  refine FS.enter (ps := ["op", "u", "v", "notes"]) (dv := []) (ho := rfl) (hok := ⟨rfl, rfl, rfl, by rfl, rfl, rfl, rfl, by decide, by decide, by decide⟩) (hbody := rfl) (hnames := rfl) (binds4 fun _ _ _ _ => rfl) rfl (fun c Q hQ hQn hL => ?_)
  have hs := hL.nm; dsimp only at hs
  walk_at "mxs"
  refine FS.uses' (hL.le (by decide)) hL.hd (fs_is_ordered (hu.up drop_ext)) ?_
  first | refine eRE fun H1 e1 => ?_ | rintro _ H1 ⟨rfl, e1⟩
  walk_at "mo"
  walk_at "mif"
  walk_at "mxs"
  refine FS.uses' (hL.le (by decide)) hL.hd (fs_is_orderedC (hv.up (drop_ext.trans e1)).iv) ?_
  first | refine eRR ?_ | rintro _ _ ⟨rfl, rfl⟩
  walk_at "mo"
  walk_at "mif"
  walk_at "mxs"
  walk_at "mif"
  walk_at "mxs"
  refine FS.uses' (hL.le (by decide)) hL.hd (fs_is_ordered (hu.up (drop_ext.trans e1))) ?_
  first | refine eRE fun H2 e2 => ?_ | rintro _ H2 ⟨rfl, e2⟩
  walk_at "mo"
  walk_at "mif"
  walk_at "mxs"
  refine FS.uses' (hL.le (by decide)) hL.hd (fs_item_texts (hv.up (drop_ext.trans (e1.trans e2))) (.inr (.inl rfl)) (labOk_keys ws) (by rw [List.length_map]; omega)) ?_
  first | refine eN3 fun b3 H3 hb3 e3 h3 => ?_ | rintro _ H3 ⟨b3, rfl, hb3, e3, h3⟩
  rw [lab_char] at h3
  walk_at "mxs"
  refine FS.uses' (hL.le (by decide)) hL.hd (fs_level_texts (hu.up (drop_ext.trans ((e1.trans e2).trans e3)))) ?_
  first | refine eN3 fun b4 H4 hb4 e4 h4 => ?_ | rintro _ H4 ⟨b4, rfl, hb4, e4, h4⟩
  walk_at "mxs"
  refine FS.uses' (hL.le (by decide)) hL.hd (fs_codes_of (e4 _ _ h3) h4 (by omega) (by omega)) ?_
  first | refine eN3 fun b5 H5 hb5 e5 h5 => ?_ | rintro _ H5 ⟨b5, rfl, hb5, e5, h5⟩
  walk_at "mxs"
  refine FS.uses' (hL.le (by decide)) hL.hd (fs_integer h5 (by simp; omega)) ?_
  first | refine eV3 fun w6 dx6 it6 H6 n6 => ?_ | rintro _ H6 ⟨w6, dx6, it6, rfl, n6⟩
  refine stL (by assumption) rfl ?_
  have e15 := (((e1.trans e2).trans e3).trans e4).trans e5
  have e16 := e15.trans n6.ext
  walk_at "mxs"
  refine FS.uses' (hL.le (by decide)) hL.hd (fs_codes_alone (hu.up (drop_ext.trans e16))) ?_
  rintro _ H7 ⟨w7, dx7, it7, ats, rfl, n7, hat⟩
  have hats : ats = .none := by rcases hat with ⟨_, h⟩ | ⟨_, _, _, _, h, _⟩; exact h; cases h
  subst hats
  have e17 := e16.trans n7.ext
  walk_at "mxs"
  refine FS.uses' (hL.le (by decide)) hL.hd (fs_compare_op (as := codes) (bs := codesIn levels ws) (.inr rfl) (fun o => by cases o <;> rfl) fs_plain_orderN (n7.pvd (e16 _ _ hN)) ((n6.pvd (e15 _ _ hN)).up (drop_mono n7.ext)) hz (by rw [codesIn_len]; exact hzw) (e17 _ _ hN) hn) ?_
  rw [codesIn_len]
  exact fun r H' z => CmpR.down e17 _ _ z
theorem fs_compare_ordered3 (hu : PV (drop H N) u "character" (ws.map keyV)) (hv : Fac (drop H N) v codes levels true none) (hzw : ws.length ≤ 60) (hN : H N = some (.list ns)) (hn : ns.length ≤ 20) :
    FS Γ 6 602 H [sv op, .ref u, .ref v, .ref N] (CmpR H N ns (cmpL pordN op (codesIn levels ws) codes) (rnote ws.length codes.length)) nX := by
  have hz : codes.length ≤ 60 := by obtain ⟨_, _, _, h, _⟩ := hv; exact h
  have hz2 : levels.length < 60 := by obtain ⟨_, _, _, _, h, _⟩ := hv; exact h
  refine FS.enter (ps := ["op", "u", "v", "notes"]) (dv := []) (ho := rfl) (hok := ⟨rfl, rfl, rfl, by rfl, rfl, rfl, rfl, by decide, by decide, by decide⟩) (hbody := rfl) (hnames := rfl) (binds4 fun _ _ _ _ => rfl) rfl (fun c Q hQ hQn hL => ?_)
  have hs := hL.nm; dsimp only at hs
  walk_at "mxs"
  refine FS.uses' (hL.le (by decide)) hL.hd (fs_is_orderedC (hu.up drop_ext).iv) ?_
  first | refine eRR ?_ | rintro _ _ ⟨rfl, rfl⟩
  walk_at "mo"
  walk_at "mif"
  walk_at "mxs"
  refine FS.uses' (hL.le (by decide)) hL.hd (fs_is_orderedC (hu.up drop_ext).iv) ?_
  first | refine eRR ?_ | rintro _ _ ⟨rfl, rfl⟩
  walk_at "mo"
  walk_at "mif"
  walk_at "mxs"
  refine FS.uses' (hL.le (by decide)) hL.hd (fs_item_texts (hu.up drop_ext) (.inr (.inl rfl)) (labOk_keys ws) (by rw [List.length_map]; omega)) ?_
  first | refine eN3 fun b3 H3 hb3 e3 h3 => ?_ | rintro _ H3 ⟨b3, rfl, hb3, e3, h3⟩
  rw [lab_char] at h3
  walk_at "mxs"
  refine FS.uses' (hL.le (by decide)) hL.hd (fs_level_texts (hv.up (drop_ext.trans e3))) ?_
  first | refine eN3 fun b4 H4 hb4 e4 h4 => ?_ | rintro _ H4 ⟨b4, rfl, hb4, e4, h4⟩
  walk_at "mxs"
  refine FS.uses' (hL.le (by decide)) hL.hd (fs_codes_of (e4 _ _ h3) h4 (by omega) (by omega)) ?_
  first | refine eN3 fun b5 H5 hb5 e5 h5 => ?_ | rintro _ H5 ⟨b5, rfl, hb5, e5, h5⟩
  walk_at "mxs"
  refine FS.uses' (hL.le (by decide)) hL.hd (fs_integer h5 (by simp; omega)) ?_
  first | refine eV3 fun w6 dx6 it6 H6 n6 => ?_ | rintro _ H6 ⟨w6, dx6, it6, rfl, n6⟩
  refine stL (by assumption) rfl ?_
  have e15 := (e3.trans e4).trans e5
  have e16 := e15.trans n6.ext
  walk_at "mxs"
  refine FS.uses' (hL.le (by decide)) hL.hd (fs_codes_alone (hv.up (drop_ext.trans e16))) ?_
  rintro _ H7 ⟨w7, dx7, it7, ats, rfl, n7, hat⟩
  have hats : ats = .none := by rcases hat with ⟨_, h⟩ | ⟨_, _, _, _, h, _⟩; exact h; cases h
  subst hats
  have e17 := e16.trans n7.ext
  walk_at "mxs"
  refine FS.uses' (hL.le (by decide)) hL.hd (fs_compare_op (as := codesIn levels ws) (bs := codes) (.inr rfl) (fun o => by cases o <;> rfl) fs_plain_orderN ((n6.pvd (e15 _ _ hN)).up (drop_mono n7.ext)) (n7.pvd (e16 _ _ hN)) (by rw [codesIn_len]; exact hzw) hz (e17 _ _ hN) hn) ?_
  rw [codesIn_len]
  exact fun r H' z => CmpR.down e17 _ _ z
end

-- MG1
abbrev nv (n : Nat) : Value := .int (n : Int) 0
theorem fl_nats (gs : List Nat) : ∀ v ∈ gs.map nv, Fl v := fun v hv => by
  obtain ⟨n, _, rfl⟩ := List.mem_map.mp hv; exact .int _
/-- what a draw leaves -/
noncomputable def Drawn (H : AH) (G : Addr) (gs : List Nat) (H' : AH) : Prop := (∃ gs' : List Nat, gs'.length ≤ gs.length ∧ H' G = some (.list (gs'.map nv))) ∧ Ext (drop H G) H'
section
variable {Γ : Gl} {H : AH} {G M S : Addr} {gs : List Nat} {ms : List Value}
theorem fs_law_grain {m : Nat} (hG : H G = some (.list (gs.map nv))) (hz : gs.length ≤ 600) (hm : 0 < m) :
    FS Γ 1 635 H [.ref G, nv m] (fun r H' => ∃ (n : Nat) (gs' : List Nat), r = nv n ∧ n < m ∧ gs'.length ≤ gs.length ∧ H' G = some (.list (gs'.map nv)) ∧ Ext (drop H G) H') nX := by
  refine FS.enter (ps := ["grains", "most"]) (dv := []) (ho := rfl) (hok := ⟨rfl, rfl, rfl, by rfl, rfl, rfl, rfl, by decide, by decide, by decide⟩) (hbody := rfl) (hnames := rfl) (binds2 fun _ _ => rfl) rfl (fun c Q hQ hQn hL => ?_)
  have hs := hL.nm; dsimp only at hs
  walk_at "mxs"
  refine ⟨by decide, fun b hb => ?_⟩
  have hne : G ≠ b := ne_of_none hG hb
  refine oNeLL (upd_of hb hG) upd_self (fl_nats gs) (by simp) ⟨_, rfl, ?_⟩
  rcases List.eq_nil_or_concat gs with rfl | ⟨gs', n, rfl⟩
  · first | refine ifN (by simp) ?_ | rw [if_neg (by simp)]
    walk_at "mxs"
    exact ⟨0, [], rfl, hm, Nat.le_refl _, upd_of hb hG, drop_ext.trans (Ext.new hb)⟩
  · first | refine ifP (by simp) ?_ | rw [if_pos (by simp)]
    walk_at "mxs"
    refine xMeth mf_pop rfl rfl rfl rfl ?_
    walk_at "mxs"
    refine ⟨isList_of (upd_of hb hG), ?_⟩
    walk_at "mxs"
    refine bPop (xs := gs'.map nv) (x := nv n) (by rw [upd_of hb hG]; simp) (by simp at hz ⊢; omega) ?_
    walk_at "mxs"
    refine oMod (i := (n : Int)) (j := (m : Int)) (by omega) ?_
    rw [fmodN]
    exact ⟨n % m, gs', rfl, Nat.mod_lt _ hm, by simp, upd_self, (drop_mono (Ext.new hb)).trans drop_upd⟩
/-- what a row of draws leaves -/
theorem fs_law_drawn {least most : Nat} (hG : H G = some (.list (gs.map nv))) (hz : gs.length ≤ 600) (hM : H M = some (.list ms)) (hne : M ≠ G) (hms : 0 < ms.length) (hmz : ms.length ≤ 900) (hl : least ≤ most) (hmost : most ≤ 50) :
    FS Γ 2 640 H [.ref G, .ref M, nv least, nv most] (fun r H' => ∃ (b : Addr) (xs : List Value) (gs' : List Nat), r = .ref b ∧ H b = none ∧ least ≤ xs.length ∧ xs.length ≤ most ∧ (∀ x ∈ xs, x ∈ ms) ∧ H' b = some (.list xs) ∧
      gs'.length ≤ gs.length ∧ H' G = some (.list (gs'.map nv)) ∧ Ext (drop H G) H') nX := by
  refine FS.enter (ps := ["grains", "menu", "least", "most"]) (dv := []) (ho := rfl) (hok := ⟨rfl, rfl, rfl, by rfl, rfl, rfl, rfl, by decide, by decide, by decide⟩) (hbody := rfl) (hnames := rfl) (binds4 fun _ _ _ _ => rfl) rfl (fun c Q hQ hQn hL => ?_)
  have hs := hL.nm; dsimp only at hs
  walk_at "mxs"
  refine oSub (i := (most : Int)) (j := (least : Int)) ?_
  walk_at "mxs"
  refine oAdd (i := (most : Int) - least) (j := 1) ?_
  rw [show ((most : Int) - least + 1) = ((most - least + 1 : Nat) : Int) by omega]
  walk_at "mxs"
  refine FS.uses' (hL.le (by decide)) hL.hd (fs_law_grain (m := most - least + 1) hG hz (by omega)) ?_
  rintro _ H1 ⟨n, gs1, rfl, hn, hg1, hG1, e1⟩
  refine oAdd (i := (least : Int)) (j := (n : Int)) ?_
  rw [show ((least : Int) + n) = ((least + n : Nat) : Int) by omega]
  refine stL (by assumption) rfl ?_
  walk_at "mxs"
  refine xComp hs rfl hL.hd rfl ?_
  walk_at "mxs"
  refine bRange (n := least + n) (fun r t u v hr => ?_)
  have e2 := Ext.new (o := .obj (rangeObj (least + n) t u v)) hr
  refine ⟨_, _, _, itbRange upd_self (by omega), by rw [upto_len]; omega, CompP.inv (as := List.range (least + n)) (fun ys H' => (∃ gs' : List Nat, gs'.length ≤ gs.length ∧ H' G = some (.list (gs'.map nv))) ∧ Ext (drop H G) H' ∧ ∀ y ∈ ys, y ∈ ms) ⟨⟨gs1, hg1, e2 _ _ hG1⟩, e1.trans e2, by simp⟩ ?_ (fun _ _ _ => trivial) ?_⟩
  · rintro i hi ys H' ⟨⟨gs', hg', hG'⟩, e', hys⟩ c hs hk hhd
    walk_at "mxs"
    refine bLenL (e' _ _ (drop_some hM hne)) (by omega) ?_
    refine fun wz hw => FS.use' (by rw [hk, hL.k]; decide) (hhd.trans hL.hd) hw (fs_law_grain (m := ms.length) hG' (by omega) hms) ?_
    rintro _ H3 ⟨n3, gs3, rfl, hn3, hg3, hG3, e3⟩
    have e03 : Ext (drop H G) H3 := (drop_of e' drop_none).trans e3
    refine .list (n := n3) (x := ms[n3]) (e03 _ _ (drop_some hM hne)) (List.getElem?_eq_getElem hn3) (by omega) ⟨⟨gs3, by omega, hG3⟩, e03, fun y hy => ?_⟩
    rcases List.mem_append.mp hy with hy | hy
    · exact hys y hy
    · simp at hy; subst hy; exact List.getElem_mem _
  · rintro ys D H' ⟨⟨gs', hg', hG'⟩, e', hys⟩ hlen hD
    have hDG : G ≠ D := ne_of_none hG' hD
    refine ⟨D, ys, gs', rfl, ?_, by simp at hlen; omega, by simp at hlen; omega, hys, upd_self, hg', by rw [upd_ne hDG]; exact hG', e'.upd hD⟩
    have := none_of_ext e' hD
    unfold drop at this
    rwa [if_neg hDG.symm] at this
theorem fs_law_row (hG : H G = some (.list (gs.map nv))) (hz : gs.length ≤ 600) :
    FS Γ 2 647 H [.ref G] (fun r H' => ∃ (b : Addr) (row : List Str) (gs' : List Nat), r = .ref b ∧ H b = none ∧ row.length ≤ 4 ∧ (∀ x ∈ row, x ∈ [("a" : Str), "b", "c", "d"]) ∧ H' b = some (.list (row.map sv)) ∧
      gs'.length ≤ gs.length ∧ H' G = some (.list (gs'.map nv)) ∧ Ext (drop H G) H') nX := by
  refine FS.enter (ps := ["grains"]) (dv := []) (ho := rfl) (hok := ⟨rfl, rfl, rfl, by rfl, rfl, rfl, rfl, by decide, by decide, by decide⟩) (hbody := rfl) (hnames := rfl) (binds1 fun _ => rfl) rfl (fun c Q hQ hQn hL => ?_)
  have hs := hL.nm; dsimp only at hs
  walk_at "mxs"
  refine ⟨by simp, fun P hP => ?_⟩
  refine stL (by assumption) rfl ?_
  walk_at "mxs"
  refine ⟨by simp, fun R hR => ?_⟩
  refine stL (by assumption) rfl ?_
  have hPG : G ≠ P := ne_of_none hG hP
  have hPR : P ≠ R := ne_of_none upd_self hR
  have hG2 := upd_of (o := AO.list []) hR (upd_of (o := AO.list ([("a" : Str), "b", "c", "d"].map sv)) hP hG)
  have hRG : G ≠ R := ne_of_none (upd_of (o := AO.list ([("a" : Str), "b", "c", "d"].map sv)) hP hG) hR
  have e0 : Ext (drop H G) (upd (upd H P (.list ([("a" : Str), "b", "c", "d"].map sv))) R (.list [])) := drop_ext.trans ((Ext.new hP).upd hR)
  have hHR : H R = none := none_of_ext (Ext.new hP) hR
  refine sCons ?_
  refine sForI (x := "lap") hs rfl hL.hd ?_
  walk_at "mxs"
  refine FS.uses' (hL.le (by decide)) hL.hd (fs_law_grain (m := 5) hG2 hz (by decide)) ?_
  rintro _ H1 ⟨n, gs1, rfl, hn, hg1, hG1, e1⟩
  have hP1 : H1 P = some (.list ([("a" : Str), "b", "c", "d"].map sv)) := e1 _ _ (drop_some (upd_of hR upd_self) hPG.symm)
  have hR1 : H1 R = some (.list ([] : List Value)) := e1 _ _ (drop_some upd_self hRG.symm)
  have e01 : Ext (drop H G) H1 := (drop_of e0 drop_none).trans e1
  refine bRange (n := n) (fun r t u v hr => ?_)
  have e2 := Ext.new (o := .obj (rangeObj n t u v)) hr
  refine ⟨_, _, _, itbRange upd_self (by omega), ForI.intro (as := List.range n) (fun _ : Unit => _)
    (fun (rem : List Nat) _ H2 => ∃ (gs' : List Nat) (ps rs : List Str), gs'.length ≤ gs.length ∧ H2 G = some (.list (gs'.map nv)) ∧ H2 P = some (.list (ps.map sv)) ∧ H2 R = some (.list (rs.map sv)) ∧ ps.length + rs.length = 4 ∧ rem.length ≤ ps.length ∧
      (∀ x ∈ ps, x ∈ [("a" : Str), "b", "c", "d"]) ∧ (∀ x ∈ rs, x ∈ [("a" : Str), "b", "c", "d"]) ∧ Ext (drop H G) H2) () ⟨gs1, _, [], hg1, e2 _ _ hG1, e2 _ _ hP1, e2 _ _ hR1, rfl, by simp; omega, fun _ h => h, by simp, e01.trans e2⟩ (Sub.refl _) ?_ ?_⟩
  · rintro i rem _ H2 ⟨gs2, ps, rs, hg2, hG2, hP2, hR2, hlen, hrem, hps, hrs, e02⟩
    rw [List.length_cons] at hrem
    walk_at "mxs"
    refine xMeth mf_append rfl rfl rfl rfl ?_
    walk_at "mxs"
    refine ⟨isList_of hR2, ?_⟩
    walk_at "mxs"
    refine xMeth mf_pop rfl rfl rfl rfl ?_
    walk_at "mxs"
    refine ⟨isList_of hP2, ?_⟩
    walk_at "mxs"
    refine bLenL hP2 (by rw [List.length_map]; omega) ?_
    rw [List.length_map]
    refine FS.uses' (hL.le (by decide)) hL.hd (fs_law_grain (m := ps.length) hG2 (by omega) (by omega)) ?_
    rintro _ H3 ⟨n3, gs3, rfl, hn3, hg3, hG3, e3⟩
    have hP3 := e3 _ _ (drop_some hP2 hPG.symm)
    have hR3 := e3 _ _ (drop_some hR2 hRG.symm)
    have e03 : Ext (drop H G) H3 := (drop_of e02 drop_none).trans e3
    obtain ⟨p1, x, p2, rfl, hx⟩ : ∃ p1 x p2, ps = p1 ++ x :: p2 ∧ p1.length = n3 := ⟨ps.take n3, ps[n3], ps.drop (n3 + 1), by rw [← List.drop_eq_getElem_cons, List.take_append_drop], by rw [List.length_take]; omega⟩
    subst hx
    simp only [List.length_append, List.length_cons] at hlen hrem
    walk_at "mxs"
    refine fun ws hw => bPopAt (xs := p1.map sv) (x := sv x) (ys := p2.map sv) (by rw [hP3]; simp) (by simp; omega) ?_ ws (by rw [List.length_map]; exact hw)
    walk_at "mxs"
    have hR4 : upd H3 P (.list (p1.map sv ++ p2.map sv)) R = some (.list (rs.map sv)) := by rw [upd_ne hPR.symm]; exact hR3
    refine bAppend hR4 (by simp; omega) ?_
    walk_at "mxs"
    refine ⟨trivial, (), Sub.off (Sub.refl _) rfl, gs3, p1 ++ p2, rs ++ [x], by omega, ?_, ?_, ?_, by simp; omega, by simp; omega, ?_, ?_, ?_⟩
    · rw [upd_ne hRG, upd_ne hPG]; exact hG3
    · rw [upd_ne hPR, upd_self, List.map_append]
    · rw [upd_self, List.map_append]; rfl
    · exact fun y hy => hps y (by simp at hy ⊢; rcases hy with h | h; exact .inl h; exact .inr (.inr h))
    · intro y hy
      rcases List.mem_append.mp hy with h | h
      · exact hrs y h
      · simp at h; subst h; exact hps _ (by simp)
    · exact (e03.upd' (by unfold drop; rw [if_neg hPG.symm]; exact hP)).upd' (by unfold drop; rw [if_neg hRG.symm]; exact hHR)
  · rintro _ H2 ⟨gs2, ps, rs, hg2, hG2, hP2, hR2, hlen, hrem, hps, hrs, e02⟩
    walk_at "mxs"
    exact ⟨R, rs, gs2, rfl, hHR, by omega, hrs, hR2, hg2, hG2, e02⟩
end

-- MG2
theorem pos_index {row : List Str} {x : Str} (h : x ∈ row) : ∃ j, pos row x = some (j + 1) ∧ row[j]? = some x ∧ ∀ m, m < j → row[m]? ≠ some x := by
  cases q : row.findIdx? (· = x) with
  | none =>
    rw [List.findIdx?_eq_none_iff] at q
    exact absurd (q x h) (by simp)
  | some j =>
    obtain ⟨hj, h1, h2⟩ := List.findIdx?_eq_some_iff_getElem.mp q
    refine ⟨j, by unfold pos; rw [q]; rfl, ?_, fun m hm e => ?_⟩
    · rw [List.getElem?_eq_getElem hj]; simp at h1; rw [h1]
    · obtain ⟨hm', e'⟩ := List.getElem?_eq_some_iff.mp e
      exact h2 m hm (by simpa using e')
/-- the names handed in -/
noncomputable def HdV (H : AH) (hv : Value) (heads : Option (List Str)) : Prop := (heads = none ∧ hv = .none) ∨ ∃ A hs, heads = some hs ∧ hv = .ref A ∧ H A = some (.list (hs.map sv)) ∧ hs.length ≤ 60 ∧ ∀ x ∈ hs, PyData.strOk x = true
theorem HdV.up {H H' : AH} {hv heads} (h : HdV H hv heads) (e : Ext H H') : HdV H' hv heads := h.imp id fun ⟨A, hs, a, b, d, f⟩ => ⟨A, hs, a, b, e _ _ d, f⟩
theorem fl_ov (xs : List (Option Nat)) : ∀ v ∈ xs.map ov, Fl v := fun v hv => by
  obtain ⟨o, _, rfl⟩ := List.mem_map.mp hv
  cases o
  · exact .none
  · exact .int _
theorem sorted_names {ss ss' : List Str} (h1 : ss'.Perm ss) (h2 : sortedS ss' = true) {t : List Str} (h3 : t.Perm ss) (h4 : sortedS t = true) : ss' = t := sorted_eq h2 h4 (h1.trans h3.symm)
section
variable {Γ : Gl} {H : AH} {f W R : Addr} {hv : Value} {falls : Bool} {heads : Option (List Str)} {row : List Str} {ws : List (Option Str)}
theorem fs_law_codes (hW : H W = some (.list (ws.map keyV))) (hR : H R = some (.list (row.map sv))) (hin : ∀ x, some x ∈ ws → x ∈ row) (hz : ws.length ≤ 900) (hz2 : row.length ≤ 900) :
    FS Γ 1 652 H [.ref W, .ref R] (fun r H' => ∃ b, r = .ref b ∧ H b = none ∧ Ext H H' ∧ H' b = some (.list ((codesIn row ws).map ov))) nX := by
  refine FS.enter (ps := ["words", "row"]) (dv := []) (ho := rfl) (hok := ⟨rfl, rfl, rfl, by rfl, rfl, rfl, rfl, by decide, by decide, by decide⟩) (hbody := rfl) (hnames := rfl) (binds2 fun _ _ => rfl) rfl (fun c Q hQ hQn hL => ?_)
  have hs := hL.nm; dsimp only at hs
  walk_at "mxs"
  refine xComp hs rfl hL.hd rfl ?_
  walk_at "mxs"
  refine ⟨_, _, _, itbList hW, by rw [List.length_map]; omega, CompP.mapA (f := fun o => ov (o.bind (pos row))) ?_ (fun H' e => e _ _ hW) fun D H' e' hD => ⟨D, rfl, none_of_ext e' hD, e'.upd hD, by rw [upd_self, codesIn, List.map_map]; rfl⟩⟩
  intro o ho H' e' c hs hk hhd
  walk_at "mxs"
  cases o with
  | none =>
    refine oIsN rfl ⟨_, rfl, ?_⟩
    walk_at "mif"
    walk_at "mxs"
    exact ⟨Ext.refl _, rfl⟩
  | some x =>
    obtain ⟨j, p1, p2, p3⟩ := pos_index (hin x ho)
    refine oIsN rfl ⟨_, rfl, ?_⟩
    first | refine ifN (by simp [keyV]) ?_ | rw [if_neg (by simp [keyV])]
    walk_at "mxs"
    refine xMeth mf_index rfl rfl rfl rfl ?_
    walk_at "mxs"
    refine ⟨isList_of (e' _ _ hR), ?_⟩
    walk_at "mxs"
    refine bIndex (e' _ _ hR) (by omega) p2 p3 ?_
    walk_at "mxs"
    refine oAdd (i := (j : Int)) (j := 1) ⟨Ext.refl _, ?_⟩
    show _ = ov (pos row x)
    rw [p1]; rfl
theorem fs_law_classes : FS Γ 1 659 H [.bool falls] (fun r H' => ∃ b, r = .ref b ∧ H b = none ∧ H' = upd H b (.list ((classes falls).map sv))) nX := by
  refine FS.enter (ps := ["falls"]) (dv := []) (ho := rfl) (hok := ⟨rfl, rfl, rfl, by rfl, rfl, rfl, rfl, by decide, by decide, by decide⟩) (hbody := rfl) (hnames := rfl) (binds1 fun _ => rfl) rfl (fun c Q hQ hQn hL => ?_)
  have hs := hL.nm; dsimp only at hs
  walk_at "mxs"
  refine uBool ?_
  cases falls with
  | true =>
    walk_at "mif"
    walk_at "mxs"
    exact ⟨by decide, fun b hb => ⟨b, rfl, hb, rfl⟩⟩
  | false =>
    walk_at "mif"
    walk_at "mxs"
    exact ⟨by decide, fun b hb => ⟨b, rfl, hb, rfl⟩⟩
theorem fs_law_factor (hW : H W = some (.list (ws.map keyV))) (hR : H R = some (.list (row.map sv))) (hin : ∀ x, some x ∈ ws → x ∈ row) (hz : ws.length ≤ 60) (hz2 : row.length < 60) (hok : ∀ x ∈ row, PyData.strOk x = true) (hh : HdV H hv heads) :
    FS Γ 3 666 H [.ref W, .ref R, .bool falls, hv] (fun r H' => ∃ w, r = .ref w ∧ Ext H H' ∧ Fac H' w (codesIn row ws) row falls heads) nX := by
  refine FS.enter (ps := ["words", "row", "falls", "heads"]) (dv := []) (ho := rfl) (hok := ⟨rfl, rfl, rfl, by rfl, rfl, rfl, rfl, by decide, by decide, by decide⟩) (hbody := rfl) (hnames := rfl) (binds4 fun _ _ _ _ => rfl) rfl (fun c Q hQ hQn hL => ?_)
  have hs := hL.nm; dsimp only at hs
  walk_at "mxs"
  refine fun D hD => ?_
  refine stL (by assumption) rfl ?_
  have eD := Ext.new (o := .dict [] 0) hD
  refine sCons (sCutH (fun H' => ∃ nvs ep, H' D = some (.dict nvs ep) ∧ nvs.length ≤ 1 ∧ Ext H (drop H' D) ∧ ((heads = none ∧ nvs = []) ∨ ∃ nv hs, heads = some hs ∧ nvs = [(some ("names" : Str), Value.ref nv)] ∧ PV (drop H' D) nv "character" (hs.map sv) ∧ hs.length ≤ 60 ∧ ∀ x ∈ hs, PyData.strOk x = true)) ?_ ?_)
  · walk_at "mxs"
    rcases hh with ⟨rfl, rfl⟩ | ⟨A, hs', rfl, rfl, hA, hl, hok2⟩
    · refine oIsNotN rfl ⟨_, rfl, ?_⟩
      walk_at "mif"
      walk_at "mxs"
      exact ⟨rfl, rfl, [], 0, upd_self, by simp, drop_of eD hD, .inl ⟨rfl, rfl⟩⟩
    · refine oIsNotN rfl ⟨_, rfl, ?_⟩
      first | refine ifP (by rfl) ?_ | rw [if_pos (by rfl)]
      refine sCons (sAsgI ?_)
      walk_at "mxs"
      refine bListL (upd_of hD hA) (by rw [List.length_map]; omega) (fun b hb => ?_)
      walk_at "mxs"
      refine FS.uses' (hL.le (by decide)) hL.hd (fs_vec3) ?_
      first | refine eV2 fun v dx H2 n => ?_ | refine eG2 fun dx H2 v n => ?_ | rintro _ H2 ⟨v, dx, rfl, n⟩
      have p2 := NV.pvd (N := D) (upd_of hb upd_self) n (n.ext _ _ upd_self) (ne_of_none upd_self hb).symm
      have e2 := (Ext.new (o := .list (hs'.map sv)) hb).trans n.ext
      walk_at "mxs"
      refine fun u j w hu hj hw => uSetD (kk := some "names") (e2 _ _ upd_self) (by simp) (fun ep' => ?_) hu hj hw
      walk_at "mxs"
      refine ⟨rfl, rfl, _, ep', upd_self, by show 1 ≤ 1; exact Nat.le_refl _, drop_of ((drop_of (eD.trans e2) hD).trans drop_upd) hD, .inr ⟨v, hs', rfl, rfl, p2.up (drop_of drop_upd drop_none), hl, hok2⟩⟩
  · rintro H1 ⟨nvs, ep1, hD1, hlen, e1, hn1⟩
    refine sCons (sAsgI ?_)
    walk_at "mxs"
    refine bListL (drop_ext _ _ (e1 _ _ hR)) (by rw [List.length_map]; omega) (fun b hb => ?_)
    walk_at "mxs"
    refine FS.uses' (hL.le (by decide)) hL.hd (fs_vec3) ?_
    first | refine eV2 fun lv dx H2 n2 => ?_ | refine eG2 fun dx H2 lv n2 => ?_ | rintro _ H2 ⟨lv, dx, rfl, n2⟩
    have p2 := NV.pvd (N := D) (upd_of hb hD1) n2 (n2.ext _ _ upd_self) (ne_of_none hD1 hb).symm
    have e2 := (Ext.new (o := .list (row.map sv)) hb).trans n2.ext
    walk_at "mxs"
    refine fun u j w hu hj hw => uSetD (kk := some "levels") (e2 _ _ hD1) (by omega) (fun ep2 => ?_) hu hj hw
    have k2 : Ext (drop H1 D) (drop (upd H2 D (.dict (stored nvs (some "levels") (.ref lv)) ep2)) D) := (drop_mono e2).trans (drop_of drop_upd drop_none)
    have p2' := p2.up (drop_of (drop_upd (o := .dict (stored nvs (some "levels") (.ref lv)) ep2)) drop_none)
    have hD2 := upd_self (H := H2) (a := D) (o := AO.dict (stored nvs (some "levels") (.ref lv)) ep2)
    generalize upd H2 D (.dict (stored nvs (some "levels") (.ref lv)) ep2) = H3 at k2 p2' hD2 ⊢
    refine sCons (sAsgI ?_)
    walk_at "mxs"
    refine FS.uses' (hL.le (by decide)) hL.hd (fs_law_classes) ?_
    rintro _ _ ⟨b3, rfl, hb3, rfl⟩
    walk_at "mxs"
    refine FS.uses' (hL.le (by decide)) hL.hd (fs_vec3) ?_
    first | refine eV2 fun cv dx4 H4 n4 => ?_ | refine eG2 fun dx4 H4 cv n4 => ?_ | rintro _ H4 ⟨cv, dx4, rfl, n4⟩
    have p4 := NV.pvd (N := D) (upd_of hb3 hD2) n4 (n4.ext _ _ upd_self) (ne_of_none hD2 hb3).symm
    have e4 := (Ext.new (o := .list ((classes falls).map sv)) hb3).trans n4.ext
    walk_at "mxs"
    refine fun u j w hu hj hw => uSetD (kk := some "class") (e4 _ _ hD2) (by have := stored_len (es := nvs) (k := some "levels") (v := .ref lv); omega) (fun ep5 => ?_) hu hj hw
    have hst : stored (stored nvs (some "levels") (.ref lv)) (some "class") (.ref cv) = nvs ++ [(some ("levels" : Str), Value.ref lv), (some ("class" : Str), Value.ref cv)] := by
      rcases hn1 with ⟨_, rfl⟩ | ⟨nv, hs', _, rfl, _⟩ <;> rfl
    rw [hst]
    have k5 : Ext (drop H3 D) (upd H4 D (.dict (nvs ++ [(some ("levels" : Str), Value.ref lv), (some ("class" : Str), Value.ref cv)]) ep5)) := (drop_mono e4).trans drop_upd
    have p4' := p4.up (drop_upd (o := .dict (nvs ++ [(some ("levels" : Str), Value.ref lv), (some ("class" : Str), Value.ref cv)]) ep5))
    have hD5 := upd_self (H := H4) (a := D) (o := AO.dict (nvs ++ [(some ("levels" : Str), Value.ref lv), (some ("class" : Str), Value.ref cv)]) ep5)
    generalize upd H4 D (.dict (nvs ++ [(some ("levels" : Str), Value.ref lv), (some ("class" : Str), Value.ref cv)]) ep5) = H5 at k5 p4' hD5 ⊢
    have e05 : Ext H H5 := (e1.trans k2).trans k5
    walk_at "mxs"
    refine FS.uses' (hL.le (by decide)) hL.hd (fs_law_codes (e05 _ _ hW) (e05 _ _ hR) hin (by omega) (by omega)) ?_
    first | refine eN3 fun b6 H6 hb6 e6 h6 => ?_ | rintro _ H6 ⟨b6, rfl, hb6, e6, h6⟩
    walk_at "mxs"
    refine FS.uses' (hL.le (by decide)) hL.hd (fs_vec4) ?_
    first | refine eV2 fun w7 dx7 H7 n7 => ?_ | refine eG2 fun dx7 H7 w7 n7 => ?_ | rintro _ H7 ⟨w7, dx7, rfl, n7⟩
    have e57 := e6.trans n7.ext
    refine ⟨w7, rfl, e05.trans e57, _, ⟨b6, .ref D, n7.vc, n7.ext _ _ h6, .inr ⟨D, ep5, rfl, e57 _ _ hD5⟩⟩, ⟨lv, cv, nvs, rfl, (p2'.up k5).up e57, p4'.up e57, ?_⟩, by rw [codesIn_len]; exact hz, hz2, hok⟩
    rcases hn1 with h | ⟨nv, hs', h1, h2, h3, h4, h5⟩
    · exact .inl h
    · exact .inr ⟨nv, hs', h1, h2, ((h3.up k2).up k5).up e57, h4, h5⟩
theorem fs_law_is (hf : Fac H f (codesIn row ws) row falls heads) (hW : H W = some (.list (ws.map keyV))) (hR : H R = some (.list (row.map sv))) (hin : ∀ x, some x ∈ ws → x ∈ row) (hz : ws.length ≤ 60) (hh : HdV H hv heads) :
    FS Γ 3 673 H [.ref f, .ref W, .ref R, .bool falls, hv] (fun r H' => r = .bool true ∧ Ext H H') nX := by
  obtain ⟨es, ⟨it, ats, hi1, hi2, hi3⟩, hfa, hz1, hz2, hok⟩ := id hf
  obtain ⟨D, ep, rfl, hD⟩ : ∃ D ep, ats = .ref D ∧ H D = some (.dict es ep) := by
    rcases hi3 with ⟨_, rfl⟩ | h
    · obtain ⟨lv, cv, nvs, h, _⟩ := hfa; simp at h
    · exact h
  obtain ⟨lv, cv, nvs, hes, hlv, hcv, hnv⟩ := id hfa
  obtain ⟨jl, hl1, hl2⟩ := hlv
  obtain ⟨jc, hc1, hc2⟩ := hcv
  have hgl : dget es (some "levels") = some (.ref lv) := by subst hes; rcases hnv with ⟨_, rfl⟩ | ⟨nv, hs', _, rfl, _⟩ <;> rfl
  have hgc : dget es (some "class") = some (.ref cv) := by subst hes; rcases hnv with ⟨_, rfl⟩ | ⟨nv, hs', _, rfl, _⟩ <;> rfl
  refine FS.enter (ps := ["f", "words", "row", "falls", "heads"]) (dv := []) (ho := rfl) (hok := ⟨rfl, rfl, rfl, by rfl, rfl, rfl, rfl, by decide, by decide, by decide⟩) (hbody := rfl) (hnames := rfl) (binds5 fun _ _ _ _ _ => rfl) rfl (fun c Q hQ hQn hL => ?_)
  have hs := hL.nm; dsimp only at hs
  walk_at "mxs"
  refine gKind hi1 ?_
  walk_at "mxs"
  refine oNeS ⟨_, rfl, ?_⟩
  first | refine ifN (by decide) ?_ | rw [if_neg (by decide)]
  walk_at "mxs"
  refine gItems hi1 rfl ?_
  walk_at "mxs"
  refine FS.uses' (hL.le (by decide)) hL.hd (fs_law_codes hW hR hin (by omega) (by omega)) ?_
  first | refine eN3 fun b1 H1 hb1 e1 h1 => ?_ | rintro _ H1 ⟨b1, rfl, hb1, e1, h1⟩
  refine oNeLL (e1 _ _ hi2) h1 (fl_ov _) (fl_ov _) ⟨_, rfl, ?_⟩
  first | refine ifN (by simp) ?_ | rw [if_neg (by simp)]
  walk_at "mxs"
  first | refine ifN (by decide) ?_ | rw [if_neg (by decide)]
  walk_at "mxs"
  refine gAttrs (hi1.up e1) rfl ?_
  walk_at "mxs"
  refine .dict (k := some "levels") (e1 _ _ hD) hgl ?_
  refine stL (by assumption) rfl ?_
  walk_at "mxs"
  refine gKind (hl1.up e1) ?_
  walk_at "mxs"
  refine oNeS ⟨_, rfl, ?_⟩
  first | refine ifN (by decide) ?_ | rw [if_neg (by decide)]
  walk_at "mxs"
  refine gItems (hl1.up e1) rfl ?_
  walk_at "mxs"
  refine oNeLL (e1 _ _ hl2) (e1 _ _ hR) (fl_strs hok) (fl_strs hok) ⟨_, rfl, ?_⟩
  first | refine ifN (by simp) ?_ | rw [if_neg (by simp)]
  walk_at "mxs"
  refine gAttrs (hi1.up e1) rfl ?_
  walk_at "mxs"
  refine .dict (k := some "class") (e1 _ _ hD) hgc ?_
  refine gItems (hc1.up e1) rfl ?_
  walk_at "mxs"
  refine FS.uses' (hL.le (by decide)) hL.hd (fs_law_classes) ?_
  rintro _ _ ⟨b2, rfl, hb2, rfl⟩
  have e2 := e1.trans (Ext.new (o := .list ((classes falls).map sv)) hb2)
  refine oNeLL (e2 _ _ hc2) upd_self (fl_strs (strOk_classes falls)) (fl_strs (strOk_classes falls)) ⟨_, rfl, ?_⟩
  first | refine ifN (by simp) ?_ | rw [if_neg (by simp)]
  walk_at "mxs"
  first | refine ifN (by decide) ?_ | rw [if_neg (by decide)]
  walk_at "mxs"
  rcases hh with ⟨rfl, rfl⟩ | ⟨A, hs', rfl, rfl, hA, hl, hok2⟩
  · refine oIsN rfl ⟨_, rfl, ?_⟩
    walk_at "mif"
    walk_at "mxs"
    refine gAttrs (hi1.up e2) rfl ?_
    walk_at "mxs"
    have hke : es.map (·.1) = [("levels" : Str), "class"].map some := by
      rcases hnv with ⟨_, rfl⟩ | ⟨_, _, h, _⟩
      · subst hes; rfl
      · cases h
    refine bSortedD hL.hd (e2 _ _ hD) hke (by decide) (fun b3 ss hp hs hb3 => ?_)
    have hss : ss = [("class" : Str), "levels"] := sorted_names hp hs (t := [("class" : Str), "levels"]) (.swap _ _ _) (by decide +kernel)
    subst hss
    walk_at "mxs"
    refine ⟨by decide, fun b4 hb4 => ?_⟩
    have e3 := (Ext.new (o := .list ([("class" : Str), "levels"].map sv)) hb3).trans (Ext.new (o := .list ([("class" : Str), "levels"].map sv)) hb4)
    refine oEqLL (upd_of hb4 upd_self) upd_self (fl_strs (by decide +kernel)) (fl_strs (ss := [("class" : Str), "levels"]) (by decide +kernel)) ?_
    exact ⟨by simp, e2.trans e3⟩
  · refine oIsN rfl ⟨_, rfl, ?_⟩
    first | refine ifN (by simp) ?_ | rw [if_neg (by simp)]
    obtain ⟨nv, hs2, hhs, rfl, hp, _⟩ : ∃ nv hs, some hs' = some hs ∧ nvs = [(some ("names" : Str), Value.ref nv)] ∧ PV H nv "character" (hs.map sv) ∧ True := by
      rcases hnv with ⟨h, _⟩ | ⟨nv, hs, h1, h2, h3, _⟩
      · cases h
      · exact ⟨nv, hs, h1, h2, h3, trivial⟩
    cases hhs
    obtain ⟨jn, hn1, hn2⟩ := hp
    walk_at "mxs"
    refine gAttrs (hi1.up e2) rfl ?_
    walk_at "mxs"
    have hke : es.map (·.1) = [("names" : Str), "levels", "class"].map some := by subst hes; rfl
    have hgn : dget es (some "names") = some (.ref nv) := by subst hes; rfl
    refine bSortedD hL.hd (e2 _ _ hD) hke (by decide) (fun b3 ss hp hs hb3 => ?_)
    have hss : ss = [("class" : Str), "levels", "names"] := sorted_names hp hs (t := [("class" : Str), "levels", "names"]) (by decide) (by decide +kernel)
    subst hss
    walk_at "mxs"
    refine ⟨by decide, fun b4 hb4 => ?_⟩
    have e3 := e2.trans ((Ext.new (o := .list ([("class" : Str), "levels", "names"].map sv)) hb3).trans (Ext.new (o := .list ([("class" : Str), "levels", "names"].map sv)) hb4))
    refine oEqLL (upd_of hb4 upd_self) upd_self (fl_strs (by decide +kernel)) (fl_strs (ss := [("class" : Str), "levels", "names"]) (by decide +kernel)) ?_
    walk_at "mo"
    first | refine ifP (by simp) ?_ | rw [if_pos (by simp)]
    walk_at "mxs"
    refine gAttrs (hi1.up e3) rfl ?_
    walk_at "mxs"
    refine .dict (k := some "names") (e3 _ _ hD) hgn ?_
    refine gItems (hn1.up e3) rfl ?_
    walk_at "mxs"
    refine oEqLL (e3 _ _ hn2) (e3 _ _ hA) (fl_strs hok2) (fl_strs hok2) ?_
    exact ⟨by simp, e3⟩
end

-- MG3
theorem range_drop {i n k : Nat} {r : List Nat} (h : i :: r = (List.range n).drop k) : i = k ∧ r = (List.range n).drop (k + 1) ∧ k < n := by
  have hlt : k < (List.range n).length := by
    apply Nat.lt_of_not_le; intro hge; rw [List.drop_eq_nil_of_le hge] at h; cases h
  rw [List.drop_eq_getElem_cons hlt] at h
  obtain ⟨ea, eb⟩ := List.cons.inj h
  exact ⟨by rw [ea, List.getElem_range], eb, by simpa using hlt⟩
theorem range_end {n k : Nat} (h : [] = (List.range n).drop k) (hk : k ≤ n) : k = n := by
  have := congrArg List.length h
  simp at this; omega
theorem Sub.over2 {L : Loc} {x y : Str} {u v w : Value} (hn : L y = none) (hne : y ≠ x) : Sub (upd L x v) (upd (upd (upd L x u) y w) x v) := fun z t hz => by
  by_cases q : z = x
  · subst q; rw [upd_self] at hz ⊢; exact hz
  · rw [upd_ne q] at hz ⊢
    rw [upd_ne (by rintro rfl; rw [hn] at hz; cases hz), upd_ne q]; exact hz
/-- a word's new word -/
noncomputable def renW (row : List Str) (fresh : List (Option Str)) (w : Option Str) : Option Str := w.bind fun x => (pos row x).bind fun c => (fresh[c - 1]?).join
/-- the last head that takes a word -/
noncomputable def lastHead (w : Option Str) (ps : List (Str × List (Option Str))) : Option Str := ps.foldl (fun best p => if w ∈ p.2 then some p.1 else best) none
/-- what a comparison owes -/
noncomputable def dueF (op : Str) (row : List Str) (l r : Option Str) : Option Nat := if op = "==" ∨ op = "!=" then hold op (pordS l r) else hold op (pordN (l.bind (pos row)) (r.bind (pos row)))
theorem fl_keys {ws : List (Option Str)} (h : ∀ x, some x ∈ ws → PyData.strOk x = true) : ∀ v ∈ ws.map keyV, Fl v := fun v hv => by
  obtain ⟨o, ho, rfl⟩ := List.mem_map.mp hv
  cases o
  · exact .none
  · exact .str (h _ ho)
theorem keyV_inj {a b : Option Str} (h : keyV a = keyV b) : a = b := by
  cases a <;> cases b <;> simp [keyV] at h ⊢; exact h
theorem mem_keys {ws : List (Option Str)} {w : Option Str} : keyV w ∈ ws.map keyV ↔ w ∈ ws := by
  rw [List.mem_map]
  exact ⟨fun ⟨a, h, e⟩ => keyV_inj e ▸ h, fun h => ⟨w, h, rfl⟩⟩
/-- the heads' parts -/
noncomputable def Parts (H : AH) (P : Addr) (ps : List (Str × List (Option Str))) : Prop := ∃ as : List Addr, H P = some (.list (as.map Value.ref)) ∧ as.length = ps.length ∧ ∀ (i : Nat) a p, as[i]? = some a → ps[i]? = some p → H a = some (.list (p.2.map keyV))
theorem Parts.up {H H' : AH} {P ps} (h : Parts H P ps) (e : Ext H H') : Parts H' P ps := let ⟨as, h1, h2, h3⟩ := h; ⟨as, e _ _ h1, h2, fun i a p ha hp => e _ _ (h3 i a p ha hp)⟩
section
variable {Γ : Gl} {H : AH} {f W R F P T : Addr} {falls : Bool} {row : List Str} {ws fresh : List (Option Str)} {ps : List (Str × List (Option Str))} {op : Str}
theorem fs_law_renamed (hW : H W = some (.list (ws.map keyV))) (hR : H R = some (.list (row.map sv))) (hF : H F = some (.list (fresh.map keyV))) (hin : ∀ x, some x ∈ ws → x ∈ row) (hle : row.length ≤ fresh.length) (hz : ws.length ≤ 60) (hz2 : fresh.length ≤ 60) (hok : ∀ x, some x ∈ fresh → PyData.strOk x = true) :
    FS Γ 1 678 H [.ref W, .ref R, .ref F] (fun r H' => ∃ t a b, r = .ref t ∧ H' t = some (.tup [.ref a, .ref b]) ∧ H' a = some (.list ((ws.map (renW row fresh)).map keyV)) ∧ H' b = some (.list ((distA [] fresh).map sv)) ∧ Ext H H') nX := by
  refine FS.enter (ps := ["words", "row", "fresh"]) (dv := []) (ho := rfl) (hok := ⟨rfl, rfl, rfl, by rfl, rfl, rfl, rfl, by decide, by decide, by decide⟩) (hbody := rfl) (hnames := rfl) (binds3 fun _ _ _ => rfl) rfl (fun c Q hQ hQn hL => ?_)
  have hs := hL.nm; dsimp only at hs
  walk_at "mxs"
  refine ⟨by decide, fun N hN => ?_⟩
  refine stL (by assumption) rfl ?_
  have e1 : Ext H (upd H N (.list ([] : List Value))) := Ext.new hN
  refine sCons ?_
  refine sForI (x := "word") hs rfl hL.hd ?_
  walk_at "mxs"
  refine ⟨_, _, _, itbList (e1 _ _ hF), ForI.intro (as := fresh) (fun _ : Unit => _) (fun r _ H1 => ∃ acc, H1 N = some (.list (acc.map sv)) ∧ distA acc r = distA [] fresh ∧ (∀ x ∈ acc, PyData.strOk x = true) ∧ (∀ x, some x ∈ r → PyData.strOk x = true) ∧ acc.length + r.length ≤ fresh.length ∧ Ext H H1) ()
    ⟨[], upd_self, rfl, by simp, hok, by simp, e1⟩ (Sub.refl _) ?_ ?_⟩
  · rintro o r _ H1 ⟨acc, h1, h2, h3, h4, h5, e2⟩
    rw [List.length_cons] at h5
    walk_at "mxs"
    cases o with
    | none =>
      refine oIsNotN rfl ⟨_, rfl, ?_⟩
      walk_at "mif"
      walk_at "mxs"
      exact ⟨e2 _ _ hF, (), Sub.off (Sub.refl _) rfl, acc, h1, h2, h3, fun x hx => h4 x (.tail _ hx), by omega, e2⟩
    | some x =>
      refine oIsNotN rfl ⟨_, rfl, ?_⟩
      first | refine ifP (by rfl) ?_ | rw [if_pos (by rfl)]
      walk_at "mxs"
      refine oNotInLL (.str (h4 x (.head _))) h1 (fl_strs h3) ⟨_, rfl, ?_⟩
      have hm : decide (keyV (some x) ∈ acc.map sv) = decide (x ∈ acc) := mem_strs
      rw [hm]
      have h2' : distA (if x ∈ acc then acc else acc ++ [x]) r = distA [] fresh := h2
      by_cases hx : x ∈ acc
      · first | refine ifN (by simp [hx]) ?_ | rw [if_neg (by simp [hx])]
        walk_at "mxs"
        first | refine ifN Bool.false_ne_true ?_ | rw [if_neg Bool.false_ne_true]
        walk_at "mxs"
        rw [if_pos hx] at h2'
        exact ⟨e2 _ _ hF, (), Sub.off (Sub.refl _) rfl, acc, h1, h2', h3, fun x hx => h4 x (.tail _ hx), by omega, e2⟩
      · first | refine ifP (by simp [hx]) ?_ | rw [if_pos (by simp [hx])]
        walk_at "mxs"
        first | refine ifP rfl ?_ | rw [if_pos rfl]
        walk_at "mxs"
        refine xMeth mf_append rfl rfl rfl rfl ?_
        walk_at "mxs"
        refine ⟨isList_of h1, ?_⟩
        walk_at "mxs"
        refine bAppend h1 (by rw [List.length_map]; omega) ?_
        walk_at "mxs"
        rw [if_neg hx] at h2'
        have e3 : Ext H (upd H1 N (.list (acc.map sv ++ [keyV (some x)]))) := e2.upd' hN
        refine ⟨e3 _ _ hF, (), Sub.off (Sub.refl _) rfl, acc ++ [x], by rw [upd_self, List.map_append]; rfl, h2', ?_, fun x hx => h4 x (.tail _ hx), by rw [List.length_append]; simp; omega, e3⟩
        intro y hy
        rcases List.mem_append.mp hy with hy | hy
        · exact h3 y hy
        · simp at hy; subst hy; exact h4 _ (.head _)
  · rintro _ H1 ⟨acc, h1, h2, h3, h4, h5, e2⟩
    have hacc : acc = distA [] fresh := h2
    subst hacc
    walk_at "mxs"
    refine xComp hs rfl hL.hd rfl ?_
    walk_at "mxs"
    refine ⟨_, _, _, itbList (e2 _ _ hW), by rw [List.length_map]; omega, CompP.mapA (f := fun o => keyV (renW row fresh o)) ?_ (fun H' e => e _ _ (e2 _ _ hW)) fun D' H' e' hD' => ?_⟩
    · intro o ho H' e' c hs hk hhd
      walk_at "mxs"
      cases o with
      | none =>
        refine oIsN rfl ⟨_, rfl, ?_⟩
        walk_at "mif"
        walk_at "mxs"
        exact ⟨Ext.refl _, rfl⟩
      | some x =>
        obtain ⟨j, p1, p2, p3⟩ := pos_index (hin x ho)
        have hj : j < row.length := (List.getElem?_eq_some_iff.mp p2).1
        have hjf : j < fresh.length := by omega
        refine oIsN rfl ⟨_, rfl, ?_⟩
        first | refine ifN (by simp [keyV]) ?_ | rw [if_neg (by simp [keyV])]
        walk_at "mxs"
        refine xMeth mf_index rfl rfl rfl rfl ?_
        walk_at "mxs"
        refine ⟨isList_of (e' _ _ (e2 _ _ hR)), ?_⟩
        walk_at "mxs"
        refine bIndex (e' _ _ (e2 _ _ hR)) (by omega) p2 p3 ?_
        refine .list (n := j) (e' _ _ (e2 _ _ hF)) (x := keyV fresh[j]) (by rw [List.getElem?_map, List.getElem?_eq_getElem hjf]; rfl) (by omega) ⟨Ext.refl _, ?_⟩
        simp [renW, p1, List.getElem?_eq_getElem hjf]
    · walk_at "mxs"
      refine ⟨by simp, fun t ht => ?_⟩
      have e3 := (Ext.new (o := .list (ws.map fun o => keyV (renW row fresh o))) hD').trans (Ext.new (o := .tup [Value.ref D', Value.ref N]) ht)
      refine ⟨t, D', N, rfl, upd_self, ?_, e3 _ _ (e' _ _ h1), (e2.trans e').trans e3⟩
      rw [upd_of ht upd_self, List.map_map]; rfl
theorem fs_law_last_head {w : Option Str} (hT : H T = some (.list ((ps.map (·.1)).map sv))) (hP : Parts H P ps) (hz : ps.length ≤ 60) (hw : ∀ x, w = some x → PyData.strOk x = true) (hok : ∀ p ∈ ps, ∀ x, some x ∈ p.2 → PyData.strOk x = true) :
    FS Γ 1 685 H [keyV w, .ref T, .ref P] (fun r H' => r = keyV (lastHead w ps) ∧ Ext H H') nX := by
  obtain ⟨as, hP1, hP2, hP3⟩ := hP
  have hfw : Fl (keyV w) := by
    cases w
    · exact .none
    · exact .str (hw _ rfl)
  refine FS.enter (ps := ["word", "heads", "parts_of_it"]) (dv := []) (ho := rfl) (hok := ⟨rfl, rfl, rfl, by rfl, rfl, rfl, rfl, by decide, by decide, by decide⟩) (hbody := rfl) (hnames := rfl) (binds3 fun _ _ _ => rfl) rfl (fun c Q hQ hQn hL => ?_)
  have hs := hL.nm; dsimp only at hs
  walk_at "mxs"
  refine fun w' hw' => ?_
  refine uLoc (by assumption) rfl ?_
  rw [hw']
  refine sCons ?_
  refine sForI (x := "at") hs rfl hL.hd ?_
  walk_at "mxs"
  refine bLenL hT (by simp; omega) ?_
  refine bRange (n := ((ps.map (·.1)).map sv).length) (fun r t u v hr => ?_)
  have hn : ((ps.map (·.1)).map sv).length = ps.length := by simp
  rw [hn]
  have e1 := Ext.new (o := .obj (rangeObj ps.length t u v)) hr
  refine ⟨_, _, _, itbRange upd_self (by omega), ForI.intro (as := List.range ps.length) (fun best : Option Str => upd (fun x => ([("word" : Str), "heads", "parts_of_it"].zip ([keyV w, .ref T, .ref P] ++ ([] : List Value).map er)).lookup x) "best" (keyV best))
    (fun r best H1 => ∃ k, r = (List.range ps.length).drop k ∧ k ≤ ps.length ∧ best = lastHead w (ps.take k) ∧ Ext H H1) none ⟨0, rfl, Nat.zero_le _, rfl, e1⟩ (Sub.refl _) ?_ ?_⟩
  · rintro i r best H1 ⟨k, h1, h2, rfl, e2⟩
    obtain ⟨rfl, hr', hlt⟩ := range_drop h1
    obtain ⟨p, hp⟩ : ∃ p, ps[i]? = some p := ⟨_, List.getElem?_eq_getElem hlt⟩
    obtain ⟨a, ha⟩ : ∃ a, as[i]? = some a := ⟨_, List.getElem?_eq_getElem (by omega)⟩
    have htake : lastHead w (ps.take (i + 1)) = if w ∈ p.2 then some p.1 else lastHead w (ps.take i) := by
      have : ps.take (i + 1) = ps.take i ++ [p] := by
        rw [List.take_succ_eq_append_getElem hlt]; rw [List.getElem?_eq_getElem hlt] at hp; cases hp; rfl
      rw [this, lastHead, List.foldl_append]; rfl
    walk_at "mxs"
    refine .list (n := i) (e2 _ _ hP1) (x := Value.ref a) (by rw [List.getElem?_map, ha]; rfl) (by omega) ?_
    refine oInLL hfw (e2 _ _ (hP3 i a p ha hp)) (fl_keys (hok p (List.mem_of_getElem? hp))) ⟨_, rfl, ?_⟩
    by_cases hm : w ∈ p.2
    · first | refine ifP (by rw [decide_eq_true_iff]; exact mem_keys.mpr hm) ?_ | rw [if_pos (by rw [decide_eq_true_iff]; exact mem_keys.mpr hm)]
      walk_at "mxs"
      refine .list (n := i) (e2 _ _ hT) (x := sv p.1) (by rw [List.getElem?_map, List.getElem?_map, hp]; rfl) (by omega) ?_
      intro w' hw'
      refine uLoc (by assumption) rfl ?_
      rw [hw']
      walk_at "mxs"
      exact ⟨trivial, some p.1, Sub.over2 rfl (by decide), i + 1, hr', hlt, by rw [htake, if_pos hm], e2⟩
    · first | refine ifN (by rw [decide_eq_true_iff]; exact fun h => hm (mem_keys.mp h)) ?_ | rw [if_neg (by rw [decide_eq_true_iff]; exact fun h => hm (mem_keys.mp h))]
      walk_at "mxs"
      exact ⟨trivial, lastHead w (ps.take i), Sub.off (Sub.refl _) rfl, i + 1, hr', hlt, by rw [htake, if_neg hm], e2⟩
  · rintro best H1 ⟨k, h1, h2, rfl, e2⟩
    have := range_end h1 h2
    subst this
    rw [List.take_length]
    walk_at "mxs"
    exact ⟨rfl, e2⟩
end

-- MG4
noncomputable def Eqs (op : Str) : Prop := op = "==" ∨ op = "!="
noncomputable def Ords (op : Str) : Prop := op = "<" ∨ op = "<=" ∨ op = ">" ∨ op = ">="
theorem Ords.ne {op : Str} (h : Ords op) : ¬ Eqs op := by
  rcases h with rfl | rfl | rfl | rfl <;> (rintro (h | h) <;> revert h <;> decide)
theorem Ords.ok {op : Str} (h : Ords op) : PyData.strOk op = true := by
  rcases h with rfl | rfl | rfl | rfl <;> decide +kernel
theorem pordS_same (x : Str) : pordS (some x) (some x) = some 0 := by
  show some (if x = x then (0 : Int) else _) = _
  first | refine ifP rfl ?_ | rw [if_pos rfl]
theorem pordS_ne {x y : Str} (h : x ≠ y) : ∃ d, pordS (some x) (some y) = some d ∧ (d = -1 ∨ d = 1) := by
  refine ⟨_, rfl, ?_⟩
  dsimp only
  first | refine ifN h ?_ | rw [if_neg h]
  split
  · exact .inl rfl
  · exact .inr rfl
section
variable {Γ : Gl} {c : Fm} {ρ : Loc} {H : AH} {R : Addr} {row : List Str} {op : Str} {K : KP} {X : XP}
theorem oEqB {a b : Bool} (k : K (.bool (a == b)) H) : Op2 Γ c ρ H (compareOp .Eq) (.bool a) (.bool b) K X := oEqD (n := 0) (da := .bool a) (db := .bool b) (.bool a) (.bool b) (by decide) k
theorem ord_eq {op : Str} (h : Ords op) {i : Nat} : hold op (pordN (some i) (some i)) = some (if op = "<=" ∨ op = ">=" then 1 else 0) := by
  have : pordN (some i) (some i) = some 0 := by simp [pordN]
  rw [this]
  rcases h with rfl | rfl | rfl | rfl <;> decide
theorem ord_lt {op : Str} (h : Ords op) {i j : Nat} (hne : i ≠ j) : hold op (pordN (some i) (some j)) = some (if (decide (i < j)) = decide (op = "<" ∨ op = "<=") then 1 else 0) := by
  by_cases q : i < j
  · have : pordN (some i) (some j) = some (-1) := by simp [pordN, hne, q]
    rw [this, decide_eq_true q]
    rcases h with rfl | rfl | rfl | rfl <;> decide
  · have : pordN (some i) (some j) = some 1 := by simp [pordN, hne, q]
    rw [this, decide_eq_false q]
    rcases h with rfl | rfl | rfl | rfl <;> decide
theorem fs_law_verdict {l r : Option Str} (hop : Eqs op ∨ Ords op) (hR : H R = some (.list (row.map sv))) (hz : row.length ≤ 60) (hok : ∀ x ∈ row, PyData.strOk x = true) (hl : ∀ x, l = some x → PyData.strOk x = true) (hr : ∀ x, r = some x → PyData.strOk x = true) :
    FS Γ 1 692 H [sv op, keyV l, keyV r, .ref R] (fun v H' => v = ov (dueF op row l r) ∧ Ext H H') nX := by
  refine FS.enter (ps := ["op", "left", "right", "row"]) (dv := []) (ho := rfl) (hok := ⟨rfl, rfl, rfl, by rfl, rfl, rfl, rfl, by decide, by decide, by decide⟩) (hbody := rfl) (hnames := rfl) (binds4 fun _ _ _ _ => rfl) rfl (fun c Q hQ hQn hL => ?_)
  have hs := hL.nm; dsimp only at hs
  walk_at "mxs"
  cases l with
  | none =>
    refine oIsN rfl ⟨_, rfl, ?_⟩
    walk_at "mif"
    walk_at "mxs"
    exact ⟨by unfold dueF; split <;> rfl, Ext.refl _⟩
  | some x =>
  refine oIsN rfl ⟨_, rfl, ?_⟩
  first | refine ifN (by simp [keyV]) ?_ | rw [if_neg (by simp [keyV])]
  walk_at "mxs"
  cases r with
  | none =>
    refine oIsN rfl ⟨_, rfl, ?_⟩
    walk_at "mif"
    walk_at "mxs"
    exact ⟨by unfold dueF; split <;> simp [pordS, pordN] <;> rfl, Ext.refl _⟩
  | some y =>
  refine oIsN rfl ⟨_, rfl, ?_⟩
  first | refine ifN (by simp [keyV]) ?_ | rw [if_neg (by simp [keyV])]
  walk_at "mxs"
  first | refine ifN Bool.false_ne_true ?_ | rw [if_neg Bool.false_ne_true]
  walk_at "mxs"
  refine oEqS ⟨_, rfl, ?_⟩
  by_cases h1 : op = "=="
  · subst h1
    first | refine ifP (by decide) ?_ | rw [if_pos (by decide)]
    walk_at "mxs"
    refine oEqS ⟨_, rfl, ?_⟩
    by_cases hxy : x = y
    · first | refine ifP (by simpa using hxy) ?_ | rw [if_pos (by simpa using hxy)]
      walk_at "mxs"
      exact ⟨by subst hxy; unfold dueF; rw [if_pos (.inl rfl), pordS_same]; rfl, Ext.refl _⟩
    · first | refine ifN (by simpa using hxy) ?_ | rw [if_neg (by simpa using hxy)]
      walk_at "mxs"
      obtain ⟨d, hd, h⟩ := pordS_ne hxy
      exact ⟨by unfold dueF; rw [if_pos (.inl rfl), hd]; rcases h with rfl | rfl <;> rfl, Ext.refl _⟩
  first | refine ifN (by simpa using h1) ?_ | rw [if_neg (by simpa using h1)]
  walk_at "mxs"
  refine oEqS ⟨_, rfl, ?_⟩
  by_cases h2 : op = "!="
  · subst h2
    first | refine ifP (by decide) ?_ | rw [if_pos (by decide)]
    walk_at "mxs"
    refine oEqS ⟨_, rfl, ?_⟩
    by_cases hxy : x = y
    · first | refine ifP (by simpa using hxy) ?_ | rw [if_pos (by simpa using hxy)]
      walk_at "mxs"
      exact ⟨by subst hxy; unfold dueF; rw [if_pos (.inr rfl), pordS_same]; rfl, Ext.refl _⟩
    · first | refine ifN (by simpa using hxy) ?_ | rw [if_neg (by simpa using hxy)]
      walk_at "mxs"
      obtain ⟨d, hd, h⟩ := pordS_ne hxy
      exact ⟨by unfold dueF; rw [if_pos (.inr rfl), hd]; rcases h with rfl | rfl <;> rfl, Ext.refl _⟩
  first | refine ifN (by simpa using h2) ?_ | rw [if_neg (by simpa using h2)]
  have hop4 : Ords op := by rcases hop with (h | h) | h; exact absurd h h1; exact absurd h h2; exact h
  have hdue : dueF op row (some x) (some y) = hold op (pordN (pos row x) (pos row y)) := by
    unfold dueF; rw [if_neg (by rintro (h | h); exact h1 h; exact h2 h)]; rfl
  rw [hdue] at hQ
  walk_at "mxs"
  refine oNotInLL (.str (hl x rfl)) hR (fl_strs hok) ⟨_, rfl, ?_⟩
  rw [show decide (keyV (some x) ∈ row.map sv) = decide (x ∈ row) from mem_strs]
  by_cases hx : x ∈ row
  · first | refine ifN (by simp [hx]) ?_ | rw [if_neg (by simp [hx])]
    walk_at "mxs"
    refine oNotInLL (.str (hr y rfl)) hR (fl_strs hok) ⟨_, rfl, ?_⟩
    rw [show decide (keyV (some y) ∈ row.map sv) = decide (y ∈ row) from mem_strs]
    by_cases hy : y ∈ row
    · first | refine ifN (by simp [hy]) ?_ | rw [if_neg (by simp [hy])]
      walk_at "mxs"
      first | refine ifN Bool.false_ne_true ?_ | rw [if_neg Bool.false_ne_true]
      obtain ⟨i, p1, p2, p3⟩ := pos_index hx
      obtain ⟨j, q1, q2, q3⟩ := pos_index hy
      rw [p1, q1] at hQ
      walk_at "mxs"
      refine xMeth mf_index rfl rfl rfl rfl ?_
      walk_at "mxs"
      refine ⟨isList_of hR, ?_⟩
      walk_at "mxs"
      refine bIndex hR (by omega) p2 p3 ?_
      walk_at "mxs"
      refine xMeth mf_index rfl rfl rfl rfl ?_
      walk_at "mxs"
      refine ⟨isList_of hR, ?_⟩
      walk_at "mxs"
      refine bIndex hR (by omega) q2 q3 ?_
      refine oSub (i := (i : Int)) (j := (j : Int)) ?_
      refine stL (by assumption) rfl ?_
      walk_at "mxs"
      refine oEqI (i := (i : Int) - j) (j := 0) ⟨_, rfl, ?_⟩
      by_cases hij : i = j
      · subst hij
        first | refine ifP (by simp) ?_ | rw [if_pos (by simp)]
        rw [ord_eq hop4] at hQ
        walk_at "mxs"
        refine ⟨by decide, fun t ht => oInTT (.str hop4.ok) upd_self (fl_strs (ss := ["<=", ">="]) (by decide +kernel)) ⟨_, rfl, ?_⟩⟩
        rcases hop4 with rfl | rfl | rfl | rfl
        · first | refine ifN (by decide) ?_ | rw [if_neg (by decide)]
          walk_at "mxs"
          exact ⟨by decide, Ext.new ht⟩
        · first | refine ifP (by decide) ?_ | rw [if_pos (by decide)]
          walk_at "mxs"
          exact ⟨by decide, Ext.new ht⟩
        · first | refine ifN (by decide) ?_ | rw [if_neg (by decide)]
          walk_at "mxs"
          exact ⟨by decide, Ext.new ht⟩
        · first | refine ifP (by decide) ?_ | rw [if_pos (by decide)]
          walk_at "mxs"
          exact ⟨by decide, Ext.new ht⟩
      · first | refine ifN (by rw [beq_iff_eq]; omega) ?_ | rw [if_neg (by rw [beq_iff_eq]; omega)]
        rw [ord_lt hop4 (show i + 1 ≠ j + 1 by omega)] at hQ
        walk_at "mxs"
        refine oLtI (i := (i : Int) - j) (j := 0) ?_
        walk_at "mxs"
        refine ⟨by decide, fun t ht => oInTT (.str hop4.ok) upd_self (fl_strs (ss := ["<", "<="]) (by decide +kernel)) ?_⟩
        refine oEqB ⟨_, rfl, ?_⟩
        have e1 : decide ((i : Int) - j < 0) = decide (i + 1 < j + 1) := decide_eq_decide.mpr (by omega)
        have e2 : decide (sv op ∈ [sv "<", sv "<="]) = decide (op = "<" ∨ op = "<=") := decide_eq_decide.mpr (by simp [sv])
        rw [e1, show decide (Value.str op 0 ∈ [Value.str "<" 0, Value.str "<=" 0]) = _ from e2]
        by_cases hq : decide (i + 1 < j + 1) = decide (op = "<" ∨ op = "<=")
        · first | refine ifP (by rw [beq_iff_eq]; exact hq) ?_ | rw [if_pos (by rw [beq_iff_eq]; exact hq)]
          walk_at "mxs"
          exact ⟨by rw [if_pos hq]; rfl, Ext.new ht⟩
        · first | refine ifN (by rw [beq_iff_eq]; exact hq) ?_ | rw [if_neg (by rw [beq_iff_eq]; exact hq)]
          walk_at "mxs"
          exact ⟨by rw [if_neg hq]; rfl, Ext.new ht⟩
    · first | refine ifP (by simp [hy]) ?_ | rw [if_pos (by simp [hy])]
      walk_at "mxs"
      first | refine ifP rfl ?_ | rw [if_pos rfl]
      walk_at "mxs"
      rw [show pos row y = none from pos_none.mpr hy]
      exact ⟨by cases pos row x <;> rfl, Ext.refl _⟩
  · first | refine ifP (by simp [hx]) ?_ | rw [if_pos (by simp [hx])]
    first | refine ifP rfl ?_ | rw [if_pos rfl]
    walk_at "mxs"
    rw [show pos row x = none from pos_none.mpr hx]
    exact ⟨rfl, Ext.refl _⟩
end

-- MF16
theorem facTexts_codes {row : List Str} {ws : List (Option Str)} (hin : ∀ x, some x ∈ ws → x ∈ row) : facTexts row (codesIn row ws) = ws := by
  unfold facTexts codesIn
  rw [List.map_map]
  conv => rhs; rw [← List.map_id ws]
  apply List.map_congr_left
  intro o ho
  cases o with
  | none => rfl
  | some x =>
    obtain ⟨j, p1, p2, _⟩ := pos_index (hin x ho)
    have hj : j < row.length := (List.getElem?_eq_some_iff.mp p2).1
    show (codeIn row.length (pos row x)).bind _ = some x
    rw [p1]
    show ((if 1 ≤ j + 1 ∧ j + 1 ≤ row.length then some (j + 1) else none : Option Nat)).bind _ = _
    first | refine ifP (by omega) ?_ | rw [if_pos (by omega)]
    exact p2
/-- an operand: a factor over a row, or plain texts -/
noncomputable def Opd (H : AH) (v : Addr) (ws : List (Option Str)) (falls : Bool) : Option (List Str) → Prop
  | some row => Fac H v (codesIn row ws) row falls none ∧ (∀ x, some x ∈ ws → x ∈ row)
  | none => PV H v "character" (ws.map keyV) ∧ ws.length ≤ 60
theorem Opd.up {H H' : AH} {v ws falls} {o : Option (List Str)} (h : Opd H v ws falls o) (e : Ext H H') : Opd H' v ws falls o := by
  cases o with
  | none => exact ⟨h.1.up e, h.2⟩
  | some r => exact ⟨h.1.up e, h.2⟩
theorem Opd.len {H : AH} {v ws falls} {o : Option (List Str)} (h : Opd H v ws falls o) : ws.length ≤ 60 := by
  cases o with
  | none => exact h.2
  | some r => obtain ⟨_, _, _, h, _⟩ := h.1; rwa [codesIn_len] at h
/-- the row that a pair of operands goes by -/
noncomputable def rowOf (r1 r2 : Option (List Str)) : List Str := r1.getD (r2.getD [])
/-- what the program's compared items are -/
noncomputable def cmpItems (op : Str) (row : List Str) (l r : List (Option Str)) : List (Option Nat) := (List.range (rlen l.length r.length)).map fun i => dueF op row ((l[i % l.length]?).getD none) ((r[i % r.length]?).getD none)
theorem dueF_eq {op : Str} {row : List Str} {l r : Option Str} (h : Eqs op) : dueF op row l r = hold op (pordS l r) := if_pos h
theorem dueF_ord {op : Str} {row : List Str} {l r : Option Str} (h : Ords op) : dueF op row l r = hold op (pordN (l.bind (pos row)) (r.bind (pos row))) := if_neg h.ne
theorem cmpItems_eq {op : Str} {row : List Str} {l r : List (Option Str)} (h : Eqs op) : cmpL pordS op l r = cmpItems op row l r := by
  unfold cmpL cmpItems
  apply List.map_congr_left
  intro i _
  rw [dueF_eq h]
theorem cmpItems_ord {op : Str} {row : List Str} {l r : List (Option Str)} (h : Ords op) : cmpL pordN op (codesIn row l) (codesIn row r) = cmpItems op row l r := by
  unfold cmpL cmpItems
  rw [codesIn_len, codesIn_len]
  apply List.map_congr_left
  intro i _
  have e : ∀ (l : List (Option Str)) (k : Nat), ((codesIn row l)[k]?).getD none = ((l[k]?).getD none).bind (pos row) := fun l k => by
    unfold codesIn
    rw [List.getElem?_map]
    cases l[k]? <;> rfl
  rw [e, e, dueF_ord h]
/-- two rows that a comparison refuses -/
noncomputable def ApartE (r1 r2 : Option (List Str)) : Prop := ∃ a b, r1 = some a ∧ r2 = some b ∧ ¬ a.Perm b
noncomputable def ApartO (r1 r2 : Option (List Str)) : Prop := ∃ a b, r1 = some a ∧ r2 = some b ∧ a ≠ b
section
variable {Γ : Gl} {H : AH} {v u N : Addr} {ns : List Value} {op : Str} {l r : List (Option Str)} {falls : Bool} {r1 r2 : Option (List Str)}
theorem FS.lift {k k' : Nat} {fa : Addr} {vs : List Value} {K : KP} {X : XP} (h : FS Γ k fa H vs K X) (hk : k ≤ k') : FS Γ k' fa H vs K X :=
  fun A fr g s vals h1 h2 h3 h4 h5 h6 => h A fr g s vals h1 (h2.mono hk) h3 h4 h5 h6
theorem fs_text_vectorO (h : Opd H v l falls r1) : FS Γ 7 588 H [.ref v] (fun r H' => ∃ w, r = .ref w ∧ Ext H H' ∧ PV H' w "character" (l.map keyV)) nX := by
  cases r1 with
  | none => exact (fs_text_vectorC h.1).mono (fun _ _ ⟨e1, e2⟩ => ⟨v, e1, e2 ▸ Ext.refl _, e2 ▸ h.1⟩) fun _ _ z => z
  | some row => exact (fs_text_vector h.1).mono (fun _ _ ⟨w, e1, e2, e3⟩ => ⟨w, e1, e2, by rw [facTexts_codes h.2] at e3; exact e3⟩) fun _ _ z => z
theorem fs_is_orderedO (h : Opd H v l falls r1) : FS Γ 4 487 H [.ref v] (fun r H' => r = .bool (r1.isSome && falls) ∧ Ext H H') nX := by
  cases r1 with
  | none => exact ((fs_is_orderedC h.1.iv).mono (fun _ _ ⟨e1, e2⟩ => ⟨e1, e2 ▸ Ext.refl _⟩) fun _ _ z => z).lift (by decide)
  | some row => exact (fs_is_ordered h.1).mono (fun _ _ z => z) fun _ _ z => z
theorem fs_check_sameO (hu : Opd H u l falls r1) (hv : Opd H v r falls r2) : FS Γ 5 595 H [.ref u, .ref v] (fun r H' => r = .none ∧ Ext H H' ∧ ¬ ApartE r1 r2) (fun m H' => ApartE r1 r2 ∧ m = levMsg ∧ Ext H H') := by
  cases r1 with
  | none => exact (fs_check_sameC1 hu.1).mono (fun _ _ ⟨e1, e2⟩ => ⟨e1, e2 ▸ Ext.refl _, fun ⟨_, _, h, _⟩ => by cases h⟩) fun _ _ z => z.elim
  | some a => cases r2 with
    | none => exact (fs_check_sameC2 hu.1 hv.1).mono (fun _ _ ⟨e1, e2⟩ => ⟨e1, e2, fun ⟨_, _, _, h, _⟩ => by cases h⟩) fun _ _ z => z.elim
    | some b => exact (fs_check_same hu.1 hv.1).mono (fun _ _ ⟨e1, e2, e3⟩ => ⟨e1, e2, fun ⟨_, _, h1, h2, h3⟩ => by cases h1; cases h2; exact h3 e3⟩) fun _ _ ⟨e1, e2, e3⟩ => ⟨⟨a, b, rfl, rfl, e1⟩, e2, e3⟩
theorem fs_compare_orderedO (hop : Ords op) (hu : Opd (drop H N) u l true r1) (hv : Opd (drop H N) v r true r2) (hsome : r1.isSome = true ∨ r2.isSome = true) (hN : H N = some (.list ns)) (hn : ns.length ≤ 20) :
    FS Γ 6 602 H [sv op, .ref u, .ref v, .ref N] (fun x H' => ¬ ApartO r1 r2 ∧ CmpR H N ns (cmpItems op (rowOf r1 r2) l r) (rnote l.length r.length) x H') (fun m H' => ApartO r1 r2 ∧ m = levMsg ∧ Ext H H') := by
  cases r1 with
  | none => cases r2 with
    | none => rcases hsome with h | h <;> cases h
    | some b =>
      refine (fs_compare_ordered3 hu.1 hv.1 hu.2 hN hn).mono (fun x H' z => ⟨fun ⟨_, _, h, _⟩ => (by cases h), ?_⟩) fun _ _ z => z.elim
      rw [cmpItems_ord hop, codesIn_len] at z; exact z
  | some a => cases r2 with
    | none =>
      refine (fs_compare_ordered1 hu.1 hv.1 hv.2 hN hn).mono (fun x H' z => ⟨fun ⟨_, _, _, h, _⟩ => (by cases h), ?_⟩) fun _ _ z => z.elim
      rw [cmpItems_ord hop, codesIn_len] at z; exact z
    | some b =>
      refine (fs_compare_ordered2 hu.1 hv.1 hN hn).mono (fun x H' z => ⟨fun ⟨_, _, h1, h2, h3⟩ => (by cases h1; cases h2; exact h3 z.1), ?_⟩) fun _ _ ⟨e1, e2, e3⟩ => ⟨⟨a, b, rfl, rfl, e1⟩, e2, e3⟩
      obtain ⟨rfl, z⟩ := z
      rw [cmpItems_ord hop, codesIn_len, codesIn_len] at z; exact z
theorem fs_compare_factorE (hop : Eqs op) (hu : Opd (drop H N) u l falls r1) (hv : Opd (drop H N) v r falls r2) (hN : H N = some (.list ns)) (hn : ns.length ≤ 20) :
    FS Γ 8 609 H [sv op, .ref u, .ref v, .ref N] (fun x H' => ¬ ApartE r1 r2 ∧ CmpR H N ns (cmpItems op (rowOf r1 r2) l r) (rnote l.length r.length) x H') (fun m H' => ApartE r1 r2 ∧ m = levMsg ∧ Ext H H') := by
  have hl1 := hu.len
  have hl2 := hv.len
  refine FS.enter (ps := ["op", "u", "v", "notes"]) (dv := []) (ho := rfl) (hok := ⟨rfl, rfl, rfl, by rfl, rfl, rfl, rfl, by decide, by decide, by decide⟩) (hbody := rfl) (hnames := rfl) (binds4 fun _ _ _ _ => rfl) rfl (fun c Q hQ hQn hL => ?_)
  have hs := hL.nm; dsimp only at hs
  walk_at "mxs"
  refine oEqS ⟨_, rfl, ?_⟩
  rcases hop with rfl | rfl
  case' inl => ((first | refine ifP (by decide) ?_ | rw [if_pos (by decide)]); (first | refine ifP rfl ?_ | rw [if_pos rfl]))
  case' inr => ((first | refine ifN (by decide) ?_ | rw [if_neg (by decide)]); walk_at "mxs"; refine oEqS ⟨_, rfl, ?_⟩; (first | refine ifP (by decide) ?_ | rw [if_pos (by decide)]); (first | refine ifP rfl ?_ | rw [if_pos rfl]))
  all_goals
    walk_at "mxs"
    refine oIsN rfl ⟨_, rfl, ?_⟩
    first | refine ifN (by simp) ?_ | rw [if_neg (by simp)]
    walk_at "mxs"
    refine FS.uses (hL.le (by decide)) hL.hd (FS.frame hN (fs_check_sameO hu hv)) ?_ ?_
    rotate_left
    · exact fun m H' ⟨z0, z1, z2, z3⟩ => ⟨z1, z2, undrop z3 hN z0⟩
    first | refine eN2 fun hN1 H1 e1 hna => ?_ | rintro _ H1 ⟨hN1, rfl, e1, hna⟩
    walk_at "mxs"
    refine FS.uses' (hL.le (by decide)) hL.hd (FS.frame0 hN1 (fs_text_vectorO (hu.up e1))) ?_
    first | refine eG3 fun w2 H2 hN2 e2 p2 => ?_ | rintro _ H2 ⟨hN2, w2, rfl, e2, p2⟩
    walk_at "mxs"
    refine FS.uses' (hL.le (by decide)) hL.hd (FS.frame0 hN2 (fs_text_vectorO (hv.up (e1.trans e2)))) ?_
    first | refine eG3 fun w3 H3 hN3 e3 p3 => ?_ | rintro _ H3 ⟨hN3, w3, rfl, e3, p3⟩
    walk_at "mxs"
    refine FS.uses' (hL.le (by decide)) hL.hd (fs_compare_op (.inl rfl) (fun o => by cases o <;> rfl) fs_plain_orderS (p2.up e3) p3 hl1 hl2 hN3 hn) ?_
    rintro r H4 ⟨w4, h1, h2, h3, h4⟩
    exact ⟨hna, w4, h1, h2, by rw [cmpItems_eq (row := rowOf r1 r2) (by first | exact .inl rfl | exact .inr rfl)] at h3; exact h3, ((e1.trans e2).trans e3).trans h4⟩
theorem fs_compare_factorO (hop : Ords op) (hu : Opd (drop H N) u l true r1) (hv : Opd (drop H N) v r true r2) (hsome : r1.isSome = true ∨ r2.isSome = true) (hN : H N = some (.list ns)) (hn : ns.length ≤ 20) :
    FS Γ 8 609 H [sv op, .ref u, .ref v, .ref N] (fun x H' => ¬ ApartO r1 r2 ∧ CmpR H N ns (cmpItems op (rowOf r1 r2) l r) (rnote l.length r.length) x H') (fun m H' => ApartO r1 r2 ∧ m = levMsg ∧ Ext H H') := by
  have n1 : op ≠ "==" := fun h => hop.ne (.inl h)
  have n2 : op ≠ "!=" := fun h => hop.ne (.inr h)
  refine FS.enter (ps := ["op", "u", "v", "notes"]) (dv := []) (ho := rfl) (hok := ⟨rfl, rfl, rfl, by rfl, rfl, rfl, rfl, by decide, by decide, by decide⟩) (hbody := rfl) (hnames := rfl) (binds4 fun _ _ _ _ => rfl) rfl (fun c Q hQ hQn hL => ?_)
  have hs := hL.nm; dsimp only at hs
  walk_at "mxs"
  refine oEqS ⟨_, rfl, ?_⟩
  first | refine ifN (by simpa using n1) ?_ | rw [if_neg (by simpa using n1)]
  walk_at "mxs"
  refine oEqS ⟨_, rfl, ?_⟩
  first | refine ifN (by simpa using n2) ?_ | rw [if_neg (by simpa using n2)]
  walk_at "mxs"
  first | refine ifN Bool.false_ne_true ?_ | rw [if_neg Bool.false_ne_true]
  refine sNil ?_
  refine sCons (sCutR (fun ρ ρ' H' => ρ' = upd ρ "ordered" (.bool true) ∧ H' N = some (.list ns) ∧ Ext (drop H N) (drop H' N)) ?_ ?_)
  · walk_at "mxs"
    refine FS.uses' (hL.le (by decide)) hL.hd (FS.frame0 hN (fs_is_orderedO hu)) ?_
    first | refine eN1 fun hN1 H1 e1 => ?_ | refine eG1 fun H1 hN1 e1 => ?_ | rintro _ H1 ⟨hN1, rfl, e1⟩
    walk_at "mo"
    cases h1 : r1 with
    | some a =>
      walk_at "mif"
      refine stL (by assumption) rfl ?_
      exact ⟨rfl, rfl, hN1, e1⟩
    | none =>
      rw [h1] at hsome
      walk_at "mif"
      walk_at "mxs"
      refine oIsNotN rfl ?_
      walk_at "mo"
      first | refine ifP (by rfl) ?_ | rw [if_pos (by rfl)]
      walk_at "mxs"
      refine FS.uses' (hL.le (by decide)) hL.hd (FS.frame0 hN1 (fs_is_orderedO (hv.up e1))) ?_
      first | refine eN1 fun hN2 H2 e2 => ?_ | refine eG1 fun H2 hN2 e2 => ?_ | rintro _ H2 ⟨hN2, rfl, e2⟩
      have hr2 : r2.isSome = true := by rcases hsome with h | h; cases h; exact h
      rw [hr2]
      refine stL (by assumption) rfl ?_
      exact ⟨rfl, rfl, hN2, e1.trans e2⟩
  rintro _ H1 ⟨rfl, hN1, e1⟩
  have hopm : decide (sv op ∈ [sv "<", sv "<=", sv ">", sv ">="]) = true := by rcases hop with rfl | rfl | rfl | rfl <;> decide
  walk_at "mxs"
  walk_at "mo"
  walk_at "mif"
  walk_at "mxs"
  refine oIsNotN rfl ⟨_, rfl, ?_⟩
  first | refine ifP (by rfl) ?_ | rw [if_pos (by rfl)]
  walk_at "mxs"
  refine ⟨by decide, fun t ht => oInTT (.str hop.ok) upd_self (fl_strs (ss := ["<", "<=", ">", ">="]) (by decide +kernel)) ⟨_, rfl, ?_⟩⟩
  first | refine ifP hopm ?_ | rw [if_pos hopm]
  walk_at "mxs"
  first | refine ifP rfl ?_ | rw [if_pos rfl]
  have e2 := e1.trans (drop_mono (Ext.new (o := .tup ([("<" : Str), "<=", ">", ">="].map sv)) ht))
  have hN2 := upd_of (o := AO.tup ([("<" : Str), "<=", ">", ">="].map sv)) ht hN1
  walk_at "mxs"
  refine FS.uses (hL.le (by decide)) hL.hd (fs_compare_orderedO hop (hu.up e2) (hv.up e2) hsome hN2 hn) ?_ ?_
  · rintro r H' ⟨z1, w, z2, z3, z4, z5⟩
    exact ⟨z1, w, z2, z3, z4, e2.trans z5⟩
  · rintro m H' ⟨z1, z2, z3⟩
    exact ⟨z1, z2, undrop (e2.trans (drop_mono z3)) hN (z3 _ _ hN2)⟩
theorem Opd.iv (h : Opd H v l falls r1) : ∃ kind xs es, IV H v kind xs es ∧ Kd kind ∧ xs.length = l.length := by
  cases r1 with
  | none => exact ⟨_, _, _, h.1.iv, .inr (.inl rfl), List.length_map ..⟩
  | some a => obtain ⟨es, h1, _⟩ := h.1; exact ⟨_, _, _, h1, .inl rfl, by rw [List.length_map, codesIn_len]⟩
noncomputable def whatOf (falls : Bool) : Str := if falls then "ordered factors" else "factors"
theorem fs_compare_factorM (hop : ¬ Eqs op) (hno : ¬ (falls = true ∧ Ords op)) (hok : PyData.strOk op = true) (hol : op.length ≤ 5) (hu : Opd (drop H N) u l falls r1) (hv : Opd (drop H N) v r falls r2) (hsome : r1.isSome = true ∨ r2.isSome = true) (hN : H N = some (.list ns)) (hn : ns.length ≤ 20) :
    FS Γ 8 609 H [sv op, .ref u, .ref v, .ref N] (CmpR H N ns (List.replicate (max l.length r.length) none) [msgOf op (whatOf falls)]) nX := by
  have n1 : op ≠ "==" := fun h => hop (.inl h)
  have n2 : op ≠ "!=" := fun h => hop (.inr h)
  have hl1 := hu.len
  have hl2 := hv.len
  refine FS.enter (ps := ["op", "u", "v", "notes"]) (dv := []) (ho := rfl) (hok := ⟨rfl, rfl, rfl, by rfl, rfl, rfl, rfl, by decide, by decide, by decide⟩) (hbody := rfl) (hnames := rfl) (binds4 fun _ _ _ _ => rfl) rfl (fun c Q hQ hQn hL => ?_)
  have hs := hL.nm; dsimp only at hs
  walk_at "mxs"
  refine oEqS ⟨_, rfl, ?_⟩
  first | refine ifN (by simpa using n1) ?_ | rw [if_neg (by simpa using n1)]
  walk_at "mxs"
  refine oEqS ⟨_, rfl, ?_⟩
  first | refine ifN (by simpa using n2) ?_ | rw [if_neg (by simpa using n2)]
  walk_at "mxs"
  first | refine ifN Bool.false_ne_true ?_ | rw [if_neg Bool.false_ne_true]
  refine sNil ?_
  refine sCons (sCutR (fun ρ ρ' H' => ρ' = upd ρ "ordered" (.bool falls) ∧ H' N = some (.list ns) ∧ Ext (drop H N) (drop H' N)) ?_ ?_)
  · walk_at "mxs"
    refine FS.uses' (hL.le (by decide)) hL.hd (FS.frame0 hN (fs_is_orderedO hu)) ?_
    first | refine eN1 fun hN1 H1 e1 => ?_ | refine eG1 fun H1 hN1 e1 => ?_ | rintro _ H1 ⟨hN1, rfl, e1⟩
    walk_at "mo"
    cases h1 : (r1.isSome && falls) with
    | true =>
      walk_at "mif"
      refine stL (by assumption) rfl ?_
      have : falls = true := by rw [Bool.and_eq_true] at h1; exact h1.2
      subst this
      exact ⟨rfl, rfl, hN1, e1⟩
    | false =>
      walk_at "mif"
      walk_at "mxs"
      refine oIsNotN rfl ?_
      walk_at "mo"
      first | refine ifP (by rfl) ?_ | rw [if_pos (by rfl)]
      walk_at "mxs"
      refine FS.uses' (hL.le (by decide)) hL.hd (FS.frame0 hN1 (fs_is_orderedO (hv.up e1))) ?_
      first | refine eN1 fun hN2 H2 e2 => ?_ | refine eG1 fun H2 hN2 e2 => ?_ | rintro _ H2 ⟨hN2, rfl, e2⟩
      have hr2 : (r2.isSome && falls) = falls := by
        rcases hsome with h | h
        · rw [h] at h1; simp at h1; subst h1; simp
        · rw [h]; simp
      rw [hr2]
      refine stL (by assumption) rfl ?_
      exact ⟨rfl, rfl, hN2, e1.trans e2⟩
  rintro _ H1 ⟨rfl, hN1, e1⟩
  obtain ⟨k1, x1, s1, hu1, hk1, hx1⟩ := (hu.up e1).iv
  obtain ⟨k2, x2, s2, hv1, hk2, hx2⟩ := (hv.up e1).iv
  walk_at "mxs"
  walk_at "mo"
  cases falls with
  | false =>
    walk_at "mif"
    walk_at "mxs"
    walk_at "mif"
    walk_at "mxs"
    walk_at "mo"
    walk_at "mif"
    walk_at "mxs"
    refine FS.uses' (hL.le (by decide)) hL.hd (fs_meaningless2 (what := "factors") hu1 hk1 hv1 hk2 hN1 (by omega) (by omega) hn hol (by decide)) ?_
    first | refine eN3 fun w H2 z1 z2 z3 => ?_ | rintro _ H2 ⟨w, rfl, z1, z2, z3⟩
    exact ⟨w, rfl, z1, by rw [List.map_replicate, ← hx1, ← hx2]; exact z2, e1.trans z3⟩
  | true =>
    have hopn : decide (sv op ∈ [sv "<", sv "<=", sv ">", sv ">="]) = false := by
      rw [decide_eq_false_iff_not]
      intro h
      exact hno ⟨rfl, by simpa [sv, Ords] using h⟩
    walk_at "mif"
    walk_at "mxs"
    refine oIsNotN rfl ⟨_, rfl, ?_⟩
    first | refine ifP (by rfl) ?_ | rw [if_pos (by rfl)]
    walk_at "mxs"
    refine ⟨by decide, fun t ht => oInTT (.str hok) upd_self (fl_strs (ss := ["<", "<=", ">", ">="]) (by decide +kernel)) ⟨_, rfl, ?_⟩⟩
    rw [hopn]
    walk_at "mif"
    have e2 := e1.trans (drop_mono (Ext.new (o := .tup ([("<" : Str), "<=", ">", ">="].map sv)) ht))
    have hN2 := upd_of (o := AO.tup ([("<" : Str), "<=", ">", ">="].map sv)) ht hN1
    obtain ⟨k1, x1, s1, hu1, hk1, hx1⟩ := (hu.up e2).iv
    obtain ⟨k2, x2, s2, hv1, hk2, hx2⟩ := (hv.up e2).iv
    walk_at "mxs"
    walk_at "mo"
    walk_at "mif"
    walk_at "mxs"
    refine FS.uses' (hL.le (by decide)) hL.hd (fs_meaningless2 (what := "ordered factors") hu1 hk1 hv1 hk2 hN2 (by omega) (by omega) hn hol (by decide)) ?_
    first | refine eN3 fun w H2 z1 z2 z3 => ?_ | rintro _ H2 ⟨w, rfl, z1, z2, z3⟩
    exact ⟨w, rfl, z1, by rw [List.map_replicate, ← hx1, ← hx2]; exact z2, e2.trans z3⟩
theorem fs_compare_factorM1 (hop : ¬ Eqs op) (hol : op.length ≤ 5) (hu : Opd (drop H N) u l falls r1) (hsome : r1.isSome = true) (hN : H N = some (.list ns)) (hn : ns.length ≤ 20) :
    FS Γ 8 609 H [sv op, .ref u, .none, .ref N] (CmpR H N ns (List.replicate l.length none) [msgOf op (whatOf falls)]) nX := by
  have n1 : op ≠ "==" := fun h => hop (.inl h)
  have n2 : op ≠ "!=" := fun h => hop (.inr h)
  have hl1 := hu.len
  refine FS.enter (ps := ["op", "u", "v", "notes"]) (dv := []) (ho := rfl) (hok := ⟨rfl, rfl, rfl, by rfl, rfl, rfl, rfl, by decide, by decide, by decide⟩) (hbody := rfl) (hnames := rfl) (binds4 fun _ _ _ _ => rfl) rfl (fun c Q hQ hQn hL => ?_)
  have hs := hL.nm; dsimp only at hs
  walk_at "mxs"
  refine oEqS ⟨_, rfl, ?_⟩
  first | refine ifN (by simpa using n1) ?_ | rw [if_neg (by simpa using n1)]
  walk_at "mxs"
  refine oEqS ⟨_, rfl, ?_⟩
  first | refine ifN (by simpa using n2) ?_ | rw [if_neg (by simpa using n2)]
  walk_at "mxs"
  first | refine ifN Bool.false_ne_true ?_ | rw [if_neg Bool.false_ne_true]
  refine sNil ?_
  refine sCons (sCutR (fun ρ ρ' H' => ρ' = upd ρ "ordered" (.bool falls) ∧ H' N = some (.list ns) ∧ Ext (drop H N) (drop H' N)) ?_ ?_)
  · walk_at "mxs"
    refine FS.uses' (hL.le (by decide)) hL.hd (FS.frame0 hN (fs_is_orderedO hu)) ?_
    first | refine eN1 fun hN1 H1 e1 => ?_ | refine eG1 fun H1 hN1 e1 => ?_ | rintro _ H1 ⟨hN1, rfl, e1⟩
    walk_at "mo"
    rw [hsome]
    cases falls with
    | true =>
      walk_at "mif"
      refine stL (by assumption) rfl ?_
      exact ⟨rfl, rfl, hN1, e1⟩
    | false =>
      walk_at "mif"
      walk_at "mxs"
      refine oIsNotN rfl ?_
      walk_at "mo"
      first | refine ifN (by decide) ?_ | rw [if_neg (by decide)]
      refine stL (by assumption) rfl ?_
      exact ⟨rfl, rfl, hN1, e1⟩
  rintro _ H1 ⟨rfl, hN1, e1⟩
  obtain ⟨k1, x1, s1, hu1, hk1, hx1⟩ := (hu.up e1).iv
  walk_at "mxs"
  walk_at "mo"
  cases falls with
  | false =>
    walk_at "mif"
    walk_at "mxs"
    walk_at "mif"
    walk_at "mxs"
    walk_at "mo"
    walk_at "mif"
    walk_at "mxs"
    refine FS.uses' (hL.le (by decide)) hL.hd (fs_meaningless1 (what := "factors") hu1 hk1 hN1 (by omega) hn hol (by decide)) ?_
    first | refine eN3 fun w H2 z1 z2 z3 => ?_ | rintro _ H2 ⟨w, rfl, z1, z2, z3⟩
    exact ⟨w, rfl, z1, by rw [List.map_replicate, ← hx1]; exact z2, e1.trans z3⟩
  | true =>
    walk_at "mif"
    walk_at "mxs"
    refine oIsNotN rfl ⟨_, rfl, ?_⟩
    walk_at "mif"
    walk_at "mxs"
    walk_at "mif"
    walk_at "mxs"
    walk_at "mo"
    walk_at "mif"
    walk_at "mxs"
    refine FS.uses' (hL.le (by decide)) hL.hd (fs_meaningless1 (what := "ordered factors") hu1 hk1 hN1 (by omega) hn hol (by decide)) ?_
    first | refine eN3 fun w H2 z1 z2 z3 => ?_ | rintro _ H2 ⟨w, rfl, z1, z2, z3⟩
    exact ⟨w, rfl, z1, by rw [List.map_replicate, ← hx1]; exact z2, e1.trans z3⟩
end

-- MH1
/-- what _law_compared gives back -/
noncomputable def CmpdR (H : AH) (A : Prop) (items : List (Option Nat)) (note : List Str) : KP := fun r H' => ∃ t N told fault nts, r = .ref t ∧ Ext H H' ∧ H' t = some (.tup [told, sv fault, .ref N]) ∧ H' N = some (.list (nts.map sv)) ∧
  ((A ∧ told = .none ∧ fault = levMsg) ∨ (¬ A ∧ nts = note ∧ ∃ w, told = .ref w ∧ PV H' w "logical" (items.map ov)))
section
variable {Γ : Gl} {H : AH} {v u N : Addr} {ns : List Value} {op : Str} {l r : List (Option Str)} {falls : Bool} {r1 r2 : Option (List Str)}
theorem fs_law_compared {A : Prop} {items : List (Option Nat)} {note : List Str} {vv : Value}
    (hc : ∀ H1 N, Ext H (drop H1 N) → H1 N = some (.list []) → FS Γ 8 609 H1 [sv op, .ref u, vv, .ref N] (fun x H' => ¬ A ∧ CmpR H1 N [] items note x H') (fun m H' => A ∧ m = levMsg ∧ Ext H1 H')) :
    FS Γ 9 699 H [sv op, .ref u, vv] (CmpdR H A items note) nX := by
  refine FS.enter (ps := ["op", "u", "v"]) (dv := []) (ho := rfl) (hok := ⟨rfl, rfl, rfl, by rfl, rfl, rfl, rfl, by decide, by decide, by decide⟩) (hbody := rfl) (hnames := rfl) (binds3 fun _ _ _ => rfl) rfl (fun c Q hQ hQn hL => ?_)
  have hs := hL.nm; dsimp only at hs
  walk_at "mxs"
  refine ⟨by simp, fun N hN => ?_⟩
  refine stL (by assumption) rfl ?_
  have e1 := Ext.new (o := .list []) hN
  refine sCons (sTry hs rfl rfl hL.fr hL.frame (XB := fun m ρ' H' => ρ' = upd (fun x => ([("op" : Str), "u", "v"].zip ([sv op, .ref u, vv] ++ ([] : List Value).map er)).lookup x) "notes" (.ref N) ∧ A ∧ m = levMsg ∧ Ext (upd H N (.list [])) H') ?_ ?_)
  · walk_at "mxs"
    refine FS.uses (hL.le (by decide)) hL.hd (hc _ N (drop_of e1 hN) upd_self) ?_ ?_
    · rintro _ H2 ⟨hA, w, rfl, h1, h2, h3⟩
      walk_at "mxs"
      refine ⟨by simp, fun t ht => ?_⟩
      have e2 := (drop_of e1 hN).trans h3
      have e3 := Ext.new (o := .tup [Value.ref w, sv "", .ref N]) ht
      exact ⟨t, N, _, "", note, rfl, e2.trans e3, upd_self, upd_of ht h1, .inr ⟨hA, rfl, w, rfl, h2.up e3⟩⟩
    · rintro m H2 ⟨hA, h1, h2⟩
      exact ⟨rfl, hA, h1, h2⟩
  · rintro c' msg _ H1 H2 x ⟨rfl, hA, rfl, e2⟩ hs hk hh hE e3
    walk_at "mxs"
    refine gMessage hE ?_
    walk_at "mxs"
    refine ⟨by simp, fun t ht => ?_⟩
    have e4 := Ext.new (o := .tup [Value.none, sv levMsg, .ref N]) ht
    exact ⟨t, N, _, levMsg, [], rfl, ((e1.trans e2).trans e3).trans e4, upd_self, upd_of ht (e3 _ _ (e2 _ _ upd_self)), .inl ⟨hA, rfl, rfl⟩⟩
theorem fs_law_comparedE (hop : Eqs op) (hu : Opd H u l falls r1) (hv : Opd H v r falls r2) : FS Γ 9 699 H [sv op, .ref u, .ref v] (CmpdR H (ApartE r1 r2) (cmpItems op (rowOf r1 r2) l r) (rnote l.length r.length)) nX :=
  fs_law_compared fun H1 N e hN => fs_compare_factorE hop (hu.up e) (hv.up e) hN (by simp)
theorem fs_law_comparedO (hop : Ords op) (hu : Opd H u l true r1) (hv : Opd H v r true r2) (hsome : r1.isSome = true ∨ r2.isSome = true) : FS Γ 9 699 H [sv op, .ref u, .ref v] (CmpdR H (ApartO r1 r2) (cmpItems op (rowOf r1 r2) l r) (rnote l.length r.length)) nX :=
  fs_law_compared fun H1 N e hN => fs_compare_factorO hop (hu.up e) (hv.up e) hsome hN (by simp)
theorem fs_law_comparedM (hop : ¬ Eqs op) (hno : ¬ (falls = true ∧ Ords op)) (hok : PyData.strOk op = true) (hol : op.length ≤ 5) (hu : Opd H u l falls r1) (hv : Opd H v r falls r2) (hsome : r1.isSome = true ∨ r2.isSome = true) : FS Γ 9 699 H [sv op, .ref u, .ref v] (CmpdR H False (List.replicate (max l.length r.length) none) [msgOf op (whatOf falls)]) nX :=
  fs_law_compared fun H1 N e hN => (fs_compare_factorM hop hno hok hol (hu.up e) (hv.up e) hsome hN (by simp)).mono (fun _ _ z => ⟨fun h => h, z⟩) fun _ _ z => z.elim
theorem fs_law_comparedM1 (hop : ¬ Eqs op) (hol : op.length ≤ 5) (hu : Opd H u l falls r1) (hsome : r1.isSome = true) : FS Γ 9 699 H [sv op, .ref u, .none] (CmpdR H False (List.replicate l.length none) [msgOf op (whatOf falls)]) nX :=
  fs_law_compared fun H1 N e hN => (fs_compare_factorM1 hop hol (hu.up e) hsome hN (by simp)).mono (fun _ _ z => ⟨fun h => h, z⟩) fun _ _ z => z.elim
end

-- MH2
/-- a row or None, as a value -/
noncomputable def RowV (H : AH) (v : Value) : Option (List Str) → Prop
  | none => v = .none
  | some row => ∃ a, v = .ref a ∧ H a = some (.list (row.map sv)) ∧ row.length < 60 ∧ ∀ x ∈ row, PyData.strOk x = true
theorem RowV.up {H H' : AH} {v : Value} {o : Option (List Str)} (h : RowV H v o) (e : Ext H H') : RowV H' v o := by
  cases o with
  | none => exact h
  | some row => obtain ⟨a, h1, h2, h3⟩ := h; exact ⟨a, h1, e _ _ h2, h3⟩
theorem RowV.er {H : AH} {v : Value} {o : Option (List Str)} (h : RowV H v o) : er v = v := by
  cases o with
  | none => rw [show v = .none from h]; rfl
  | some row => obtain ⟨a, h1, _⟩ := h; rw [h1]; rfl
noncomputable def rowD : Option (List Str) → PyData
  | none => .none
  | some row => .list ((row.map sv).map dat)
theorem RowV.dt {H : AH} {v : Value} {o : Option (List Str)} (h : RowV H v o) : Dt H 1 v (rowD o) := by
  cases o with
  | none => rw [show v = .none from h]; exact .none
  | some row => obtain ⟨a, rfl, h2, _, h3⟩ := h; exact dtL h2 (fl_strs h3)
noncomputable def OpM (op : Str) : Prop := Ords op ∨ op = "+" ∨ op = "-"
theorem OpM.ok {op : Str} (h : OpM op) : PyData.strOk op = true := by
  rcases h with h | rfl | rfl
  · exact h.ok
  · decide +kernel
  · decide +kernel
theorem OpM.ne {op : Str} (h : OpM op) : ¬ Eqs op := by
  rcases h with h | rfl | rfl
  · exact h.ne
  · rintro (h | h) <;> revert h <;> decide
  · rintro (h | h) <;> revert h <;> decide
theorem OpM.len {op : Str} (h : OpM op) : op.length ≤ 5 := by
  rcases h with (rfl | rfl | rfl | rfl) | rfl | rfl <;> decide
theorem OpM.has {op : Str} (h : OpM op) (falls : Bool) : Txt.contains (msgOf op (whatOf falls)) op = true := by
  rcases h with (rfl | rfl | rfl | rfl) | rfl | rfl <;> cases falls <;> decide +kernel
noncomputable def endOf (op : Str) (falls : Bool) : Str := if falls then "not meaningful for ordered factors" else ("‘" ++ op) ++ "’ not meaningful for factors"
theorem OpM.ends {op : Str} (h : OpM op) (falls : Bool) : Txt.endswith (msgOf op (whatOf falls)) (endOf op falls) = true := by
  rcases h with (rfl | rfl | rfl | rfl) | rfl | rfl <;> cases falls <;> decide +kernel
section
variable {Γ : Gl} {H : AH} {L R N t1 t2 w : Addr} {op : Str} {l r : List (Option Str)} {falls : Bool} {r1 r2 : Option (List Str)} {fault rows : Value}
theorem tusNil {c : Fm} {ρ : Loc} {K : Loc → AH → Prop} {X : XS} (h : K ρ H) : TUs Γ c [] [] ρ H K X := h
theorem TT.cut {c : Fm} {ρ : Loc} {e : Expr} {K K' : Bool → AH → Prop} {X : XP} (h : TT Γ c ρ H e K X) (hK : ∀ q H', K q H' → K' q H') : TT Γ c ρ H e K' X := TA.mono h hK fun _ _ z => z
theorem TX.cut {c : Fm} {ρ : Loc} {e : Expr} {K K' : KP} {X : XP} (h : TX Γ c ρ H e K nX) (hK : ∀ q H', K q H' → K' q H') : TX Γ c ρ H e K' X := TX.mono h hK fun _ _ z => z.elim
theorem fs_law_rightM (hop : OpM op) (hno : ¬ (falls = true ∧ Ords op)) (ht : H t1 = some (.tup [.ref L, .ref R])) (hl : H L = some (.list (l.map keyV))) (hr : H R = some (.list (r.map keyV))) (hz1 : l.length ≤ 60) (hz2 : r.length ≤ 60)
    (hT : PV H w "logical" ((List.replicate (max l.length r.length) none).map ov)) (hN : H N = some (.list ([msgOf op (whatOf falls)].map sv))) :
    FS Γ 2 704 H [sv op, .ref w, fault, .ref N, .ref t1, rows, .bool falls] (fun v H' => v = .bool true ∧ Ext H H') nX := by
  refine FS.enter (ps := ["op", "told", "fault", "notes", "sides", "rows", "falls"]) (dv := []) (ho := rfl) (hok := ⟨rfl, rfl, rfl, by rfl, rfl, rfl, rfl, by decide, by decide, by decide⟩) (hbody := rfl) (hnames := rfl) (binds7 fun _ _ _ _ _ _ _ => rfl) rfl (fun c Q hQ hQn hL => ?_)
  have hs := hL.nm; dsimp only at hs
  refine sCons (sAsgT ?_ hL.hd rfl rfl rfl)
  walk_at "mxs"
  refine ⟨t1, _, rfl, ht, rfl, ?_⟩
  refine stC (by assumption) rfl (hL.cell _ rfl) ?_
  refine stC (by assumption) rfl (hL.cell _ rfl) ?_
  refine tusNil ?_
  walk_at "mxs"
  refine bLenL hl (by rw [List.length_map]; omega) ?_
  walk_at "mxs"
  refine bLenL hr (by rw [List.length_map]; omega) ?_
  walk_at "mxs"
  refine bMax hL.hd (fun w hw => ?_)
  rw [maxI, List.length_map, List.length_map] at hw
  refine uLocE (by assumption) rfl hw ?_
  walk_at "mxs"
  refine ⟨by decide, fun b1 hb1 => oInTT (.str hop.ok) upd_self (fl_strs (ss := ["==", "!="]) (by decide +kernel)) fun w hw => ?_⟩
  have heq : decide (sv op ∈ [sv "==", sv "!="]) = false := by
    rw [decide_eq_false_iff_not]
    intro h
    exact hop.ne (by simpa [sv, Eqs] using h)
  rw [show decide (Value.str op 0 ∈ [Value.str "==" 0, Value.str "!=" 0]) = false from heq] at hw
  refine uLocE (by assumption) rfl hw ?_
  have e1 := Ext.new (o := .tup ([("==" : Str), "!="].map sv)) hb1
  refine sCons (sIf (TT.cut (K := fun q H' => q = true ∧ Ext H H') ?_ ?_))
  · walk_at "mxs"
    walk_at "mo"
    walk_at "mif"
    walk_at "mxs"
    walk_at "mo"
    cases falls with
    | false =>
      walk_at "mif"
      walk_at "mxs"
      walk_at "mif"
      walk_at "mxs"
      exact ⟨rfl, e1⟩
    | true =>
      have hopn : decide (sv op ∈ [sv "<", sv "<=", sv ">", sv ">="]) = false := by
        rw [decide_eq_false_iff_not]
        intro h
        exact hno ⟨rfl, by simpa [sv, Ords] using h⟩
      walk_at "mif"
      walk_at "mxs"
      refine ⟨by decide, fun b2 hb2 => oInTT (.str hop.ok) upd_self (fl_strs (ss := ["<", "<=", ">", ">="]) (by decide +kernel)) ⟨_, rfl, ?_⟩⟩
      rw [hopn]
      walk_at "mif"
      walk_at "mxs"
      walk_at "mif"
      walk_at "mxs"
      exact ⟨rfl, e1.trans (Ext.new hb2)⟩
  first | refine eRE fun H2 e2 => ?_ | rintro _ H2 ⟨rfl, e2⟩
  first | refine ifP rfl ?_ | rw [if_pos rfl]
  obtain ⟨it, hw1, hw2⟩ := hT
  walk_at "mxs"
  refine oIsN rfl ⟨_, rfl, ?_⟩
  first | refine ifN (by simp) ?_ | rw [if_neg (by simp)]
  walk_at "mxs"
  refine gKind (hw1.up e2) ?_
  walk_at "mxs"
  refine oNeS ⟨_, rfl, ?_⟩
  first | refine ifN (by decide) ?_ | rw [if_neg (by decide)]
  walk_at "mxs"
  refine gItems (hw1.up e2) rfl ?_
  walk_at "mxs"
  refine ⟨by simp, fun b3 hb3 => ?_⟩
  walk_at "mxs"
  refine oMulL upd_self (by simp; omega) (by omega) fun b4 hb4 => ?_
  rw [flat_rep]
  have e4 := e2.trans ((Ext.new (o := .list [Value.none]) hb3).trans (Ext.new (o := .list (List.replicate (max l.length r.length) Value.none)) hb4))
  refine oNeLL (e4 _ _ hw2) upd_self (fl_ov _) ?_ ⟨_, rfl, ?_⟩
  · intro x hx
    rw [List.eq_of_mem_replicate hx]; exact .none
  first | refine ifN (by rw [List.map_replicate]; simp [ov]) ?_ | rw [if_neg (by rw [List.map_replicate]; simp [ov])]
  walk_at "mxs"
  refine gAttrs (hw1.up e4) rfl ?_
  walk_at "mxs"
  refine oIsNotN rfl ⟨_, rfl, ?_⟩
  walk_at "mif"
  walk_at "mxs"
  walk_at "mif"
  refine sNil ?_
  refine sCons (sAsg (TX.cut (K := fun v H' => v = sv (endOf op falls) ∧ Ext H H') ?_ ?_))
  · walk_at "mxs"
    walk_at "mo"
    cases falls with
    | true =>
      walk_at "mif"
      walk_at "mxs"
      exact ⟨rfl, e4⟩
    | false =>
      walk_at "mif"
      walk_at "mxs"
      refine oAddS (by show 1 + _ ≤ _; have := hop.len; omega) ?_
      walk_at "mxs"
      refine oAddS (by rw [Str.length_append]; show (1 + _) + _ ≤ _; have := hop.len; have : (("’ not meaningful for factors" : Str)).length = 28 := by decide +kernel
                       omega) ?_
      exact ⟨rfl, e4⟩
  rintro _ H5 ⟨rfl, e5⟩ w' hw'
  refine uLoc (by assumption) rfl ?_
  rw [hw']
  have hN5 : H5 N = some (.list [sv (msgOf op (whatOf falls))]) := e5 _ _ hN
  walk_at "mxs"
  refine bLenL hN5 (by simp) ?_
  walk_at "mxs"
  walk_at "mo"
  walk_at "mo"
  first | refine ifP (by rfl) ?_ | rw [if_pos (by rfl)]
  walk_at "mxs"
  refine .list (n := 0) hN5 rfl (by decide) ?_
  refine oInS ?_
  walk_at "mo"
  rw [hop.has]
  first | refine ifP rfl ?_ | rw [if_pos rfl]
  walk_at "mxs"
  refine xMeth mf_endswith rfl rfl rfl rfl ?_
  walk_at "mxs"
  refine .list (n := 0) hN5 rfl (by decide) ⟨isStr_of', ?_⟩
  walk_at "mxs"
  refine bEnds ?_
  rw [hop.ends]
  exact ⟨rfl, e5⟩
end

-- MH3
/-- locals by a list -/
noncomputable def locs (ps : List (Str × Value)) : Loc := fun x => ps.lookup x
theorem Sub.nil {ρ : Loc} : Sub (locs []) ρ := fun _ _ h => by cases h
theorem Sub.cons {ρ : Loc} {x : Str} {v : Value} {ps : List (Str × Value)} (h : ρ x = some v) (t : Sub (locs ps) ρ) : Sub (locs ((x, v) :: ps)) ρ := fun y u e => by
  unfold locs at e
  rw [List.lookup_cons] at e
  cases q : y == x with
  | true => rw [q] at e; cases e; rw [beq_iff_eq] at q; subst q; exact h
  | false => rw [q] at e; exact t y u e
theorem sCut2 {Γ : Gl} {c : Fm} {ρ : Loc} {H : AH} {X : XS} {K : KS} {st : Stmt} (P : Loc → AH → Prop) (Q : Value → AH → Prop) (h : T1 Γ c ρ H st (fun f ρ' H' => (f = .next ∧ P ρ' H') ∨ ∃ v, f = .ret v ∧ Q v H') X) (k : ∀ ρ' H', P ρ' H' → K .next ρ' H') (k2 : ∀ v ρ' H', Q v H' → K (.ret v) ρ' H') : T1 Γ c ρ H st K X :=
  TS.mono h (fun f ρ' H' z => by
    rcases z with ⟨rfl, p⟩ | ⟨v, rfl, q⟩
    · exact k _ _ p
    · exact k2 _ _ _ q) fun _ _ _ z => z
theorem uneven_eq {n m : Nat} (hn : 0 < n) (hm : 0 < m) : decide (((max n m % n : Nat) : Int) + ((max n m % m : Nat) : Int) > 0) = decide (rnote n m ≠ []) := by
  rw [decide_eq_decide]
  unfold rnote
  by_cases h : n ≤ m
  · rw [Nat.max_eq_right h, Nat.min_eq_left h, Nat.mod_self]
    by_cases q : m % n = 0
    · rw [if_neg (by omega)]; simp [q]
    · rw [if_pos ⟨hn, hm, q⟩]; simp; omega
  · rw [Nat.max_eq_left (by omega), Nat.min_eq_right (by omega), Nat.mod_self]
    by_cases q : n % m = 0
    · rw [if_neg (by omega)]; simp [q]
    · rw [if_pos ⟨hn, hm, q⟩]; simp; omega
section
variable {Γ : Gl} {H : AH} {L R N t1 t2 w : Addr} {op : Str} {l r : List (Option Str)} {falls : Bool} {r1 r2 : Option (List Str)} {fault : Str} {told v1 v2 : Value} {nts : List Str}
theorem fs_law_right (hop : Eqs op ∨ (falls = true ∧ Ords op)) (hsome : r1.isSome = true ∨ r2.isSome = true) (ht : H t1 = some (.tup [.ref L, .ref R])) (hl : H L = some (.list (l.map keyV))) (hr : H R = some (.list (r.map keyV))) (hz1 : l.length ≤ 60) (hz2 : r.length ≤ 60)
    (hok1 : ∀ x, some x ∈ l → PyData.strOk x = true) (hok2 : ∀ x, some x ∈ r → PyData.strOk x = true) (ht2 : H t2 = some (.tup [v1, v2])) (hv1 : RowV H v1 r1) (hv2 : RowV H v2 r2) (hN : H N = some (.list (nts.map sv)))
    (hc : (((Eqs op ∧ ApartE r1 r2) ∨ (Ords op ∧ ApartO r1 r2)) ∧ told = .none ∧ fault = levMsg) ∨ (¬ ((Eqs op ∧ ApartE r1 r2) ∨ (Ords op ∧ ApartO r1 r2)) ∧ nts = rnote l.length r.length ∧ ∃ w, told = .ref w ∧ PV H w "logical" ((cmpItems op (rowOf r1 r2) l r).map ov))) :
    FS Γ 2 704 H [sv op, told, sv fault, .ref N, .ref t1, .ref t2, .bool falls] (fun v H' => v = .bool true ∧ Ext H H') nX := by
  have hopk : PyData.strOk op = true := by rcases hop with (rfl | rfl) | ⟨_, h⟩; decide +kernel; decide +kernel; exact h.ok
  have htold : er told = told := by rcases hc with ⟨_, rfl, _⟩ | ⟨_, _, w, rfl, _⟩ <;> rfl
  refine FS.enter (ps := ["op", "told", "fault", "notes", "sides", "rows", "falls"]) (dv := []) (ho := rfl) (hok := ⟨rfl, rfl, rfl, by rfl, rfl, rfl, rfl, by decide, by decide, by decide⟩) (hbody := rfl) (hnames := rfl) (binds7 fun _ _ _ _ _ _ _ => rfl) rfl (fun c Q hQ hQn hL => ?_)
  have hs := hL.nm; dsimp only at hs
  refine sCons (sAsgT ?_ hL.hd rfl rfl rfl)
  walk_at "mxs"
  refine ⟨t1, _, rfl, ht, rfl, ?_⟩
  refine stC (by assumption) rfl (hL.cell _ rfl) ?_
  refine stC (by assumption) rfl (hL.cell _ rfl) ?_
  refine tusNil ?_
  walk_at "mxs"
  refine bLenL hl (by rw [List.length_map]; omega) ?_
  walk_at "mxs"
  refine bLenL hr (by rw [List.length_map]; omega) ?_
  walk_at "mxs"
  refine bMax hL.hd (fun w hw => ?_)
  rw [maxI, List.length_map, List.length_map] at hw
  refine uLocE (by assumption) rfl hw ?_
  walk_at "mxs"
  refine ⟨by decide, fun b1 hb1 => oInTT (.str hopk) upd_self (fl_strs (ss := ["==", "!="]) (by decide +kernel)) fun w hw => ?_⟩
  have heq : decide (sv op ∈ [sv "==", sv "!="]) = decide (op = "==" ∨ op = "!=") := decide_eq_decide.mpr (by simp [sv])
  rw [show decide (Value.str op 0 ∈ [Value.str "==" 0, Value.str "!=" 0]) = decide (op = "==" ∨ op = "!=") from heq] at hw
  refine uLocE (by assumption) rfl hw ?_
  have e1 := Ext.new (o := .tup ([("==" : Str), "!="].map sv)) hb1
  refine sCons (sIf (TT.cut (K := fun q H' => q = false ∧ Ext H H') ?_ ?_))
  · walk_at "mxs"
    walk_at "mo"
    rcases hop with h | ⟨rfl, h⟩
    · rw [decide_eq_true (show op = "==" ∨ op = "!=" from h)]
      walk_at "mif"
      walk_at "mxs"
      exact ⟨rfl, e1⟩
    · rw [decide_eq_false (show ¬ (op = "==" ∨ op = "!=") from h.ne)]
      have hopn : decide (sv op ∈ [sv "<", sv "<=", sv ">", sv ">="]) = true := by rcases h with rfl | rfl | rfl | rfl <;> decide
      walk_at "mif"
      walk_at "mxs"
      walk_at "mo"
      walk_at "mif"
      walk_at "mxs"
      refine ⟨by decide, fun b2 hb2 => oInTT (.str hopk) upd_self (fl_strs (ss := ["<", "<=", ">", ">="]) (by decide +kernel)) ⟨_, rfl, ?_⟩⟩
      rw [hopn]
      walk_at "mif"
      walk_at "mxs"
      exact ⟨rfl, e1.trans (Ext.new hb2)⟩
  first | refine eRE fun H2 e2 => ?_ | rintro _ H2 ⟨rfl, e2⟩
  first | refine ifN Bool.false_ne_true ?_ | rw [if_neg Bool.false_ne_true]
  refine sNil ?_
  refine sCons (sCut2 (fun ρ' H' => ¬ ((Eqs op ∧ ApartE r1 r2) ∨ (Ords op ∧ ApartO r1 r2)) ∧ Ext H H' ∧ Sub (locs [("op", sv op), ("told", told), ("notes", .ref N), ("rows", .ref t2), ("left", .ref L), ("right", .ref R), ("most", nv (max l.length r.length))]) ρ') (fun v H' => v = .bool true ∧ Ext H H') ?_ ?_ fun v ρ' H' z => hQ v ρ' H' z)
  · have hdt : Dt H2 2 (.ref t2) (.tuple [rowD r1, rowD r2]) := .tup (e2 _ _ ht2) (.cons (hv1.up e2).dt (.cons (hv2.up e2).dt .nil))
    walk_at "mxs"
    refine oNotInT (n := 2) (da := .none) .none hdt (by decide) ⟨_, rfl, ?_⟩
    have hin : (!([rowD r1, rowD r2].any fun y => PyData.eqv y PyData.none)) = (r1.isSome && r2.isSome) := by cases r1 <;> cases r2 <;> rfl
    rw [hin]
    cases hb : (r1.isSome && r2.isSome) with
    | false =>
      walk_at "mif"
      walk_at "mxs"
      refine .inl ⟨rfl, ?_, e2, .cons rfl (.cons rfl (.cons rfl (.cons rfl (.cons rfl (.cons rfl (.cons rfl .nil))))))⟩
      rintro (⟨_, a, b, rfl, rfl, _⟩ | ⟨_, a, b, rfl, rfl, _⟩) <;> cases hb
    | true =>
      obtain ⟨a, rfl⟩ : ∃ a, r1 = some a := by cases r1; cases hb; exact ⟨_, rfl⟩
      obtain ⟨b, rfl⟩ : ∃ b, r2 = some b := by cases r2; cases hb; exact ⟨_, rfl⟩
      obtain ⟨a1, rfl, ha1, hza, hoka⟩ := hv1
      obtain ⟨a2, rfl, ha2, hzb, hokb⟩ := hv2
      walk_at "mif"
      refine sCons (sAsg (TX.cut (K := fun v H' => Ext H H' ∧ ∃ q, v = .bool q ∧ (q = true ↔ ((Eqs op ∧ ApartE (some a) (some b)) ∨ (Ords op ∧ ApartO (some a) (some b))))) ?_ ?_))
      · walk_at "mxs"
        walk_at "mo"
        rcases hop with h | ⟨_, h⟩
        · rw [decide_eq_true (show op = "==" ∨ op = "!=" from h)]
          walk_at "mif"
          walk_at "mxs"
          refine .tup (n := 0) (e2 _ _ ht2) rfl (by decide) ?_
          refine bSortedL (e2 _ _ ha1) (by omega) (fun d ss hp hs1 hd => ?_)
          have e3 := e2.trans (Ext.new (o := .list (ss.map sv)) hd)
          walk_at "mxs"
          refine .tup (n := 1) (e3 _ _ ht2) rfl (by decide) ?_
          refine bSortedL (e3 _ _ ha2) (by omega) (fun d2 ss2 hp2 hs2 hd2 => ?_)
          refine oNeLL (upd_of hd2 upd_self) upd_self (fl_strs fun x hx => hoka x (hp.subset hx)) (fl_strs fun x hx => hokb x (hp2.subset hx)) ⟨e3.trans (Ext.new hd2), _, rfl, ?_⟩
          have hinj : ss.map sv = ss2.map sv ↔ a.Perm b := by
            constructor
            · intro h
              have : ss = ss2 := sv_inj h
              subst this
              exact hp.symm.trans hp2
            · intro h
              rw [sorted_eq hs1 hs2 ((hp.trans h).trans hp2.symm)]
          rw [Bool.not_eq_true', decide_eq_false_iff_not, hinj]
          exact ⟨fun q => .inl ⟨h, a, b, rfl, rfl, q⟩, fun q => by
            rcases q with ⟨_, _, _, h1, h2, q⟩ | ⟨q, _⟩
            · cases h1; cases h2; exact q
            · exact absurd h q.ne⟩
        · rw [decide_eq_false (show ¬ (op = "==" ∨ op = "!=") from h.ne)]
          walk_at "mif"
          walk_at "mxs"
          refine .tup (n := 0) (e2 _ _ ht2) rfl (by decide) ?_
          walk_at "mxs"
          refine .tup (n := 1) (e2 _ _ ht2) rfl (by decide) ?_
          refine oNeLL (e2 _ _ ha1) (e2 _ _ ha2) (fl_strs hoka) (fl_strs hokb) ⟨e2, _, rfl, ?_⟩
          rw [Bool.not_eq_true', decide_eq_false_iff_not]
          have hinj : a.map sv = b.map sv ↔ a = b := ⟨sv_inj, fun h => by rw [h]⟩
          rw [hinj]
          exact ⟨fun q => .inr ⟨h, a, b, rfl, rfl, q⟩, fun q => by
            rcases q with ⟨q, _⟩ | ⟨_, _, _, h1, h2, q⟩
            · exact absurd q h.ne
            · cases h1; cases h2; exact q⟩
      · first | refine eV2 fun e3 q H3 hq => ?_ | refine eG2 fun q H3 e3 hq => ?_ | rintro _ H3 ⟨e3, q, rfl, hq⟩
        refine stL (by assumption) rfl ?_
        walk_at "mxs"
        walk_at "mo"
        cases q with
        | true =>
          have hA := hq.mp rfl
          rcases hc with ⟨_, rfl, rfl⟩ | ⟨h, _⟩
          · walk_at "mif"
            walk_at "mxs"
            refine oIsN rfl ?_
            walk_at "mo"
            walk_at "mif"
            walk_at "mxs"
            refine oEqS ?_
            exact .inr ⟨_, rfl, by simp [levMsg], e3⟩
          · exact absurd hA h
        | false =>
          walk_at "mif"
          walk_at "mxs"
          exact .inl ⟨rfl, (fun h => (by cases hq.mpr h)), e3, .cons rfl (.cons rfl (.cons rfl (.cons rfl (.cons rfl (.cons rfl (.cons rfl .nil))))))⟩
  · rintro ρ' H3 ⟨hA, e3, hsub⟩
    refine TS.weakL hsub ?_
    rcases hc with ⟨h, _⟩ | ⟨_, rfl, wT, rfl, hT⟩
    · exact absurd h hA
    have hzr : (rowOf r1 r2).length < 60 ∧ ∀ x ∈ rowOf r1 r2, PyData.strOk x = true := by
      cases r1 with
      | some a => obtain ⟨_, _, _, h⟩ := hv1; exact h
      | none => cases r2 with
        | some b => obtain ⟨_, _, _, h⟩ := hv2; exact h
        | none => rcases hsome with h | h <;> cases h
    refine sCons (sAsg (TX.cut (K := fun v H' => Ext H H' ∧ ∃ a, v = .ref a ∧ H' a = some (.list ((rowOf r1 r2).map sv))) ?_ ?_))
    · walk_at "mxs"
      refine .tup (n := 0) (e3 _ _ ht2) rfl (by decide) ?_
      walk_at "mxs"
      refine oIsNotN hv1.er ⟨_, rfl, ?_⟩
      cases r1 with
      | some a =>
        obtain ⟨a1, rfl, ha1, _⟩ := hv1
        first | refine ifP (by rfl) ?_ | rw [if_pos (by rfl)]
        walk_at "mxs"
        refine .tup (n := 0) (e3 _ _ ht2) rfl (by decide) ?_
        exact ⟨e3, a1, rfl, e3 _ _ ha1⟩
      | none =>
        obtain rfl : v1 = .none := hv1
        first | refine ifN (by decide) ?_ | rw [if_neg (by decide)]
        walk_at "mxs"
        refine .tup (n := 1) (e3 _ _ ht2) rfl (by decide) ?_
        cases r2 with
        | none => rcases hsome with h | h <;> cases h
        | some b =>
          obtain ⟨a2, rfl, ha2, _⟩ := hv2
          exact ⟨e3, a2, rfl, e3 _ _ ha2⟩
    first | refine eV2 fun e4 aR H4 hR => ?_ | refine eG2 fun aR H4 e4 hR => ?_ | rintro _ H4 ⟨e4, aR, rfl, hR⟩
    refine stC (by assumption) rfl (hL.cell _ rfl) ?_
    walk_at "mxs"
    refine ⟨by decide, fun D hD => ?_⟩
    refine stL (by assumption) rfl ?_
    walk_at "mxs"
    refine ?_
    refine stL (by assumption) rfl ?_
    have e5 := e4.trans (Ext.new (o := .list []) hD)
    have hD5 := upd_self (H := H4) (a := D) (o := AO.list [])
    have hR5 := upd_of (o := AO.list []) hD hR
    generalize upd H4 D (.list []) = H5 at e5 hD5 hR5 ⊢
    refine sCons (sCut (fun ρ' H' => ∃ D, Ext H H' ∧ H' D = some (.list ((cmpItems op (rowOf r1 r2) l r).map ov)) ∧ Sub (locs [("told", .ref wT), ("notes", .ref N), ("due", .ref D), ("uneven", .bool (decide (rnote l.length r.length ≠ [])))]) ρ') ?_ ?_)
    · walk_at "mxs"
      refine ⟨by decide, fun b hb => oNeLL (upd_of hb (e5 _ _ hl)) upd_self (fl_keys hok1) (by simp) ⟨_, rfl, ?_⟩⟩
      have e6 := e5.trans (Ext.new (o := .list []) hb)
      have hD6 := upd_of (o := AO.list []) hb hD5
      have hR6 := upd_of (o := AO.list []) hb hR5
      generalize upd H5 b (.list []) = H6 at e6 hD6 hR6 ⊢
      by_cases q1 : l = []
      · subst q1
        first | refine ifN (by decide) ?_ | rw [if_neg (by decide)]
        first | refine ifN Bool.false_ne_true ?_ | rw [if_neg Bool.false_ne_true]
        walk_at "mxs"
        have hrn : rnote ([] : List (Option Str)).length r.length = [] := by unfold rnote; rw [if_neg (by simp)]
        rw [hrn]
        exact ⟨rfl, D, e6, by rw [hD6]; rfl, .cons rfl (.cons rfl (.cons rfl (.cons rfl .nil)))⟩
      first | refine ifP (by simpa using q1) ?_ | rw [if_pos (by simpa using q1)]
      walk_at "mxs"
      refine ⟨by decide, fun b hb => oNeLL (upd_of hb (e6 _ _ hr)) upd_self (fl_keys hok2) (by simp) ⟨_, rfl, ?_⟩⟩
      have e7 := e6.trans (Ext.new (o := .list []) hb)
      have hD7 := upd_of (o := AO.list []) hb hD6
      have hR7 := upd_of (o := AO.list []) hb hR6
      generalize upd H6 b (.list []) = H7 at e7 hD7 hR7 ⊢
      by_cases q2 : r = []
      · subst q2
        first | refine ifN (by decide) ?_ | rw [if_neg (by decide)]
        first | refine ifN Bool.false_ne_true ?_ | rw [if_neg Bool.false_ne_true]
        walk_at "mxs"
        have hrn : rnote l.length ([] : List (Option Str)).length = [] := by unfold rnote; rw [if_neg (by simp)]
        have hcm : cmpItems op (rowOf r1 r2) l [] = [] := by unfold cmpItems rlen; simp
        rw [hrn, hcm]
        exact ⟨rfl, D, e7, hD7, .cons rfl (.cons rfl (.cons rfl (.cons rfl .nil)))⟩
      first | refine ifP (by simpa using q2) ?_ | rw [if_pos (by simpa using q2)]
      walk_at "mxs"
      first | refine ifP rfl ?_ | rw [if_pos rfl]
      have p1 : 0 < l.length := List.length_pos_iff.mpr q1
      have p2 : 0 < r.length := List.length_pos_iff.mpr q2
      have hmx : rlen l.length r.length = max l.length r.length := by unfold rlen; rw [if_neg (by omega)]
      walk_at "mxs"
      refine sAsgComp hs rfl hL.hd rfl rfl rfl rfl ?_
      walk_at "mxs"
      refine bRange (n := max l.length r.length) (fun rr t u v hrr => ?_)
      have e8 := e7.trans (Ext.new (o := .obj (rangeObj (max l.length r.length) t u v)) hrr)
      have hR8 := upd_of (o := AO.obj (rangeObj (max l.length r.length) t u v)) hrr hR7
      refine ⟨_, _, _, itbRange upd_self (by omega), by rw [upto_len]; omega, CompP.mapA (as := List.range (max l.length r.length)) (f := fun i => ov (dueF op (rowOf r1 r2) ((l[i % l.length]?).getD none) ((r[i % r.length]?).getD none))) ?_ (fun H' e => trivial) fun D' H' e' hD' => ?_⟩
      · intro i hi H' e' c hs hk hhd
        have q1 : i % l.length < l.length := Nat.mod_lt _ p1
        have q2 : i % r.length < r.length := Nat.mod_lt _ p2
        walk_at "mxs"
        refine bLenL (e' _ _ (e8 _ _ hl)) (by rw [List.length_map]; omega) ?_
        refine oMod (i := Int.ofNat i) (by rw [List.length_map]; omega) ?_
        rw [show (Int.ofNat i) = ((i : Nat) : Int) from rfl, fmodN, List.length_map]
        refine .list (e' _ _ (e8 _ _ hl)) (x := keyV ((l[i % l.length]?).getD none)) (by rw [List.getElem?_map, List.getElem?_eq_getElem q1]; rfl) (by omega) ?_
        walk_at "mxs"
        refine bLenL (e' _ _ (e8 _ _ hr)) (by rw [List.length_map]; omega) ?_
        refine oMod (i := Int.ofNat i) (by rw [List.length_map]; omega) ?_
        rw [show (Int.ofNat i) = ((i : Nat) : Int) from rfl, fmodN, List.length_map]
        refine .list (e' _ _ (e8 _ _ hr)) (x := keyV ((r[i % r.length]?).getD none)) (by rw [List.getElem?_map, List.getElem?_eq_getElem q2]; rfl) (by omega) ?_
        walk_at "mxs"
        refine fun wz hw => FS.use' (by rw [hk, hL.k]; decide) (hhd.trans hL.hd) hw (fs_law_verdict (hop.imp id fun h => h.2) (e' _ _ hR8) (by omega) hzr.2 (fun x hx => hok1 x (by rw [List.getElem?_eq_getElem q1] at hx; rw [← hx]; exact List.getElem_mem q1)) (fun x hx => hok2 x (by rw [List.getElem?_eq_getElem q2] at hx; rw [← hx]; exact List.getElem_mem q2))) ?_
        first | refine eRE fun H9 e9 => ?_ | rintro _ H9 ⟨rfl, e9⟩
        exact ⟨e9, rfl⟩
      have e9 := (e8.trans e').trans (Ext.new (o := .list ((List.range (max l.length r.length)).map fun i => ov (dueF op (rowOf r1 r2) ((l[i % l.length]?).getD none) ((r[i % r.length]?).getD none)))) hD')
      have hD9 := upd_self (H := H') (a := D') (o := AO.list ((List.range (max l.length r.length)).map fun i => ov (dueF op (rowOf r1 r2) ((l[i % l.length]?).getD none) ((r[i % r.length]?).getD none))))
      generalize upd H' D' _ = H9 at e9 hD9 ⊢
      walk_at "mxs"
      refine bLenL (e9 _ _ hl) (by rw [List.length_map]; omega) ?_
      refine oMod (i := ((max l.length r.length : Nat) : Int)) (by rw [List.length_map]; omega) ?_
      rw [fmodN, List.length_map]
      walk_at "mxs"
      refine bLenL (e9 _ _ hr) (by rw [List.length_map]; omega) ?_
      refine oMod (i := ((max l.length r.length : Nat) : Int)) (by rw [List.length_map]; omega) ?_
      rw [fmodN, List.length_map]
      refine oAdd (i := ((max l.length r.length % l.length : Nat) : Int)) (j := ((max l.length r.length % r.length : Nat) : Int)) ?_
      walk_at "mxs"
      refine oGtI (i := ((max l.length r.length % l.length : Nat) : Int) + ((max l.length r.length % r.length : Nat) : Int)) (j := 0) fun w hw => ?_
      rw [uneven_eq p1 p2] at hw
      refine uLocE (by assumption) rfl hw ?_
      walk_at "mxs"
      refine ⟨rfl, D', e9, ?_, .cons rfl (.cons rfl (.cons rfl (.cons rfl .nil)))⟩
      rw [hD9, cmpItems, hmx, List.map_map]; rfl
    rintro ρ2 H6 ⟨D2, e6, hD6, hsub2⟩
    refine TS.weakL hsub2 ?_
    clear hsub hsub2 hR5 hD5
    obtain ⟨it, hw1, hw2⟩ := hT
    walk_at "mxs"
    refine oIsN rfl ⟨_, rfl, ?_⟩
    first | refine ifN (by simp) ?_ | rw [if_neg (by simp)]
    walk_at "mxs"
    refine gKind (hw1.up e6) ?_
    walk_at "mxs"
    refine oNeS ⟨_, rfl, ?_⟩
    first | refine ifN (by decide) ?_ | rw [if_neg (by decide)]
    walk_at "mxs"
    refine gItems (hw1.up e6) rfl ?_
    walk_at "mxs"
    refine oNeLL (e6 _ _ hw2) hD6 (fl_ov _) (fl_ov _) ⟨_, rfl, ?_⟩
    first | refine ifN (by simp) ?_ | rw [if_neg (by simp)]
    walk_at "mxs"
    refine gAttrs (hw1.up e6) rfl ?_
    walk_at "mxs"
    refine oIsNotN rfl ⟨_, rfl, ?_⟩
    walk_at "mif"
    walk_at "mxs"
    walk_at "mif"
    walk_at "mxs"
    refine ?_
    refine stC (by assumption) rfl (hL.cell _ rfl) ?_
    walk_at "mxs"
    refine ⟨by decide, fun b7 hb7 => ?_⟩
    have hnok : ∀ x ∈ rnote l.length r.length, x = recMsg := by
      intro x hx; unfold rnote at hx; split at hx
      · simpa using hx
      · cases hx
    have hnlen : (rnote l.length r.length).length ≤ 1 := by unfold rnote; split <;> simp
    have hrok : PyData.strOk recMsg = true := by decide +kernel
    have e7 := e6.trans (Ext.new (o := .list []) hb7)
    refine oNeLL (upd_of hb7 (e6 _ _ hN)) upd_self (fl_strs fun x hx => by rw [hnok x hx]; exact hrok) (by simp) ?_
    walk_at "mxs"
    have hne2 : (!decide ((rnote l.length r.length).map sv = [])) = decide (rnote l.length r.length ≠ []) := by
      cases rnote l.length r.length <;> simp
    rw [hne2]
    refine oEqB ?_
    walk_at "mo"
    first | refine ifP (by simp) ?_ | rw [if_pos (by simp)]
    walk_at "mxs"
    refine xComp hs rfl hL.hd rfl ?_
    walk_at "mxs"
    refine ⟨_, _, _, itbList (e7 _ _ hN), by rw [List.length_map]; omega, CompP.pureIf (fun v => v != sv recMsg) id ?_ ?_ (fun H' e => e _ _ (e7 _ _ hN)) fun D' H' e' hD' => ?_⟩
    · intro v hv H' e' c hs hk hhd
      obtain ⟨x, hx, rfl⟩ := List.mem_map.mp hv
      walk_at "mxs"
      refine oNeS ⟨_, rfl, Ext.refl _, ?_⟩
      rw [hnok x hx]; decide
    · intro v hv hp H' e' c hs hk hhd
      walk_at "mxs"
      exact ⟨Ext.refl _, rfl⟩
    · have hfil : ((rnote l.length r.length).map sv).filter (fun v => v != sv recMsg) = [] := by
        rw [List.filter_eq_nil_iff]
        intro v hv
        obtain ⟨x, hx, rfl⟩ := List.mem_map.mp hv
        rw [hnok x hx]; decide
      rw [hfil, List.map_nil]
      have e8 := (e7.trans e').trans (Ext.new (o := .list []) hD')
      have hD8 := upd_self (H := H') (a := D') (o := AO.list [])
      generalize upd H' D' (.list []) = H8 at e8 hD8 ⊢
      walk_at "mxs"
      refine ⟨by decide, fun b9 hb9 => oEqLL (upd_of hb9 hD8) upd_self (by simp) (by simp) ⟨by simp, e8.trans (Ext.new hb9)⟩⟩
end

-- MH4
noncomputable def PartsV (H : AH) (as : List Addr) (ps : List (Str × List (Option Str))) : Prop := as.length = ps.length ∧ ∀ (i : Nat) a p, as[i]? = some a → ps[i]? = some p → PV H a "character" (p.2.map keyV)
theorem PartsV.up {H H' : AH} {as ps} (h : PartsV H as ps) (e : Ext H H') : PartsV H' as ps := ⟨h.1, fun i a p h1 h2 => (h.2 i a p h1 h2).up e⟩
noncomputable def cntMsg : Str := "number of levels differs"
theorem lastHead_take {w : Option Str} {ps : List (Str × List (Option Str))} {i : Nat} {p} (hp : ps[i]? = some p) : lastHead w (ps.take (i + 1)) = if w ∈ p.2 then some p.1 else lastHead w (ps.take i) := by
  obtain ⟨hlt, e⟩ := List.getElem?_eq_some_iff.mp hp
  have : ps.take (i + 1) = ps.take i ++ [p] := by rw [List.take_succ_eq_append_getElem hlt, e]
  rw [this, lastHead, List.foldl_append]; rfl
section
variable {Γ : Gl} {H : AH} {A t1 t2 f v nm : Addr} {k2 : Value} {codes : List (Option Nat)} {levels tops : List Str} {falls : Bool} {heads : Option (List Str)} {xs : List Value} {ws : List (Option Str)} {kind : Str} {as : List Addr} {ps : List (Str × List (Option Str))}
theorem fs_b_set_plain (hA : H A = some (.list [.ref t1, .ref t2])) (h1 : H t1 = some (.tup [.none, .ref f])) (h2 : H t2 = some (.tup [k2, .ref v])) (hf : Fac H f codes levels falls heads) (hv : PV H v kind xs) (hk : Kd kind) (hlab : ∀ x ∈ xs, LabOk kind x)
    (hxs : xs.map (lab kind) = ws.map keyV) (hz : ws.length < 60) (hok : ∀ x, some x ∈ ws → PyData.strOk x = true) :
    FS Γ 7 621 H [.none, .ref A, .none] (fun r H' => levels.length ≤ ws.length ∧ ∃ w, r = .ref w ∧ Ext H H' ∧ Fac H' w (codes.map (recode ws levels.length)) (distA [] ws) falls heads) (fun m H' => ws.length < levels.length ∧ m = cntMsg ∧ Ext H H') := by
  have hxl : xs.length = ws.length := by have := congrArg List.length hxs; simpa using this
  refine FS.enter (ps := ["interp", "args", "env"]) (dv := []) (ho := rfl) (hok := ⟨rfl, rfl, rfl, by rfl, rfl, rfl, rfl, by decide, by decide, by decide⟩) (hbody := rfl) (hnames := rfl) (binds3 fun _ _ _ => rfl) rfl (fun c Q hQ hQn hL => ?_)
  have hs := hL.nm; dsimp only at hs
  walk_at "mxs"
  refine FS.uses' (hL.le (by decide)) hL.hd (fs_check_factor hA h1 hf) ?_
  first | refine eRE fun H1 e1 => ?_ | rintro _ H1 ⟨rfl, e1⟩
  walk_at "mxs"
  refine sAsgT ?_ hL.hd rfl rfl rfl
  walk_at "mxs"
  refine FS.uses' (hL.le (by decide)) hL.hd (fs_setter_args (e1 _ _ hA) (e1 _ _ h1) (e1 _ _ h2)) ?_
  rintro _ _ ⟨t, rfl, ht, rfl⟩
  have e2 := e1.trans (Ext.new (o := .tup [Value.ref f, Value.ref v]) ht)
  refine ⟨t, _, rfl, upd_self, rfl, ?_⟩
  refine stL (by assumption) rfl ?_
  refine stL (by assumption) rfl ?_
  refine tusNil ?_
  obtain ⟨it, hv1, hv2⟩ := id hv
  walk_at "mxs"
  refine gKind (hv1.up e2) ?_
  walk_at "mxs"
  refine oEqS ⟨_, rfl, ?_⟩
  first | refine ifN (by rcases hk with rfl | rfl | rfl <;> decide) ?_ | rw [if_neg (by rcases hk with rfl | rfl | rfl <;> decide)]
  walk_at "mxs"
  refine FS.uses' (hL.le (by decide)) hL.hd (fs_level_texts (hf.up e2)) ?_
  first | refine eN3 fun b3 H3 hb3 e3 h3 => ?_ | rintro _ H3 ⟨b3, rfl, hb3, e3, h3⟩
  refine stL (by assumption) rfl ?_
  have e13 := e2.trans e3
  walk_at "mxs"
  refine gKind (hv1.up e13) ?_
  walk_at "mxs"
  refine oNeS ⟨_, rfl, ?_⟩
  first | refine ifP (by rcases hk with rfl | rfl | rfl <;> decide) ?_ | rw [if_pos (by rcases hk with rfl | rfl | rfl <;> decide)]
  walk_at "mxs"
  refine FS.uses' (hL.le (by decide)) hL.hd (fs_item_texts (hv.up e13) hk hlab (by omega)) ?_
  first | refine eN3 fun b4 H4 hb4 e4 h4 => ?_ | rintro _ H4 ⟨b4, rfl, hb4, e4, h4⟩
  rw [hxs] at h4
  have e14 := e13.trans e4
  walk_at "mxs"
  refine FS.uses (hL.le (by decide)) hL.hd (fs_relevelled (hf.up e14) h4 hz hok) ?_ ?_
  · rintro r H5 ⟨z1, w, rfl, z2, z3⟩
    exact ⟨z1, w, rfl, e14.trans z2, z3⟩
  · rintro m H5 ⟨z1, z2, z3⟩
    exact ⟨z1, z2, e14.trans z3⟩
theorem fs_b_set_list {it D : Addr} {ep : Nat} (hA : H A = some (.list [.ref t1, .ref t2])) (h1 : H t1 = some (.tup [.none, .ref f])) (h2 : H t2 = some (.tup [k2, .ref v])) (hf : Fac H f codes levels falls heads) (hv : Vc H v "list" (.ref it) (.ref D))
    (hit : H it = some (.list (as.map Value.ref))) (hD : H D = some (.dict [(some ("names" : Str), Value.ref nm)] ep)) (hnm : PV H nm "character" ((ps.map (·.1)).map sv)) (hps : PartsV H as ps) (hz : ps.length ≤ 5) (hz2 : ∀ p ∈ ps, p.2.length ≤ 5)
    (hok : ∀ p ∈ ps, PyData.strOk p.1 = true) (hnd : (ps.map (·.1)).Nodup) (hheads : heads = none) :
    FS Γ 7 621 H [.none, .ref A, .none] (fun r H' => ∃ w, r = .ref w ∧ Ext H H' ∧ Fac H' w (codesIn (ps.map (·.1)) (facTexts (distA [] (levels.map fun x => lastHead (some x) ps)) (codes.map (recode (levels.map fun x => lastHead (some x) ps) levels.length)))) (ps.map (·.1)) falls none) nX := by
  have hlz : levels.length < 60 := by obtain ⟨_, _, _, _, h, _⟩ := hf; exact h
  have hcz : codes.length ≤ 60 := by obtain ⟨_, _, _, h, _⟩ := hf; exact h
  refine FS.enter (ps := ["interp", "args", "env"]) (dv := []) (ho := rfl) (hok := ⟨rfl, rfl, rfl, by rfl, rfl, rfl, rfl, by decide, by decide, by decide⟩) (hbody := rfl) (hnames := rfl) (binds3 fun _ _ _ => rfl) rfl (fun c Q hQ hQn hL => ?_)
  have hs := hL.nm; dsimp only at hs
  walk_at "mxs"
  refine FS.uses' (hL.le (by decide)) hL.hd (fs_check_factor hA h1 hf) ?_
  first | refine eRE fun H1 e1 => ?_ | rintro _ H1 ⟨rfl, e1⟩
  walk_at "mxs"
  refine sAsgT ?_ hL.hd rfl rfl rfl
  walk_at "mxs"
  refine FS.uses' (hL.le (by decide)) hL.hd (fs_setter_args (e1 _ _ hA) (e1 _ _ h1) (e1 _ _ h2)) ?_
  rintro _ _ ⟨t, rfl, ht, rfl⟩
  have e2 := e1.trans (Ext.new (o := .tup [Value.ref f, Value.ref v]) ht)
  refine ⟨t, _, rfl, upd_self, rfl, ?_⟩
  refine stL (by assumption) rfl ?_
  refine stL (by assumption) rfl ?_
  refine tusNil ?_
  walk_at "mxs"
  refine gKind (hv.up e2) ?_
  walk_at "mxs"
  refine oEqS ⟨_, rfl, ?_⟩
  first | refine ifN (by decide) ?_ | rw [if_neg (by decide)]
  walk_at "mxs"
  refine FS.uses' (hL.le (by decide)) hL.hd (fs_level_texts (hf.up e2)) ?_
  first | refine eN3 fun b3 H3 hb3 e3 h3 => ?_ | rintro _ H3 ⟨b3, rfl, hb3, e3, h3⟩
  refine stL (by assumption) rfl ?_
  have e13 := e2.trans e3
  walk_at "mxs"
  refine gKind (hv.up e13) ?_
  walk_at "mxs"
  refine oNeS ⟨_, rfl, ?_⟩
  first | refine ifN (by decide) ?_ | rw [if_neg (by decide)]
  walk_at "mxs"
  refine FS.uses' (hL.le (by decide)) hL.hd (fs_names_of (o := some ((ps.map (·.1)).map sv)) (k := "character") (kind := "list") (xs := as.map Value.ref) ⟨it, .ref D, hv.up e13, e13 _ _ hit, .inr ⟨D, ep, rfl, e13 _ _ hD⟩⟩ ⟨by decide, by decide⟩ rfl ⟨nm, rfl, hnm.up e13⟩ (by rintro l h; cases h; simp; omega)) ?_
  rintro _ _ (⟨h, _⟩ | ⟨l, b4, hl, rfl, hb4, rfl⟩)
  · cases h
  cases hl
  refine stL (by assumption) rfl ?_
  have e4 := e13.trans (Ext.new (o := .list ((ps.map (·.1)).map sv)) hb4)
  have hb41 := upd_self (H := H3) (a := b4) (o := AO.list ((ps.map (·.1)).map sv))
  have h34 := upd_of (o := AO.list ((ps.map (·.1)).map sv)) hb4 h3
  generalize upd H3 b4 (.list ((ps.map (·.1)).map sv)) = H4 at e4 hb41 h34 ⊢
  walk_at "mxs"
  refine oIsN rfl ⟨_, rfl, ?_⟩
  first | refine ifN (by simp) ?_ | rw [if_neg (by simp)]
  walk_at "mxs"
  refine fun RD hRD => ?_
  refine stC (by assumption) rfl (hL.cell _ rfl) ?_
  have e5 := Ext.new (o := .dict [] 0) hRD
  refine sCons ?_
  refine sForI (x := "i") hs rfl hL.hd ?_
  walk_at "mxs"
  refine gItems ((hv.up e4).up e5) rfl ?_
  walk_at "mxs"
  refine bLenL (e5 _ _ (e4 _ _ hit)) (by rw [List.length_map, hps.1]; omega) ?_
  rw [List.length_map, hps.1]
  refine bRange (n := ps.length) (fun r t u v' hr => ?_)
  have e6 := Ext.new (o := .obj (rangeObj ps.length t u v')) hr
  have hRD6 := upd_of (o := .obj (rangeObj ps.length t u v')) hr (upd_self (H := H4) (a := RD) (o := AO.dict [] 0))
  refine ⟨_, _, _, itbRange upd_self (by omega), ForI.intro (as := List.range ps.length) (fun _ : Unit => _)
    (fun r _ H1 => ∃ k es ep, r = (List.range ps.length).drop k ∧ k ≤ ps.length ∧ es.length ≤ 5 * k ∧ Ext H4 H1 ∧ H1 RD = some (.dict es ep) ∧ ∀ w, dget es w = (lastHead w (ps.take k)).map sv) ()
      ⟨0, [], 0, rfl, Nat.zero_le _, Nat.le_refl _, e5.trans e6, hRD6, fun w => rfl⟩ (Sub.refl _) ?_ ?_⟩
  · rintro i r _ H5 ⟨k, es, ep2, g1, gk, g2, g3, g4, g5⟩
    obtain ⟨rfl, hr', hlt⟩ := range_drop g1
    obtain ⟨p, hp⟩ : ∃ p, ps[i]? = some p := ⟨_, List.getElem?_eq_getElem hlt⟩
    obtain ⟨a, ha⟩ : ∃ a, as[i]? = some a := ⟨_, List.getElem?_eq_getElem (by rw [hps.1]; exact hlt)⟩
    have hpm := List.mem_of_getElem? hp
    have hpv := hps.2 i a p ha hp
    have hlen := hz2 p hpm
    refine sCons ?_
    refine sForI (x := "one") hs rfl hL.hd ?_
    walk_at "mxs"
    refine gItems ((hv.up e4).up g3) rfl ?_
    walk_at "mxs"
    refine .list (n := i) (g3 _ _ (e4 _ _ hit)) (x := Value.ref a) (by rw [List.getElem?_map, ha]; rfl) (by omega) ?_
    refine FS.uses' (hL.le (by decide)) hL.hd (fs_item_texts (hpv.up (e4.trans g3)) (.inr (.inl rfl)) (labOk_keys p.2) (by rw [List.length_map]; omega)) ?_
    first | refine eN3 fun b6 H6 hb6 e6 h6 => ?_ | rintro _ H6 ⟨b6, rfl, hb6, e6, h6⟩
    rw [lab_char] at h6
    refine ⟨_, _, _, itbList h6, ForI.intro (as := p.2) (fun _ : Unit => _) (fun r _ H1 => ∃ d es ep, d ++ r = p.2 ∧ es.length ≤ 5 * i + d.length ∧ Ext H4 H1 ∧ H1 b6 = some (.list (p.2.map keyV)) ∧ H1 RD = some (.dict es ep) ∧ ∀ w, dget es w = if w ∈ d then some (sv p.1) else (lastHead w (ps.take i)).map sv) ()
      ⟨[], es, ep2, rfl, g2, g3.trans e6, h6, e6 _ _ g4, fun w => by simpa using g5 w⟩ (Sub.refl _) ?_ ?_⟩
    · rintro o r2 _ H7 ⟨d, es2, ep3, q1, q2, q3, q4, q5, q6⟩
      have hdl : d.length + (r2.length + 1) = p.2.length := by rw [← q1, List.length_append, List.length_cons]
      have hbRD : b6 ≠ RD := fun e => by rw [e, q5] at q4; cases q4
      refine sCons (sAsgI ?_)
      walk_at "mxs"
      refine .list (n := i) (q3 _ _ hb41) (x := sv p.1) (by rw [List.getElem?_map, List.getElem?_map, hp]; rfl) (by omega) ?_
      walk_at "mxs"
      refine fun u j w hu hj hw => uSetD (kk := o) q5 (by omega) (fun ep' => ?_) hu hj hw
      walk_at "mxs"
      refine ⟨(upd_ne hbRD).trans q4, (), Sub.off (Sub.refl _) rfl, d ++ [o], _, ep', by rw [List.append_assoc]; exact q1, by have := stored_len (es := es2) (k := o) (v := sv p.1); rw [List.length_append]; simp; omega, q3.upd' hRD, by rw [upd_ne hbRD]; exact q4, upd_self, fun w => ?_⟩
      rw [dget_stored, q6]
      by_cases hwo : w = o
      · subst hwo; simp
      · first | refine ifN hwo ?_ | rw [if_neg hwo]
        by_cases hwd : w ∈ d
        · first | refine ifP hwd ?_ | rw [if_pos hwd]
          first | refine ifP (by simp [hwd]) ?_ | rw [if_pos (by simp [hwd])]
        · first | refine ifN hwd ?_ | rw [if_neg hwd]
          first | refine ifN (by simp [hwd, hwo]) ?_ | rw [if_neg (by simp [hwd, hwo])]
    · rintro _ H7 ⟨d, es2, ep3, q1, q2, q3, q4, q5, q6⟩
      rw [List.append_nil] at q1
      subst q1
      walk_at "mxs"
      refine ⟨trivial, (), Sub.off (Sub.refl _) rfl, i + 1, es2, ep3, hr', hlt, by omega, q3, q5, fun w => ?_⟩
      rw [q6, lastHead_take hp]
      split <;> rfl
  · rintro _ H5 ⟨k, es, ep2, g1, gk, g2, g3, g4, g5⟩
    have := range_end g1 gk
    subst this
    rw [List.take_length] at g5
    have e05 := e4.trans g3
    walk_at "mxs"
    refine xComp hs rfl hL.hd rfl ?_
    walk_at "mxs"
    refine ⟨_, _, _, itbList (g3 _ _ h34), by rw [List.length_map]; omega, CompP.mapA (f := fun x => keyV (lastHead (some x) ps)) ?_ (fun H' e => e _ _ (g3 _ _ h34)) fun D' H' e' hD' => ?_⟩
    · intro x hx H' e' c hs hk hhd
      refine xMeth mf_get rfl rfl rfl rfl ?_
      walk_at "mxs"
      refine ⟨isDict_of (e' _ _ g4), ?_⟩
      walk_at "mxs"
      refine fun ws' hw => bGet (kk := some x) (e' _ _ g4) ⟨Ext.refl _, ?_⟩ hw
      rw [g5]
      cases lastHead (some x) ps <;> rfl
    have e6 := (g3.trans e').trans (Ext.new (o := .list (levels.map fun x => keyV (lastHead (some x) ps))) hD')
    have hD6 := upd_self (H := H') (a := D') (o := AO.list (levels.map fun x => keyV (lastHead (some x) ps)))
    generalize upd H' D' _ = H6 at e6 hD6 ⊢
    have e06 := e4.trans e6
    have hhok : ∀ x y, lastHead (some x) ps = some y → PyData.strOk y = true := fun x y h => by
      have : ∀ (qs : List (Str × List (Option Str))) (b : Option Str), (∀ p ∈ qs, PyData.strOk p.1 = true) → (∀ y, b = some y → PyData.strOk y = true) → ∀ y, qs.foldl (fun best p => if some x ∈ p.2 then some p.1 else best) b = some y → PyData.strOk y = true := by
        intro qs
        induction qs with
        | nil => intro b _ h2 y h3; exact h2 y h3
        | cons q qs ih =>
          intro b h1 h2 y h3
          refine ih _ (fun p hp => h1 p (.tail _ hp)) ?_ y h3
          intro z hz
          dsimp only at hz
          split at hz
          · cases hz; exact h1 q (.head _)
          · exact h2 z hz
      exact this ps none hok (by simp) y h
    walk_at "mxs"
    refine FS.uses (hL.le (by decide)) hL.hd (fs_relevelled (ws := levels.map fun x => lastHead (some x) ps) (hf.up e06) (by rw [hD6, List.map_map]; rfl) (by rw [List.length_map]; omega) (fun y hy => by obtain ⟨x, _, e⟩ := List.mem_map.mp hy; exact hhok x y e)) ?_ ?_
    rotate_left
    · rintro m H7 ⟨z, _⟩
      rw [List.length_map] at z; omega
    first | refine eG3 fun w7 H7 _ e7 hf7 => ?_ | rintro _ H7 ⟨_, w7, rfl, e7, hf7⟩
    refine stL (by assumption) rfl ?_
    have e07 := e06.trans e7
    walk_at "mxs"
    refine FS.uses' (hL.le (by decide)) hL.hd (fs_factor_texts hf7) ?_
    first | refine eN3 fun b8 H8 hb8 e8 h8 => ?_ | rintro _ H8 ⟨b8, rfl, hb8, e8, h8⟩
    walk_at "mxs"
    refine FS.uses' (hL.le (by decide)) hL.hd (fs_character h8 (by simp [facTexts]; omega)) ?_
    first | refine eV3 fun w9 dx9 it9 H9 n9 => ?_ | rintro _ H9 ⟨w9, dx9, it9, rfl, n9⟩
    have e49 := ((e6.trans e7).trans e8).trans n9.ext
    walk_at "mxs"
    refine FS.uses' (hL.le (by decide)) hL.hd (fs_character (e49 _ _ hb41) (by simp; omega)) ?_
    first | refine eV3 fun w10 dx10 it10 H10 n10 => ?_ | rintro _ H10 ⟨w10, dx10, it10, rfl, n10⟩
    walk_at "mxs"
    refine ⟨by simp, fun ex hex => ?_⟩
    have e11 := Ext.new (o := .list []) hex
    have e011 := ((e4.trans e49).trans n10.ext).trans e11
    walk_at "mxs"
    refine FS.uses' (hL.le (by decide)) hL.hd (fs_is_ordered (hf.up e011)) ?_
    first | refine eRE fun H12 e12 => ?_ | rintro _ H12 ⟨rfl, e12⟩
    walk_at "mxs"
    refine FS.uses' (hL.le (by decide)) hL.hd (fs_make_factor (((n9.pv.up n10.ext).up e11).up e12) ((n10.pv.up e11).up e12) (e12 _ _ upd_self) (by simp [facTexts]; omega) (by simp; omega) (fun x hx => by obtain ⟨p, hp, rfl⟩ := List.mem_map.mp hx; exact hok p hp) hnd) ?_
    first | refine eN2 fun w13 H13 e13' hf13 => ?_ | rintro _ H13 ⟨w13, rfl, e13', hf13⟩
    exact ⟨w13, rfl, (e011.trans e12).trans e13', hf13⟩
end

-- MH5
abbrev zi (i : Int) : Value := .int i 0
theorem pick_ints (ns : List Int) (lo hi st : Option Int) : ∃ ms : List Int, (slicePick (ns.map zi).toArray lo hi st).toList = ms.map zi ∧ ms.length ≤ ns.length := by
  have h : ∀ idx : List Nat, idx.filterMap (fun i => (ns.map zi).toArray[i]?) = (idx.filterMap fun i => ns[i]?).map zi := fun idx => by
    rw [List.map_filterMap]
    congr 1
    funext i
    simp
  refine ⟨_, by unfold slicePick; simp only; exact h _, ?_⟩
  have := slicePick_size_le (ns.map zi).toArray lo hi st
  unfold slicePick at this
  simp only [List.size_toArray] at this ⊢
  rw [h, List.length_map, List.length_map] at this
  rw [List.length_map]
  exact this
section
variable {Γ : Gl} {c : Fm} {ρ : Loc} {H : AH} {S : Addr} {ns : List Int} {K : KP} {X : XP}
theorem tOptN (h : K .none H) : TOpt Γ c ρ H none K X := h
theorem tOptS {e : Expr} (h : TX Γ c ρ H e K X) : TOpt Γ c ρ H (some e) K X := h
/-- a slice of a list of the ground -/
theorem xSlice0 {value : Expr} {lo hi : Option Expr} {p pos : Pos}
    (h : TX Γ c ρ H value (fun o H1 => TOpt Γ c ρ H1 lo (fun l H2 => TOpt Γ c ρ H2 hi (fun u H3 => ∃ a xs li ui, o = .ref a ∧ (∃ vs, Γ.h₀.IsList a vs ∧ vs.toList.map er = xs) ∧ xs.length ≤ 1000 ∧ l = partI li ∧ u = partI ui ∧
      ∀ b, H3 b = none → K (.ref b) (upd H3 b (.list (slicePick xs.toArray li ui none).toList))) X) X) X)
    (ht : ∀ o r, letTemporaryGo value o r = pure () := by intro _ _; rfl) : TX Γ c ρ H (.Subscript value (.Slice lo hi none p) pos) K X := fun g s R => by
  refine wpAny_Subscript_Slice (T := "list") list_getitem_lookup (wpAny_mono (h g s R) ?_ fun _ _ z => z) ht
  rintro o s1 ⟨H1, R1, h1⟩
  refine wpAny_Slice (wpAny_mono (part_go h1 g s1 R1) ?_ fun _ _ z => z)
  rintro l s2 ⟨H2, R2, h2⟩
  refine wpAny_mono (part_go h2 g s2 R2) ?_ fun _ _ z => z
  rintro u s3 ⟨H3, R3, h3⟩
  rw [evalPart_none]
  obtain ⟨a, xs, li, ui, eo, ⟨vs, ⟨ob, q1, q2, n, q3⟩, hvs⟩, hz, el, eu, k⟩ := h3
  have R4 : Rel Γ c g ρ H3 { s3 with heap := s3.heap.push { cls := .type "slice", data := .fields #[l, u, .none] } } := R3.grow (tk := s3.toks) fun b o q => Heap.get?_push_of_some _ q
  rw [er_ref eo]
  have hl : vs.size = xs.length := by rw [← hvs, List.length_map, Array.length_toList]
  refine wpAny_pure ⟨⟨ob, R4.base.k0 _ _ q1, q2⟩, wpAny_getItem_list_slice ⟨ob, R4.base.k0 _ _ q1, q2, n, q3⟩ (Heap.IsSliceOf.new ..) (isPart_of el) (isPart_of eu) .none (by simp) ⟨_, R4.push (o := .list (slicePick xs.toArray li ui none).toList) (tk := s3.toks) ⟨_, 0, Heap.get?_push_size _ rfl, ?_⟩, k _ R4.fresh⟩ (by rw [hl, sizeLine_eq]; omega)⟩
  rw [pick_map, hvs]
theorem fs_law_grains (hS : ∃ vs, Γ.h₀.IsList S vs ∧ vs.toList.map er = ns.map zi) (hz : ns.length ≤ 63) :
    FS Γ 1 628 H [.ref S] (fun r H' => ∃ (G : Addr) (gs : List Nat), r = .ref G ∧ H G = none ∧ gs.length ≤ 600 ∧ H' G = some (.list (gs.map nv)) ∧ Ext H H') nX := by
  refine FS.enter (ps := ["script"]) (dv := []) (ho := rfl) (hok := ⟨rfl, rfl, rfl, by rfl, rfl, rfl, rfl, by decide, by decide, by decide⟩) (hbody := rfl) (hnames := rfl) (binds1 fun _ => rfl) rfl (fun c Q hQ hQn hL => ?_)
  have hs := hL.nm; dsimp only at hs
  walk_at "mxs"
  refine ⟨by simp, fun G hG => ?_⟩
  refine stL (by assumption) rfl ?_
  refine sCons ?_
  refine sForI (x := "cell") hs rfl hL.hd ?_
  refine xSlice0 ?_
  walk_at "mxs"
  refine tOptN (tOptS ?_)
  walk_at "mxs"
  obtain ⟨ms, hms, hml⟩ := pick_ints ns none (some 40) none
  refine ⟨S, _, none, some 40, rfl, hS, by rw [List.length_map]; omega, rfl, rfl, fun b hb => ?_⟩
  rw [hms]
  have hbG : b ≠ G := fun e => by rw [e, upd_self] at hb; cases hb
  have e1 : Ext H (upd (upd H G (.list [])) b (.list (ms.map zi))) := (Ext.new hG).upd hb
  refine ⟨_, _, _, itbList upd_self, ForI.intro (as := ms) (fun _ : Unit => locs [("grains", .ref G)]) (fun r _ H1 => ∃ gs : List Nat, H1 G = some (.list (gs.map nv)) ∧ gs.length + 8 * r.length ≤ 504 ∧ Ext H H1 ∧ H1 b = some (.list (ms.map zi))) ()
    ⟨[], upd_of hb upd_self, by simp; omega, e1, upd_self⟩ (.cons rfl .nil) ?_ ?_⟩
  · rintro cell r _ H1 ⟨gs, h1, h2, h3, h4⟩
    rw [List.length_cons] at h2
    refine sCons (sAsg (TX.cut (K := fun v H' => H' = H1 ∧ ∃ x, v = zi x) ?_ ?_))
    · walk_at "mxs"
      refine oGeI (i := cell) (j := 0) ⟨_, rfl, ?_⟩
      by_cases hc : cell ≥ 0
      · first | refine ifP (by simpa using hc) ?_ | rw [if_pos (by simpa using hc)]
        walk_at "mxs"
        exact ⟨rfl, _, rfl⟩
      · first | refine ifN (by simpa using hc) ?_ | rw [if_neg (by simpa using hc)]
        walk_at "mxs"
        refine oMul (i := 3) (j := cell) (by decide) ?_
        exact oSub (i := 7) (j := 3 * cell) ⟨rfl, _, rfl⟩
    rintro _ _ ⟨rfl, x, rfl⟩
    refine stL (by assumption) rfl ?_
    refine TS.weakL (ρ' := locs [("grains", .ref G), ("left_over", zi x)]) (.cons rfl (.cons rfl .nil)) ?_
    refine sCons ?_
    refine sForI (x := "lap") hs rfl hL.hd ?_
    walk_at "mxs"
    refine bRange (n := 8) (fun rr t u v hrr => ?_)
    have e2 := Ext.new (o := .obj (rangeObj 8 t u v)) hrr
    refine ⟨_, _, _, itbRange upd_self (by decide), ForI.intro (as := List.range 8) (fun x : Int => locs [("grains", .ref G), ("left_over", zi x)]) (fun (q : List Nat) _ H1 => ∃ gs : List Nat, H1 G = some (.list (gs.map nv)) ∧ gs.length + q.length + 8 * r.length ≤ 504 ∧ Ext H H1 ∧ H1 b = some (.list (ms.map zi))) x
      ⟨gs, e2 _ _ h1, by simp; omega, h3.trans e2, e2 _ _ h4⟩ (Sub.refl _) ?_ ?_⟩
    · rintro lap q y H2 ⟨gs2, g1, g2, g3, g4⟩
      rw [List.length_cons] at g2
      walk_at "mxs"
      refine xMeth mf_append rfl rfl rfl rfl ?_
      walk_at "mxs"
      refine ⟨isList_of g1, ?_⟩
      walk_at "mxs"
      refine oMod (i := y) (j := 60) (by decide) ?_
      obtain ⟨n, hn⟩ : ∃ n : Nat, y.fmod 60 = (n : Int) := Int.eq_ofNat_of_zero_le (by rw [Int.fmod_eq_emod_of_nonneg _ (by decide)]; exact Int.emod_nonneg _ (by decide))
      rw [hn]
      walk_at "mxs"
      refine bAppend g1 (by rw [List.length_map]; omega) ?_
      have g1' : upd H2 G (.list (gs2.map nv ++ [nv n])) G = some (.list ((gs2 ++ [n]).map nv)) := by rw [upd_self, List.map_append]; rfl
      have g3' : Ext H (upd H2 G (.list (gs2.map nv ++ [nv n]))) := g3.upd' hG
      have g4' : upd H2 G (.list (gs2.map nv ++ [nv n])) b = some (.list (ms.map zi)) := (upd_ne hbG).trans g4
      show TB Γ c _ (upd H2 G (.list (gs2.map nv ++ [nv n]))) _ _ _
      generalize upd H2 G (.list (gs2.map nv ++ [nv n])) = H3 at g1' g3' g4' ⊢
      walk_at "mxs"
      refine oDiv (i := y) (j := 60) (by decide) (by decide) ?_
      refine stL (by assumption) rfl ?_
      refine sCons (sIf (TT.cut (K := fun q H' => H' = H3) ?_ ?_))
      · walk_at "mxs"
        refine oEqI (i := y.fdiv 60) (j := 0) ⟨_, rfl, ?_⟩
        refine ifS (fun _ => ?_) (fun _ => ?_)
        · rfl
        · walk_at "mxs"
          refine bLenL g1' (by rw [List.length_map, List.length_append]; simp; omega) ?_
          walk_at "mxs"
          refine oGtI ⟨_, rfl, ?_⟩
          refine ifS (fun _ => ?_) (fun _ => ?_)
          · rfl
          · walk_at "mxs"
            rfl
      · rintro tq _ rfl
        cases tq with
        | true =>
          first | refine ifP rfl ?_ | rw [if_pos rfl]
          refine sCons (sBreak ?_)
          refine ⟨locs [("grains", .ref G)], .cons rfl .nil, ?_⟩
          walk_at "mxs"
          exact ⟨g4', (), .cons rfl .nil, gs2 ++ [n], g1', by rw [List.length_append]; simp; omega, g3', g4'⟩
        | false =>
          first | refine ifN Bool.false_ne_true ?_ | rw [if_neg Bool.false_ne_true]
          walk_at "mxs"
          exact ⟨trivial, y.fdiv 60, .cons rfl (.cons rfl .nil), gs2 ++ [n], g1', by rw [List.length_append]; simp; omega, g3', g4'⟩
    · rintro y H2 ⟨gs2, g1, g2, g3, g4⟩
      walk_at "mxs"
      exact ⟨g4, (), .cons rfl .nil, gs2, g1, by simp at g2; omega, g3, g4⟩
  · rintro _ H1 ⟨gs, h1, h2, h3, h4⟩
    walk_at "mxs"
    refine xMeth mf_reverse rfl rfl rfl rfl ?_
    walk_at "mxs"
    refine ⟨isList_of h1, ?_⟩
    walk_at "mxs"
    refine bReverse h1 (by rw [List.length_map]; simp at h2; omega) ?_
    walk_at "mxs"
    exact ⟨G, gs.reverse, rfl, hG, by rw [List.length_reverse]; simp at h2; omega, by rw [upd_self, List.map_reverse], h3.upd' hG⟩
end

-- MH6
/-! plain facts -/
theorem distA_mem : ∀ (ws : List (Option Str)) (acc : List Str) (y : Str), (y ∈ acc ∨ some y ∈ ws) → y ∈ distA acc ws
  | [], acc, y, h => by rcases h with h | h; exact h; cases h
  | none :: r, acc, y, h => distA_mem r acc y (h.imp id fun h => by simpa using h)
  | some x :: r, acc, y, h => by
    refine distA_mem r _ y ?_
    rcases h with h | h
    · exact .inl (by split; exact h; exact List.mem_append_left _ h)
    · rcases List.mem_cons.mp h with h | h
      · cases h
        exact .inl (by split; assumption; simp)
      · exact .inr h
theorem code_at {row : List Str} {x : Str} (hx : x ∈ row) : ∃ j, pos row x = some (j + 1) ∧ row[j]? = some x ∧ j < row.length ∧ codeIn row.length (pos row x) = some (j + 1) := by
  obtain ⟨j, p1, p2, _⟩ := pos_index hx
  have hj : j < row.length := (List.getElem?_eq_some_iff.mp p2).1
  refine ⟨j, p1, p2, hj, ?_⟩
  rw [p1]
  show (if 1 ≤ j + 1 ∧ j + 1 ≤ row.length then some (j + 1) else none : Option Nat) = _
  first | refine ifP (by omega) ?_ | rw [if_pos (by omega)]
theorem renamed_codes {row : List Str} {ws fresh : List (Option Str)} (hin : ∀ x, some x ∈ ws → x ∈ row) : (codesIn row ws).map (recode fresh row.length) = codesIn (distA [] fresh) (ws.map (renW row fresh)) := by
  unfold codesIn
  rw [List.map_map, List.map_map]
  apply List.map_congr_left
  intro o ho
  cases o with
  | none => rfl
  | some x =>
    obtain ⟨j, p1, p2, p3, p4⟩ := code_at (hin x ho)
    show (codeIn row.length (pos row x)).bind _ = ((pos row x).bind _).bind _
    rw [p4, p1]; rfl
theorem renamed_in {row : List Str} {ws fresh : List (Option Str)} : ∀ x, some x ∈ ws.map (renW row fresh) → x ∈ distA [] fresh := fun x hx => by
  obtain ⟨o, _, e⟩ := List.mem_map.mp hx
  cases o with
  | none => cases e
  | some y =>
    unfold renW at e
    rw [Option.bind_some] at e
    cases q : pos row y with
    | none => rw [q] at e; cases e
    | some c =>
      rw [q, Option.bind_some] at e
      refine distA_mem _ _ _ (.inr ?_)
      cases q2 : fresh[c - 1]? with
      | none => rw [q2] at e; cases e
      | some z => rw [q2] at e; exact (show z = some x from e) ▸ List.mem_of_getElem? q2
theorem headed_texts {row : List Str} {ws : List (Option Str)} {h : Str → Option Str} (hin : ∀ x, some x ∈ ws → x ∈ row) :
    facTexts (distA [] (row.map h)) ((codesIn row ws).map (recode (row.map h) row.length)) = ws.map fun w => w.bind h := by
  unfold facTexts codesIn
  rw [List.map_map, List.map_map]
  apply List.map_congr_left
  intro o ho
  cases o with
  | none => rfl
  | some x =>
    obtain ⟨j, p1, p2, p3, p4⟩ := code_at (hin x ho)
    show (codeIn (distA [] (row.map h)).length ((codeIn row.length (pos row x)).bind _)).bind _ = h x
    rw [p4]
    show (codeIn (distA [] (row.map h)).length ((((row.map h)[j]?).join).bind _)).bind _ = h x
    rw [List.getElem?_map, p2]
    show (codeIn (distA [] (row.map h)).length ((h x).bind _)).bind _ = h x
    cases q : h x with
    | none => rfl
    | some y =>
      have hy : y ∈ distA [] (row.map h) := distA_mem _ _ _ (.inr (List.mem_map.mpr ⟨x, List.mem_of_getElem? p2, q⟩))
      obtain ⟨k, q1, q2, q3, q4⟩ := code_at hy
      show (codeIn _ (pos (distA [] (row.map h)) y)).bind _ = some y
      rw [q4]; exact q2
theorem lastHead_in {w : Option Str} {ps : List (Str × List (Option Str))} {y : Str} (h : lastHead w ps = some y) : y ∈ ps.map (·.1) := by
  have : ∀ (qs : List (Str × List (Option Str))) (b : Option Str), qs.foldl (fun best p => if w ∈ p.2 then some p.1 else best) b = some y → y ∈ qs.map (·.1) ∨ b = some y := by
    intro qs
    induction qs with
    | nil => intro b h; exact .inr h
    | cons q qs ih =>
      intro b h
      rcases ih _ h with h | h
      · exact .inl (.tail _ h)
      · dsimp only at h
        split at h
        · cases h; exact .inl (.head _)
        · exact .inr h
  rcases this ps none h with h | h
  · exact h
  · cases h
theorem keys_of_mem {xs : List Value} {ms : List (Option Str)} (h : ∀ x ∈ xs, x ∈ ms.map keyV) : ∃ ws : List (Option Str), xs = ws.map keyV ∧ ∀ w ∈ ws, w ∈ ms := by
  induction xs with
  | nil => exact ⟨[], rfl, by simp⟩
  | cons x r ih =>
    obtain ⟨ws, e, hw⟩ := ih fun y hy => h y (.tail _ hy)
    obtain ⟨w, hwm, ew⟩ := List.mem_map.mp (h x (.head _))
    refine ⟨w :: ws, by rw [e, ← ew]; rfl, fun v hv => ?_⟩
    rcases List.mem_cons.mp hv with rfl | hv
    · exact hwm
    · exact hw v hv
/-! the grains -/
noncomputable def Gr (H : AH) (G : Addr) : Prop := ∃ gs : List Nat, gs.length ≤ 600 ∧ H G = some (.list (gs.map nv))
theorem Gr.new {H : AH} {G a : Addr} {o : AO} (g : Gr H G) (ha : H a = none) : Gr (upd H a o) G ∧ Ext (drop H G) (drop (upd H a o) G) ∧ drop (upd H a o) G a = some o := by
  obtain ⟨gs, h1, h2⟩ := g
  exact ⟨⟨gs, h1, upd_of ha h2⟩, drop_mono (Ext.new ha), drop_some upd_self (ne_of_none h2 ha).symm⟩
theorem Sub.del {L ρ : Loc} {x : Str} (h : Sub L ρ) (hn : L x = none) : Sub L (del ρ x) := fun y v e => by
  unfold Mine.del
  first | refine ifN (by rintro rfl; rw [hn] at e; cases e) ?_ | rw [if_neg (by rintro rfl; rw [hn] at e; cases e)]
  exact h y v e
section
variable {Γ : Gl} {H : AH} {G M : Addr}
theorem fs_grain {m : Nat} (hG : Gr H G) (hm : 0 < m) : FS Γ 1 635 H [.ref G, nv m] (fun r H' => ∃ n : Nat, r = nv n ∧ n < m ∧ Gr H' G ∧ Ext (drop H G) (drop H' G)) nX := by
  obtain ⟨gs, h1, h2⟩ := hG
  exact (fs_law_grain h2 h1 hm).mono (fun _ _ ⟨n, gs', e1, e2, e3, e4, e5⟩ => ⟨n, e1, e2, ⟨gs', by omega, e4⟩, drop_of e5 drop_none⟩) fun _ _ z => z
theorem fs_drawn {ms : List (Option Str)} {least most : Nat} (hG : Gr H G) (hM : drop H G M = some (.list (ms.map keyV))) (hms : 0 < ms.length) (hmz : ms.length ≤ 900) (hl : least ≤ most) (hmost : most ≤ 50) :
    FS Γ 2 640 H [.ref G, .ref M, nv least, nv most] (fun r H' => ∃ (b : Addr) (ws : List (Option Str)), r = .ref b ∧ least ≤ ws.length ∧ ws.length ≤ most ∧ (∀ w ∈ ws, w ∈ ms) ∧ drop H' G b = some (.list (ws.map keyV)) ∧ Gr H' G ∧ Ext (drop H G) (drop H' G)) nX := by
  obtain ⟨gs, h1, h2⟩ := hG
  have hMG : M ≠ G := by rintro rfl; rw [drop_none] at hM; cases hM
  refine (fs_law_drawn (ms := ms.map keyV) h2 h1 (drop_ext _ _ hM) hMG (by rw [List.length_map]; exact hms) (by rw [List.length_map]; exact hmz) hl hmost).mono ?_ fun _ _ z => z
  rintro _ H' ⟨b, xs, gs', rfl, hb, q1, q2, q3, q4, q5, q6, q7⟩
  obtain ⟨ws, rfl, hw⟩ := keys_of_mem q3
  rw [List.length_map] at q1 q2
  exact ⟨b, ws, rfl, q1, q2, hw, drop_some q4 (ne_of_none h2 hb).symm, ⟨gs', by omega, q6⟩, drop_of q7 drop_none⟩
theorem fs_row (hG : Gr H G) : FS Γ 2 647 H [.ref G] (fun r H' => ∃ (b : Addr) (row : List Str), r = .ref b ∧ row.length ≤ 4 ∧ (∀ x ∈ row, x ∈ [("a" : Str), "b", "c", "d"]) ∧ drop H' G b = some (.list (row.map sv)) ∧ Gr H' G ∧ Ext (drop H G) (drop H' G)) nX := by
  obtain ⟨gs, h1, h2⟩ := hG
  refine (fs_law_row h2 h1).mono ?_ fun _ _ z => z
  rintro _ H' ⟨b, row, gs', rfl, hb, q1, q2, q3, q4, q5, q6⟩
  exact ⟨b, row, rfl, q1, q2, drop_some q3 (ne_of_none h2 hb).symm, ⟨gs', by omega, q5⟩, drop_of q6 drop_none⟩
theorem FS.frameG {k : Nat} {fa : Addr} {vs : List Value} {K : KP} (hG : Gr H G) (h : FS Γ k fa (drop H G) vs K nX) : FS Γ k fa H vs (fun r H' => Gr H' G ∧ K r (drop H' G)) nX := by
  obtain ⟨gs, h1, h2⟩ := hG
  exact (FS.frame0 h2 h).mono (fun _ _ z => ⟨⟨gs, h1, z.1⟩, z.2⟩) fun _ _ z => z
theorem FS.frameX {k : Nat} {fa : Addr} {vs : List Value} {K : KP} {X : XP} (hG : Gr H G) (h : FS Γ k fa (drop H G) vs K X) : FS Γ k fa H vs (fun r H' => Gr H' G ∧ K r (drop H' G)) (fun m H' => Gr H' G ∧ X m (drop H' G)) := by
  obtain ⟨gs, h1, h2⟩ := hG
  exact (FS.frame h2 h).mono (fun _ _ z => ⟨⟨gs, h1, z.1⟩, z.2⟩) fun _ _ z => ⟨⟨gs, h1, z.1⟩, z.2⟩
/-! one comparison -/
noncomputable def OpA (op : Str) : Prop := Eqs op ∨ Ords op ∨ op = "+" ∨ op = "-"
noncomputable def Told (H : AH) (op : Str) (l r : List (Option Str)) (r1 r2 : Option (List Str)) (falls : Bool) (told : Value) (fault : Str) (N : Addr) : Prop :=
  (OpM op ∧ ¬ (falls = true ∧ Ords op) ∧ ∃ w, told = .ref w ∧ PV H w "logical" ((List.replicate (max l.length r.length) none).map ov) ∧ H N = some (.list ([msgOf op (whatOf falls)].map sv))) ∨
  ((Eqs op ∨ (falls = true ∧ Ords op)) ∧ ∃ nts : List Str, H N = some (.list (nts.map sv)) ∧
    ((((Eqs op ∧ ApartE r1 r2) ∨ (Ords op ∧ ApartO r1 r2)) ∧ told = .none ∧ fault = levMsg) ∨ (¬ ((Eqs op ∧ ApartE r1 r2) ∨ (Ords op ∧ ApartO r1 r2)) ∧ nts = rnote l.length r.length ∧ ∃ w, told = .ref w ∧ PV H w "logical" ((cmpItems op (rowOf r1 r2) l r).map ov))))
variable {L R N t1 t2 u v : Addr} {op : Str} {l r : List (Option Str)} {falls : Bool} {r1 r2 : Option (List Str)} {fault : Str} {told v1 v2 : Value}
theorem Told.up {H H' : AH} (h : Told H op l r r1 r2 falls told fault N) (e : Ext H H') : Told H' op l r r1 r2 falls told fault N := by
  rcases h with ⟨h1, h2, w, h3, h4, h5⟩ | ⟨h1, nts, h2, h3⟩
  · exact .inl ⟨h1, h2, w, h3, h4.up e, e _ _ h5⟩
  · refine .inr ⟨h1, nts, e _ _ h2, h3.imp id ?_⟩
    rintro ⟨a, b, w, d, f⟩
    exact ⟨a, b, w, d, f.up e⟩
theorem fs_compared (hop : OpA op) (hu : Opd H u l falls r1) (hv : Opd H v r falls r2) (hsome : r1.isSome = true ∨ r2.isSome = true) :
    FS Γ 9 699 H [sv op, .ref u, .ref v] (fun x H' => ∃ t told fault N, x = .ref t ∧ Ext H H' ∧ H' t = some (.tup [told, sv fault, .ref N]) ∧ Told H' op l r r1 r2 falls told fault N) nX := by
  have conv : ∀ {A : Prop}, (A ↔ ((Eqs op ∧ ApartE r1 r2) ∨ (Ords op ∧ ApartO r1 r2))) → (Eqs op ∨ (falls = true ∧ Ords op)) → ∀ x H', CmpdR H A (cmpItems op (rowOf r1 r2) l r) (rnote l.length r.length) x H' →
      ∃ t told fault N, x = .ref t ∧ Ext H H' ∧ H' t = some (.tup [told, sv fault, .ref N]) ∧ Told H' op l r r1 r2 falls told fault N := by
    rintro A hA hm x H' ⟨t, N, told, fault, nts, e1, e2, e3, e4, e5⟩
    refine ⟨t, told, fault, N, e1, e2, e3, .inr ⟨hm, nts, e4, ?_⟩⟩
    rcases e5 with ⟨a, b⟩ | ⟨a, b⟩
    · exact .inl ⟨hA.mp a, b⟩
    · exact .inr ⟨fun h => a (hA.mpr h), b⟩
  by_cases he : Eqs op
  · exact (fs_law_comparedE he hu hv).mono (conv ⟨fun h => .inl ⟨he, h⟩, fun h => h.elim (·.2) fun h => absurd he h.1.ne⟩ (.inl he)) fun _ _ z => z
  · by_cases ho : falls = true ∧ Ords op
    · obtain ⟨rfl, ho⟩ := ho
      exact (fs_law_comparedO ho hu hv hsome).mono (conv ⟨fun h => .inr ⟨ho, h⟩, fun h => h.elim (fun h => absurd h.1 he) (·.2)⟩ (.inr ⟨rfl, ho⟩)) fun _ _ z => z
    · have hm : OpM op := hop.resolve_left he
      refine (fs_law_comparedM he ho hm.ok hm.len hu hv hsome).mono ?_ fun _ _ z => z
      rintro x H' ⟨t, N, told, fault, nts, e1, e2, e3, e4, e5⟩
      refine ⟨t, told, fault, N, e1, e2, e3, .inl ⟨hm, ho, ?_⟩⟩
      rcases e5 with ⟨a, _⟩ | ⟨_, rfl, w, h1, h2⟩
      · exact a.elim
      · exact ⟨w, h1, h2, e4⟩
theorem fs_compared1 (hu : Opd H u l falls r1) (hsome : r1.isSome = true) :
    FS Γ 9 699 H [sv "-", .ref u, .none] (fun x H' => ∃ t told fault N, x = .ref t ∧ Ext H H' ∧ H' t = some (.tup [told, sv fault, .ref N]) ∧ Told H' "-" l [] r1 none falls told fault N) nX := by
  have hm : OpM "-" := .inr (.inr rfl)
  refine (fs_law_comparedM1 hm.ne hm.len hu hsome).mono ?_ fun _ _ z => z
  rintro x H' ⟨t, N, told, fault, nts, e1, e2, e3, e4, e5⟩
  refine ⟨t, told, fault, N, e1, e2, e3, .inl ⟨hm, fun ⟨_, h⟩ => by rcases h with h | h | h | h <;> revert h <;> decide, ?_⟩⟩
  rcases e5 with ⟨a, _⟩ | ⟨_, rfl, w, h1, h2⟩
  · exact a.elim
  · exact ⟨w, h1, by simpa using h2, e4⟩
theorem fs_right (hT : Told H op l r r1 r2 falls told fault N) (hsome : r1.isSome = true ∨ r2.isSome = true) (ht : H t1 = some (.tup [.ref L, .ref R])) (hl : H L = some (.list (l.map keyV))) (hr : H R = some (.list (r.map keyV))) (hz1 : l.length ≤ 60) (hz2 : r.length ≤ 60)
    (hok1 : ∀ x, some x ∈ l → PyData.strOk x = true) (hok2 : ∀ x, some x ∈ r → PyData.strOk x = true) (ht2 : H t2 = some (.tup [v1, v2])) (hv1 : RowV H v1 r1) (hv2 : RowV H v2 r2) :
    FS Γ 2 704 H [sv op, told, sv fault, .ref N, .ref t1, .ref t2, .bool falls] (fun v H' => v = .bool true ∧ Ext H H') nX := by
  rcases hT with ⟨h1, h2, w, rfl, h4, h5⟩ | ⟨h1, nts, h2, h3⟩
  · exact fs_law_rightM h1 h2 ht hl hr hz1 hz2 h4 h5
  · exact fs_law_right h1 hsome ht hl hr hz1 hz2 hok1 hok2 ht2 hv1 hv2 h2 h3
end

-- MH7
/-- the statements of the law -/
noncomputable def lawSts : List Stmt := match PySem.Challenge.pw_sm0102_01.main.body.reverse with
  | .FunctionDef _ _ body _ _ _ _ _ _ _ :: _ => body
  | _ => []
abbrev nL := NameKind.local
abbrev nC := NameKind.cell
abbrev nG := NameKind.globalImplicit
noncomputable def lawNames : Names := [(Str.ofString "script", nL), (Str.ofString "grains", nC), (Str.ofString "way", nL), (Str.ofString "row", nL), (Str.ofString "words", nL), (Str.ofString "falls", nL), (Str.ofString "heads", nL), (Str.ofString "f", nL), (Str.ofString "tops", nC), (Str.ofString "olds", nC), (Str.ofString "value", nL), (Str.ofString "words_then", nL), (Str.ofString "row_then", nL), (Str.ofString "fresh", nL), (Str.ofString "g", nL), (Str.ofString "said", nL), (Str.ofString "side", nL), (Str.ofString "other_row", nL), (Str.ofString "menu", nL), (Str.ofString "others", nL), (Str.ofString "other", nL), (Str.ofString "ahead", nL), (Str.ofString "op", nL), (Str.ofString "told", nL), (Str.ofString "fault", nL), (Str.ofString "notes", nL), (Str.ofString "fits", nL),
  (Str.ofString "_law_grains", nG), (Str.ofString "_law_grain", nG), (Str.ofString "_law_row_of_levels", nG), (Str.ofString "_law_drawn", nG), (Str.ofString "range", nG), (Str.ofString "len", nG), (Str.ofString "_law_factor", nG), (Str.ofString "Vector", nG), (Str.ofString "list", nG), (Str.ofString "_law_renamed", nG), (Str.ofString "b_set_levels_factor", nG), (Str.ofString "Refusal", nG), (Str.ofString "_law_is", nG), (Str.ofString "_law_compared", nG), (Str.ofString "_law_right", nG)]
inductive kPair (Γ : Gl) (c : Fm) (X : XS) (P : Loc → AH → Prop) (s2 : Stmt) (f : Flow) (ρ' : Loc) (H' : AH) : Prop
  | mk (e : f = .next) (h : T1 Γ c ρ' H' s2 (kCut P) X) : kPair Γ c X P s2 f ρ' H'
theorem sPair {Γ : Gl} {c : Fm} {ρ : Loc} {H : AH} {X : XS} {K : KS} {s1 s2 : Stmt} {rest : List Stmt} (P : Loc → AH → Prop) (h : T1 Γ c ρ H s1 (kPair Γ c X P s2) X)
    (k : ∀ ρ' H', P ρ' H' → TB Γ c ρ' H' rest K X) : TB Γ c ρ H (s1 :: s2 :: rest) K X :=
  sCons (TS.mono h (fun f ρ' H' ⟨e, z⟩ => by subst e; exact sCons (sCut P z fun ρ2 H2 p => k ρ2 H2 p)) fun _ _ _ z => z)
/-- words over a row -/
structure Wd (F : AH) (W R : Addr) (ws : List (Option Str)) (row : List Str) : Prop where
  w : F W = some (.list (ws.map keyV))
  r : F R = some (.list (row.map sv))
  inn : ∀ x, some x ∈ ws → x ∈ row
  lw : ws.length ≤ 5
  lr : row.length ≤ 6
  ok : ∀ x ∈ row, PyData.strOk x = true
theorem Wd.up {F F' : AH} {W R : Addr} {ws : List (Option Str)} {row : List Str} (h : Wd F W R ws row) (e : Ext F F') : Wd F' W R ws row := ⟨e _ _ h.w, e _ _ h.r, h.inn, h.lw, h.lr, h.ok⟩
theorem Wd.okw {F : AH} {W R : Addr} {ws : List (Option Str)} {row : List Str} (h : Wd F W R ws row) : ∀ x, some x ∈ ws → PyData.strOk x = true := fun x hx => h.ok x (h.inn x hx)
abbrev KT : KP := fun r _ => r = .bool true
/-- the state behind the renaming -/
structure At10 (ρ : Loc) (H : AH) (G W R f W2 R2 g : Addr) (hv : Value) (heads : Option (List Str)) (ws : List (Option Str)) (row : List Str) (falls : Bool) (ws2 : List (Option Str)) (row2 : List Str) : Prop where
  loc : Sub (locs [("grains", .ref G), ("row", .ref R), ("words", .ref W), ("falls", .bool falls), ("heads", hv), ("f", .ref f), ("words_then", .ref W2), ("row_then", .ref R2), ("g", .ref g)]) ρ
  gr : Gr H G
  wd : Wd (drop H G) W R ws row
  fac : Fac (drop H G) f (codesIn row ws) row falls heads
  hd : HdV (drop H G) hv heads
  wd2 : Wd (drop H G) W2 R2 ws2 row2
  fac2 : Fac (drop H G) g (codesIn row2 ws2) row2 falls heads
theorem HdV.er {H : AH} {hv : Value} {heads} (h : HdV H hv heads) : er hv = hv := by
  rcases h with ⟨_, rfl⟩ | ⟨A, _, _, rfl, _⟩ <;> rfl

-- MH8
/-- the state behind the drawing of the other side -/
structure At18 (ρ : Loc) (H : AH) (W2 R2 g O o : Addr) (side : Nat) (ov : Value) (ah falls : Bool) (ws2 : List (Option Str)) (row2 : List Str) (os : List (Option Str)) (r2 : Option (List Str)) : Prop where
  loc : Sub (locs [("words_then", .ref W2), ("row_then", .ref R2), ("falls", .bool falls), ("g", .ref g), ("side", nv side), ("other_row", ov), ("others", .ref O), ("other", .ref o), ("ahead", .bool ah)]) ρ
  wd2 : Wd H W2 R2 ws2 row2
  fac2 : Fac H g (codesIn row2 ws2) row2 falls none
  rv : RowV H ov r2
  iff : r2 = none ↔ side = 3
  O : H O = some (.list (os.map keyV))
  lo : os.length ≤ 5
  oko : ∀ x, some x ∈ os → PyData.strOk x = true
  op : Opd H o os falls r2
noncomputable def ops7 : List Str := ["==", "!=", "<", "<=", ">", ">=", "+"]
theorem ops7_ok : ∀ op ∈ ops7, OpA op := fun op h => by
  simp only [ops7, List.mem_cons, List.not_mem_nil, or_false] at h
  rcases h with h | h | h | h | h | h | h
  · exact .inl (.inl h)
  · exact .inl (.inr h)
  · exact .inr (.inl (.inl h))
  · exact .inr (.inl (.inr (.inl h)))
  · exact .inr (.inl (.inr (.inr (.inl h))))
  · exact .inr (.inl (.inr (.inr (.inr h))))
  · exact .inr (.inr (.inl h))
theorem Told.er {H : AH} {op : Str} {l r : List (Option Str)} {r1 r2 : Option (List Str)} {falls : Bool} {told : Value} {fault : Str} {N : Addr} (h : Told H op l r r1 r2 falls told fault N) : er told = told := by
  rcases h with ⟨_, _, w, rfl, _⟩ | ⟨_, _, _, ⟨_, rfl, _⟩ | ⟨_, _, w, rfl, _⟩⟩ <;> rfl
section
variable {Γ : Gl} {c : Fm} {ρ : Loc} {H : AH} {W2 R2 g O o : Addr} {side : Nat} {ov : Value} {ah falls : Bool} {ws2 : List (Option Str)} {row2 : List Str} {os : List (Option Str)} {r2 : Option (List Str)}
theorem law18 (hL : LaidF c lawNames 9) (hA : At18 ρ H W2 R2 g O o side ov ah falls ws2 row2 os r2) : TB Γ c ρ H (lawSts.drop 18) (RetK KT) nXS := by
  have hs := hL.nm
  have hg : ∀ {H'}, Ext H H' → Opd H' g ws2 falls (some row2) := fun e => ⟨hA.fac2.up e, hA.wd2.inn⟩
  have hrow : ∀ {H'}, Ext H H' → RowV H' (.ref R2) (some row2) := fun e => ⟨R2, rfl, e _ _ hA.wd2.r, by have := hA.wd2.lr; omega, hA.wd2.ok⟩
  have hro := hA.rv.er
  refine TS.weakL hA.loc ?_
  show TB Γ c _ H (_ :: _ :: _ :: _ :: _ :: []) _ _
  refine sCons ?_
  refine sForI (x := "op") hs rfl hL.hd ?_
  walk_at "mxs"
  refine ⟨by decide, fun b hb => ?_⟩
  have e1 := Ext.new (o := .list (ops7.map sv)) hb
  refine ⟨_, _, _, itbList (xs := ops7.map sv) upd_self, ForI.intro (as := ops7) (g := sv) (fun _ : Unit => locs [("words_then", .ref W2), ("row_then", .ref R2), ("falls", .bool falls), ("g", .ref g), ("side", nv side), ("other_row", ov), ("others", .ref O), ("other", .ref o), ("ahead", .bool ah)])
    (fun r _ H1 => (∀ op ∈ r, OpA op) ∧ Ext H H1 ∧ H1 b = some (.list (ops7.map sv))) () ⟨ops7_ok, e1, upd_self⟩ (Sub.refl _) ?_ ?_⟩
  · rintro op r _ H1 ⟨h1, h2, h3⟩
    have hop := h1 op (.head _)
    refine sCons (sCut (fun ρ' H' => Ext H1 H' ∧ Sub (locs [("words_then", .ref W2), ("row_then", .ref R2), ("falls", .bool falls), ("g", .ref g), ("side", nv side), ("other_row", ov), ("others", .ref O), ("other", .ref o), ("ahead", .bool ah), ("fits", .bool true)]) ρ') ?_ ?_)
    · walk_at "mxs"
      refine uBool ?_
      cases ah with
      | true =>
        walk_at "mif"
        refine sCons (sAsgT ?_ hL.hd rfl rfl rfl)
        walk_at "mxs"
        refine FS.uses' (hL.le (by decide)) hL.hd (fs_compared hop (hA.op.up h2) (hg h2) (.inr rfl)) ?_
        rintro _ H2 ⟨t, told, fault, N, rfl, e2, ht, hT⟩
        refine ⟨t, _, rfl, ht, rfl, ?_⟩
        refine stL (by assumption) rfl ?_
        refine stL (by assumption) rfl ?_
        refine stL (by assumption) rfl ?_
        refine tusNil ?_
        walk_at "mxs"
        refine ⟨by simp, fun t1 ht1 => ?_⟩
        have e3 := Ext.new (o := .tup [Value.ref O, .ref W2]) ht1
        walk_at "mxs"
        refine ⟨by simp, fun t2 ht2 => ?_⟩
        have e4 := Ext.new (o := .tup [ov, Value.ref R2]) ht2
        have e24 := (h2.trans e2).trans (e3.trans e4)
        walk_at "mxs"
        refine FS.uses' (hL.le (by decide)) hL.hd (fs_right (hT.up (e3.trans e4)) (.inr rfl) (e4 _ _ upd_self) (e24 _ _ hA.O) (e24 _ _ hA.wd2.w) (by have := hA.lo; omega) (by have := hA.wd2.lw; omega) hA.oko hA.wd2.okw upd_self (hA.rv.up e24) (hrow e24)) ?_
        rintro _ H5 ⟨rfl, e5⟩
        refine stL (by assumption) rfl ?_
        walk_at "mxs"
        exact ⟨rfl, (e2.trans (e3.trans e4)).trans e5, .cons rfl (.cons rfl (.cons rfl (.cons rfl (.cons rfl (.cons rfl (.cons rfl (.cons rfl (.cons rfl (.cons rfl .nil)))))))))⟩
      | false =>
        walk_at "mif"
        refine sCons (sAsgT ?_ hL.hd rfl rfl rfl)
        walk_at "mxs"
        refine FS.uses' (hL.le (by decide)) hL.hd (fs_compared hop (hg h2) (hA.op.up h2) (.inl rfl)) ?_
        rintro _ H2 ⟨t, told, fault, N, rfl, e2, ht, hT⟩
        refine ⟨t, _, rfl, ht, rfl, ?_⟩
        refine stL (by assumption) rfl ?_
        refine stL (by assumption) rfl ?_
        refine stL (by assumption) rfl ?_
        refine tusNil ?_
        walk_at "mxs"
        refine ⟨by simp, fun t1 ht1 => ?_⟩
        have e3 := Ext.new (o := .tup [Value.ref W2, .ref O]) ht1
        walk_at "mxs"
        refine ⟨by simp, fun t2 ht2 => ?_⟩
        have e4 := Ext.new (o := .tup [Value.ref R2, ov]) ht2
        have e24 := (h2.trans e2).trans (e3.trans e4)
        walk_at "mxs"
        refine FS.uses' (hL.le (by decide)) hL.hd (fs_right (hT.up (e3.trans e4)) (.inl rfl) (e4 _ _ upd_self) (e24 _ _ hA.wd2.w) (e24 _ _ hA.O) (by have := hA.wd2.lw; omega) (by have := hA.lo; omega) hA.wd2.okw hA.oko upd_self (hrow e24) (hA.rv.up e24)) ?_
        rintro _ H5 ⟨rfl, e5⟩
        refine stL (by assumption) rfl ?_
        walk_at "mxs"
        exact ⟨rfl, (e2.trans (e3.trans e4)).trans e5, .cons rfl (.cons rfl (.cons rfl (.cons rfl (.cons rfl (.cons rfl (.cons rfl (.cons rfl (.cons rfl (.cons rfl .nil)))))))))⟩
    · rintro ρ' H2 ⟨e2, hsub⟩
      refine TS.weakL hsub ?_
      walk_at "mxs"
      refine uBool ?_
      walk_at "mif"
      walk_at "mxs"
      exact ⟨e2 _ _ h3, (), .cons rfl (.cons rfl (.cons rfl (.cons rfl (.cons rfl (.cons rfl (.cons rfl (.cons rfl (.cons rfl .nil)))))))), fun op h => h1 op (.tail _ h), h2.trans e2, e2 _ _ h3⟩
  · rintro _ H1 ⟨_, h2, _⟩
    refine sCons (sAsgT ?_ hL.hd rfl rfl rfl)
    walk_at "mxs"
    refine FS.uses' (hL.le (by decide)) hL.hd (fs_compared1 (hg h2) rfl) ?_
    rintro _ H2 ⟨t, told, fault, N, rfl, e2, ht, hT⟩
    refine ⟨t, _, rfl, ht, rfl, ?_⟩
    refine stL (by assumption) rfl ?_
    refine stL (by assumption) rfl ?_
    refine stL (by assumption) rfl ?_
    refine tusNil ?_
    walk_at "mxs"
    refine ⟨by simp, fun n hn => ?_⟩
    have e3 := Ext.new (o := .list []) hn
    walk_at "mxs"
    refine ⟨by simp, fun t1 ht1 => ?_⟩
    have e4 := Ext.new (o := .tup [Value.ref W2, .ref n]) ht1
    walk_at "mxs"
    refine ⟨by simp, fun t2 ht2 => ?_⟩
    have e5 := Ext.new (o := .tup [Value.ref R2, .none]) ht2
    have e35 := (e3.trans e4).trans e5
    have e25 := (h2.trans e2).trans e35
    walk_at "mxs"
    refine FS.uses' (hL.le (by decide)) hL.hd (fs_right (r := []) (r2 := none) (hT.up e35) (.inl rfl) (e5 _ _ upd_self) (e25 _ _ hA.wd2.w) (e5 _ _ (e4 _ _ upd_self)) (by have := hA.wd2.lw; omega) (by simp) hA.wd2.okw (by simp) upd_self (hrow e25) rfl) ?_
    first | refine eRE fun H6 e6 => ?_ | rintro _ H6 ⟨rfl, e6⟩
    refine uBool ?_
    walk_at "mif"
    refine sNil ?_
    have e26 := e25.trans e6
    refine sCons (sIf (TT.cut (K := fun q H' => q = false ∧ Ext H H') ?_ ?_))
    · walk_at "mxs"
      refine oNeI (i := side) (j := 3) ⟨_, rfl, ?_⟩
      by_cases h3 : side = 3
      · subst h3
        first | refine ifN (by decide) ?_ | rw [if_neg (by decide)]
        exact ⟨rfl, e26⟩
      · first | refine ifP (by simp; omega) ?_ | rw [if_pos (by simp; omega)]
        walk_at "mxs"
        obtain ⟨row, hrow'⟩ : ∃ row, r2 = some row := by
          cases r2 with
          | none => exact absurd (hA.iff.mp rfl) h3
          | some row => exact ⟨row, rfl⟩
        have hop := hA.op
        have hrv := hA.rv
        rw [hrow'] at hop hrv
        obtain ⟨a, rfl, h1, _, _⟩ := hrv
        refine FS.uses' (hL.le (by decide)) hL.hd (fs_law_is (hop.1.up e26) (e26 _ _ hA.O) (e26 _ _ h1) hop.2 (by have := hA.lo; omega) (.inl ⟨rfl, rfl⟩)) ?_
        first | refine eRE fun H7 e7 => ?_ | rintro _ H7 ⟨rfl, e7⟩
        refine uBool ?_
        walk_at "mif"
        walk_at "mxs"
        exact ⟨rfl, e26.trans e7⟩
    first | refine eRE fun H7 e7 => ?_ | rintro _ H7 ⟨rfl, e7⟩
    first | refine ifN Bool.false_ne_true ?_ | rw [if_neg Bool.false_ne_true]
    walk_at "mxs"
    refine FS.uses' (hL.le (by decide)) hL.hd (fs_law_is (hA.fac2.up e7) (e7 _ _ hA.wd2.w) (e7 _ _ hA.wd2.r) hA.wd2.inn (by have := hA.wd2.lw; omega) (.inl ⟨rfl, rfl⟩)) ?_
    first | refine eRE fun H8 e8 => ?_ | rintro _ H8 ⟨rfl, e8⟩
    rfl
end

-- MH9
theorem At10.up {ρ : Loc} {H H' : AH} {G W R f W2 R2 g : Addr} {hv : Value} {heads : Option (List Str)} {ws : List (Option Str)} {row : List Str} {falls : Bool} {ws2 : List (Option Str)} {row2 : List Str}
    (h : At10 ρ H G W R f W2 R2 g hv heads ws row falls ws2 row2) (hG : Gr H' G) (e : Ext (drop H G) (drop H' G)) : At10 ρ H' G W R f W2 R2 g hv heads ws row falls ws2 row2 :=
  ⟨h.loc, hG, h.wd.up e, h.fac.up e, h.hd.up e, h.wd2.up e, h.fac2.up e⟩
theorem menu_keys (mr : List Str) : Value.none :: mr.map sv = (none :: mr.map some).map keyV := by
  rw [List.map_cons, List.map_map]; rfl
section
variable {Γ : Gl} {c : Fm} {ρ : Loc} {H : AH} {G W R f W2 R2 g : Addr} {hv : Value} {heads : Option (List Str)} {ws : List (Option Str)} {row : List Str} {falls : Bool} {ws2 : List (Option Str)} {row2 : List Str}
theorem law10 (hL : LaidF c lawNames 9) (hA : At10 ρ H G W R f W2 R2 g hv heads ws row falls ws2 row2) : TB Γ c ρ H (lawSts.drop 10) (RetK KT) nXS := by
  have hs := hL.nm
  refine TS.weakL hA.loc ?_
  show TB Γ c _ H (_ :: _ :: _ :: _ :: _ :: _ :: _ :: _ :: _ :: _ :: _ :: _ :: _ :: []) _ _
  have hG := hA.gr
  refine sCons (sIf (TT.cut (K := fun q H' => q = false ∧ Gr H' G ∧ Ext (drop H G) (drop H' G)) ?_ ?_))
  · walk_at "mxs"
    refine FS.uses' (hL.le (by decide)) hL.hd (FS.frameG hG (fs_law_is hA.fac2 hA.wd2.w hA.wd2.r hA.wd2.inn (by have := hA.wd2.lw; omega) hA.hd)) ?_
    first | refine eN1 fun hG1 H1 e1 => ?_ | refine eG1 fun H1 hG1 e1 => ?_ | rintro _ H1 ⟨hG1, rfl, e1⟩
    refine uBool ?_
    walk_at "mif"
    walk_at "mxs"
    refine FS.uses' (hL.le (by decide)) hL.hd (FS.frameG hG1 (fs_law_is (hA.fac.up e1) (hA.wd.up e1).w (hA.wd.up e1).r hA.wd.inn (by have := hA.wd.lw; omega) (hA.hd.up e1))) ?_
    first | refine eN1 fun hG2 H2 e2 => ?_ | refine eG1 fun H2 hG2 e2 => ?_ | rintro _ H2 ⟨hG2, rfl, e2⟩
    refine uBool ?_
    walk_at "mif"
    walk_at "mxs"
    exact ⟨rfl, hG2, e1.trans e2⟩
  rintro _ H1 ⟨rfl, hG1, e1⟩
  first | refine ifN Bool.false_ne_true ?_ | rw [if_neg Bool.false_ne_true]
  refine sNil ?_
  replace hA := hA.up hG1 e1
  clear hG e1 hG1
  refine sCons (sCut (fun ρ' H' => Gr H' G ∧ Ext (drop H1 G) (drop H' G) ∧ ∃ g', Fac (drop H' G) g' (codesIn row2 ws2) row2 falls none ∧ Sub (locs [("grains", .ref G), ("words_then", .ref W2), ("row_then", .ref R2), ("falls", .bool falls), ("g", .ref g')]) ρ') ?_ ?_)
  · rcases id hA.hd with ⟨rfl, rfl⟩ | ⟨A, hs', rfl, rfl, hA1, hl, hok⟩
    · walk_at "mxs"
      refine oIsNotN rfl ⟨_, rfl, ?_⟩
      walk_at "mif"
      walk_at "mxs"
      exact ⟨rfl, hA.gr, Ext.refl _, g, hA.fac2, .cons rfl (.cons rfl (.cons rfl (.cons rfl (.cons rfl .nil))))⟩
    · walk_at "mxs"
      refine oIsNotN rfl ⟨_, rfl, ?_⟩
      first | refine ifP (by rfl) ?_ | rw [if_pos (by rfl)]
      walk_at "mxs"
      refine FS.uses' (hL.le (by decide)) hL.hd (FS.frameG hA.gr (fs_law_factor hA.wd2.w hA.wd2.r hA.wd2.inn (by have := hA.wd2.lw; omega) (by have := hA.wd2.lr; omega) hA.wd2.ok (.inl ⟨rfl, rfl⟩))) ?_
      first | refine eG3 fun g' H2 hG2 e2 hf => ?_ | rintro _ H2 ⟨hG2, g', rfl, e2, hf⟩
      refine stL (by assumption) rfl ?_
      walk_at "mxs"
      exact ⟨rfl, hG2, e2, g', hf, .cons rfl (.cons rfl (.cons rfl (.cons rfl (.cons rfl .nil))))⟩
  rintro ρ2 H2 ⟨hG2, e2, g', hf, hsub⟩
  have hw2 := hA.wd2.up e2
  clear e2 hA
  refine TS.weakL hsub ?_
  walk_at "mxs"
  refine FS.uses' (hL.le (by decide)) hL.hd (fs_grain (m := 4) hG2 (by decide)) ?_
  first | refine eN3 fun side H3 hside hG3 e3 => ?_ | rintro _ H3 ⟨side, rfl, hside, hG3, e3⟩
  refine stL (by assumption) rfl ?_
  have hw3 := hw2.up e3
  have hf3 := hf.up e3
  have hlr := hw2.lr
  clear hw2 hf e3 hG2
  refine sCons (sCut (fun ρ' H' => Gr H' G ∧ Ext (drop H3 G) (drop H' G) ∧ ∃ ov r2, RowV (drop H' G) ov r2 ∧ (∀ r, r2 = some r → r.length ≤ 8) ∧ (r2 = none ↔ side = 3) ∧ Sub (locs [("grains", .ref G), ("words_then", .ref W2), ("row_then", .ref R2), ("falls", .bool falls), ("g", .ref g'), ("side", nv side), ("other_row", ov)]) ρ') ?_ ?_)
  · refine sAsg ?_
    iterate 4 walk_at "mx"
    refine xSlice3 ?_
    walk_at "mxs"
    refine tOptN (tOptN ?_)
    walk_at "mxs"
    refine oNeg (i := 1) ?_
    refine ⟨R2, _, none, none, some (-1), rfl, drop_ext _ _ hw3.r, by rw [List.length_map]; omega, rfl, rfl, rfl, by decide, fun b hb => ?_⟩
    rw [krv_pick]
    obtain ⟨hG4, e4, hb4⟩ := hG3.new (o := .list (row2.map sv).reverse) hb
    show TL _ _ _ _ (upd H3 b (.list (row2.map sv).reverse)) _ _
    walk_at "mxs"
    refine ⟨by simp, fun d hd => ?_⟩
    obtain ⟨hG5, e5, hd5⟩ := hG4.new (o := .list [sv "more"]) hd
    refine oAddL (xs := row2.map sv) (ys := [sv "more"]) (drop_ext _ _ (e5 _ _ (e4 _ _ hw3.r))) upd_self (by simp; omega) (fun m hm => ?_)
    obtain ⟨hG6, e6, hm6⟩ := hG5.new (o := .list (row2.map sv ++ [sv "more"])) hm
    walk_at "mxs"
    refine ⟨by simp, fun l hl => ?_⟩
    obtain ⟨hG7, e7, hl7⟩ := hG6.new (o := .list [Value.ref R2, .ref b, .ref m, .none]) hl
    have e37 := e4.trans (e5.trans (e6.trans e7))
    have k1 := e37 _ _ hw3.r
    have k2 := (e5.trans (e6.trans e7)) _ _ hb4
    have k3 := e7 _ _ hm6
    walk_at "mxs"
    obtain ⟨ov, r2, hrv, hln, hiff, hget⟩ : ∃ ov r2, RowV (drop (upd (upd (upd (upd H3 b (.list (row2.map sv).reverse)) d (.list [sv "more"])) m (.list (row2.map sv ++ [sv "more"]))) l (.list [Value.ref R2, .ref b, .ref m, .none])) G) ov r2 ∧ (∀ r, r2 = some r → r.length ≤ 8) ∧ (r2 = none ↔ side = 3) ∧ [Value.ref R2, .ref b, .ref m, .none][side]? = some ov := by
      obtain rfl | rfl | rfl | rfl : side = 0 ∨ side = 1 ∨ side = 2 ∨ side = 3 := by omega
      · exact ⟨_, some row2, ⟨R2, rfl, k1, by omega, hw3.ok⟩, by rintro r ⟨⟩; omega, by simp, rfl⟩
      · exact ⟨_, some row2.reverse, ⟨b, rfl, by rw [List.map_reverse]; exact k2, by rw [List.length_reverse]; omega, fun x hx => hw3.ok x (List.mem_reverse.mp hx)⟩, by rintro r ⟨⟩; rw [List.length_reverse]; omega, by simp, rfl⟩
      · exact ⟨_, some (row2 ++ [("more" : Str)]), ⟨m, rfl, by rw [List.map_append]; exact k3, by rw [List.length_append]; simp; omega, fun x hx => by
          rcases List.mem_append.mp hx with h | h
          · exact hw3.ok x h
          · rw [List.mem_singleton.mp h]; decide +kernel⟩, by rintro r ⟨⟩; rw [List.length_append]; simp; omega, by simp, rfl⟩
      · exact ⟨_, none, rfl, by rintro r ⟨⟩, by simp, rfl⟩
    refine .list (n := side) upd_self hget (by omega) ?_
    refine stL (by assumption) rfl ?_
    exact ⟨rfl, hG7, e37, ov, r2, hrv, hln, hiff, .cons rfl (.cons rfl (.cons rfl (.cons rfl (.cons rfl (.cons rfl (.cons rfl .nil))))))⟩
  rintro ρ4 H4 ⟨hG4, e4, ov, r2, hrv, hln, hiff, hsub4⟩
  have hw4 := hw3.up e4
  have hf4 := hf3.up e4
  clear hw3 hf3 e4 hG3 hsub
  refine TS.weakL hsub4 ?_
  refine sCons (sAsg (xBin ?_))
  walk_at "mxs"
  refine ⟨by simp, fun a ha => ?_⟩
  obtain ⟨hG5, e5, ha5⟩ := hG4.new (o := .list [.none]) ha
  have hw5 := hw4.up e5
  have hf5 := hf4.up e5
  have hrv5 := hrv.up e5
  clear hw4 hf4 hrv e5 hG4
  generalize upd H4 a (.list [.none]) = H5 at *
  refine TX.cut (K := fun v H' => Gr H' G ∧ Ext (drop H5 G) (drop H' G) ∧ ∃ b mr, v = .ref b ∧ drop H' G b = some (.list (mr.map sv)) ∧ mr.length ≤ 8 ∧ (∀ r, r2 = some r → mr = r) ∧ ∀ x ∈ mr, PyData.strOk x = true) ?_ ?_
  · walk_at "mxs"
    refine oEqI (i := side) (j := 3) ⟨_, rfl, ?_⟩
    cases r2 with
    | none =>
      have h3 : side = 3 := hiff.mp rfl
      subst h3
      first | refine ifP (by decide) ?_ | rw [if_pos (by decide)]
      walk_at "mxs"
      refine ⟨by simp, fun d hd => ?_⟩
      obtain ⟨hG6, e6, hd6⟩ := hG5.new (o := .list [sv "zz"]) hd
      refine oAddL (xs := row2.map sv) (ys := [sv "zz"]) (drop_ext _ _ (e6 _ _ hw5.r)) upd_self (by simp; omega) (fun m hm => ?_)
      obtain ⟨hG7, e7, hm7⟩ := hG6.new (o := .list (row2.map sv ++ [sv "zz"])) hm
      refine ⟨hG7, e6.trans e7, m, row2 ++ [("zz" : Str)], rfl, by rw [List.map_append]; exact hm7, by rw [List.length_append]; simp; omega, by simp, fun x hx => ?_⟩
      rcases List.mem_append.mp hx with h | h
      · exact hw5.ok x h
      · rw [List.mem_singleton.mp h]; decide +kernel
    | some r =>
      have h3 : side ≠ 3 := fun h => by have := hiff.mpr h; cases this
      first | refine ifN (by simp; omega) ?_ | rw [if_neg (by simp; omega)]
      obtain ⟨b, rfl, hb, hl, hok⟩ := hrv5
      walk_at "mxs"
      exact ⟨hG5, Ext.refl _, b, r, rfl, hb, hln r rfl, fun _ h => by cases h; rfl, hok⟩
  rintro _ H6 ⟨hG6, e6, b, mr, rfl, hb6, hmz, hmr, hmok⟩
  have hw6 := hw5.up e6
  have hf6 := hf5.up e6
  have hrv6 := hrv5.up e6
  refine oAddL (xs := [.none]) (ys := mr.map sv) (drop_ext _ _ (e6 _ _ ha5)) (drop_ext _ _ hb6) (by simp; omega) (fun m hm => ?_)
  obtain ⟨hG7, e7, hm7⟩ := hG6.new (o := .list ([.none] ++ mr.map sv)) hm
  refine stL (by assumption) rfl ?_
  have hw7 := hw6.up e7
  have hf7 := hf6.up e7
  have hrv7 := hrv6.up e7
  clear hw6 hf6 hrv6 hw5 hf5 hrv5 e7 e6 hG6 hG5 hb6 ha5
  generalize upd H6 m (.list ([.none] ++ mr.map sv)) = H7 at *
  walk_at "mxs"
  refine FS.uses' (hL.le (by decide)) hL.hd (fs_drawn (ms := none :: mr.map some) (least := 0) (most := 5) hG7 (by rw [hm7, ← menu_keys]; rfl) (by simp) (by simp; omega) (by decide) (by decide)) ?_
  rintro _ H8 ⟨O, os, rfl, _, hlo, hos, hO, hG8, e8⟩
  refine stL (by assumption) rfl ?_
  have hw8 := hw7.up e8
  have hf8 := hf7.up e8
  have hrv8 := hrv7.up e8
  clear hw7 hf7 hrv7 e8 hG7 hm7
  have hoin : ∀ x, some x ∈ os → x ∈ mr := fun x hx => by
    have := hos _ hx
    simpa using this
  refine sCons (sAsg (TX.cut (K := fun v H' => Gr H' G ∧ Ext (drop H8 G) (drop H' G) ∧ ∃ o, v = .ref o ∧ Opd (drop H' G) o os falls r2) ?_ ?_))
  · walk_at "mxs"
    refine oEqI (i := side) (j := 3) ⟨_, rfl, ?_⟩
    cases r2 with
    | none =>
      have h3 : side = 3 := hiff.mp rfl
      subst h3
      first | refine ifP (by decide) ?_ | rw [if_pos (by decide)]
      walk_at "mxs"
      refine bListL (drop_ext _ _ hO) (by rw [List.length_map]; omega) (fun b hb => ?_)
      obtain ⟨hG9, e9, hb9⟩ := hG8.new (o := .list (os.map keyV)) hb
      walk_at "mxs"
      refine FS.uses' (hL.le (by decide)) hL.hd (FS.frameG hG9 fs_vec3) ?_
      first | refine eV3 fun hG10 v dx H10 n => ?_ | rintro _ H10 ⟨hG10, v, dx, rfl, n⟩
      exact ⟨hG10, e9.trans n.ext, v, rfl, ⟨b, n.vc, n.ext _ _ hb9⟩, by omega⟩
    | some r =>
      have h3 : side ≠ 3 := fun h => by have := hiff.mpr h; cases this
      first | refine ifN (by simp; omega) ?_ | rw [if_neg (by simp; omega)]
      obtain ⟨b, rfl, hb, hl, hok⟩ := hrv8
      have := hmr r rfl
      subst this
      walk_at "mxs"
      refine FS.uses' (hL.le (by decide)) hL.hd (FS.frameG hG8 (fs_law_factor hO hb hoin (by omega) hl hok (.inl ⟨rfl, rfl⟩))) ?_
      first | refine eG3 fun o H9 hG9 e9 hf9 => ?_ | rintro _ H9 ⟨hG9, o, rfl, e9, hf9⟩
      exact ⟨hG9, e9, o, rfl, hf9, hoin⟩
  first | refine eV3 fun hG9 e9 o H9 hop => ?_ | rintro _ H9 ⟨hG9, e9, o, rfl, hop⟩
  refine stL (by assumption) rfl ?_
  walk_at "mxs"
  refine FS.uses' (hL.le (by decide)) hL.hd (fs_grain (m := 2) hG9 (by decide)) ?_
  first | refine eN3 fun n H10 _ hG10 e10 => ?_ | rintro _ H10 ⟨n, rfl, _, hG10, e10⟩
  walk_at "mxs"
  refine oEqI (i := n) (j := 1) ?_
  refine stL (by assumption) rfl ?_
  have e810 := (e9.trans e10).trans drop_ext
  exact law18 (side := side) (o := o) hL ⟨.cons rfl (.cons rfl (.cons rfl (.cons rfl (.cons rfl (.cons rfl (.cons rfl (.cons rfl (.cons rfl .nil)))))))), hw8.up e810, hf8.up e810, hrv8.up e810, hiff, e810 _ _ hO, hlo, fun x hx => hmok x (hoin x hx), hop.up (e10.trans drop_ext)⟩
end

-- MH10
theorem swaps_cell {e : Env} {elt : Expr} {gens : List Comprehension} {scope : Scope} {pos py : Pos} {y : Str} {n : Nat} (hk : e.kindOf y = some .cell) : swapsWith (.ListComp elt gens scope pos) (some (.Name y py)) n e = pure false := by
  unfold swapsWith
  simp only [hk]
  rw [show ((some NameKind.cell : Option NameKind) == some NameKind.local) = false from rfl]
  simp
/-- a slice of a list that nothing else holds -/
theorem xSliceT {Γ : Gl} {c : Fm} {ρ : Loc} {H : AH} {K : KP} {X : XP} {value : Expr} {lo hi : Option Expr} {p pos : Pos}
    (h : TX Γ c ρ H value (fun o H1 => TOpt Γ c ρ H1 lo (fun l H2 => TOpt Γ c ρ H2 hi (fun u H3 => ∃ a xs li ui, o = .ref a ∧ H3 a = some (.list xs) ∧ xs.length ≤ 1000 ∧ l = partI li ∧ u = partI ui ∧
      ∀ b, H3 b = none → K (.ref b) (upd H3 b (.list (slicePick xs.toArray li ui none).toList))) X) X) X) : TX Γ c ρ H (.Subscript value (.Slice lo hi none p) pos) K X := fun g s R => by
  rw [arm_eval_Subscript]
  refine wpAny_bind (wpAny_mono (h g s R) (fun o s1 ⟨H1, R1, h1⟩ => wpAny_bind (wpAny_holding (wpAny_Slice (wpAny_mono (part_go h1 g s1 R1) (fun l s2 ⟨H2, R2, h2⟩ => wpAny_mono (part_go h2 g s2 R2) (fun u s3 ⟨H3, R3, h3⟩ => ?_) fun _ _ z => z) fun _ _ z => z)))) fun _ _ z => z)
  rw [evalPart_none]
  obtain ⟨a, xs, li, ui, eo, ha, hz, el, eu, k⟩ := h3
  have R4 : Rel Γ c g ρ H3 { s3 with heap := s3.heap.push { cls := .type "slice", data := .fields #[l, u, .none] } } := R3.grow (tk := s3.toks) fun b o q => Heap.get?_push_of_some _ q
  refine wpAny_pure ?_
  refine wpAny_bind (wpAny_standAt ?_)
  obtain ⟨hT, hw⟩ := tSlice (sl := s3.heap.objs.size) (vl := l) (vu := u) (vs := Value.none) ha hz (by simp) el eu rfl eo k g _ R4 (Heap.IsSliceOf.new ..)
  have fin : wpAny (model PR Γ.w) c.A (subscripted (.Slice lo hi none p) false o (.ref s3.heap.objs.size)) (fun r s₃ => wpAny (model PR Γ.w) c.A (letTemporaryGo value o r >>= fun _ => pure r) (PA Γ c g ρ (kEr K)) (EXp Γ c g ρ X) s₃) (EXp Γ c g ρ X) { s3 with heap := s3.heap.push { cls := .type "slice", data := .fields #[l, u, .none] } } := by
    rw [show subscripted (.Slice lo hi none p) false o (.ref s3.heap.objs.size) = operate [.ref s3.heap.objs.size, o] (getItem o (.ref s3.heap.objs.size)) from rfl]
    exact wpAny_operateT (wpAny_mono hw (fun r s₃ h₃ => wpAny_bind (wpAny_letTemporaryGo (wpAny_pure h₃))) fun _ _ x => x)
  first
    | (refine wpAny_bind ?_
       rw [getitemInPython_of_ne hT.not_modules]
       refine wpAny_bind (wpAny_specialOf hT list_getitem_lookup ?_)
       first
         | exact wpAny_pure (wpAny_bind fin)
         | exact wpAny_bind (wpAny_pure (wpAny_bind fin))
         | exact wpAny_bind fin)
    | (refine wpAny_bind (wpAny_specialOf hT list_getitem_lookup ?_)
       first
         | exact wpAny_bind (wpAny_pure (wpAny_bind fin))
         | exact wpAny_bind fin)
/-- a comprehension with an invariant over what has been done -/
theorem CompP.invD {α : Type} {as : List α} {g : α → Value} {N : Names} {k : Nat} {hd : Bool} {x : Str} {ρ₀ : Loc} {elt : Expr} {Hc : AH → Prop} {K : KP} {H : AH} (I : List α → List Value → AH → Prop) (h0 : I [] [] H)
    (step : ∀ d a r, d ++ a :: r = as → ∀ ys H', I d ys H' → ∀ c : Fm, c.e.scope.names = N → c.k = k → c.hd = hd → TX Γ c (upd ρ₀ x (g a)) H' elt (fun y H2 => I (d ++ [a]) (ys ++ [y]) H2) nX) (hc : ∀ d ys H', I d ys H' → Hc H')
    (fin : ∀ ys D H', I as ys H' → H' D = none → K (.ref D) (upd H' D (.list ys))) : CompP Γ N k hd x ρ₀ [] elt Hc K (as.map g) [] H := by
  have go : ∀ (r d : List α) (ys : List Value) (H' : AH), d ++ r = as → I d ys H' → CompP Γ N k hd x ρ₀ [] elt Hc K (r.map g) ys H' := by
    intro r
    induction r with
    | nil => intro d ys H' e hi D hD; rw [List.append_nil] at e; subst e; exact fin ys D H' hi hD
    | cons v r ih =>
      intro d ys H' e hi c h1 h2 h3
      simp only [CTest, if_true]
      refine (step d v r e ys H' hi c h1 h2 h3).mono (fun y H2 e2 => ⟨hc _ _ _ e2, ih (d ++ [v]) (ys ++ [y]) H2 (by rw [List.append_assoc]; exact e) e2⟩) fun _ _ z => z
  exact go as [] [] H rfl h0
/-- what the renaming leaves -/
noncomputable def Done10 (G : Addr) (ρ : Loc) (H : AH) : Prop := ∃ W R f W2 R2 g hv heads ws row falls ws2 row2, At10 ρ H G W R f W2 R2 g hv heads ws row falls ws2 row2
theorem tops_pick {n : Nat} (hn : n < 3) : ∃ tops : List Str, (slicePick (([("P" : Str), "Q", "R"].map sv)).toArray none (some (1 + (n : Int))) none).toList = tops.map sv ∧ tops.length ≤ 3 ∧ tops.Nodup ∧ ∀ x ∈ tops, PyData.strOk x = true := by
  obtain rfl | rfl | rfl : n = 0 ∨ n = 1 ∨ n = 2 := by omega
  · exact ⟨["P"], rfl, by decide, by decide, by decide +kernel⟩
  · exact ⟨["P", "Q"], rfl, by decide, by decide, by decide +kernel⟩
  · exact ⟨["P", "Q", "R"], rfl, by decide, by decide, by decide +kernel⟩
theorem Gr.up {H H' : AH} {G : Addr} (h : Gr H G) (e : Ext H H') : Gr H' G := let ⟨gs, a, b⟩ := h; ⟨gs, a, e _ _ b⟩
theorem Gr.some {H : AH} {G : Addr} (h : Gr H G) : ∃ o, H G = .some o := let ⟨gs, a, b⟩ := h; ⟨_, b⟩
/-- a made Vector, seen beside G after a change at D -/
theorem NV.beside {H H' H'' : AH} {v dx it : Addr} {kind : Str} {xs : List Value} (n : NV H H' v dx kind (.ref it) .none) (hi : H it = some (.list xs)) (hk : ∀ a, (H a = none ∨ a = it) → ∀ o, H' a = some o → H'' a = some o) : PV H'' v kind xs :=
  ⟨it, ⟨dx, hk _ (.inl n.nv) _ n.iv, hk _ (.inl n.nd) _ n.id⟩, hk _ (.inr rfl) _ (n.ext _ _ hi)⟩
theorem zip_fst {α β : Type} : ∀ {xs : List α} {ys : List β}, xs.length = ys.length → (xs.zip ys).map (·.1) = xs
  | [], [], _ => rfl
  | x :: xs, y :: ys, h => by rw [List.zip_cons_cons, List.map_cons, zip_fst (by simpa using h)]
theorem pairs_snoc {α β : Type} {P : α → β → Prop} {xs : List α} {ys : List β} {x : α} {y : β} (hl : xs.length = ys.length) (h : ∀ (i : Nat) a b, xs[i]? = some a → ys[i]? = some b → P a b) (hx : P x y) : ∀ (i : Nat) a b, (xs ++ [x])[i]? = some a → (ys ++ [y])[i]? = some b → P a b := fun i a b ha hb => by
  by_cases hi : i < xs.length
  · rw [List.getElem?_append_left hi] at ha
    rw [List.getElem?_append_left (by omega)] at hb
    exact h i a b ha hb
  · rw [List.getElem?_append_right (by omega)] at ha
    rw [List.getElem?_append_right (by omega), ← hl] at hb
    cases q : i - xs.length with
    | zero => rw [q] at ha hb; cases ha; cases hb; exact hx
    | succ n => rw [q] at ha; simp at ha
theorem word_ok {w : Option Str} {row : List Str} (h : ∀ x, w = some x → x ∈ row) (hok : ∀ x ∈ row, PyData.strOk x = true) : ∀ x, w = some x → PyData.strOk x = true := fun x hx => hok x (h x hx)
/-- the state ahead of the renaming -/
structure At8 (ρ : Loc) (H : AH) (G W R f : Addr) (way : Nat) (hv : Value) (heads : Option (List Str)) (ws : List (Option Str)) (row : List Str) (falls : Bool) : Prop where
  loc : Sub (locs [("grains", .ref G), ("way", nv way), ("row", .ref R), ("words", .ref W), ("falls", .bool falls), ("heads", hv), ("f", .ref f)]) ρ
  gr : Gr H G
  wd : Wd (drop H G) W R ws row
  fac : Fac (drop H G) f (codesIn row ws) row falls heads
  hd : HdV (drop H G) hv heads
  wlt : way < 4
  no : way = 3 → heads = none
section
variable {Γ : Gl} {c : Fm} {ρ : Loc} {H : AH} {G W R f : Addr} {way : Nat} {hv : Value} {heads : Option (List Str)} {ws : List (Option Str)} {row : List Str} {falls : Bool}
theorem law8L (hL : LaidF c lawNames 9) (hA : At8 ρ H G W R f 3 hv heads ws row falls) : TB Γ c ρ H (lawSts.drop 8) (RetK KT) nXS := by
  have hs := hL.nm
  refine TS.weakL hA.loc ?_
  show TB Γ c _ H (_ :: _ :: _ :: _ :: _ :: _ :: _ :: _ :: _ :: _ :: _ :: _ :: _ :: _ :: _ :: []) _ _
  have hG := hA.gr
  refine sPair (Done10 G) ?_ (fun ρ' H' ⟨W, R, f, W2, R2, g, hv, heads, ws, row, falls, ws2, row2, h⟩ => law10 hL h)
  walk_at "mxs"
  refine oEqI (i := 3) (j := 3) ⟨_, rfl, ?_⟩
  walk_at "mif"
  -- tops
  refine sCons (sAsg (xSliceT ?_))
  walk_at "mxs"
  refine ⟨by simp, fun a ha => ?_⟩
  obtain ⟨hG1, e1, ha1⟩ := hG.new (o := .list ([("P" : Str), "Q", "R"].map sv)) ha
  show TOpt Γ c _ (upd H a (.list ([("P" : Str), "Q", "R"].map sv))) _ _ _
  refine tOptN (tOptS ?_)
  walk_at "mxs"
  refine FS.uses' (hL.le (by decide)) hL.hd (fs_grain (m := 3) hG1 (by decide)) ?_
  first | refine eN3 fun n H2 hn hG2 e2 => ?_ | rintro _ H2 ⟨n, rfl, hn, hG2, e2⟩
  refine oAdd (i := 1) (j := n) ?_
  obtain ⟨tops, htops, htl, htn, htok⟩ := tops_pick hn
  refine ⟨a, _, none, some (1 + (n : Int)), rfl, drop_ext _ _ (e2 _ _ ha1), by simp, rfl, rfl, fun T hT => ?_⟩
  rw [htops]
  obtain ⟨hG3, e3, hT3⟩ := hG2.new (o := .list (tops.map sv)) hT
  refine stC (by assumption) rfl (hL.cell _ rfl) ?_
  have e03 := (e1.trans e2).trans e3
  have hwd := hA.wd.up e03
  have hf := hA.fac.up e03
  have hno := hA.no rfl
  subst hno
  have hhd := hA.hd.up e03
  clear e03 e1 e2 e3 hG1 hG2 hG ha1
  generalize upd H2 T (.list (tops.map sv)) = H3 at *
  -- olds
  refine sCons (sAsg ?_ (swaps_cell (lookup_kind hs rfl)))
  refine xComp hs rfl hL.hd rfl ?_
  walk_at "mxs"
  refine ⟨_, _, _, itbList (drop_ext _ _ hT3), by rw [List.length_map]; omega, CompP.invD (as := tops) (g := sv) (fun d ys H' => Gr H' G ∧ Ext (drop H3 G) (drop H' G) ∧ ∃ ps : List (Addr × List (Option Str)), ys = ps.map (fun p => Value.ref p.1) ∧ ps.length = d.length ∧ ∀ p ∈ ps, drop H' G p.1 = some (.list (p.2.map keyV)) ∧ p.2.length ≤ 2 ∧ ∀ x, some x ∈ p.2 → PyData.strOk x = true) ⟨hG3, Ext.refl _, [], rfl, rfl, by simp⟩ ?_ (fun d ys H' ⟨h1, h2, _⟩ => drop_ext _ _ (h2 _ _ hT3)) ?_⟩
  · rintro d t r hdr ys H4 ⟨hG4, e4, ps, rfl, hpl, hps⟩ c' hs' hk hhd'
    walk_at "mxs"
    refine ⟨by simp, fun m hm => ?_⟩
    obtain ⟨hG5, e5, hm5⟩ := hG4.new (o := .list ([some ("b" : Str), some "a", some "c", some "d", some "zz", none].map keyV)) hm
    show TL Γ c' _ _ (upd H4 m (.list ([some ("b" : Str), some "a", some "c", some "d", some "zz", none].map keyV))) _ _
    walk_at "mxs"
    refine fun wz hw => FS.use' (by rw [hk, hL.k]; decide) (hhd'.trans hL.hd) hw (fs_drawn (ms := [some ("b" : Str), some "a", some "c", some "d", some "zz", none]) (least := 1) (most := 2) hG5 hm5 (by decide) (by decide) (by decide) (by decide)) ?_
    rintro _ H6 ⟨b, os, rfl, _, ho2, hos, hb6, hG6, e6⟩
    refine ⟨hG6, (e4.trans e5).trans e6, ps ++ [(b, os)], by rw [List.map_append]; rfl, by rw [List.length_append, List.length_append]; simp; omega, fun p hp => ?_⟩
    rcases List.mem_append.mp hp with hp | hp
    · obtain ⟨q1, q2, q3⟩ := hps p hp
      exact ⟨e6 _ _ (e5 _ _ q1), q2, q3⟩
    · rw [List.mem_singleton.mp hp]
      refine ⟨hb6, ho2, fun x hx => ?_⟩
      have := hos _ hx
      have hall : ∀ w ∈ [some ("b" : Str), some "a", some "c", some "d", some "zz", none], ∀ x, w = some x → PyData.strOk x = true := by decide +kernel
      exact hall _ this x rfl
  rintro _ P H4 ⟨hG4, e4, prs, rfl, hpl, hprs⟩ hP
  obtain ⟨hG5, e5, hP5⟩ := hG4.new (o := .list (prs.map fun p => Value.ref p.1)) hP
  refine stC (by assumption) rfl (hL.cell _ rfl) ?_
  replace hwd := (hwd.up e4).up e5
  replace hf := (hf.up e4).up e5
  replace hhd := (hhd.up e4).up e5
  replace hT3 := e5 _ _ (e4 _ _ hT3)
  replace hprs := fun p hp => (⟨e5 _ _ (hprs p hp).1, (hprs p hp).2⟩ : _ ∧ _)
  clear e4 e5 hG4 hG3
  generalize upd H4 P (.list (prs.map fun p => Value.ref p.1)) = H5 at *
  -- value
  obtain ⟨oG, hGo⟩ := hG5.some
  refine sCons (sAsg ?_)
  walk_at "mxs"
  refine xComp hs rfl hL.hd rfl ?_
  walk_at "mxs"
  refine ⟨_, _, _, itbList (drop_ext _ _ hP5), by rw [List.length_map]; omega, CompP.invD (as := prs) (g := fun p => Value.ref p.1) (fun d ys H' => Ext H5 H' ∧ ∃ vs : List Addr, ys = vs.map Value.ref ∧ vs.length = d.length ∧ ∀ (i : Nat) a p, vs[i]? = some a → d[i]? = some p → PV (drop H' G) a "character" (p.2.map keyV)) ⟨Ext.refl _, [], rfl, rfl, by simp⟩ ?_ (fun d ys H' ⟨h1, _⟩ => h1 _ _ (drop_ext _ _ hP5)) ?_⟩
  · rintro d pr r hdr ys H6 ⟨e6, vs, rfl, hvl, hvs⟩ c' hs' hk hhd'
    obtain ⟨q1, q2, q3⟩ := hprs pr (by rw [← hdr]; simp)
    walk_at "mxs"
    refine bListL (e6 _ _ (drop_ext _ _ q1)) (by rw [List.length_map]; omega) (fun b hb => ?_)
    walk_at "mxs"
    refine fun wz hw => FS.use' (by rw [hk, hL.k]; decide) (hhd'.trans hL.hd) hw fs_vec3 ?_
    first | refine eV2 fun v dx H8 n => ?_ | refine eG2 fun dx H8 v n => ?_ | rintro _ H8 ⟨v, dx, rfl, n⟩
    have e68 := (Ext.new (o := .list (pr.2.map keyV)) hb).trans n.ext
    refine ⟨e6.trans e68, vs ++ [v], by rw [List.map_append]; rfl, by rw [List.length_append, List.length_append, hvl]; rfl, pairs_snoc hvl (fun i a p h1 h2 => (hvs i a p h1 h2).up (drop_mono e68)) ?_⟩
    refine n.beside upd_self fun a ha o ho => drop_some ho ?_
    rintro rfl
    rcases ha with ha | rfl
    · rw [upd_of hb (e6 _ _ hGo)] at ha; cases ha
    · rw [e6 _ _ hGo] at hb; cases hb
  rintro _ V H6 ⟨e6, vs, rfl, hvl, hvs⟩ hV
  have hGV : G ≠ V := ne_of_none (e6 _ _ hGo) hV
  have e5V : Ext H5 (upd H6 V (.list (vs.map Value.ref))) := e6.upd hV
  have hVV := upd_self (H := H6) (a := V) (o := AO.list (vs.map Value.ref))
  have hvsV : ∀ (i : Nat) a p, vs[i]? = some a → prs[i]? = some p → PV (drop (upd H6 V (.list (vs.map Value.ref))) G) a "character" (p.2.map keyV) := fun i a p h1 h2 => (hvs i a p h1 h2).up (drop_mono (Ext.new hV))
  clear hvs e6
  generalize upd H6 V (.list (vs.map Value.ref)) = HV at *
  walk_at "mxs"
  refine xDict1 fun D hD => ?_
  walk_at "mxs"
  have hGD : G ≠ D := ne_of_none (e5V _ _ hGo) hD
  have e5D := e5V.trans (Ext.new (o := .dict [] 0) hD)
  refine bListL (e5D _ _ (drop_ext _ _ hT3)) (by rw [List.length_map]; omega) (fun b hb => ?_)
  walk_at "mxs"
  refine FS.uses' (hL.le (by decide)) hL.hd fs_vec3 ?_
  first | refine eV2 fun nm dx9 H9 n9 => ?_ | refine eG2 fun dx9 H9 nm n9 => ?_ | rintro _ H9 ⟨nm, dx9, rfl, n9⟩
  have hbD : D ≠ b := ne_of_none upd_self hb
  have eb9 : Ext (upd HV D (.dict [] 0)) H9 := (Ext.new hb).trans n9.ext
  refine ⟨some "names", rfl, ⟨0, eb9 _ _ upd_self⟩, fun ep => ?_⟩
  have eV9 : Ext HV (upd H9 D (.dict [(some "names", .ref nm)] ep)) := ((Ext.new hD).trans eb9).upd' hD
  walk_at "mxs"
  refine FS.uses' (hL.le (by decide)) hL.hd fs_vec4 ?_
  first | refine eV2 fun v dx H10 n10 => ?_ | refine eG2 fun dx H10 v n10 => ?_ | rintro _ H10 ⟨v, dx, rfl, n10⟩
  refine stL (by assumption) rfl ?_
  have eV10 := eV9.trans n10.ext
  have e510 := e5V.trans eV10
  have hne : ∀ {a}, upd H9 D (.dict [(some ("names" : Str), Value.ref nm)] ep) a = none → a ≠ G := fun h1 h2 => by
    rw [h2, eV9 _ _ (e5V _ _ hGo)] at h1; cases h1
  have hnm : PV (drop H10 G) nm "character" (tops.map sv) := by
    refine n9.beside upd_self fun a ha o ho => ?_
    have haD : a ≠ D := by
      rintro rfl
      rcases ha with ha | rfl
      · rw [upd_ne hbD, upd_self] at ha; cases ha
      · exact hbD rfl
    refine drop_some (n10.ext _ _ (by rw [upd_ne haD]; exact ho)) ?_
    rintro rfl
    rcases ha with ha | rfl
    · rw [upd_of hb (upd_of hD (e5V _ _ hGo))] at ha; cases ha
    · rw [upd_of hD (e5V _ _ hGo)] at hb; cases hb
  have hD10 : drop H10 G D = some (.dict [(some "names", .ref nm)] ep) := drop_some (n10.ext _ _ upd_self) hGD.symm
  have hv10 : Vc (drop H10 G) v "list" (.ref V) (.ref D) := ⟨dx, drop_some n10.iv (hne n10.nv), drop_some n10.id (hne n10.nd)⟩
  have hV10 : drop H10 G V = some (.list (vs.map Value.ref)) := drop_some (eV10 _ _ hVV) hGV.symm
  have d510 := drop_mono (N := G) e510
  have hpsl : tops.length = (prs.map (·.2)).length := by rw [List.length_map]; omega
  have hfst := zip_fst hpsl
  have hpv : PartsV (drop H10 G) vs (tops.zip (prs.map (·.2))) := by
    refine ⟨by rw [List.length_zip, ← hpsl, Nat.min_self]; omega, fun i a p h1 h2 => ?_⟩
    obtain ⟨_, h3⟩ := List.getElem?_zip_eq_some.mp h2
    rw [List.getElem?_map, Option.map_eq_some_iff] at h3
    obtain ⟨pr, h4, h5⟩ := h3
    rw [← h5]
    exact (hvsV i a pr h1 h4).up (drop_mono eV10)
  have hpt : Parts (drop H10 G) P (tops.zip (prs.map (·.2))) := by
    refine ⟨prs.map (·.1), by rw [List.map_map]; exact d510 _ _ hP5, by rw [List.length_map, List.length_zip, ← hpsl, Nat.min_self]; omega, fun i a p h1 h2 => ?_⟩
    obtain ⟨_, h3⟩ := List.getElem?_zip_eq_some.mp h2
    rw [List.getElem?_map, Option.map_eq_some_iff] at h1 h3
    obtain ⟨pr, h4, h5⟩ := h3
    obtain ⟨pr', h6, h7⟩ := h1
    rw [h4] at h6; cases h6
    rw [← h5, ← h7]
    exact d510 _ _ (hprs pr (List.mem_of_getElem? h4)).1
  have hT10 : drop H10 G T = some (.list (((tops.zip (prs.map (·.2))).map (·.1)).map sv)) := by rw [hfst]; exact d510 _ _ hT3
  have hpz : (tops.zip (prs.map (·.2))).length ≤ 3 := by rw [List.length_zip]; omega
  have hmem : ∀ p ∈ tops.zip (prs.map (·.2)), p.1 ∈ tops ∧ ∃ pr ∈ prs, p.2 = pr.2 := fun p hp => by
    have := List.of_mem_zip (a := p.1) (b := p.2) hp
    refine ⟨this.1, ?_⟩
    obtain ⟨pr, h1, h2⟩ := List.mem_map.mp this.2
    exact ⟨pr, h1, h2.symm⟩
  have hpok : ∀ p ∈ tops.zip (prs.map (·.2)), ∀ x, some x ∈ p.2 → PyData.strOk x = true := fun p hp x hx => by
    obtain ⟨_, pr, h1, h2⟩ := hmem p hp
    exact (hprs pr h1).2.2 x (h2 ▸ hx)
  have hp2 : ∀ p ∈ tops.zip (prs.map (·.2)), p.2.length ≤ 5 := fun p hp => by
    obtain ⟨_, pr, h1, h2⟩ := hmem p hp
    have := (hprs pr h1).2.1
    rw [h2]; omega
  replace hwd := hwd.up d510
  replace hf := hf.up d510
  replace hhd := hhd.up d510
  have hG10 := hG5.up e510
  clear hne hvsV hprs d510 eV10 eV9 e510 n10 n9 hP5 hT3
  generalize hps : tops.zip (prs.map (·.2)) = ps at *
  -- words_then
  refine sCons (sAsgComp hs rfl hL.hd rfl rfl rfl rfl ?_)
  walk_at "mxs"
  refine ⟨_, _, _, itbList (drop_ext _ _ hwd.w), by rw [List.length_map]; have := hwd.lw; omega, CompP.mapA (f := fun o => keyV (o.bind fun x => lastHead (some x) ps)) ?_ (fun H' e => e _ _ (drop_ext _ _ hwd.w)) fun W2 H11 e11 hW2 => ?_⟩
  · intro o ho H' e' c hs hk hhd2
    walk_at "mxs"
    cases o with
    | none =>
      refine oIsN rfl ⟨_, rfl, ?_⟩
      first | refine ifP (by rfl) ?_ | rw [if_pos (by rfl)]
      walk_at "mxs"
      exact ⟨Ext.refl _, rfl⟩
    | some x =>
      refine oIsN rfl ⟨_, rfl, ?_⟩
      first | refine ifN (by simp [keyV]) ?_ | rw [if_neg (by simp [keyV])]
      walk_at "mxs"
      have e0 := (drop_ext (N := G)).trans e'
      refine fun wz hw => FS.use' (by rw [hk, hL.k]; decide) (hhd2.trans hL.hd) hw (fs_law_last_head (w := some x) (e0 _ _ hT10) (hpt.up e0) (by omega) (by rintro y ⟨⟩; exact hwd.okw x ho) hpok) ?_
      rintro r H3 ⟨rfl, e3⟩
      exact ⟨e3, rfl⟩
  have e1012 : Ext H10 (upd H11 W2 (.list (ws.map fun o => keyV (o.bind fun x => lastHead (some x) ps)))) := e11.upd hW2
  have hW2' : drop (upd H11 W2 (.list (ws.map fun o => keyV (o.bind fun x => lastHead (some x) ps)))) G W2 = some (.list ((ws.map fun o => o.bind fun x => lastHead (some x) ps).map keyV)) := by
    rw [List.map_map]
    obtain ⟨o, ho⟩ := hG10.some
    exact drop_some upd_self (ne_of_none (e11 _ _ ho) hW2).symm
  generalize upd H11 W2 (.list (ws.map fun o => keyV (o.bind fun x => lastHead (some x) ps))) = H12 at *
  have d12 := drop_mono (N := G) e1012
  have hG12 := hG10.up e1012
  walk_at "mxs"
  refine stL (by assumption) rfl ?_
  refine sNil ⟨rfl, ?_⟩
  -- try
  refine sTry hs rfl rfl hL.fr hL.frame (XB := nXS) ?_ (fun _ _ _ _ _ _ z => z.elim)
  walk_at "mxs"
  refine ⟨by simp, fun t1 ht1 => ?_⟩
  obtain ⟨hG13, e13, ht13⟩ := hG12.new (o := .tup [Value.none, .ref f]) ht1
  walk_at "mxs"
  refine ⟨by simp, fun t2 ht2 => ?_⟩
  obtain ⟨hG14, e14, ht14⟩ := hG13.new (o := .tup [sv "value", Value.ref v]) ht2
  walk_at "mxs"
  refine ⟨by simp, fun A hA' => ?_⟩
  obtain ⟨hG15, e15, ht15⟩ := hG14.new (o := .list [Value.ref t1, Value.ref t2]) hA'
  walk_at "mxs"
  have d1215 := e13.trans (e14.trans e15)
  have d1015 := d12.trans d1215
  refine FS.uses' (hL.le (by decide)) hL.hd (FS.frameG hG15 (fs_b_set_list ht15 (e15 _ _ (e14 _ _ ht13)) (e15 _ _ ht14) (hf.up d1015) (hv10.up d1015) (d1015 _ _ hV10) (d1015 _ _ hD10) (by rw [hfst]; exact hnm.up d1015) (hpv.up d1015) (by omega) hp2 (fun p hp => htok _ (hmem p hp).1) (by rw [hfst]; exact htn) rfl)) ?_
  first | refine eG3 fun g H16 hG16 e16 hf16 => ?_ | rintro _ H16 ⟨hG16, g, rfl, e16, hf16⟩
  refine stL (by assumption) rfl ?_
  walk_at "mxs"
  refine oNeI (i := 3) (j := 3) ⟨_, rfl, ?_⟩
  walk_at "mif"
  walk_at "mxs"
  have d1216 := d1215.trans e16
  have d1016 := d12.trans d1216
  rw [headed_texts hwd.inn] at hf16
  have hfst' : ps.map (·.1) = tops := hfst
  rw [hfst'] at hf16
  refine ⟨rfl, W, R, f, W2, T, g, hv, none, ws, row, falls, ws.map fun o => o.bind fun x => lastHead (some x) ps, tops, ?_, hG16, hwd.up d1016, hf.up d1016, hhd.up d1016, ⟨d1216 _ _ hW2', ?_, ?_, ?_, ?_, htok⟩, hf16⟩
  · exact .cons rfl (.cons rfl (.cons rfl (.cons rfl (.cons rfl (.cons rfl (.cons rfl (.cons rfl (.cons rfl .nil))))))))
  · rw [hfst'] at hT10; exact d1016 _ _ hT10
  · intro y hy
    obtain ⟨o, _, ho⟩ := List.mem_map.mp hy
    cases o with
    | none => cases ho
    | some x => rw [← hfst']; exact lastHead_in ho
  · rw [List.length_map]; exact hwd.lw
  · omega
end

-- MH11
noncomputable def menuF : Nat → List (Option Str)
  | 0 => [some "Z", some "a", some "c", none, some "y"]
  | 1 => [some "b", some "Z", none]
  | _ => [some "0", some "7", none, some "-3"]
theorem menuF_ok (way : Nat) : 0 < (menuF way).length ∧ (menuF way).length ≤ 5 ∧ ∀ x, some x ∈ menuF way → PyData.strOk x = true := by
  have h : ∀ l : List (Option Str), (l.all fun o => match o with | none => true | some x => PyData.strOk x) = true → ∀ x, some x ∈ l → PyData.strOk x = true := fun l h x hx => by
    have := List.all_eq_true.mp h _ hx
    exact this
  match way with
  | 0 => exact ⟨by decide, by decide, h _ (by decide +kernel)⟩
  | 1 => exact ⟨by decide, by decide, h _ (by decide +kernel)⟩
  | n + 2 =>
    show 0 < (menuF 2).length ∧ (menuF 2).length ≤ 5 ∧ ∀ x, some x ∈ menuF 2 → PyData.strOk x = true
    exact ⟨by decide, by decide, h _ (by decide +kernel)⟩
noncomputable def intOf (o : Option Str) : Value := if o = some "0" then .int 0 0 else if o = some "7" then .int 7 0 else if o = some "-3" then .int (-3) 0 else .none
theorem intOf_ok {o : Option Str} (h : o ∈ menuF 2) : LabOk "integer" (intOf o) ∧ lab "integer" (intOf o) = keyV o := by
  simp only [menuF, List.mem_cons, List.not_mem_nil, or_false] at h
  rcases h with rfl | rfl | rfl | rfl
  · exact ⟨.inr ⟨rfl, .inr ⟨0, rfl, by decide⟩⟩, by decide⟩
  · exact ⟨.inr ⟨rfl, .inr ⟨7, rfl, by decide⟩⟩, by decide⟩
  · exact ⟨.inr ⟨rfl, .inl rfl⟩, by decide⟩
  · exact ⟨.inr ⟨rfl, .inr ⟨-3, rfl, by decide⟩⟩, by decide⟩
theorem intOf_text {x : Str} (h : some x ∈ menuF 2) : ∃ i : Int, PySem.intText? x = some i ∧ intOf (some x) = .int i 0 ∧ x.length ≤ 640 := by
  simp only [menuF, List.mem_cons, List.not_mem_nil, or_false] at h
  rcases h with h | h | h | h <;> cases h
  · exact ⟨0, by decide +kernel, rfl, by decide⟩
  · exact ⟨7, by decide +kernel, rfl, by decide⟩
  · exact ⟨-3, by decide +kernel, rfl, by decide⟩
section
variable {Γ : Gl} {c : Fm} {ρ : Loc} {H : AH} {G W R f : Addr} {way : Nat} {hv : Value} {heads : Option (List Str)} {ws : List (Option Str)} {row : List Str} {falls : Bool}
theorem law8P (hL : LaidF c lawNames 9) (hA : At8 ρ H G W R f way hv heads ws row falls) (hw3 : way < 3) : TB Γ c ρ H (lawSts.drop 8) (RetK KT) nXS := by
  have hs := hL.nm
  refine TS.weakL hA.loc ?_
  show TB Γ c _ H (_ :: _ :: _ :: _ :: _ :: _ :: _ :: _ :: _ :: _ :: _ :: _ :: _ :: _ :: _ :: []) _ _
  have hG := hA.gr
  refine sPair (Done10 G) ?_ (fun ρ' H' ⟨W, R, f, W2, R2, g, hv, heads, ws, row, falls, ws2, row2, h⟩ => law10 hL h)
  walk_at "mxs"
  refine oEqI (i := way) (j := 3) ⟨_, rfl, ?_⟩
  first | refine ifN (by simp; omega) ?_ | rw [if_neg (by simp; omega)]
  -- fresh
  refine sCons (sAsg ?_)
  iterate 3 walk_at "mx"
  refine TX.cut (K := fun v H' => Gr H' G ∧ Ext (drop H G) (drop H' G) ∧ ∃ M, v = .ref M ∧ drop H' G M = some (.list ((menuF way).map keyV))) ?_ ?_
  · walk_at "mxs"
    refine ⟨by simp, fun l0 h0 => ?_⟩
    obtain ⟨hG1, e1, k1⟩ := hG.new (o := .list ((menuF 0).map keyV)) h0
    show TL Γ c _ _ (upd H l0 (.list ((menuF 0).map keyV))) _ _
    walk_at "mxs"
    refine ⟨by simp, fun l1 h1 => ?_⟩
    obtain ⟨hG2, e2, k2⟩ := hG1.new (o := .list ((menuF 1).map keyV)) h1
    show TL Γ c _ _ (upd _ l1 (.list ((menuF 1).map keyV))) _ _
    walk_at "mxs"
    refine ⟨by simp, fun l2 h2 => ?_⟩
    obtain ⟨hG3, e3, k3⟩ := hG2.new (o := .list ((menuF 2).map keyV)) h2
    show TL Γ c _ _ (upd _ l2 (.list ((menuF 2).map keyV))) _ _
    walk_at "mxs"
    refine ⟨by simp, fun l hl => ?_⟩
    obtain ⟨hG4, e4, k4⟩ := hG3.new (o := .list [Value.ref l0, .ref l1, .ref l2]) hl
    walk_at "mxs"
    have e04 := e1.trans (e2.trans (e3.trans e4))
    have d1 := (e2.trans (e3.trans e4)) _ _ k1
    have d2 := (e3.trans e4) _ _ k2
    have d3 := e4 _ _ k3
    obtain rfl | rfl | rfl : way = 0 ∨ way = 1 ∨ way = 2 := by omega
    · exact .list (n := 0) (x := .ref l0) upd_self rfl (by decide) ⟨hG4, e04, l0, rfl, d1⟩
    · exact .list (n := 1) (x := .ref l1) upd_self rfl (by decide) ⟨hG4, e04, l1, rfl, d2⟩
    · exact .list (n := 2) (x := .ref l2) upd_self rfl (by decide) ⟨hG4, e04, l2, rfl, d3⟩
  first | refine eV3 fun hG1 e1 M H1 hM => ?_ | rintro _ H1 ⟨hG1, e1, M, rfl, hM⟩
  obtain ⟨hm1, hm2, hm3⟩ := menuF_ok way
  walk_at "mxs"
  refine FS.uses' (hL.le (by decide)) hL.hd (fs_drawn (ms := menuF way) (least := 0) (most := 5) hG1 hM hm1 (by omega) (by decide) (by decide)) ?_
  rintro _ H2 ⟨Fa, fs, rfl, _, hfl, hfm, hF2, hG2, e2⟩
  refine stL (by assumption) rfl ?_
  have hwd := hA.wd.up (e1.trans e2)
  have hf := hA.fac.up (e1.trans e2)
  have hhd := hA.hd.up (e1.trans e2)
  have hfok : ∀ x, some x ∈ fs → PyData.strOk x = true := fun x hx => hm3 x (hfm _ hx)
  clear e1 e2 hG1 hM hG
  -- value
  walk_at "mxs"
  refine bListL (drop_ext _ _ hF2) (by rw [List.length_map]; omega) (fun b hb => ?_)
  obtain ⟨hG3, e3, hb3⟩ := hG2.new (o := .list (fs.map keyV)) hb
  walk_at "mxs"
  refine FS.uses' (hL.le (by decide)) hL.hd (FS.frameG hG3 fs_vec3) ?_
  first | refine eV3 fun hG4 v0 dx0 H4 n0 => ?_ | rintro _ H4 ⟨hG4, v0, dx0, rfl, n0⟩
  refine stL (by assumption) rfl ?_
  have hv0 : PV (drop H4 G) v0 "character" (fs.map keyV) := ⟨b, n0.vc, n0.ext _ _ hb3⟩
  have e24 := e3.trans n0.ext
  replace hwd := hwd.up e24
  replace hf := hf.up e24
  replace hhd := hhd.up e24
  replace hF2 := e24 _ _ hF2
  clear e24 n0 hb3 e3 hG3 hG2
  refine sCons (sCut (fun ρ' H' => Gr H' G ∧ Ext (drop H4 G) (drop H' G) ∧ ∃ v kind xs, PV (drop H' G) v kind xs ∧ Kd kind ∧ (∀ x ∈ xs, LabOk kind x) ∧ xs.map (lab kind) = fs.map keyV ∧
    Sub (locs [("grains", .ref G), ("way", nv way), ("row", .ref R), ("words", .ref W), ("falls", .bool falls), ("heads", hv), ("f", .ref f), ("fresh", .ref Fa), ("value", .ref v)]) ρ') ?_ ?_)
  · walk_at "mxs"
    refine oEqI (i := way) (j := 2) ⟨_, rfl, ?_⟩
    by_cases h2 : way = 2
    · subst h2
      first | refine ifP (by decide) ?_ | rw [if_pos (by decide)]
      walk_at "mxs"
      refine xComp hs rfl hL.hd rfl ?_
      walk_at "mxs"
      refine ⟨_, _, _, itbList (drop_ext _ _ hF2), by rw [List.length_map]; omega, CompP.mapA (f := intOf) ?_ (fun H' e => e _ _ (drop_ext _ _ hF2)) fun I H5 e5 hI => ?_⟩
      · intro o ho H' e' c hs hk hhd2
        walk_at "mxs"
        cases o with
        | none =>
          refine oIsN rfl ⟨_, rfl, ?_⟩
          first | refine ifP (by rfl) ?_ | rw [if_pos (by rfl)]
          walk_at "mxs"
          exact ⟨Ext.refl _, rfl⟩
        | some x =>
          refine oIsN rfl ⟨_, rfl, ?_⟩
          first | refine ifN (by simp [keyV]) ?_ | rw [if_neg (by simp [keyV])]
          walk_at "mxs"
          obtain ⟨i, h1, h2, h3⟩ := intOf_text (hfm _ ho)
          refine bIntS h1 h3 ?_
          exact ⟨Ext.refl _, h2.symm⟩
      obtain ⟨oG, hGo⟩ := hG4.some
      have hG5 := hG4.up e5
      obtain ⟨hG6, e6, hI6⟩ := hG5.new (o := .list (fs.map intOf)) hI
      walk_at "mxs"
      refine FS.uses' (hL.le (by decide)) hL.hd (FS.frameG hG6 fs_vec3) ?_
      first | refine eV3 fun hG7 v1 dx1 H7 n1 => ?_ | rintro _ H7 ⟨hG7, v1, dx1, rfl, n1⟩
      refine stL (by assumption) rfl ?_
      walk_at "mxs"
      refine ⟨rfl, hG7, ((drop_mono e5).trans e6).trans n1.ext, v1, "integer", fs.map intOf, ⟨I, n1.vc, n1.ext _ _ hI6⟩, .inl rfl, fun x hx => ?_, ?_, .cons rfl (.cons rfl (.cons rfl (.cons rfl (.cons rfl (.cons rfl (.cons rfl (.cons rfl (.cons rfl .nil))))))))⟩
      · obtain ⟨o, ho, rfl⟩ := List.mem_map.mp hx
        exact (intOf_ok (hfm o ho)).1
      · rw [List.map_map]
        exact List.map_congr_left fun o ho => (intOf_ok (hfm o ho)).2
    · first | refine ifN (by simp; omega) ?_ | rw [if_neg (by simp; omega)]
      walk_at "mxs"
      exact ⟨rfl, hG4, Ext.refl _, v0, "character", fs.map keyV, hv0, .inr (.inl rfl), labOk_keys fs, lab_char _, .cons rfl (.cons rfl (.cons rfl (.cons rfl (.cons rfl (.cons rfl (.cons rfl (.cons rfl (.cons rfl .nil))))))))⟩
  rintro ρ5 H5 ⟨hG5, e5, v, kind, xs, hv5, hkd, hlab, hxs, hsub⟩
  replace hwd := hwd.up e5
  replace hf := hf.up e5
  replace hhd := hhd.up e5
  replace hF2 := e5 _ _ hF2
  clear hv0 e5 hG4
  refine TS.weakL hsub ?_
  clear hsub
  have hlw := hwd.lw
  have hlr := hwd.lr
  walk_at "mxs"
  refine bLenL (drop_ext _ _ hF2) (by rw [List.length_map]; omega) ?_
  walk_at "mxs"
  refine bLenL (drop_ext _ _ hwd.r) (by rw [List.length_map]; omega) ?_
  rw [List.length_map, List.length_map]
  refine oGeI (i := fs.length) (j := row.length) ⟨_, rfl, ?_⟩
  by_cases hle : row.length ≤ fs.length
  · first | refine ifP (by simp; omega) ?_ | rw [if_pos (by simp; omega)]
    refine sCons (sAsgT ?_ hL.hd rfl rfl rfl)
    walk_at "mxs"
    refine FS.uses' (hL.le (by decide)) hL.hd (FS.frameG hG5 (fs_law_renamed hwd.w hwd.r hF2 hwd.inn hle (by omega) (by omega) hfok)) ?_
    rintro _ H6 ⟨hG6, t, W2, R2, rfl, ht, hW2, hR2, e6⟩
    refine ⟨t, _, rfl, drop_ext _ _ ht, rfl, ?_⟩
    refine stL (by assumption) rfl ?_
    refine stL (by assumption) rfl ?_
    refine tusNil ?_
    refine sNil ?_
    refine sNil ⟨rfl, ?_⟩
    -- try
    refine sTry hs rfl rfl hL.fr hL.frame (XB := nXS) ?_ (fun _ _ _ _ _ _ z => z.elim)
    walk_at "mxs"
    refine ⟨by simp, fun t1 ht1 => ?_⟩
    obtain ⟨hG7, e7, ht7⟩ := hG6.new (o := .tup [Value.none, .ref f]) ht1
    walk_at "mxs"
    refine ⟨by simp, fun t2 ht2 => ?_⟩
    obtain ⟨hG8, e8, ht8⟩ := hG7.new (o := .tup [sv "value", Value.ref v]) ht2
    walk_at "mxs"
    refine ⟨by simp, fun A hA' => ?_⟩
    obtain ⟨hG9, e9, ht9⟩ := hG8.new (o := .list [Value.ref t1, Value.ref t2]) hA'
    walk_at "mxs"
    have d69 := e7.trans (e8.trans e9)
    have d59 := e6.trans d69
    refine FS.uses (hL.le (by decide)) hL.hd (FS.frameX hG9 (fs_b_set_plain ht9 (e9 _ _ (e8 _ _ ht7)) (e9 _ _ ht8) (hf.up d59) (hv5.up d59) hkd hlab hxs (by omega) hfok)) ?_ ?_
    rotate_left
    · rintro m H' ⟨_, h, _⟩
      omega
    rintro _ H10 ⟨hG10, _, g, rfl, e10, hf10⟩
    refine stL (by assumption) rfl ?_
    walk_at "mxs"
    refine oNeI (i := way) (j := 3) ⟨_, rfl, ?_⟩
    first | refine ifP (by simp; omega) ?_ | rw [if_pos (by simp; omega)]
    have d610 := d69.trans e10
    have d510 := d59.trans e10
    walk_at "mxs"
    refine bLenL (drop_ext _ _ (d510 _ _ hF2)) (by rw [List.length_map]; omega) ?_
    walk_at "mxs"
    refine bLenL (drop_ext _ _ (d510 _ _ hwd.r)) (by rw [List.length_map]; omega) ?_
    rw [List.length_map, List.length_map]
    refine oLtI (i := fs.length) (j := row.length) ⟨_, rfl, ?_⟩
    first | refine ifN (by simp; omega) ?_ | rw [if_neg (by simp; omega)]
    walk_at "mxs"
    first | refine ifN Bool.false_ne_true ?_ | rw [if_neg Bool.false_ne_true]
    walk_at "mxs"
    rw [renamed_codes hwd.inn] at hf10
    have hdl := distA_len fs []
    simp only [List.length_nil, Nat.zero_add] at hdl
    refine ⟨rfl, W, R, f, W2, R2, g, hv, heads, ws, row, falls, ws.map (renW row fs), distA [] fs, ?_, hG10, hwd.up d510, hf.up d510, hhd.up d510, ⟨d610 _ _ hW2, d610 _ _ hR2, renamed_in, by rw [List.length_map]; exact hlw, by omega, fun x hx => ?_⟩, hf10⟩
    · exact .cons rfl (.cons rfl (.cons rfl (.cons rfl (.cons rfl (.cons rfl (.cons rfl (.cons rfl (.cons rfl .nil))))))))
    · rcases distA_sub _ _ _ hx with h | h
      · cases h
      · exact hfok x h
  · first | refine ifN (by simp; omega) ?_ | rw [if_neg (by simp; omega)]
    walk_at "mxs"
    refine ⟨rfl, ?_⟩
    refine sTry hs rfl rfl hL.fr hL.frame (XB := fun m ρ' H' => m = cntMsg ∧ Gr H' G ∧ Ext (drop H5 G) (drop H' G) ∧ Sub (locs [("grains", .ref G), ("way", nv way), ("row", .ref R), ("words", .ref W), ("falls", .bool falls), ("heads", hv), ("f", .ref f), ("fresh", .ref Fa), ("value", .ref v)]) ρ') ?_ ?_
    · walk_at "mxs"
      refine ⟨by simp, fun t1 ht1 => ?_⟩
      obtain ⟨hG7, e7, ht7⟩ := hG5.new (o := .tup [Value.none, .ref f]) ht1
      walk_at "mxs"
      refine ⟨by simp, fun t2 ht2 => ?_⟩
      obtain ⟨hG8, e8, ht8⟩ := hG7.new (o := .tup [sv "value", Value.ref v]) ht2
      walk_at "mxs"
      refine ⟨by simp, fun A hA' => ?_⟩
      obtain ⟨hG9, e9, ht9⟩ := hG8.new (o := .list [Value.ref t1, Value.ref t2]) hA'
      walk_at "mxs"
      have d59 := e7.trans (e8.trans e9)
      refine FS.uses (hL.le (by decide)) hL.hd (FS.frameX hG9 (fs_b_set_plain ht9 (e9 _ _ (e8 _ _ ht7)) (e9 _ _ ht8) (hf.up d59) (hv5.up d59) hkd hlab hxs (by omega) hfok)) ?_ ?_
      · rintro r H' ⟨_, h, _⟩
        exact absurd h hle
      · rintro m H' ⟨hG10, _, rfl, e10⟩
        exact ⟨rfl, hG10, d59.trans e10, Sub.refl _⟩
    · rintro c' msg ρ' H6 H7 x ⟨rfl, hG6, e6, hsub⟩ hs' hk hh hE e67
      refine TS.weakL hsub.on ?_
      have hG7 := hG6.up e67
      have d57 := e6.trans (drop_mono e67)
      walk_at "mxs"
      refine oEqI (i := way) (j := 3) ⟨_, rfl, ?_⟩
      first | refine ifN (by simp; omega) ?_ | rw [if_neg (by simp; omega)]
      walk_at "mxs"
      refine bLenL (drop_ext _ _ (d57 _ _ hF2)) (by rw [List.length_map]; omega) ?_
      walk_at "mxs"
      refine bLenL (drop_ext _ _ (d57 _ _ hwd.r)) (by rw [List.length_map]; omega) ?_
      rw [List.length_map, List.length_map]
      refine oGeI (i := fs.length) (j := row.length) ⟨_, rfl, ?_⟩
      first | refine ifN (by simp; omega) ?_ | rw [if_neg (by simp; omega)]
      walk_at "mxs"
      refine gMessage hE ?_
      walk_at "mxs"
      refine oNeS ⟨_, rfl, ?_⟩
      first | refine ifN (by decide) ?_ | rw [if_neg (by decide)]
      walk_at "mxs"
      first | refine ifN Bool.false_ne_true ?_ | rw [if_neg Bool.false_ne_true]
      refine sNil ?_
      refine sCons (sSwap (msg := cntMsg) hs' rfl rfl hh ?_ ?_)
      · intro h1 h2 h3
        unfold swappedStores
        simp [h1, h2, h3, List.filterMap_cons, Expr.pos]
        first | refine ifP (by decide) ?_ | rw [if_pos (by decide)]
        first | refine ifN (by decide) ?_ | rw [if_neg (by decide)]
        first | refine ifN (by decide) ?_ | rw [if_neg (by decide)]
      walk_at "mxs"
      refine ⟨by simp, fun t ht => ?_⟩
      have hE2 := hE.up (Ext.new (o := .tup [Value.ref W, .ref R]) ht)
      obtain ⟨hG8, e8, ht8⟩ := hG7.new (o := .tup [Value.ref W, .ref R]) ht
      refine ⟨hE2, t, .ref W, .ref R, rfl, upd_self, ?_⟩
      walk_at "mxs"
      refine stL (by assumption) rfl ?_
      walk_at "mxs"
      have d58 := d57.trans e8
      refine ⟨rfl, W, R, f, W, R, f, hv, heads, ws, row, falls, ws, row, Sub.del ?_ rfl, hG8, hwd.up d58, hf.up d58, hhd.up d58, hwd.up d58, hf.up d58⟩
      exact .cons rfl (.cons rfl (.cons rfl (.cons rfl (.cons rfl (.cons rfl (.cons rfl (.cons rfl (.cons rfl .nil))))))))
end

-- MH12
theorem abcd_ok : ∀ x ∈ [("a" : Str), "b", "c", "d"], PyData.strOk x = true := by decide +kernel
noncomputable def headAt (i : Nat) : Str := ("n" : Str) ++ Str.ofString (toString (i : Int))
theorem headAt_ok {i : Nat} (h : i < 6) : PyData.strOk (headAt i) = true ∧ (Str.ofString (toString (i : Int))).length ≤ 10 := by
  have : ∀ i < 6, PyData.strOk (headAt i) = true ∧ (Str.ofString (toString (i : Int))).length ≤ 10 := by decide +kernel
  exact this i h
section
variable {Γ : Gl} {H : AH} {S : Addr} {ns : List Int}
theorem fs_law (hS : ∃ vs, Γ.h₀.IsList S vs ∧ vs.toList.map er = ns.map zi) (hz : ns.length ≤ 63) : FS Γ 10 709 H [.ref S] (fun r _ => r = .bool true) nX := by
  refine FS.enter (ps := ["script"]) (dv := []) (ho := rfl) (hok := ⟨rfl, rfl, rfl, by rfl, rfl, rfl, rfl, by decide, by decide, by decide⟩) (hbody := rfl) (hnames := rfl) (binds1 fun _ => rfl) rfl (fun c Q hQ hQn hL => ?_)
  have hs := hL.nm; dsimp only at hs
  walk_at "mxs"
  refine FS.uses' (hL.le (by decide)) hL.hd (fs_law_grains hS hz) ?_
  rintro _ H1 ⟨G, gs, rfl, hGn, hgl, hG1', e1⟩
  refine stC (by assumption) rfl (hL.cell _ rfl) ?_
  have hG1 : Gr H1 G := ⟨gs, hgl, hG1'⟩
  walk_at "mxs"
  refine FS.uses' (hL.le (by decide)) hL.hd (fs_grain (m := 4) hG1 (by decide)) ?_
  first | refine eN3 fun way H2 hway hG2 e2 => ?_ | rintro _ H2 ⟨way, rfl, hway, hG2, e2⟩
  refine stL (by assumption) rfl ?_
  walk_at "mxs"
  refine FS.uses' (hL.le (by decide)) hL.hd (fs_row hG2) ?_
  rintro _ H3 ⟨R, row, rfl, hrl, hrin, hR3, hG3, e3⟩
  refine stL (by assumption) rfl ?_
  walk_at "mxs"
  refine ⟨by simp, fun a ha => ?_⟩
  obtain ⟨hG4, e4, ha4⟩ := hG3.new (o := .list [.none]) ha
  walk_at "mxs"
  refine oAddL (xs := [.none]) (ys := row.map sv) (drop_ext _ _ ha4) (drop_ext _ _ (e4 _ _ hR3)) (by simp; omega) (fun m hm => ?_)
  obtain ⟨hG5, e5, hm5⟩ := hG4.new (o := .list ([.none] ++ row.map sv)) hm
  walk_at "mxs"
  refine FS.uses' (hL.le (by decide)) hL.hd (fs_drawn (ms := none :: row.map some) (least := 0) (most := 5) hG5 (by rw [hm5, ← menu_keys]; rfl) (by simp) (by simp; omega) (by decide) (by decide)) ?_
  rintro _ H6 ⟨W, ws, rfl, _, hwl, hwm, hW6, hG6, e6⟩
  refine stL (by assumption) rfl ?_
  have hwd6 : Wd (drop H6 G) W R ws row := ⟨hW6, e6 _ _ (e5 _ _ (e4 _ _ hR3)), fun x hx => by
    have := hwm _ hx
    simpa using this, hwl, by omega, fun x hx => abcd_ok x (hrin x hx)⟩
  clear e1 e2 e3 e4 e5 e6 hG1 hG2 hG3 hG4 hG5 hm5 ha4 hR3
  walk_at "mxs"
  refine FS.uses' (hL.le (by decide)) hL.hd (fs_grain (m := 2) hG6 (by decide)) ?_
  first | refine eN3 fun n H7 _ hG7 e7 => ?_ | rintro _ H7 ⟨n, rfl, _, hG7, e7⟩
  walk_at "mxs"
  refine oEqI (i := n) (j := 1) ?_
  refine stL (by assumption) rfl ?_
  generalize ((n : Int) == 1) = falls
  walk_at "mxs"
  refine stL (by assumption) rfl ?_
  have hwd7 := hwd6.up e7
  clear hwd6 e7 hG6
  refine sCons (sCut (fun ρ' H' => Gr H' G ∧ Ext (drop H7 G) (drop H' G) ∧ ∃ hv heads, HdV (drop H' G) hv heads ∧ (way = 3 → heads = none) ∧ Sub (locs [("grains", .ref G), ("way", nv way), ("row", .ref R), ("words", .ref W), ("falls", .bool falls), ("heads", hv)]) ρ') ?_ ?_)
  · refine sIf (TT.cut (K := fun q H' => Gr H' G ∧ Ext (drop H7 G) (drop H' G) ∧ (q = true → way ≠ 3)) ?_ ?_)
    · walk_at "mxs"
      refine oNeI (i := way) (j := 3) ⟨_, rfl, ?_⟩
      by_cases h3 : way = 3
      · subst h3
        first | refine ifN (by decide) ?_ | rw [if_neg (by decide)]
        exact ⟨hG7, Ext.refl _, by simp⟩
      · first | refine ifP (by simp; omega) ?_ | rw [if_pos (by simp; omega)]
        walk_at "mxs"
        refine FS.uses' (hL.le (by decide)) hL.hd (fs_grain (m := 2) hG7 (by decide)) ?_
        first | refine eN3 fun n2 H8 _ hG8 e8 => ?_ | rintro _ H8 ⟨n2, rfl, _, hG8, e8⟩
        walk_at "mxs"
        refine oEqI (i := n2) (j := 1) ⟨_, rfl, ?_⟩
        refine ifS (fun _ => ?_) (fun _ => ?_)
        · walk_at "mxs"
          exact ⟨hG8, e8, fun _ => h3⟩
        · exact ⟨hG8, e8, fun _ => h3⟩
    · rintro q H8 ⟨hG8, e8, hq⟩
      cases q with
      | false =>
        walk_at "mif"
        walk_at "mxs"
        exact ⟨rfl, hG8, e8, .none, none, .inl ⟨rfl, rfl⟩, fun _ => rfl, .cons rfl (.cons rfl (.cons rfl (.cons rfl (.cons rfl (.cons rfl .nil)))))⟩
      | true =>
        walk_at "mif"
        refine sCons (sAsgComp hs rfl hL.hd rfl rfl rfl rfl ?_)
        walk_at "mxs"
        refine bLenL (drop_ext _ _ (e8 _ _ hwd7.w)) (by rw [List.length_map]; omega) ?_
        rw [List.length_map]
        refine bRange (n := ws.length) (fun rr t u v hrr => ?_)
        obtain ⟨hG9, e9, _⟩ := hG8.new (o := .obj (rangeObj ws.length t u v)) hrr
        refine ⟨_, _, _, itbRange upd_self (by omega), by rw [upto_len]; omega, CompP.mapA (as := List.range ws.length) (f := fun i => sv (headAt i)) ?_ (fun H' e => trivial) fun A H10 e10 hA => ?_⟩
        · intro i hi H' e' c hs hk hhd
          have hi' := List.mem_range.mp hi
          obtain ⟨_, h2⟩ := headAt_ok (i := i) (by omega)
          walk_at "mxs"
          refine bStrI (i := i) (by omega) ?_
          refine oAddS (x := "n") (by have : ("n" : Str).length = 1 := rfl; omega) ?_
          exact ⟨Ext.refl _, rfl⟩
        · obtain ⟨hG11, e11, hA11⟩ := (hG9.up e10).new (o := .list ((List.range ws.length).map fun i => sv (headAt i))) hA
          walk_at "mxs"
          refine ⟨rfl, hG11, (e8.trans e9).trans ((drop_mono e10).trans e11), .ref A, some ((List.range ws.length).map headAt), .inr ⟨A, _, rfl, rfl, by rw [List.map_map]; exact hA11, by simp; omega, fun x hx => ?_⟩, fun h => absurd h (hq rfl), .cons rfl (.cons rfl (.cons rfl (.cons rfl (.cons rfl (.cons rfl .nil)))))⟩
          obtain ⟨i, hi, rfl⟩ := List.mem_map.mp hx
          exact (headAt_ok (by have := List.mem_range.mp hi; omega)).1
  rintro ρ8 H8 ⟨hG8, e8, hv, heads, hhd, hno, hsub⟩
  have hwd8 := hwd7.up e8
  refine TS.weakL hsub ?_
  walk_at "mxs"
  refine FS.uses' (hL.le (by decide)) hL.hd (FS.frameG hG8 (fs_law_factor hwd8.w hwd8.r hwd8.inn (by omega) (by omega) hwd8.ok hhd)) ?_
  first | refine eG3 fun f H9 hG9 e9 hf9 => ?_ | rintro _ H9 ⟨hG9, f, rfl, e9, hf9⟩
  refine stL (by assumption) rfl ?_
  have hA : ∀ way', way = way' → At8 (upd (locs [("grains", .ref G), ("way", nv way), ("row", .ref R), ("words", .ref W), ("falls", .bool falls), ("heads", hv)]) "f" (.ref f)) H9 G W R f way' hv heads ws row falls := fun way' hw' => by
    subst hw'
    exact ⟨.cons rfl (.cons rfl (.cons rfl (.cons rfl (.cons rfl (.cons rfl (.cons rfl .nil)))))), hG9, hwd8.up e9, hf9, hhd.up e9, hway, hno⟩
  have hlast : TB Γ c (upd (locs [("grains", .ref G), ("way", nv way), ("row", .ref R), ("words", .ref W), ("falls", .bool falls), ("heads", hv)]) "f" (.ref f)) H9 (lawSts.drop 8) (RetK KT) nXS := by
    by_cases h3 : way = 3
    · exact law8L hL (hA 3 h3)
    · exact law8P hL (hA way rfl) (by omega)
  refine TS.mono hlast (fun f ρ' H' z => ?_) fun _ _ _ z => z.elim
  cases f with
  | ret v => exact hQ v ρ' H' z
  | next => exact hQn ρ' H' z
  | brk => exact z.elim
  | cont => exact z.elim
end
theorem get_pop (h : Heap) {n : Nat} (hs : h.objs.size = n + 1) (e : h.get? n = none) (b : Nat) : Heap.get? { h with objs := h.objs.pop } b = h.get? b := by
  by_cases hb : b < n
  · have : h.objs.pop[b]? = h.objs[b]? := by rw [Array.getElem?_pop, if_pos (by rw [hs]; exact hb)]
    unfold Heap.get?
    simp only [this]
  · have h1 : h.objs.pop[b]? = none := by rw [Array.getElem?_pop, if_neg (by rw [hs]; exact hb)]
    have h2 : Heap.get? { h with objs := h.objs.pop } b = none := by
      unfold Heap.get?
      simp only [h1]
    rw [h2]
    by_cases hb2 : b = n
    · rw [hb2, e]
    · cases q : h.get? b with
      | none => rfl
      | some o =>
        have q2 : (b : Nat) < h.objs.size := Heap.lt_size q
        exact absurd q2 (by omega)
theorem trim : ∀ (n : Nat) (h : Heap), h.objs.size = n → (∃ a o, h.get? a = some o) → ∃ h' : Heap, (∀ b, h'.get? b = h.get? b) ∧ ∃ z o, h'.get? z = some o ∧ h'.objs.size ≤ z + 1
  | 0, h, hs, ⟨a, o, e⟩ => by
    have q2 : (a : Nat) < h.objs.size := Heap.lt_size e
    rw [hs] at q2
    exact absurd q2 (Nat.not_lt_zero _)
  | n + 1, h, hs, hx => by
    cases e : h.get? n with
    | some o => exact ⟨h, fun _ => rfl, n, o, e, Nat.le_of_eq hs⟩
    | none =>
      obtain ⟨a, o, q⟩ := hx
      obtain ⟨h', k1, k2⟩ := trim n { h with objs := h.objs.pop } (by show h.objs.pop.size = n; rw [Array.size_pop]; omega) ⟨a, o, (get_pop h hs e a).trans q⟩
      exact ⟨h', fun b => (k1 b).trans (get_pop h hs e b), k2⟩
theorem post_true (R : WRecords) (args ds : List WData) : WTm.value R (.eq .res (.lit (.bool true))) { args := args, res := some (.bool true), after := ds } = some (.bool true) := by
  simp only [WTm.value]
  have h : PySem.W.same (WData.bool true) (WData.bool true) = true := by first | rfl | decide +kernel | simp [PySem.W.same]
  rw [h]
theorem ints_er {vs : List Value} {ns : List Int} (h : IntsAre vs ns) : vs.map er = ns.map zi := by
  induction h with
  | nil => rfl
  | cons n t _ ih => rw [List.map_cons, List.map_cons, ih]; rfl
theorem law_code {w : World} {s : Shared} {mg mb : Str → Option Value} {S : Addr} {vs : List Value} {ns : List Int} (KX : (KK w).In s.heap) (g : s.heap.Ns mainGlobals mg) (b : s.heap.Ns builtinsNs mb) (bi : ∀ x : Str, x ≠ "__name__" → mb x = bootBuiltins x) (nl : s.heap.NoLimit)
    (nd : ∃ mc, s.heap.Ns cStatics mc ∧ mc "sys.int_max_str_digits" = none) (sys : ∃ o, s.heap.get? sysModules = some o) (hL : s.heap.IsList S vs.toArray) (hI : IntsAre vs ns) (hz : ns.length ≤ 63) (hg : s.gens = #[]) :
    codeAny (model PR w) callerA (.call (.ref 709) ⟨[.ref S], []⟩) (fun r s' => r = .ok (.ret (.bool true)) ∧ (∀ b o, s.heap.get? b = some o → s'.heap.get? b = some o) ∧ s'.os = s.os ∧ s'.gens = #[]) s := by
  obtain ⟨o0, q0⟩ := sys
  obtain ⟨h0, hget, z, oz, hz1, hz2⟩ := trim _ s.heap rfl ⟨_, o0, q0⟩
  have k : ∀ b o, s.heap.get? b = some o → h0.get? b = some o := fun b o e => (hget b).trans e
  let Γ : Gl := ⟨w, h0, s.gens, s.os, s.drawn, mg, mb⟩
  have ok : Γ.Ok := ⟨KX.keeps k, g.keeps k, b.keeps k, bi, nl.keeps k, let ⟨mc, h1, h2⟩ := nd; ⟨mc, h1.keeps k, h2⟩, ⟨z, oz, hz1, hz2⟩, ⟨o0, k _ _ q0⟩⟩
  have B : Base Γ (fun _ => none) (fun _ => none) s := ⟨ok, rfl, rfl, rfl, fun b o e => (hget b).symm.trans e, by simp, by simp, by simp⟩
  have hS : ∃ vs : Array Value, Γ.h₀.IsList S vs ∧ vs.toList.map er = ns.map zi := by
    obtain ⟨ob, q1, q2, n, q3⟩ := hL
    exact ⟨vs.toArray, ⟨ob, k _ _ q1, q2, n, q3⟩, ints_er hI⟩
  have F := fs_law (Γ := Γ) (H := fun _ => none) hS hz callerA [] (fun _ => none) s [.ref S] rfl (by unfold Room; decide +kernel) rfl rfl (by simp [FrOK]) B
  refine codeAny_mono F fun r s' hr => ?_
  cases r with
  | error e => obtain ⟨_, _, _, _, _, _, z⟩ := hr; exact z.elim
  | ok f =>
    obtain ⟨v, H', rfl, B', hv⟩ := hr
    rw [er_bool hv]
    exact ⟨rfl, fun b o e => B'.k0 b o (k b o e), B'.os, B'.gens.trans hg⟩
set_option maxRecDepth 100000 in
theorem fin : PySem.Challenge.rw_sm0102_01.Holds := hd (by
  intro w s₀ s₁ mg mb G Y fa o pm cd doc dV kV ho hd hcd hD hmg hg args vals as hpre hlay hrd hwl hlo
  have KX := kIn_of Y
  have X := (Ground.X G).1
  have V := (Ground.X G).2
  refine Ground.open G ?_
  intro T B D TE TW
  try (refine guard_noD D (by decide +kernel) ?_; clear D)
  rw [dLaw_name] at hmg
  have hfa := mg_of (n := "law") (v := .ref 709) KX (Top.g T) (by kernel_rfl)
  have e : fa = 709 := by rw [hmg] at hfa; cases hfa; rfl
  subst e
  clear hcd hD hd hmg ho
  have sys : ∃ o, s₁.heap.get? sysModules = some o := let ⟨_, ⟨o, _, _, q, _⟩, _⟩ := (Top.seer T (by decide +kernel)).mods; ⟨o, q⟩
  wrow_args hpre hlay hrd hwl hlo
  refine enter_call ?_
  rename_i hI _ hz _
  rename Heap.IsList _ _ _ => hL
  refine codeAny_mono (law_code KX (Top.g T) (Top.b T) (Top.builtins T) (Top.nolimit T) (Top.nodigits T) sys hL hI (by omega) hg) fun r s' hr => ?_
  obtain ⟨rfl, h1, h2, h3⟩ := hr
  exact ⟨.inl ⟨.bool true, .bool true, [], rfl, fun _ => rfl, .bool true, postW_of (X := true) (by rfl) (post_true _ _ _) rfl, fun _ => ⟨List.nodup_nil, by simp⟩⟩, .of_keep h1, h2, .of_eq h3⟩)
end
end Mine
set_option maxRecDepth 100000 in
theorem PySem.Challenge.cw_sm0102_01_holds : PySem.Challenge.rw_sm0102_01.Holds :=
  Mine.fin
