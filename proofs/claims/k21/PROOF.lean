import PyProof.Rows.All
import Wide.All
import OpenK.AllK
import Wide.FinOn
import KE.OsRunLaw
import PySem.Challenge.RW_frontlines_k21_relays_told
import HandS.ForMost
import HandS.ForExc
import HandS.TryMany
import HandS.ExcInit
import HandS.ExcField
import HandS.IsInst
import HandS.Lambda
import HandS.Nested
import HandS.EndTab
import HandS.Walk
import HandS.Zip
import HandS.ExcIs
import KE.KExcIs
import HandS.HeadWalk
import PyProof.Draws
import HandS.Text
import HandS.Dict
import HandS.MakeKwOnly
import HandS.Property
import HandS.Small
import HandS.OwnEq
import HandS.More
import HandS.NoneIn
import HandS.Codes
import HandS.Style
import KE.GoesEnum
import HandS.Conv
import HandS.ListItems
import HandS.StrMore
import PyProof.Rows.StrMul
import PyProof.Rows.Range3
import PyProof.Rows.StrJoinRep
import HandS.TryOnly
import PyProof.NeData
import PyProof.DictUpdate
import PyProof.DictDisplay
import HandS.FStr
import PyProof.ListStr
import PyProof.SliceStr2
import PyProof.ReprRoads
import KE.KRevSl
import HandS.Star
import KE.KCallOwn
import PyProof.EqKinds
import HandS.TupAny
set_option Elab.async false
set_option linter.all false
set_option maxRecDepth 100000
/-! the head by the kernel's own run, once for each answer of the world's one row -/
namespace ZH
open PySem PySem.W PySem.Calls PyProof.Rows HeadRun
theorem left_by {p q : Program} {loose : List PySem.Str} {Xt : Shared → Bool} {H : Hook} {ob : SharedT → H.α} {N M : Nat} (row : String) (ho : ∀ s : SharedT, ob s = H.obs s.abs)
    (e : opening p = plainProg p.main.scope.names) (hN : Nat.ble 600 N = true) (f : ∀ s, fenceModules? p s = some s) (le : Nat.ble M N = true)
    (run : ∀ (b : Bool) (w : World) (os : OsState), (endF (stepQ (denQ tabQ) p (w.withFollow row b)) M p (w.withFollow row b) os).map (fun s => (looksF p (boot_heap (w.withFollow row b).params) s.abs, seenQ q loose (importedModules p.main.body) Xt s.abs, ob s)) = some (true, openGood q loose, H.val (w.withFollow row b))) :
    LeftO p q loose Xt H.obs H.val N true :=
  left_one (M := M) e hN f le fun w os => by
    have z := run (w.params.followText row) w os
    rw [World.withFollow_self] at z
    have eo : ob = fun s => H.obs s.abs := funext ho
    rw [eo] at z
    simp only [endQ_eq, seenQ_eq]
    exact z
theorem obs_k {K : Params → Frag} {as : List Addr} {ek : ∀ P, as = (K P).map (·.1)} (s : SharedT) : (as.map (getT s) : List (Option Obj)) = Hook.obs (kHook K as ek) s.abs :=
  List.map_congr_left fun a _ => getT_eq s a
theorem obs_km {K : Params → Frag} {as ts : List Addr} {ek : ∀ P, as = (K P).map (·.1)} (s : SharedT) : ((as.map (getT s), ts.map (getT s)) : List (Option Obj) × List (Option Obj)) = Hook.obs (kmHook K as ek ts) s.abs :=
  Prod.ext (List.map_congr_left fun a _ => getT_eq s a) (List.map_congr_left fun a _ => getT_eq s a)
theorem left_k {p q : Program} {loose : List PySem.Str} {Xt : Shared → Bool} {K : Params → Frag} {as : List Addr} {ek : ∀ P, as = (K P).map (·.1)} {N M : Nat} (row : String)
    (e : opening p = plainProg p.main.scope.names) (hN : Nat.ble 600 N = true) (f : ∀ s, fenceModules? p s = some s) (le : Nat.ble M N = true)
    (run : ∀ (b : Bool) (w : World) (os : OsState), (endF (stepQ (denQ tabQ) p (w.withFollow row b)) M p (w.withFollow row b) os).map (fun s => (looksF p (boot_heap (w.withFollow row b).params) s.abs, seenQ q loose (importedModules p.main.body) Xt s.abs, as.map (getT s))) = some (true, openGood q loose, (K (w.withFollow row b).params).map fun x => some x.2)) :
    LeftO p q loose Xt (Hook.obs (kHook K as ek)) (Hook.val (kHook K as ek)) N true :=
  left_by (H := kHook K as ek) (ob := fun s => as.map (getT s)) row obs_k e hN f le run
theorem left_km {p q : Program} {loose : List PySem.Str} {Xt : Shared → Bool} {K : Params → Frag} {as ts : List Addr} {ek : ∀ P, as = (K P).map (·.1)} {N M : Nat} (row : String)
    (e : opening p = plainProg p.main.scope.names) (hN : Nat.ble 600 N = true) (f : ∀ s, fenceModules? p s = some s) (le : Nat.ble M N = true)
    (run : ∀ (b : Bool) (w : World) (os : OsState), (endF (stepQ (denQ tabQ) p (w.withFollow row b)) M p (w.withFollow row b) os).map (fun s => (looksF p (boot_heap (w.withFollow row b).params) s.abs, seenQ q loose (importedModules p.main.body) Xt s.abs, (as.map (getT s), ts.map (getT s)))) = some (true, openGood q loose, ((K (w.withFollow row b).params).map fun x => some x.2, ts.map fun _ => some (tabObj #[])))) :
    LeftO p q loose Xt (Hook.obs (kmHook K as ek ts)) (Hook.val (kmHook K as ek ts)) N true :=
  left_by (H := kmHook K as ek ts) (ob := fun s => (as.map (getT s), ts.map (getT s))) row obs_km e hN f le run
theorem left_km2 {p q : Program} {loose : List PySem.Str} {Xt : Shared → Bool} {K : Params → Frag} {as ts : List Addr} {ek : ∀ P, as = (K P).map (·.1)} {N M : Nat} (row : String)
    (e : opening p = plainProg p.main.scope.names) (hN : Nat.ble 600 N = true) (f : ∀ s, fenceModules? p s = some s) (le : Nat.ble M N = true)
    (run0 : ∀ (w : World) (os : OsState), (endF (stepQ (denQ tabQ) p (w.withFollow row false)) M p (w.withFollow row false) os).map (fun s => (looksF p (boot_heap (w.withFollow row false).params) s.abs, seenQ q loose (importedModules p.main.body) Xt s.abs, (as.map (getT s), ts.map (getT s)))) = some (true, openGood q loose, ((K (w.withFollow row false).params).map fun x => some x.2, ts.map fun _ => some (tabObj #[]))))
    (run1 : ∀ (w : World) (os : OsState), (endF (stepQ (denQ tabQ) p (w.withFollow row true)) M p (w.withFollow row true) os).map (fun s => (looksF p (boot_heap (w.withFollow row true).params) s.abs, seenQ q loose (importedModules p.main.body) Xt s.abs, (as.map (getT s), ts.map (getT s)))) = some (true, openGood q loose, ((K (w.withFollow row true).params).map fun x => some x.2, ts.map fun _ => some (tabObj #[])))) :
    LeftO p q loose Xt (Hook.obs (kmHook K as ek ts)) (Hook.val (kmHook K as ek ts)) N true :=
  left_km row e hN f le fun b => by cases b <;> assumption
theorem left_k2 {p q : Program} {loose : List PySem.Str} {Xt : Shared → Bool} {K : Params → Frag} {as : List Addr} {ek : ∀ P, as = (K P).map (·.1)} {N M : Nat} (row : String)
    (e : opening p = plainProg p.main.scope.names) (hN : Nat.ble 600 N = true) (f : ∀ s, fenceModules? p s = some s) (le : Nat.ble M N = true)
    (run0 : ∀ (w : World) (os : OsState), (endF (stepQ (denQ tabQ) p (w.withFollow row false)) M p (w.withFollow row false) os).map (fun s => (looksF p (boot_heap (w.withFollow row false).params) s.abs, seenQ q loose (importedModules p.main.body) Xt s.abs, as.map (getT s))) = some (true, openGood q loose, (K (w.withFollow row false).params).map fun x => some x.2))
    (run1 : ∀ (w : World) (os : OsState), (endF (stepQ (denQ tabQ) p (w.withFollow row true)) M p (w.withFollow row true) os).map (fun s => (looksF p (boot_heap (w.withFollow row true).params) s.abs, seenQ q loose (importedModules p.main.body) Xt s.abs, as.map (getT s))) = some (true, openGood q loose, (K (w.withFollow row true).params).map fun x => some x.2)) :
    LeftO p q loose Xt (Hook.obs (kHook K as ek)) (Hook.val (kHook K as ek)) N true :=
  left_k row e hN f le fun b => by cases b <;> assumption
end ZH

set_option Elab.async false
set_option linter.all false
set_option maxRecDepth 100000
set_option maxHeartbeats 0
noncomputable section
namespace HH
open PySem PySem.W PySem.Calls PyProof.Rows HeadRun
/-- the view: the law alone -/
def vw : Program := { PySem.Challenge.pw_frontlines_k21_relays_told with main := { (PySem.Challenge.pw_frontlines_k21_relays_told).main with body := (PySem.Challenge.pw_frontlines_k21_relays_told).main.body.drop 58 } }
def lse : List PySem.Str := [PySem.Str.ofString "_wall", PySem.Str.ofString "__name__", PySem.Str.ofString "LineError", PySem.Str.ofString "InvalidSigns", PySem.Str.ofString "InvalidLine", PySem.Str.ofString "InvalidRules", PySem.Str.ofString "StateError", PySem.Str.ofString "OtherSigns", PySem.Str.ofString "LimitError", PySem.Str.ofString "TooMany", PySem.Str.ofString "KNOWN_SIGNS", PySem.Str.ofString "LEAST_SIGNS", PySem.Str.ofString "MOST_SIGNS", PySem.Str.ofString "is_list", PySem.Str.ofString "are_signs", PySem.Str.ofString "want_signs", PySem.Str.ofString "is_line", PySem.Str.ofString "want_line", PySem.Str.ofString "want_same_signs", PySem.Str.ofString "FRONT", PySem.Str.ofString "WHOLE", PySem.Str.ofString "turned_first", PySem.Str.ofString "inner_lines", PySem.Str.ofString "looked_up", PySem.Str.ofString "turned_by", PySem.Str.ofString "turned_through", PySem.Str.ofString "is_inner", PySem.Str.ofString "walked_lines", PySem.Str.ofString "even_lines", PySem.Str.ofString "cells_by", PySem.Str.ofString "changing", PySem.Str.ofString "MOST_IN_LINE", PySem.Str.ofString "MOST_RULES", PySem.Str.ofString "MOST_CELLS", PySem.Str.ofString "is_rule", PySem.Str.ofString "want_rules", PySem.Str.ofString "want_cells", PySem.Str.ofString "want_short", PySem.Str.ofString "Relay", PySem.Str.ofString "_law_pot", PySem.Str.ofString "_law_draw", PySem.Str.ofString "_law_pick", PySem.Str.ofString "_law_mixed", PySem.Str.ofString "_law_abc", PySem.Str.ofString "_law_note", PySem.Str.ofString "_law_deals", PySem.Str.ofString "_law_turn", PySem.Str.ofString "_law_notes", PySem.Str.ofString "_law_with_hidden", PySem.Str.ofString "_law_turns_right", PySem.Str.ofString "_law_told_right", PySem.Str.ofString "_law_equal_right", PySem.Str.ofString "_law_hidden_right", PySem.Str.ofString "_law_right"]
abbrev rr : OpenRow := OpenLaw.row PySem.Challenge.rw_frontlines_k21_relays_told
abbrev xt : Shared → Bool := fun s => xlAt vw [] s && recOk rr.toRowW.records s
section
local macro_rules
  | `(tactic| o_head $H) => `(tactic| (have hk := $H; assumption))
/-- lays what the walks read of the heap -/
theorem lay (h : rr.Holds) : rr.Holds := by
  k_head
end
def as : List Addr := [2, 3, 15, 17, 18, 20, 21, 22, 29, 30, 31, 32, 35, 42, 44, 45, 47, 48, 49, 50, 51, 54, 61, 63, 64, 66, 67, 68, 69, 70, 73, 80, 82, 83, 85, 86, 87, 88, 89, 92, 99, 100, 101, 102, 105, 112, 114, 115, 117, 118, 119, 120, 121, 124, 131, 132, 133, 134, 137, 144, 146, 147, 149, 150, 151, 152, 153, 156, 158, 159, 161, 162, 163, 166, 167, 168, 170, 171, 173, 174, 175, 178, 179, 180, 182, 183, 185, 186, 187, 189, 190, 192, 193, 194, 196, 197, 199, 200, 201, 203, 204, 206, 207, 208, 210, 211, 213, 214, 215, 217, 218, 220, 221, 222, 224, 225, 227, 228, 229, 231, 232, 234, 235, 236, 239, 240, 241, 244, 245, 246, 249, 250, 251, 254, 255, 256, 259, 260, 261, 263, 264, 266, 267, 268, 270, 271, 273, 274, 275, 278, 279, 287, 289, 290, 292, 293, 294, 296, 297, 299, 300, 301, 302, 304, 305, 307, 308, 309, 311, 312, 314, 315, 316, 318, 319, 321, 322, 323, 325, 326, 328, 329, 330, 332, 333, 335, 336, 337, 339, 340, 342, 343, 344, 346, 347, 349, 350, 351, 353, 354, 356, 357, 358, 360, 361, 363, 364, 365, 367, 368, 370, 371, 372, 374, 375, 377, 378, 379, 381, 382, 384, 385, 386, 388, 389, 391, 392, 393, 394, 395, 396, 397, 400, 402, 403, 405, 406, 407, 409, 410, 412, 413, 414, 416, 417, 419, 420, 421, 424, 425, 426, 428, 429, 431, 432, 433, 436, 437, 438, 440, 441, 443, 444, 445, 447, 448, 450, 451, 452, 455, 456, 457, 459, 460, 462, 463, 464, 467, 468, 469, 471, 472, 474, 475, 476, 479, 480, 481, 484, 485, 486, 488, 489, 491, 492, 493, 496, 497]
theorem ek : ∀ P, as = (HH.lay.heap_1 P).map (·.1) := fun P => by kernel_rfl
theorem run0 : ∀ (w : World) (os : OsState), (endF (stepQ (denQ tabQ) PySem.Challenge.pw_frontlines_k21_relays_told (w.withFollow "special-get-raises" false)) 30000 PySem.Challenge.pw_frontlines_k21_relays_told (w.withFollow "special-get-raises" false) os).map (fun s => (looksF PySem.Challenge.pw_frontlines_k21_relays_told (boot_heap (w.withFollow "special-get-raises" false).params) s.abs, seenQ vw lse (importedModules (PySem.Challenge.pw_frontlines_k21_relays_told).main.body) xt s.abs, as.map (getT s))) = some (true, openGood vw lse, (HH.lay.heap_1 (w.withFollow "special-get-raises" false).params).map fun x => some x.2) := by
  intro w os
  kernel_rfl
theorem run1 : ∀ (w : World) (os : OsState), (endF (stepQ (denQ tabQ) PySem.Challenge.pw_frontlines_k21_relays_told (w.withFollow "special-get-raises" true)) 30000 PySem.Challenge.pw_frontlines_k21_relays_told (w.withFollow "special-get-raises" true) os).map (fun s => (looksF PySem.Challenge.pw_frontlines_k21_relays_told (boot_heap (w.withFollow "special-get-raises" true).params) s.abs, seenQ vw lse (importedModules (PySem.Challenge.pw_frontlines_k21_relays_told).main.body) xt s.abs, as.map (getT s))) = some (true, openGood vw lse, (HH.lay.heap_1 (w.withFollow "special-get-raises" true).params).map fun x => some x.2) := by
  intro w os
  kernel_rfl
theorem left : LeftO rr.prog vw lse xt (Hook.obs (kHook HH.lay.heap_1 as ek)) (Hook.val (kHook HH.lay.heap_1 as ek)) 30600 true :=
  ZH.left_k2 (M := 30000) "special-get-raises" (by kernel_rfl) (by rfl) (fun s => by kernel_rfl) (by rfl) run0 run1
theorem top (said : rr.wellSaid = true) {d : DefRec} {kwd : List (PySem.Str × PySem.Expr)} (h1 : defOf vw rr.name = some (d, kwd)) (h2 : rr.prog.theDef rr.name = some (d.params, d.body, d.scope)) (h3 : kwWritten? d.params.kwonlyargs d.params.kw_defaults = some kwd) (hw : rr.toRowW.promised)
    (call : WalkO vw lse (XL vw []) (Hook.says (kHook HH.lay.heap_1 as ek)) rr.toRowW d kwd fun f vs => PySem.call f vs) : rr.Holds :=
  holds_open (r := rr) (q := vw) (loose := lse) (Xt := xt) (XP := XL vw []) (Yf := Hook.obs (kHook HH.lay.heap_1 as ek)) (Ya := Hook.val (kHook HH.lay.heap_1 as ek)) (YP := Hook.says (kHook HH.lay.heap_1 as ek)) (N := 30600) left (Hook.of (kHook HH.lay.heap_1 as ek)) (Hook.keeps (kHook HH.lay.heap_1 as ek)) (fun s e => xl_of s (Bool.and_eq_true_iff.mp e).1) XL.keeps h1 h2 h3 (fun s e => recFacts_of (Bool.and_eq_true_iff.mp e).2) (by rfl) said (by decide +kernel) ⟨rfl, rfl, rfl, rfl, rfl, by decide +kernel⟩ hw call
end HH
end

set_option Elab.async false
set_option linter.all false
set_option maxRecDepth 100000
set_option maxHeartbeats 4000000
/-! The weakest readings: each judgement of the hand layer turned into a predicate of the goal, so that a body is gone through from left to right. -/
namespace Z
open PySem PySem.Spec PyProof.Rows L2


/-! ### the judgements -/
structure wE (X : Cx) (e : Expr) (σ : L2.St) (H : Hp) (Q : VK) : Prop where
  run : ∀ pins s, Inv X pins σ H s → wpAny (model X.prog X.w) X.A (eval e X.env) (EP X pins σ Q) X.xe s
structure wT (X : Cx) (e : Expr) (σ : L2.St) (H : Hp) (Q : Bool → Hp → Prop) : Prop where
  run : ∀ pins s, Inv X pins σ H s → wpAny (model X.prog X.w) X.A (isTrue e X.env (eval e X.env)) (TP X pins σ Q) X.xe s
structure wW (X : Cx) (e : Expr) (σ : L2.St) (H : Hp) (Q : Bool → Hp → Prop) : Prop where
  run : ∀ whole pins s, Inv X pins σ H s → wpAny (model X.prog X.w) X.A (isTrue e X.env whole) (TP X pins σ Q) X.xe s
structure wA (X : Cx) (es : List Expr) (σ : L2.St) (H : Hp) (Q : List V → Hp → Prop) : Prop where
  run : ∀ pos pins s, Inv X pins σ H s → wpAny (model X.prog X.w) X.A (spliced (backTo pos (starEach es X.env))) (AP X pins σ Q) X.xe s
structure wK (X : Cx) (kws : List Keyword) (σ : L2.St) (H : Hp) (Q : List V → Hp → Prop) : Prop where
  run : ∀ pos pins s, Inv X pins σ H s → wpAny (model X.prog X.w) X.A (evalAll ((backToKw pos (keywordEach kws X.env)).map (·.2))) (AP X pins σ Q) X.xe s
structure wS (X : Cx) (st : Stmt) (D : Ends) (σ : L2.St) (H : Hp) : Prop where
  run : ∀ pins s, Inv X pins σ H s → wpAny (model X.prog X.w) X.A (exec st X.env) (SP X pins D) X.xe s
structure wB (X : Cx) (sts : List Stmt) (D : Ends) (σ : L2.St) (H : Hp) : Prop where
  run : ∀ pins s, Inv X pins σ H s → wpAny (model X.prog X.w) X.A (execs sts X.env) (SP X pins D) X.xe s
structure wG (X : Cx) (tg : Expr) (v : V) (σ : L2.St) (H : Hp) (Q : L2.St → Hp → Prop) : Prop where
  run : ∀ pins s u, Inv X pins σ H s → RelV v u → wpAny (model X.prog X.w) X.A (assign tg X.env u) (fun _ s' => ∃ σ' H', Inv X pins σ' H' s' ∧ Q σ' H') X.xe s
structure wGs (X : Cx) (ts : List Expr) (vs : List V) (σ : L2.St) (H : Hp) (Q : L2.St → Hp → Prop) : Prop where
  run : ∀ pins s us, Inv X pins σ H s → Vals vs us → wpAny (model X.prog X.w) X.A (assignInOrder ((assignEach ts X.env).map (·.2)) us) (fun _ s' => ∃ σ' H', Inv X pins σ' H' s' ∧ Q σ' H') X.xe s
structure wI (X : Cx) (tg iter : Expr) (σ : L2.St) (H : Hp) (R : It → Hp → Prop) : Prop where
  run : ∀ pins s, Inv X pins σ H s → wpAny (model X.prog X.w) X.A (eval iter X.env) (fun v s1 => wpAny (model X.prog X.w) X.A (pyIter v) (PIE X pins σ tg R) X.xe s1) X.xe s
structure wIf (X : Cx) (ifs : List Expr) (σ : L2.St) (H : Hp) (Q : Bool → Hp → Prop) : Prop where
  run : ∀ pins s, Inv X pins σ H s →
    wpAny (model X.prog X.w) X.A (forIn ifs true fun c r => if r = true then do let ok ← isTrue c X.env (eval c X.env); pure (ForInStep.yield ok) else pure (ForInStep.yield r)) (TP X pins σ Q) X.xe s

section
variable {X : Cx} {e a b c : Expr} {es : List Expr} {st : Stmt} {sts : List Stmt} {σ : L2.St} {H : Hp}
theorem pE : PE X e (wE X e) := ⟨fun pins s _ _ _ I h => h.run pins s I⟩
theorem pT : PT X e (wT X e) := ⟨fun pins s _ _ _ I h => h.run pins s I⟩
theorem pW : PW X e (wW X e) := ⟨fun wh pins s _ _ _ I h => h.run wh pins s I⟩
theorem pA : PA X es (wA X es) := ⟨fun pos pins s _ _ _ I h => h.run pos pins s I⟩
theorem pK {kws : List Keyword} : PK X kws (wK X kws) := ⟨fun pos pins s _ _ _ I h => h.run pos pins s I⟩
theorem pS : PS X st (wS X st) := ⟨fun pins s _ _ _ I h => h.run pins s I⟩
theorem pB : PSs X sts (wB X sts) := ⟨fun pins s _ _ _ I h => h.run pins s I⟩
theorem pG : PG X e (wG X e) := ⟨fun pins s _ _ _ u _ I r h => h.run pins s u I r⟩
theorem pGs : PGs X es (wGs X es) := ⟨fun pins s _ _ _ us _ I r h => h.run pins s us I r⟩
theorem pI {tg iter : Expr} : PI X tg iter (wI X tg iter) := ⟨fun pins s _ _ _ I h => h.run pins s I⟩
theorem pIf : PTs X es (wIf X es) := ⟨fun pins s _ _ _ I h => h.run pins s I⟩
theorem eE {t : TE} {Q : VK} (p : PE X e t) (h : t σ H Q) : wE X e σ H Q := ⟨fun pins s I => p.run pins s σ H Q I h⟩
theorem eT {t : TT} {Q : Bool → Hp → Prop} (p : PT X e t) (h : t σ H Q) : wT X e σ H Q := ⟨fun pins s I => p.run pins s σ H Q I h⟩
theorem eW {t : TT} {Q : Bool → Hp → Prop} (p : PW X e t) (h : t σ H Q) : wW X e σ H Q := ⟨fun wh pins s I => p.run wh pins s σ H Q I h⟩
theorem eA {t : TA} {Q : List V → Hp → Prop} (p : PA X es t) (h : t σ H Q) : wA X es σ H Q := ⟨fun pos pins s I => p.run pos pins s σ H Q I h⟩
theorem eK {kws : List Keyword} {t : TA} {Q : List V → Hp → Prop} (p : PK X kws t) (h : t σ H Q) : wK X kws σ H Q := ⟨fun pos pins s I => p.run pos pins s σ H Q I h⟩
theorem eS {t : TS} {D : Ends} (p : PS X st t) (h : t D σ H) : wS X st D σ H := ⟨fun pins s I => p.run pins s σ H D I h⟩
theorem eB {t : TS} {D : Ends} (p : PSs X sts t) (h : t D σ H) : wB X sts D σ H := ⟨fun pins s I => p.run pins s σ H D I h⟩
theorem eG {t : TG} {v : V} {Q : L2.St → Hp → Prop} (p : PG X e t) (h : t v σ H Q) : wG X e v σ H Q := ⟨fun pins s u I r => p.run pins s σ H v u Q I r h⟩
theorem eGs {t : TGs} {vs : List V} {Q : L2.St → Hp → Prop} (p : PGs X es t) (h : t vs σ H Q) : wGs X es vs σ H Q := ⟨fun pins s us I r => p.run pins s σ H vs us Q I r h⟩
theorem eI {tg iter : Expr} {t : TI} {R : It → Hp → Prop} (p : PI X tg iter t) (h : t σ H R) : wI X tg iter σ H R := ⟨fun pins s I => p.run pins s σ H R I h⟩
theorem eIf {t : TT} {Q : Bool → Hp → Prop} (p : PTs X es t) (h : t σ H Q) : wIf X es σ H Q := ⟨fun pins s I => p.run pins s σ H Q I h⟩

theorem wE_mono {Q Q' : VK} (h : wE X e σ H Q) (k : ∀ v H', Q v H' → Q' v H') : wE X e σ H Q' := ⟨fun pins s I => thn (h.run pins s I) fun _ _ ⟨v, H', I', r, q⟩ => ⟨v, H', I', r, k v H' q⟩⟩
theorem wT_mono {Q Q' : Bool → Hp → Prop} (h : wT X e σ H Q) (k : ∀ v H', Q v H' → Q' v H') : wT X e σ H Q' := ⟨fun pins s I => thn (h.run pins s I) fun b _ ⟨H', I', q⟩ => ⟨H', I', k b H' q⟩⟩

/-! ### statements -/
theorem b_nil {D : Ends} (h : D.nx σ H) : wB X [] D σ H := eB pss_nil h
theorem b_cons {D : Ends} (h : wS X st { D with nx := wB X sts D } σ H) : wB X (st :: sts) D σ H := eB (pss_cons pS pB) h
theorem s_pass {D : Ends} {pos : Pos} (h : D.nx σ H) : wS X (.Pass pos) D σ H := eS ps_pass h
theorem s_break {D : Ends} {pos : Pos} (h : D.bk σ H) : wS X (.Break pos) D σ H := eS ps_break h
theorem s_continue {D : Ends} {pos : Pos} (h : D.ct σ H) : wS X (.Continue pos) D σ H := eS ps_continue h
theorem s_if {D : Ends} {c : Expr} {u v : List Stmt} {pos : Pos} (h : wT X c σ H fun b H1 => if b = true then wB X u D σ H1 else wB X v D σ H1) : wS X (.If c u v pos) D σ H := eS (ps_if pT pB pB) h
theorem s_ret {D : Ends} {pos : Pos} (h : wE X e σ H D.rt) : wS X (.Return (some e) pos) D σ H := eS (ps_ret pE) h
theorem s_retN {D : Ends} {pos : Pos} (h : D.rt .non H) : wS X (.Return none pos) D σ H := eS ps_retN h
theorem s_expr {D : Ends} {pos : Pos} (h : wE X e σ H fun _ H1 => D.nx σ H1) (hs : swapsWith e none pos.line X.env = pure false := by rfl) : wS X (.Expr e pos) D σ H := eS (ps_expr pE hs) h
/-- name = value -/
theorem s_set {D : Ends} {i : Nat} {x : Str} {pos pos' : Pos} (h : wE X e σ H fun v H1 => D.nx (σ.set i (some v)) H1) (hN : X.N.Nodup) (hi : X.N[i]? = some x := by rfl) (hx : Loc X.env.scope x := by first | exact Or.inl rfl | exact Or.inr rfl)
    (hs : swapsWith e (some (.Name x pos')) pos.line X.env = pure false := by rfl) (hf : X.fn x = true ∨ X.env.scope.names.lookup x = some .local := by first | exact .inl rfl | exact .inr rfl) : wS X (.Assign [.Name x pos'] e pos) D σ H := eS (ps_set hN hi hx pE hs hf) h
theorem s_asg {D : Ends} {tg : Expr} {pos : Pos} (h : wE X e σ H fun v H1 => wG X tg v σ H1 D.nx) (hs : swapsWithSole [tg] e pos.line X.env = pure false := by rfl) (hw : swappedStores [tg] e X.env = pure none := by rfl)
    (h1 : (assignEach [tg] X.env).map (·.2) = [assign tg X.env] := by rfl) : wS X (.Assign [tg] e pos) D σ H := eS (ps_asg pE pG hs hw h1) h
theorem g_name {i : Nat} {x : Str} {pos : Pos} {v : V} {Q : L2.St → Hp → Prop} (h : Q (σ.set i (some v)) H) (hN : X.N.Nodup) (hi : X.N[i]? = some x := by rfl) (hx : Loc X.env.scope x := by first | exact Or.inl rfl | exact Or.inr rfl)
    (hf : X.fn x = true ∨ X.env.scope.names.lookup x = some .local := by first | exact .inl rfl | exact .inr rfl) : wG X (.Name x pos) v σ H Q := eG (pg_name hN hi hx hf) h
theorem gs_nil {Q : L2.St → Hp → Prop} (h : Q σ H) : wGs X [] [] σ H Q := eGs pgs_nil ⟨rfl, h⟩
theorem gs_cons {v : V} {vs : List V} {Q : L2.St → Hp → Prop} (h : wG X e v σ H fun σ' H' => wGs X es vs σ' H' Q) (hs : (assignEach (e :: es) X.env).map (·.2) = assign e X.env :: (assignEach es X.env).map (·.2) := by rfl) :
    wGs X (e :: es) (v :: vs) σ H Q := eGs (pgs_cons pG pGs hs) ⟨v, vs, rfl, h⟩
theorem g_tup {k : Nat} {pos : Pos} {p : Addr} {xs : List V} {Q : L2.St → Hp → Prop} (h : wGs X es xs σ H Q) (hc : X.calm = true) (hq : SqT X.K H p xs) (hn : (assignEach es X.env).length = xs.length := by rfl)
    (hst : (assignEach es X.env).findIdx? (·.1) = none := by rfl) : wG X (.Tuple es k pos) (.ref p) σ H Q := eG (pg_tup hc pGs hn hst) ⟨p, xs, rfl, hq, rfl, h⟩
/-- o[i] = v -/
structure sW (X : Cx) (o i v : V) (H : Hp) (Q : Hp → Prop) : Prop where
  run : ∀ pins s σ ov iv u, Inv X pins σ H s → RelV o ov → RelV i iv → RelV v u → wpAny (model X.prog X.w) X.A (setItem ov iv u) (fun _ s' => ∃ H', Inv X pins σ H' s' ∧ Q H') X.xe s
theorem g_sub {o i : Expr} {pos : Pos} {v : V} {Q : L2.St → Hp → Prop} (h : wE X o σ H fun ov H1 => wE X i σ H1 fun iv H2 => sW X ov iv v H2 fun H3 => Q σ H3)
    (ha : ∀ v, assign (.Subscript o i pos) X.env v = (do
      let ov ← holding [v] (eval o X.env)
      let iv ← holding [v, ov] (eval i X.env)
      standAt pos
      holding [v, ov, iv] (setItem ov iv v)
      release [v, ov, iv] []) := by intro _; rfl) : wG X (.Subscript o i pos) v σ H Q :=
  eG (pg_sub pE pE (t := sW X) (fun pins s σ H o i v ov iv u Q I r1 r2 r3 h => h.run pins s σ ov iv u I r1 r2 r3) ha) h
theorem sW_of {t : TSet} {o i v : V} {Q : Hp → Prop} (p : PSet X t) (h : t o i v H Q) : sW X o i v H Q := ⟨fun pins s σ ov iv u I r1 r2 r3 => p pins s σ H o i v ov iv u Q I r1 r2 r3 h⟩

/-! ### expressions -/
theorem e_name (i : Nat) {x : Str} {pos : Pos} {v : V} {Q : VK} (h : Q v H) (hs : σ[i]? = some (some v) := by rfl) (hN : X.N[i]? = some x := by rfl) (hv : Vis X.env.scope x := by first | exact Or.inl rfl | exact Or.inr (Or.inl rfl) | exact Or.inr (Or.inr rfl))
    (hd : (x == ("__debug__" : Str)) = false := by decide) (hcd : (x == ("__classdict__" : Str)) = false := by decide) : wE X (.Name x pos) σ H Q := eE (pe_var hN hv hd hcd) ⟨v, hs, h⟩
theorem e_glob {x : Str} {pos : Pos} {v : V} {u : Value} {Q : VK} (h : Q v H) (hm : X.mg x = some u) (r : RelV v u) (hg : Gl X x := by rfl) (hd : (x == ("__debug__" : Str)) = false := by decide) : wE X (.Name x pos) σ H Q := eE (pe_glob hg hm r hd) h
theorem e_blt {x : Str} {pos : Pos} {v : V} {u : Value} {Q : VK} (h : Q v H) (hm : X.mg x = none) (hv : bootBuiltins x = some u) (r : RelV v u) (hg : Gl X x := by rfl) (hn : x ≠ "__name__" := by decide) (hd : (x == ("__debug__" : Str)) = false := by decide) :
    wE X (.Name x pos) σ H Q := eE (pe_bltn hg hm hv r hn hd) h
theorem e_int {i : Int} {j} {pos : Pos} {Q : VK} (h : Q (.int i) H) : wE X (.Constant (.int i) j pos) σ H Q := eE pe_int h
theorem e_str {x : Str} {j} {pos : Pos} {Q : VK} (h : Q (.str x) H) : wE X (.Constant (.str x) j pos) σ H Q := eE pe_str h
theorem e_bool {b : Bool} {j} {pos : Pos} {Q : VK} (h : Q (.bl b) H) : wE X (.Constant (.bool b) j pos) σ H Q := eE pe_bl h
theorem e_none {j} {pos : Pos} {Q : VK} (h : Q .non H) : wE X (.Constant .none j pos) σ H Q := eE pe_non h
/-- an operation on two values -/
structure oW (X : Cx) (f : Value → Value → Sem Value) (x y : V) (H : Hp) (Q : VK) : Prop where
  run : ∀ pins s σ v u, Inv X pins σ H s → RelV x v → RelV y u → wpAny (model X.prog X.w) X.A (f v u) (EP X pins σ Q) X.xe s
theorem oR {f : Value → Value → Sem Value} : OpR X f (oW X f) := fun pins s σ _ _ _ v u _ I rx ry h => h.run pins s σ v u I rx ry
theorem oW_of {f : Value → Value → Sem Value} {r : R2} {x y : V} {Q : VK} (p : OpR X f r) (h : r x y H Q) : oW X f x y H Q := ⟨fun pins s σ v u I rx ry => p pins s σ H x y v u Q I rx ry h⟩
structure uW (X : Cx) (f : Value → Sem Value) (x : V) (H : Hp) (Q : VK) : Prop where
  run : ∀ pins s σ v, Inv X pins σ H s → RelV x v → wpAny (model X.prog X.w) X.A (f v) (EP X pins σ Q) X.xe s
theorem uW_of {f : Value → Sem Value} {r : V → Hp → VK → Prop} {x : V} {Q : VK} (p : UnR X f r) (h : r x H Q) : uW X f x H Q := ⟨fun pins s σ v I rx => p pins s σ H x v Q I rx h⟩
theorem e_bin {op : Operator} {pos : Pos} {Q : VK} (h : wE X a σ H fun x H1 => wE X b σ H1 fun y H2 => oW X (binaryOp op) x y H2 Q) : wE X (.BinOp a op b pos) σ H Q := eE (pe_op oR pE pE) h
theorem e_un {op : UnaryOp} {pos : Pos} {Q : VK} (h : wE X a σ H fun x H1 => uW X (unaryOp op) x H1 Q) : wE X (.UnaryOp op a pos) σ H Q := eE (pe_un (r := uW X (unaryOp op)) (fun pins s σ _ _ v _ I rx h => h.run pins s σ v I rx) pE) h
theorem e_cmp {op : CmpOp} {pos : Pos} {Q : VK} (h : wE X a σ H fun x H1 => wE X b σ H1 fun y H2 => oW X (compareOp op) x y H2 Q) (hm : behindInMarks op b = false := by first | exact nomark _ | rfl) :
    wE X (.Compare a [op] [b] pos) σ H Q := eE (pe_cmpR oR pE pE hm) h
theorem t_cmp {op : CmpOp} {pos : Pos} {Q : Bool → Hp → Prop} (h : wE X a σ H fun x H1 => wE X b σ H1 fun y H2 => oW X (compareOp op) x y H2 fun v H3 => ∃ k, v = .bl k ∧ Q k H3) (hm : behindInMarks op b = false := by first | exact nomark _ | rfl) :
    wT X (.Compare a [op] [b] pos) σ H Q := eT (pt_cmpR oR pE pE hm) h
theorem t_chain {op op' : CmpOp} {pos : Pos} {Q : Bool → Hp → Prop} (h : wE X a σ H fun x H1 => wE X b σ H1 fun y H2 => oW X (compareOp op) x y H2 fun z H3 => ∃ k, z = .bl k ∧
      (if k = true then wE X c σ H3 fun w' H4 => oW X (compareOp op') y w' H4 (fun v H5 => ∃ k, v = .bl k ∧ Q k H5) else ∃ k, V.bl false = .bl k ∧ Q k H3)) (hm : lastMarks [op, op'] [b, c] = false := by with_unfolding_all rfl) :
    wT X (.Compare a [op, op'] [b, c] pos) σ H Q := eT (pt_chain oR oR pE pE pE hm) h
theorem t_not {pos : Pos} {Q : Bool → Hp → Prop} (h : wT X a σ H fun c H1 => Q (!c) H1) : wT X (.UnaryOp .Not a pos) σ H Q := eT (pt_not pT) h
theorem e_not {pos : Pos} {Q : VK} (h : wE X a σ H fun x H1 => ∃ c, x = .bl c ∧ Q (.bl (!c)) H1) : wE X (.UnaryOp .Not a pos) σ H Q := eE (pe_not pE) h
theorem t_boolop {op} {pos : Pos} {Q : Bool → Hp → Prop} (h : wW X (.BoolOp op es pos) σ H Q) : wT X (.BoolOp op es pos) σ H Q := eT pW.pt h
theorem w_and1 {pos : Pos} {Q : Bool → Hp → Prop} (h : wT X a σ H Q) : wW X (.BoolOp .And [a] pos) σ H Q := eW (pw_and1 pT) h
theorem w_or1 {pos : Pos} {Q : Bool → Hp → Prop} (h : wT X a σ H Q) : wW X (.BoolOp .Or [a] pos) σ H Q := eW (pw_or1 pT) h
theorem w_and {rest : List Expr} {pos : Pos} {Q : Bool → Hp → Prop} (h : wT X a σ H fun c H1 => if c = true then wW X (.BoolOp .And (b :: rest) pos) σ H1 Q else Q false H1) : wW X (.BoolOp .And (a :: b :: rest) pos) σ H Q := eW (pw_and pT pW) h
theorem w_or {rest : List Expr} {pos : Pos} {Q : Bool → Hp → Prop} (h : wT X a σ H fun c H1 => if c = true then Q true H1 else wW X (.BoolOp .Or (b :: rest) pos) σ H1 Q) : wW X (.BoolOp .Or (a :: b :: rest) pos) σ H Q := eW (pw_or pT pW) h
theorem e_one {op} {pos : Pos} {Q : VK} (h : wE X a σ H Q) : wE X (.BoolOp op [a] pos) σ H Q := eE (pe_one pE) h
theorem e_and {rest : List Expr} {pos : Pos} {Q : VK} (h : wE X a σ H fun x H1 => ∃ c, x = .bl c ∧ if c = true then wE X (.BoolOp .And (b :: rest) pos) σ H1 Q else Q (.bl false) H1) : wE X (.BoolOp .And (a :: b :: rest) pos) σ H Q := eE (pe_and pE pE) h
theorem e_or {rest : List Expr} {pos : Pos} {Q : VK} (h : wE X a σ H fun x H1 => ∃ c, x = .bl c ∧ if c = true then Q (.bl true) H1 else wE X (.BoolOp .Or (b :: rest) pos) σ H1 Q) : wE X (.BoolOp .Or (a :: b :: rest) pos) σ H Q := eE (pe_or pE pE) h
theorem e_if {pos : Pos} {Q : VK} (h : wT X c σ H fun k H1 => if k = true then wE X a σ H1 Q else wE X b σ H1 Q) : wE X (.IfExp c a b pos) σ H Q := eE (pe_ifExp pT pE pE) h
/-- an expression whose value is a bool, as a test -/
theorem t_val {Q : Bool → Hp → Prop} (h : wE X e σ H fun x H1 => ∃ c, x = .bl c ∧ Q c H1) (he : ∀ whole, isTrue e X.env whole = (do let v ← whole; standAt e.pos; holding [v] (truthy v)) := by intro _; rfl) : wT X e σ H Q := eT (pt_val pE he) h
theorem t_truth {Q : Bool → Hp → Prop} (h : wE X e σ H fun x H1 => ∃ k, TruV X.K x H1 k ∧ Q k H1) (he : ∀ whole, isTrue e X.env whole = (do let v ← whole; standAt e.pos; holding [v] (truthy v)) := by intro _; rfl) : wT X e σ H Q := eT (pt_truth pE he) h
theorem a_nil {Q : List V → Hp → Prop} (h : Q [] H) : wA X [] σ H Q := eA pa_nil h
theorem a_cons {Q : List V → Hp → Prop} (h : wE X e σ H fun x H1 => wA X es σ H1 fun xs H2 => Q (x :: xs) H2) (hs : starEach (e :: es) X.env = (false, eval e X.env) :: starEach es X.env := by rfl) : wA X (e :: es) σ H Q := eA (pa_cons pE pA hs) h
theorem k_nil {Q : List V → Hp → Prop} (h : Q [] H) : wK X [] σ H Q := eK pk_nil h
theorem k_cons {nm : Option Str} {kpos : Pos} {kws : List Keyword} {Q : List V → Hp → Prop} (h : wE X e σ H fun x H1 => wK X kws σ H1 fun xs H2 => Q (x :: xs) H2) : wK X (⟨nm, e, kpos⟩ :: kws) σ H Q := eK (pk_cons pE pK) h
theorem e_tup {x1} {pos : Pos} {Q : VK} (h : wA X es σ H fun xs H1 => xs.length ≤ sizeLine ∧ ∀ p, H1 p = none → Q (.ref p) (upd H1 p (.tup xs))) : wE X (.Tuple es x1 pos) σ H Q := eE (pe_tup pA) h
theorem e_lst {pos : Pos} {Q : VK} (h : wA X es σ H fun xs H1 => xs.length ≤ sizeLine ∧ ∀ p, H1 p = none → Q (.ref p) (upd H1 p (.lst xs))) : wE X (.List es pos) σ H Q := eE (pe_lst pA) h
end
end Z

set_option Elab.async false
set_option linter.all false
set_option maxRecDepth 100000
set_option maxHeartbeats 4000000
namespace Z
open PySem PySem.Spec PyProof.Rows L2

/-- the built-in names that no def of the text hides -/
structure Blt (mg : Str → Option Value) (base : Heap) : Prop where
  sys : ∃ o es ep, base.get? sysModules = some o ∧ o.data = .dict es ep
  len : mg "len" = none
  range : mg "range" = none
  min : mg "min" = none
  max : mg "max" = none
  abs : mg "abs" = none
  int : mg "int" = none
  str : mg "str" = none
  bool : mg "bool" = none
  list : mg "list" = none
  tuple : mg "tuple" = none
  dict : mg "dict" = none
  isinstance : mg "isinstance" = none
  all : mg "all" = none
  any : mg "any" = none
  sum : mg "sum" = none
  zip : mg "zip" = none
  repr : mg "repr" = none
  divmod : mg "divmod" = none
  sorted : mg "sorted" = none
  enumerate : mg "enumerate" = none
  reversed : mg "reversed" = none
  valueError : mg "ValueError" = none

/-- where a body runs: the room, what a raised error is wished to meet -/
structure Cxt (X : Cx) (k : Nat) (W : WX) : Prop where
  room : Room k X.A
  calm : X.calm = true
  nd : X.N.Nodup
  blt : Blt X.mg X.base
  po : PassesOwn (model X.prog X.w) X.A X.env X.xe
  tk : Takes X W
abbrev W0 : WX := fun _ _ _ _ => False
theorem takesW0 {X : Cx} : Takes X W0 := fun _ _ ⟨_, _, _, _, _, _, _, _, _, _, _, _, _, _, _, _, z⟩ => z.elim
theorem Cxt.mono {X : Cx} {j k : Nat} {W : WX} (C : Cxt X k W) (h : j ≤ k) : Cxt X j W := ⟨C.room.mono h, C.calm, C.nd, C.blt, C.po, C.tk⟩
theorem Cxt.blk {X : Cx} {k : Nat} {W : WX} (C : Cxt X k W) (s : Shared) (H : Hp) (scope : Scope) (cenv : Env) (fp : List Addr) : Cxt (X.blk s H scope cenv fp) k W0 :=
  ⟨C.room, C.calm, C.nd, C.blt, PassesOwn.never, takesW0⟩
/-- no guard of repr stands -/
abbrev Gd (X : Cx) : Prop := X.A.guards = some []

/-! ### a def's promise, where no guard of repr stands -/
structure GFn (P : Program) (w : World) (K : PySem.W.Frag) (mg : Str → Option Value) (base : Heap) (k : Nat) (f : Addr) (fd : FuncData) (ps : List Str) (sp : Sp) : Prop where
  len : ∀ vs H Q E, sp vs H Q E → vs.length = ps.length
  run : ∀ (A : Around) (outer : List Env) (s : Shared) (H : Hp) (args : Args) (us : List Value) (vs : List V) (Q : VK) (E : XK), Room k A → A.guards = some [] → Env0 P w K mg base A outer s H → BindsTo s fd args (ps.zip us) → Vals vs us → sp vs H Q E →
    codeAny (model P w) A (.call (.ref f) args) (CR (L2.CX P w) outer P w H s Q E) s
/-- a def of the text under its name: its promise in every place -/
structure Def (P : Program) (w : World) (K : PySem.W.Frag) (mg : Str → Option Value) (base : Heap) (k : Nat) (x : Str) (st : Stmt) (ps : List Str) (sp : Sp) : Prop where
  ex : ∃ (f : Addr) (kV doc pm : Value) (an : Option Addr) (cdv ct : Value), mg x = some (.ref f) ∧ PySem.W.keepIn K (.ref f) = true ∧
    FnOk P w K mg base (L2.CX P w) k f (PySem.W.fnOf x x (defArgs st) (defBody st) (defScope st) .none kV doc pm an cdv ct) ps sp
/-- .. its promise where no guard of repr stands -/
structure DefG (P : Program) (w : World) (K : PySem.W.Frag) (mg : Str → Option Value) (base : Heap) (k : Nat) (x : Str) (st : Stmt) (ps : List Str) (sp : Sp) : Prop where
  ex : ∃ (f : Addr) (kV doc pm : Value) (an : Option Addr) (cdv ct : Value), mg x = some (.ref f) ∧ PySem.W.keepIn K (.ref f) = true ∧
    GFn P w K mg base k f (PySem.W.fnOf x x (defArgs st) (defBody st) (defScope st) .none kV doc pm an cdv ct) ps sp
/-- what the head tells of it -/
structure At (K : PySem.W.Frag) (mg : Str → Option Value) (x : Str) (st : Stmt) : Prop where
  ex : ∃ (f : Addr) (fd : FuncData), mg x = some (.ref f) ∧ Fun K x x st f fd

section
variable {P : Program} {w : World} {K : PySem.W.Frag} {mg : Str → Option Value} {base : Heap}
theorem gfn_of {k : Nat} {f : Addr} {fd : FuncData} {ps : List Str} {sp : Sp} (F : FnOk P w K mg base (L2.CX P w) k f fd ps sp) : GFn P w K mg base k f fd ps sp := ⟨F.len, fun A outer s H args us vs Q E hr _ => F.run A outer s H args us vs Q E hr⟩
theorem Def.g {k : Nat} {x : Str} {st : Stmt} {ps : List Str} {sp : Sp} (D : Def P w K mg base k x st ps sp) : DefG P w K mg base k x st ps sp := by
  obtain ⟨f, kV, doc, pm, an, cdv, ct, h1, h2, h3⟩ := D.ex
  exact ⟨f, kV, doc, pm, an, cdv, ct, h1, h2, gfn_of h3⟩
theorem Def.mono {j k : Nat} {x : Str} {st : Stmt} {ps : List Str} {sp : Sp} (D : Def P w K mg base j x st ps sp) (h : j ≤ k) : Def P w K mg base k x st ps sp := by
  obtain ⟨f, kV, doc, pm, an, cdv, ct, h1, h2, h3⟩ := D.ex
  exact ⟨f, kV, doc, pm, an, cdv, ct, h1, h2, h3.mono h⟩
theorem DefG.mono {j k : Nat} {x : Str} {st : Stmt} {ps : List Str} {sp : Sp} (D : DefG P w K mg base j x st ps sp) (h : j ≤ k) : DefG P w K mg base k x st ps sp := by
  obtain ⟨f, kV, doc, pm, an, cdv, ct, h1, h2, h3⟩ := D.ex
  exact ⟨f, kV, doc, pm, an, cdv, ct, h1, h2, h3.len, fun A outer s H args us vs Q E hr => h3.run A outer s H args us vs Q E (hr.mono h)⟩
/-- the body's context -/
abbrev bX (P : Program) (w : World) (K : PySem.W.Frag) (mg : Str → Option Value) (base : Heap) (N : List Str) (x : Str) (st : Stmt) (f : Addr) (cdv : Value) (A : Around) (outer : List Env) (s : Shared) (H : Hp) (E : XK) : Cx :=
  cxOf (L2.CX P w) P w K mg base N x (defScope st) f cdv A outer s H E
/-- THE RULE for a function object: x0 its name, x its qualified name -/
theorem fnok_body {k : Nat} {x0 x : Str} {st : Stmt} {f : Addr} {oc dV kV doc pm cdv ct : Value} {od an : Option Addr} {osl : Array (Option Value)} {N ps : List Str} {sp : Sp} (B : Blt mg base)
    (lk : K.lookup f = some ⟨oc, od, .func (PySem.W.fnOf x0 x (defArgs st) (defBody st) (defScope st) dV kV doc pm an cdv ct), osl⟩) (hcd : PySem.W.codeIn K cdv x = true)
    (S : FnScope N ps (defScope st)) (len : ∀ vs H Q E, sp vs H Q E → vs.length = ps.length)
    (body : ∀ (A : Around) (outer : List Env) (s : Shared) (H : Hp) (vs : List V) (Q : VK) (E : XK), Cxt (bX P w K mg base N x st f cdv A outer s H E) k (fun cls d _ H => E cls d H) → sp vs H Q E →
      wB (bX P w K mg base N x st f cdv A outer s H E) (defBody st) { nx := fun _ H' => Q .non H', rt := Q } (start N vs) H) :
    FnOk P w K mg base (L2.CX P w) (k + 1) f (PySem.W.fnOf x0 x (defArgs st) (defBody st) (defScope st) dV kV doc pm an cdv ct) ps sp :=
  ⟨len, fun A outer s H args us vs Q E hr e0 hb r hsp => LamX.run_ofS lk hcd S hr e0 hb r (len _ _ _ _ hsp) fun hr' => ⟨wB _ (defBody st), pB, body A outer s H vs Q E ⟨hr', rfl, S.nd, B, passes_of rfl, takes_of rfl rfl rfl rfl⟩ hsp⟩⟩
theorem gfn_body {k : Nat} {x0 x : Str} {st : Stmt} {f : Addr} {oc dV kV doc pm cdv ct : Value} {od an : Option Addr} {osl : Array (Option Value)} {N ps : List Str} {sp : Sp} (B : Blt mg base)
    (lk : K.lookup f = some ⟨oc, od, .func (PySem.W.fnOf x0 x (defArgs st) (defBody st) (defScope st) dV kV doc pm an cdv ct), osl⟩) (hcd : PySem.W.codeIn K cdv x = true)
    (S : FnScope N ps (defScope st)) (len : ∀ vs H Q E, sp vs H Q E → vs.length = ps.length)
    (body : ∀ (A : Around) (outer : List Env) (s : Shared) (H : Hp) (vs : List V) (Q : VK) (E : XK), Cxt (bX P w K mg base N x st f cdv A outer s H E) k (fun cls d _ H => E cls d H) → Gd (bX P w K mg base N x st f cdv A outer s H E) → sp vs H Q E →
      wB (bX P w K mg base N x st f cdv A outer s H E) (defBody st) { nx := fun _ H' => Q .non H', rt := Q } (start N vs) H) :
    GFn P w K mg base (k + 1) f (PySem.W.fnOf x0 x (defArgs st) (defBody st) (defScope st) dV kV doc pm an cdv ct) ps sp :=
  ⟨len, fun A outer s H args us vs Q E hr hg e0 hb r hsp => LamX.run_ofS lk hcd S hr e0 hb r (len _ _ _ _ hsp) fun hr' => ⟨wB _ (defBody st), pB, body A outer s H vs Q E ⟨hr', rfl, S.nd, B, passes_of rfl, takes_of rfl rfl rfl rfl⟩ hg hsp⟩⟩
/-- THE RULE for a def -/
theorem def_of {k : Nat} {x : Str} {st : Stmt} {N ps : List Str} {sp : Sp} (D : At K mg x st) (B : Blt mg base) (S : FnScope N ps (defScope st)) (len : ∀ vs H Q E, sp vs H Q E → vs.length = ps.length)
    (body : ∀ (f : Addr) (cdv : Value) (A : Around) (outer : List Env) (s : Shared) (H : Hp) (vs : List V) (Q : VK) (E : XK), mg x = some (.ref f) → Cxt (bX P w K mg base N x st f cdv A outer s H E) k (fun cls d _ H => E cls d H) → sp vs H Q E →
      wB (bX P w K mg base N x st f cdv A outer s H E) (defBody st) { nx := fun _ H' => Q .non H', rt := Q } (start N vs) H) : Def P w K mg base (k + 1) x st ps sp := by
  obtain ⟨f, fd, hm, F⟩ := D.ex
  obtain ⟨oc, od, kV, doc, pm, an, cdv, ct, osl, rfl, lk, hcd⟩ := F.ex
  exact ⟨f, kV, doc, pm, an, cdv, ct, hm, F.kp, fnok_body B lk hcd S len fun A outer s H vs Q E C h => body f cdv A outer s H vs Q E hm C h⟩
theorem defG_of {k : Nat} {x : Str} {st : Stmt} {N ps : List Str} {sp : Sp} (D : At K mg x st) (B : Blt mg base) (S : FnScope N ps (defScope st)) (len : ∀ vs H Q E, sp vs H Q E → vs.length = ps.length)
    (body : ∀ (f : Addr) (cdv : Value) (A : Around) (outer : List Env) (s : Shared) (H : Hp) (vs : List V) (Q : VK) (E : XK), mg x = some (.ref f) → Cxt (bX P w K mg base N x st f cdv A outer s H E) k (fun cls d _ H => E cls d H) → Gd (bX P w K mg base N x st f cdv A outer s H E) → sp vs H Q E →
      wB (bX P w K mg base N x st f cdv A outer s H E) (defBody st) { nx := fun _ H' => Q .non H', rt := Q } (start N vs) H) : DefG P w K mg base (k + 1) x st ps sp := by
  obtain ⟨f, fd, hm, F⟩ := D.ex
  obtain ⟨oc, od, kV, doc, pm, an, cdv, ct, osl, rfl, lk, hcd⟩ := F.ex
  exact ⟨f, kV, doc, pm, an, cdv, ct, hm, F.kp, gfn_body B lk hcd S len fun A outer s H vs Q E C g h => body f cdv A outer s H vs Q E hm C g h⟩
end

/-! ### calls of the text's defs -/
section
variable {X : Cx} {k : Nat} {W : WX} {σ : L2.St} {H : Hp} {x : Str} {st : Stmt} {ps : List Str} {sp : Sp} {e : Expr} {es : List Expr} {p pos : Pos} {Q : VK}
theorem ran {f : Addr} {fd : FuncData} {us : List Value} {kw : List (Str × Value)} {us' : List Value} {vs' : List V} {pins : List (Addr × Obj)} {s : Shared} (C : Cxt X k W) (F : FnOk X.prog X.w X.K X.mg X.base (L2.CX X.prog X.w) k f fd ps sp)
    (hb : BindsTo s fd ⟨us, kw⟩ (ps.zip us')) (I : Inv X pins σ H s) (r : Vals vs' us') (h : sp vs' H Q (fun cls d H' => W cls d σ H')) : wpAny (model X.prog X.w) X.A (call (.ref f) us kw) (EP X pins σ Q) X.xe s := by
  refine wpAny_call (codeAny_mono (F.run X.A X.stack s H ⟨us, kw⟩ us' vs' Q _ C.room I.env0 hb r h) fun r s' hq => ?_)
  cases r with
  | error e => exact C.tk e s' (XE.of_call I (fun _ _ _ z => z) hq)
  | ok fl =>
    cases fl with
    | ret u => exact I.after hq
    | next => exact False.elim hq
    | brk => exact False.elim hq
    | cont => exact False.elim hq
theorem e_call (C : Cxt X k W) (D : Def X.prog X.w X.K X.mg X.base k x st ps sp)
    (h : wA X (e :: es) σ H fun vs H1 => sp vs H1 Q (fun cls d H' => W cls d σ H')) (hg : Gl X x := by rfl)
    (hbind : ∀ (kV doc pm : Value) (an : Option Addr) (cdv ct : Value) (us : List Value), us.length = ps.length → bindArgs (PySem.W.fnOf x x (defArgs st) (defBody st) (defScope st) .none kV doc pm an cdv ct) ⟨us, []⟩ = pure (ps.zip us))
    (hdb : (x == ("__debug__" : Str)) = false := by decide) (he : starEach (e :: es) X.env = (false, eval e X.env) :: starEach es X.env := by rfl) (hpl : (backTo pos (starEach es X.env)).any (·.1) = false := by rfl) :
    wE X (.Call (.Name x p) (e :: es) [] pos) σ H Q := by
  obtain ⟨f, kV, doc, pm, an, cdv, ct, hm, hk, F⟩ := D.ex
  refine ⟨fun pins s I => ?_⟩
  refine wpAny_Call_Name_kw (ld_glob I hg hm ?_ hdb)
  refine PySem.W.callWith_K (h₀ := X.base) I.ok.mod.kin hk (thn (h.run pos pins s I) fun us s1 ⟨vs, H1, I1, r, q⟩ => ⟨I1.kIn, ?_⟩) he hpl
  exact ran C F (.of_eq (hbind kV doc pm an cdv ct us (r.length.symm.trans (F.len _ _ _ _ q)))) I1 r q
theorem e_call0 (C : Cxt X k W) (D : Def X.prog X.w X.K X.mg X.base k x st [] sp) (h : sp [] H Q (fun cls d H' => W cls d σ H')) (hg : Gl X x := by rfl)
    (hbind : ∀ (kV doc pm : Value) (an : Option Addr) (cdv ct : Value), bindArgs (PySem.W.fnOf x x (defArgs st) (defBody st) (defScope st) .none kV doc pm an cdv ct) ⟨[], []⟩ = pure [] := by intros; rfl)
    (hdb : (x == ("__debug__" : Str)) = false := by decide) : wE X (.Call (.Name x p) [] [] pos) σ H Q := by
  obtain ⟨f, kV, doc, pm, an, cdv, ct, hm, hk, F⟩ := D.ex
  refine ⟨fun pins s I => ?_⟩
  refine wpAny_Call_Name_kw (ld_glob I hg hm ?_ hdb)
  exact PySem.W.callWith_K0 I.kIn hk (ran (us := []) (us' := []) C F (.of_eq (hbind kV doc pm an cdv ct)) I .nil h)
/-- f(k = a, ..), nothing by its place -/
theorem e_callK0 {kws : List Keyword} {ks : List Str} {g : {α : Type} → List α → List α} (C : Cxt X k W) (D : Def X.prog X.w X.K X.mg X.base k x st ps sp)
    (h : wK X kws σ H fun zs H1 => sp (g zs) H1 Q (fun cls d H' => W cls d σ H')) (hrel : ∀ {vs : List V} {us : List Value}, Vals vs us → Vals (g vs) (g us)) (hg : Gl X x := by rfl)
    (hbind : ∀ (kV doc pm : Value) (an : Option Addr) (cdv ct : Value) (us : List Value), (g us).length = ps.length → bindArgs (PySem.W.fnOf x x (defArgs st) (defBody st) (defScope st) .none kV doc pm an cdv ct) ⟨[], ks.zip us⟩ = pure (ps.zip (g us)))
    (hall : (backToKw pos (keywordEach kws X.env)).all (·.1.isSome) = true := by rfl) (hks : (backToKw pos (keywordEach kws X.env)).filterMap (·.1) = ks := by rfl)
    (hdb : (x == ("__debug__" : Str)) = false := by decide)
    (hpl : ((backTo pos (starEach [] X.env)).any (·.1) || (backToKw pos (keywordEach kws X.env)).any (·.1.isNone)) = false := by rfl) : wE X (.Call (.Name x p) [] kws pos) σ H Q := by
  obtain ⟨f, kV, doc, pm, an, cdv, ct, hm, hk, F⟩ := D.ex
  refine ⟨fun pins s I => ?_⟩
  refine wpAny_Call_Name_kw (ld_glob I hg hm ?_ hdb)
  refine PySem.W.callWith_KW0 (h₀ := X.base) I.ok.mod.kin hk hall (thn (h.run pos pins s I) fun us s1 ⟨vs, H1, I1, r, q⟩ => ⟨I1.kIn, ?_⟩) hpl
  rw [hks]
  have r2 := hrel r
  exact ran (us := []) C F (.of_eq (hbind kV doc pm an cdv ct us (r2.length.symm.trans (F.len _ _ _ _ q)))) I1 r2 q
theorem ranG {f : Addr} {fd : FuncData} {us : List Value} {kw : List (Str × Value)} {us' : List Value} {vs' : List V} {pins : List (Addr × Obj)} {s : Shared} (C : Cxt X k W) (g : Gd X) (F : GFn X.prog X.w X.K X.mg X.base k f fd ps sp)
    (hb : BindsTo s fd ⟨us, kw⟩ (ps.zip us')) (I : Inv X pins σ H s) (r : Vals vs' us') (h : sp vs' H Q (fun cls d H' => W cls d σ H')) : wpAny (model X.prog X.w) X.A (call (.ref f) us kw) (EP X pins σ Q) X.xe s := by
  refine wpAny_call (codeAny_mono (F.run X.A X.stack s H ⟨us, kw⟩ us' vs' Q _ C.room g I.env0 hb r h) fun r s' hq => ?_)
  cases r with
  | error e => exact C.tk e s' (XE.of_call I (fun _ _ _ z => z) hq)
  | ok fl =>
    cases fl with
    | ret u => exact I.after hq
    | next => exact False.elim hq
    | brk => exact False.elim hq
    | cont => exact False.elim hq
theorem e_callG (C : Cxt X k W) (hgd : Gd X) (D : DefG X.prog X.w X.K X.mg X.base k x st ps sp)
    (h : wA X (e :: es) σ H fun vs H1 => sp vs H1 Q (fun cls d H' => W cls d σ H')) (hg : Gl X x := by rfl)
    (hbind : ∀ (kV doc pm : Value) (an : Option Addr) (cdv ct : Value) (us : List Value), us.length = ps.length → bindArgs (PySem.W.fnOf x x (defArgs st) (defBody st) (defScope st) .none kV doc pm an cdv ct) ⟨us, []⟩ = pure (ps.zip us))
    (hdb : (x == ("__debug__" : Str)) = false := by decide) (he : starEach (e :: es) X.env = (false, eval e X.env) :: starEach es X.env := by rfl) (hpl : (backTo pos (starEach es X.env)).any (·.1) = false := by rfl) :
    wE X (.Call (.Name x p) (e :: es) [] pos) σ H Q := by
  obtain ⟨f, kV, doc, pm, an, cdv, ct, hm, hk, F⟩ := D.ex
  refine ⟨fun pins s I => ?_⟩
  refine wpAny_Call_Name_kw (ld_glob I hg hm ?_ hdb)
  refine PySem.W.callWith_K (h₀ := X.base) I.ok.mod.kin hk (thn (h.run pos pins s I) fun us s1 ⟨vs, H1, I1, r, q⟩ => ⟨I1.kIn, ?_⟩) he hpl
  exact ranG C hgd F (.of_eq (hbind kV doc pm an cdv ct us (r.length.symm.trans (F.len _ _ _ _ q)))) I1 r q
theorem e_callG0 (C : Cxt X k W) (hgd : Gd X) (D : DefG X.prog X.w X.K X.mg X.base k x st [] sp) (h : sp [] H Q (fun cls d H' => W cls d σ H')) (hg : Gl X x := by rfl)
    (hbind : ∀ (kV doc pm : Value) (an : Option Addr) (cdv ct : Value), bindArgs (PySem.W.fnOf x x (defArgs st) (defBody st) (defScope st) .none kV doc pm an cdv ct) ⟨[], []⟩ = pure [] := by intros; rfl)
    (hdb : (x == ("__debug__" : Str)) = false := by decide) : wE X (.Call (.Name x p) [] [] pos) σ H Q := by
  obtain ⟨f, kV, doc, pm, an, cdv, ct, hm, hk, F⟩ := D.ex
  refine ⟨fun pins s I => ?_⟩
  refine wpAny_Call_Name_kw (ld_glob I hg hm ?_ hdb)
  exact PySem.W.callWith_K0 I.kIn hk (ranG (us := []) (us' := []) C hgd F (.of_eq (hbind kV doc pm an cdv ct)) I .nil h)
/-- f(k = a, ..), nothing by its place -/
theorem e_callGK0 {kws : List Keyword} {ks : List Str} {g : {α : Type} → List α → List α} (C : Cxt X k W) (hgd : Gd X) (D : DefG X.prog X.w X.K X.mg X.base k x st ps sp)
    (h : wK X kws σ H fun zs H1 => sp (g zs) H1 Q (fun cls d H' => W cls d σ H')) (hrel : ∀ {vs : List V} {us : List Value}, Vals vs us → Vals (g vs) (g us)) (hg : Gl X x := by rfl)
    (hbind : ∀ (kV doc pm : Value) (an : Option Addr) (cdv ct : Value) (us : List Value), (g us).length = ps.length → bindArgs (PySem.W.fnOf x x (defArgs st) (defBody st) (defScope st) .none kV doc pm an cdv ct) ⟨[], ks.zip us⟩ = pure (ps.zip (g us)))
    (hall : (backToKw pos (keywordEach kws X.env)).all (·.1.isSome) = true := by rfl) (hks : (backToKw pos (keywordEach kws X.env)).filterMap (·.1) = ks := by rfl)
    (hdb : (x == ("__debug__" : Str)) = false := by decide)
    (hpl : ((backTo pos (starEach [] X.env)).any (·.1) || (backToKw pos (keywordEach kws X.env)).any (·.1.isNone)) = false := by rfl) : wE X (.Call (.Name x p) [] kws pos) σ H Q := by
  obtain ⟨f, kV, doc, pm, an, cdv, ct, hm, hk, F⟩ := D.ex
  refine ⟨fun pins s I => ?_⟩
  refine wpAny_Call_Name_kw (ld_glob I hg hm ?_ hdb)
  refine PySem.W.callWith_KW0 (h₀ := X.base) I.ok.mod.kin hk hall (thn (h.run pos pins s I) fun us s1 ⟨vs, H1, I1, r, q⟩ => ⟨I1.kIn, ?_⟩) hpl
  rw [hks]
  have r2 := hrel r
  exact ranG (us := []) C hgd F (.of_eq (hbind kV doc pm an cdv ct us (r2.length.symm.trans (F.len _ _ _ _ q)))) I1 r2 q
end

/-! ### loops -/
section
variable {X : Cx} {k : Nat} {W : WX} {σ : L2.St} {H : Hp} {e a b c : Expr} {es : List Expr} {p pos : Pos}
theorem s_for {D : Ends} {tg iter : Expr} {body : List Stmt} (C : Cxt X k W)
    (h : wI X tg iter σ H fun J H1 => ∃ n G Y, Walk J n G Y ∧ ∃ Pv : Nat → L2.St → Hp → Prop, Pv 0 σ H1 ∧ (∀ i σ H, i ≤ n → Pv i σ H → G H) ∧
      (∀ i x σ H H', i < n → Pv i σ H → Y i H x H' → wG X tg x σ H' fun σ2 H2 => wB X body { D with nx := Pv (i + 1), ct := Pv (i + 1), bk := D.nx } σ2 H2) ∧ ∀ σ H, Pv n σ H → D.nx σ H)
    (hs : ∀ x, foldedSetIterable iter X.env x = pure x := by intro _; rfl) : wS X (.For tg iter body [] pos) D σ H := by
  refine eS (ps_for C.po C.calm pI pG pB hs) ⟨fun pins s I => ?_⟩
  refine wpAny_mono (h.run pins s I) (fun v s1 hv => ?_) fun _ _ z => z
  refine wpAny_mono hv (fun it s2 hi => ?_) fun _ _ z => z
  obtain ⟨itv, fp, tn, J, H', e1, I1, T, t0, f1, n, G, Y, w, Pv, h0, hG, hs, hd⟩ := hi
  exact ⟨itv, fp, tn, J, H', e1, I1, T, t0, f1, for_it w Pv h0 hG hs hd⟩
theorem wI_mono {tg iter : Expr} {R R' : It → Hp → Prop} (h : wI X tg iter σ H R) (k : ∀ J H', R J H' → R' J H') : wI X tg iter σ H R' := ⟨fun pins s I =>
  thn (h.run pins s I) fun v s1 hv => thn hv fun it s2 ⟨itv, fp, tn, J, H', e1, I1, T, t0, f1, r⟩ => ⟨itv, fp, tn, J, H', e1, I1, T, t0, f1, k J H' r⟩⟩
/-- the readings within a comprehension's block, whatever its context -/
def wEb (X : Cx) (scope : Scope) (e : Expr) : TE := fun σ H Q => ∀ (s : Shared) (H0 : Hp) (C : Addr) (cl : List (Str × Addr)) (fp : List Addr), wE (X.blk s H0 scope (compEnvC scope cl C X.env) fp) e σ H Q
def wGb (X : Cx) (scope : Scope) (e : Expr) : TG := fun v σ H Q => ∀ (s : Shared) (H0 : Hp) (C : Addr) (cl : List (Str × Addr)) (fp : List Addr), wG (X.blk s H0 scope (compEnvC scope cl C X.env) fp) e v σ H Q
def wIfb (X : Cx) (scope : Scope) (es : List Expr) : TT := fun σ H Q => ∀ (s : Shared) (H0 : Hp) (C : Addr) (cl : List (Str × Addr)) (fp : List Addr), wIf (X.blk s H0 scope (compEnvC scope cl C X.env) fp) es σ H Q
/-- one turn of a comprehension: x the item, D the list under way -/
def LcTurn (X : Cx) (scope : Scope) (vs : List Nat) (tg : Expr) (ifs : List Expr) (elt : Expr) (σ : L2.St) (D : Addr) (x : V) (H : Hp) (Nx : Hp → Prop) : Prop :=
  wGb X scope tg x (wipe σ vs) H fun σ2 H2 => wipe σ2 vs = wipe σ vs ∧ wIfb X scope ifs σ2 H2 fun b H3 =>
    if b = true then wEb X scope elt σ2 H3 fun y H4 => ∃ acc, H4 D = some (.lst acc) ∧ acc.length < sizeLine ∧ Nx (upd H4 D (.lst (acc ++ [y]))) else Nx H3
theorem e_lc {Q : VK} {elt tg iter : Expr} {ifs : List Expr} {scope : Scope} (own : List (Str × Nat)) (C : Cxt X k W)
    (h : wI X tg iter σ H fun J H1 => ∃ n G Y, Walk J n G Y ∧ ∀ D, H1 D = none → ∃ Pv : Nat → Hp → Prop, Pv 0 (upd H1 D (.lst [])) ∧ (∀ i H, i ≤ n → Pv i H → G H) ∧
      (∀ i x H H', i < n → Pv i H → Y i H x H' → LcTurn X scope (own.map (·.2)) tg ifs elt σ D x H' (Pv (i + 1))) ∧ ∀ H, Pv n H → Q (.ref D) H)
    (ok : BlkOk X.N X.env.scope scope own := by exact blkOk_by (by first | rfl | kernel_rfl)) (hs : ∀ x, foldedSetIterable iter X.env x = pure x := by intro _; rfl) :
    wE X (.ListComp elt [⟨tg, iter, ifs, 0⟩] scope pos) σ H Q := by
  refine eE (pe_lc (g := wGb X scope tg) (tt := wIfb X scope ifs) (te := wEb X scope elt) C.calm C.nd pI ok (fun s H C cl fp => ⟨fun pins s' σ' H' v u Q' I r hh => (hh s H C cl fp).run pins s' u I r⟩)
    (fun s H C cl fp => ⟨fun pins s' σ' H' Q' I hh => (hh s H C cl fp).run pins s' I⟩) (fun s H C cl fp => ⟨fun pins s' σ' H' Q' I hh => (hh s H C cl fp).run pins s' I⟩) hs) ?_
  refine wI_mono h fun J H1 hh => ?_
  obtain ⟨n, G, Y, w, hD⟩ := hh
  intro D hn
  obtain ⟨Pv, h0, hG, ht, hd⟩ := hD D hn
  exact lc_it w Pv h0 hG ht hd
theorem s_setLc {D : Ends} {i : Nat} {y : Str} {py spos : Pos} {elt tg iter : Expr} {ifs : List Expr} {scope : Scope} (own : List (Str × Nat)) (C : Cxt X k W)
    (h : wI X tg iter σ H fun J H1 => ∃ n G Y, Walk J n G Y ∧ ∀ L, H1 L = none → ∃ Pv : Nat → Hp → Prop, Pv 0 (upd H1 L (.lst [])) ∧ (∀ i H, i ≤ n → Pv i H → G H) ∧
      (∀ i x H H', i < n → Pv i H → Y i H x H' → LcTurn X scope (own.map (·.2)) tg ifs elt σ L x H' (Pv (i + 1))) ∧ ∀ H, Pv n H → D.nx (σ.set i (some (.ref L))) H)
    (hi : X.N[i]? = some y := by rfl) (hyl : X.env.scope.names.lookup y = some .local := by rfl)
    (hsw : swapsWith (.ListComp elt [⟨tg, iter, ifs, 0⟩] scope pos) (some (.Name y py)) spos.line X.env = pure true := by exact sw_true rfl rfl rfl (by first | rfl | kernel_rfl))
    (ok : BlkOk X.N X.env.scope scope own := by exact blkOk_by (by first | rfl | kernel_rfl)) (hs : ∀ x, foldedSetIterable iter X.env x = pure x := by intro _; rfl) :
    wS X (.Assign [.Name y py] (.ListComp elt [⟨tg, iter, ifs, 0⟩] scope pos) spos) D σ H := by
  refine eS (ps_setLc (g := wGb X scope tg) (tt := wIfb X scope ifs) (te := wEb X scope elt) C.calm C.nd hi hyl hsw pI ok (fun s H C cl fp => ⟨fun pins s' σ' H' v u Q' I r hh => (hh s H C cl fp).run pins s' u I r⟩)
    (fun s H C cl fp => ⟨fun pins s' σ' H' Q' I hh => (hh s H C cl fp).run pins s' I⟩) (fun s H C cl fp => ⟨fun pins s' σ' H' Q' I hh => (hh s H C cl fp).run pins s' I⟩) hs) ?_
  refine wI_mono h fun J H1 hh => ?_
  obtain ⟨n, G, Y, w, hD⟩ := hh
  intro L hn
  obtain ⟨Pv, h0, hG, ht, hd⟩ := hD L hn
  exact lc_it w Pv h0 hG ht hd
/-- a block without tests, its target a name -/
theorem lc_plain {scope : Scope} {vs : List Nat} {i : Nat} {y : Str} {elt : Expr} {D : Addr} {x : V} {Nx : Hp → Prop} (hN : X.N.Nodup)
    (h : wEb X scope elt ((wipe σ vs).set i (some x)) H fun y H4 => ∃ acc, H4 D = some (.lst acc) ∧ acc.length < sizeLine ∧ Nx (upd H4 D (.lst (acc ++ [y])))) (hw : wipe ((wipe σ vs).set i (some x)) vs = wipe σ vs := by rfl) (hi : X.N[i]? = some y := by rfl)
    (hx : Loc (relS scope X.env.scope) y := by first | exact Or.inl rfl | exact Or.inr rfl) (hf : (scope.names.lookup y == some .cell) = true ∨ (relS scope X.env.scope).names.lookup y = some .local := by first | exact .inl rfl | exact .inr rfl) :
    LcTurn X scope vs (.Name y p) [] elt σ D x H Nx := by
  intro s H0 C cl fp
  refine g_name (i := i) ?_ hN hi hx hf
  refine ⟨hw, fun s H0 C cl fp => eIf pts_nil ?_⟩
  exact h

/-! ### what is walked -/
theorem i_list {tg : Expr} {R : It → Hp → Prop} (h : wE X e σ H fun x H1 => ∃ a, x = .ref a ∧ (∃ xs, SqL X.K H1 a xs) ∧ R (Itl X.K a) H1) : wI X tg e σ H R := eI (pi_list pE) h
theorem i_tup {tg : Expr} {R : It → Hp → Prop} (h : wE X e σ H fun x H1 => ∃ a, x = .ref a ∧ (∃ xs, SqT X.K H1 a xs) ∧ R (Itt X.K a) H1) : wI X tg e σ H R := eI (pi_tup pE) h
theorem i_str {tg : Expr} {R : It → Hp → Prop} (h : wE X e σ H fun v H1 => ∃ x, v = .str x ∧ R (Its x) H1) : wI X tg e σ H R := eI (pi_str pE) h
theorem i_range1 {tg : Expr} {R : It → Hp → Prop} (B : Blt X.mg X.base) (h : wE X a σ H fun v H1 => ∃ j : Int, v = .int j ∧ -(2 ^ 62) ≤ j ∧ j < 2 ^ 62 ∧ R (Itr 0 j.toNat) H1) (hg : Gl X "range" := by rfl)
    (hs : starEach [a] X.env = [(false, eval a X.env)] := by rfl) : wI X tg (.Call (.Name "range" p) [a] [] pos) σ H R :=
  eI (pi_range1 hg B.range pA hs) (a_cons (wE_mono h fun v H1 ⟨j, e1, h1, h2, r⟩ => a_nil ⟨j, by rw [e1], h1, h2, r⟩) hs)
theorem i_range2 {tg : Expr} {R : It → Hp → Prop} (B : Blt X.mg X.base) (h : wE X a σ H fun v H1 => wE X b σ H1 fun u H2 => ∃ i j : Int, v = .int i ∧ u = .int j ∧ (-(2 ^ 62) ≤ i ∧ i < 2 ^ 62 ∧ -(2 ^ 62) ≤ j ∧ j < 2 ^ 62) ∧ R (Itr i (j - i).toNat) H2) (hg : Gl X "range" := by rfl)
    (hs : starEach [a, b] X.env = [(false, eval a X.env), (false, eval b X.env)] := by rfl) (hs2 : starEach [b] X.env = [(false, eval b X.env)] := by rfl) : wI X tg (.Call (.Name "range" p) [a, b] [] pos) σ H R :=
  eI (pi_range2 hg B.range pA hs hs2) (a_cons (wE_mono h fun v H1 q => a_cons (wE_mono q fun u H2 ⟨i, j, e1, e2, h1, r⟩ => a_nil ⟨i, j, by rw [e1, e2], h1, r⟩) hs2) (by rw [hs, hs2]))
theorem i_range3 {tg : Expr} {R : It → Hp → Prop} (B : Blt X.mg X.base) (h : wA X [a, b, c] σ H fun vs H1 => ∃ (i j c : Int) (n : Nat), vs = [.int i, .int j, .int c] ∧ RgC i j c n ∧ R (Itc i c n) H1) (hg : Gl X "range" := by rfl)
    (hs : starEach [a, b, c] X.env = (false, eval a X.env) :: starEach [b, c] X.env := by rfl) (hpl : (backTo pos (starEach [b, c] X.env)).any (·.1) = false := by rfl) : wI X tg (.Call (.Name "range" p) [a, b, c] [] pos) σ H R := eI (pi_range3 hg B.range pA hs hpl) h
theorem i_enum {R : It → Hp → Prop} {elts : List Expr} {kk : Nat} {tpos : Pos} (B : Blt X.mg X.base) (h : wE X e σ H fun v H1 => ∃ a xs, v = .ref a ∧ SqL X.K H1 a xs ∧ R (Ite X.K a) H1) (hg : Gl X "enumerate" := by rfl) (hs : starEach [e] X.env = [(false, eval e X.env)] := by rfl) :
    wI X (.Tuple elts kk tpos) (.Call (.Name "enumerate" p) [e] [] pos) σ H R :=
  eI (pi_enum hg B.enumerate pA hs) (a_cons (wE_mono h fun v H1 ⟨a, xs, e1, h1, r⟩ => a_nil ⟨a, xs, by rw [e1], h1, r⟩) hs)
end

/-! ### built-ins -/
structure cW (X : Cx) (f : Value) (xs : List V) (H : Hp) (Q : VK) : Prop where
  run : ∀ pins s σ us, Inv X pins σ H s → Vals xs us → wpAny (model X.prog X.w) X.A (call f us) (EP X pins σ Q) X.xe s
theorem cR {X : Cx} {f : Value} : CallR X f (cW X f) := fun pins s σ _ _ us _ I r h => h.run pins s σ us I r
theorem cW_of {X : Cx} {f : Value} {r : List V → Hp → VK → Prop} {xs : List V} {H : Hp} {Q : VK} (p : CallR X f r) (h : r xs H Q) : cW X f xs H Q := ⟨fun pins s σ us I rv => p pins s σ H xs us Q I rv h⟩
section
variable {X : Cx} {k : Nat} {W : WX} {σ : L2.St} {H : Hp} {x : Str} {e a b : Expr} {es : List Expr} {p pos : Pos} {Q : VK}
theorem e_B {id : String} (h : wA X (e :: es) σ H fun vs H1 => cW X (.builtin id) vs H1 Q) (hm : X.mg x = none) (hv : bootBuiltins x = some (.builtin id)) (hg : Gl X x := by rfl) (hn : x ≠ "__name__" := by decide) (hdb : (x == ("__debug__" : Str)) = false := by decide)
    (he : starEach (e :: es) X.env = (false, eval e X.env) :: starEach es X.env := by rfl) (hpl : (backTo pos (starEach es X.env)).any (·.1) = false := by rfl) : wE X (.Call (.Name x p) (e :: es) [] pos) σ H Q := eE (pe_callB cR hg hm hv pA hn hdb he hpl) h
theorem e_Ty {T : String} (h : wA X (e :: es) σ H fun vs H1 => cW X (.type T) vs H1 Q) (hm : X.mg x = none) (hv : bootBuiltins x = some (.type T)) (hg : Gl X x := by rfl) (hn : x ≠ "__name__" := by decide) (hdb : (x == ("__debug__" : Str)) = false := by decide)
    (he : starEach (e :: es) X.env = (false, eval e X.env) :: starEach es X.env := by rfl) (hpl : (backTo pos (starEach es X.env)).any (·.1) = false := by rfl) : wE X (.Call (.Name x p) (e :: es) [] pos) σ H Q := eE (pe_callTy cR hg hm hv pA hn hdb he hpl) h
theorem e_len (B : Blt X.mg X.base) (h : wE X a σ H fun x H1 => ∃ n, LenV X.K x H1 n ∧ Q (.int n) H1) (hg : Gl X "len" := by rfl) (hs : starEach [a] X.env = [(false, eval a X.env)] := by rfl) : wE X (.Call (.Name "len" p) [a] [] pos) σ H Q :=
  e_B (id := "len") (a_cons (wE_mono h fun x H1 ⟨n, l, q⟩ => a_nil (cW_of call_len ⟨x, n, rfl, l, q⟩)) hs) B.len PySem.boot_len hg (by decide) (by decide) hs rfl
theorem e_abs (B : Blt X.mg X.base) (h : wE X a σ H fun x H1 => ∃ i, x = .int i ∧ Q (.int (if i < 0 then -i else i)) H1) (hg : Gl X "abs" := by rfl) (hs : starEach [a] X.env = [(false, eval a X.env)] := by rfl) : wE X (.Call (.Name "abs" p) [a] [] pos) σ H Q :=
  e_B (id := "abs") (a_cons (wE_mono h fun x H1 ⟨n, l, q⟩ => a_nil (cW_of call_abs ⟨n, by rw [l], q⟩)) hs) B.abs PyProof.Rows.boot_abs hg (by decide) (by decide) hs rfl
theorem e_int1 (B : Blt X.mg X.base) (h : wE X a σ H fun x H1 => ∃ i, x = .int i ∧ Q (.int i) H1) (hg : Gl X "int" := by rfl) (hs : starEach [a] X.env = [(false, eval a X.env)] := by rfl) : wE X (.Call (.Name "int" p) [a] [] pos) σ H Q :=
  e_Ty (T := "int") (a_cons (wE_mono h fun x H1 ⟨n, l, q⟩ => a_nil (cW_of call_int1 (.inl ⟨n, by rw [l], q⟩))) hs) B.int PyProof.Rows.boot_int hg (by decide) (by decide) hs rfl
theorem e_max2 (C : Cxt X k W) (h : wE X a σ H fun x H1 => wE X b σ H1 fun y H2 => ∃ i j, x = .int i ∧ y = .int j ∧ Q (.int (if j > i then j else i)) H2) (hg : Gl X "max" := by rfl) (hs : starEach [a, b] X.env = (false, eval a X.env) :: starEach [b] X.env := by rfl)
    (hs2 : starEach [b] X.env = [(false, eval b X.env)] := by rfl) : wE X (.Call (.Name "max" p) [a, b] [] pos) σ H Q :=
  e_B (id := "max") (a_cons (wE_mono h fun x H1 q => a_cons (wE_mono q fun y H2 ⟨i, j, e1, e2, q⟩ => a_nil (cW_of (call_max2 C.calm) ⟨i, j, by rw [e1, e2], q⟩)) hs2) hs) C.blt.max PyProof.Rows.boot_max hg (by decide) (by decide) hs (by rw [hs2]; rfl)
theorem e_min2 (C : Cxt X k W) (h : wE X a σ H fun x H1 => wE X b σ H1 fun y H2 => ∃ i j, x = .int i ∧ y = .int j ∧ Q (.int (if j < i then j else i)) H2) (hg : Gl X "min" := by rfl) (hs : starEach [a, b] X.env = (false, eval a X.env) :: starEach [b] X.env := by rfl)
    (hs2 : starEach [b] X.env = [(false, eval b X.env)] := by rfl) : wE X (.Call (.Name "min" p) [a, b] [] pos) σ H Q :=
  e_B (id := "min") (a_cons (wE_mono h fun x H1 q => a_cons (wE_mono q fun y H2 ⟨i, j, e1, e2, q⟩ => a_nil (cW_of (call_min2 C.calm) ⟨i, j, by rw [e1, e2], q⟩)) hs2) hs) C.blt.min PyProof.Rows.boot_min hg (by decide) (by decide) hs (by rw [hs2]; rfl)
theorem e_divmod (B : Blt X.mg X.base) (h : wE X a σ H fun x H1 => wE X b σ H1 fun y H2 => ∃ i j, x = .int i ∧ y = .int j ∧ CDiv i j ∧ ∀ p, H2 p = none → Q (.ref p) (upd H2 p (.tup [.int (i / j), .int (i % j)]))) (hg : Gl X "divmod" := by rfl)
    (hs : starEach [a, b] X.env = (false, eval a X.env) :: starEach [b] X.env := by rfl) (hs2 : starEach [b] X.env = [(false, eval b X.env)] := by rfl) : wE X (.Call (.Name "divmod" p) [a, b] [] pos) σ H Q :=
  e_B (id := "divmod") (a_cons (wE_mono h fun x H1 q => a_cons (wE_mono q fun y H2 ⟨i, j, e1, e2, q⟩ => a_nil (cW_of call_divmod ⟨i, j, by rw [e1, e2], q⟩)) hs2) hs) B.divmod PyProof.Rows.boot_divmod hg (by decide) (by decide) hs (by rw [hs2]; rfl)
theorem e_all (C : Cxt X k W) (h : wE X a σ H fun x H1 => ∃ (q : Addr) (bs : List Bool), x = .ref q ∧ SqL X.K H1 q (bs.map V.bl) ∧ Q (.bl (bs.all id)) H1) (hg : Gl X "all" := by rfl) (hs : starEach [a] X.env = [(false, eval a X.env)] := by rfl) : wE X (.Call (.Name "all" p) [a] [] pos) σ H Q :=
  e_B (id := "all") (a_cons (wE_mono h fun x H1 ⟨n, bs, e1, l, q⟩ => a_nil (cW_of (cr_all C.calm) ⟨n, bs, by rw [e1], l, q⟩)) hs) C.blt.all PyProof.Rows.boot_all hg (by decide) (by decide) hs rfl
theorem e_any (C : Cxt X k W) (h : wE X a σ H fun x H1 => ∃ (q : Addr) (bs : List Bool), x = .ref q ∧ SqL X.K H1 q (bs.map V.bl) ∧ Q (.bl (bs.any id)) H1) (hg : Gl X "any" := by rfl) (hs : starEach [a] X.env = [(false, eval a X.env)] := by rfl) : wE X (.Call (.Name "any" p) [a] [] pos) σ H Q :=
  e_B (id := "any") (a_cons (wE_mono h fun x H1 ⟨n, bs, e1, l, q⟩ => a_nil (cW_of (cr_any C.calm) ⟨n, bs, by rw [e1], l, q⟩)) hs) C.blt.any PyProof.Rows.boot_any hg (by decide) (by decide) hs rfl

/-! ### subscripts, slices, methods -/
/-- v[i], by values -/
structure iW (X : Cx) (x y : V) (H : Hp) (Q : VK) : Prop where
  run : ∀ (value slice : Expr) pins s σ v u, Inv X pins σ H s → RelV x v → RelV y u → subscripted slice false v u = operate [v, u] (getItem v u) → wpAny (model X.prog X.w) X.A (subscriptTail value slice v u) (EP X pins σ Q) X.xe s
theorem e_ix (h : wE X a σ H fun x H1 => wE X b σ H1 fun y H2 => iW X x y H2 Q) (hs : PlainIx b := by exact fun _ _ => rfl) : wE X (.Subscript a b pos) σ H Q :=
  eE (pe_ix (r := iW X) (fun value slice pins s σ _ _ _ v u _ I rx ry h he => h.run value slice pins s σ v u I rx ry he) pE pE hs) h
theorem iW_of {r : R2} {x y : V} (p : IxR X r) (h : r x y H Q) : iW X x y H Q := ⟨fun value slice pins s σ v u I rx ry he => p value slice pins s σ H x y v u Q I rx ry h he⟩
theorem ix_l {q : Addr} {xs : List V} {i : Int} {v : V} (hq : SqL X.K H q xs) (ha : atI xs i = some v) (h : Q v H) : iW X (.ref q) (.int i) H Q := iW_of ix_list ⟨q, xs, i, v, rfl, rfl, hq, ha, h⟩
theorem ix_t {q : Addr} {xs : List V} {i : Int} {v : V} (hq : SqT X.K H q xs) (ha : atI xs i = some v) (h : Q v H) : iW X (.ref q) (.int i) H Q := iW_of ix_tup ⟨q, xs, i, v, rfl, rfl, hq, ha, h⟩
theorem ix_s {z : Str} {i : Int} {c : Nat} (hz : z.length ≤ sizeLine) (ha : atI z.cps.toList i = some c) (h : Q (.str ⟨#[c]⟩) H) : iW X (.str z) (.int i) H Q := iW_of ix_str ⟨z, i, c, rfl, rfl, hz, ha, h⟩
theorem set_l {q : Addr} {xs : List V} {i : Int} {j : Nat} {v : V} {R : Hp → Prop} (hq : H q = some (.lst xs)) (hj : ixN xs.length i = some j) (h : R (upd H q (.lst (xs.set j v)))) : sW X (.ref q) (.int i) v H R := sW_of set_list ⟨q, xs, i, j, rfl, rfl, hq, hj, h⟩
end
end Z

set_option Elab.async false
set_option linter.all false
set_option maxRecDepth 100000
set_option maxHeartbeats 4000000
/-! Data: what a value holds as a whole; none of its lists and dicts among l (those that may change) -/
namespace Z
open PySem PySem.Spec PyProof.Rows L2

/-- all but what stands at l is as it was -/
def But (l : List Addr) (H H' : Hp) : Prop := ∀ q o, q ∉ l → H q = some o → H' q = some o
theorem But.refl {l : List Addr} {H : Hp} : But l H H := fun _ _ _ h => h
theorem But.trans {l : List Addr} {H H1 H2 : Hp} (a : But l H H1) (b : But l H1 H2) : But l H H2 := fun q o n h => b q o n (a q o n h)
theorem But.new {l : List Addr} {H : Hp} {p : Addr} {o : HO} (h : H p = none) : But l H (upd H p o) := fun q u _ e => by rw [upd_ne (ne_of_none e h)]; exact e
theorem But.at {l : List Addr} {H : Hp} {p : Addr} {o : HO} (h : p ∈ l) : But l H (upd H p o) := fun q u n e => by
  have : q ≠ p := fun z => n (z ▸ h)
  rw [upd_ne this]; exact e
theorem But.mono {l m : List Addr} {H H' : Hp} (a : But l H H') (h : ∀ q ∈ l, q ∈ m) : But m H H' := fun q o n e => a q o (fun z => n (h q z)) e
theorem But.of {H H' : Hp} {l : List Addr} (a : But [] H H') : But l H H' := a.mono fun _ h => nomatch h
theorem But.free {H H' : Hp} (a : But [] H H') {p : Addr} (h : H' p = none) : H p = none := by
  cases e : H p with
  | none => rfl
  | some o => rw [a p o (by simp) e] at h; cases h
theorem But.freeL {l : List Addr} {H H' : Hp} (a : But l H H') {p : Addr} (n : p ∉ l) (h : H' p = none) : H p = none := by
  cases e : H p with
  | none => rfl
  | some o => rw [a p o n e] at h; cases h
theorem But.sql {K : PySem.W.Frag} {l : List Addr} {H H' : Hp} {a : Addr} {xs : List V} (b : But l H H') (n : a ∉ l) (h : SqL K H a xs) : SqL K H' a xs := by
  rcases h with (h | ⟨o, h⟩) | h
  · exact .inl (.inl (b _ _ n h))
  · exact .inl (.inr ⟨o, b _ _ n h⟩)
  · exact .inr h
theorem But.sqt {K : PySem.W.Frag} {l : List Addr} {H H' : Hp} {a : Addr} {xs : List V} (b : But l H H') (n : a ∉ l) (h : SqT K H a xs) : SqT K H' a xs := by
  rcases h with (h | ⟨o, h⟩) | h
  · exact .inl (.inl (b _ _ n h))
  · exact .inl (.inr ⟨o, b _ _ n h⟩)
  · exact .inr h

def keyD : Key → PyData
  | .inl i => .int i
  | .inr x => .str x
mutual
inductive DD (K : PySem.W.Frag) (l : List Addr) (H : Hp) : V → PyData → Prop
  | non : DD K l H .non .none
  | bl (b : Bool) : DD K l H (.bl b) (.bool b)
  | int (i : Int) : DD K l H (.int i) (.int i)
  | str (x : Str) : DD K l H (.str x) (.str x)
  | lst {a : Addr} {xs : List V} {ds : List PyData} : SqL K H a xs → a ∉ l → DDs K l H xs ds → DD K l H (.ref a) (.list ds)
  | tup {a : Addr} {xs : List V} {ds : List PyData} : SqT K H a xs → a ∉ l → DDs K l H xs ds → DD K l H (.ref a) (.tuple ds)
  | dct {a : Addr} {kvs : List (Key × V)} {ds : List PyData} : H a = some (.dK kvs) → a ∉ l → DDs K l H (kvs.map (·.2)) ds → DD K l H (.ref a) (.dict ((kvs.map fun q => keyD q.1).zip ds))
inductive DDs (K : PySem.W.Frag) (l : List Addr) (H : Hp) : List V → List PyData → Prop
  | nil : DDs K l H [] []
  | cons {v : V} {vs : List V} {d : PyData} {ds : List PyData} : DD K l H v d → DDs K l H vs ds → DDs K l H (v :: vs) (d :: ds)
end
section
variable {K : PySem.W.Frag} {l m : List Addr} {H H' : Hp}
mutual
theorem DD.but (b : But l H H') : ∀ {v : V} {d : PyData}, DD K l H v d → DD K l H' v d
  | _, _, .non => .non
  | _, _, .bl x => .bl x
  | _, _, .int x => .int x
  | _, _, .str x => .str x
  | _, _, .lst h n r => .lst (b.sql n h) n (DDs.but b r)
  | _, _, .tup h n r => .tup (b.sqt n h) n (DDs.but b r)
  | _, _, .dct h n r => .dct (b _ _ n h) n (DDs.but b r)
theorem DDs.but (b : But l H H') : ∀ {vs : List V} {ds : List PyData}, DDs K l H vs ds → DDs K l H' vs ds
  | _, _, .nil => .nil
  | _, _, .cons h r => .cons (DD.but b h) (DDs.but b r)
end
mutual
theorem DD.less (b : ∀ q ∈ m, q ∈ l) : ∀ {v : V} {d : PyData}, DD K l H v d → DD K m H v d
  | _, _, .non => .non
  | _, _, .bl x => .bl x
  | _, _, .int x => .int x
  | _, _, .str x => .str x
  | _, _, .lst h n r => .lst h (fun z => n (b _ z)) (DDs.less b r)
  | _, _, .tup h n r => .tup h (fun z => n (b _ z)) (DDs.less b r)
  | _, _, .dct h n r => .dct h (fun z => n (b _ z)) (DDs.less b r)
theorem DDs.less (b : ∀ q ∈ m, q ∈ l) : ∀ {vs : List V} {ds : List PyData}, DDs K l H vs ds → DDs K m H vs ds
  | _, _, .nil => .nil
  | _, _, .cons h r => .cons (DD.less b h) (DDs.less b r)
end
theorem DDs.length : ∀ {vs : List V} {ds : List PyData}, DDs K l H vs ds → vs.length = ds.length
  | _, _, .nil => rfl
  | _, _, .cons _ r => congrArg Nat.succ (DDs.length r)
theorem DDs.get : ∀ {vs : List V} {ds : List PyData} {i : Nat} {v : V}, DDs K l H vs ds → vs[i]? = some v → ∃ d, ds[i]? = some d ∧ DD K l H v d
  | _, _, _, _, .nil, h => by simp at h
  | _, _, 0, _, .cons h _, e => by simp at e; subst e; exact ⟨_, rfl, h⟩
  | _, _, i + 1, _, .cons _ r, e => by
    obtain ⟨d, h1, h2⟩ := DDs.get (i := i) r (by simpa using e)
    exact ⟨d, by simpa using h1, h2⟩
theorem DDs.strs : ∀ ys : List Str, DDs K l H (ys.map V.str) (ys.map PyData.str)
  | [] => .nil
  | y :: ys => .cons (.str y) (DDs.strs ys)
theorem DDs.append : ∀ {vs ws : List V} {ds es : List PyData}, DDs K l H vs ds → DDs K l H ws es → DDs K l H (vs ++ ws) (ds ++ es)
  | _, _, _, _, .nil, s => s
  | _, _, _, _, .cons h r, s => .cons h (DDs.append r s)
mutual
theorem DD.dp : ∀ {v : V} {d : PyData}, DD K l H v d → d.hasDict = false → Dp K H v d
  | _, _, .non, _ => .non
  | _, _, .bl x, _ => .bl x
  | _, _, .int x, _ => .int x
  | _, _, .str x, _ => .str x
  | _, _, .lst h n r, e => .lst h (DDs.dp r (by simpa [PyData.hasDict] using e))
  | _, _, .tup h n r, e => .tup h (DDs.dp r (by simpa [PyData.hasDict] using e))
  | _, _, .dct h n r, e => by simp [PyData.hasDict] at e
theorem DDs.dp : ∀ {vs : List V} {ds : List PyData}, DDs K l H vs ds → PyData.hasDictAll ds = false → DpAll K H vs ds
  | _, _, .nil, _ => .nil
  | _, _, .cons h r, e => by
    simp only [PyData.hasDictAll, Bool.or_eq_false_iff] at e
    exact .cons (DD.dp h e.1) (DDs.dp r e.2)
end
end

/-! ### what is read of it -/
theorem keyD_reads {h : Heap} {k : Key} {v : Value} (e : keyIs k v = true) : Reads h v (keyD k) [] := by
  rcases keyIs_shape e with ⟨i, t, rfl, rfl⟩ | ⟨x, t, rfl, rfl⟩
  · exact .int i t
  · exact .str x t
section
variable {X : Cx} {pins : List (Addr × Obj)} {σ : L2.St} {l : List Addr} {H : Hp} {s : Shared}
/-- at sysModules there is no list and no tracked dict -/
abbrev SysFree (X : Cx) : Prop := ∃ o es ep, X.base.get? sysModules = some o ∧ o.data = .dict es ep
theorem sys_noL (Y : SysFree X) (I : Inv X pins σ H s) {a : Addr} {xs : List V} (h : SqL X.K H a xs) : a ≠ sysModules := fun z => by
  subst z
  obtain ⟨o, es, ep, h1, h2⟩ := Y
  obtain ⟨its, rv, ⟨o', n, ho, hc, _, hd⟩, _⟩ := I.list h
  rw [(I.bs _ _ h1).1] at ho
  cases ho
  rw [h2] at hd
  cases hd
theorem sys_noD (Y : SysFree X) (I : Inv X pins σ H s) {a : Addr} {u : HO} (h : H a = some u) : a ≠ sysModules := fun z => by
  subst z
  obtain ⟨o, es, ep, h1, h2⟩ := Y
  rw [(I.bs _ _ h1).2] at h
  cases h
theorem readsAll_keys {P : Program} {w : World} (h : Heap) : ∀ {kvs : List (Key × V)} {vs : List (Key × Value)} {es : List DictEntry}, KV kvs vs → Pairs (mixKind P w) es vs → ReadsAll h (es.map (·.key)) (kvs.map fun q => keyD q.1) []
  | _, _, _, .nil, .nil => .nil
  | _, _, _, .cons r1 r, .cons e1 e2 e => by
    have q := readsAll_keys h r e
    have k1 := keyD_reads (h := h) (show keyIs _ _ = true from e1)
    rw [← r1.1] at k1
    exact ReadsAll.cons k1 q
theorem pairs_vals {P : Program} {w : World} : ∀ {es : List DictEntry} {vs : List (Key × Value)}, Pairs (mixKind P w) es vs → es.map (·.val) = vs.map (·.2)
  | _, _, .nil => rfl
  | _, _, .cons _ e2 e => by rw [List.map_cons, List.map_cons, e2, pairs_vals e]
theorem vals_of {kvs : List (Key × V)} {vs : List (Key × Value)} (r : KV kvs vs) : Vals (kvs.map (·.2)) (vs.map (·.2)) := by
  induction r with
  | nil => exact .nil
  | cons h _ ih => exact .cons h.2 ih
mutual
theorem DD.reads (Y : SysFree X) (I : Inv X pins σ H s) : ∀ {v : V} {d : PyData} {u : Value}, DD X.K l H v d → RelV v u → ∃ as, Reads s.heap u d as ∧ sysModules ∉ as
  | _, _, _, .non, r => by cases r; exact ⟨_, Reads.none, by simp⟩
  | _, _, _, .bl b, r => by cases r; exact ⟨_, Reads.bool b, by simp⟩
  | _, _, _, .int i, r => by obtain ⟨t, rfl⟩ := r; exact ⟨_, Reads.int i t, by simp⟩
  | _, _, _, .str x, r => by obtain ⟨t, rfl⟩ := r; exact ⟨_, Reads.str x t, by simp⟩
  | _, _, _, .lst h n ha, r => by
    cases r
    have ne := sys_noL Y I h
    obtain ⟨its, rv, ⟨o, n, ho, hc, _, hd⟩, _⟩ := I.list h
    obtain ⟨as, hr, na⟩ := DDs.reads Y I ha rv
    exact ⟨_, Reads.list ho hc hd hr, by simp [na, Ne.symm ne]⟩
  | _, _, _, .tup h n ha, r => by
    cases r
    obtain ⟨its, rv, ⟨o, ho, hc, n, hd⟩, _⟩ := I.tuple h
    obtain ⟨as, hr, na⟩ := DDs.reads Y I ha rv
    exact ⟨_, Reads.tuple ho hc hd hr, na⟩
  | _, _, _, .dct (a := a) (kvs := kvs) (ds := ds) h n ha, r => by
    cases r
    have ne := sys_noD Y I h
    obtain ⟨_, _, vs, rk, o, es, ep, ho, hx, hd, _, hp, _⟩ := I.hok a _ h
    have hv := pairs_vals hp
    obtain ⟨as, hr, na⟩ := DDs.reads Y I ha (vals_of rk)
    have hl := DDs.length ha
    refine ⟨_, Reads.dict (as := []) (bs := as) ho hx.1 hd ?_ ?_, by simp [na, Ne.symm ne]⟩
    · rw [List.map_fst_zip (by simpa using Nat.le_of_eq hl)]
      exact readsAll_keys _ rk hp
    · rw [List.map_snd_zip (by simpa using Nat.le_of_eq hl.symm), hv]
      exact hr
theorem DDs.reads (Y : SysFree X) (I : Inv X pins σ H s) : ∀ {vs : List V} {ds : List PyData} {us : List Value}, DDs X.K l H vs ds → Vals vs us → ∃ as, ReadsAll s.heap us ds as ∧ sysModules ∉ as
  | _, _, _, .nil, .nil => ⟨_, ReadsAll.nil, by simp⟩
  | _, _, _, .cons h r, .cons r1 r2 => by
    obtain ⟨as, q1, n1⟩ := DD.reads Y I h r1
    obtain ⟨bs, q2, n2⟩ := DDs.reads Y I r r2
    exact ⟨_, ReadsAll.cons q1 q2, by simp [n1, n2]⟩
end
/-! ### repr -/
theorem call_reprD (Y : SysFree X) (hg : X.A.guards = some []) (hu : X.A.units + 66 < cLine) : CallR X (.builtin "repr") (fun xs H Q => ∃ v l d, xs = [v] ∧ DD X.K l H v d ∧ d.showable = true ∧ d.depth ≤ 64 ∧ d.shown.length ≤ sizeLine ∧ Q (.str d.shown) H) := by
  intro pins s σ H xs us Q I r h
  obtain ⟨v, l, d, rfl, hd, hs, hdp, hz, q⟩ := h
  obtain ⟨u, rfl, r1⟩ := vals1 r
  have fin : ∀ {h' : Heap} {t tk}, (∀ b o, s.heap.get? b = some o → h'.get? b = some o) → EP X pins σ Q (.str d.shown t) { s with heap := h', toks := tk } := fun k => ⟨.str d.shown, H, I.kept k, ⟨_, rfl⟩, q⟩
  cases hd with
  | non =>
    cases r1
    rw [PyData.shown_none] at fin
    exact PySem.P.repr_of_none (fin fun _ _ e => e)
  | bl b =>
    cases r1
    rw [PyData.shown_bool] at fin
    refine PySem.P.repr_of_bool ?_
    have := fin (t := s.toks) (tk := s.toks + 1) (h' := s.heap) fun _ _ e => e
    cases b <;> exact this
  | int i =>
    obtain ⟨t, rfl⟩ := r1
    rw [PyData.shown_int] at fin
    exact PySem.P.repr_of_int (by simpa [PyData.showable] using hs) (fin fun _ _ e => e)
  | str x =>
    obtain ⟨t, rfl⟩ := r1
    rw [PyData.shown_str] at fin hz
    exact PySem.P.repr_of_str (fin fun _ _ e => e) hz
  | @lst a xs ds h1 h2 h3 =>
    obtain rfl : u = Value.ref a := r1
    obtain ⟨as, hr, na⟩ := DD.reads Y I (.lst h1 h2 h3) (u := .ref a) rfl
    exact repr_of_reads' hr hs (fun _ => na) hg (by omega) (fun _ _ e => e) (fun h' u tk k => fin k) hz
  | @tup a xs ds h1 h2 h3 =>
    obtain rfl : u = Value.ref a := r1
    obtain ⟨as, hr, na⟩ := DD.reads Y I (.tup h1 h2 h3) (u := .ref a) rfl
    exact repr_of_reads' hr hs (fun _ => na) hg (by omega) (fun _ _ e => e) (fun h' u tk k => fin k) hz
  | @dct a kvs ds h1 h2 h3 =>
    obtain rfl : u = Value.ref a := r1
    obtain ⟨as, hr, na⟩ := DD.reads Y I (.dct h1 h2 h3) (u := .ref a) rfl
    exact repr_of_reads' hr hs (fun _ => na) hg (by omega) (fun _ _ e => e) (fun h' u tk k => fin k) hz
end
end Z

set_option Elab.async false
set_option linter.all false
set_option maxRecDepth 100000
set_option maxHeartbeats 4000000
namespace Z
open PySem PySem.Spec PyProof.Rows L2

/-! ### repr, isinstance, == of data -/
section
variable {X : Cx} {k : Nat} {W : WX} {σ : L2.St} {H : Hp} {x : Str} {e a b : Expr} {es : List Expr} {p pos : Pos} {Q : VK}
theorem e_repr (B : Blt X.mg X.base) (hg : X.A.guards = some []) (hu : X.A.units + 66 < cLine)
    (h : wE X a σ H fun v H1 => ∃ l d, DD X.K l H1 v d ∧ d.showable = true ∧ d.depth ≤ 64 ∧ d.shown.length ≤ sizeLine ∧ Q (.str d.shown) H1) (hgl : Gl X "repr" := by rfl) (hs : starEach [a] X.env = [(false, eval a X.env)] := by rfl) :
    wE X (.Call (.Name "repr" p) [a] [] pos) σ H Q :=
  e_B (id := "repr") (a_cons (wE_mono h fun v H1 ⟨l, d, h1, h2, h3, h4, q⟩ => a_nil (cW_of (call_reprD B.sys hg hu) ⟨v, l, d, rfl, h1, h2, h3, h4, q⟩)) hs) B.repr PyProof.Rows.boot_repr hgl (by decide) (by decide) hs rfl
theorem Cxt.un (C : Cxt X k W) : X.A.units + 66 < cLine := by have := C.room.un; omega
/-- the name of a data's type -/
def tyD : PyData → String
  | .none => "NoneType" | .bool _ => "bool" | .int _ => "int" | .str _ => "str" | .list _ => "list" | .tuple _ => "tuple" | .dict _ => "dict"
theorem DD.tyx {K : PySem.W.Frag} {l : List Addr} {v : V} {d : PyData} (h : DD K l H v d) : TyX K H v (.type (tyD d)) := by
  cases h with
  | non => exact .base .non
  | bl b => exact .base (.bl b)
  | int i => exact .base (.int i)
  | str x => exact .base (.str x)
  | lst h1 h2 h3 =>
    rcases h1 with (h1 | ⟨o, h1⟩) | ⟨o, its, n, h1, h4, _⟩
    · exact .base (.lst h1)
    · exact .base (.frz h1)
    · exact .kList h1 h4
  | tup h1 h2 h3 =>
    rcases h1 with (h1 | ⟨o, h1⟩) | ⟨o, its, n, h1, h4, _⟩
    · exact .base (.tup h1)
    · exact .fTuple h1
    · exact .kTuple h1 h4
  | dct h1 h2 h3 => exact .base (.dK h1)
def isInt : PyData → Bool | .int _ => true | .bool _ => true | _ => false
def isBool : PyData → Bool | .bool _ => true | _ => false
def isStr : PyData → Bool | .str _ => true | _ => false
def isList : PyData → Bool | .list _ => true | _ => false
def isTuple : PyData → Bool | .tuple _ => true | _ => false
def isDict : PyData → Bool | .dict _ => true | _ => false
theorem kit_int : ∀ d : PyData, kitB (tyD d) "int" = some (isInt d)
  | .none => (by decide +kernel : kitB "NoneType" "int" = some false)
  | .bool _ => (by decide +kernel : kitB "bool" "int" = some true)
  | .int _ => (by decide +kernel : kitB "int" "int" = some true)
  | .str _ => (by decide +kernel : kitB "str" "int" = some false)
  | .list _ => (by decide +kernel : kitB "list" "int" = some false)
  | .tuple _ => (by decide +kernel : kitB "tuple" "int" = some false)
  | .dict _ => (by decide +kernel : kitB "dict" "int" = some false)
theorem kit_bool : ∀ d : PyData, kitB (tyD d) "bool" = some (isBool d)
  | .none => (by decide +kernel : kitB "NoneType" "bool" = some false)
  | .bool _ => (by decide +kernel : kitB "bool" "bool" = some true)
  | .int _ => (by decide +kernel : kitB "int" "bool" = some false)
  | .str _ => (by decide +kernel : kitB "str" "bool" = some false)
  | .list _ => (by decide +kernel : kitB "list" "bool" = some false)
  | .tuple _ => (by decide +kernel : kitB "tuple" "bool" = some false)
  | .dict _ => (by decide +kernel : kitB "dict" "bool" = some false)
theorem kit_str : ∀ d : PyData, kitB (tyD d) "str" = some (isStr d)
  | .none => (by decide +kernel : kitB "NoneType" "str" = some false)
  | .bool _ => (by decide +kernel : kitB "bool" "str" = some false)
  | .int _ => (by decide +kernel : kitB "int" "str" = some false)
  | .str _ => (by decide +kernel : kitB "str" "str" = some true)
  | .list _ => (by decide +kernel : kitB "list" "str" = some false)
  | .tuple _ => (by decide +kernel : kitB "tuple" "str" = some false)
  | .dict _ => (by decide +kernel : kitB "dict" "str" = some false)
theorem kit_list : ∀ d : PyData, kitB (tyD d) "list" = some (isList d)
  | .none => (by decide +kernel : kitB "NoneType" "list" = some false)
  | .bool _ => (by decide +kernel : kitB "bool" "list" = some false)
  | .int _ => (by decide +kernel : kitB "int" "list" = some false)
  | .str _ => (by decide +kernel : kitB "str" "list" = some false)
  | .list _ => (by decide +kernel : kitB "list" "list" = some true)
  | .tuple _ => (by decide +kernel : kitB "tuple" "list" = some false)
  | .dict _ => (by decide +kernel : kitB "dict" "list" = some false)
theorem kit_tuple : ∀ d : PyData, kitB (tyD d) "tuple" = some (isTuple d)
  | .none => (by decide +kernel : kitB "NoneType" "tuple" = some false)
  | .bool _ => (by decide +kernel : kitB "bool" "tuple" = some false)
  | .int _ => (by decide +kernel : kitB "int" "tuple" = some false)
  | .str _ => (by decide +kernel : kitB "str" "tuple" = some false)
  | .list _ => (by decide +kernel : kitB "list" "tuple" = some false)
  | .tuple _ => (by decide +kernel : kitB "tuple" "tuple" = some true)
  | .dict _ => (by decide +kernel : kitB "dict" "tuple" = some false)
theorem kit_dict : ∀ d : PyData, kitB (tyD d) "dict" = some (isDict d)
  | .none => (by decide +kernel : kitB "NoneType" "dict" = some false)
  | .bool _ => (by decide +kernel : kitB "bool" "dict" = some false)
  | .int _ => (by decide +kernel : kitB "int" "dict" = some false)
  | .str _ => (by decide +kernel : kitB "str" "dict" = some false)
  | .list _ => (by decide +kernel : kitB "list" "dict" = some false)
  | .tuple _ => (by decide +kernel : kitB "tuple" "dict" = some false)
  | .dict _ => (by decide +kernel : kitB "dict" "dict" = some true)
/-- isinstance(a, T), T a built-in type -/
theorem e_isi {T : Str} {n : String} {r : PyData → Bool} (B : Blt X.mg X.base) (hk : ∀ d, kitB (tyD d) n = some (r d)) (hT : X.mg T = none) (hv : bootBuiltins T = some (.type n))
    (h : wE X a σ H fun v H1 => ∃ l d, DD X.K l H1 v d ∧ Q (.bl (r d)) H1) {pT : Pos} (hgT : Gl X T := by rfl) (hnT : T ≠ "__name__" := by decide) (hdT : (T == ("__debug__" : Str)) = false := by decide) (hgl : Gl X "isinstance" := by rfl)
    (hs : starEach [a, .Name T pT] X.env = (false, eval a X.env) :: starEach [.Name T pT] X.env := by rfl) (hs2 : starEach [.Name T pT] X.env = [(false, eval (.Name T pT) X.env)] := by rfl) :
    wE X (.Call (.Name "isinstance" p) [a, .Name T pT] [] pos) σ H Q :=
  e_B (id := "isinstance") (a_cons (wE_mono h fun v H1 ⟨l, d, h1, q⟩ => a_cons (e_blt (v := .ty n) (a_nil (cW_of call_isi ⟨v, .ty n, _, _, r d, rfl, .ty n, h1.tyx, kit_ty (hk d), q⟩)) hT hv rfl hgT hnT hdT) hs2) hs)
    B.isinstance PyProof.Rows.boot_isinstance hgl (by decide) (by decide) hs (by rw [hs2]; rfl)
/-- isinstance(a, (T, U)), two built-in types -/
theorem e_isi2 {T U : Str} {n m : String} {r : PyData → Bool} {r' : PyData → Bool} (B : Blt X.mg X.base) (hk : ∀ d, kitB (tyD d) n = some (r d)) (hk' : ∀ d, kitB (tyD d) m = some (r' d)) (hT : X.mg T = none) (hv : bootBuiltins T = some (.type n)) (hU : X.mg U = none) (hv' : bootBuiltins U = some (.type m))
    {pT pU pt : Pos} {kt} (h : wE X a σ H fun v H1 => ∃ l d, DD X.K l H1 v d ∧ ∀ H2, But [] H1 H2 → Q (.bl (r d || r' d)) H2) (hgT : Gl X T := by rfl) (hnT : T ≠ "__name__" := by decide) (hdT : (T == ("__debug__" : Str)) = false := by decide) (hgU : Gl X U := by rfl) (hnU : U ≠ "__name__" := by decide) (hdU : (U == ("__debug__" : Str)) = false := by decide) (hgl : Gl X "isinstance" := by rfl)
    (hs : starEach [a, .Tuple [.Name T pT, .Name U pU] kt pt] X.env = (false, eval a X.env) :: starEach [.Tuple [.Name T pT, .Name U pU] kt pt] X.env := by rfl) (hs2 : starEach [.Tuple [.Name T pT, .Name U pU] kt pt] X.env = [(false, eval (.Tuple [.Name T pT, .Name U pU] kt pt) X.env)] := by rfl)
    (hs3 : starEach [.Name T pT, .Name U pU] X.env = (false, eval (.Name T pT) X.env) :: starEach [.Name U pU] X.env := by rfl) (hs4 : starEach [.Name U pU] X.env = [(false, eval (.Name U pU) X.env)] := by rfl) :
    wE X (.Call (.Name "isinstance" p) [a, .Tuple [.Name T pT, .Name U pU] kt pt] [] pos) σ H Q := by
  refine e_B (id := "isinstance") (a_cons (wE_mono h fun v H1 ⟨l, d, h1, q⟩ => a_cons (e_tup (a_cons (e_blt (v := .ty n) (a_cons (e_blt (v := .ty m) (a_nil ⟨by show 2 ≤ sizeLine; decide, fun t ht => ?_⟩) hU hv' rfl hgU hnU hdU) hs4) hT hv rfl hgT hnT hdT) hs3)) hs2) hs)
    B.isinstance PyProof.Rows.boot_isinstance hgl (by decide) (by decide) hs (by rw [hs2]; rfl)
  refine a_nil (cW_of call_isiT ⟨v, t, [.ty n, .ty m], _, [.type n, .type m], r d || r' d, rfl, upd_same, .cons (.ty n) (.cons (.ty m) .nil), (h1.but (But.new ht)).tyx, ?_, q _ (But.new ht)⟩)
  refine kitAny_cons (kit_ty (hk d)) (fun e1 => ?_) fun e1 => by rw [e1]; rfl
  rw [e1, Bool.false_or]
  exact kitAny_cons (kit_ty (hk' d)) (fun e2 => by rw [e2]; rfl) fun e2 => e2
/-- a == b, a != b: data without dicts, as the library tells it -/
theorem c_eqD {y z : V} {l m : List Addr} {d f : PyData} (C : Cxt X k W) (h1 : DD X.K l H y d) (h2 : DD X.K m H z f) (n1 : SeqAt.shaped d = true) (n2 : SeqAt.shaped f = true) (q : Q (.bl (PyData.eqv d f)) H) : oW X (compareOp .Eq) y z H Q :=
  oW_of (op_eqD C.room.units) ⟨d, f, h1.dp (PyData.hasDict_of_canLay d (SeqAt.canLay_of_shaped n1)), h2.dp (PyData.hasDict_of_canLay f (SeqAt.canLay_of_shaped n2)), n1, n2, q⟩
theorem c_neD {y z : V} {l m : List Addr} {d f : PyData} (C : Cxt X k W) (h1 : DD X.K l H y d) (h2 : DD X.K m H z f) (n1 : SeqAt.shaped d = true) (n2 : SeqAt.shaped f = true) (q : Q (.bl (!PyData.eqv d f)) H) : oW X (compareOp .NotEq) y z H Q :=
  oW_of (op_neD C.room.units) ⟨d, f, h1.dp (PyData.hasDict_of_canLay d (SeqAt.canLay_of_shaped n1)), h2.dp (PyData.hasDict_of_canLay f (SeqAt.canLay_of_shaped n2)), n1, n2, q⟩
end

/-! ### own errors over LineError: one field -/
/-- what the head tells of an error class: it stands at C under the name x -/
structure Err1 (K : PySem.W.Frag) (mg : Str → Option Value) (x f : Str) (C : Addr) (st : Stmt) : Prop where
  gC : mg x = some (.ref C)
  oex : OexC K C
  init : ∃ fI oc od kV doc pm an cdv ct osl, PySem.W.findIn K (.ref C) "__init__" = some (some (.ref fI)) ∧ PySem.W.typeIn K (.ref fI) = some (.type "function") ∧
    K.lookup fI = some ⟨oc, od, .func (PySem.W.fnOf "__init__" (x ++ ".__init__") (defArgs st) (defBody st) (defScope st) .none kV doc pm an cdv ct), osl⟩ ∧ PySem.W.codeIn K cdv (x ++ ".__init__") = true
  no : PySem.W.findIn K (.ref C) f = some none
  xf : XfC K C
  kc : PySem.W.typeIn K (.ref C) = some (.type "type")
/-- the base class LineError, whose __init__ is ValueError's -/
structure Base0 (K : PySem.W.Frag) (mg : Str → Option Value) (b : Str) : Prop where
  ex : ∃ CB, mg b = some (.ref CB) ∧ PySem.W.readsIn K CB (.type "type") = true ∧ PySem.W.specialIn K (.ref CB) "__getattribute__" = some (some (.builtin "type.__getattribute__")) ∧
    PySem.W.findCls K (.ref CB) (.type "type") "__init__" = some (.val (.builtin "ValueError.__init__"))
section
variable {X : Cx} {σ : L2.St} {H : Hp} {Q : VK} {e : Expr} {es : List Expr} {p1 p2 pos : Pos} {b : Str}
theorem e_baseInit {pl : Sem Bool} (B : Base0 X.K X.mg b) (h : wA X (e :: es) σ H fun vs H1 => ∃ (a C : Addr) (ws : List V), vs = .ref a :: ws ∧ ws.length ≤ 1000 ∧ OexC X.K C ∧ H1 a = some (exo a C none) ∧ Q .non H1) (hg : Gl X b) (hdb : (b == ("__debug__" : Str)) = false)
    (hc : eval (.Call (.Attribute (.Name b p1) "__init__" p2) (e :: es) [] pos) X.env = (do
      let ov ← eval (.Name b p1) X.env
      standAt p2.atName
      let (f, first) ← holding [ov] (getMethod ov "__init__" pl)
      callWith pos f first (backTo pos (starEach (e :: es) X.env)) (backToKw pos (keywordEach [] X.env))))
    (he : starEach (e :: es) X.env = (false, eval e X.env) :: starEach es X.env := by rfl) (hpl : (backTo pos (starEach es X.env)).any (·.1) = false := by rfl) :
    wE X (.Call (.Attribute (.Name b p1) "__init__" p2) (e :: es) [] pos) σ H Q := by
  obtain ⟨CB, hm, rd, ga, fc⟩ := B.ex
  refine ⟨fun pins s I => ?_⟩
  refine PySem.W.methodCall_KW (ld_glob I hg hm ?_ hdb) hc
  refine PySem.W.method_cls I.kIn ga (PySem.W.cls_value I.kIn rd fc rfl ?_)
  show wpAny _ _ (callWith pos (Value.builtin "ValueError.__init__") [] (backTo pos (starEach (e :: es) X.env)) []) _ _ _
  refine PyProof.Rows.callWith_method1 (thn (h.run pos pins _ (I.tok _)) fun us s1 ⟨vs, H1, I1, r1, a, C, ws, ev, hl, T, ea, q⟩ => ?_) he hpl
  subst ev
  cases r1 with
  | @cons _ u0 _ ur ra rw' =>
    obtain rfl : u0 = Value.ref a := ra
    have hlen : ur.length ≤ sizeLine := by
      rw [← Paired.length rw', sizeLine_eq]
      omega
    exact oinit_ok T I1 ea hlen fun s' J => ⟨.non, H1, J, rfl, q⟩
end
/-- what an error's __init__ promises -/
def spInit1 (K : PySem.W.Frag) (f : Str) : Sp := fun vs H Q _ => ∃ (a C : Addr) (v : V), vs = [.ref a, v] ∧ OexC K C ∧ PySem.W.findIn K (.ref C) f = some none ∧ H a = some (exo a C none) ∧
  ∀ dx, H dx = none → dx ≠ a → Q .non (upd (upd H dx (exd dx [(f, v)])) a (exo a C (some dx)))
section
variable {P : Program} {w : World} {K : PySem.W.Frag} {mg : Str → Option Value} {base : Heap}
theorem init1_ok {x b f txt : Str} {st : Stmt} {fI : Addr} {oc kV doc pm cdv ct : Value} {od an : Option Addr} {osl : Array (Option Value)} {p1 p2 p3 p4 p5 p6 p7 p8 p9 p10 : Pos} {j : Nat} (B : Base0 K mg b)
    (lk : K.lookup fI = some ⟨oc, od, .func (PySem.W.fnOf "__init__" x (defArgs st) (defBody st) (defScope st) .none kV doc pm an cdv ct), osl⟩) (hcd : PySem.W.codeIn K cdv x = true)
    (S : FnScope ["self", f] ["self", f] (defScope st))
    (hb : defBody st = [.Expr (.Call (.Attribute (.Name b p1) "__init__" p2) [.Name "self" p3, .Constant (.str txt) j p4] [] p5) p6, .Assign [.Attribute (.Name "self" p7) f p8] (.Name f p9) p10])
    (hs : (defScope st).names.lookup ("self" : Str) = some .local) (hf : (defScope st).names.lookup f = some .local) (hg : (defScope st).names.lookup b = some .globalImplicit) (hdb : (b == ("__debug__" : Str)) = false) (hdf : (f == ("__debug__" : Str)) = false) (hdf2 : (f == ("__classdict__" : Str)) = false)
    (hc : ∀ env : Env, env.scope = defScope st → ∃ pl, eval (.Call (.Attribute (.Name b p1) "__init__" p2) [.Name "self" p3, .Constant (.str txt) j p4] [] p5) env = (do
      let ov ← eval (.Name b p1) env
      standAt p2.atName
      let (f, first) ← holding [ov] (getMethod ov "__init__" pl)
      callWith p5 f first (backTo p5 (starEach [.Name "self" p3, .Constant (.str txt) j p4] env)) (backToKw p5 (keywordEach [] env))))
    (hsw : ∀ env : Env, env.scope = defScope st → swapsWith (.Name f p9) (some (.Attribute (.Name "self" p7) f p8)) p10.line env = pure false)
    (hsw2 : ∀ env : Env, env.scope = defScope st → swapsWith (.Call (.Attribute (.Name b p1) "__init__" p2) [.Name "self" p3, .Constant (.str txt) j p4] [] p5) none p6.line env = pure false) :
    FnOk P w K mg base (L2.CX P w) 1 fI (PySem.W.fnOf "__init__" x (defArgs st) (defBody st) (defScope st) .none kV doc pm an cdv ct) ["self", f] (spInit1 K f) := by
  refine fn_of lk hcd S (fun vs H Q E h => ?_) fun A outer s H vs Q E hr h => ⟨wB _ (defBody st), pB, ?_⟩
  · obtain ⟨a, C, v, rfl, _⟩ := h
    rfl
  · obtain ⟨a, C, v, rfl, T, hno, ha, q⟩ := h
    rw [hb]
    obtain ⟨pl, hcc⟩ := hc (envOfC x (defScope st) s.heap.objs.size fI cdv) rfl
    refine b_cons (s_expr (e_baseInit (pl := pl) B ?_ hg hdb hcc) (hsw2 _ rfl))
    refine a_cons (e_name 0 (a_cons (e_str (a_nil ⟨a, C, _, rfl, by simp, T, ha, ?_⟩))) rfl rfl (.inl hs))
    refine b_cons (eS (ps_ost (pE (e := .Name "self" p7)) pE (hsw _ rfl)) ?_)
    refine e_name 1 ?_ rfl rfl (.inl hf) hdf hdf2
    refine e_name 0 ?_ rfl rfl (.inl hs)
    exact ⟨a, C, rfl, T, hno, .inl ⟨ha, fun dx n ne => b_nil (q dx n ne)⟩⟩
end
end Z

set_option Elab.async false
set_option linter.all false
set_option maxRecDepth 100000
set_option maxHeartbeats 4000000
/-! raise and try with own errors of one field -/
namespace Z
open PySem PySem.Spec PyProof.Rows L2

/-- an error class of one field, its __init__ proved -/
structure ErrOk (P : Program) (w : World) (K : PySem.W.Frag) (mg : Str → Option Value) (base : Heap) (x f : Str) (C : Addr) : Prop where
  gC : mg x = some (.ref C)
  oex : OexC K C
  no : PySem.W.findIn K (.ref C) f = some none
  xf : XfC K C
  ex : ∃ fI fd, PySem.W.findIn K (.ref C) "__init__" = some (some (.ref fI)) ∧ PySem.W.typeIn K (.ref fI) = some (.type "function") ∧ FnOk P w K mg base (L2.CX P w) 1 fI fd ["self", f] (spInit1 K f) ∧ Binds K fd ["self", f] []
section
variable {X : Cx} {k : Nat} {W : WX} {σ : L2.St} {H : Hp} {x f : Str} {e : Expr} {C : Addr} {p1 p2 pos : Pos} {D : Ends}
/-- raise X(v) -/
theorem s_raise1 (Cc : Cxt X k W) (E : ErrOk X.prog X.w X.K X.mg X.base x f C) (hr : 2 ≤ k)
    (h : wE X e σ H fun v H1 => ∀ d H', But [] H1 H' → H1 d = none → H' d = some (.xd [(f, v)]) → W (.ref C) (some d) σ H')
    (hg : Gl X x := by rfl) (hdb : (x == ("__debug__" : Str)) = false := by decide) (he : starEach [e] X.env = [(false, eval e X.env)] := by rfl) : wS X (.Raise (some (.Call (.Name x p1) [e] [] p2)) none pos) D σ H := by
  obtain ⟨fI, fd, iC, tI, F, hb⟩ := E.ex
  have hx : Passes (L2.CX X.prog X.w) X (fun _ _ _ => False) := fun pins σ H s e s' I c => passes_call Cc.tk (fun cls d σ' H' z => z.elim) pins σ H s e s' I c
  refine eS (ps_raise Cc.calm Cc.tk (pmk_oex E.oex iC tI F (Cc.room.mono hr) hb .nil hx hg E.gC pA hdb he rfl)) ?_
  refine a_cons (wE_mono h fun v H1 q => a_nil ⟨by simp, fun a ha => ?_⟩) he
  refine ⟨a, C, v, rfl, E.oex, E.no, upd_same, fun dx hd ne => ⟨rfl, dx, [(f, v)], upd_same, by rw [upd_ne ne, upd_same], ?_, ?_⟩⟩
  · rw [upd_ne ne] at hd
    exact hd
  · have hd' : H1 dx = none := by rw [upd_ne ne] at hd; exact hd
    refine q dx _ (fun b o _ hbo => ?_) hd' upd_same
    have nb : b ≠ a := ne_of_none hbo ha
    have nb2 : b ≠ dx := ne_of_none hbo hd'
    rw [upd_ne nb2, del_ne nb, upd_ne nb, upd_ne nb2, upd_ne nb]
    exact hbo
end

/-! ### several clauses, each with its name -/
abbrev Cl := Value × Nat × List Stmt
def wHd (X : Cx) (Wout : WX) (D : Ends) : List Cl → WX
  | [] => Wout
  | (c, i, sts) :: r => fun cls d σ H => ∃ b, PySem.W.exmOne X.K cls c = some b ∧
      (b = true → ∀ (a : Addr) (oe : Obj) (pn : List (Addr × Obj)), Zc cls d oe → (∃ vs, oe.data = .fields vs) → H a = none →
        wB (X.suite a ((a, oe) :: pn)) sts { nx := fun σ' H' => D.nx (σ'.set i none) H', rt := D.rt, bk := fun σ' H' => D.bk (σ'.set i none) H', ct := fun σ' H' => D.ct (σ'.set i none) H' } (σ.set i (some (.ref a))) H) ∧
      (b = false → wHd X Wout D r cls d σ H)
inductive HdsAs (X : Cx) : List ExceptHandler → List Cl → Prop
  | nil : HdsAs X [] []
  | cons {x n : Str} {c : Value} {i : Nat} {b₀ : Stmt} {suite : List Stmt} {np pos' : Pos} {hds : List ExceptHandler} {l : List Cl} (hc : Names X x c) (hi : X.N[i]? = some n) (hln : X.env.kindOf n = some .local) (r : HdsAs X hds l) :
      HdsAs X (.ExceptHandler (some (.Name x np)) (some n) (b₀ :: suite) pos' :: hds) ((c, i, b₀ :: suite) :: l)
section
variable {X : Cx} {k : Nat} {W : WX} {σ : L2.St} {H : Hp} {body : List Stmt} {h₀ : ExceptHandler} {hds : List ExceptHandler} {l : List Cl} {pos : Pos} {D : Ends}
theorem s_try (C : Cxt X k W) (hh : HdsAs X (h₀ :: hds) l) (h : ∀ pn xe, Cxt (X.tr pn xe) k (wHd X W D l) → wB (X.tr pn xe) body D σ H) (hs : X.stack = X.env :: X.outer := by rfl) (hf : X.env.frame = some X.env.locals := by rfl) : wS X (.Try body (h₀ :: hds) [] [] pos) D σ H := by
  refine ⟨fun pins s I => ?_⟩
  have ok := I.ok
  have hfr : X.A.frames = some (X.env :: X.outer) := by rw [ok.frames, hs]
  refine wpAny_Try_except ?_
  refine wpAny_mono ((h (X.pn ++ pins) (fun e s₁ => wpAny (model X.prog X.w) X.A (noteFrame e X.env) (fun _ s₂ => wpAny (model X.prog X.w) X.A (setFlight e none) (fun _ s₃ =>
    wpAny (model X.prog X.w) X.A (handleBy e X.env (h₀ :: hds)) (SP X pins D) X.xe s₃) X.xe s₂) X.xe s₁) ⟨C.room, C.calm, C.nd, C.blt, PassesOwn.looking, fun u s' xx => ?_⟩).run [] s (I.toTry _)) (fun f s1 hsp => ?_) (fun e s1 he => he)
  · obtain ⟨a, B, sI, pins', σ', H', cls, d, rfl, J', nb, up, sky, na, os, ag, w⟩ := xx
    have J : Inv X pins σ' H' sI := J'.ofTry ok
    have sky' : Sky B (X.env :: X.outer) a (Zc cls d) X.env.locals s'.heap := by rw [← hs]; exact sky
    show wpAny (model X.prog X.w) X.A (noteFrame (.ref a) X.env) _ _ _
    refine Sky.land Zc.steady hfr hf sky' fun h3 fl3 up3 => ?_
    have J3 : Inv X pins σ' H' { s' with heap := h3 } := J.landed nb fl3.1 (up.trans up3) os ag
    obtain ⟨oe3, vs3, he3, hz3, hd3⟩ := fl3.there
    have notFr : ∀ {h : Heap} {o : Obj} {vs : Array Value}, h.FunFrames B (X.env :: X.outer) → h.get? a = some o → o.data = .fields vs → a ∉ frs (X.env :: X.outer) := fun {h o vs} ff e dd hm => by
      obtain ⟨_, o', e', hnf⟩ := ff.mem hm
      rw [e] at e'; cases e'
      exact hnf _ dd
    have nfr := notFr fl3.2.2.1 he3 hd3
    have nL : a ≠ X.env.locals := fun z => nfr (List.mem_filterMap.mpr ⟨X.env, List.mem_cons_self, by rw [hf, z]⟩)
    have nF : a ∉ X.fs := fun hm => by
      obtain ⟨e, he, q⟩ := List.mem_filterMap.mp hm
      exact nfr (List.mem_filterMap.mpr ⟨e, List.mem_cons_of_mem _ he, q⟩)
    have S3 := J3.suite he3 hd3 na nL nF
    have go : ∀ {hds' : List ExceptHandler} {l' : List Cl}, HdsAs X hds' l' → wHd X W D l' cls d σ' H' →
        wpAny (model X.prog X.w) X.A (handleBy (.ref a) X.env hds') (SP X pins D) X.xe { s' with heap := h3 } := by
      intro hds' l' hk
      induction hk with
      | nil =>
        intro w
        refine wpAny_handleBy_nil ?_
        obtain ⟨k1, k2, k3, oe, vs, T, oT, ts', he, hz, hd, h1, hr⟩ := id fl3
        unfold PySem.passOn
        refine wpAny_bind (wpAny_field he hd h1 ?_)
        rw [if_neg (show ¬ ((Value.ref T == Value.none) = true) from by simp)]
        have fin : wpAny (model X.prog X.w) X.A (setFlight (.ref a) X.env.frame) (fun _ s4 => wpAny (model X.prog X.w) X.A (throw (.ref a) : Sem Flow) (SP X pins D) X.xe s4) X.xe { s' with heap := h3 } := by
          rw [hf]
          refine HandSPX.setFlight_upZ fl3 fun h4 hh4 up4 => wpAny_throw (C.tk _ _ ?_)
          exact ⟨a, B, sI, pins, σ', H', cls, d, rfl, J, nb, (up.trans up3).trans up4, .inr (.inr (by rw [hs]; exact hh4)), na, os, ag, w⟩
        first
          | exact wpAny_bind (wpAny_pure (wpAny_bind fin))
          | exact wpAny_bind fin
      | @cons x n c i b₀ suite np pos' hds2 l2 hc hi hln r ih =>
        intro w
        obtain ⟨b, hb1, hyes, hno⟩ := w
        refine wpAny_handleBy_cons (codeAny_handlers_test ?_) (by intro q; cases q)
        have LT : PySem.W.Looks (model X.prog X.w) h3 (typeOf (.ref a)) cls := fun A Q E s k q => wpAny_typeOf_ref (k _ _ he3) (by rw [hz3.1]; exact q)
        have LM := PySem.W.exm_one (M := model X.prog X.w) (J3.kIn) LT hb1
        have test : ∀ {Q : Value → Shared → Prop} {E : Value → Shared → Prop}, Q c { s' with heap := h3 } → wpAny (model X.prog X.w) (X.A.mark (some (.ref a))) (eval (.Name x np) X.env) Q E { s' with heap := h3 } := fun {Q E} q => by
          obtain ⟨hg, hdbg, hm | ⟨hm, hv, hnn⟩⟩ := hc
          · exact ld_glob (X := X.suite a ((a, oe3) :: (X.pn ++ pins))) S3 hg hm q hdbg
          · exact ld_blt (X := X.suite a ((a, oe3) :: (X.pn ++ pins))) S3 hg hm hv q hnn hdbg
        refine test (LM.here ?_)
        cases b with
        | true =>
          refine codeAny_handlers_suite_as ?_
          refine HandSPX.lands_againZ fl3 fun h4 fl4 up4 => ?_
          have J4 : Inv X pins σ' H' { s' with heap := h4 } := J.landed nb fl4.1 ((up.trans up3).trans up4) os ag
          obtain ⟨oe4, vs4, he4, hz4, hd4⟩ := fl4.there
          have S4 := J4.suite he4 hd4 na nL nF
          have hloc : Loc X.env.scope n := .inl hln
          refine store_ok (X := X.suite a ((a, oe4) :: (X.pn ++ pins))) (v := .ref a) S4 C.nd hi hloc rfl (fun s5 S5 => ?_) (.inr hln)
          refine wpAny_mono ((hyes rfl a oe4 (X.pn ++ pins) hz4 ⟨_, hd4⟩ na).run [] s5 S5) (fun f s6 hsp => ?_) (fun _ _ z => False.elim z)
          have end_ : ∀ {σ6 : L2.St} {H6 : Hp} {Q : Shared → Prop}, Inv (X.suite a ((a, oe4) :: (X.pn ++ pins))) [] σ6 H6 s6 → (∀ s7, Inv X pins (σ6.set i none) H6 s7 → Q s7) →
              wpAny (model X.prog X.w) X.A (do bindName X.env n .none; unbindBehindTheSuite X.env n pos') (fun _ s7 => Q s7) X.xe s6 := fun {σ6 H6 Q} S6 hq => gone_ok (S6.unsuite ok) C.nd hi hln hq
          cases f with
          | next =>
            obtain ⟨σ6, H6, S6, q6⟩ := hsp
            exact end_ S6 fun s7 J7 => ⟨_, _, J7, q6⟩
          | brk =>
            obtain ⟨σ6, H6, S6, q6⟩ := hsp
            exact end_ S6 fun s7 J7 => ⟨_, _, J7, q6⟩
          | cont =>
            obtain ⟨σ6, H6, S6, q6⟩ := hsp
            exact end_ S6 fun s7 J7 => ⟨_, _, J7, q6⟩
          | ret u =>
            obtain ⟨v6, σ6, H6, S6, r6, q6⟩ := hsp
            exact end_ S6 fun s7 J7 => ⟨_, _, _, J7, r6, q6⟩
        | false =>
          show wpAny _ X.A (handleBy (.ref a) X.env hds2) _ _ _
          exact ih (hno rfl)
    exact go hh w
  · cases f with
    | next =>
      obtain ⟨σ', H', J', q⟩ := hsp
      exact wpAny_execs_nil ⟨σ', H', J'.ofTry ok, q⟩
    | brk =>
      obtain ⟨σ', H', J', q⟩ := hsp
      exact ⟨σ', H', J'.ofTry ok, q⟩
    | cont =>
      obtain ⟨σ', H', J', q⟩ := hsp
      exact ⟨σ', H', J'.ofTry ok, q⟩
    | ret u =>
      obtain ⟨v, σ', H', J', r, q⟩ := hsp
      exact ⟨v, σ', H', J'.ofTry ok, r, q⟩
end

/-! ### within a suite -/
section
variable {X : Cx} {σ : L2.St} {H : Hp} {a CE dd : Addr} {oe : Obj} {pn : List (Addr × Obj)} {e : Expr} {pos p : Pos} {f : Str} {Q : VK}
/-- e.f -/
theorem e_xf {v : V} (T : XfC X.K CE) (hno : PySem.W.findIn X.K (.ref CE) f = some none) (hz : Zc (.ref CE) (some dd) oe) (hf : ∃ vs, oe.data = .fields vs)
    (h : wE (X.suite a ((a, oe) :: pn)) e σ H fun x H1 => x = .ref a ∧ H1 dd = some (.xd [(f, v)]) ∧ Q v H1) (hb : attributeBase e f X.env (eval e X.env) = eval e X.env := by rfl) :
    wE (X.suite a ((a, oe) :: pn)) (.Attribute e f pos) σ H Q := by
  refine ⟨fun pins s I => ?_⟩
  refine attr_of hb (thn (h.run pins s I) fun u s1 hh => ?_)
  obtain ⟨x, H1, I1, rx, ex, ea, q⟩ := hh
  subst ex
  obtain rfl : u = Value.ref a := rx
  obtain ⟨ha, _⟩ := I1.pin (a, oe) (List.mem_append_left _ List.mem_cons_self)
  obtain ⟨vs, hd⟩ := hf
  obtain ⟨mA, hns, hr⟩ := (show ObjOk X.prog X.w H1 s1.heap dd (.xd [(f, v)]) from I1.hok dd _ ea)
  obtain ⟨od, ho, hl⟩ := lookIn_ns hns
  obtain ⟨u, hu, ru⟩ := RelO.some_of (v := v) (o := mA f) (by have := hr f; simpa using this)
  have J : PySem.W.InstAt s1.heap a oe CE (some od) := ⟨ha, hz.1, by unfold PySem.W.notCls; rw [hd] <;> rfl, by rw [hz.2]; exact ho⟩
  exact HandSPX.exc_get I1.kIn J T.ga T.gg T.exC (PySem.W.findObj_own T.hdC hno rfl (by rw [hl, hu])) (handed_of ru) ⟨v, H1, I1.tok _, ru, q⟩
/-- isinstance(e, c) of the caught error, whose fields are kept in dd -/
theorem c_isX {c : V} {cv : Value} {b : Bool} {fs : List (Str × V)} (T : ExcC X.K CE) (hz : Zc (.ref CE) (some dd) oe) (hf : ∃ vs, oe.data = .fields vs) (hcv : ∀ u, RelV c u → u = cv) (e1 : PySem.W.kitOne X.K (.ref CE) cv = some b) (hx : H dd = some (.xd fs)) (q : Q (.bl b) H) :
    cW (X.suite a ((a, oe) :: pn)) (.builtin "isinstance") [.ref a, c] H Q := by
  refine ⟨fun pins s σ us I r => ?_⟩
  cases r with
  | cons rx rr =>
    cases rr with
    | cons rt rr =>
      cases rr
      cases rx
      have ec := hcv _ rt
      subst ec
      obtain ⟨hget, _⟩ := I.pin (a, oe) (List.mem_append.mpr (.inl List.mem_cons_self))
      obtain ⟨vs, hv⟩ := hf
      obtain ⟨mA, hns, hr⟩ := (show ObjOk X.prog X.w H s.heap dd (.xd fs) from I.hok dd _ hx)
      obtain ⟨od, ho, hl⟩ := lookIn_ns hns
      have J : PySem.W.InstAt s.heap a oe CE (some od) := ⟨hget, hz.1, by unfold PySem.W.notCls; rw [hv] <;> rfl, by rw [hz.2]; exact ho⟩
      exact PySem.W.kia_one (PySem.W.kitx_exc (by obtain ⟨cd, hc, _⟩ := PySem.W.any_some T.hd; rw [hc]; rfl) T.hg T.hk T.hs T.ha T.hn T.ht T.hm) I.kIn J e1 (fun z => nomatch z) fun tk => ⟨.bl b, H, I.kept (t' := tk) fun _ _ z => z, rfl, q⟩
end
end Z

set_option Elab.async false
set_option linter.all false
set_option maxRecDepth 100000
set_option maxHeartbeats 4000000
/-! a lambda without parameters handed to a def that calls it -/
namespace Z
open PySem PySem.Spec PyProof.Rows L2 LamX
section
variable {X : Cx} {pins : List (Addr × Obj)} {σ : L2.St} {H : Hp} {s : Shared} {k : Nat} {W : WX}
theorem Cxt.lam {A : Around} {outer : List Env} {E : XK} {scope : Scope} {f c' : Addr} (C : Cxt X k W) {j : Nat} (hr : Room j (A.deeper (lamEnv X scope s.heap.objs.size f c'))) :
    Cxt (lamCx X A outer s H E scope f c') j (fun cls d _ H' => E cls d H') :=
  ⟨hr, rfl, C.nd, C.blt, passes_of rfl, takes_of rfl rfl rfl rfl⟩
/-- the context of the def that got the lambda -/
abbrev hX (X : Cx) (N : List Str) (x : Str) (st : Stmt) (g : Addr) (cdg : Value) (s : Shared) (H : Hp) (E : XK) : Cx := bX X.prog X.w X.K X.mg X.base N x st g cdg X.A X.stack s H E
/-- the lambda is called -/
theorem e_act {Ng : List Str} {x a : Str} {st : Stmt} {g f c' : Addr} {cdg pm ctv : Value} {params : Arguments} {body : Expr} {scope : Scope} {pn : List (Addr × Obj)} {xe : Value → Shared → Prop} {W' : WX} {E0 E : XK} {p1 p2 : Pos} {σZ : L2.St} {HZ : Hp} {Q : VK}
    (C : Cxt X (k + 2) W) (I : Inv X pins σ H s) (L : LamS X.env.scope scope) (hf : s.heap.get? f = some (PySem.W.kla_obj "<lambda>" (X.env.qual ++ "<lambda>") params body scope (cloFrom X.env.cells scope.names []) pm c' ctv)) (hfn : H f = none) (hfr : f ∉ frs X.stack)
    (hbind : bindArgs (PySem.W.kla_fn "<lambda>" (X.env.qual ++ "<lambda>") params body scope (cloFrom X.env.cells scope.names []) pm (.ref c') ctv) ⟨[], []⟩ = pure [])
    (tk : Takes ((hX X Ng x st g cdg s H E0).tr pn xe) W') (hW : ∀ cls d H', E cls d H' → W' cls d σZ H')
    (hN : Ng[0]? = some a) (hv : Vis (defScope st) a) (hd : (a == ("__debug__" : Str)) = false) (hcd : (a == ("__classdict__" : Str)) = false)
    (hs : σZ[0]? = some (some (.ref f))) (hc : HZ c' = some (CodeO c' (X.env.qual ++ "<lambda>")))
    (h : ∀ (A : Around) (outer : List Env) (s' : Shared) (H' : Hp), Cxt (lamCx X A outer s' H' E scope f c') k (fun cls d _ H => E cls d H) → (Gd X → Gd (lamCx X A outer s' H' E scope f c')) → wE (lamCx X A outer s' H' E scope f c') body σ HZ Q) :
    wE ((hX X Ng x st g cdg s H E0).tr pn xe) (.Call (.Name a p1) [] [] p2) σZ HZ Q := by
  refine ⟨fun pinsZ sZ IZ => ?_⟩
  refine wpAny_Call_Name_kw (thn ((pe_var (pos := p1) (i := 0) hN hv hd hcd).run pinsZ sZ σZ HZ (fun v H1 => v = .ref f ∧ H1 = HZ) IZ ⟨.ref f, hs, rfl, rfl⟩) fun u s1 ⟨v, H1, I1, r1, q1⟩ => ?_)
  obtain ⟨ev, eH⟩ := q1
  subst ev
  rw [eH] at I1
  obtain rfl : u = Value.ref f := r1
  have of1 : s1.heap.get? f = some (PySem.W.kla_obj "<lambda>" (X.env.qual ++ "<lambda>") params body scope (cloFrom X.env.cells scope.names []) pm c' ctv) := I1.base.keep f _ hf hfn hfr (fun z => nomatch (show f ∈ ([] : List Addr) from z))
  refine PySem.W.callWith_F0 ⟨_, _, _, _, of1⟩ ?_
  have un : Un (frs X.stack) [] H HZ s.heap s1.heap := I1.base
  obtain ⟨⟨oc, vs, t, hoc, hdc, hvc⟩, _, _⟩ := I1.hok c' _ hc
  have hr : Room (k + 1) (X.A.deeper (envOfC x (defScope st) s.heap.objs.size g cdg)) := C.room.deeper _
  have rc : codeAny (model X.prog X.w) (X.A.deeper (envOfC x (defScope st) s.heap.objs.size g cdg)) (.call (.ref f) ⟨[], []⟩) (CR (L2.CX X.prog X.w) (envOfC x (defScope st) s.heap.objs.size g cdg :: X.stack) X.prog X.w HZ s1 Q E) s1 := by
    refine PySem.W.kla_callFunE hr.depth of1 rfl L.co L.gen rfl ⟨c', oc, vs, t, rfl, hoc, hdc, hvc⟩ ?_
    rw [hbind]
    refine wpAny_pure (wpAny_newFunctionEnv (fun y hy => (L.own y hy).2) (fun y hy => absurd hy (by simp)) (fun h₁ hns hsb => ⟨I1.nolimit.fresh _ hsb, ?_⟩) L.kind)
    show codeAny _ _ (.expr body (lamEnv X scope s1.heap.objs.size f c')) _ _
    have kp : ∀ b o, s1.heap.get? b = some o → h₁.get? b = some o := fun b o e => hsb.extBut b o (Nat.ne_of_lt (Heap.lt_size e)) (Heap.get?_push_of_some _ e)
    have J : Inv (lamCx X (X.A.deeper (envOfC x (defScope st) s.heap.objs.size g cdg)) (envOfC x (defScope st) s.heap.objs.size g cdg :: X.stack) s1 HZ E scope f c') [] σ HZ { s1 with heap := h₁, toks := s1.toks + ([] : List (Str × Value)).length } :=
      lam_start2 I L I1.env0 hr.hd un hns kp
    have CL : Cxt (lamCx X (X.A.deeper (envOfC x (defScope st) s.heap.objs.size g cdg)) (envOfC x (defScope st) s.heap.objs.size g cdg :: X.stack) s1 HZ E scope f c') k (fun cls d _ H' => E cls d H') := C.lam (hr.deeper _)
    refine PySem.W.kla_codeExpr (wpAny_mono ((h _ _ s1 HZ CL fun g => g).run [] _ J) (fun v s' hq => ?_) fun e s' hq => hq)
    obtain ⟨w', H', J', rv, q⟩ := hq
    exact ⟨w', H', J'.os, J'.bare, J'.base, J'.hok, rv, q⟩
  refine wpAny_call (codeAny_mono rc fun r s' hq => ?_)
  cases r with
  | error e => exact tk e s' (XE.of_call I1 (fun cls d H' h => hW cls d H' h) hq)
  | ok fl =>
    cases fl with
    | ret u => exact I1.after hq
    | next => exact False.elim hq
    | brk => exact False.elim hq
    | cont => exact False.elim hq
/-- x(lambda: body) -/
theorem e_lam {T : List (Addr × Str)} {x a : Str} {st : Stmt} {c P : Addr} {Ng : List Str} {params : Arguments} {body : Expr} {scope : Scope} {p lpos pos : Pos} {Q : VK}
    (C : Cxt X (k + 2) W) (D : At X.K X.mg x st) (S : FnScope Ng [a] (defScope st)) (TB : TabB X.base X.mg c P) (hcode : X.env.code = .ref c) (hmT : (P, X.env.qual ++ "<lambda>") ∈ T) (hu : ∀ p ∈ T, p.1 = P → p.2 = X.env.qual ++ "<lambda>")
    (L : LamS X.env.scope scope) (hT : Tabs T H)
    (h : ∀ (g : Addr) (cdg : Value) (f c' : Addr) (s : Shared) (H1 : Hp), ExtN H H1 → Tabs T H1 → H1 c' = some (CodeO c' (X.env.qual ++ "<lambda>")) →
      Cxt (hX X Ng x st g cdg s H1 (fun cls d H' => W cls d σ H')) (k + 1) (fun cls d _ H' => W cls d σ H') → (Gd X → Gd (hX X Ng x st g cdg s H1 (fun cls d H' => W cls d σ H'))) →
      (∀ (W' : WX) (pn : List (Addr × Obj)) (xe : Value → Shared → Prop) (E : XK) (σZ : L2.St) (HZ : Hp) (Q' : VK) (p1 p2 : Pos), Takes ((hX X Ng x st g cdg s H1 (fun cls d H' => W cls d σ H')).tr pn xe) W' → (∀ cls d H', E cls d H' → W' cls d σZ H') →
        σZ[0]? = some (some (.ref f)) → HZ c' = some (CodeO c' (X.env.qual ++ "<lambda>")) →
        (∀ (A : Around) (outer : List Env) (s' : Shared) (H' : Hp), Cxt (lamCx X A outer s' H' E scope f c') k (fun cls d _ H => E cls d H) → (Gd X → Gd (lamCx X A outer s' H' E scope f c')) → wE (lamCx X A outer s' H' E scope f c') body σ HZ Q') →
        wE ((hX X Ng x st g cdg s H1 (fun cls d H' => W cls d σ H')).tr pn xe) (.Call (.Name a p1) [] [] p2) σZ HZ Q') →
      wB (hX X Ng x st g cdg s H1 (fun cls d H' => W cls d σ H')) (defBody st) { nx := fun _ H' => Q .non H', rt := Q } (start Ng [.ref f]) H1)
    (hN : Ng[0]? = some a := by rfl) (hv : Vis (defScope st) a := by first | exact Or.inl rfl | exact Or.inr (Or.inl rfl) | exact Or.inr (Or.inr rfl)) (hg : Gl X x := by rfl) (hdef : defaultsOf params X.env = ([], []) := by rfl)
    (hbl : ∀ (q : Str) (cl : List (Str × Addr)) (pm cv ctv : Value), bindArgs (PySem.W.kla_fn "<lambda>" q params body scope cl pm cv ctv) ⟨[], []⟩ = pure [] := by intros; rfl)
    (hbind : ∀ (kV doc pm : Value) (an : Option Addr) (cdv ct : Value) (us : List Value), us.length = ([a] : List Str).length → bindArgs (PySem.W.fnOf x x (defArgs st) (defBody st) (defScope st) .none kV doc pm an cdv ct) ⟨us, []⟩ = pure (([a] : List Str).zip us) := by exact fun _ _ _ _ _ _ us hl => match us, hl with | [_], _ => rfl)
    (hdb : (x == ("__debug__" : Str)) = false := by decide) (hd : (a == ("__debug__" : Str)) = false := by decide) (hcd : (a == ("__classdict__" : Str)) = false := by decide) :
    wE X (.Call (.Name x p) [.Lambda params body scope lpos] [] pos) σ H Q := by
  refine ⟨fun pins s I => ?_⟩
  obtain ⟨g, fd, hm, F⟩ := D.ex
  obtain ⟨oc, od, kV, doc, pm, an, cdg, ct, osl, rfl, lk, hcd2⟩ := F.ex
  refine wpAny_Call_Name_kw (ld_glob I hg hm ?_ hdb)
  refine PySem.W.callWith_K (h₀ := X.base) I.ok.mod.kin F.kp ?_ (by rfl) (by rfl)
  show wpAny _ _ (spliced ((false, eval (.Lambda params body scope lpos) X.env) :: backTo pos (starEach [] X.env))) _ _ s
  refine Calls.spliced_cons (lam_make2 I TB hcode hmT hu hT hdef (L.has I.ok) fun f c' pm' ctv H1 s' I1 eN T1 hf hfn hfr hco => ?_)
  refine Calls.spliced_nil ⟨I1.kIn, ?_⟩
  have rc : codeAny (model X.prog X.w) X.A (.call (.ref g) ⟨[.ref f], []⟩) (CR (L2.CX X.prog X.w) X.stack X.prog X.w H1 s' Q (fun cls d H' => W cls d σ H')) s' := by
    refine run_ofS (N := Ng) (ps := [a]) (us := [.ref f]) (vs := [.ref f]) lk hcd2 S (C.room.mono (show k + 1 + 1 ≤ k + 2 from Nat.le_refl _)) I1.env0 (.of_eq (hbind kV doc pm an cdg ct [.ref f] rfl)) (.cons rfl .nil) rfl fun hr' => ?_
    have CZ : Cxt (hX X Ng x st g cdg s' H1 (fun cls d H' => W cls d σ H')) (k + 1) (fun cls d _ H' => W cls d σ H') := ⟨hr', rfl, S.nd, C.blt, passes_of rfl, takes_of rfl rfl rfl rfl⟩
    refine ⟨wB _ (defBody st), pB, h g cdg f c' s' H1 eN T1 hco CZ (fun g => g) fun W' pn xe E σZ HZ Q' p1 p2 tk hW hs hc hh => ?_⟩
    exact e_act C I1 L hf hfn hfr (hbl _ _ _ _ _) tk hW hN hv hd hcd hs hc hh
  refine wpAny_call (codeAny_mono rc fun r s2 hq => ?_)
  cases r with
  | error e => exact C.tk e s2 (XE.of_call I1 (fun _ _ _ z => z) hq)
  | ok fl =>
    cases fl with
    | ret u => exact I1.after hq
    | next => exact False.elim hq
    | brk => exact False.elim hq
    | cont => exact False.elim hq
end
end Z

set_option Elab.async false
set_option linter.all false
set_option maxRecDepth 100000
set_option maxHeartbeats 4000000
/-! the law's own call, where the defs keep GFn; tables of code objects -/
namespace Z
open PySem PySem.Spec PyProof.Rows L2 LamX

/-- a def whose code object is known -/
structure AtC (K : PySem.W.Frag) (mg : Str → Option Value) (x : Str) (st : Stmt) (c : Addr) : Prop where
  ex : ∃ (f : Addr) (oc kV doc pm ct : Value) (od an : Option Addr) (osl : Array (Option Value)), mg x = some (.ref f) ∧ PySem.W.keepIn K (.ref f) = true ∧
    K.lookup f = some ⟨oc, od, .func (PySem.W.fnOf x x (defArgs st) (defBody st) (defScope st) .none kV doc pm an (.ref c) ct), osl⟩ ∧ PySem.W.codeIn K (.ref c) x = true
theorem defG_ofC {P : Program} {w : World} {K : PySem.W.Frag} {mg : Str → Option Value} {base : Heap} {k : Nat} {x : Str} {st : Stmt} {c : Addr} {N ps : List Str} {sp : Sp} (D : AtC K mg x st c) (B : Blt mg base) (S : FnScope N ps (defScope st)) (len : ∀ vs H Q E, sp vs H Q E → vs.length = ps.length)
    (body : ∀ (f : Addr) (A : Around) (outer : List Env) (s : Shared) (H : Hp) (vs : List V) (Q : VK) (E : XK), mg x = some (.ref f) → Cxt (bX P w K mg base N x st f (.ref c) A outer s H E) k (fun cls d _ H => E cls d H) → Gd (bX P w K mg base N x st f (.ref c) A outer s H E) → sp vs H Q E →
      wB (bX P w K mg base N x st f (.ref c) A outer s H E) (defBody st) { nx := fun _ H' => Q .non H', rt := Q } (start N vs) H) : DefG P w K mg base (k + 1) x st ps sp := by
  obtain ⟨f, oc, kV, doc, pm, ct, od, an, osl, hm, kp, lk, hcd⟩ := D.ex
  exact ⟨f, kV, doc, pm, an, .ref c, ct, hm, kp, gfn_body B lk hcd S len fun A outer s H vs Q E C g h => body f A outer s H vs Q E hm C g h⟩

/-- the data at sysModules is a dict -/
def SysAt (base : Heap) : Prop := ∃ o es ep, base.get? sysModules = some o ∧ o.data = .dict es ep
theorem law_callG {P : Program} {w : World} {K : PySem.W.Frag} {mg mb : Str → Option Value} {k : Nat} {fa a : Addr} {cs : List (Addr × Addr)} {x : Str} {sp : Sp} {s₁ : Shared} {vs : List Value} {ns : List Int}
    (KX : K.In s₁.heap) (hns : s₁.heap.Ns mainGlobals mg) (hb : s₁.heap.Ns builtinsNs mb) (hbb : ∀ x : Str, x ≠ "__name__" → mb x = bootBuiltins x) (hlim : s₁.heap.NoLimit) (hsy : ∃ mm, s₁.heap.Ns sysModules mm) (hg : s₁.gens = #[])
    (hT : ∀ p ∈ cs, s₁.heap.get? p.2 = some { cls := .none, data := .fields #[] }) (nT : ∀ p ∈ cs, K.lookup p.2 = none) (C : ∀ p ∈ cs, PySem.W.CodeHd s₁.heap p.1 p.2)
    (hbm : ∃ (bm : Addr) (ob : Obj), mg "__builtins__" = some (.ref bm) ∧ bm ≠ builtinsNs ∧ s₁.heap.get? bm = some ob ∧ ob.cls = .type "module" ∧ ob.dict = some builtinsNs ∧ ob.data = .plain)
    (ha : s₁.heap.get? a = some { cls := .type "list", data := .seq vs.toArray }) (hi : IntsAre vs ns) (hl : ns.length ≤ sizeLine) (hr : Room k callerA)
    (F : ∀ base : Heap, K.In base → base.Ns mainGlobals mg → SysAt base → (∀ p ∈ cs, TabB base mg p.1 p.2) → ∃ fd, (∀ (s : Shared) (u : Value), BindsTo s fd ⟨[u], []⟩ [(x, u)]) ∧ GFn P w K mg base k fa fd [x] sp)
    (hsp : ∀ H : Hp, (∀ p ∈ cs, H p.2 = some (.tbl #[])) → SqL K H a (ns.map V.int) → sp [.ref a] H (fun v _ => v = .bl true) fun _ _ _ => False) :
    codeAny (model P w) callerA (.call (.ref fa) ⟨[.ref a], []⟩) (fun r s' => r = .ok (.ret (.bool true)) ∧ OldK s₁.heap s'.heap ∧ s'.os = s₁.os ∧ AllBare s'.gens) s₁ := by
  have rv := vals_ints hi
  have lenV := hi.length
  have isT : ∀ b : Addr, b ∈ cs.map (·.2) → s₁.heap.get? b = some { cls := .none, data := .fields #[] } := fun b hb => by
    obtain ⟨p, hp, e⟩ := List.mem_map.mp hb
    rw [← e]
    exact hT p hp
  have aT : a ∉ cs.map (·.2) := fun z => by
    have q := isT a z
    rw [ha] at q
    have z' : Data.seq vs.toArray _ = Data.fields #[] := congrArg Obj.data (Option.some.inj q)
    cases z'
  have memT : ∀ p ∈ cs, p.2 ∈ cs.map (·.2) := fun p hp => List.mem_map.mpr ⟨p, hp, rfl⟩
  -- what is tracked at the start: the tables, and the script where the text does not hold it
  let H : Hp := fun b => if b ∈ cs.map (·.2) then some (.tbl #[]) else if b = a ∧ K.lookup a = none then some (.frz { cls := .type "list", data := .seq vs.toArray } (.lst (ns.map V.int))) else none
  have HT : ∀ b, b ∈ cs.map (·.2) → H b = some (.tbl #[]) := fun b hb => if_pos hb
  have HA : K.lookup a = none → H a = some (.frz { cls := .type "list", data := .seq vs.toArray } (.lst (ns.map V.int))) := fun e => (if_neg aT).trans (if_pos ⟨rfl, e⟩)
  have Hcase : ∀ b u, H b = some u → (b ∈ cs.map (·.2) ∧ u = .tbl #[]) ∨ (b = a ∧ K.lookup a = none ∧ u = .frz { cls := .type "list", data := .seq vs.toArray } (.lst (ns.map V.int))) := fun b u e => by
    by_cases h1 : b ∈ cs.map (·.2)
    · rw [HT b h1] at e
      cases e
      exact .inl ⟨h1, rfl⟩
    · have e1 : H b = _ := if_neg h1
      rw [e1] at e
      by_cases h2 : b = a ∧ K.lookup a = none
      · rw [if_pos h2] at e
        cases e
        exact .inr ⟨h2.1, h2.2, rfl⟩
      · rw [if_neg h2] at e
        cases e
  have hok : HOk P w H s₁.heap := fun b u e => by
    rcases Hcase b u e with ⟨h1, rfl⟩ | ⟨rfl, h2, rfl⟩
    · exact isT b h1
    · exact ⟨ha, by rw [List.length_map]; exact hl, vs, _, rv, ha⟩
  have hS : SqL K H a (ns.map V.int) := by
    cases hk : K.lookup a with
    | none => exact .inl (.inr ⟨_, HA hk⟩)
    | some o =>
      have e := KX a o hk
      rw [ha] at e
      cases e
      exact .inr ⟨_, vs.toArray, _, hk, rfl, rfl, rfl, by rw [List.size_toArray, lenV]; exact hl, by simpa using rv⟩
  have base_of : ∀ {b : Addr} {o : Obj}, s₁.heap.get? b = some o → H b = none → (hidT s₁.heap H).get? b = some o := fun e n => hidT_get e n
  have noD : ∀ {b : Addr} {o : Obj}, s₁.heap.get? b = some o → (∀ vs n, o.data ≠ .seq vs n) → o.data ≠ .fields #[] → H b = none := fun {b o} e h1 h2 => by
    cases q : H b with
    | none => rfl
    | some u =>
      rcases Hcase b u q with ⟨e', _⟩ | ⟨e', _⟩
      · rw [isT b e'] at e
        cases e
        exact (h2 rfl).elim
      · rw [e', ha] at e
        cases e
        exact (h1 _ _ rfl).elim
  have noA : ∀ {b : Addr} {o : Obj} {es : Array DictEntry} {ep : Nat}, s₁.heap.get? b = some o → o.data = .dict es ep → H b = none := fun {b o es ep} e d => by
    refine noD e (fun vs n z => ?_) fun z => ?_
    · rw [d] at z
      cases z
    · rw [d] at z
      cases z
  have nsK : ∀ {b : Addr} {m : Str → Option Value}, s₁.heap.Ns b m → (hidT s₁.heap H).Ns b m := fun {b m} ⟨o, es, ep, e, d, r⟩ => ⟨o, es, ep, base_of e (noA e d), d, r⟩
  have hKb : K.In (hidT s₁.heap H) := fun b o e => base_of (KX b o e) (by
    cases q : H b with
    | none => rfl
    | some u =>
      rcases Hcase b u q with ⟨e', _⟩ | ⟨e', hk, _⟩
      · obtain ⟨p, hp, ep⟩ := List.mem_map.mp e'
        rw [← ep, nT p hp] at e
        cases e
      · rw [e', hk] at e
        cases e)
  have hM : L2.Mod K mg (hidT s₁.heap H) := ⟨hKb, nsK hns, ⟨mb, nsK hb, hbb⟩, let ⟨mc, h1, h2⟩ := hlim; ⟨mc, nsK h1, h2⟩⟩
  have hSys : SysAt (hidT s₁.heap H) := by
    obtain ⟨mm, hm⟩ := hsy
    obtain ⟨o, es, ep, e, d, _⟩ := nsK hm
    exact ⟨o, es, ep, e, d⟩
  have TB : ∀ p ∈ cs, TabB (hidT s₁.heap H) mg p.1 p.2 := fun p hp => by
    have hTp := hT p hp
    refine ⟨?_, ?_, fun z => ?_⟩
    · obtain ⟨o, us, file, tf, flags, tg, inF, text, tt, e1, r1, r2, r3, r4, r5, r6, r7, r8, hne⟩ := C p hp
      refine ⟨o, us, file, tf, flags, tg, inF, text, tt, base_of e1 (noD e1 (fun vs n z => ?_) fun z => ?_), r1, r2, r3, r4, r5, r6, r7, r8, hne⟩
      · rw [r2] at z
        cases z
      · rw [r2] at z
        cases z
        simp at r3
    · obtain ⟨bm, ob, b1, b2, b3, b4, b5, b6⟩ := hbm
      have nG : bm ≠ mainGlobals := fun q => by
        obtain ⟨o, es, ep, e, hd, _⟩ := hns
        rw [q, e] at b3
        cases b3
        rw [hd] at b6
        cases b6
      have nP : bm ≠ p.2 := fun q => by
        rw [q, hTp] at b3
        cases b3
        cases b6
      refine ⟨bm, ob, b1, b2, nG, nP, base_of b3 (noD b3 (fun vs n z => ?_) fun z => ?_), b4, b5, b6⟩
      · rw [b6] at z
        cases z
      · rw [b6] at z
        cases z
    · obtain ⟨o, es, ep, e, hd, _⟩ := hns
      rw [z, hTp] at e
      cases e
      cases hd
  have e0 : Env0 P w K mg (hidT s₁.heap H) callerA [] s₁ H := ⟨rfl, hM, fun b o e => of_hidT e, Nat.le_of_eq (hidT_size _ _), trivial, fun b hb => absurd (show b ∈ ([] : List Addr) from hb) (by simp), hok, .of_eq hg⟩
  obtain ⟨fd, hbind, hF⟩ := F _ hKb (nsK hns) hSys TB
  refine codeAny_mono (hF.run callerA [] s₁ H ⟨[.ref a], []⟩ [.ref a] [.ref a] _ _ hr rfl e0 (hbind s₁ (.ref a)) (.cons rfl .nil) (hsp H (fun p hp => HT _ (memT p hp)) hS)) fun r s' h => ?_
  cases r with
  | error e =>
    obtain ⟨_, _, _, _, _, _, _, _, _, _, _, _, z⟩ := h
    exact z.elim
  | ok fl =>
    cases fl with
    | next => exact False.elim h
    | brk => exact False.elim h
    | cont => exact False.elim h
    | ret u =>
      obtain ⟨v, H', os, bare, un, hok', r', q⟩ := h
      have q' : v = .bl true := q
      subst q'
      obtain rfl : u = Value.bool true := r'
      have key : ∀ b o, b ∉ cs.map (·.2) → s₁.heap.get? b = some o → s'.heap.get? b = some o := fun b o nb e => by
        cases q : H b with
        | none => exact un.keep b o e q (by intro z; exact absurd (show b ∈ ([] : List Addr) from z) (by simp)) (by simp)
        | some u =>
          rcases Hcase b u q with ⟨z, _⟩ | ⟨_, _, z⟩
          · exact absurd z nb
          · rw [z] at q
            have z2 := un.frzs b _ _ q
            obtain ⟨e1, _⟩ := hok b _ q
            obtain ⟨e2, _⟩ := hok' b _ z2
            rw [e] at e1; cases e1
            exact e2
      have grown : ∀ p ∈ cs, ∃ more : Array Value, s'.heap.get? p.2 = some { cls := .none, data := .fields more } := fun p hp => by
        obtain ⟨more, z⟩ := un.tbls p.2 #[] (HT _ (memT p hp))
        exact ⟨_, hok' p.2 _ z⟩
      refine ⟨rfl, ⟨fun b o e => ?_, fun b o e => ?_⟩, os, bare⟩
      · by_cases hb : b ∈ cs.map (·.2)
        · obtain ⟨p, hp, ep⟩ := List.mem_map.mp hb
          obtain ⟨more, hm⟩ := grown p hp
          rw [← ep] at e ⊢
          rw [hT p hp] at e
          cases e
          exact .inr (.inl ⟨((C p hp).tab (hT p hp)).isCodeTable, rfl, #[], more, rfl, by rw [Array.empty_append]; exact hm⟩)
        · exact .inl (key b o hb e)
      · by_cases hb : b ∈ cs.map (·.2)
        · obtain ⟨p, hp, ep⟩ := List.mem_map.mp hb
          obtain ⟨more, hm⟩ := grown p hp
          rw [← ep]
          exact ⟨_, hm⟩
        · exact ⟨o, key b o hb e⟩
/-- what is known of the law's promise at the head's heap h -/
def LawG (l : PySem.W.OpenLaw) (w : World) (K : PySem.W.Frag) (k n : Nat) (x : Str) (mg : Str → Option Value) (fa : Addr) (h : Heap) : Prop :=
  ∃ (cs : List (Addr × Addr)) (sp : Sp), (∀ p ∈ cs, h.get? p.2 = some { cls := .none, data := .fields #[] }) ∧ (∀ p ∈ cs, K.lookup p.2 = none) ∧ (∀ p ∈ cs, PySem.W.CodeHd h p.1 p.2) ∧
    (∀ (H : Hp) (a : Addr) (ns : List Int), ns.length ≤ n → (∀ z ∈ ns, Builtin.Int.intBits z ≤ 1048576) → (∀ p ∈ cs, H p.2 = some (.tbl #[])) → SqL K H a (ns.map V.int) → sp [.ref a] H (fun v _ => v = .bl true) fun _ _ _ => False) ∧
    ∀ base : Heap, K.In base → base.Ns mainGlobals mg → SysAt base → (∀ p ∈ cs, TabB base mg p.1 p.2) → ∃ fd, (∀ (s : Shared) (u : Value), BindsTo s fd ⟨[u], []⟩ [(x, u)]) ∧ GFn l.prog w K mg base k fa fd [x] sp
theorem walk_G {l : PySem.W.OpenLaw} {n k : Nat} {q : Program} {loose : List Str} {XP : (Str → Option Value) → Heap → Prop} {YP : World → Heap → Prop} {d : DefRec} {K : Params → PySem.W.Frag} {x : Str}
    (hn : l.most = some n) (hn2 : n ≤ sizeLine) (hdf : d.params.defaults = []) (hr : Room k callerA) (hY : ∀ (w : World) (h : Heap), YP w h → (K w.params).In h) (hq : importsNone q = true)
    (F : ∀ (w : World) (mg : Str → Option Value) (fa : Addr) (h : Heap), YP w h → (K w.params).In h → h.Ns mainGlobals mg → mg d.name = some (.ref fa) → LawG l w (K w.params) k n x mg fa h) :
    PySem.W.WalkO q loose XP YP l.row.toRowW d [] (fun f vs => PySem.call f vs) := by
  refine Att.attach_callB hn hdf fun w s₀ s₁ mg mb fa o pm cd doc a vs ns G Y ho hd hcd hmg hobj hints hlen hbits hg => ?_
  have KX := hY w _ Y
  obtain ⟨cs, sp, hT, nT, C, hsp, hF⟩ := F w mg fa _ Y KX G.T.g hmg
  obtain ⟨mm, hmm, _⟩ := (G.T.seer hq).mods
  exact law_callG KX G.T.g G.T.b G.T.builtins G.T.nolimit ⟨mm, hmm⟩ hg hT nT C G.T.bmain hobj hints (Nat.le_trans hlen hn2) hr hF fun H hH hS => hsp H a ns hlen hbits hH hS
end Z

set_option Elab.async false
set_option linter.all false
set_option maxRecDepth 100000
set_option maxHeartbeats 4000000
/-! zip of two texts of ASCII signs -/
namespace Z
open PySem PySem.Spec PyProof.Rows L2
section
variable {prog : Program} {w : World} {A : Around} {E : Value → Shared → Prop} {s : Shared}
abbrev At8 (h : Heap) (a : Addr) (x : Str) (t : Tok) (i : Nat) : Prop := h.IsStrIter a "str_ascii_iterator" x t i
theorem at8_at {h h' : Heap} {a : Addr} {x : Str} {t : Tok} {i : Nat} (y : At8 h a x t i) (k : ∀ o, h.get? a = some o → h'.get? a = some o) : At8 h' a x t i := let ⟨o, e, r⟩ := y; ⟨o, k o e, r⟩
theorem zipS_next_item {z TI TO i1 i2 l1 l2 : Addr} {k1 k2 c d : Nat} {xs ys : Str} {t1 t2 : Tok} {a b : Value} {Q : Value → Shared → Prop} (D : ZipApart z TI TO i1 i2 l1 l2)
    (hz : IsZip s.heap z TI TO .none) (hTI : IsPair s.heap TI (.ref i1) (.ref i2)) (hTO : IsPair s.heap TO a b)
    (h1 : At8 s.heap i1 xs t1 k1) (h2 : At8 s.heap i2 ys t2 k2) (hx : xs.cps[k1]? = some c) (hy : ys.cps[k2]? = some d)
    (hQ : ∀ h' u v, IsZip h' z TI TO (rawInt s.heap.objs.size) → IsPair h' TO (.str ⟨#[c]⟩ u) (.str ⟨#[d]⟩ v) → At8 h' i1 xs t1 (k1 + 1) → At8 h' i2 ys t2 (k2 + 1) → IsPair h' s.heap.objs.size (.str ⟨#[c]⟩ u) (.str ⟨#[d]⟩ v) → h'.objs.size = s.heap.objs.size + 1 →
      (∀ c o, c ≠ z → c ≠ TO → c ≠ i1 → c ≠ i2 → s.heap.get? c = some o → h'.get? c = some o) → Q (.ref s.heap.objs.size) { s with heap := h', toks := s.toks + 2 }) :
    wpAny (model prog w) A (Builtin.«zip.__next__» ⟨[.ref z], []⟩) (fun fin s' => ∃ v, fin = .done (.ret v) ∧ Q v s') E s := by
  obtain ⟨hp, g, dr, tk, os⟩ := s
  show wpAny _ _ (field (.ref z) 2 >>= _) _ _ _
  refine wpAny_bind (wpAny_field hz rfl (x := .bool false) rfl ?_)
  show wpAny _ _ (field (.ref z) 3 >>= _) _ _ _
  refine wpAny_bind (wpAny_field hz rfl (x := .ref TI) rfl ?_)
  refine wpAny_bind (wpAny_seqItems hTI rfl ?_)
  show wpAny _ _ (Builtin.SmallTypes.ownedTupleIsFree (.ref z) >>= _) _ _ _
  refine wpAny_bind ?_
  unfold Builtin.SmallTypes.ownedTupleIsFree
  refine wpAny_bind (wpAny_field hz rfl (x := .none) rfl (wpAny_pure ?_))
  simp only [if_true]
  refine wpAny_bind (wpAny_rule ?_)
  refine wpAny_bind (wpAny_field hz rfl (x := .ref TO) rfl ?_)
  refine wpAny_bind (wpAny_setField_rec hz (by simp) fun h₁ hz₁ hs₁ => ?_)
  replace hz₁ : IsZip h₁ z TI TO .ellipsis := hz₁
  refine wpAny_bind ?_
  simp only [List.zipIdx_cons, List.zipIdx_nil, List.forIn_cons, List.forIn_nil]
  refine wpAny_bind (wpAny_bind (wpAny_onRaise ?_))
  show wpAny _ _ (Builtin.SmallTypes.nextOf (.ref i1) >>= _) _ _ _
  refine wpAny_bind (wpAny_nextOf_ascii_item (Heap.IsStrIter.extBut h1 hs₁.extBut D.i1z) hx fun h₂ h1₂ hs₂ => wpAny_pure ?_)
  have hTO₂ : IsPair h₂ TO a b := hs₂.extBut _ _ D.TOi1 (hs₁.extBut _ _ D.TOz hTO)
  refine wpAny_bind (wpAny_seqItems hTO₂ rfl ?_)
  refine wpAny_bind (wpAny_updateSeq_pair hTO₂ fun h₃ hTO₃ hs₃ => ?_)
  replace hTO₃ : IsPair h₃ TO (.str ⟨#[c]⟩ tk) b := hTO₃
  refine wpAny_bind (wpAny_letGo (wpAny_pure ?_))
  refine wpAny_bind (wpAny_bind (wpAny_onRaise ?_))
  show wpAny _ _ (Builtin.SmallTypes.nextOf (.ref i2) >>= _) _ _ _
  refine wpAny_bind (wpAny_nextOf_ascii_item (((Heap.IsStrIter.extBut h2 hs₁.extBut D.i2z).extBut hs₂.extBut D.i12.symm).extBut hs₃.extBut D.TOi2.symm) hy fun h₄ h2₄ hs₄ => wpAny_pure ?_)
  have hTO₄ : IsPair h₄ TO (.str ⟨#[c]⟩ tk) b := hs₄.extBut _ _ D.TOi2 hTO₃
  refine wpAny_bind (wpAny_seqItems hTO₄ rfl ?_)
  refine wpAny_bind (wpAny_updateSeq_pair hTO₄ fun h₅ hTO₅ hs₅ => ?_)
  replace hTO₅ : IsPair h₅ TO (.str ⟨#[c]⟩ tk) (.str ⟨#[d]⟩ (tk + 1)) := hTO₅
  refine wpAny_bind (wpAny_letGo (wpAny_pure (wpAny_pure ?_)))
  refine wpAny_bind (wpAny_seqItems hTO₅ rfl ?_)
  refine wpAny_bind (wpAny_newTuple ?_)
  have hsz : h₅.objs.size = hp.objs.size := by rw [hs₅.1, hs₄.1, hs₃.1, hs₂.1, hs₁.1]
  have hz₅ : IsZip h₅ z TI TO .ellipsis := hs₅.extBut _ _ D.TOz.symm (hs₄.extBut _ _ D.i2z.symm (hs₃.extBut _ _ D.TOz.symm (hs₂.extBut _ _ D.i1z.symm hz₁)))
  have hk₅ : ∀ c o, c ≠ z → c ≠ TO → c ≠ i1 → c ≠ i2 → hp.get? c = some o → h₅.get? c = some o := fun c o c1 c2 c3 c4 e =>
    hs₅.extBut _ _ c2 (hs₄.extBut _ _ c4 (hs₃.extBut _ _ c2 (hs₂.extBut _ _ c3 (hs₁.extBut _ _ c1 e))))
  have h1₅ : At8 h₅ i1 xs t1 (k1 + 1) := ((Heap.IsStrIter.extBut h1₂ hs₃.extBut D.TOi1.symm).extBut hs₄.extBut D.i12).extBut hs₅.extBut D.TOi1.symm
  have h2₅ : At8 h₅ i2 ys t2 (k2 + 1) := Heap.IsStrIter.extBut h2₄ hs₅.extBut D.TOi2.symm
  have hzlt : z < h₅.objs.size := Heap.lt_size hz₅
  have hTOlt : TO < h₅.objs.size := Heap.lt_size hTO₅
  show wpAny _ _ (Builtin.SmallTypes.ownedTupleHandOut (.ref z) (.ref h₅.objs.size) >>= _) _ _ _
  refine wpAny_bind ?_
  unfold Builtin.SmallTypes.ownedTupleHandOut
  have hz₆ : IsZip (h₅.push { cls := .type "tuple", data := .seq #[.str ⟨#[c]⟩ tk, .str ⟨#[d]⟩ (tk + 1)] }) z TI TO .ellipsis := Heap.get?_push_of_some _ hz₅
  refine wpAny_bind (wpAny_setField_rec hz₆ (by simp) fun h₇ hz₇ hs₇ => ?_)
  replace hz₇ : IsZip h₇ z TI TO (rawInt h₅.objs.size) := hz₇
  refine wpAny_setField_rec hz₇ (by simp) fun h₈ hz₈ hs₈ => ?_
  replace hz₈ : IsZip h₈ z TI TO (rawInt h₅.objs.size) := hz₈
  have up : ∀ c o, c ≠ z → h₅.get? c = some o → h₈.get? c = some o := fun c o c1 e => hs₈.extBut _ _ c1 (hs₇.extBut _ _ c1 (Heap.get?_push_of_some _ e))
  have hT₈ : IsPair h₈ h₅.objs.size (.str ⟨#[c]⟩ tk) (.str ⟨#[d]⟩ (tk + 1)) := hs₈.extBut _ _ (Nat.ne_of_gt hzlt) (hs₇.extBut _ _ (Nat.ne_of_gt hzlt) (Heap.get?_push_size _ rfl))
  have hz8 : h₈.objs.size = h₅.objs.size + 1 := by rw [hs₈.1, hs₇.1, Heap.size_push]
  rw [hsz] at hz₈ hT₈ hz8
  refine wpAny_pure ⟨_, rfl, ?_⟩
  show Q (.ref h₅.objs.size) _
  rw [hsz]
  exact hQ h₈ _ _ hz₈ (up _ _ D.TOz hTO₅) (at8_at h1₅ fun o e => up _ o D.i1z e) (at8_at h2₅ fun o e => up _ o D.i2z e) hT₈ hz8 fun c o c1 c2 c3 c4 e => up c o c1 (hk₅ c o c1 c2 c3 c4 e)
theorem zipS_next_end {z TI TO i1 i2 l1 l2 : Addr} {k1 k2 : Nat} {xs ys : Str} {t1 t2 : Tok} {a b : Value} {Q : Fin → Shared → Prop} (hh : A.handled = none) (D : ZipApart z TI TO i1 i2 l1 l2)
    (hz : IsZip s.heap z TI TO .none) (hTI : IsPair s.heap TI (.ref i1) (.ref i2)) (hTO : IsPair s.heap TO a b)
    (h1 : At8 s.heap i1 xs t1 k1) (h2 : At8 s.heap i2 ys t2 k2) (hend : xs.cps[k1]? = none ∨ ys.cps[k2]? = none)
    (hE : ∀ h' tk' e, (∀ c o, c ≠ z → c ≠ TO → c ≠ i1 → c ≠ i2 → s.heap.get? c = some o → h'.get? c = some o) → (∃ o, h'.get? e = some o ∧ o.cls = .type "StopIteration") → E (.ref e) { s with heap := h', toks := tk' }) :
    wpAny (model prog w) A (Builtin.«zip.__next__» ⟨[.ref z], []⟩) Q E s := by
  obtain ⟨hp, g, dr, tk, os⟩ := s
  show wpAny _ _ (field (.ref z) 2 >>= _) _ _ _
  refine wpAny_bind (wpAny_field hz rfl (x := .bool false) rfl ?_)
  show wpAny _ _ (field (.ref z) 3 >>= _) _ _ _
  refine wpAny_bind (wpAny_field hz rfl (x := .ref TI) rfl ?_)
  refine wpAny_bind (wpAny_seqItems hTI rfl ?_)
  show wpAny _ _ (Builtin.SmallTypes.ownedTupleIsFree (.ref z) >>= _) _ _ _
  refine wpAny_bind ?_
  unfold Builtin.SmallTypes.ownedTupleIsFree
  refine wpAny_bind (wpAny_field hz rfl (x := .none) rfl (wpAny_pure ?_))
  simp only [if_true]
  refine wpAny_bind (wpAny_rule ?_)
  refine wpAny_bind (wpAny_field hz rfl (x := .ref TO) rfl ?_)
  refine wpAny_bind (wpAny_setField_rec hz (by simp) fun h₁ hz₁ hs₁ => ?_)
  replace hz₁ : IsZip h₁ z TI TO .ellipsis := hz₁
  refine wpAny_bind ?_
  simp only [List.zipIdx_cons, List.zipIdx_nil, List.forIn_cons, List.forIn_nil]
  refine wpAny_bind (wpAny_bind (wpAny_onRaise ?_))
  show wpAny _ _ (Builtin.SmallTypes.nextOf (.ref i1) >>= _) _ _ _
  cases hx : xs.cps[k1]? with
  | none =>
    refine wpAny_bind (wpAny_nextOf_ascii_end hh (Heap.IsStrIter.extBut h1 hs₁.extBut D.i1z) hx fun h₂ e hs₂ he => ?_)
    obtain ⟨oe, hoe, hce⟩ := he
    have hz₂ : IsZip h₂ z TI TO .ellipsis := hs₂ _ _ D.i1z.symm hz₁
    have hez : e ≠ z := fun x => by subst x; rw [hz₂] at hoe; cases hoe; simp at hce
    refine wpAny_setField_rec hz₂ (by simp) fun h₃ _ hs₃ => hE h₃ _ e (fun c o c1 _ c3 _ x => hs₃.extBut _ _ c1 (hs₂ _ _ c3 (hs₁.extBut _ _ c1 x))) ⟨oe, hs₃.extBut _ _ hez hoe, hce⟩
  | some x =>
    have hy : ys.cps[k2]? = none := by rcases hend with h | h; rw [hx] at h; cases h; exact h
    refine wpAny_bind (wpAny_nextOf_ascii_item (Heap.IsStrIter.extBut h1 hs₁.extBut D.i1z) hx fun h₂ h1₂ hs₂ => wpAny_pure ?_)
    have hTO₂ : IsPair h₂ TO a b := hs₂.extBut _ _ D.TOi1 (hs₁.extBut _ _ D.TOz hTO)
    refine wpAny_bind (wpAny_seqItems hTO₂ rfl ?_)
    refine wpAny_bind (wpAny_updateSeq_pair hTO₂ fun h₃ hTO₃ hs₃ => ?_)
    refine wpAny_bind (wpAny_letGo (wpAny_pure ?_))
    refine wpAny_bind (wpAny_bind (wpAny_onRaise ?_))
    show wpAny _ _ (Builtin.SmallTypes.nextOf (.ref i2) >>= _) _ _ _
    refine wpAny_bind (wpAny_nextOf_ascii_end hh (((Heap.IsStrIter.extBut h2 hs₁.extBut D.i2z).extBut hs₂.extBut D.i12.symm).extBut hs₃.extBut D.TOi2.symm) hy fun h₄ e hs₄ he => ?_)
    obtain ⟨oe, hoe, hce⟩ := he
    have hz₄ : IsZip h₄ z TI TO .ellipsis := hs₄ _ _ D.i2z.symm (hs₃.extBut _ _ D.TOz.symm (hs₂.extBut _ _ D.i1z.symm hz₁))
    have hez : e ≠ z := fun x => by subst x; rw [hz₄] at hoe; cases hoe; simp at hce
    refine wpAny_setField_rec hz₄ (by simp) fun h₅ _ hs₅ => hE h₅ _ e (fun c o c1 c2 c3 c4 x => hs₅.extBut _ _ c1 (hs₄ _ _ c4 (hs₃.extBut _ _ c2 (hs₂.extBut _ _ c3 (hs₁.extBut _ _ c1 x))))) ⟨oe, hs₅.extBut _ _ hez hoe, hce⟩
theorem pyNext_zipS_item {z TI TO i1 i2 l1 l2 : Addr} {k1 k2 c d : Nat} {xs ys : Str} {t1 t2 : Tok} {a b : Value} {Q : Option Value → Shared → Prop} (D : ZipApart z TI TO i1 i2 l1 l2)
    (hz : IsZip s.heap z TI TO .none) (hTI : IsPair s.heap TI (.ref i1) (.ref i2)) (hTO : IsPair s.heap TO a b)
    (h1 : At8 s.heap i1 xs t1 k1) (h2 : At8 s.heap i2 ys t2 k2) (hx : xs.cps[k1]? = some c) (hy : ys.cps[k2]? = some d)
    (hQ : ∀ h' u v, IsZip h' z TI TO (rawInt s.heap.objs.size) → IsPair h' TO (.str ⟨#[c]⟩ u) (.str ⟨#[d]⟩ v) → At8 h' i1 xs t1 (k1 + 1) → At8 h' i2 ys t2 (k2 + 1) → IsPair h' s.heap.objs.size (.str ⟨#[c]⟩ u) (.str ⟨#[d]⟩ v) → h'.objs.size = s.heap.objs.size + 1 →
      (∀ c o, c ≠ z → c ≠ TO → c ≠ i1 → c ≠ i2 → s.heap.get? c = some o → h'.get? c = some o) → Q (some (.ref s.heap.objs.size)) { s with heap := h', toks := s.toks + 2 }) :
    wpAny (model prog w) A (pyNext (.ref z)) Q E s := by
  have hT : s.TypeIs (.ref z) "zip" := ⟨_, hz, rfl⟩
  unfold pyNext
  exact wpAny_bind (wpAny_attempt (wpAny_callSpecial?_slot (name := Str.ofString "__next__") hT F.slot_zip_next
    (wpAny_call_entry F.slot_zip_next hT F.entry_zip_next
      (zipS_next_item D hz hTI hTO h1 h2 hx hy fun h' u v a1 a2 a3 a4 a5 a6 a7 => wpAny_pure (hQ h' u v a1 a2 a3 a4 a5 a6 a7)) (F.args_zip_next_1 _))))
theorem pyNext_zipS_end {z TI TO i1 i2 l1 l2 : Addr} {k1 k2 : Nat} {xs ys : Str} {t1 t2 : Tok} {a b : Value} {Q : Option Value → Shared → Prop} (hh : A.handled = none) (D : ZipApart z TI TO i1 i2 l1 l2)
    (hz : IsZip s.heap z TI TO .none) (hTI : IsPair s.heap TI (.ref i1) (.ref i2)) (hTO : IsPair s.heap TO a b)
    (h1 : At8 s.heap i1 xs t1 k1) (h2 : At8 s.heap i2 ys t2 k2) (hend : xs.cps[k1]? = none ∨ ys.cps[k2]? = none)
    (hQ : ∀ h' tk', (∀ c o, c ≠ z → c ≠ TO → c ≠ i1 → c ≠ i2 → s.heap.get? c = some o → h'.get? c = some o) → Q none { s with heap := h', toks := tk' }) : wpAny (model prog w) A (pyNext (.ref z)) Q E s := by
  have hT : s.TypeIs (.ref z) "zip" := ⟨_, hz, rfl⟩
  unfold pyNext
  refine wpAny_bind (wpAny_attempt (wpAny_callSpecial?_slot (name := Str.ofString "__next__") hT F.slot_zip_next
    (wpAny_call_entry F.slot_zip_next hT F.entry_zip_next (zipS_next_end hh D hz hTI hTO h1 h2 hend fun h' tk' e hk he => ?_) (F.args_zip_next_1 _))))
  obtain ⟨o, ho, hc⟩ := he
  refine wpAny_bind (wpAny_isInstance (T := "StopIteration") (b := true) ⟨o, ho, hc⟩ isSubtype_stop ?_)
  exact wpAny_pure (hQ _ _ hk)
end
abbrev zipSH1 (h : Heap) (x : Str) (t : Tok) : Heap := h.push { cls := .type "str_ascii_iterator", data := .fields #[.str x t, .int 0 0] }
abbrev zipSH2 (h : Heap) (x y : Str) (t u : Tok) : Heap := (zipSH1 h x t).push { cls := .type "str_ascii_iterator", data := .fields #[.str y u, .int 0 0] }
abbrev zipSH3 (h : Heap) (x y : Str) (t u : Tok) : Heap := (zipSH2 h x y t u).push { cls := .type "tuple", data := .seq #[.ref h.objs.size, .ref (zipSH1 h x t).objs.size] }
abbrev zipSH4 (h : Heap) (x y : Str) (t u : Tok) : Heap := (zipSH3 h x y t u).push { cls := .type "tuple", data := .seq #[.none, .none] }
abbrev zipSH5 (h : Heap) (x y : Str) (t u : Tok) : Heap := (zipSH4 h x y t u).push { cls := .type "zip", data := .fields #[.none, .bool false, .bool false, .ref (zipSH2 h x y t u).objs.size, .ref (zipSH3 h x y t u).objs.size] }
theorem meets_zipS_new (x y : Str) (t u : Tok) (hx : x.cps.all (· < 128) = true) (hy : y.cps.all (· < 128) = true) :
    Meets (Builtin.«zip.__new__» ⟨[.type "zip", .str x t, .str y u], []⟩) (fun _ R s => R (.ok (.ret (.ref (zipSH4 s.heap x y t u).objs.size))) { s with heap := zipSH5 s.heap x y t u }) :=
  .of_wp fun prog w A R s h => by
    obtain ⟨hp, g, d, tk, os⟩ := s
    have hsub := sub_zip
    wp_walk using wpAny_pyIter_ascii hx, wpAny_pyIter_ascii hy
    exact ⟨_, rfl, h⟩
section
variable {prog : Program} {w : World} {A : Around} {E : Value → Shared → Prop} {s : Shared}
theorem call_zipS {x y : Str} {t u : Tok} {Q : Value → Shared → Prop} (hx : x.cps.all (· < 128) = true) (hy : y.cps.all (· < 128) = true)
    (h : ∀ h', IsZip h' (s.heap.objs.size + 4) (s.heap.objs.size + 2) (s.heap.objs.size + 3) .none → IsPair h' (s.heap.objs.size + 2) (.ref s.heap.objs.size) (.ref (s.heap.objs.size + 1)) →
      IsPair h' (s.heap.objs.size + 3) .none .none → At8 h' s.heap.objs.size x t 0 → At8 h' (s.heap.objs.size + 1) y u 0 → h'.objs.size = s.heap.objs.size + 5 →
      (∀ c o, s.heap.get? c = some o → h'.get? c = some o) → Q (.ref (s.heap.objs.size + 4)) { s with heap := h' }) :
    wpAny (model prog w) A (call (.type "zip") [.str x t, .str y u]) Q E s := by
  refine callType_new F.called_zip (by decide) (F.typeCall_zip_2 _ _) (F.newCall_zip_2 _ _) (fun obj => F.args_object_init_3 obj _ _) F.entry_zip_new
    (meets_zipS_new x y t u hx hy) ?_
  have z1 : (zipSH1 s.heap x t).objs.size = s.heap.objs.size + 1 := Heap.size_push ..
  have z2 : (zipSH2 s.heap x y t u).objs.size = s.heap.objs.size + 2 := by rw [Heap.size_push, z1]
  have z3 : (zipSH3 s.heap x y t u).objs.size = s.heap.objs.size + 3 := by rw [Heap.size_push, z2]
  have z4 : (zipSH4 s.heap x y t u).objs.size = s.heap.objs.size + 4 := by rw [Heap.size_push, z3]
  have z5 : (zipSH5 s.heap x y t u).objs.size = s.heap.objs.size + 5 := by rw [Heap.size_push, z4]
  have g5 : (zipSH5 s.heap x y t u).get? (zipSH4 s.heap x y t u).objs.size = some _ := Heap.get?_push_size _ rfl
  have g4 : (zipSH5 s.heap x y t u).get? (zipSH3 s.heap x y t u).objs.size = some _ := Heap.get?_push_of_some _ (Heap.get?_push_size _ rfl)
  have g3 : (zipSH5 s.heap x y t u).get? (zipSH2 s.heap x y t u).objs.size = some _ := Heap.get?_push_of_some _ (Heap.get?_push_of_some _ (Heap.get?_push_size _ rfl))
  have g2 : (zipSH5 s.heap x y t u).get? (zipSH1 s.heap x t).objs.size = some _ := Heap.get?_push_of_some _ (Heap.get?_push_of_some _ (Heap.get?_push_of_some _ (Heap.get?_push_size _ rfl)))
  have g1 : (zipSH5 s.heap x y t u).get? s.heap.objs.size = some _ := Heap.get?_push_of_some _ (Heap.get?_push_of_some _ (Heap.get?_push_of_some _ (Heap.get?_push_of_some _ (Heap.get?_push_size _ rfl))))
  show _ ∧ _
  rw [z2, z3, z4] at g5
  rw [z1, z2] at g3
  rw [z3] at g4
  rw [z1] at g2
  rw [z4]
  exact ⟨⟨_, g5, rfl⟩, h _ g5 g3 g4 ⟨_, g1, rfl, rfl⟩ ⟨_, g2, rfl, rfl⟩ z5 fun c o x =>
    Heap.get?_push_of_some _ (Heap.get?_push_of_some _ (Heap.get?_push_of_some _ (Heap.get?_push_of_some _ (Heap.get?_push_of_some _ x))))⟩
end
/-- the walk: pairs of signs, as long as both have some -/
def ItzS (x y : Str) : It :=
  ⟨fun i H => i < x.cps.size ∧ i < y.cps.size,
    fun i H v H' => ∃ T c d, v = .ref T ∧ H T = none ∧ H' = upd H T (.tup [.str ⟨#[c]⟩, .str ⟨#[d]⟩]) ∧ x.cps[i]? = some c ∧ y.cps[i]? = some d,
    fun i H => x.cps.size ≤ i ∨ y.cps.size ≤ i⟩
theorem turn_zipS {P : Program} {w : World} {K : PySem.W.Frag} {elts : List Expr} {kk : Nat} {tpos : Pos} {x y : Str} {t1 t2 : Tok} {l1 l2 z TI TO i1 i2 : Addr} (D : ZipApart z TI TO i1 i2 l1 l2) :
    Turn P w K (.Tuple elts kk tpos) (ItzS x y) [z, TI, TO, i1, i2] z (fun i h => IsZip h z TI TO .none ∧ IsPair h TI (.ref i1) (.ref i2) ∧ (∃ x y, IsPair h TO x y) ∧ At8 h i1 x t1 i ∧ At8 h i2 y t2 i) where
  mem := by simp
  obj := fun i h st c hc => by
    obtain ⟨hz, hTI, ⟨x, y, hTO⟩, ⟨o1, e1, _, d1⟩, ⟨o2, e2, _, d2⟩⟩ := st
    have e' : c = z ∨ c = TI ∨ c = TO ∨ c = i1 ∨ c = i2 := by simpa using hc
    rcases e' with q | q | q | q | q
    · rw [q]; exact ⟨_, hz, fun v q => nomatch q⟩
    · rw [q]; exact ⟨_, hTI, fun v q => nomatch q⟩
    · rw [q]; exact ⟨_, hTO, fun v q => nomatch q⟩
    · rw [q]; exact ⟨o1, e1, fun v q => by rw [d1] at q; cases q⟩
    · rw [q]; exact ⟨o2, e2, fun v q => by rw [d2] at q; cases q⟩
  keep := fun i h h' st k => by
    obtain ⟨hz, hTI, ⟨x, y, hTO⟩, h1, h2⟩ := st
    exact ⟨k z (by simp) _ hz, k TI (by simp) _ hTI, ⟨x, y, k TO (by simp) _ hTO⟩, at8_at h1 fun o q => k i1 (by simp) o q, at8_at h2 fun o q => k i2 (by simp) o q⟩
  item := by
    intro X hP hw hK hc i pins s σ H E I hf st hg
    subst hP hw hK
    obtain ⟨hz, hTI, ⟨x0, y0, hTO⟩, h1, h2⟩ := st
    obtain ⟨hx, hy⟩ := hg
    obtain ⟨c1, ex⟩ : ∃ c, x.cps[i]? = some c := ⟨_, Array.getElem?_eq_getElem hx⟩
    obtain ⟨c2, ey⟩ : ∃ c, y.cps[i]? = some c := ⟨_, Array.getElem?_eq_getElem hy⟩
    have hzl : z < s.heap.objs.size := Heap.lt_size hz
    refine pyNext_zipS_item D hz hTI hTO h1 h2 ex ey fun h' u v z' TO' h1' h2' hT hsz hk => ?_
    refine ⟨_, rfl, wpAny_letOwnedTupleGo_zip (s := { s with heap := h', toks := s.toks + 2 }) z' fun h'' z'' sb => ?_⟩
    have hT2 : h''.get? s.heap.objs.size = some { cls := .type "tuple", data := .seq #[.str ⟨#[c1]⟩ u, .str ⟨#[c2]⟩ v] } := (sb.2 _ (Nat.ne_of_gt hzl)).trans hT
    have new : ObjOk X.prog X.w (upd H s.heap.objs.size (.tup [.str ⟨#[c1]⟩, .str ⟨#[c2]⟩])) h'' s.heap.objs.size (.tup [.str ⟨#[c1]⟩, .str ⟨#[c2]⟩]) :=
      ⟨by show 2 ≤ sizeLine; decide, [_, _], .cons ⟨u, rfl⟩ (.cons ⟨v, rfl⟩ .nil), ⟨_, hT2, rfl, _, rfl⟩⟩
    have I1 : Inv X pins σ (upd H s.heap.objs.size (.tup [.str ⟨#[c1]⟩, .str ⟨#[c2]⟩])) { s with heap := h'', toks := s.toks + 2 } :=
      I.turnedNew (t' := s.toks + 2) (ch := [z, TI, TO, i1, i2]) (fun c o hb q => (sb.2 c (fun q' => hb (by simp [q']))).trans (hk c o (fun q' => hb (by simp [q'])) (fun q' => hb (by simp [q'])) (fun q' => hb (by simp [q'])) (fun q' => hb (by simp [q'])) q)) hf (Nat.le_refl _) new
    refine ⟨.ref s.heap.objs.size, _, I1, rfl, ⟨_, _, _, rfl, I.hok.fresh (Nat.le_refl _), rfl, ex, ey⟩, ⟨z'', ?_, ⟨.str ⟨#[c1]⟩ u, .str ⟨#[c2]⟩ v, ?_⟩, ?_, ?_⟩, fun c hcm => ?_⟩
    · exact (sb.2 _ D.TIz).trans (hk _ _ D.TIz D.TITO D.TIi1 D.TIi2 hTI)
    · exact (sb.2 _ D.TOz).trans TO'
    · exact at8_at h1' fun o q => (sb.2 _ D.i1z).trans q
    · exact at8_at h2' fun o q => (sb.2 _ D.i2z).trans q
    · have hlt : c < s.heap.objs.size := by
        have e' : c = z ∨ c = TI ∨ c = TO ∨ c = i1 ∨ c = i2 := by simpa using hcm
        rcases e' with q | q | q | q | q
        · rw [q]; exact hzl
        · rw [q]; exact Heap.lt_size hTI
        · rw [q]; exact Heap.lt_size hTO
        · rw [q]; obtain ⟨_, e1, _⟩ := h1; exact Heap.lt_size e1
        · rw [q]; obtain ⟨_, e2, _⟩ := h2; exact Heap.lt_size e2
      rw [upd_ne (Nat.ne_of_lt hlt)]
      exact (hf c hcm).1
  done := by
    intro X hP hw hK hc i pins s σ H E I hf st hg
    subst hP hw hK
    obtain ⟨hz, hTI, ⟨x0, y0, hTO⟩, h1, h2⟩ := st
    have he : x.cps[i]? = none ∨ y.cps[i]? = none := by
      rcases hg with q | q
      · exact .inl (Array.getElem?_eq_none q)
      · exact .inr (Array.getElem?_eq_none q)
    exact pyNext_zipS_end (I.ok.hd hc) D hz hTI hTO h1 h2 he fun h' tk' hk => ⟨rfl, I.turnedL (t' := tk') (ch := [z, TI, TO, i1, i2]) (fun c o hb q =>
      hk c o (fun q' => hb (by simp [q'])) (fun q' => hb (by simp [q'])) (fun q' => hb (by simp [q'])) (fun q' => hb (by simp [q'])) q) hf⟩
  self := fun A i s Q E st h => wpAny_pyIter_zip st.1 h
section
variable {X : Cx} {σ : L2.St} {H : Hp} {e a b : Expr} {p pos tpos : Pos} {elts : List Expr} {kk : Nat}
theorem i_zipS {R : It → Hp → Prop} (B : Blt X.mg X.base) (h : wE X a σ H fun v H1 => wE X b σ H1 fun u H2 => ∃ x y : Str, v = .str x ∧ u = .str y ∧ x.cps.all (· < 128) = true ∧ y.cps.all (· < 128) = true ∧ R (ItzS x y) H2) (hg : Gl X "zip" := by rfl)
    (hs : starEach [a, b] X.env = (false, eval a X.env) :: starEach [b] X.env := by rfl) (hs2 : starEach [b] X.env = [(false, eval b X.env)] := by rfl) :
    wI X (.Tuple elts kk tpos) (.Call (.Name "zip" p) [a, b] [] pos) σ H R := by
  have ha : wA X [a, b] σ H fun vs H2 => ∃ x y : Str, vs = [.str x, .str y] ∧ x.cps.all (· < 128) = true ∧ y.cps.all (· < 128) = true ∧ R (ItzS x y) H2 :=
    a_cons (wE_mono h fun v H1 q => a_cons (wE_mono q fun u H2 ⟨x, y, e1, e2, r⟩ => a_nil ⟨x, y, by rw [e1, e2], r⟩) hs2) hs
  refine ⟨fun pins s I => ?_⟩
  refine Call_ (ld_blt I hg B.zip PyProof.Rows.boot_zip (PyProof.Rows.callWith_type1 (thn (ha.run pos pins _ I) fun us s1 ⟨vs, H1, I1, r1, q1⟩ => ?_) hs (by rw [hs2]; rfl)))
  obtain ⟨x, y, ex, hx, hy, q⟩ := q1
  subst ex
  obtain ⟨u1, u2, rfl, ⟨t1, rfl⟩, ⟨t2, rfl⟩⟩ := vals2 r1
  have fresh5 : ∀ c, c ∈ [s1.heap.objs.size + 4, s1.heap.objs.size + 2, s1.heap.objs.size + 3, s1.heap.objs.size, s1.heap.objs.size + 1] → FpOk X pins H1 c := fun c hcm => by
    have e' : c = s1.heap.objs.size + 4 ∨ c = s1.heap.objs.size + 2 ∨ c = s1.heap.objs.size + 3 ∨ c = s1.heap.objs.size ∨ c = s1.heap.objs.size + 1 := by simpa using hcm
    have hle : s1.heap.objs.size ≤ c := by
      rcases e' with z | z | z | z | z
      · rw [z]; exact Nat.le_add_right _ _
      · rw [z]; exact Nat.le_add_right _ _
      · rw [z]; exact Nat.le_add_right _ _
      · rw [z]; exact Nat.le_refl _
      · rw [z]; exact Nat.le_add_right _ _
    exact I1.fpOk hle (I1.hok.fresh hle)
  obtain ⟨m, ⟨oL, _, _, hoL, _⟩, _⟩ := id I1.loc
  refine call_zipS hx hy fun h' hz hTI hTO h1 h2 hsz hk => wpAny_pyIter_zip hz ?_
  have I2 : Inv X pins σ H1 { s1 with heap := h' } := I1.kept (t' := s1.toks) hk
  exact ⟨s1.heap.objs.size + 4, [s1.heap.objs.size + 4, s1.heap.objs.size + 2, s1.heap.objs.size + 3, s1.heap.objs.size, s1.heap.objs.size + 1], _, _, H1, rfl, I2, turn_zipS (PySem.W.ktu_apart s1.heap.objs.size _ _ (Heap.lt_size hoL) (Heap.lt_size hoL)), ⟨hz, hTI, ⟨_, _, hTO⟩, h1, h2⟩, fresh5, q⟩
end
theorem walk_zipS {x y : Str} {n : Nat} (hn : n = min x.cps.size y.cps.size) : Walk (ItzS x y) n (fun _ => True) (fun i H v H' => ∃ T c d, v = .ref T ∧ H T = none ∧ H' = upd H T (.tup [.str ⟨#[c]⟩, .str ⟨#[d]⟩]) ∧ x.cps[i]? = some c ∧ y.cps[i]? = some d) := by
  subst hn
  exact ⟨fun i _ hi _ => ⟨by omega, by omega⟩, fun _ _ => by show _ ∨ _; omega, fun _ _ _ _ _ _ y => y⟩
end Z

set_option Elab.async false
set_option linter.all false
set_option maxRecDepth 100000
set_option maxHeartbeats 4000000
/-! rules by value, slices, methods -/
namespace Z
open PySem PySem.Spec PyProof.Rows L2
section
variable {X : Cx} {k : Nat} {W : WX} {σ : L2.St} {H : Hp} {e a b o : Expr} {es : List Expr} {p p2 pos : Pos} {Q : VK}
theorem o_add {i j : Int} (q : Q (.int (i + j)) H) : oW X (binaryOp .Add) (.int i) (.int j) H Q := oW_of op_add ⟨i, j, rfl, rfl, q⟩
theorem o_sub {i j : Int} (q : Q (.int (i - j)) H) : oW X (binaryOp .Sub) (.int i) (.int j) H Q := oW_of op_sub ⟨i, j, rfl, rfl, q⟩
theorem o_mul {i j : Int} (h : CMul i j) (q : Q (.int (i * j)) H) : oW X (binaryOp .Mult) (.int i) (.int j) H Q := oW_of op_mul ⟨i, j, rfl, rfl, h, q⟩
theorem o_div {i j : Int} (h : CDiv i j) (q : Q (.int (i / j)) H) : oW X (binaryOp .FloorDiv) (.int i) (.int j) H Q := oW_of op_fdiv ⟨i, j, rfl, rfl, h, q⟩
theorem o_mod {i j : Int} (h : 0 < j) (q : Q (.int (i % j)) H) : oW X (binaryOp .Mod) (.int i) (.int j) H Q := oW_of op_mod ⟨i, j, rfl, rfl, h, q⟩
theorem o_pow {i j : Int} (h : CPow i j) (q : Q (.int (i ^ j.toNat)) H) : oW X (binaryOp .Pow) (.int i) (.int j) H Q := oW_of op_pow ⟨i, j, rfl, rfl, h, q⟩
theorem o_adds {i j : Str} (h : i.length + j.length ≤ sizeLine) (q : Q (.str (i ++ j)) H) : oW X (binaryOp .Add) (.str i) (.str j) H Q := oW_of op_add_str ⟨i, j, rfl, rfl, h, q⟩
theorem u_neg {i : Int} (q : Q (.int (-i)) H) : uW X (unaryOp .USub) (.int i) H Q := uW_of un_neg ⟨i, rfl, q⟩
theorem c_lt {i j : Int} (q : Q (.bl (decide (i < j))) H) : oW X (compareOp .Lt) (.int i) (.int j) H Q := oW_of op_lt ⟨i, j, rfl, rfl, q⟩
theorem c_le {i j : Int} (q : Q (.bl (decide (i ≤ j))) H) : oW X (compareOp .LtE) (.int i) (.int j) H Q := oW_of op_le ⟨i, j, rfl, rfl, q⟩
theorem c_gt {i j : Int} (q : Q (.bl (decide (j < i))) H) : oW X (compareOp .Gt) (.int i) (.int j) H Q := oW_of op_gt ⟨i, j, rfl, rfl, q⟩
theorem c_ge {i j : Int} (q : Q (.bl (decide (j ≤ i))) H) : oW X (compareOp .GtE) (.int i) (.int j) H Q := oW_of op_ge ⟨i, j, rfl, rfl, q⟩
theorem c_eq {x y : V} (h : scal x y = true) (q : Q (.bl (decide (x = y))) H) : oW X (compareOp .Eq) x y H Q := oW_of op_eq ⟨h, q⟩
theorem c_ne {x y : V} (h : scal x y = true) (q : Q (.bl (!decide (x = y))) H) : oW X (compareOp .NotEq) x y H Q := oW_of op_ne ⟨h, q⟩
theorem c_isN {x : V} (q : Q (.bl (decide (x = .non))) H) : oW X (compareOp .Is) x .non H Q := oW_of op_isN ⟨rfl, q⟩
theorem c_notN {x : V} (q : Q (.bl (!decide (x = .non))) H) : oW X (compareOp .IsNot) x .non H Q := oW_of op_notN ⟨rfl, q⟩
theorem c_ltS {i j : Str} (q : Q (.bl (decide (i.cps.toList < j.cps.toList))) H) : oW X (compareOp .Lt) (.str i) (.str j) H Q := oW_of op_lt_str ⟨i, j, rfl, rfl, q⟩
theorem c_inSign {c : Nat} {z : Str} (q : Q (.bl (decide (c ∈ z.cps.toList))) H) : oW X (compareOp .In) (.str ⟨#[c]⟩) (.str z) H Q := oW_of op_in_sign ⟨c, z, rfl, rfl, q⟩
theorem c_inL {x : V} {q : Addr} {xs : List V} (hq : SqL X.K H q xs ∨ SqT X.K H q xs) (fx : flatV x = true) (fs : xs.all flatV = true) (h : Q (.bl (inV x xs)) H) : oW X (compareOp .In) x (.ref q) H Q := oW_of op_in_seq ⟨q, xs, rfl, hq, fx, fs, by exact h⟩
theorem c_notInL {x : V} {q : Addr} {xs : List V} (hq : SqL X.K H q xs ∨ SqT X.K H q xs) (fx : flatV x = true) (fs : xs.all flatV = true) (h : Q (.bl (!inV x xs)) H) : oW X (compareOp .NotIn) x (.ref q) H Q := oW_of op_notIn_seq ⟨q, xs, rfl, hq, fx, fs, by exact h⟩

/-- the part of a slice -/
def wO (X : Cx) (e : Option Expr) : L2.TO := match e with | none => tNoPart | some e => tPart (wE X e)
theorem pO {e : Option Expr} : PO X e (wO X e) := match e with | none => po_none | some _ => po_some pE
theorem e_slice {r : V → Option Int → Option Int → Hp → VK → Prop} {lo hi : Option Expr} (hr : SlR X r) (h : wE X e σ H fun x H1 => wO X lo σ H1 fun l H2 => wO X hi σ H2 fun u H3 => r x l u H3 Q) : wE X (.Subscript e (.Slice lo hi none p2) pos) σ H Q :=
  eE (pe_slice hr pE pO pO) h
theorem p_none {R : Option Int → Hp → Prop} (h : R none H) : wO X none σ H R := h
theorem p_some {R : Option Int → Hp → Prop} (h : wE X e σ H fun x H1 => ∃ i, x = .int i ∧ R (some i) H1) : wO X (some e) σ H R := h
/-- "..".join(xs) -/
theorem e_join {apos : Pos} (h : wE X o σ H fun x H1 => ∃ s : Str, x = .str s ∧ wE X a σ H1 fun y H2 => ∃ q, ∃ ys : List Str, y = .ref q ∧ (SqL X.K H2 q (ys.map V.str) ∨ SqT X.K H2 q (ys.map V.str)) ∧ (ys.map (·.length)).sum + ys.length * s.length ≤ 16777216 ∧ Q (.str (Txt.join s ys)) H2)
    (hs : starEach [a] X.env = [(false, eval a X.env)] := by rfl) (hbase : attributeBase o "join" X.env (eval o X.env) = eval o X.env := by rfl) (hline : (apos.endLine == pos.line) = true := by rfl) : wE X (.Call (.Attribute o "join" apos) [a] [] pos) σ H Q :=
  eE (pe_join pE pE hs hbase hline) (wE_mono h fun x H1 ⟨s, e1, h1⟩ => ⟨⟨s, e1⟩, wE_mono h1 fun y H2 ⟨q, ys, e2, h2, h3, h4⟩ => ⟨s, q, ys, e1, by rw [e2], h2, h3, h4⟩⟩)
/-- xs.append(v) -/
theorem e_append {apos : Pos} (h : wE X o σ H fun x H1 => ∃ q, x = .ref q ∧ (∃ ys, H1 q = some (.lst ys)) ∧ wE X a σ H1 fun y H2 => ∃ xs, H2 q = some (.lst xs) ∧ xs.length < sizeLine ∧ Q .non (upd H2 q (.lst (xs ++ [y]))))
    (hs : starEach [a] X.env = [(false, eval a X.env)] := by rfl) (hbase : attributeBase o "append" X.env (eval o X.env) = eval o X.env := by rfl) (hline : (apos.endLine == pos.line) = true := by rfl)
    (hfew : ((backTo pos (starEach [a] X.env)).all (fun x => !x.1) && (backToKw pos (keywordEach [] X.env)).all (fun x => x.1.isSome) && decide (([a] : List Expr).length + ([] : List Keyword).length + (if ([] : List Keyword).isEmpty then 0 else 1) < 30)) = true := by rfl) :
    wE X (.Call (.Attribute o "append" apos) [a] [] pos) σ H Q :=
  eE (pe_bm PySem.F.plainAttrs_list PySem.F.slot_list_append PySem.F.type_list_append mt_append pE pA hbase hfew hline (by rw [hs]; rfl) rfl)
    (wE_mono h fun x H1 ⟨q, e1, ⟨ys, h0⟩, h1⟩ => ⟨by rw [e1]; exact .inl ⟨rfl, ys, .inl (.inl h0)⟩, a_cons (wE_mono h1 fun y H2 ⟨xs, h2, h3, h4⟩ => a_nil ⟨q, xs, y, e1, rfl, h2, h3, h4⟩) (by rw [hs]; rfl)⟩)
end
end Z

set_option Elab.async false
set_option linter.all false
set_option maxRecDepth 100000
set_option maxHeartbeats 4000000
/-! comprehensions that only read -/
namespace Z
open PySem PySem.Spec PyProof.Rows L2
section
variable {X : Cx} {k : Nat} {W : WX} {σ : L2.St} {H : Hp} {pos : Pos} {Q : VK} {elt tg iter : Expr} {scope : Scope}
/-- one turn that only reads: the item x, the heap H; the target is bound, the element told -/
def MapTurn (X : Cx) (scope : Scope) (vs : List Nat) (tg elt : Expr) (σ : L2.St) (x : V) (H : Hp) (R : V → Prop) : Prop :=
  wGb X scope tg x (wipe σ vs) H fun σ2 H2 => wipe σ2 vs = wipe σ vs ∧ But [] H H2 ∧ wEb X scope elt σ2 H2 fun v H4 => R v ∧ But [] H2 H4
theorem lcM_core {J : It} {n : Nat} {G : Hp → Prop} {Y : Nat → Hp → V → Hp → Prop} {own : List (Str × Nat)} {H1 : Hp} {ys : List V} (w : Walk J n G Y) (hn : ys.length = n) (hz : n ≤ sizeLine) (hG : ∀ H', But [] H1 H' → G H')
    (ht : ∀ i x H2 H', i < n → But [] H1 H2 → Y i H2 x H' → But [] H2 H' ∧ MapTurn X scope (own.map (·.2)) tg elt σ x H' fun v => ys[i]? = some v) {Qd : Addr → Hp → Prop}
    (hq : ∀ D H', But [] H1 H' → H1 D = none → H' D = some (.lst ys) → Qd D H') : ∀ D, H1 D = none → ∃ Pv : Nat → Hp → Prop, Pv 0 (upd H1 D (.lst [])) ∧ (∀ i H, i ≤ n → Pv i H → G H) ∧
      (∀ i x H H', i < n → Pv i H → Y i H x H' → LcTurn X scope (own.map (·.2)) tg [] elt σ D x H' (Pv (i + 1))) ∧ ∀ H, Pv n H → Qd D H := by
  intro D hD
  refine ⟨fun i H' => But [] H1 H' ∧ H' D = some (.lst (ys.take i)), ⟨But.new hD, by rw [upd_same]; rfl⟩, fun i H' _ h => hG H' h.1, ?_, fun H' h => hq D H' h.1 hD (by rw [h.2, ← hn, List.take_length])⟩
  intro i x H2 H' hi hP hY
  obtain ⟨hb, hm⟩ := ht i x H2 H' hi hP.1 hY
  intro s H0 C cl fp
  refine ⟨fun pins s2 u I r => thn ((hm s H0 C cl fp).run pins s2 u I r) fun _ s3 h3 => ?_⟩
  obtain ⟨σ', H3, I3, e1, b3, h3⟩ := h3
  refine ⟨σ', H3, I3, e1, fun s H0 C cl fp => eIf pts_nil ?_⟩
  intro s H0 C cl fp
  refine wE_mono (h3 s H0 C cl fp) fun v H4 ⟨hv, b4⟩ => ?_
  have hD4 : H4 D = some (.lst (ys.take i)) := b4 _ _ (by simp) (b3 _ _ (by simp) (hb _ _ (by simp) hP.2))
  refine ⟨_, hD4, by have := List.length_take_le i ys; rw [List.length_take]; omega, ?_, ?_⟩
  · refine fun q o _ e => ?_
    have ne : q ≠ D := ne_of_none e hD
    rw [upd_ne ne]
    exact b4 _ _ (by simp) (b3 _ _ (by simp) (hb _ _ (by simp) (hP.1 _ _ (by simp) e)))
  · rw [upd_same, List.take_add_one, hv]
    rfl
theorem e_lcM (own : List (Str × Nat)) (C : Cxt X k W)
    (h : wI X tg iter σ H fun J H1 => ∃ n G Y ys, Walk J n G Y ∧ ys.length = n ∧ n ≤ sizeLine ∧ (∀ H', But [] H1 H' → G H') ∧
      (∀ i x H2 H', i < n → But [] H1 H2 → Y i H2 x H' → But [] H2 H' ∧ MapTurn X scope (own.map (·.2)) tg elt σ x H' fun v => ys[i]? = some v) ∧
      ∀ D H', But [] H1 H' → H1 D = none → H' D = some (.lst ys) → Q (.ref D) H')
    (ok : BlkOk X.N X.env.scope scope own := by exact blkOk_by (by first | rfl | kernel_rfl)) (hs : ∀ x, foldedSetIterable iter X.env x = pure x := by intro _; rfl) :
    wE X (.ListComp elt [⟨tg, iter, [], 0⟩] scope pos) σ H Q :=
  e_lc own C (wI_mono h fun J H1 ⟨n, G, Y, ys, w, h1, h2, h3, h4, h5⟩ => ⟨n, G, Y, w, lcM_core w h1 h2 h3 h4 h5⟩) ok hs
/-- the target is a name -/
theorem mt_name {i : Nat} {y : Str} {p : Pos} {vs : List Nat} {x : V} {R : V → Prop} (hN : X.N.Nodup)
    (h : wEb X scope elt ((wipe σ vs).set i (some x)) H fun v H4 => R v ∧ But [] H H4) (hw : wipe ((wipe σ vs).set i (some x)) vs = wipe σ vs := by rfl) (hi : X.N[i]? = some y := by rfl)
    (hx : Loc (relS scope X.env.scope) y := by first | exact Or.inl rfl | exact Or.inr rfl) (hf : (scope.names.lookup y == some .cell) = true ∨ (relS scope X.env.scope).names.lookup y = some .local := by first | exact .inl rfl | exact .inr rfl) :
    MapTurn X scope vs (.Name y p) elt σ x H R := by
  intro s H0 C cl fp
  exact g_name (i := i) ⟨hw, But.refl, h⟩ hN hi hx hf
/-- the target is a pair of names -/
theorem mt_pair {i j : Nat} {y z : Str} {p p' pt : Pos} {kt} {vs : List Nat} {q : Addr} {u v : V} {R : V → Prop} (hc : X.calm = true) (hN : X.N.Nodup) (hq : H q = some (.tup [u, v]))
    (h : wEb X scope elt (((wipe σ vs).set i (some u)).set j (some v)) H fun v H4 => R v ∧ But [] H H4) (hw : wipe (((wipe σ vs).set i (some u)).set j (some v)) vs = wipe σ vs := by rfl) (hi : X.N[i]? = some y := by rfl) (hj : X.N[j]? = some z := by rfl)
    (hx : Loc (relS scope X.env.scope) y := by first | exact Or.inl rfl | exact Or.inr rfl) (hf : (scope.names.lookup y == some .cell) = true ∨ (relS scope X.env.scope).names.lookup y = some .local := by first | exact .inl rfl | exact .inr rfl)
    (hx2 : Loc (relS scope X.env.scope) z := by first | exact Or.inl rfl | exact Or.inr rfl) (hf2 : (scope.names.lookup z == some .cell) = true ∨ (relS scope X.env.scope).names.lookup z = some .local := by first | exact .inl rfl | exact .inr rfl) :
    MapTurn X scope vs (.Tuple [.Name y p, .Name z p'] kt pt) elt σ (.ref q) H R := by
  intro s H0 C cl fp
  refine g_tup (gs_cons (g_name (i := i) (gs_cons (g_name (i := j) (gs_nil ⟨hw, But.refl, h⟩) hN hj hx2 hf2)) hN hi hx hf)) hc (.inl (.inl hq))
/-- if c: u else: v, where the test only reads -/
theorem s_ifB {c : Expr} {u v : List Stmt} {D : Ends} (b : Bool) (ht : wT X c σ H fun x H1 => x = b ∧ But [] H H1) (h1 : b = true → ∀ H1, But [] H H1 → wB X u D σ H1) (h2 : b = false → ∀ H1, But [] H H1 → wB X v D σ H1) : wS X (.If c u v pos) D σ H :=
  s_if (wT_mono ht fun x H1 ⟨e, k⟩ => by
    subst e
    split
    · rename_i e
      exact h1 e H1 k
    · rename_i e
      exact h2 (by simpa using e) H1 k)
theorem ite_b {p q : Prop} {b : Bool} (h1 : b = true → p) (h2 : b = false → q) : if b = true then p else q := by
  cases b with
  | true => exact h1 rfl
  | false => exact h2 rfl
end
end Z

/-! plain: a text in pieces -/
set_option Elab.async false
set_option linter.all false
namespace Z
open PySem PySem.Spec PyProof.Rows L2 TL
def sOf (l : List Nat) : Str := ⟨l.toArray⟩
theorem sOf_list {l : List Nat} : (sOf l).cps.toList = l := by simp [sOf]
theorem sOf_len {l : List Nat} : (sOf l).length = l.length := by show (sOf l).cps.size = _; simp [sOf]
theorem sOf_str (x : Str) : sOf x.cps.toList = x := by cases x; simp [sOf]
theorem str_ext {x y : Str} (h : x.cps.toList = y.cps.toList) : x = y := by rw [← sOf_str x, ← sOf_str y, h]
def chunks (l : List Nat) (n : Nat) : List (List Nat) := if l.length ≤ n then [l] else (List.range ((l.length + n - 1) / n)).map fun i => (l.drop (i * n)).take n
theorem chunk_flat (l : List Nat) (n : Nat) : ∀ m, ((List.range m).map fun i => (l.drop (i * n)).take n).flatten = l.take (m * n)
  | 0 => by simp
  | m + 1 => by
    rw [List.range_succ, List.map_append, List.flatten_append, chunk_flat l n m]
    simp only [List.map_cons, List.map_nil, List.flatten_cons, List.flatten_nil, List.append_nil]
    rw [Nat.add_mul, Nat.one_mul, List.take_add]
theorem up_div {a n : Nat} (hn : 0 < n) : a ≤ (a + n - 1) / n * n := by
  have h := Nat.lt_div_mul_add hn (a := a + n - 1)
  omega
theorem chunks_flatten (l : List Nat) {n : Nat} (hn : 0 < n) : (chunks l n).flatten = l := by
  unfold chunks
  split
  · simp
  · rw [chunk_flat, List.take_of_length_le (up_div hn)]
theorem chunks_length (l : List Nat) {n : Nat} (hn : 0 < n) : (chunks l n).length = max 1 ((l.length + n - 1) / n) := by
  unfold chunks
  split
  · rename_i h
    have : (l.length + n - 1) / n ≤ 1 := by
      rw [← Nat.lt_succ_iff, Nat.div_lt_iff_lt_mul hn]
      omega
    simp only [List.length_singleton]
    omega
  · rename_i h
    rw [List.length_map, List.length_range]
    have : 1 ≤ (l.length + n - 1) / n := by
      rw [Nat.le_div_iff_mul_le hn]
      omega
    omega
theorem chunks_last (l : List Nat) {n : Nat} (hn : 0 < n) : ∀ p ∈ (chunks l n).getLast?, p.length ≤ n := by
  unfold chunks
  split
  · simp_all
  · intro p hp
    obtain ⟨i, hi⟩ : ∃ i, p = (l.drop (i * n)).take n := by
      have := List.mem_of_getLast? hp
      obtain ⟨i, _, e⟩ := List.mem_map.mp this
      exact ⟨i, e.symm⟩
    rw [hi]
    exact List.length_take_le _ _
theorem chunks_each (l : List Nat) {n : Nat} (hn : 0 < n) : ∀ p ∈ chunks l n, p.length ≤ n := by
  unfold chunks
  split
  · simp_all
  · intro p hp
    obtain ⟨i, _, e⟩ := List.mem_map.mp hp
    rw [← e]
    exact List.length_take_le _ _
theorem chunks_init (l : List Nat) {n : Nat} (hn : 0 < n) : ∀ p ∈ (chunks l n).dropLast, p.length = n := by
  unfold chunks
  split
  · simp
  · rename_i h
    intro p hp
    rw [← List.map_dropLast] at hp
    obtain ⟨i, hi, e⟩ := List.mem_map.mp hp
    have hi2 : i + 1 < (l.length + n - 1) / n := by
      obtain ⟨j, hj, ej⟩ := List.getElem_of_mem hi
      rw [List.getElem_dropLast, List.getElem_range] at ej
      rw [List.length_dropLast, List.length_range] at hj
      omega
    have : (i + 2) * n ≤ l.length + n - 1 := by
      rw [← Nat.le_div_iff_mul_le hn]
      omega
    rw [← e, List.length_take, List.length_drop]
    have e2 : (i + 2) * n = i * n + 2 * n := Nat.add_mul i 2 n
    omega
theorem chunks_ne (l : List Nat) {n : Nat} (hn : 0 < n) (hl : l ≠ []) : ∀ p ∈ chunks l n, p ≠ [] := by
  intro p hp hp0
  unfold chunks at hp
  split at hp
  · simp at hp
    exact hl (hp ▸ hp0)
  · obtain ⟨i, hi, e⟩ := List.mem_map.mp hp
    rw [List.mem_range, Nat.lt_iff_add_one_le, Nat.le_div_iff_mul_le hn, Nat.add_mul, Nat.one_mul] at hi
    have h2 : ((l.drop (i * n)).take n).length = 0 := by rw [e, hp0]; rfl
    rw [List.length_take, List.length_drop] at h2
    omega
theorem joinL_nil : ∀ ps : List (List Nat), joinL [] ps = ps.flatten
  | [] => rfl
  | [p] => by simp [joinL]
  | p :: q :: r => by
    have := joinL_nil (q :: r)
    simp only [joinL, List.nil_append, this, List.flatten_cons]
theorem join_nil (ls : List (List Nat)) : Txt.join "" (ls.map sOf) = sOf ls.flatten := by
  apply str_ext
  rw [sOf_list, join_eq]
  have := tl_join "" (ls.map sOf)
  show tl _ = _
  rw [this, List.map_map]
  have e1 : tl "" = [] := rfl
  have e2 : tl ∘ sOf = id := by
    funext l
    exact sOf_list
  rw [e1, joinL_nil, e2, List.map_id]
end Z

set_option Elab.async false
set_option linter.all false
set_option maxRecDepth 100000
set_option maxHeartbeats 4000000
/-! plain: what can be shown -/
namespace Z
open PySem PySem.Spec PyProof.Rows L2 TL
/-- small enough to be shown -/
def rp (d : PyData) : Bool := d.showable && decide (d.depth ≤ 64) && d.leavesShort 40 && decide (d.weight ≤ 300000)
theorem rp_len {d : PyData} (h : rp d = true) : d.showable = true ∧ d.depth ≤ 64 ∧ d.shown.length ≤ sizeLine := by
  simp only [rp, Bool.and_eq_true, decide_eq_true_eq] at h
  have h2 := PyData.shown_le 40 (by decide) d h.1.2
  refine ⟨h.1.1.1, h.1.1.2, ?_⟩
  rw [sizeLine_eq]
  omega
theorem weight_strs : ∀ ys : List Str, PyData.weightAll (ys.map PyData.str) = (ys.map (·.length)).sum + ys.length
  | [] => rfl
  | y :: ys => by
    have := weight_strs ys
    simp only [List.map_cons, PyData.weightAll, List.sum_cons, List.length_cons, PyData.weight, this]
    show y.cps.size + 1 + _ = y.cps.size + _ + _
    omega
theorem depth_strs : ∀ ys : List Str, PyData.depthAll (ys.map PyData.str) ≤ 1
  | [] => by simp [PyData.depthAll]
  | y :: ys => by
    have := depth_strs ys
    simp only [List.map_cons, PyData.depthAll, PyData.depth]
    omega
theorem showable_strs : ∀ ys : List Str, PyData.showableAll (ys.map PyData.str) = true
  | [] => rfl
  | y :: ys => by simp [PyData.showableAll, PyData.showable, showable_strs ys]
theorem leaves_strs : ∀ ys : List Str, (∀ y ∈ ys, ∀ c ∈ y.cps.toList, c < 4294967296) → PyData.leavesShortAll 40 (ys.map PyData.str) = true
  | [], _ => rfl
  | y :: ys, h => by
    simp only [List.map_cons, PyData.leavesShortAll, PyData.leavesShort, leaves_strs ys (fun z hz => h z (by simp [hz])), Bool.and_true, List.all_eq_true, decide_eq_true_eq]
    intro c hc
    exact h y (by simp) c hc
theorem rp_strs {ys : List Str} (hs : (ys.map (·.length)).sum + ys.length ≤ 300000) (hc : ∀ y ∈ ys, ∀ c ∈ y.cps.toList, c < 4294967296) : rp (.list (ys.map PyData.str)) = true := by
  have := depth_strs ys
  have e1 : (PyData.list (ys.map PyData.str)).depth ≤ 64 := by simp only [PyData.depth]; omega
  have e2 : (PyData.list (ys.map PyData.str)).weight ≤ 300000 := by simp only [PyData.weight, weight_strs]; omega
  have e3 : (PyData.list (ys.map PyData.str)).showable = true := by simp only [PyData.showable, showable_strs]
  have e4 : (PyData.list (ys.map PyData.str)).leavesShort 40 = true := by simp only [PyData.leavesShort, leaves_strs ys hc]
  rw [rp, e3, e4, decide_eq_true e1, decide_eq_true e2]
  rfl
theorem rp_str {y : Str} (hs : y.length ≤ 300000) (hc : ∀ c ∈ y.cps.toList, c < 4294967296) : rp (.str y) = true := by
  have e1 : (PyData.str y).depth ≤ 64 := by simp only [PyData.depth]; omega
  have e2 : (PyData.str y).weight ≤ 300000 := by simp only [PyData.weight]; exact hs
  have e3 : (PyData.str y).showable = true := by simp only [PyData.showable]
  have e4 : (PyData.str y).leavesShort 40 = true := by simp only [PyData.leavesShort, List.all_eq_true, decide_eq_true_eq]; exact fun c h => hc c h
  rw [rp, e3, e4, decide_eq_true e1, decide_eq_true e2]
  rfl
section
variable {X : Cx} {k : Nat} {W : WX} {σ : L2.St} {H : Hp} {a : Expr} {p pos : Pos} {Q : VK}
theorem e_rep (B : Blt X.mg X.base) (hg : X.A.guards = some []) (hu : X.A.units + 66 < cLine) (h : wE X a σ H fun v H1 => ∃ l d, DD X.K l H1 v d ∧ rp d = true ∧ Q (.str d.shown) H1) (hgl : Gl X "repr" := by rfl) (hs : starEach [a] X.env = [(false, eval a X.env)] := by rfl) :
    wE X (.Call (.Name "repr" p) [a] [] pos) σ H Q :=
  e_repr B hg hu (wE_mono h fun v H1 ⟨l, d, h1, h2, q⟩ => ⟨l, d, h1, (rp_len h2).1, (rp_len h2).2.1, (rp_len h2).2.2, q⟩) hgl hs
theorem vals_rev : ∀ {vs : List V} {us : List Value}, Vals vs us → Vals vs.reverse us.reverse
  | _, _, .nil => .nil
  | _, _, .cons r h => by
    rw [List.reverse_cons, List.reverse_cons]
    exact (vals_rev h).append (.cons r .nil)
end
end Z

set_option Elab.async false
set_option linter.all false
set_option maxRecDepth 100000
set_option maxHeartbeats 4000000
/-! literals of data; what stays across the making of lambdas -/
namespace Z
open PySem PySem.Spec PyProof.Rows L2 LamX
section
variable {X : Cx} {σ : L2.St} {l : List Addr} {H : Hp} {e a b : Expr} {es : List Expr}
theorem wA_mono {Q Q' : List V → Hp → Prop} (h : wA X es σ H Q) (k : ∀ v H', Q v H' → Q' v H') : wA X es σ H Q' := ⟨fun pos pins s I => thn (h.run pos pins s I) fun _ _ ⟨v, H', I', r, q⟩ => ⟨v, H', I', r, k v H' q⟩⟩
theorem DDs.mem {K : PySem.W.Frag} : ∀ {vs : List V} {ds : List PyData} {v : V}, DDs K l H vs ds → v ∈ vs → ∃ d ∈ ds, DD K l H v d
  | _, _, _, .nil, h => by simp at h
  | _, _, _, .cons h r, e => by
    rcases List.mem_cons.mp e with e | e
    · subst e
      exact ⟨_, by simp, h⟩
    · obtain ⟨d, hd, h'⟩ := DDs.mem r e
      exact ⟨d, by simp [hd], h'⟩
section
variable {K : PySem.W.Frag}
/-- e is told as the datum d, whatever is added to the heap; nothing of it lies at l -/
def Lit (K : PySem.W.Frag) (X : Cx) (l : List Addr) (σ : L2.St) (H : Hp) (e : Expr) (d : PyData) : Prop := ∀ H1, But [] H H1 → wE X e σ H1 fun v H2 => But [] H1 H2 ∧ DD K l H2 v d
def Lits (K : PySem.W.Frag) (X : Cx) (l : List Addr) (σ : L2.St) (H : Hp) (es : List Expr) (ds : List PyData) : Prop := ∀ H1, But [] H H1 → wA X es σ H1 fun vs H2 => But [] H1 H2 ∧ DDs K l H2 vs ds
/-- what stands at l is there -/
def Here (l : List Addr) (H : Hp) : Prop := ∀ q ∈ l, ∃ o, H q = some o
theorem Here.new {p : Addr} {H1 : Hp} (h : Here l H) (b : But [] H H1) (n : H1 p = none) : p ∉ l := fun z => by
  obtain ⟨o, e⟩ := h p z
  rw [b _ _ (by simp) e] at n
  cases n
theorem lit_none {j} {pos : Pos} : Lit K X l σ H (.Constant .none j pos) .none := fun _ _ => e_none ⟨But.refl, .non⟩
theorem lit_int {i : Int} {j} {pos : Pos} : Lit K X l σ H (.Constant (.int i) j pos) (.int i) := fun _ _ => e_int ⟨But.refl, .int i⟩
theorem lit_str {x : Str} {j} {pos : Pos} : Lit K X l σ H (.Constant (.str x) j pos) (.str x) := fun _ _ => e_str ⟨But.refl, .str x⟩
theorem lit_bool {b : Bool} {j} {pos : Pos} : Lit K X l σ H (.Constant (.bool b) j pos) (.bool b) := fun _ _ => e_bool ⟨But.refl, .bl b⟩
theorem lit_neg {i : Int} {j} {pos p2 : Pos} : Lit K X l σ H (.UnaryOp .USub (.Constant (.int i) j pos) p2) (.int (-i)) := fun _ _ => e_un (e_int (u_neg ⟨But.refl, .int _⟩))
theorem lit_pow {i k : Int} {j j'} {pos p2 p3 : Pos} (h : CPow i k) : Lit K X l σ H (.BinOp (.Constant (.int i) j pos) .Pow (.Constant (.int k) j' p2) p3) (.int (i ^ k.toNat)) := fun _ _ => e_bin (e_int (e_int (o_pow h ⟨But.refl, .int _⟩)))
theorem lits_nil : Lits K X l σ H [] [] := fun _ _ => a_nil ⟨But.refl, .nil⟩
theorem lits_cons {d : PyData} {ds : List PyData} (h : Lit K X l σ H e d) (r : Lits K X l σ H es ds) (hs : starEach (e :: es) X.env = (false, eval e X.env) :: starEach es X.env := by rfl) : Lits K X l σ H (e :: es) (d :: ds) := fun H1 b1 =>
  a_cons (wE_mono (h H1 b1) fun v H2 ⟨b2, h2⟩ => wA_mono (r H2 (b1.trans b2)) fun vs H3 ⟨b3, h3⟩ => ⟨b2.trans b3, .cons (h2.but b3.of) h3⟩) hs
theorem lit_lst {ds : List PyData} {pos : Pos} (hl : Here l H) (r : Lits K X l σ H es ds) (hn : ds.length ≤ 16777216 := by decide) : Lit K X l σ H (.List es pos) (.list ds) := fun H1 b1 =>
  e_lst (wA_mono (r H1 b1) fun vs H2 ⟨b2, h2⟩ => ⟨by rw [h2.length, sizeLine_eq]; exact hn, fun p hp => ⟨b2.trans (But.new hp), .lst (.inl (.inl upd_same)) (hl.new (b1.trans b2) hp) (h2.but (But.new hp))⟩⟩)
theorem lit_tup {ds : List PyData} {x1} {pos : Pos} (hl : Here l H) (r : Lits K X l σ H es ds) (hn : ds.length ≤ 16777216 := by decide) : Lit K X l σ H (.Tuple es x1 pos) (.tuple ds) := fun H1 b1 =>
  e_tup (wA_mono (r H1 b1) fun vs H2 ⟨b2, h2⟩ => ⟨by rw [h2.length, sizeLine_eq]; exact hn, fun p hp => ⟨b2.trans (But.new hp), .tup (.inl (.inl upd_same)) (hl.new (b1.trans b2) hp) (h2.but (But.new hp))⟩⟩)
theorem lit_dict0 {pos : Pos} (hl : Here l H) : Lit K X l σ H (.Dict [] [] pos) (.dict []) := fun H1 b1 =>
  eE pe_dnewK fun p hp => ⟨But.new hp, DD.dct (kvs := []) (ds := []) upd_same (hl.new b1 hp) .nil⟩
/-- a list of literals, as a list of values -/
theorem e_lits {ds : List PyData} {pos : Pos} {Q : VK} (hl : Here l H) (r : Lits K X l σ H es ds) (h : ∀ q vs H1, But [] H H1 → H1 q = some (.lst vs) → q ∉ l → DDs K l H1 vs ds → Q (.ref q) H1) (hn : ds.length ≤ 16777216 := by decide) : wE X (.List es pos) σ H Q :=
  e_lst (wA_mono (r H But.refl) fun vs H2 ⟨b2, h2⟩ => ⟨by rw [h2.length, sizeLine_eq]; exact hn, fun p hp => h p vs _ (b2.trans (But.new hp)) upd_same (hl.new b2 hp) (h2.but (But.new hp))⟩)
end
/-! data that is wholly tracked -/
theorem sql_all {K : PySem.W.Frag} {a : Addr} {xs : List V} (h : SqL [] H a xs) : SqL K H a xs := by
  rcases h with h | ⟨o, _, _, h, _⟩
  · exact .inl h
  · cases h
theorem sqt_all {K : PySem.W.Frag} {a : Addr} {xs : List V} (h : SqT [] H a xs) : SqT K H a xs := by
  rcases h with h | ⟨o, _, _, h, _⟩
  · exact .inl h
  · cases h
mutual
theorem DD.all {K : PySem.W.Frag} : ∀ {v : V} {d : PyData}, DD [] l H v d → DD K l H v d
  | _, _, .non => .non
  | _, _, .bl x => .bl x
  | _, _, .int x => .int x
  | _, _, .str x => .str x
  | _, _, .lst h n r => .lst (sql_all h) n (DDs.all r)
  | _, _, .tup h n r => .tup (sqt_all h) n (DDs.all r)
  | _, _, .dct h n r => .dct h n (DDs.all r)
theorem DDs.all {K : PySem.W.Frag} : ∀ {vs : List V} {ds : List PyData}, DDs [] l H vs ds → DDs K l H vs ds
  | _, _, .nil => .nil
  | _, _, .cons h r => .cons (DD.all h) (DDs.all r)
end
theorem sql_there {a : Addr} {xs : List V} (h : SqL [] H a xs) : ∃ o, H a = some o := by
  rcases h with (h | ⟨o, h⟩) | ⟨o, _, _, h, _⟩
  · exact ⟨_, h⟩
  · exact ⟨_, h⟩
  · cases h
theorem sqt_there {a : Addr} {xs : List V} (h : SqT [] H a xs) : ∃ o, H a = some o := by
  rcases h with (h | ⟨o, h⟩) | ⟨o, _, _, h, _⟩
  · exact ⟨_, h⟩
  · exact ⟨_, h⟩
  · cases h
theorem not_new {a t : Addr} (h : ∃ o, H a = some o) (n : a ∉ l) (ht : H t = none) : a ∉ t :: l := fun z => by
  rcases List.mem_cons.mp z with e | e
  · obtain ⟨o, h⟩ := h
    rw [e, ht] at h
    cases h
  · exact n e
mutual
theorem DD.add {t : Addr} (ht : H t = none) : ∀ {v : V} {d : PyData}, DD [] l H v d → DD [] (t :: l) H v d
  | _, _, .non => .non
  | _, _, .bl x => .bl x
  | _, _, .int x => .int x
  | _, _, .str x => .str x
  | _, _, .lst h n r => .lst h (not_new (sql_there h) n ht) (DDs.add ht r)
  | _, _, .tup h n r => .tup h (not_new (sqt_there h) n ht) (DDs.add ht r)
  | _, _, .dct h n r => .dct h (not_new ⟨_, h⟩ n ht) (DDs.add ht r)
theorem DDs.add {t : Addr} (ht : H t = none) : ∀ {vs : List V} {ds : List PyData}, DDs [] l H vs ds → DDs [] (t :: l) H vs ds
  | _, _, .nil => .nil
  | _, _, .cons h r => .cons (DD.add ht h) (DDs.add ht r)
end
end
/-! ### the weak keeping: tables may grow -/
def Ex (l : List Addr) (H H' : Hp) : Prop := ∀ q o, q ∉ l → H q = some o → (∀ ps, o ≠ .tbl ps) → H' q = some o
section
variable {l m : List Addr} {H H1 H2 : Hp}
theorem But.ex (b : But l H H1) : Ex l H H1 := fun q o n e _ => b q o n e
theorem ex_of (b : ExtN H H1) : Ex l H H1 := fun q o _ e n => b q o e n
theorem Ex.refl : Ex l H H := fun _ _ _ h _ => h
theorem Ex.trans (a : Ex l H H1) (b : Ex l H1 H2) : Ex l H H2 := fun q o n e t => b q o n (a q o n e t) t
theorem Ex.mono (a : Ex l H H1) (h : ∀ q ∈ l, q ∈ m) : Ex m H H1 := fun q o n e t => a q o (fun z => n (h q z)) e t
theorem Ex.lst (b : Ex l H H1) {q : Addr} {xs : List V} (n : q ∉ l) (h : H q = some (.lst xs)) : H1 q = some (.lst xs) := b _ _ n h fun ps z => by cases z
theorem Ex.sql {K : PySem.W.Frag} {a : Addr} {xs : List V} (b : Ex l H H1) (n : a ∉ l) (h : SqL K H a xs) : SqL K H1 a xs := by
  rcases h with (h | ⟨o, h⟩) | h
  · exact .inl (.inl (b _ _ n h fun ps z => by cases z))
  · exact .inl (.inr ⟨o, b _ _ n h fun ps z => by cases z⟩)
  · exact .inr h
theorem Ex.sqt {K : PySem.W.Frag} {a : Addr} {xs : List V} (b : Ex l H H1) (n : a ∉ l) (h : SqT K H a xs) : SqT K H1 a xs := by
  rcases h with (h | ⟨o, h⟩) | h
  · exact .inl (.inl (b _ _ n h fun ps z => by cases z))
  · exact .inl (.inr ⟨o, b _ _ n h fun ps z => by cases z⟩)
  · exact .inr h
mutual
theorem DD.ex {K : PySem.W.Frag} (b : Ex l H H1) : ∀ {v : V} {d : PyData}, DD K l H v d → DD K l H1 v d
  | _, _, .non => .non
  | _, _, .bl x => .bl x
  | _, _, .int x => .int x
  | _, _, .str x => .str x
  | _, _, .lst h n r => .lst (b.sql n h) n (DDs.ex b r)
  | _, _, .tup h n r => .tup (b.sqt n h) n (DDs.ex b r)
  | _, _, .dct h n r => .dct (b _ _ n h fun ps z => by cases z) n (DDs.ex b r)
theorem DDs.ex {K : PySem.W.Frag} (b : Ex l H H1) : ∀ {vs : List V} {ds : List PyData}, DDs K l H vs ds → DDs K l H1 vs ds
  | _, _, .nil => .nil
  | _, _, .cons h r => .cons (DD.ex b h) (DDs.ex b r)
end
/-- tables stand where only lists at l change -/
theorem tabs_but {T : List (Addr × Str)} (t : Tabs T H) (b : But l H H1) (hl : ∀ q ∈ l, ∃ xs, H q = some (.lst xs)) : Tabs T H1 := fun p hp => by
  obtain ⟨ps, h1, h2, h3⟩ := t p hp
  have n1 : p.1 ∉ l := fun z => by
    obtain ⟨xs, e⟩ := hl _ z
    rw [h1] at e
    cases e
  refine ⟨ps, b _ _ n1 h1, h2, fun pos cv hc => ?_⟩
  obtain ⟨c, e1, e2⟩ := h3 pos cv hc
  refine ⟨c, e1, b _ _ (fun z => ?_) e2⟩
  obtain ⟨xs, e⟩ := hl _ z
  rw [e2] at e
  unfold CodeO at e
  cases e
theorem tabs_new {T : List (Addr × Str)} (t : Tabs T H) (b : But [] H H1) : Tabs T H1 := tabs_but t b (by simp)
end
/-! ### texts in repr -/
theorem reprChar_ok : ∀ c, c < 128 → ((Builtin.Str.reprChar 34 c).all (fun d => decide (d < 1114112)) && (Builtin.Str.reprChar 39 c).all fun d => decide (d < 1114112)) = true := by decide +kernel
theorem repr_fold {q : Nat} (hq : q = 34 ∨ q = 39) : ∀ (l : List Nat) (acc : Array Nat), (∀ c ∈ l, c < 128) → (∀ c ∈ acc.toList, c < 1114112) → ∀ c ∈ (l.foldl (fun out c => out ++ (Builtin.Str.reprChar q c).toArray) acc).toList, c < 1114112
  | [], acc, _, h => h
  | a :: r, acc, h1, h2 => by
    rw [List.foldl_cons]
    refine repr_fold hq r _ (fun c hc => h1 c (by simp [hc])) fun c hc => ?_
    rw [Array.toList_append, List.mem_append] at hc
    rcases hc with hc | hc
    · exact h2 c hc
    · have h3 := reprChar_ok a (h1 a (by simp))
      simp only [Bool.and_eq_true, List.all_eq_true, decide_eq_true_eq] at h3
      rcases hq with rfl | rfl
      · exact h3.1 c (by simpa using hc)
      · exact h3.2 c (by simpa using hc)
theorem strOk_repr {x : Str} (h : ∀ c ∈ x.cps.toList, c < 128) : PyData.strOk (PyData.str x).shown = true := by
  rw [PyData.shown_str]
  have hq : PySem.reprQuote x = 34 ∨ PySem.reprQuote x = 39 := by
    unfold PySem.reprQuote
    split <;> simp
  have hq2 : PySem.reprQuote x < 1114112 := by rcases hq with e | e <;> omega
  have := repr_fold hq x.cps.toList #[PySem.reprQuote x] h (by simp [hq2])
  unfold PyData.strOk PySem.reprText
  rw [Array.all_eq_true']
  intro c hc
  rw [← Array.foldl_toList] at hc
  simp only [Array.mem_push] at hc
  rcases hc with hc | hc
  · have := this c (Array.mem_toList_iff.mpr hc)
    simpa using this
  · simp [hc, hq2]
end Z

set_option Elab.async false
set_option linter.all false
set_option maxRecDepth 100000
set_option maxHeartbeats 4000000
/-! what the head's facts give -/
namespace Z
open PySem PySem.Spec PyProof.Rows L2
theorem base_call {b txt : Str} {p1 p2 p3 p4 p5 : Pos} {j} (env : Env) (hl : (p2.endLine == p5.line) = true) : eval (.Call (.Attribute (.Name b p1) "__init__" p2) [.Name "self" p3, .Constant (.str txt) j p4] [] p5) env = (do
      let ov ← eval (.Name b p1) env
      standAt p2.atName
      let (f, first) ← holding [ov] (getMethod ov "__init__" (plainOf (.Name b p1) env))
      callWith p5 f first (backTo p5 (starEach [.Name "self" p3, .Constant (.str txt) j p4] env)) (backToKw p5 (keywordEach [] env))) := by
  show (do let ov ← attributeBase (.Name b p1) "__init__" env (eval (.Name b p1) env); standAt p2.atName; methodCall (.Name b p1) "__init__" p2 p5 env ov 2 (backTo p5 (starEach [.Name "self" p3, .Constant (.str txt) j p4] env)) (backToKw p5 (keywordEach [] env))) = _
  have e : attributeBase (.Name b p1) "__init__" env (eval (.Name b p1) env) = eval (.Name b p1) env := rfl
  rw [e]
  congr 1
  funext ov
  congr 1
  funext _
  exact mcall_line rfl hl
/-- the first def of a class text -/
def clsDef (s : Stmt) : Stmt := match s with
  | .ClassDef _ _ _ (b :: _) _ _ _ _ _ _ _ => b
  | s => s
section
variable {P : Program} {w : World} {K : PySem.W.Frag} {mg : Str → Option Value} {base : Heap} {h : Heap}
theorem at_mk {x : Str} {st : Stmt} {f : Addr} {oc kV doc pm cd ct : Value} {od an : Option Addr} {sl : Array (Option Value)} (X : K.In h) (G : h.Ns mainGlobals mg) (a : PySem.W.nsIn K mainGlobals x = some (some (.ref f)))
    (l : K.lookup f = some ⟨oc, od, .func (PySem.W.fnOf x x (defArgs st) (defBody st) (defScope st) .none kV doc pm an cd ct), sl⟩) (c : PySem.W.codeIn K cd x = true) (k : PySem.W.keepIn K (.ref f) = true) : At K mg x st :=
  ⟨f, _, PySem.W.mg_of X G a, fun_mk l c k⟩
theorem atc_mk {x : Str} {st : Stmt} {f cd : Addr} {oc kV doc pm ct : Value} {od an : Option Addr} {sl : Array (Option Value)} (X : K.In h) (G : h.Ns mainGlobals mg) (a : PySem.W.nsIn K mainGlobals x = some (some (.ref f)))
    (l : K.lookup f = some ⟨oc, od, .func (PySem.W.fnOf x x (defArgs st) (defBody st) (defScope st) .none kV doc pm an (.ref cd) ct), sl⟩) (c : PySem.W.codeIn K (.ref cd) x = true) (k : PySem.W.keepIn K (.ref f) = true) : AtC K mg x st cd :=
  ⟨f, oc, kV, doc, pm, ct, od, an, sl, PySem.W.mg_of X G a, k, l, c⟩
theorem base_mk {b : Str} {CB : Addr} (X : K.In h) (G : h.Ns mainGlobals mg) (a : PySem.W.nsIn K mainGlobals b = some (some (.ref CB))) (r : PySem.W.readsIn K CB (.type "type") = true)
    (s : PySem.W.specialIn K (.ref CB) "__getattribute__" = some (some (.builtin "type.__getattribute__"))) (f : PySem.W.findCls K (.ref CB) (.type "type") "__init__" = some (.val (.builtin "ValueError.__init__"))) : Base0 K mg b :=
  ⟨CB, PySem.W.mg_of X G a, r, s, f⟩
theorem oex_mk {C : Addr} {nm q : Str} {N : Addr} {bs bm : List Value} {sn : List Str} {sub : List Value} {ab : Bool} {col : Option Bool} {dd : Option Addr} {m0 m1 m2 m3 m5 : Option Value}
    (xL : K.lookup C = some (excClassObj nm q C N bs bm true sn sub ab col dd m0 m1 m2 m3 m5 "ValueError.__new__")) (hbm : PySem.HandSPX.refsVE bm = true) (sa : PySem.W.findIn K (.ref C) "__setattr__" = some (some (.builtin "object.__setattr__")))
    (eC : PySem.W.subIn K (.ref C) (.type "BaseException") = some true) (tC : PySem.W.typeIn K (.ref C) = some (.type "type")) (kC : PySem.W.keepIn K (.ref C) = true) : OexC K C :=
  ⟨⟨nm, q, N, bs, bm, sn, sub, ab, col, dd, m0, m1, m2, m3, m5, xL, hbm⟩, sa, eC, tC, kC⟩
theorem err_mk {x b f q txt : Str} {st : Stmt} {C fI : Addr} {oc kV doc pm cdv ct : Value} {od an : Option Addr} {osl : Array (Option Value)} {p1 p2 p3 p4 p5 p6 p7 p8 p9 p10 : Pos} {j} (B : Base0 K mg b) (gC : mg x = some (.ref C)) (O : OexC K C) (XF : XfC K C)
    (no : PySem.W.findIn K (.ref C) f = some none) (i1 : PySem.W.findIn K (.ref C) "__init__" = some (some (.ref fI))) (tI : PySem.W.typeIn K (.ref fI) = some (.type "function"))
    (lk : K.lookup fI = some ⟨oc, od, .func (PySem.W.fnOf "__init__" q (defArgs st) (defBody st) (defScope st) .none kV doc pm an cdv ct), osl⟩) (hcd : PySem.W.codeIn K cdv q = true)
    (S : FnScope ["self", f] ["self", f] (defScope st))
    (hb : defBody st = [.Expr (.Call (.Attribute (.Name b p1) "__init__" p2) [.Name "self" p3, .Constant (.str txt) j p4] [] p5) p6, .Assign [.Attribute (.Name "self" p7) f p8] (.Name f p9) p10])
    (hs : (defScope st).names.lookup ("self" : Str) = some .local) (hf : (defScope st).names.lookup f = some .local) (hg : (defScope st).names.lookup b = some .globalImplicit) (hl : (p2.endLine == p5.line) = true)
    (hdb : (b == ("__debug__" : Str)) = false) (hdf : (f == ("__debug__" : Str)) = false) (hdf2 : (f == ("__classdict__" : Str)) = false)
    (hbind : ∀ (kV doc pm : Value) (an : Option Addr) (cdv ct : Value) (us : List Value), us.length = (["self", f] : List Str).length → bindArgs (PySem.W.fnOf "__init__" q (defArgs st) (defBody st) (defScope st) .none kV doc pm an cdv ct) ⟨us, []⟩ = pure ((["self", f] : List Str).zip us)) : ErrOk P w K mg base x f C :=
  ⟨gC, O, no, XF, fI, _, i1, tI, init1_ok B lk hcd S hb hs hf hg hdb hdf hdf2 (fun env _ => ⟨_, base_call env hl⟩) (fun _ _ => rfl) (fun _ _ => rfl), Binds.all fun us hl => hbind kV doc pm an cdv ct us hl⟩
theorem init_mk {C fI : Addr} {q : Str} {st : Stmt} {oc kV doc pm cdv ct : Value} {od an : Option Addr} {osl : Array (Option Value)} (i1 : PySem.W.findIn K (.ref C) "__init__" = some (some (.ref fI))) (i2 : PySem.W.typeIn K (.ref fI) = some (.type "function"))
    (i3 : K.lookup fI = some ⟨oc, od, .func (PySem.W.fnOf "__init__" q (defArgs st) (defBody st) (defScope st) .none kV doc pm an cdv ct), osl⟩) (i4 : PySem.W.codeIn K cdv q = true) :
    ∃ fI oc od kV doc pm an cdv ct osl, PySem.W.findIn K (.ref C) "__init__" = some (some (.ref fI)) ∧ PySem.W.typeIn K (.ref fI) = some (.type "function") ∧ K.lookup fI = some ⟨oc, od, .func (PySem.W.fnOf "__init__" q (defArgs st) (defBody st) (defScope st) .none kV doc pm an cdv ct), osl⟩ ∧ PySem.W.codeIn K cdv q = true :=
  ⟨fI, oc, od, kV, doc, pm, an, cdv, ct, osl, i1, i2, i3, i4⟩
theorem kit_ref {A C : Addr} (h1 : PySem.W.subIn K (.ref A) (.ref C) = some true) (h2 : PySem.W.hasDictIn K C = true) (h3 : PySem.W.typeIn K (.ref C) = some (.type "type")) : PySem.W.kitOne K (.ref A) (.ref C) = some true := by
  obtain ⟨cd, hc, _⟩ := PySem.W.any_some h2
  unfold PySem.W.kitOne PySem.W.kitCls
  split
  · rfl
  · simp [hc, h3, h1]
theorem kit_type {A : Addr} {T : String} (h1 : PySem.W.subIn K (.ref A) (.type T) = some true) (h2 : PySem.W.kitMeta T = true) : PySem.W.kitOne K (.ref A) (.type T) = some true := by
  unfold PySem.W.kitOne PySem.W.kitCls
  split
  · rfl
  · simp [h2, h1]
theorem excC_of {C : Addr} (F : XfC K C) (ha : PySem.W.findIn K (.ref C) "__class__" = some (some (.builtin "object.__class__"))) (hn : PySem.W.specialIn K (.builtin "object.__class__") "__get__" = some (some (.builtin "getset_descriptor.__get__")))
    (ht : PySem.W.takesIn K (.builtin "object.__class__") = some true) (hm : PySem.W.mroIn K C (.type "object") = some true) : ExcC K C := ⟨F.ga, F.gg, F.exC, F.hdC, ha, hn, ht, hm⟩
/-- a constant of the text -/
theorem const_mk {x : Str} {v : V} {u : Value} (X : K.In h) (G : h.Ns mainGlobals mg) (a : PySem.W.nsIn K mainGlobals x = some (some u)) (r : RelV v u) : ∃ u, mg x = some u ∧ RelV v u := ⟨u, PySem.W.mg_of X G a, r⟩
/-- no def hides the built-in names -/
structure BltN (mg : Str → Option Value) : Prop where
  len : mg "len" = none
  range : mg "range" = none
  min : mg "min" = none
  max : mg "max" = none
  abs : mg "abs" = none
  int : mg "int" = none
  str : mg "str" = none
  bool : mg "bool" = none
  list : mg "list" = none
  tuple : mg "tuple" = none
  dict : mg "dict" = none
  isinstance : mg "isinstance" = none
  all : mg "all" = none
  any : mg "any" = none
  sum : mg "sum" = none
  zip : mg "zip" = none
  repr : mg "repr" = none
  divmod : mg "divmod" = none
  sorted : mg "sorted" = none
  enumerate : mg "enumerate" = none
  reversed : mg "reversed" = none
  valueError : mg "ValueError" = none
theorem BltN.at (B : BltN mg) (S : SysAt base) : Blt mg base := ⟨S, B.len, B.range, B.min, B.max, B.abs, B.int, B.str, B.bool, B.list, B.tuple, B.dict, B.isinstance, B.all, B.any, B.sum, B.zip, B.repr, B.divmod, B.sorted, B.enumerate, B.reversed, B.valueError⟩
theorem bltn_mk (X : K.In h) (G : h.Ns mainGlobals mg) (a1 : PySem.W.nsIn K mainGlobals "len" = some none) (a2 : PySem.W.nsIn K mainGlobals "range" = some none) (a3 : PySem.W.nsIn K mainGlobals "min" = some none) (a4 : PySem.W.nsIn K mainGlobals "max" = some none)
    (a5 : PySem.W.nsIn K mainGlobals "abs" = some none) (a6 : PySem.W.nsIn K mainGlobals "int" = some none) (a7 : PySem.W.nsIn K mainGlobals "str" = some none) (a8 : PySem.W.nsIn K mainGlobals "bool" = some none) (a9 : PySem.W.nsIn K mainGlobals "list" = some none)
    (a10 : PySem.W.nsIn K mainGlobals "tuple" = some none) (a11 : PySem.W.nsIn K mainGlobals "dict" = some none) (a12 : PySem.W.nsIn K mainGlobals "isinstance" = some none) (a13 : PySem.W.nsIn K mainGlobals "all" = some none) (a14 : PySem.W.nsIn K mainGlobals "any" = some none)
    (a15 : PySem.W.nsIn K mainGlobals "sum" = some none) (a16 : PySem.W.nsIn K mainGlobals "zip" = some none) (a17 : PySem.W.nsIn K mainGlobals "repr" = some none) (a18 : PySem.W.nsIn K mainGlobals "divmod" = some none) (a19 : PySem.W.nsIn K mainGlobals "sorted" = some none)
    (a20 : PySem.W.nsIn K mainGlobals "enumerate" = some none) (a21 : PySem.W.nsIn K mainGlobals "reversed" = some none) (a22 : PySem.W.nsIn K mainGlobals "ValueError" = some none) : BltN mg :=
  ⟨PySem.W.ns_none_of X G a1, PySem.W.ns_none_of X G a2, PySem.W.ns_none_of X G a3, PySem.W.ns_none_of X G a4, PySem.W.ns_none_of X G a5, PySem.W.ns_none_of X G a6, PySem.W.ns_none_of X G a7, PySem.W.ns_none_of X G a8, PySem.W.ns_none_of X G a9, PySem.W.ns_none_of X G a10,
   PySem.W.ns_none_of X G a11, PySem.W.ns_none_of X G a12, PySem.W.ns_none_of X G a13, PySem.W.ns_none_of X G a14, PySem.W.ns_none_of X G a15, PySem.W.ns_none_of X G a16, PySem.W.ns_none_of X G a17, PySem.W.ns_none_of X G a18, PySem.W.ns_none_of X G a19, PySem.W.ns_none_of X G a20,
   PySem.W.ns_none_of X G a21, PySem.W.ns_none_of X G a22⟩
end
end Z

set_option Elab.async false
set_option linter.all false
set_option maxRecDepth 100000
set_option maxHeartbeats 4000000
/-! objects of own classes, dicts, more of lists -/
namespace Z
open PySem PySem.Spec PyProof.Rows L2
theorem wK_mono {X : Cx} {kws : List Keyword} {σ : L2.St} {H : Hp} {Q Q' : List V → Hp → Prop} (h : wK X kws σ H Q) (k : ∀ v H', Q v H' → Q' v H') : wK X kws σ H Q' := ⟨fun pos pins s I => thn (h.run pos pins s I) fun _ _ ⟨v, H', I', r, q⟩ => ⟨v, H', I', r, k v H' q⟩⟩
section
variable {X : Cx} {k : Nat} {W : WX} {σ : L2.St} {H : Hp} {e a b c o i : Expr} {es : List Expr} {p p2 pos apos : Pos} {Q : VK} {x f m : Str}
theorem e_chain {op op' : CmpOp} (h : wE X a σ H fun x H1 => wE X b σ H1 fun y H2 => oW X (compareOp op) x y H2 fun z H3 => ∃ k, z = .bl k ∧ (if k = true then wE X c σ H3 fun w' H4 => oW X (compareOp op') y w' H4 Q else Q (.bl false) H3))
    (hm : lastMarks [op, op'] [b, c] = false := by with_unfolding_all rfl) : wE X (.Compare a [op, op'] [b, c] pos) σ H Q := eE (pe_chain oR oR pE pE pE hm) h
/-! ### list(x), tuple(x), + and * of lists -/
theorem e_listOf (B : Blt X.mg X.base) (h : wE X a σ H fun x H1 => ∃ q ys, x = .ref q ∧ (SqL X.K H1 q ys ∨ SqT X.K H1 q ys) ∧ ∀ l, H1 l = none → Q (.ref l) (upd H1 l (.lst ys))) (hg : Gl X "list" := by rfl) (hs : starEach [a] X.env = [(false, eval a X.env)] := by rfl) :
    wE X (.Call (.Name "list" p) [a] [] pos) σ H Q := e_Ty (T := "list") (a_cons (wE_mono h fun x H1 ⟨q, ys, e1, h1, h2⟩ => a_nil (cW_of call_list_of ⟨q, ys, by rw [e1], h1, h2⟩)) hs) B.list PyProof.Rows.boot_list hg (by decide) (by decide) hs rfl
theorem e_tupleOf (B : Blt X.mg X.base) (h : wE X a σ H fun x H1 => ∃ q ys, x = .ref q ∧ ((SqL X.K H1 q ys ∧ ∀ l, H1 l = none → Q (.ref l) (upd H1 l (.tup ys))) ∨ (SqT X.K H1 q ys ∧ Q (.ref q) H1))) (hg : Gl X "tuple" := by rfl) (hs : starEach [a] X.env = [(false, eval a X.env)] := by rfl) :
    wE X (.Call (.Name "tuple" p) [a] [] pos) σ H Q := e_Ty (T := "tuple") (a_cons (wE_mono h fun x H1 ⟨q, ys, e1, h1⟩ => a_nil (cW_of call_tuple_of ⟨q, ys, by rw [e1], h1⟩)) hs) B.tuple PyProof.Rows.boot_tuple hg (by decide) (by decide) hs rfl
theorem o_cat {q r : Addr} {xs ys : List V} (h1 : H q = some (.lst xs)) (h2 : H r = some (.lst ys)) (hn : xs.length + ys.length ≤ sizeLine) (h : ∀ p, H p = none → Q (.ref p) (upd H p (.lst (xs ++ ys)))) : oW X (binaryOp .Add) (.ref q) (.ref r) H Q :=
  oW_of op_cat ⟨q, r, xs, ys, rfl, rfl, h1, h2, hn, h⟩
/-! ### fields, properties, methods -/
theorem e_fld {r C dx : Addr} {fs : List (Str × V)} {v : V} (h : wE X e σ H fun x H1 => x = .ref r ∧ H1 r = some (.ins C dx fs) ∧ Q v H1) (c : Cls X.K C) (n : NoAttr X.K C f) (l : fs.lookup f = some v) (hb : attributeBase e f X.env (eval e X.env) = eval e X.env := by rfl) :
    wE X (.Attribute e f pos) σ H Q := eE (pe_fld pE hb) (wE_mono h fun x H1 ⟨e1, h1, q⟩ => ⟨r, C, dx, fs, v, e1, h1, c, n, l, q⟩)
theorem s_fld {D : Ends} {r C : Addr} (h : wE X e σ H fun y H1 => wE X o σ H1 fun x H2 => ∃ dx fs, x = .ref r ∧ H2 r = some (.ins C dx fs) ∧ fs.length < 1000 ∧ D.nx σ (upd H2 r (.ins C dx (putF f y fs)))) (c : Cls X.K C) (n : NoAttr X.K C f)
    (hs : swapsWith e (some (.Attribute o f p)) pos.line X.env = pure false := by rfl) : wS X (.Assign [.Attribute o f p] e pos) D σ H :=
  eS (ps_fld pE pE hs) (wE_mono h fun y H1 h1 => wE_mono h1 fun x H2 ⟨dx, fs, e1, h2, h3, q⟩ => ⟨r, C, dx, fs, e1, h2, c, n, h3, q⟩)
/-- a def of the class at C under the name m, its promise -/
structure MethOk (P : Program) (w : World) (K : PySem.W.Frag) (mg : Str → Option Value) (base : Heap) (k : Nat) (C : Addr) (m : Str) (ps : List Str) (sp : Sp) : Prop where
  ex : ∃ f fd, Meth K C m f ∧ FnOk P w K mg base (L2.CX P w) k f fd ps sp ∧ Binds K fd ps []
structure PropOk (P : Program) (w : World) (K : PySem.W.Frag) (mg : Str → Option Value) (base : Heap) (k : Nat) (C : Addr) (m : Str) (sp : Sp) : Prop where
  ex : ∃ pr f fd, PropOf K C m pr f ∧ FnOk P w K mg base (L2.CX P w) k f fd ["self"] sp ∧ Binds K fd ["self"] []
theorem passes0 {X : Cx} {W : WX} (tk : Takes X W) : Passes (L2.CX X.prog X.w) X (fun _ _ _ => False) := fun pins σ H s e s' I c => passes_call tk (fun cls d σ' H' z => z.elim) pins σ H s e s' I c
theorem passesE {X : Cx} {W : WX} {E : XK} (tk : Takes X W) (h : ∀ cls d σ H, E cls d H → W cls d σ H) : Passes (L2.CX X.prog X.w) X E := fun pins σ H s e s' I c => passes_call tk h pins σ H s e s' I c
/-- e.m, a property that raises nothing -/
theorem e_prop {sp : Sp} {r C dx : Addr} {fs : List (Str × V)} {j : Nat} (Cc : Cxt X (j + 1) W) (c : Cls X.K C) (M : PropOk X.prog X.w X.K X.mg X.base j C m sp) (h : wE X e σ H fun x H1 => x = .ref r ∧ H1 r = some (.ins C dx fs) ∧ sp [.ref r] H1 Q fun _ _ _ => False)
    (hab : attributeBase e m X.env (eval e X.env) = eval e X.env := by rfl) : wE X (.Attribute e m pos) σ H Q := by
  obtain ⟨pr, g, fd, hp, F, hb⟩ := M.ex
  exact eE (pe_prop pE c hp F Cc.room hb .nil (passes0 (X := X.nox) takesW0) hab) (wE_mono h fun x H1 ⟨e1, h1, q⟩ => ⟨r, dx, fs, e1, h1, q⟩)
theorem meth_eval {o : Expr} {m : Str} {apos pos : Pos} {es : List Expr} {env : Env} (hb : attributeBase o m env (eval o env) = eval o env) (hf : methodCallForm (es.length + 0) (backTo pos (starEach es env)) (backToKw pos (keywordEach [] env)) = true) (hl : (apos.endLine == pos.line) = true) :
    eval (.Call (.Attribute o m apos) es [] pos) env = (do
      let ov ← eval o env
      standAt apos.atName
      let (f, first) ← holding [ov] (getMethod ov m (plainOf o env))
      callWith pos f first (backTo pos (starEach es env)) (backToKw pos (keywordEach [] env))) := by
  show (do let ov ← attributeBase o m env (eval o env); standAt apos.atName; methodCall o m apos pos env ov (es.length + 0) (backTo pos (starEach es env)) (backToKw pos (keywordEach [] env))) = _
  rw [hb]
  congr 1
  funext ov
  congr 1
  funext _
  exact mcall_line hf hl
/-- o.m(), a method that raises nothing -/
theorem e_meth0 {sp : Sp} {r C dx : Addr} {fs : List (Str × V)} {j : Nat} {ps : List Str} (Cc : Cxt X j W) (c : Cls X.K C) (M : MethOk X.prog X.w X.K X.mg X.base j C m ps sp) (h : wE X o σ H fun x H1 => x = .ref r ∧ H1 r = some (.ins C dx fs) ∧ fs.lookup m = none ∧ sp [.ref r] H1 Q fun _ _ _ => False)
    (hb : attributeBase o m X.env (eval o X.env) = eval o X.env := by rfl) (hf : methodCallForm (([] : List Expr).length + 0) (backTo pos (starEach [] X.env)) (backToKw pos (keywordEach [] X.env)) = true := by rfl) (hl : (apos.endLine == pos.line) = true := by rfl) :
    wE X (.Call (.Attribute o m apos) [] [] pos) σ H Q := by
  obtain ⟨g, fd, hm, F, hbd⟩ := M.ex
  exact eE (pe_meth0 (pl := plainOf o X.env) pE c hm F Cc.room hbd .nil (passes0 Cc.tk) (meth_eval hb hf hl)) (wE_mono h fun x H1 ⟨e1, h1, n, q⟩ => by subst e1; exact ⟨r, dx, fs, rfl, h1, n, q⟩)
/-- o.m(e, ..) -/
theorem e_meth {sp : Sp} {r C dx : Addr} {fs : List (Str × V)} {j : Nat} {ps : List Str} (Cc : Cxt X j W) (c : Cls X.K C) (M : MethOk X.prog X.w X.K X.mg X.base j C m ps sp) (h : wE X o σ H fun x H1 => x = .ref r ∧ H1 r = some (.ins C dx fs) ∧ fs.lookup m = none ∧ wA X (e :: es) σ H1 fun vs H2 => sp (.ref r :: vs) H2 Q fun _ _ _ => False)
    (hb : attributeBase o m X.env (eval o X.env) = eval o X.env := by rfl) (hf : methodCallForm ((e :: es).length + 0) (backTo pos (starEach (e :: es) X.env)) (backToKw pos (keywordEach [] X.env)) = true := by rfl) (hl : (apos.endLine == pos.line) = true := by rfl)
    (hst : starEach (e :: es) X.env = (false, eval e X.env) :: starEach es X.env := by rfl) (hpl : (backTo pos (starEach es X.env)).any (·.1) = false := by rfl) :
    wE X (.Call (.Attribute o m apos) (e :: es) [] pos) σ H Q := by
  obtain ⟨g, fd, hm, F, hbd⟩ := M.ex
  exact eE (pe_meth (pl := plainOf o X.env) pE c hm F Cc.room hbd .nil (passes0 Cc.tk) pA hst hpl (meth_eval hb hf hl)) (wE_mono h fun x H1 ⟨e1, h1, n, q⟩ => by subst e1; exact ⟨r, dx, fs, rfl, h1, n, wA_mono q fun vs H2 q => by rw [List.append_nil]; exact q⟩)
/-! ### making an object -/
/-- the class at C under its name x, its __init__'s promise; ds what the defaults tell -/
structure MakeOk (P : Program) (w : World) (K : PySem.W.Frag) (mg : Str → Option Value) (base : Heap) (k : Nat) (x : Str) (C : Addr) (ps : List Str) (sp : Sp) (B : FuncData → Prop) : Prop where
  ex : ∃ f fd, mg x = some (.ref C) ∧ Mk K C f ∧ FnOk P w K mg base (L2.CX P w) k f fd ps sp ∧ B fd
theorem e_make {sp : Sp} {C : Addr} {j : Nat} {ps : List Str} {ds : List Value} {dvs : List V} {E : XK} (Cc : Cxt X (j + 1) W) (M : MakeOk X.prog X.w X.K X.mg X.base j x C ps sp fun fd => Binds X.K fd ps ds) (hd : Vals dvs ds) (hW : ∀ cls d σ H, E cls d H → W cls d σ H)
    (h : wA X (e :: es) σ H fun vs H1 => ∀ r dx, H1 r = none → H1 dx = none → dx ≠ r → sp (.ref r :: (vs ++ dvs)) (upd (upd H1 dx (.own r)) r (.ins C dx [])) (fun v H2 => v = .non ∧ Q (.ref r) H2) E) (hg : Gl X x := by rfl)
    (hdb : (x == ("__debug__" : Str)) = false := by decide) (he : starEach (e :: es) X.env = (false, eval e X.env) :: starEach es X.env := by rfl) (hpl : (backTo pos (starEach es X.env)).any (·.1) = false := by rfl) :
    wE X (.Call (.Name x p) (e :: es) [] pos) σ H Q := by
  obtain ⟨g, fd, hm, mk, F, hb⟩ := M.ex
  exact eE (pe_make mk F Cc.room hg hm hb hd (passesE Cc.tk hW) pA hdb he hpl) h
theorem e_makeK {sp : Sp} {C : Addr} {j n : Nat} {ps ks : List Str} {gf : List Value → List Value → List Value} {gV : List V → List V → List V} {kws : List Keyword} {E : XK} (Cc : Cxt X (j + 1) W) (M : MakeOk X.prog X.w X.K X.mg X.base j x C ps sp fun fd => KBn X.K fd ps (n + 1) ks gf gV) (hW : ∀ cls d σ H, E cls d H → W cls d σ H)
    (h : wA X (e :: es) σ H fun vs H1 => wK X kws σ H1 fun zs H2 => vs.length = n ∧ zs.length = ks.length ∧ ∀ r dx, H2 r = none → H2 dx = none → dx ≠ r → sp (gV (.ref r :: vs) zs) (upd (upd H2 dx (.own r)) r (.ins C dx [])) (fun v H3 => v = .non ∧ Q (.ref r) H3) E) (hg : Gl X x := by rfl)
    (hall : (backToKw pos (keywordEach kws X.env)).all (·.1.isSome) = true := by rfl) (hks : (backToKw pos (keywordEach kws X.env)).filterMap (·.1) = ks := by rfl) (hdb : (x == ("__debug__" : Str)) = false := by decide)
    (he : starEach (e :: es) X.env = (false, eval e X.env) :: starEach es X.env := by rfl) (hpl : ((backTo pos (starEach (e :: es) X.env)).any (·.1) || (backToKw pos (keywordEach kws X.env)).any (·.1.isNone)) = false := by rfl) :
    wE X (.Call (.Name x p) (e :: es) kws pos) σ H Q := by
  obtain ⟨g, fd, hm, mk, F, hb⟩ := M.ex
  exact eE (pe_makeK mk F Cc.room hg hm hb (passesE Cc.tk hW) pA pK hall hks hdb he hpl) h
theorem e_makeK0 {sp : Sp} {C : Addr} {j : Nat} {ps ks : List Str} {gf : List Value → List Value → List Value} {gV : List V → List V → List V} {kws : List Keyword} {E : XK} (Cc : Cxt X (j + 1) W) (M : MakeOk X.prog X.w X.K X.mg X.base j x C ps sp fun fd => KBn X.K fd ps 1 ks gf gV) (hW : ∀ cls d σ H, E cls d H → W cls d σ H)
    (h : wK X kws σ H fun zs H2 => zs.length = ks.length ∧ ∀ r dx, H2 r = none → H2 dx = none → dx ≠ r → sp (gV [.ref r] zs) (upd (upd H2 dx (.own r)) r (.ins C dx [])) (fun v H3 => v = .non ∧ Q (.ref r) H3) E) (hg : Gl X x := by rfl)
    (hall : (backToKw pos (keywordEach kws X.env)).all (·.1.isSome) = true := by rfl) (hks : (backToKw pos (keywordEach kws X.env)).filterMap (·.1) = ks := by rfl) (hdb : (x == ("__debug__" : Str)) = false := by decide)
    (hpl : ((backTo pos (starEach [] X.env)).any (·.1) || (backToKw pos (keywordEach kws X.env)).any (·.1.isNone)) = false := by rfl) :
    wE X (.Call (.Name x p) [] kws pos) σ H Q := by
  obtain ⟨g, fd, hm, mk, F, hb⟩ := M.ex
  exact eE (pe_makeK0 mk F Cc.room hg hm hb (passesE Cc.tk hW) pK hall hks hdb hpl) (eK pK ⟨(wK_mono h fun zs H2 ⟨h1, h2⟩ => ⟨rfl, h1, h2⟩).run⟩)
/-! ### dicts -/
theorem e_dget {r : Addr} {v : V} (C : Cxt X k W) (h : wE X o σ H fun x H1 => wE X i σ H1 fun y H2 => x = .ref r ∧ DGet H2 r y (some v) ∧ Q v H2) (hs : NoSl i := by exact fun _ _ => rfl) : wE X (.Subscript o i pos) σ H Q :=
  eE (pe_dget (by have := C.un; omega) pE pE hs) (wE_mono h fun x H1 q => wE_mono q fun y H2 ⟨e1, h1, q⟩ => ⟨r, v, e1, h1, q⟩)
theorem set_d {r : Addr} {y v : V} {H' : Hp} {R : Hp → Prop} (C : Cxt X k W) (h : DPut H r y v H') (q : R H') : sW X (.ref r) y v H R := sW_of (set_dict (by have := C.un; omega)) ⟨r, H', rfl, h, q⟩
end
end Z

set_option Elab.async false
set_option linter.all false
set_option maxRecDepth 100000
set_option maxHeartbeats 4000000
/-! own errors of two fields -/
namespace Z
open PySem PySem.Spec PyProof.Rows L2
def spInit2 (K : PySem.W.Frag) (f g : Str) : Sp := fun vs H Q _ => ∃ (a C : Addr) (v w : V), vs = [.ref a, v, w] ∧ OexC K C ∧ PySem.W.findIn K (.ref C) f = some none ∧ PySem.W.findIn K (.ref C) g = some none ∧ H a = some (exo a C none) ∧
  ∀ dx, H dx = none → dx ≠ a → Q .non (upd (upd (upd H dx (exd dx [(f, v)])) a (exo a C (some dx))) dx (exd dx [(g, w), (f, v)]))
section
variable {P : Program} {w : World} {K : PySem.W.Frag} {mg : Str → Option Value} {base : Heap}
theorem init2_ok {x b f g txt : Str} {st : Stmt} {fI : Addr} {oc kV doc pm cdv ct : Value} {od an : Option Addr} {osl : Array (Option Value)} {p1 p2 p3 p4 p5 p6 p7 p8 p9 p10 q7 q8 q9 q10 : Pos} {j} (B : Base0 K mg b)
    (lk : K.lookup fI = some ⟨oc, od, .func (PySem.W.fnOf "__init__" x (defArgs st) (defBody st) (defScope st) .none kV doc pm an cdv ct), osl⟩) (hcd : PySem.W.codeIn K cdv x = true)
    (S : FnScope ["self", f, g] ["self", f, g] (defScope st))
    (hb : defBody st = [.Expr (.Call (.Attribute (.Name b p1) "__init__" p2) [.Name "self" p3, .Constant (.str txt) j p4] [] p5) p6, .Assign [.Attribute (.Name "self" p7) f p8] (.Name f p9) p10, .Assign [.Attribute (.Name "self" q7) g q8] (.Name g q9) q10])
    (hs : (defScope st).names.lookup ("self" : Str) = some .local) (hf : (defScope st).names.lookup f = some .local) (hgl : (defScope st).names.lookup g = some .local) (hg : (defScope st).names.lookup b = some .globalImplicit) (hdb : (b == ("__debug__" : Str)) = false) (hl : (p2.endLine == p5.line) = true)
    (hdf : (f == ("__debug__" : Str)) = false) (hdf2 : (f == ("__classdict__" : Str)) = false) (hdg : (g == ("__debug__" : Str)) = false) (hdg2 : (g == ("__classdict__" : Str)) = false) :
    FnOk P w K mg base (L2.CX P w) 1 fI (PySem.W.fnOf "__init__" x (defArgs st) (defBody st) (defScope st) .none kV doc pm an cdv ct) ["self", f, g] (spInit2 K f g) := by
  refine fn_of lk hcd S (fun vs H Q E h => ?_) fun A outer s H vs Q E hr h => ⟨wB _ (defBody st), pB, ?_⟩
  · obtain ⟨a, C, v, w, rfl, _⟩ := h
    rfl
  · obtain ⟨a, C, v, w, rfl, T, hno, hno2, ha, q⟩ := h
    rw [hb]
    refine b_cons (s_expr (e_baseInit B ?_ hg hdb (base_call (envOfC x (defScope st) s.heap.objs.size fI cdv) hl)) rfl)
    refine a_cons (e_name 0 (a_cons (e_str (a_nil ⟨a, C, _, rfl, by simp, T, ha, ?_⟩))) rfl rfl (.inl hs))
    refine b_cons (eS (ps_ost (pE (e := .Name "self" p7)) pE rfl) ?_)
    refine e_name 1 ?_ rfl rfl (.inl hf) hdf hdf2
    refine e_name 0 ?_ rfl rfl (.inl hs)
    refine ⟨a, C, rfl, T, hno, .inl ⟨ha, fun dx n ne => b_cons (eS (ps_ost (pE (e := .Name "self" q7)) pE rfl) ?_)⟩⟩
    refine e_name 2 ?_ rfl rfl (.inl hgl) hdg hdg2
    refine e_name 0 ?_ rfl rfl (.inl hs)
    exact ⟨a, C, rfl, T, hno2, .inr ⟨dx, [(f, v)], upd_same, by rw [upd_ne ne, upd_same], by simp, b_nil (q dx n ne)⟩⟩
end
/-- an error class of two fields, its __init__ proved -/
structure ErrOk2 (P : Program) (w : World) (K : PySem.W.Frag) (mg : Str → Option Value) (base : Heap) (x f g : Str) (C : Addr) : Prop where
  gC : mg x = some (.ref C)
  oex : OexC K C
  no : PySem.W.findIn K (.ref C) f = some none
  no2 : PySem.W.findIn K (.ref C) g = some none
  xf : XfC K C
  ex : ∃ fI fd, PySem.W.findIn K (.ref C) "__init__" = some (some (.ref fI)) ∧ PySem.W.typeIn K (.ref fI) = some (.type "function") ∧ FnOk P w K mg base (L2.CX P w) 1 fI fd ["self", f, g] (spInit2 K f g) ∧ Binds K fd ["self", f, g] []
section
variable {X : Cx} {k : Nat} {W : WX} {σ : L2.St} {H : Hp} {x f g : Str} {e e2 : Expr} {C : Addr} {p1 p2 pos : Pos} {D : Ends}
/-- raise X(v, w) -/
theorem s_raise2 (Cc : Cxt X k W) (E : ErrOk2 X.prog X.w X.K X.mg X.base x f g C) (hr : 2 ≤ k)
    (h : wE X e σ H fun v H1 => wE X e2 σ H1 fun w H2 => ∀ d H', But [] H2 H' → H2 d = none → H' d = some (.xd [(g, w), (f, v)]) → W (.ref C) (some d) σ H')
    (hg : Gl X x := by rfl) (hdb : (x == ("__debug__" : Str)) = false := by decide) (he : starEach [e, e2] X.env = (false, eval e X.env) :: starEach [e2] X.env := by rfl) (he2 : starEach [e2] X.env = [(false, eval e2 X.env)] := by rfl) : wS X (.Raise (some (.Call (.Name x p1) [e, e2] [] p2)) none pos) D σ H := by
  obtain ⟨fI, fd, iC, tI, F, hb⟩ := E.ex
  have hx : Passes (L2.CX X.prog X.w) X (fun _ _ _ => False) := passes0 Cc.tk
  refine eS (ps_raise Cc.calm Cc.tk (pmk_oex E.oex iC tI F (Cc.room.mono hr) hb .nil hx hg E.gC pA hdb he (by rw [he2]; rfl))) ?_
  refine a_cons (wE_mono h fun v H1 q1 => a_cons (wE_mono q1 fun w H2 q => a_nil ⟨by simp, fun a ha => ?_⟩) he2) he
  refine ⟨a, C, v, w, rfl, E.oex, E.no, E.no2, upd_same, fun dx hd ne => ⟨rfl, dx, [(g, w), (f, v)], by rw [upd_ne ne.symm, upd_same], upd_same, ?_, ?_⟩⟩
  · rw [upd_ne ne] at hd
    exact hd
  · have hd' : H2 dx = none := by rw [upd_ne ne] at hd; exact hd
    refine q dx _ (fun b o _ hbo => ?_) hd' upd_same
    have nb : b ≠ a := ne_of_none hbo ha
    have nb2 : b ≠ dx := ne_of_none hbo hd'
    rw [upd_ne nb2, del_ne nb, upd_ne nb2, upd_ne nb, upd_ne nb2, upd_ne nb]
    exact hbo
end
section
variable {X : Cx} {σ : L2.St} {H : Hp} {a CE dd : Addr} {oe : Obj} {pn : List (Addr × Obj)} {e : Expr} {pos p : Pos} {f : Str} {Q : VK}
/-- e.f, any fields -/
theorem e_xfs {v : V} {fs : List (Str × V)} (T : XfC X.K CE) (hno : PySem.W.findIn X.K (.ref CE) f = some none) (hz : Zc (.ref CE) (some dd) oe) (hf : ∃ vs, oe.data = .fields vs) (hl : fs.lookup f = some v)
    (h : wE (X.suite a ((a, oe) :: pn)) e σ H fun x H1 => x = .ref a ∧ H1 dd = some (.xd fs) ∧ Q v H1) (hb : attributeBase e f X.env (eval e X.env) = eval e X.env := by rfl) :
    wE (X.suite a ((a, oe) :: pn)) (.Attribute e f pos) σ H Q :=
  eE (pe_xf T hno hz hf pE hb) (wE_mono h fun x H1 ⟨e1, e2, q⟩ => ⟨e1, rfl, dd, fs, v, rfl, e2, hl, q⟩)
end
end Z

set_option Elab.async false
set_option linter.all false
set_option maxRecDepth 100000
set_option maxHeartbeats 4000000
/-! dicts walked, dicts written out -/
namespace Z
open PySem PySem.Spec PyProof.Rows L2
/-- the i-th statement of a class text -/
def clsAt (s : Stmt) (i : Nat) : Stmt := match s with
  | .ClassDef _ _ _ b _ _ _ _ _ _ _ => b.getD i s
  | s => s
section
variable {X : Cx} {k : Nat} {W : WX} {σ : L2.St} {H : Hp} {e : Expr} {st : Stmt} {p pos apos tpos : Pos} {elts : List Expr} {kk : Nat}
theorem i_items {R : It → Hp → Prop} (h : wE X e σ H fun x H1 => ∃ d o kvs, x = .ref d ∧ H1 d = some (.frz o (.dK kvs)) ∧ R (Iti d o kvs) H1)
    (hb : attributeBase e "items" X.env (eval e X.env) = eval e X.env := by rfl) (hl : (apos.endLine == pos.line) = true := by rfl) : wI X (.Tuple elts kk tpos) (.Call (.Attribute e "items" apos) [] [] pos) σ H R := eI (pi_items pE hb hl) h
/-- a statement while the object at d is told not to change -/
theorem s_lock {D : Ends} {d : Addr} {u : HO} (hd : H d = some u) (mu : Mut (some u)) (h : ∀ od, wS X st ⟨fun σ' H' => H' d = some (.frz od u) ∧ D.nx σ' (upd H' d u), fun v H' => H' d = some (.frz od u) ∧ D.rt v (upd H' d u), fun σ' H' => H' d = some (.frz od u) ∧ D.bk σ' (upd H' d u), fun σ' H' => H' d = some (.frz od u) ∧ D.ct σ' (upd H' d u)⟩ σ (upd H d (.frz od u))) :
    wS X st D σ H := eS (ps_lock pS) ⟨d, u, hd, mu, h⟩
end
theorem but_unlock {l : List Addr} {H H' : Hp} {d : Addr} {u v : HO} (hd : H d = some u) (b : But l (upd H d v) H') : But l H (upd H' d u) := fun q o n e => by
  by_cases hq : q = d
  · rw [hq, upd_same]
    rw [hq, hd] at e
    exact e
  · rw [upd_ne hq]
    exact b q o n (by rw [upd_ne hq]; exact e)
end Z

set_option Elab.async false
set_option linter.all false
set_option maxRecDepth 100000
set_option maxHeartbeats 4000000
/-! a list or a tuple, walked -/
namespace Z
open PySem PySem.Spec PyProof.Rows L2
def items : PyData → List PyData
  | .list ds => ds
  | .tuple ds => ds
  | _ => []
def seqB (d : PyData) : Bool := isList d || isTuple d
section
variable {X : Cx} {σ : L2.St} {H : Hp} {e tg : Expr}
theorem i_dd {R : It → Hp → Prop} {x : V} {l : List Addr} {d : PyData} (hd : DD X.K l H x d) (hs : seqB d = true) (he : ∀ Q : VK, Q x H → wE X e σ H Q)
    (h : ∀ J G vs, Walk J vs.length G (YAt vs) → (∀ H', But l H H' → G H') → DDs X.K l H vs (items d) → R J H) : wI X tg e σ H R := by
  cases hd with
  | @lst a xs ds h1 n h2 => exact i_list (he _ ⟨a, rfl, ⟨xs, h1⟩, h _ _ xs walk_list (fun H' b => b.sql n h1) h2⟩)
  | @tup a xs ds h1 n h2 => exact i_tup (he _ ⟨a, rfl, ⟨xs, h1⟩, h _ _ xs walk_tup (fun H' b => b.sqt n h1) h2⟩)
  | _ => simp [seqB, isList, isTuple] at hs
/-- .. data that is wholly tracked -/
theorem i_dd0 {R : It → Hp → Prop} {x : V} {l : List Addr} {d : PyData} (hd : DD [] l H x d) (hs : seqB d = true) (he : ∀ Q : VK, Q x H → wE X e σ H Q)
    (h : ∀ J G vs, Walk J vs.length G (YAt vs) → (∀ H', But l H H' → G H') → DDs [] l H vs (items d) → R J H) : wI X tg e σ H R := by
  cases hd with
  | @lst a xs ds h1 n h2 => exact i_list (he _ ⟨a, rfl, ⟨xs, sql_all h1⟩, h _ _ xs walk_list (fun H' b => sql_all (b.sql n h1)) h2⟩)
  | @tup a xs ds h1 n h2 => exact i_tup (he _ ⟨a, rfl, ⟨xs, sqt_all h1⟩, h _ _ xs walk_tup (fun H' b => sqt_all (b.sqt n h1)) h2⟩)
  | _ => simp [seqB, isList, isTuple] at hs
end
end Z

set_option Elab.async false
set_option linter.all false
set_option maxRecDepth 100000
set_option maxHeartbeats 4000000
/-! tuples and lists are never one; extend, reverse, clear -/
namespace Z
open PySem PySem.Spec PyProof.Rows L2
/-- no tuple is a list -/
def Apart (K : PySem.W.Frag) (H : Hp) : Prop := ∀ a xs q ys, SqT K H a xs → H q = some (.lst ys) → a ≠ q
theorem apart_inv {X : Cx} {pins : List (Addr × Obj)} {σ : L2.St} {H : Hp} {s : Shared} (I : Inv X pins σ H s) : Apart X.K H := fun a xs q ys h1 h2 z => by
  subst z
  obtain ⟨its, r, ⟨o, e, c, _⟩, _⟩ := I.tuple h1
  obtain ⟨its', r', ⟨o', n', e', c', _⟩, _⟩ := I.list (.inl (.inl h2))
  rw [e] at e'
  cases e'
  rw [c] at c'
  exact absurd (Value.type.inj c') (by decide)
section
variable {X : Cx} {k : Nat} {W : WX} {σ : L2.St} {H : Hp} {e a o : Expr} {es : List Expr} {sts : List Stmt} {pos apos : Pos} {Q : VK}
theorem b_apart {D : Ends} (h : Apart X.K H → wB X sts D σ H) : wB X sts D σ H := ⟨fun pins s I => (h (apart_inv I)).run pins s I⟩
theorem e_gives (h : wE X e σ H fun v H1 => Apart X.K H1 → Q v H1) : wE X e σ H Q := ⟨fun pins s I => thn (h.run pins s I) fun _ _ ⟨v, H', I', r, q⟩ => ⟨v, H', I', r, q (apart_inv I')⟩⟩
theorem e_apart (h : Apart X.K H → wE X e σ H Q) : wE X e σ H Q := ⟨fun pins s I => (h (apart_inv I)).run pins s I⟩
end
mutual
def tupOnly : PyData → Bool
  | .tuple xs => tupOnlyAll xs
  | .list _ => false
  | .dict _ => false
  | _ => true
def tupOnlyAll : List PyData → Bool
  | [] => true
  | x :: xs => tupOnly x && tupOnlyAll xs
end
section
variable {K : PySem.W.Frag} {l : List Addr} {H : Hp}
mutual
theorem DD.avoid {q : Addr} {ys : List V} (A : Apart K H) (hq : H q = some (.lst ys)) : ∀ {v : V} {d : PyData}, DD K l H v d → tupOnly d = true → DD K (q :: l) H v d
  | _, _, .non, _ => .non
  | _, _, .bl x, _ => .bl x
  | _, _, .int x, _ => .int x
  | _, _, .str x, _ => .str x
  | _, _, .lst h n r, e => by simp [tupOnly] at e
  | _, _, .tup h n r, e => .tup h (fun z => by
      rcases List.mem_cons.mp z with z | z
      · exact A _ _ _ _ h hq z
      · exact n z) (DDs.avoid A hq r (by simpa [tupOnly] using e))
  | _, _, .dct h n r, e => by simp [tupOnly] at e
theorem DDs.avoid {q : Addr} {ys : List V} (A : Apart K H) (hq : H q = some (.lst ys)) : ∀ {vs : List V} {ds : List PyData}, DDs K l H vs ds → tupOnlyAll ds = true → DDs K (q :: l) H vs ds
  | _, _, .nil, _ => .nil
  | _, _, .cons h r, e => by
    simp only [tupOnlyAll, Bool.and_eq_true] at e
    exact .cons (DD.avoid A hq h e.1) (DDs.avoid A hq r e.2)
end
theorem tupOnlyAll_of {ds : List PyData} (h : ∀ d ∈ ds, tupOnly d = true) : tupOnlyAll ds = true := by
  induction ds with
  | nil => rfl
  | cons d ds ih => simp only [tupOnlyAll, h d (by simp), ih fun x hx => h x (by simp [hx]), Bool.and_self]
end
section
variable {X : Cx} {k : Nat} {W : WX} {σ : L2.St} {H : Hp} {e a o : Expr} {es : List Expr} {pos apos : Pos} {Q : VK}
/-- xs.extend(ys) -/
theorem e_extend (h : wE X o σ H fun x H1 => ∃ q, x = .ref q ∧ (∃ ys, H1 q = some (.lst ys)) ∧ wE X a σ H1 fun y H2 => ∃ r xs zs, y = .ref r ∧ H2 q = some (.lst xs) ∧ H2 r = some (.lst zs) ∧ xs.length + zs.length ≤ sizeLine ∧ Q .non (upd H2 q (.lst (xs ++ zs))))
    (hs : starEach [a] X.env = [(false, eval a X.env)] := by rfl) (hbase : attributeBase o "extend" X.env (eval o X.env) = eval o X.env := by rfl) (hline : (apos.endLine == pos.line) = true := by rfl)
    (hfew : ((backTo pos (starEach [a] X.env)).all (fun x => !x.1) && (backToKw pos (keywordEach [] X.env)).all (fun x => x.1.isSome) && decide (([a] : List Expr).length + ([] : List Keyword).length + (if ([] : List Keyword).isEmpty then 0 else 1) < 30)) = true := by rfl) :
    wE X (.Call (.Attribute o "extend" apos) [a] [] pos) σ H Q :=
  eE (pe_bm PySem.F.plainAttrs_list PySem.F.slot_list_extend PySem.F.type_list_extend mt_extend pE pA hbase hfew hline (by rw [hs]; rfl) rfl)
    (wE_mono h fun x H1 ⟨q, e1, ⟨ys, h0⟩, h1⟩ => ⟨by rw [e1]; exact .inl ⟨rfl, ys, .inl (.inl h0)⟩, a_cons (wE_mono h1 fun y H2 ⟨r, xs, zs, e2, h2, h3, h4, h5⟩ => a_nil ⟨q, r, xs, zs, e1, by rw [e2], h2, h3, h4, h5⟩) (by rw [hs]; rfl)⟩)
end
end Z

set_option Elab.async false
set_option linter.all false
set_option maxRecDepth 100000
set_option maxHeartbeats 4000000
/-! pairs walked, reverse, clear, lists times a number, while, == -/
namespace Z
open PySem PySem.Spec PyProof.Rows L2
theorem Apart.nil {K : PySem.W.Frag} {H : Hp} (A : Apart K H) : Apart [] H := fun a xs q ys h1 h2 => A a xs q ys (sqt_all h1) h2
theorem Here.ext {l : List Addr} {H H1 : Hp} (h : Here l H) (b : But [] H H1) : Here l H1 := fun q hq => let ⟨o, e⟩ := h q hq; ⟨o, b _ _ (by simp) e⟩
theorem Here.cons {l : List Addr} {H : Hp} {q : Addr} {o : HO} (e : H q = some o) (h : Here l H) : Here (q :: l) H := fun x hx => by
  rcases List.mem_cons.mp hx with rfl | hx
  · exact ⟨o, e⟩
  · exact h x hx
theorem Here.nil {H : Hp} : Here [] H := fun q hq => by simp at hq
/-- what was there stays, whatever became of the new -/
theorem but_late {H0 H1 H2 : Hp} {l : List Addr} (a : But [] H0 H1) (b : But l H1 H2) (n : ∀ q ∈ l, H0 q = none) : But [] H0 H2 := fun q o _ e => b q o (fun z => by rw [n q z] at e; cases e) (a q o (by simp) e)
section
variable {X : Cx} {k : Nat} {W : WX} {σ : L2.St} {H : Hp} {e a b o elt c : Expr} {es : List Expr} {p pos apos : Pos} {Q : VK} {scope : Scope}
theorem mt_pairS {i j : Nat} {y z : Str} {p p' pt : Pos} {kt} {vs : List Nat} {q : Addr} {u v : V} {R : V → Prop} (hc : X.calm = true) (hN : X.N.Nodup) (hq : SqT X.K H q [u, v])
    (h : wEb X scope elt (((wipe σ vs).set i (some u)).set j (some v)) H fun v H4 => R v ∧ But [] H H4) (hw : wipe (((wipe σ vs).set i (some u)).set j (some v)) vs = wipe σ vs := by rfl) (hi : X.N[i]? = some y := by rfl) (hj : X.N[j]? = some z := by rfl)
    (hx : Loc (relS scope X.env.scope) y := by first | exact Or.inl rfl | exact Or.inr rfl) (hf : (scope.names.lookup y == some .cell) = true ∨ (relS scope X.env.scope).names.lookup y = some .local := by first | exact .inl rfl | exact .inr rfl)
    (hx2 : Loc (relS scope X.env.scope) z := by first | exact Or.inl rfl | exact Or.inr rfl) (hf2 : (scope.names.lookup z == some .cell) = true ∨ (relS scope X.env.scope).names.lookup z = some .local := by first | exact .inl rfl | exact .inr rfl) :
    MapTurn X scope vs (.Tuple [.Name y p, .Name z p'] kt pt) elt σ (.ref q) H R := by
  intro s H0 C cl fp
  refine g_tup (gs_cons (g_name (i := i) (gs_cons (g_name (i := j) (gs_nil ⟨hw, But.refl, h⟩) hN hj hx2 hf2)) hN hi hx hf)) hc hq
theorem e_reverse (h : wE X o σ H fun x H1 => ∃ q xs, x = .ref q ∧ H1 q = some (.lst xs) ∧ Q .non (upd H1 q (.lst xs.reverse)))
    (hbase : attributeBase o "reverse" X.env (eval o X.env) = eval o X.env := by rfl) (hline : (apos.endLine == pos.line) = true := by rfl)
    : wE X (.Call (.Attribute o "reverse" apos) [] [] pos) σ H Q :=
  eE (pe_bm0 PySem.F.plainAttrs_list PySem.F.slot_list_reverse PySem.F.type_list_reverse mt_reverse pE hbase hline)
    (wE_mono h fun x H1 ⟨q, xs, e1, h0, h1⟩ => ⟨by rw [e1]; exact .inl ⟨rfl, xs, .inl (.inl h0)⟩, ⟨q, xs, e1, rfl, h0, h1⟩⟩)
theorem e_clear (h : wE X o σ H fun x H1 => ∃ q xs, x = .ref q ∧ H1 q = some (.lst xs) ∧ Q .non (upd H1 q (.lst [])))
    (hbase : attributeBase o "clear" X.env (eval o X.env) = eval o X.env := by rfl) (hline : (apos.endLine == pos.line) = true := by rfl)
    : wE X (.Call (.Attribute o "clear" apos) [] [] pos) σ H Q :=
  eE (pe_bm0 PySem.F.plainAttrs_list PySem.F.slot_list_clear PySem.F.type_list_clear mt_clear pE hbase hline)
    (wE_mono h fun x H1 ⟨q, xs, e1, h0, h1⟩ => ⟨by rw [e1]; exact .inl ⟨rfl, xs, .inl (.inl h0)⟩, ⟨q, xs, e1, rfl, h0, h1⟩⟩)
theorem o_rep {q : Addr} {xs : List V} {n : Nat} (h1 : H q = some (.lst xs)) (hz : xs.length * n ≤ sizeLine) (hn : n < 2 ^ 62) (h : ∀ p, H p = none → Q (.ref p) (upd H p (.lst (List.replicate n xs).flatten))) : oW X (binaryOp .Mult) (.ref q) (.int n) H Q :=
  oW_of op_rep ⟨q, n, xs, rfl, rfl, h1, by omega, by omega, by simpa using hz, by simpa using h⟩
/-- while: the invariant with its measure -/
theorem s_while {D : Ends} {body : List Stmt} (C : Cxt X k W) (I : Nat → L2.St → Hp → Prop) (m0 : Nat) (h0 : I m0 σ H)
    (h : ∀ m σ H, I m σ H → wT X c σ H fun b H1 => if b = true then wB X body { D with nx := fun σ' H' => ∃ m', m' < m ∧ I m' σ' H', ct := fun σ' H' => ∃ m', m' < m ∧ I m' σ' H', bk := D.nx } σ H1 else D.nx σ H1) : wS X (.While c body [] pos) D σ H := by
  refine eS (ps_while C.po pT pB) ⟨I, ⟨m0, h0⟩, fun m σ H hi => wT_mono (h m σ H hi) fun b H1 q => ?_⟩
  cases b with
  | true => exact ⟨fun σ' H' => ∃ m', m' < m ∧ I m' σ' H', fun _ _ q => q, q⟩
  | false => exact q
end
mutual
theorem eqv_same : ∀ {d : PyData}, d.hasDict = false → PyData.eqv d d = true
  | .none, _ => rfl
  | .bool b, _ => by simp [PyData.eqv]
  | .int i, _ => by simp [PyData.eqv]
  | .str x, _ => by simp [PyData.eqv]
  | .list xs, h => by rw [PyData.eqv]; exact eqvAll_same (by simpa [PyData.hasDict] using h)
  | .tuple xs, h => by rw [PyData.eqv]; exact eqvAll_same (by simpa [PyData.hasDict] using h)
  | .dict _, h => by simp [PyData.hasDict] at h
theorem eqvAll_same : ∀ {ds : List PyData}, PyData.hasDictAll ds = false → PyData.eqvAll ds ds = true
  | [], _ => rfl
  | x :: xs, h => by
    simp only [PyData.hasDictAll, Bool.or_eq_false_iff] at h
    rw [PyData.eqvAll, eqv_same h.1, eqvAll_same h.2]
    rfl
end
end Z

set_option Elab.async false
set_option linter.all false
set_option maxRecDepth 100000
set_option maxHeartbeats 4000000
/-! objects of own classes compared -/
namespace Z
open PySem PySem.Spec PyProof.Rows L2 C8
section
variable {X : Cx} {k : Nat} {W : WX} {σ : L2.St} {H : Hp} {e a b : Expr} {p pos : Pos} {Q : VK} {x : Str}
theorem but_ext {H H' : Hp} (e : Ext H H') : But [] H H' := fun q o _ h => e q o h
theorem ext_but {H H' : Hp} (e : But [] H H') : Ext H H' := fun q o h => e q o (by simp) h
/-- x == y by the own __eq__ of the class at C -/
theorem c_eqI {C : Addr} {ps : List Str} {R : Addr → Addr → Hp → Prop} {y z : V} (Cc : Cxt X k W) (M : MethOk X.prog X.w X.K X.mg X.base k C "__eq__" ps (spEq R)) (d : DIns C R y z H) (q : ∀ H', But [] H H' → Q (.bl true) H') : oW X (compareOp .Eq) y z H Q := by
  obtain ⟨f, fd, hm, F, hb⟩ := M.ex
  exact oW_of (op_eqG (rcG_ins F hm.at_ hm.fn hb (passes0 Cc.tk)) Cc.room) ⟨d, fun H' e => q H' (but_ext e)⟩
/-- isinstance(e, C), e an instance of the own class C -/
theorem e_isC {C : Addr} {pT : Pos} (B : Blt X.mg X.base) (c : InsC X.K C) (hT : X.mg x = some (.ref C)) (h : wE X a σ H fun v H1 => ∃ r dx fs, v = .ref r ∧ H1 r = some (.ins C dx fs) ∧ Q (.bl true) H1) (hgT : Gl X x := by rfl) (hdT : (x == ("__debug__" : Str)) = false := by decide) (hgl : Gl X "isinstance" := by rfl)
    (hs : starEach [a, .Name x pT] X.env = (false, eval a X.env) :: starEach [.Name x pT] X.env := by rfl) (hs2 : starEach [.Name x pT] X.env = [(false, eval (.Name x pT) X.env)] := by rfl) :
    wE X (.Call (.Name "isinstance" p) [a, .Name x pT] [] pos) σ H Q :=
  e_B (id := "isinstance") (a_cons (wE_mono h fun v H1 ⟨r, dx, fs, e1, h1, q⟩ => a_cons (e_glob (v := .ref C) (a_nil (cW_of (call_isC c) ⟨r, dx, fs, by rw [e1], h1, q⟩)) hT rfl hgT hdT) hs2) hs)
    B.isinstance PyProof.Rows.boot_isinstance hgl (by decide) (by decide) hs (by rw [hs2]; rfl)
theorem c_eqDict {d1 d2 : Addr} {kvs : List (Key × V)} (C : Cxt X k W) (h1 : H d1 = some (.dK kvs)) (h2 : H d2 = some (.dK kvs)) (nd : (kvs.map (·.1)).Nodup) (fl : ∀ p ∈ kvs, flatB p.2 = true) (q : Q (.bl true) H) : oW X (compareOp .Eq) (.ref d1) (.ref d2) H Q :=
  oW_of (op_eq_dict (by have := C.un; omega)) ⟨d1, d2, kvs, rfl, rfl, h1, h2, nd, fl, q⟩
end
theorem strOk_ascii {x : Str} (h : ∀ c ∈ x.cps.toList, c < 128) : PyData.strOk x = true := by
  simp only [PyData.strOk, Array.all_eq_true', decide_eq_true_eq]
  intro c hc
  have := h c (by simpa using hc)
  omega
end Z

set_option Elab.async false
set_option linter.all false
set_option maxRecDepth 100000
set_option maxHeartbeats 4000000
/-! names set in pairs and threes -/
namespace Z
open PySem PySem.Spec PyProof.Rows L2
section
variable {X : Cx} {k : Nat} {W : WX} {σ : L2.St} {H : Hp} {a b c : Expr} {x y z : Str} {px py pz pt pt2 pos : Pos} {kt k2}
theorem s_par {D : Ends} {i j : Nat} (C : Cxt X k W) (h : wA X [a, b] σ H fun vs H1 => ∃ v w, vs = [v, w] ∧ D.nx ((σ.set i (some v)).set j (some w)) H1) (hi : X.N[i]? = some x := by rfl) (hj : X.N[j]? = some y := by rfl) (hij : i ≠ j := by decide)
    (hx : X.env.scope.names.lookup x = some .local := by rfl) (hy : X.env.scope.names.lookup y = some .local := by rfl)
    (hw : swappedStores [.Tuple [.Name x px, .Name y py] kt pt] (.Tuple [a, b] k2 pt2) X.env = pure (some [x, y]) := by rfl)
    (hs : swapsWithSole [.Tuple [.Name x px, .Name y py] kt pt] (.Tuple [a, b] k2 pt2) pos.line X.env = pure false := by rfl) : wS X (.Assign [.Tuple [.Name x px, .Name y py] kt pt] (.Tuple [a, b] k2 pt2) pos) D σ H :=
  eS (ps_par C.calm C.nd hi hj hij hx hy pA hw hs) h
theorem s_par3 {D : Ends} {i j l : Nat} (C : Cxt X k W) (h : wA X [a, b, c] σ H fun vs H1 => ∃ u v w, vs = [u, v, w] ∧ D.nx (((σ.set i (some u)).set j (some v)).set l (some w)) H1) (hi : X.N[i]? = some x := by rfl) (hj : X.N[j]? = some y := by rfl) (hl : X.N[l]? = some z := by rfl)
    (hij : i ≠ j := by decide) (hil : i ≠ l := by decide) (hjl : j ≠ l := by decide) (hx : X.env.scope.names.lookup x = some .local := by rfl) (hy : X.env.scope.names.lookup y = some .local := by rfl) (hz : X.env.scope.names.lookup z = some .local := by rfl)
    (hw : swappedStores [.Tuple [.Name x px, .Name y py, .Name z pz] kt pt] (.Tuple [a, b, c] k2 pt2) X.env = pure (some [x, y, z]) := by rfl)
    (hs : swapsWithSole [.Tuple [.Name x px, .Name y py, .Name z pz] kt pt] (.Tuple [a, b, c] k2 pt2) pos.line X.env = pure false := by rfl) : wS X (.Assign [.Tuple [.Name x px, .Name y py, .Name z pz] kt pt] (.Tuple [a, b, c] k2 pt2) pos) D σ H :=
  eS (ps_par3 C.calm C.nd hi hj hl hij hil hjl hx hy hz pA hw hs) h
end
end Z

set_option Elab.async false
set_option linter.all false
set_option maxRecDepth 100000
set_option maxHeartbeats 4000000
/-! what the head's facts give: tuples and dicts of the text, classes -/
namespace Z
open PySem PySem.Spec PyProof.Rows L2
section
variable {w : World} {K : PySem.W.Frag} {mg : Str → Option Value} {h : Heap}
theorem sqt_mk {a : Addr} {its : Array Value} {n : Nat} {dd : Option Addr} {sl : Array (Option Value)} {xs : List V} (l : K.lookup a = some ⟨.type "tuple", dd, .seq its n, sl⟩) (v : Vals xs its.toList) (z : its.size ≤ 16777216) : ∀ H, SqT K H a xs :=
  fun H => .inr ⟨_, its, n, l, rfl, rfl, by rw [sizeLine_eq]; exact z, v⟩
theorem kdct_mk {a : Addr} {x : Str} {v : V} {u : Value} {es : Array DictEntry} {n : Nat} (l : K.lookup a = some ⟨.type "dict", none, .dict es n, #[]⟩) (kl : PySem.W.KeysLit w.params es.toList) (e : PySem.W.nsIn K a x = some (some u)) (r : RelV v u) : KDct K w a x v := ⟨es, n, u, l, kl, e, r⟩
end
end Z

set_option Elab.async false
set_option linter.all false
set_option maxRecDepth 100000
set_option maxHeartbeats 4000000
namespace K21
open PySem PySem.Spec PyProof.Rows L2 Z
def top (i : Nat) : Stmt := PySem.Challenge.pw_frontlines_k21_relays_told.main.body.getD i (.Pass ⟨0, 0, 0, 0⟩)
/-! ### plain -/
def known : Str := "abcdefghijklmnopqrstuvwxyz0123456789.-=>|"
def isInteger (d : PyData) : Bool := isInt d && !isBool d
def ascends : List Nat → Bool
  | a :: b :: r => decide (a < b) && ascends (b :: r)
  | _ => true
def strSigns (x : Str) : Bool := decide (2 ≤ x.length) && decide (x.length ≤ 4) && x.cps.toList.all (fun c => decide (c ∈ known.cps.toList)) && ascends x.cps.toList
def lenOk : PyData → Bool
  | .str x => decide (2 ≤ x.length) && decide (x.length ≤ 4)
  | _ => false
def areSigns : PyData → Bool
  | .str x => strSigns x
  | _ => false
/-- the constants of the text -/
structure Consts (mg : Str → Option Value) : Prop where
  known : ∃ u, mg "KNOWN_SIGNS" = some u ∧ RelV (.str known) u
  least : ∃ u, mg "LEAST_SIGNS" = some u ∧ RelV (.int 2) u
  most : ∃ u, mg "MOST_SIGNS" = some u ∧ RelV (.int 4) u
section
variable {P : Program} {w : World} {K : PySem.W.Frag} {mg : Str → Option Value} {base : Heap}
theorem known_ascii : ∀ c, c ∈ known.cps.toList → c < 128 := by decide +kernel
theorem zip_ascends : ∀ l : List Nat, ((l.zip (l.drop 1)).map fun q => decide (q.1 < q.2)).all id = ascends l
  | [] => rfl
  | [_] => rfl
  | a :: b :: r => by
    have ih := zip_ascends (b :: r)
    simp only [List.drop_succ_cons, List.drop_zero, List.zip_cons_cons, List.map_cons, List.all_cons, id_eq, ascends] at ih ⊢
    rw [← ih]
theorem lt_one {a b : Nat} : decide ((⟨#[a]⟩ : Str).cps.toList < (⟨#[b]⟩ : Str).cps.toList) = decide (a < b) := by
  rw [decide_eq_decide]
  show [a] < [b] ↔ a < b
  simp [List.cons_lt_cons_iff]
/-- one datum in, a bool out, nothing changed -/
def fits : PyData → Prop
  | .str x => x.length ≤ sizeLine
  | _ => True
def sp1 (K : PySem.W.Frag) (f : PyData → Bool) : Sp := fun vs H Q _ => ∃ v l d, vs = [v] ∧ DD K l H v d ∧ fits d ∧ ∀ H', But [] H H' → Q (.bl (f d)) H'
theorem sp1_len {f : PyData → Bool} : ∀ vs H Q E, sp1 K f vs H Q E → vs.length = (["value"] : List Str).length := fun vs H Q E ⟨v, l, d, e, _⟩ => by rw [e]; rfl
theorem sc10 : FnScope ["value", "sign", "one", "other"] ["value"] (defScope (top 15)) := ⟨rfl, rfl, rfl, by decide +kernel, rfl, by decide +kernel, by decide +kernel⟩
theorem d_areSigns (B : Blt mg base) (D : At K mg "are_signs" (top 15)) (T : Consts mg) : Def P w K mg base 1 "are_signs" (top 15) ["value"] (sp1 K areSigns) := by
  refine def_of D B sc10 sp1_len fun f cdv A outer s H vs Q E hm C h => ?_
  obtain ⟨v, l, d, rfl, hd, hf, q⟩ := h
  obtain ⟨uK, hK, rK⟩ := T.known
  obtain ⟨u2, h2, r2⟩ := T.least
  obtain ⟨u4, h4, r4⟩ := T.most
  have rd : ∀ {H1}, But [] H H1 → DD K l H1 v d := fun b => hd.but (b.mono (by simp))
  refine b_cons (s_ifB (!lenOk d) ?_ (fun e H1 b1 => ?_) (fun e H1 b1 => ?_))
  · refine t_boolop (w_or (t_not (t_val (e_isi B kit_str B.str PyProof.Rows.boot_str (e_name 0 ⟨l, d, hd, isStr d, rfl, ?_⟩)))))
    refine ite_b (fun e => ⟨?_, But.refl⟩) fun e => ?_
    · cases d <;> simp_all [isStr, lenOk]
    · obtain ⟨x, rfl⟩ : ∃ x, d = .str x := by cases d <;> simp [isStr] at e; exact ⟨_, rfl⟩
      cases hd
      refine w_or1 (t_not (t_chain (e_glob (e_len B (e_name 0 ?_)) h2 r2)))
      refine ⟨x.length, ⟨hf, rfl⟩, c_le ⟨_, rfl, ite_b (fun e => e_glob (c_le ⟨_, rfl, ?_, But.refl⟩) h4 r4) fun e => ⟨_, rfl, ?_, But.refl⟩⟩⟩
      · have e := of_decide_eq_true e
        rw [lenOk, show decide (2 ≤ x.length) = true from decide_eq_true (by omega), Bool.true_and, Bool.not_eq_eq_eq_not, Bool.not_not, decide_eq_decide]
        omega
      · have e := of_decide_eq_false e
        rw [lenOk, show decide (2 ≤ x.length) = false from decide_eq_false (by omega)]
        rfl
  · refine b_cons (s_ret (e_bool ?_))
    have := q H1 b1
    have no : areSigns d = false := by cases d <;> simp_all [areSigns, strSigns, lenOk]; omega
    rwa [no] at this
  · obtain ⟨x, rfl⟩ : ∃ x, d = .str x := by cases d <;> simp [lenOk] at e; exact ⟨_, rfl⟩
    cases hd
    have hx : x.length ≤ sizeLine := hf
    have hsz : x.cps.size = x.length := rfl
    refine b_nil (b_cons (s_ifB (!(x.cps.toList.all fun c => decide (c ∈ known.cps.toList))) ?_ (fun e2 H2 b2 => ?_) (fun e2 H2 b2 => ?_)))
    · refine t_not (t_val (e_all C (e_lcM [("sign", 1)] C (i_str (e_name 0 ?_)))))
      refine ⟨x, rfl, _, _, _, (x.cps.toList.map fun c => V.bl (decide (c ∈ known.cps.toList))), walk_str, by simp, hx, fun _ _ => trivial, fun i y H2 H' hi b2 hy => ?_, fun Da H' b2 hn hl => ⟨Da, x.cps.toList.map fun c => decide (c ∈ known.cps.toList), rfl, .inl (.inl (by rw [hl, List.map_map]; rfl)), _, rfl, ?_, b2⟩⟩
      · obtain ⟨rfl, c, hc, rfl⟩ := hy
        refine ⟨But.refl, mt_name (i := 1) C.nd fun s H0 Ca cl fp => e_cmp (e_name 1 (e_glob (c_inSign ⟨?_, But.refl⟩) hK rK))⟩
        simp [← Array.getElem?_toList] at hc
        simp [hc]
      · simp [Function.comp_def]
    · refine b_cons (s_ret (e_bool ?_))
      have := q H2 (b1.trans b2)
      have no : areSigns (.str x) = false := by simp only [areSigns, strSigns]; simp only [Bool.not_eq_true'] at e2; rw [e2]; simp
      rwa [no] at this
    · have hall : (x.cps.toList.all fun c => decide (c ∈ known.cps.toList)) = true := by simpa using e2
      have asc : ∀ z : Str, (∀ c ∈ z.cps.toList, c ∈ x.cps.toList) → z.cps.all (· < 128) = true := fun z hz => by
        rw [Array.all_eq_true']
        intro c hc
        have := List.all_eq_true.mp hall c (hz c (by simpa using hc))
        simpa using known_ascii c (by simpa using this)
      refine b_nil (b_cons (s_ret (e_all C (e_lcM [("one", 2), ("other", 3)] C (i_zipS B (e_name 0 ?_))))))
      refine e_slice sl_str (e_name 0 ?_)
      refine p_some (e_int ⟨1, rfl, p_none ⟨x, rfl, hx, ?_⟩⟩)
      have hcut : (cutS x (some 1) none).cps.toList = x.cps.toList.drop 1 := by
        show (((x.cps.toList.drop (HT.sIx x.length 0 (some ((1 : Nat) : Int)))).take (HT.sIx x.length x.length none - HT.sIx x.length 0 (some ((1 : Nat) : Int)))).toArray).toList = _
        have hl : x.cps.toList.length = x.length := by simp [hsz]
        rw [HT.sIx_nat, HT.sIx_none, List.toList_toArray]
        by_cases h0 : 1 ≤ x.length
        · rw [Nat.min_eq_left h0, List.take_of_length_le (by rw [List.length_drop]; omega)]
        · have h1 : x.length = 0 := by omega
          have h2 : x.cps.toList = [] := List.eq_nil_of_length_eq_zero (by omega)
          simp [h2]
      refine ⟨x, _, rfl, rfl, asc x (fun _ h => h), asc _ (fun c hc => by rw [hcut] at hc; exact List.mem_of_mem_drop hc), _, _, _, ((x.cps.toList.zip (x.cps.toList.drop 1)).map fun q => V.bl (decide (q.1 < q.2))), walk_zipS rfl, ?_, ?_, fun _ _ => trivial, fun i y H3 H' hi b3 hy => ?_, fun Da H' b3 hn hl => ?_⟩
      · rw [← Array.length_toList (xs := (cutS x (some 1) none).cps), hcut]
        simp
      · omega
      · obtain ⟨T, c, c', rfl, hT, rfl, hc, hc'⟩ := hy
        refine ⟨But.new hT, mt_pair (i := 2) (j := 3) rfl C.nd upd_same fun s H0 Ca cl fp => e_cmp (e_name 2 (e_name 3 (c_ltS ⟨?_, But.refl⟩)))⟩
        rw [← Array.getElem?_toList] at hc hc'
        rw [hcut] at hc'
        rw [List.getElem?_map, (List.getElem?_zip_eq_some (z := (c, c'))).mpr ⟨hc, hc'⟩, lt_one]
        rfl
      · refine ⟨Da, (x.cps.toList.zip (x.cps.toList.drop 1)).map fun q => decide (q.1 < q.2), rfl, .inl (.inl (by rw [hl, List.map_map]; rfl)), ?_⟩
        rw [zip_ascends]
        have := q H' (b1.trans (b2.trans b3))
        have e3 : areSigns (.str x) = ascends x.cps.toList := by
          simp only [areSigns, strSigns, hall]
          have : lenOk (.str x) = true := by simpa using e
          simp only [lenOk] at this
          rw [this]
          rfl
        rwa [e3] at this
/-! ### the refusals -/
/-- one datum is wanted: None, or the error of the class at C with it -/
def spWant (K : PySem.W.Frag) (f : PyData → Bool) (C : Addr) : Sp := fun vs H Q E => ∃ v l d, vs = [v] ∧ DD K l H v d ∧ fits d ∧ (f d = true → ∀ H', But [] H H' → Q .non H') ∧
  (f d = false → ∀ dd H', But [] H H' → H' dd = some (.xd [("value", v)]) → E (.ref C) (some dd) H')
theorem DD.fit {l : List Addr} {H : Hp} {v : V} {d : PyData} (h : DD K l H v d) (H' : Hp) (b : But [] H H') : DD K l H' v d := h.but (b.mono (by simp))
theorem sc11 : FnScope ["value"] ["value"] (defScope (top 16)) := ⟨rfl, rfl, rfl, by decide +kernel, rfl, by decide +kernel, by decide +kernel⟩
theorem d_wantSigns {CS : Addr} (B : Blt mg base) (D : At K mg "want_signs" (top 16)) (D1 : Def P w K mg base 1 "are_signs" (top 15) ["value"] (sp1 K areSigns)) (E1 : ErrOk P w K mg base "InvalidSigns" "value" CS) :
    Def P w K mg base 3 "want_signs" (top 16) ["value"] (spWant K areSigns CS) := by
  refine def_of D B sc11 (fun vs H Q E ⟨v, l, d, e, _⟩ => by rw [e]; rfl) fun f cdv A outer s H vs Q E hm C h => ?_
  obtain ⟨v, l, d, rfl, hd, hf, q1, q2⟩ := h
  refine b_cons (s_ifB (!areSigns d) ?_ (fun e H1 b1 => ?_) (fun e H1 b1 => ?_))
  · refine t_not (t_val (e_call (C.mono (by decide)) (D1.mono (Nat.le_refl _)) (a_cons (e_name 0 (a_nil ?_))) rfl (fun _ _ _ _ _ _ us hl => match us, hl with | [_], _ => rfl)))
    exact ⟨v, l, d, rfl, hd, hf, fun H' b => ⟨_, rfl, rfl, b⟩⟩
  · refine b_cons (s_raise1 C E1 (by decide) (e_name 0 fun dd H' b2 hn hx => ?_))
    exact q2 (by simpa using e) dd H' (b1.trans b2) hx
  · exact b_nil (b_nil (q1 (by simpa using e) H1 b1))
/-! ### lines -/
def isLine (g : Str) : PyData → Bool
  | .str x => x.cps.toList.all fun c => decide (c ∈ g.cps.toList)
  | _ => false
def spLine (K : PySem.W.Frag) : Sp := fun vs H Q _ => ∃ g v l d, vs = [.str g, v] ∧ DD K l H v d ∧ fits d ∧ ∀ H', But [] H H' → Q (.bl (isLine g d)) H'
theorem sc12 : FnScope ["signs", "value", "sign"] ["signs", "value"] (defScope (top 17)) := ⟨rfl, rfl, rfl, by decide +kernel, rfl, by decide +kernel, by decide +kernel⟩
theorem d_isLine (B : Blt mg base) (D : At K mg "is_line" (top 17)) : Def P w K mg base 1 "is_line" (top 17) ["signs", "value"] (spLine K) := by
  refine def_of D B sc12 (fun vs H Q E ⟨g, v, l, d, e, _⟩ => by rw [e]; rfl) fun f cdv A outer s H vs Q E hm C h => ?_
  obtain ⟨g, v, l, d, rfl, hd, hf, q⟩ := h
  refine b_cons (s_ret (e_and (e_isi B kit_str B.str PyProof.Rows.boot_str (e_name 1 ⟨l, d, hd, isStr d, rfl, ite_b (fun e => ?_) fun e => ?_⟩))))
  · obtain ⟨x, rfl⟩ : ∃ x, d = .str x := by cases d <;> simp [isStr] at e; exact ⟨_, rfl⟩
    cases hd
    refine e_one (e_all C (e_lcM [("sign", 2)] C (i_str (e_name 1 ?_))))
    refine ⟨x, rfl, _, _, _, (x.cps.toList.map fun c => V.bl (decide (c ∈ g.cps.toList))), walk_str, by simp, hf, fun _ _ => trivial, fun i y H2 H' hi b2 hy => ?_, fun Da H' b2 hn hl => ⟨Da, x.cps.toList.map fun c => decide (c ∈ g.cps.toList), rfl, .inl (.inl (by rw [hl, List.map_map]; rfl)), ?_⟩⟩
    · obtain ⟨rfl, c, hc, rfl⟩ := hy
      refine ⟨But.refl, mt_name (i := 2) C.nd fun s H0 Ca cl fp => e_cmp (e_name 2 (e_name 0 (c_inSign ⟨?_, But.refl⟩)))⟩
      simp [← Array.getElem?_toList] at hc
      simp [hc]
    · have := q H' b2
      simpa [isLine, Function.comp_def] using this
  · have := q H But.refl
    have no : isLine g d = false := by cases d <;> simp_all [isLine, isStr]
    rwa [no] at this
end
end K21

set_option Elab.async false
set_option linter.all false
set_option maxRecDepth 100000
set_option maxHeartbeats 4000000
/-! enumerate of a tuple -/
namespace Z
open PySem PySem.Spec PyProof.Rows L2
open AutoSeq1 (wpAny_loadPart')
theorem meets_enumerate_new1 (t : Addr) (items : Array Value) (n : Nat) (dct : Option Addr) (sl : Array (Option Value)) :
    Meets (Builtin.«enumerate.__new__» ⟨[.type "enumerate", .ref t], []⟩) (fun _ R s => s.heap.get? t = some { cls := .type "tuple", dict := dct, data := .seq items n, slots := sl } ∧
      R (.ok (.ret (.ref (s.heap.push { cls := .type "tuple_iterator", data := .fields #[.ref t, .int 0 0] }).objs.size)))
        { s with heap := (s.heap.push { cls := .type "tuple_iterator", data := .fields #[.ref t, .int 0 0] }).push { cls := .type "enumerate", data := .fields #[.none, .bool false, .ref s.heap.objs.size, rawInt 0, .none, .none] } }) :=
  .of_wp fun prog w A R s h => by
    obtain ⟨hp, g, d, tk, os⟩ := s; obtain ⟨hl, h⟩ := h
    have hsub := sub_enumerate
    have hL : Heap.IsTuple (Shared.heap ⟨hp, g, d, tk, os⟩) t items := ⟨_, hl, rfl, n, rfl⟩
    wp_walk using wpAny_loadPart' hl
    refine wpAny_stack_any fun st => wpAny_pure ?_
    split
    · rename_i c _ _ _ _ _
      cases (c == Value.type "enumerate")
      · wp_walk using wpAny_loadPart' hl, wpAny_pyIter_tuple hL
        exact ⟨_, rfl, h⟩
      · wp_walk using wpAny_loadPart' hl, wpAny_pyIter_tuple hL
        exact ⟨_, rfl, h⟩
    · wp_walk using wpAny_loadPart' hl, wpAny_pyIter_tuple hL
      exact ⟨_, rfl, h⟩
section
variable {prog : Program} {w : World} {A : Around} {E : Value → Shared → Prop} {s : Shared}
theorem call_enumerate_tuple {t : Addr} {items : Array Value} {Q : Value → Shared → Prop} (hL : s.heap.IsTuple t items)
    (h : ∀ h', IsEnum h' (s.heap.objs.size + 1) s.heap.objs.size 0 .none → h'.IsTupleIter s.heap.objs.size t 0 → h'.objs.size = s.heap.objs.size + 2 →
      (∀ b o, s.heap.get? b = some o → h'.get? b = some o) → Q (.ref (s.heap.objs.size + 1)) { s with heap := h' }) :
    wpAny (model prog w) A (call (.type "enumerate") [.ref t]) Q E s := by
  obtain ⟨⟨c, dct, dt, sl⟩, hl, hc, n, hd⟩ := hL
  replace hc : c = .type "tuple" := hc
  replace hd : dt = .seq items n := hd
  subst hc hd
  refine callType_new F.called_enumerate (by decide) (F.typeCall_enumerate_1 _) (F.newCall_enumerate_1 _) (fun obj => F.args_object_init_2 obj _) F.entry_enumerate_new
    (meets_enumerate_new1 t items n dct sl) ⟨hl, ?_⟩
  have hz : (s.heap.push { cls := .type "tuple_iterator", data := .fields #[.ref t, .int 0 0] }).objs.size = s.heap.objs.size + 1 := Heap.size_push ..
  show _ ∧ _
  rw [hz]
  have he : IsEnum ((s.heap.push { cls := .type "tuple_iterator", data := .fields #[.ref t, .int 0 0] }).push
      { cls := .type "enumerate", data := .fields #[.none, .bool false, .ref s.heap.objs.size, rawInt 0, .none, .none] }) (s.heap.objs.size + 1) s.heap.objs.size 0 .none := by
    have := Heap.get?_push_size (s.heap.push { cls := .type "tuple_iterator", data := .fields #[.ref t, .int 0 0] })
      (o := { cls := .type "enumerate", data := .fields #[.none, .bool false, .ref s.heap.objs.size, rawInt 0, .none, .none] }) rfl
    rw [hz] at this; exact this
  refine ⟨⟨_, he, rfl⟩, h _ he ⟨_, Heap.get?_push_of_some _ (Heap.get?_push_size _ rfl), rfl, rfl⟩ (by rw [Heap.size_push, hz]) fun b o x => Heap.get?_push_of_some _ (Heap.get?_push_of_some _ x)⟩
end
theorem wpAny_pyNext_enum_endT {prog : Program} {w : World} {A : Around} {E : Value → Shared → Prop} {s : Shared} {e it t : Addr} {i : Nat} {items : Array Value} {old : Value} {Q : Option Value → Shared → Prop} (hh : A.handled = none)
    (he : IsEnum s.heap e it ((i : Nat) : Int) old) (hit : s.heap.IsTupleIter it t i) (ht : s.heap.IsTuple t items) (hx : items[i]? = none)
    (hQ : ∀ h', Heap.ExtBut it s.heap h' → Q none { s with heap := h' }) : wpAny (model prog w) A (pyNext (.ref e)) Q E s := by
  have hT : s.TypeIs (.ref e) "enumerate" := ⟨_, he, rfl⟩
  unfold pyNext
  refine wpAny_bind (wpAny_attempt (wpAny_callSpecial?_slot (name := Str.ofString "__next__") hT F.slot_enumerate_next
    (wpAny_call_entry F.slot_enumerate_next hT F.entry_enumerate_next ?_ (F.args_enumerate_next_1 _))))
  show wpAny _ _ (field (.ref e) 2 >>= _) _ _ _
  refine wpAny_bind (wpAny_field he rfl (x := .ref it) rfl ?_)
  refine wpAny_bind (wpAny_nextOf_tuple_end (show A.in1.handled = none from hh) hit ht hx fun h' x he' hx' => ?_)
  obtain ⟨o, ho, hc⟩ := hx'
  refine wpAny_bind (wpAny_isInstance (T := "StopIteration") (b := true) ⟨o, ho, hc⟩ isSubtype_stop ?_)
  exact wpAny_pure (hQ _ he')
/-- the tuple at a, its items in new pairs -/
def Itet (K : PySem.W.Frag) (a : Addr) : It :=
  ⟨fun i H => ∃ (xs : List V) (x : V), SqT K H a xs ∧ xs[i]? = some x, fun i H v H' => ∃ T x, v = .ref T ∧ H T = none ∧ H' = upd H T (.tup [.int (i : Nat), x]) ∧ ∀ xs, SqT K H a xs → xs[i]? = some x, fun i H => ∃ xs : List V, SqT K H a xs ∧ xs.length ≤ i⟩
theorem tup_ne {h : Heap} {a b : Addr} {items : Array Value} {o : Obj} (ha : IsTup h a items) (hb : h.get? b = some o) (n : ¬ o.cls = .type "tuple") : a ≠ b := fun z => by
  obtain ⟨o', e, c, _⟩ := ha
  rw [z, hb] at e
  cases e
  exact n c
theorem turn_enumT {P : Program} {w : World} {K : PySem.W.Frag} {elts : List Expr} {kk : Nat} {tpos : Pos} (a e it : Addr) :
    Turn P w K (.Tuple elts kk tpos) (Itet K a) [e, it] e (fun i h => (∃ old, IsEnum h e it ((i : Nat) : Int) old) ∧ h.IsTupleIter it a i ∧ e ≠ it) where
  mem := by simp
  obj := fun i h st b hb => by
    obtain ⟨⟨old, he⟩, ⟨o, ho, hc, hd⟩, _⟩ := st
    have e' : b = e ∨ b = it := by simpa using hb
    rcases e' with z | z
    · rw [z]; exact ⟨_, he, fun v q => nomatch q⟩
    · rw [z]; exact ⟨o, ho, fun v q => by rw [hd] at q; cases q⟩
  keep := fun i h h' st k => let ⟨⟨old, he⟩, hi, hne⟩ := st; ⟨⟨old, k e (by simp) _ he⟩, hi.at fun o q => k it (by simp) o q, hne⟩
  item := by
    intro X hP hw hK hc i pins s σ H E I hf st hg
    subst hP hw hK
    obtain ⟨⟨old, he⟩, hit, hne⟩ := st
    obtain ⟨xs, x, hq, hx⟩ := hg
    obtain ⟨its, rv, p, hz⟩ := I.tuple hq
    obtain ⟨u, hu, ru⟩ := rv.get hx
    have hel : e < s.heap.objs.size := Heap.lt_size he
    have hil : it < s.heap.objs.size := by obtain ⟨_, q, _⟩ := hit; exact Heap.lt_size q
    have nae : a ≠ e := tup_ne p he (fun z => absurd (Value.type.inj z) (by decide))
    have nai : a ≠ it := by
      obtain ⟨oi, hoi, hci, _⟩ := hit
      exact tup_ne p hoi (by rw [hci]; exact fun z => absurd (Value.type.inj z) (by decide))
    have hlt : i < its.toArray.size := by
      have := (List.getElem?_eq_some_iff.mp hu).1
      simpa using this
    refine wpAny_pyNext_enum_itemC (Draws.tuple (show X.A.in1.handled = none from I.ok.hd hc) it a nai its.toArray) he ⟨hit, p⟩ hlt hne (by simp [hne, nae.symm]) fun x' h' tk hP ho hst' hT hsz hk => ?_
    obtain ⟨hit', p'⟩ := hst'
    have hxu : x' = u := by
      have h1 : its.toArray[i]? = some x' := hP
      rw [← Array.getElem?_toList] at h1
      rw [show its.toArray.toList = its from by simp, hu] at h1
      exact (Option.some.inj h1).symm
    subst hxu
    refine ⟨_, rfl, wpAny_letOwnedTupleGo_enum (s := { s with heap := h', toks := tk + 1 }) ho fun h'' he' sb => ?_⟩
    have hT2 : h''.get? s.heap.objs.size = some { cls := .type "tuple", data := .seq #[.int i tk, x'] } := (sb.2 _ (Nat.ne_of_gt hel)).trans hT
    have new : ObjOk X.prog X.w (upd H s.heap.objs.size (.tup [.int (i : Nat), x])) h'' s.heap.objs.size (.tup [.int (i : Nat), x]) :=
      ⟨by show 2 ≤ sizeLine; decide, [.int i tk, x'], .cons ⟨_, rfl⟩ (.cons ru .nil), ⟨_, hT2, rfl, _, rfl⟩⟩
    have I1 : Inv X pins σ (upd H s.heap.objs.size (.tup [.int (i : Nat), x])) { s with heap := h'', toks := tk + 1 } :=
      I.turnedNew (ch := [e, it]) (fun b ob hb q => (sb.2 b (fun z => hb (by simp [z]))).trans (hk b ob (fun z => hb (by simp [z])) (fun z => hb (by simp [z])) q)) hf (Nat.le_refl _) new
    refine ⟨.ref s.heap.objs.size, _, I1, rfl, ⟨_, x, rfl, I.hok.fresh (Nat.le_refl _), rfl, fun ys hy => by rw [I.tuple_inj hy hq]; exact hx⟩, ⟨⟨x', ?_⟩, hit'.at fun o q => (sb.2 it (Ne.symm hne)).trans q, hne⟩, fun b hb => ?_⟩
    · have e1 : ((i + 1 : Nat) : Int) = (i : Int) + 1 := by omega
      rw [e1]; exact he'
    · have hb' : b < s.heap.objs.size := by
        have e' : b = e ∨ b = it := by simpa using hb
        rcases e' with z | z
        · rw [z]; exact hel
        · rw [z]; exact hil
      rw [upd_ne (Nat.ne_of_lt hb')]
      exact (hf b hb).1
  done := by
    intro X hP hw hK hc i pins s σ H E I hf st hg
    subst hP hw hK
    obtain ⟨⟨old, he⟩, hit, hne⟩ := st
    obtain ⟨xs, hq, hx⟩ := hg
    obtain ⟨its, rv, p, hz⟩ := I.tuple hq
    obtain ⟨f0, f1, f2, f3, f4, f5⟩ := hf it (by simp)
    have hl := rv.length
    exact wpAny_pyNext_enum_endT (I.ok.hd hc) he hit p (by simp; omega) fun h' eb => ⟨rfl, I.turned (t' := s.toks) (fun b o hb q => eb b o hb q) f0 f1 f3 f4 f5⟩
  self := fun A i s Q E st h => let ⟨⟨_, he⟩, _⟩ := st; wpAny_pyIter_enum he h
def iEnumT (K : PySem.W.Frag) (ta : TA) : TI := fun σ H R => ta σ H fun vs H1 => ∃ a xs, vs = [.ref a] ∧ SqT K H1 a xs ∧ R (Itet K a) H1
theorem pi_enumT {X : Cx} {e : Expr} {ta : TA} {p pos tpos : Pos} {elts : List Expr} {kk : Nat} (hg : Gl X "enumerate") (hm : X.mg "enumerate" = none) (ha : PA X [e] ta) (hs : starEach [e] X.env = [(false, eval e X.env)] := by rfl) :
    PI X (.Tuple elts kk tpos) (.Call (.Name "enumerate" p) [e] [] pos) (iEnumT X.K ta) := by
  refine ⟨fun pins s σ H R I h => ?_⟩
  refine Call_ (ld_blt I hg hm boot_enumerate (PyProof.Rows.callWith_type1 (thn (ha.run pos pins s σ H _ I h) fun us s1 ⟨vs, H1, I1, r1, q1⟩ => ?_) hs rfl))
  obtain ⟨a, xs, ex, hq, q⟩ := q1
  subst ex
  cases r1 with
  | cons r rr =>
    cases rr
    cases r
    obtain ⟨its, rv, p', hz⟩ := I1.tuple hq
    refine call_enumerate_tuple (show s1.heap.IsTuple a its.toArray from p') fun h' he hit hsz hk => wpAny_pyIter_enum he ?_
    have I2 : Inv X pins σ H1 { s1 with heap := h' } := I1.kept (t' := s1.toks) hk
    refine ⟨s1.heap.objs.size + 1, [s1.heap.objs.size + 1, s1.heap.objs.size], _, _, H1, rfl, I2, turn_enumT a (s1.heap.objs.size + 1) s1.heap.objs.size, ⟨⟨.none, he⟩, hit, Nat.succ_ne_self _⟩, fun b hb => ?_, q⟩
    have e' : b = s1.heap.objs.size + 1 ∨ b = s1.heap.objs.size := by simpa using hb
    have hle : s1.heap.objs.size ≤ b := by
      rcases e' with z | z
      · rw [z]; exact Nat.le_add_right _ _
      · rw [z]; exact Nat.le_refl _
    exact I1.fpOk hle (I1.hok.fresh hle)
theorem walk_enumT {K : PySem.W.Frag} {a : Addr} {xs : List V} : Walk (Itet K a) xs.length (fun H => SqT K H a xs) (YPair (fun i => some (.int (i : Nat))) (fun i => xs[i]?)) := by
  refine ⟨fun i _ hi q => ⟨xs, xs[i], q, by simp [hi]⟩, fun _ q => ⟨xs, q, Nat.le_refl _⟩, fun i H v H' _ q y => ?_⟩
  obtain ⟨T, x, h1, h2, h3, h4⟩ := y
  exact ⟨T, .int (i : Nat), x, h1, h2, h3, rfl, h4 xs q⟩
section
variable {X : Cx} {σ : L2.St} {H : Hp} {e : Expr} {elts : List Expr} {kk : Nat} {p pos tpos : Pos}
theorem i_enumT {R : It → Hp → Prop} (B : Blt X.mg X.base) (h : wE X e σ H fun v H1 => ∃ a xs, v = .ref a ∧ SqT X.K H1 a xs ∧ R (Itet X.K a) H1) (hg : Gl X "enumerate" := by rfl) (hs : starEach [e] X.env = [(false, eval e X.env)] := by rfl) :
    wI X (.Tuple elts kk tpos) (.Call (.Name "enumerate" p) [e] [] pos) σ H R :=
  eI (pi_enumT hg B.enumerate pA hs) (a_cons (wE_mono h fun v H1 ⟨a, xs, e1, h1, r⟩ => a_nil ⟨a, xs, by rw [e1], h1, r⟩) hs)
end
end Z

set_option Elab.async false
set_option linter.all false
set_option maxRecDepth 100000
set_option maxHeartbeats 4000000
/-! a lambda with one parameter, handed to a def as its second argument -/
namespace Z
open PySem PySem.Spec PyProof.Rows L2 LamX NdefX
abbrev lamF (X : Cx) (params : Arguments) (scope : Scope) (c' : Addr) : NF := ⟨"<lambda>", X.env.qual ++ "<lambda>", params, [], scope, cloFrom X.env.cells scope.names [], c'⟩
/-- the context of the lambda's body -/
abbrev lam1Cx (X : Cx) (N : List Str) (A : Around) (outer : List Env) (s : Shared) (H : Hp) (E : XK) (params : Arguments) (scope : Scope) (f c' : Addr) : Cx := ncx (L2.CX X.prog X.w) X.prog X.w X.K X.mg X.base N (lamF X params scope c') f A outer s H E
section
variable {X : Cx} {pins : List (Addr × Obj)} {σ : L2.St} {H : Hp} {s : Shared} {k : Nat} {W : WX}
theorem cells_un {fs : List Addr} {cl : List (Str × Addr)} {fr : List Str} {ws : List (Option V)} {h h' : Heap} {H H' : Hp} (C : CellsAt cl fr ws h H) (un : Un fs [] H H' h h') : CellsAt cl fr ws h' H' := by
  have kp : ∀ {c : Addr} {v : Option Value}, H c = none → h.IsCell c v → h'.IsCell c v := fun {c v} n ⟨o, ho, hd⟩ => by
    obtain ⟨sl, q⟩ := un.any ho n (by simp)
    exact ⟨_, q, hd⟩
  refine ⟨C.len, fun y c e => ?_, C.inj, fun i y e => ?_⟩
  · obtain ⟨n, v, z⟩ := C.all y c e
    refine ⟨?_, v, kp n z⟩
    obtain ⟨o, ho, _⟩ := z
    exact un.free c o ho n (by simp)
  · obtain ⟨c, hc, hv⟩ := C.has i y e
    refine ⟨c, hc, fun v ev => ?_⟩
    obtain ⟨u, r, z⟩ := hv v ev
    exact ⟨u, r, kp (C.all y c hc).1 z⟩
/-- the lambda is called -/
theorem e_act1 {Ng N fr : List Str} {js : List Nat} {i : Nat} {x a pname : Str} {st : Stmt} {g f c' : Addr} {cdg pm ctv : Value} {params : Arguments} {body arg : Expr} {scope : Scope} {E0 E : XK} {p1 p2 : Pos} {σZ : L2.St} {HZ : Hp} {Q : VK}
    (C : Cxt X (k + 2) W) (I : Inv X pins σ H s) (S : NScope N [pname] fr scope) (cp : Caps X (cloFrom X.env.cells scope.names []) fr js) (hf : s.heap.get? f = some (PySem.W.kla_obj "<lambda>" (X.env.qual ++ "<lambda>") params body scope (cloFrom X.env.cells scope.names []) pm c' ctv)) (hfn : H f = none) (hfr : f ∉ frs X.stack)
    (hbind : ∀ u : Value, bindArgs (PySem.W.kla_fn "<lambda>" (X.env.qual ++ "<lambda>") params body scope (cloFrom X.env.cells scope.names []) pm (.ref c') ctv) ⟨[u], []⟩ = pure [(pname, u)])
    {W' : WX} (tk : Takes (hX X Ng x st g cdg s H E0) W') (hW : ∀ cls d σ' H', E cls d H' → W' cls d σ' H')
    (hN : Ng[i]? = some a) (hv : Vis (defScope st) a) (hd : (a == ("__debug__" : Str)) = false) (hcd : (a == ("__classdict__" : Str)) = false)
    (hs : σZ[i]? = some (some (.ref f)))
    (h : wE (hX X Ng x st g cdg s H E0) arg σZ HZ fun v HY => HY c' = some (CodeO c' (X.env.qual ++ "<lambda>")) ∧ ∀ (A : Around) (outer : List Env) (s' : Shared), Cxt (lam1Cx X N A outer s' HY E params scope f c') k (fun cls d _ H => E cls d H) → wE (lam1Cx X N A outer s' HY E params scope f c') body (startF N [v] (js.map (slotAt σ))) HY Q)
    (he : starEach [arg] (hX X Ng x st g cdg s H E0).env = (false, eval arg (hX X Ng x st g cdg s H E0).env) :: starEach [] (hX X Ng x st g cdg s H E0).env := by rfl) :
    wE (hX X Ng x st g cdg s H E0) (.Call (.Name a p1) [arg] [] p2) σZ HZ Q := by
  refine ⟨fun pinsZ sZ IZ => ?_⟩
  refine wpAny_Call_Name_kw (thn ((pe_var (pos := p1) (i := i) hN hv hd hcd).run pinsZ sZ σZ HZ (fun v H1 => v = .ref f ∧ H1 = HZ) IZ ⟨.ref f, hs, rfl, rfl⟩) fun u s1 ⟨v, H1, I1, r1, q1⟩ => ?_)
  obtain ⟨ev, eH⟩ := q1
  subst ev
  rw [eH] at I1
  obtain rfl : u = Value.ref f := r1
  have of1 : s1.heap.get? f = some (PySem.W.kla_obj "<lambda>" (X.env.qual ++ "<lambda>") params body scope (cloFrom X.env.cells scope.names []) pm c' ctv) := I1.base.keep f _ hf hfn hfr (fun z => nomatch (show f ∈ ([] : List Addr) from z))
  refine PySem.W.callWith_F (first := []) ⟨_, _, _, _, of1⟩ (thn ((a_cons (Q := fun vs H1 => ∃ v, vs = [v] ∧ H1 c' = some (CodeO c' (X.env.qual ++ "<lambda>")) ∧ ∀ (A : Around) (outer : List Env) (s' : Shared), Cxt (lam1Cx X N A outer s' H1 E params scope f c') k (fun cls d _ H => E cls d H) → wE (lam1Cx X N A outer s' H1 E params scope f c') body (startF N [v] (js.map (slotAt σ))) H1 Q) (wE_mono h fun v HY q => a_nil ⟨v, rfl, q⟩) he).run p2 pinsZ s1 I1) fun us s2 ⟨vs, H2, I2, r, v, ev, hc, hb⟩ => ?_) he rfl
  subst ev
  obtain ⟨u, rfl, ru⟩ := vals1 r
  have of2 : s2.heap.get? f = some (PySem.W.kla_obj "<lambda>" (X.env.qual ++ "<lambda>") params body scope (cloFrom X.env.cells scope.names []) pm c' ctv) := I2.base.keep f _ hf hfn hfr (fun z => nomatch (show f ∈ ([] : List Addr) from z))
  refine ⟨⟨_, _, _, _, of2⟩, ?_⟩
  show wpAny _ _ (call (.ref f) [u]) _ _ _
  have un : Un (frs X.stack) [] H H2 s.heap s2.heap := I2.base
  have CA : CellsAt (cloFrom X.env.cells scope.names []) fr (js.map (slotAt σ)) s2.heap H2 := cells_un (cells_of I cp) un
  obtain ⟨⟨oc, ws, t, hoc, hdc, hvc⟩, _, _⟩ := I2.hok c' _ hc
  have hr : Room (k + 1) (X.A.deeper (envOfC x (defScope st) s.heap.objs.size g cdg)) := C.room.deeper _
  have rc : codeAny (model X.prog X.w) (X.A.deeper (envOfC x (defScope st) s.heap.objs.size g cdg)) (.call (.ref f) ⟨[u], []⟩) (CR (L2.CX X.prog X.w) (envOfC x (defScope st) s.heap.objs.size g cdg :: X.stack) X.prog X.w H2 s2 Q E) s2 := by
    refine PySem.W.kla_callFunE hr.depth of2 rfl S.co S.gen rfl ⟨c', oc, ws, t, rfl, hoc, hdc, hvc⟩ ?_
    rw [hbind u]
    refine wpAny_pure (wpAny_newFunctionEnv S.nocell (fun y hy => S.par y.1 (by rw [List.mem_singleton.mp hy]; simp)) (fun h₁ hns hsb => ⟨I2.nolimit.fresh _ hsb, ?_⟩) S.kind)
    show codeAny _ _ (.expr body (envF (lamF X params scope c') f s2.heap.objs.size)) _ _
    have kp : ∀ b o, s2.heap.get? b = some o → h₁.get? b = some o := fun b o e => hsb.extBut b o (Nat.ne_of_lt (Heap.lt_size e)) (Heap.get?_push_of_some _ e)
    have J : Inv (lam1Cx X N (X.A.deeper (envOfC x (defScope st) s.heap.objs.size g cdg)) (envOfC x (defScope st) s.heap.objs.size g cdg :: X.stack) s2 H2 E params scope f c') [] (startF N [v] (js.map (slotAt σ))) H2 { s2 with heap := h₁, toks := s2.toks + ([(pname, u)] : List (Str × Value)).length } :=
      inv_startN (F := lamF X params scope c') (ps := [pname]) (us := [u]) S hr.hd I2.env0 rfl (.cons ru .nil) CA hns kp
    have CL : Cxt (lam1Cx X N (X.A.deeper (envOfC x (defScope st) s.heap.objs.size g cdg)) (envOfC x (defScope st) s.heap.objs.size g cdg :: X.stack) s2 H2 E params scope f c') k (fun cls d _ H' => E cls d H') :=
      ⟨hr.deeper _, rfl, S.nd, C.blt, passes_of rfl, takes_of rfl rfl rfl rfl⟩
    refine PySem.W.kla_codeExpr (wpAny_mono ((hb _ _ s2 CL).run [] _ J) (fun v s' hq => ?_) fun e s' hq => hq)
    obtain ⟨w', H', J', rv, q⟩ := hq
    exact ⟨w', H', J'.os, J'.bare, J'.base, J'.hok, rv, q⟩
  refine wpAny_call (codeAny_mono rc fun r s' hq => ?_)
  cases r with
  | error e => exact tk e s' (XE.of_call I2 (fun cls d H' h => hW cls d _ H' h) hq)
  | ok fl =>
    cases fl with
    | ret u => exact I2.after hq
    | next => exact False.elim hq
    | brk => exact False.elim hq
    | cont => exact False.elim hq
/-- x(e0, lambda p: body) -/
theorem e_lam2 {T : List (Addr × Str)} {x a b pname : Str} {st : Stmt} {c P : Addr} {Ng N fr : List Str} {js : List Nat} {params : Arguments} {body e0 : Expr} {scope : Scope} {p lpos pos : Pos} {Q : VK}
    (C : Cxt X (k + 2) W) (D : At X.K X.mg x st) (Sg : FnScope Ng [b, a] (defScope st)) (TB : TabB X.base X.mg c P) (hcode : X.env.code = .ref c) (hmT : (P, X.env.qual ++ "<lambda>") ∈ T) (hu : ∀ p ∈ T, p.1 = P → p.2 = X.env.qual ++ "<lambda>")
    (S : NScope N [pname] fr scope) (hB : ndefB X.env.scope scope fr = true) (hjs : js.map (fun j => X.N[j]?) = fr.map some)
    (h : wE X e0 σ H fun v0 H0 => Tabs T H0 ∧ ∀ (g : Addr) (cdg : Value) (f c' : Addr) (s : Shared) (H1 : Hp), ExtN H0 H1 → Tabs T H1 → H1 c' = some (CodeO c' (X.env.qual ++ "<lambda>")) →
      Cxt (hX X Ng x st g cdg s H1 (fun cls d H' => W cls d σ H')) (k + 1) (fun cls d _ H' => W cls d σ H') →
      (∀ (E : XK) (σZ : L2.St) (HZ : Hp) (Q' : VK) (arg : Expr) (p1 p2 : Pos), (∀ cls d H', E cls d H' → W cls d σ H') → σZ[1]? = some (some (.ref f)) →
        (starEach [arg] (hX X Ng x st g cdg s H1 (fun cls d H' => W cls d σ H')).env = (false, eval arg (hX X Ng x st g cdg s H1 (fun cls d H' => W cls d σ H')).env) :: starEach [] (hX X Ng x st g cdg s H1 (fun cls d H' => W cls d σ H')).env) →
        wE (hX X Ng x st g cdg s H1 (fun cls d H' => W cls d σ H')) arg σZ HZ (fun v HY => HY c' = some (CodeO c' (X.env.qual ++ "<lambda>")) ∧ ∀ (A : Around) (outer : List Env) (s' : Shared), Cxt (lam1Cx X N A outer s' HY E params scope f c') k (fun cls d _ H => E cls d H) → wE (lam1Cx X N A outer s' HY E params scope f c') body (startF N [v] (js.map (slotAt σ))) HY Q') →
        wE (hX X Ng x st g cdg s H1 (fun cls d H' => W cls d σ H')) (.Call (.Name a p1) [arg] [] p2) σZ HZ Q') →
      wB (hX X Ng x st g cdg s H1 (fun cls d H' => W cls d σ H')) (defBody st) { nx := fun _ H' => Q .non H', rt := Q } (start Ng [v0, .ref f]) H1)
    (hN : Ng[1]? = some a := by rfl) (hv : Vis (defScope st) a := by first | exact Or.inl rfl | exact Or.inr (Or.inl rfl) | exact Or.inr (Or.inr rfl)) (hg : Gl X x := by rfl) (hdef : defaultsOf params X.env = ([], []) := by rfl)
    (hbl : ∀ (q : Str) (cl : List (Str × Addr)) (pm cv ctv u : Value), bindArgs (PySem.W.kla_fn "<lambda>" q params body scope cl pm cv ctv) ⟨[u], []⟩ = pure [(pname, u)] := by intros; rfl)
    (hbind : ∀ (kV doc pm : Value) (an : Option Addr) (cdv ct : Value) (us : List Value), us.length = ([b, a] : List Str).length → bindArgs (PySem.W.fnOf x x (defArgs st) (defBody st) (defScope st) .none kV doc pm an cdv ct) ⟨us, []⟩ = pure (([b, a] : List Str).zip us) := by exact fun _ _ _ _ _ _ us hl => match us, hl with | [_, _], _ => rfl)
    (hdb : (x == ("__debug__" : Str)) = false := by decide) (hd : (a == ("__debug__" : Str)) = false := by decide) (hcd : (a == ("__classdict__" : Str)) = false := by decide)
    (he : starEach [e0, .Lambda params body scope lpos] X.env = (false, eval e0 X.env) :: starEach [.Lambda params body scope lpos] X.env := by rfl) :
    wE X (.Call (.Name x p) [e0, .Lambda params body scope lpos] [] pos) σ H Q := by
  refine ⟨fun pins s I => ?_⟩
  obtain ⟨g, fd, hm, F⟩ := D.ex
  obtain ⟨oc, od, kV, doc, pm, an, cdg, ct, osl, rfl, lk, hcd2⟩ := F.ex
  refine wpAny_Call_Name_kw (ld_glob I hg hm ?_ hdb)
  refine PySem.W.callWith_K (h₀ := X.base) I.ok.mod.kin F.kp ?_ he (by rfl)
  rw [he]
  show wpAny _ _ (spliced ((false, eval e0 X.env) :: backTo pos (starEach [.Lambda params body scope lpos] X.env))) _ _ s
  refine Calls.spliced_cons (thn (h.run pins s I) fun u0 s0 ⟨v0, H0, I0, r0, hT, h⟩ => ?_)
  show wpAny _ _ (spliced ((false, eval (.Lambda params body scope lpos) X.env) :: backTo pos (starEach [] X.env))) _ _ s0
  have hfree : ∀ y ∈ scope.names, y.2 = .free → ∃ c, X.env.cells.lookup y.1 = some c := fun y hy e => (ndef_free hB y hy e).elim (fun z => I0.ok.has _ (.inl z)) fun z => I0.ok.has _ (.inr z)
  refine Calls.spliced_cons (lam_make2 I0 TB hcode hmT hu hT hdef hfree fun f c' pm' ctv H1 s' I1 eN T1 hf hfn hfr hco => ?_)
  refine Calls.spliced_nil ⟨I1.kIn, ?_⟩
  have cp : Caps X (cloFrom X.env.cells scope.names []) fr js := Caps.made I1.ok (ndef_free hB) (ndef_fr hB) hjs
  have rc : codeAny (model X.prog X.w) X.A (.call (.ref g) ⟨[u0, .ref f], []⟩) (CR (L2.CX X.prog X.w) X.stack X.prog X.w H1 s' Q (fun cls d H' => W cls d σ H')) s' := by
    refine run_ofS (N := Ng) (ps := [b, a]) (us := [u0, .ref f]) (vs := [v0, .ref f]) lk hcd2 Sg (C.room.mono (show k + 1 + 1 ≤ k + 2 from Nat.le_refl _)) I1.env0 (.of_eq (hbind kV doc pm an cdg ct [u0, .ref f] rfl)) (.cons r0 (.cons rfl .nil)) rfl fun hr' => ?_
    have CZ : Cxt (hX X Ng x st g cdg s' H1 (fun cls d H' => W cls d σ H')) (k + 1) (fun cls d _ H' => W cls d σ H') := ⟨hr', rfl, Sg.nd, C.blt, passes_of rfl, takes_of rfl rfl rfl rfl⟩
    refine ⟨wB _ (defBody st), pB, h g cdg f c' s' H1 eN T1 hco CZ fun E σZ HZ Q' arg p1 p2 hW hs hst hh => ?_⟩
    exact e_act1 C I1 S cp hf hfn hfr (hbl _ _ _ _ _) CZ.tk (fun cls d σ' H' z => hW cls d H' z) hN hv hd hcd hs hh hst
  refine wpAny_call (codeAny_mono rc fun r s2 hq => ?_)
  cases r with
  | error e => exact C.tk e s2 (XE.of_call I1 (fun _ _ _ z => z) hq)
  | ok fl =>
    cases fl with
    | ret u => exact I1.after hq
    | next => exact False.elim hq
    | brk => exact False.elim hq
    | cont => exact False.elim hq
end
end Z

set_option Elab.async false
set_option linter.all false
set_option maxRecDepth 100000
set_option maxHeartbeats 4000000
/-! more rules: lists of ranges, reversed slices, texts times numbers, dicts made of pairs, comprehensions of two fors -/
namespace Z
open PySem PySem.Spec PyProof.Rows L2
section
variable {X : Cx} {k : Nat} {W : WX} {σ : L2.St} {H : Hp} {e a b c o elt tg iter tg1 iter1 : Expr} {es : List Expr} {p p2 pos apos pos2 : Pos} {Q : VK} {scope : Scope}
/-- xs[::-1] -/
theorem e_rev {kk : Nat} {p1 p2 p3 pos : Pos} (h : wE X e σ H fun x H1 => ∃ a xs, x = .ref a ∧ SqL X.K H1 a xs ∧ ∀ p, H1 p = none → Q (.ref p) (upd H1 p (.lst xs.reverse))) : wE X (.Subscript e (.Slice none none (some (.UnaryOp .USub (.Constant (.int 1) kk p1) p2)) p3) pos) σ H Q := eE (pe_revL pE) h
/-- the ints from i on, n of them, by steps of d -/
def rgD (i d : Int) (n : Nat) : List V := (List.range n).map fun t => V.int (i + (t : Nat) * d)
/-- list(range(a, b, c)) -/
theorem e_listRg3 (C : Cxt X k W) (h : wA X [a, b, c] σ H fun vs H1 => ∃ (i j d : Int) (n : Nat), vs = [.int i, .int j, .int d] ∧ d ≠ 0 ∧ Builtin.Range.small i j d = true ∧ Builtin.Range.rangeSize i j d = n ∧ n ≤ 2 ^ 24 ∧ Builtin.divisionGoesByPylong (j - i) d = false ∧ ∀ q, H1 q = none → Q (.ref q) (upd H1 q (.lst (rgD i d n))))
    (hg : Gl X "list" := by rfl) (hg2 : Gl X "range" := by rfl) (na : starEach [.Call (.Name "range" p2) [a, b, c] [] pos2] X.env = (false, eval (.Call (.Name "range" p2) [a, b, c] [] pos2) X.env) :: starEach [] X.env := by rfl)
    (hs : starEach [a, b, c] X.env = (false, eval a X.env) :: starEach [b, c] X.env := by rfl) (hpl : (backTo pos2 (starEach [b, c] X.env)).any (·.1) = false := by rfl) :
    wE X (.Call (.Name "list" p) [.Call (.Name "range" p2) [a, b, c] [] pos2] [] pos) σ H Q := by
  refine ⟨fun pins s I => ?_⟩
  refine Call_ (ld_blt I hg C.blt.list PyProof.Rows.boot_list (PyProof.Rows.callWith_type1 (args_cons ?_ na) na))
  refine Call_ (ld_blt I hg2 C.blt.range PyProof.Rows.boot_range (PyProof.Rows.callWith_type1 (thn (h.run pos2 pins _ I) fun us s1 ⟨vs, H1, I1, r1, q1⟩ => ?_) hs hpl))
  obtain ⟨i, j, d, n, ex, hd, hsm, hsz, hn, hdv, q⟩ := q1
  subst ex
  obtain ⟨u1, u2, u3, rfl, ⟨t1, rfl⟩, ⟨t2, rfl⟩, ⟨t3, rfl⟩⟩ : ∃ u1 u2 u3, us = [u1, u2, u3] ∧ RelV (.int i) u1 ∧ RelV (.int j) u2 ∧ RelV (.int d) u3 := by
    cases r1 with
    | cons r1 r =>
      cases r with
      | cons r2 r =>
        cases r with
        | cons r3 r =>
          cases r
          exact ⟨_, _, _, rfl, r1, r2, r3⟩
  refine call_range_3 hd (args_nil ?_) (.inl hdv)
  have I2 : Inv X pins σ H1 { s1 with heap := s1.heap.push { cls := .type "range", data := .fields #[.int i t1, .int j t2, .int d t3] } } := I1.kept (t' := s1.toks) fun b u e => Heap.get?_push_of_some _ e
  refine call_list_range (n := n) (I2.ok.hd C.calm) (IsRange.new _ _ _ _ _ _ _) hsm hsz hn fun h' tk acc c' hk e' hi => ?_
  refine ⟨.ref _, _, I2.laid (o := .lst (rgD i d n)) hk (Nat.le_refl _) ⟨?_, acc.toList, c', ?_, ?_⟩, rfl, q _ (I2.hok.fresh (Nat.le_refl _))⟩
  · rw [rgD, List.length_map, List.length_range, sizeLine_eq]; omega
  · have e : acc.toList.length = n := by rw [Array.length_toList]; exact hi.1
    unfold rgD
    rw [← e]
    refine vals_of_get acc.toList _ fun j u hj => ?_
    obtain ⟨t, rfl⟩ := hi.2 j u (by rw [← hj, Array.getElem?_toList])
    exact ⟨t, rfl⟩
  · rw [Array.toArray_toList]; exact e'
/-- list(range(a, b)) -/
theorem e_listRg2 (C : Cxt X k W) (h : wE X a σ H fun x H1 => wE X b σ H1 fun y H2 => ∃ i j : Int, x = .int i ∧ y = .int j ∧ RgOk i j ∧ ∀ q, H2 q = none → Q (.ref q) (upd H2 q (.lst (rgV i j))))
    (hg : Gl X "list" := by rfl) (hg2 : Gl X "range" := by rfl) (na : starEach [.Call (.Name "range" p2) [a, b] [] pos2] X.env = (false, eval (.Call (.Name "range" p2) [a, b] [] pos2) X.env) :: starEach [] X.env := by rfl)
    (hs : starEach [a, b] X.env = (false, eval a X.env) :: starEach [b] X.env := by rfl) (hs2 : starEach [b] X.env = (false, eval b X.env) :: starEach [] X.env := by rfl) (hpl : (backTo pos2 (starEach [b] X.env)).any (·.1) = false := by rfl) :
    wE X (.Call (.Name "list" p) [.Call (.Name "range" p2) [a, b] [] pos2] [] pos) σ H Q :=
  eE (pe_listRg C.calm hg C.blt.list (prg_2 hg2 C.blt.range pE pE hs hs2 hpl) na) (wE_mono h fun x H1 q => wE_mono q fun y H2 ⟨i, j, e1, e2, ok, q⟩ => ⟨i, j, e1, e2, ok, q⟩)
/-- x.startswith(y) -/
theorem e_starts (h : wE X o σ H fun x H1 => ∃ s : Str, x = .str s ∧ wE X a σ H1 fun y H2 => ∃ t : Str, y = .str t ∧ Q (.bl (Txt.startswith s t)) H2)
    (hs : starEach [a] X.env = [(false, eval a X.env)] := by rfl) (hbase : attributeBase o "startswith" X.env (eval o X.env) = eval o X.env := by rfl) (hline : (apos.endLine == pos.line) = true := by rfl)
    (hfew : ((backTo pos (starEach [a] X.env)).all (fun x => !x.1) && (backToKw pos (keywordEach [] X.env)).all (fun x => x.1.isSome) && decide (([a] : List Expr).length + ([] : List Keyword).length + (if ([] : List Keyword).isEmpty then 0 else 1) < 30)) = true := by rfl) :
    wE X (.Call (.Attribute o "startswith" apos) [a] [] pos) σ H Q :=
  eE (pe_bm PySem.F.plainAttrs_str PySem.F.slot_str_startswith PySem.F.type_str_startswith mt_startswith pE pA hbase hfew hline (by rw [hs]; rfl) rfl)
    (wE_mono h fun x H1 ⟨s, e1, h1⟩ => ⟨by rw [e1]; exact rfl, a_cons (wE_mono h1 fun y H2 ⟨t, e2, q⟩ => a_nil ⟨s, t, e1, by rw [e2], q⟩) (by rw [hs]; rfl)⟩)
/-- x * n, x a text -/
theorem o_mulS {x : Str} {n : Int} (hx : x.length ≤ 16) (hlo : 0 ≤ n) (hhi : n ≤ 1048576) (q : Q (.str (Txt.mul x n)) H) : oW X (binaryOp .Mult) (.str x) (.int n) H Q := by
  refine ⟨fun pins s σ v u I rx ry => ?_⟩
  obtain ⟨t, rfl⟩ := rx
  obtain ⟨t', rfl⟩ := ry
  exact PySem.SB.mul (mulOk_of 16 1048576 hx hhi (by omega) (by decide) (by decide)) fun t2 k => ⟨.str (Txt.mul x n), H, I.tok _, ⟨_, rfl⟩, q⟩
/-- list(e.items()) -/
theorem e_listItems (C : Cxt X k W) {cpos : Pos} (h : wE X e σ H fun x H1 => ∃ (d : Addr) (kvs : List (Key × V)), x = .ref d ∧ H1 d = some (.dK kvs) ∧
      ∀ (H' : Hp) (p : Addr) (ts : List Addr), But [] H1 H' → H1 p = none → (∀ t ∈ ts, H1 t = none) → p ∉ ts → H' p = some (.lst (ts.map V.ref)) → Paired (fun (t : Addr) (q : Key × V) => H' t = some (.tup [kV q.1, q.2])) ts kvs → Q (.ref p) H')
    (hg : Gl X "list" := by rfl) (hbase : attributeBase e "items" X.env (eval e X.env) = eval e X.env := by rfl) (hline : (apos.endLine == cpos.line) = true := by rfl)
    (hs : starEach [.Call (.Attribute e "items" apos) [] [] cpos] X.env = (false, eval (.Call (.Attribute e "items" apos) [] [] cpos) X.env) :: starEach [] X.env := by rfl) :
    wE X (.Call (.Name "list" p) [.Call (.Attribute e "items" apos) [] [] cpos] [] pos) σ H Q :=
  eE (LiI.pe_listItems C.calm pE hg C.blt.list PyProof.Rows.boot_list hbase hline hs) (wE_mono h fun x H1 ⟨d, kvs, e1, e2, q⟩ => ⟨d, kvs, e1, e2, fun H' p ts b n1 n2 n3 hp hT => q H' p ts (fun q o _ e => b q o e) n1 n2 n3 hp hT⟩)
/-- dict(ps), ps a list of pairs -/
theorem e_dictP (C : Cxt X k W) (h : wE X a σ H fun x H1 => ∃ (q : Addr) (ps : List Addr) (kvs : List (Key × V)), x = .ref q ∧ SqL X.K H1 q (ps.map V.ref) ∧ Paired (fun p kv => SqT X.K H1 p [kV kv.1, kv.2]) ps kvs ∧ ∀ p, H1 p = none → Q (.ref p) (upd H1 p (.dK (mergeK [] kvs))))
    (hg : Gl X "dict" := by rfl) (hs : starEach [a] X.env = [(false, eval a X.env)] := by rfl) : wE X (.Call (.Name "dict" p) [a] [] pos) σ H Q :=
  e_Ty (T := "dict") (a_cons (wE_mono h fun x H1 ⟨q, ps, kvs, e1, h1, h2, h3⟩ => a_nil (cW_of (call_dictP C.calm) ⟨q, ps, kvs, by rw [e1], h1, h2, h3⟩)) hs) C.blt.dict (by decide +kernel) hg (by decide) (by decide) hs rfl
/-- for k in d -/
theorem i_keys {R : It → Hp → Prop} (h : wE X e σ H fun x H1 => ∃ d o kvs, x = .ref d ∧ H1 d = some (.frz o (.dK kvs)) ∧ R (Itk d o kvs) H1) : wI X tg e σ H R :=
  eI (pi_keys pE) (wE_mono h fun x H1 ⟨d, o, kvs, e1, e2, r⟩ => ⟨d, o, e1, .inl ⟨kvs, e2, r⟩⟩)
def wIb (X : Cx) (scope : Scope) (tg iter : Expr) : TI := fun σ H R => ∀ (s : Shared) (H0 : Hp) (C : Addr) (cl : List (Str × Addr)) (fp : List Addr), wI (X.blk s H0 scope (compEnvC scope cl C X.env) fp) tg iter σ H R
/-- a comprehension of two fors without tests -/
theorem e_lc2 (own : List (Str × Nat)) (vs1 : List Nat) (C : Cxt X k W)
    (h : wI X tg iter σ H fun J H1 => ∃ n G Y, Walk J n G Y ∧ ∀ D, H1 D = none → ∃ Pv : Nat → Hp → Prop, Pv 0 (upd H1 D (.lst [])) ∧ (∀ i H, i ≤ n → Pv i H → G H) ∧
      (∀ i x H H', i < n → Pv i H → Y i H x H' → wGb X scope tg x (wipe σ (own.map (·.2))) H' fun σ2 H2 => wipe σ2 (own.map (·.2)) = wipe σ (own.map (·.2)) ∧ wIb X scope tg1 iter1 σ2 H2 fun J1 H4 => ∃ n1 G1 Y1, Walk J1 n1 G1 Y1 ∧ ∃ P1 : Nat → Hp → Prop, P1 0 H4 ∧ (∀ j H, j ≤ n1 → P1 j H → G1 H) ∧
        (∀ j y H H', j < n1 → P1 j H → Y1 j H y H' → wGb X scope tg1 y (wipe σ2 vs1) H' fun σ3 H5 => wipe σ3 vs1 = wipe σ2 vs1 ∧ wEb X scope elt σ3 H5 fun z H7 => ∃ acc, H7 D = some (.lst acc) ∧ acc.length < sizeLine ∧ P1 (j + 1) (upd H7 D (.lst (acc ++ [z])))) ∧
        ∀ H, P1 n1 H → Pv (i + 1) H) ∧ ∀ H, Pv n H → Q (.ref D) H)
    (hv : ∀ i ∈ vs1, i ∈ own.map (·.2)) (ok : BlkOk X.N X.env.scope scope own := by exact blkOk_by (by first | rfl | kernel_rfl)) (hs : ∀ x, foldedSetIterable iter X.env x = pure x := by intro _; rfl) (hs1 : ∀ env x, foldedSetIterable iter1 env x = pure x := by intro _ _; rfl) :
    wE X (.ListComp elt [⟨tg, iter, [], 0⟩, ⟨tg1, iter1, [], 0⟩] scope pos) σ H Q := by
  refine eE (pe_lc2 (g := wGb X scope tg) (tt := wIfb X scope []) (te := wEb X scope elt) (wi1 := wIb X scope tg1 iter1) (g1 := wGb X scope tg1) (tt1 := wIfb X scope []) C.calm C.nd pI ok hv (fun s H C cl fp => ⟨fun pins s' σ' H' v u Q' I r hh => (hh s H C cl fp).run pins s' u I r⟩)
    (fun s H C cl fp => ⟨fun pins s' σ' H' Q' I hh => (hh s H C cl fp).run pins s' I⟩) (fun s H C cl fp => ⟨fun pins s' σ' H' Q' I hh => (hh s H C cl fp).run pins s' I⟩) (fun s H C cl fp => ⟨fun pins s' σ' H' v u Q' I r hh => (hh s H C cl fp).run pins s' u I r⟩)
    (fun s H C cl fp => ⟨fun pins s' σ' H' Q' I hh => (hh s H C cl fp).run pins s' I⟩) (fun s H C cl fp => ⟨fun pins s' σ' H' Q' I hh => (hh s H C cl fp).run pins s' I⟩) hs hs1) ?_
  refine wI_mono h fun J H1 hh => ?_
  obtain ⟨n, G, Y, w, hD⟩ := hh
  intro D hn
  obtain ⟨Pv, h0, hG, ht, hd⟩ := hD D hn
  refine ⟨fun i m H => m = n - i ∧ i ≤ n ∧ Pv i H, ⟨n, by simp, Nat.zero_le _, h0⟩, ?_⟩
  rintro i m H ⟨rfl, hi, p⟩
  have q := hG i H hi p
  by_cases hlt : i < n
  · refine .inr ⟨w.goes i H hlt q, Pv (i + 1), fun H' p' => ⟨n - (i + 1), by omega, rfl, hlt, p'⟩, fun x H' y => ?_⟩
    intro s H0 Ca cl fp
    refine ⟨fun pins s2 u I r => thn ((ht i x H H' hlt p (w.yields i H x H' hlt q y) s H0 Ca cl fp).run pins s2 u I r) fun _ s3 h3 => ?_⟩
    obtain ⟨σ2, H2, I2, e1, h3⟩ := h3
    refine ⟨σ2, H2, I2, e1, fun s H0 Ca cl fp => eIf pts_nil ?_⟩
    intro s H0 Ca cl fp
    refine wI_mono (h3 s H0 Ca cl fp) fun J1 H4 ⟨n1, G1, Y1, w1, P1, p0, g1, t1, d1⟩ => ?_
    refine ⟨fun j m H => m = n1 - j ∧ j ≤ n1 ∧ P1 j H, ⟨n1, by simp, Nat.zero_le _, p0⟩, ?_⟩
    rintro j m H5 ⟨rfl, hj, pj⟩
    have qj := g1 j H5 hj pj
    by_cases hl1 : j < n1
    · refine .inr ⟨w1.goes j H5 hl1 qj, P1 (j + 1), fun H' p' => ⟨n1 - (j + 1), by omega, rfl, hl1, p'⟩, fun x H' y => ?_⟩
      intro s H0 Ca cl fp
      refine ⟨fun pins s2 u I r => thn ((t1 j x H5 H' hl1 pj (w1.yields j H5 x H' hl1 qj y) s H0 Ca cl fp).run pins s2 u I r) fun _ s3 h3 => ?_⟩
      obtain ⟨σ3, H6, I3, e2, h3⟩ := h3
      refine ⟨σ3, H6, I3, e2, fun s H0 Ca cl fp => eIf pts_nil ?_⟩
      exact h3
    · have e : j = n1 := by omega
      subst e
      exact .inl ⟨w1.stops H5 qj, d1 H5 pj⟩
  · have e : i = n := by omega
    subst e
    exact .inl ⟨w.stops H q, hd H p⟩
end
end Z

set_option Elab.async false
set_option linter.all false
set_option maxRecDepth 100000
set_option maxHeartbeats 4000000
/-! plain: marks seen in lines -/
namespace Z
open PySem PySem.Spec PyProof.Rows L2 TL
theorem lenL (x : Str) : x.cps.toList.length = x.length := by simp; rfl
theorem cut_to (x : Str) (n : Nat) : (cutS x none (some (n : Int))).cps.toList = x.cps.toList.take n := by
  show (((x.cps.toList.drop (HT.sIx x.length 0 none)).take (HT.sIx x.length x.length (some (n : Int)) - HT.sIx x.length 0 none)).toArray).toList = _
  rw [HT.sIx_nat, HT.sIx_none, List.toList_toArray, List.drop_zero, Nat.sub_zero]
  by_cases h : n ≤ x.length
  · rw [Nat.min_eq_left h]
  · rw [Nat.min_eq_right (by omega), List.take_of_length_le (by rw [lenL]; omega), List.take_of_length_le (by rw [lenL]; omega)]
theorem cut_from (x : Str) (n : Nat) : (cutS x (some (n : Int)) none).cps.toList = x.cps.toList.drop n := by
  show (((x.cps.toList.drop (HT.sIx x.length 0 (some (n : Int)))).take (HT.sIx x.length x.length none - HT.sIx x.length 0 (some (n : Int)))).toArray).toList = _
  rw [HT.sIx_nat, HT.sIx_none, List.toList_toArray]
  by_cases h : n ≤ x.length
  · rw [Nat.min_eq_left h, List.take_of_length_le (by rw [List.length_drop, lenL]; omega)]
  · rw [Nat.min_eq_right (by omega), List.drop_of_length_le (by rw [lenL]; omega), List.drop_of_length_le (by rw [lenL]; omega)]
    simp
theorem starts_eq (x y : Str) : Txt.startswith x y = decide (x.cps.toList.take y.length = y.cps.toList) := by
  have e : PySem.Builtin.Str.subAt x y 0 = (((tl x).drop 0).take y.length == tl y) := PySem.StrLaws.subAt_eq x y 0
  rw [List.drop_zero] at e
  unfold Txt.startswith
  rw [e]
  show (decide (0 + y.length ≤ x.length) && (x.cps.toList.take y.length == y.cps.toList)) = _
  rw [Bool.eq_iff_iff]
  simp only [Bool.and_eq_true, decide_eq_true_eq, beq_iff_eq]
  refine ⟨fun h => h.2, fun h => ⟨?_, h⟩⟩
  have h2 := congrArg List.length h
  rw [List.length_take, lenL, lenL] at h2
  omega
/-- whether the mark due is seen in the line by the sight si -/
def seenP (line due si : Str) : Bool :=
  decide (line.cps.toList.take due.length = due.cps.toList) && (decide (si = "start") || decide (line = due) || (!decide (si = "whole") && (line.cps.toList.drop due.length).all fun c => decide ((⟨#[c]⟩ : Str) = si)))
theorem take_self (x : Str) : x.cps.toList.take x.length = x.cps.toList := List.take_of_length_le (by rw [lenL]; omega)
theorem drop_self (x : Str) : x.cps.toList.drop x.length = [] := List.drop_of_length_le (by rw [lenL]; omega)
theorem seen_whole (line due : Str) : seenP line due "whole" = decide (line = due) := by
  unfold seenP
  rw [show decide ((("whole" : Str)) = "start") = false from by decide, show decide ((("whole" : Str)) = "whole") = true from by decide]
  by_cases h : line = due
  · subst h
    simp [take_self]
  · simp [h]
theorem seen_start (line due : Str) : seenP line due "start" = Txt.startswith line due := by
  unfold seenP
  rw [show decide ((("start" : Str)) = "start") = true from by decide, starts_eq]
  simp
theorem all_rep (l : List Nat) (c : Nat) : (l.all fun d => decide ((⟨#[d]⟩ : Str) = ⟨#[c]⟩)) = decide (l = List.replicate l.length c) := by
  rw [Bool.eq_iff_iff, decide_eq_true_eq, List.all_eq_true, List.eq_replicate_iff]
  simp
theorem seen_sign (line due : Str) (c : Nat) : seenP line due ⟨#[c]⟩ = (Txt.startswith line due && decide (line.cps.toList.drop due.length = List.replicate (line.length - due.length) c)) := by
  have h1 : decide ((⟨#[c]⟩ : Str) = "start") = false := decide_eq_false fun h => by
    have := congrArg (fun x : Str => x.cps.size) h
    exact absurd this (by show ¬ (1 = 5); decide)
  have h2 : decide ((⟨#[c]⟩ : Str) = "whole") = false := decide_eq_false fun h => by
    have := congrArg (fun x : Str => x.cps.size) h
    exact absurd this (by show ¬ (1 = 5); decide)
  have h3 : line.length - due.length = (line.cps.toList.drop due.length).length := by rw [List.length_drop, lenL]
  unfold seenP
  rw [h1, h2, all_rep, starts_eq, h3]
  by_cases h : line = due
  · subst h
    simp [take_self, drop_self]
  · simp [h]
end Z

set_option Elab.async false
set_option linter.all false
set_option maxRecDepth 100000
set_option maxHeartbeats 4000000
namespace Z
open PySem PySem.Spec PyProof.Rows L2
theorem def_ofC {P : Program} {w : World} {K : PySem.W.Frag} {mg : Str → Option Value} {base : Heap} {k : Nat} {x : Str} {st : Stmt} {c : Addr} {N ps : List Str} {sp : Sp} (D : AtC K mg x st c) (B : Blt mg base) (S : FnScope N ps (defScope st)) (len : ∀ vs H Q E, sp vs H Q E → vs.length = ps.length)
    (body : ∀ (f : Addr) (A : Around) (outer : List Env) (s : Shared) (H : Hp) (vs : List V) (Q : VK) (E : XK), mg x = some (.ref f) → Cxt (bX P w K mg base N x st f (.ref c) A outer s H E) k (fun cls d _ H => E cls d H) → sp vs H Q E →
      wB (bX P w K mg base N x st f (.ref c) A outer s H E) (defBody st) { nx := fun _ H' => Q .non H', rt := Q } (start N vs) H) : Def P w K mg base (k + 1) x st ps sp := by
  obtain ⟨f, oc, kV, doc, pm, ct, od, an, osl, hm, kp, lk, hcd⟩ := D.ex
  exact ⟨f, kV, doc, pm, an, .ref c, ct, hm, kp, fnok_body B lk hcd S len fun A outer s H vs Q E C h => body f A outer s H vs Q E hm C h⟩
section
variable {X : Cx} {σ : L2.St} {H H0 : Hp} {e tg : Expr} {elts : List Expr} {kk : Nat} {p pos tpos : Pos}
/-- enumerate over a list or a tuple -/
theorem i_enumDD {R : It → Hp → Prop} {x : V} {l : List Addr} {d : PyData} (B : Blt X.mg X.base) (hd : DD X.K l H x d) (hs : seqB d = true) (he : ∀ Q : VK, Q x H → wE X e σ H Q)
    (h : ∀ J G vs, Walk J vs.length G (YPair (fun i => some (.int (i : Nat))) (fun i => vs[i]?)) → (∀ H', But l H H' → G H') → DDs X.K l H vs (items d) → R J H) (hg : Gl X "enumerate" := by rfl) (hs2 : starEach [e] X.env = [(false, eval e X.env)] := by rfl) :
    wI X (.Tuple elts kk tpos) (.Call (.Name "enumerate" p) [e] [] pos) σ H R := by
  cases hd with
  | @lst a xs ds h1 n h2 => exact i_enum B (he _ ⟨a, xs, rfl, h1, h _ _ xs walk_enum (fun H' b => b.sql n h1) h2⟩) hg hs2
  | @tup a xs ds h1 n h2 => exact i_enumT B (he _ ⟨a, xs, rfl, h1, h _ _ xs walk_enumT (fun H' b => b.sqt n h1) h2⟩) hg hs2
  | _ => simp [seqB, Z.isList, Z.isTuple] at hs
/-- a list or a tuple that was there earlier -/
theorem i_ddL {R : It → Hp → Prop} {x : V} {l : List Addr} {d : PyData} (hd : DD X.K l H0 x d) (hs : seqB d = true) (b : But l H0 H) (he : ∀ Q : VK, Q x H → wE X e σ H Q)
    (h : ∀ J G vs, Walk J vs.length G (YAt vs) → (∀ H', But l H0 H' → G H') → DDs X.K l H0 vs (items d) → R J H) : wI X tg e σ H R := by
  cases hd with
  | @lst a xs ds h1 n h2 => exact i_list (he _ ⟨a, rfl, ⟨xs, b.sql n h1⟩, h _ _ xs walk_list (fun H' b => b.sql n h1) h2⟩)
  | @tup a xs ds h1 n h2 => exact i_tup (he _ ⟨a, rfl, ⟨xs, b.sqt n h1⟩, h _ _ xs walk_tup (fun H' b => b.sqt n h1) h2⟩)
  | _ => simp [seqB, isList, isTuple] at hs
end
theorem dds_strs {K : PySem.W.Frag} {l : List Addr} {H : Hp} : ∀ {vs : List V} {ls : List Str}, DDs K l H vs (ls.map PyData.str) → vs = ls.map V.str
  | [], [], _ => rfl
  | _ :: _, y :: ls, h => by
    cases h with
    | cons a r =>
      cases a
      rw [dds_strs r]
      rfl
end Z

set_option Elab.async false
set_option linter.all false
set_option maxRecDepth 100000
set_option maxHeartbeats 4000000
/-! zip of a list and a tuple (turned from the kit's zip of two tuples), weakest readings of zip -/
namespace Z
open PySem PySem.Spec PyProof.Rows L2 RZ
open PySem.Sem (wp)
section
variable {prog : Program} {w : World} {A : Around} {E : Value → Shared → Prop} {s : Shared}
theorem zipM_next_item {z TI TO i1 i2 l1 l2 : Addr} {k1 k2 : Nat} {xs ys : Array Value} {x y a b : Value} {Q : Value → Shared → Prop} (D : ZipApart z TI TO i1 i2 l1 l2)
    (hz : IsZip s.heap z TI TO .none) (hTI : IsPair s.heap TI (.ref i1) (.ref i2)) (hTO : IsPair s.heap TO a b)
    (h1 : s.heap.IsListIter i1 l1 k1) (h2 : s.heap.IsTupleIter i2 l2 k2) (hl1 : s.heap.IsList l1 xs) (hl2 : s.heap.IsTuple l2 ys) (hx : xs[k1]? = some x) (hy : ys[k2]? = some y)
    (hQ : ∀ h', IsZip h' z TI TO (rawInt s.heap.objs.size) → IsPair h' TO x y → h'.IsListIter i1 l1 (k1 + 1) → h'.IsTupleIter i2 l2 (k2 + 1) → IsPair h' s.heap.objs.size x y → h'.objs.size = s.heap.objs.size + 1 →
      (∀ c o, c ≠ z → c ≠ TO → c ≠ i1 → c ≠ i2 → s.heap.get? c = some o → h'.get? c = some o) → Q (.ref s.heap.objs.size) { s with heap := h' }) :
    wpAny (model prog w) A (Builtin.«zip.__next__» ⟨[.ref z], []⟩) (fun fin s' => ∃ v, fin = .done (.ret v) ∧ Q v s') E s := by
  show wpAny _ _ (field (.ref z) 2 >>= _) _ _ _
  refine wpAny_bind (wpAny_field hz rfl (x := .bool false) rfl ?_)
  show wpAny _ _ (field (.ref z) 3 >>= _) _ _ _
  refine wpAny_bind (wpAny_field hz rfl (x := .ref TI) rfl ?_)
  refine wpAny_bind (wpAny_seqItems hTI rfl ?_)
  show wpAny _ _ (Builtin.SmallTypes.ownedTupleIsFree (.ref z) >>= _) _ _ _
  refine wpAny_bind ?_
  unfold Builtin.SmallTypes.ownedTupleIsFree
  refine wpAny_bind (wpAny_field hz rfl (x := .none) rfl (wpAny_pure ?_))
  simp only [if_true]
  refine wpAny_bind (wpAny_rule ?_)
  refine wpAny_bind (wpAny_field hz rfl (x := .ref TO) rfl ?_)
  refine wpAny_bind (wpAny_setField_rec hz (by simp) fun h₁ hz₁ hs₁ => ?_)
  replace hz₁ : IsZip h₁ z TI TO .ellipsis := hz₁
  refine wpAny_bind ?_
  simp only [List.zipIdx_cons, List.zipIdx_nil, List.forIn_cons, List.forIn_nil]

  refine wpAny_bind (wpAny_bind (wpAny_onRaise ?_))
  show wpAny _ _ (Builtin.SmallTypes.nextOf (.ref i1) >>= _) _ _ _
  refine wpAny_bind (wpAny_nextOf_list_item (h1.extBut hs₁.extBut D.i1z) (hl1.extBut hs₁.extBut D.l1z) hx fun h₂ h1₂ hs₂ => wpAny_pure ?_)
  have hTO₂ : IsPair h₂ TO a b := hs₂.extBut _ _ D.TOi1 (hs₁.extBut _ _ D.TOz hTO)
  refine wpAny_bind (wpAny_seqItems hTO₂ rfl ?_)
  refine wpAny_bind (wpAny_updateSeq_pair hTO₂ fun h₃ hTO₃ hs₃ => ?_)
  replace hTO₃ : IsPair h₃ TO x b := hTO₃
  refine wpAny_bind (wpAny_letGo (wpAny_pure ?_))

  refine wpAny_bind (wpAny_bind (wpAny_onRaise ?_))
  show wpAny _ _ (Builtin.SmallTypes.nextOf (.ref i2) >>= _) _ _ _
  refine wpAny_bind (nextOf_tuple_item (((h2.extBut hs₁.extBut D.i2z).extBut hs₂.extBut D.i12.symm).extBut hs₃.extBut D.TOi2.symm)
    (((hl2.extBut hs₁.extBut D.l2z).extBut hs₂.extBut D.l2i1).extBut hs₃.extBut D.l2TO) hy fun h₄ h2₄ hs₄ => wpAny_pure ?_)
  have hTO₄ : IsPair h₄ TO x b := hs₄.extBut _ _ D.TOi2 hTO₃
  refine wpAny_bind (wpAny_seqItems hTO₄ rfl ?_)
  refine wpAny_bind (wpAny_updateSeq_pair hTO₄ fun h₅ hTO₅ hs₅ => ?_)
  replace hTO₅ : IsPair h₅ TO x y := hTO₅
  refine wpAny_bind (wpAny_letGo (wpAny_pure (wpAny_pure ?_)))

  refine wpAny_bind (wpAny_seqItems hTO₅ rfl ?_)
  refine wpAny_bind (wpAny_newTuple ?_)
  have hsz : h₅.objs.size = s.heap.objs.size := by rw [hs₅.1, hs₄.1, hs₃.1, hs₂.1, hs₁.1]
  have hz₅ : IsZip h₅ z TI TO .ellipsis := hs₅.extBut _ _ D.TOz.symm (hs₄.extBut _ _ D.i2z.symm (hs₃.extBut _ _ D.TOz.symm (hs₂.extBut _ _ D.i1z.symm hz₁)))
  have hk₅ : ∀ c o, c ≠ z → c ≠ TO → c ≠ i1 → c ≠ i2 → s.heap.get? c = some o → h₅.get? c = some o := fun c o c1 c2 c3 c4 e =>
    hs₅.extBut _ _ c2 (hs₄.extBut _ _ c4 (hs₃.extBut _ _ c2 (hs₂.extBut _ _ c3 (hs₁.extBut _ _ c1 e))))
  have h1₅ : h₅.IsListIter i1 l1 (k1 + 1) := ((h1₂.extBut hs₃.extBut D.TOi1.symm).extBut hs₄.extBut D.i12).extBut hs₅.extBut D.TOi1.symm
  have h2₅ : h₅.IsTupleIter i2 l2 (k2 + 1) := h2₄.extBut hs₅.extBut D.TOi2.symm
  have hzlt : z < h₅.objs.size := Heap.lt_size hz₅
  have hTOlt : TO < h₅.objs.size := Heap.lt_size hTO₅
  have hi1lt : i1 < h₅.objs.size := by obtain ⟨_, e, _⟩ := h1₅; exact Heap.lt_size e
  have hi2lt : i2 < h₅.objs.size := by obtain ⟨_, e, _⟩ := h2₅; exact Heap.lt_size e
  show wpAny _ _ (Builtin.SmallTypes.ownedTupleHandOut (.ref z) (.ref h₅.objs.size) >>= _) _ _ _
  refine wpAny_bind ?_
  unfold Builtin.SmallTypes.ownedTupleHandOut
  have hz₆ : IsZip (h₅.push { cls := .type "tuple", data := .seq #[x, y] }) z TI TO .ellipsis := Heap.get?_push_of_some _ hz₅
  refine wpAny_bind (wpAny_setField_rec hz₆ (by simp) fun h₇ hz₇ hs₇ => ?_)
  replace hz₇ : IsZip h₇ z TI TO (rawInt h₅.objs.size) := hz₇
  refine wpAny_setField_rec hz₇ (by simp) fun h₈ hz₈ hs₈ => ?_
  replace hz₈ : IsZip h₈ z TI TO (rawInt h₅.objs.size) := hz₈
  have up : ∀ c o, c ≠ z → h₅.get? c = some o → h₈.get? c = some o := fun c o c1 e => hs₈.extBut _ _ c1 (hs₇.extBut _ _ c1 (Heap.get?_push_of_some _ e))
  have hT₈ : IsPair h₈ h₅.objs.size x y := hs₈.extBut _ _ (Nat.ne_of_gt hzlt) (hs₇.extBut _ _ (Nat.ne_of_gt hzlt) (Heap.get?_push_size _ rfl))
  have hz8 : h₈.objs.size = h₅.objs.size + 1 := by rw [hs₈.1, hs₇.1, Heap.size_push]
  rw [hsz] at hz₈ hT₈ hz8
  refine wpAny_pure ⟨_, rfl, ?_⟩
  show Q (.ref h₅.objs.size) _
  rw [hsz]
  exact hQ h₈ hz₈ (up _ _ D.TOz hTO₅) (h1₅.at fun o e => up _ o D.i1z e) (h2₅.at fun o e => up _ o D.i2z e) hT₈ hz8 fun c o c1 c2 c3 c4 e => up c o c1 (hk₅ c o c1 c2 c3 c4 e)

theorem zipM_next_end {z TI TO i1 i2 l1 l2 : Addr} {k1 k2 : Nat} {xs ys : Array Value} {a b : Value} {Q : Fin → Shared → Prop} (hh : A.handled = none) (D : ZipApart z TI TO i1 i2 l1 l2)
    (hz : IsZip s.heap z TI TO .none) (hTI : IsPair s.heap TI (.ref i1) (.ref i2)) (hTO : IsPair s.heap TO a b)
    (h1 : s.heap.IsListIter i1 l1 k1) (h2 : s.heap.IsTupleIter i2 l2 k2) (hl1 : s.heap.IsList l1 xs) (hl2 : s.heap.IsTuple l2 ys) (hend : xs[k1]? = none ∨ ys[k2]? = none)
    (hE : ∀ h' e, (∀ c o, c ≠ z → c ≠ TO → c ≠ i1 → c ≠ i2 → s.heap.get? c = some o → h'.get? c = some o) → (∃ o, h'.get? e = some o ∧ o.cls = .type "StopIteration") → E (.ref e) { s with heap := h' }) :
    wpAny (model prog w) A (Builtin.«zip.__next__» ⟨[.ref z], []⟩) Q E s := by
  show wpAny _ _ (field (.ref z) 2 >>= _) _ _ _
  refine wpAny_bind (wpAny_field hz rfl (x := .bool false) rfl ?_)
  show wpAny _ _ (field (.ref z) 3 >>= _) _ _ _
  refine wpAny_bind (wpAny_field hz rfl (x := .ref TI) rfl ?_)
  refine wpAny_bind (wpAny_seqItems hTI rfl ?_)
  show wpAny _ _ (Builtin.SmallTypes.ownedTupleIsFree (.ref z) >>= _) _ _ _
  refine wpAny_bind ?_
  unfold Builtin.SmallTypes.ownedTupleIsFree
  refine wpAny_bind (wpAny_field hz rfl (x := .none) rfl (wpAny_pure ?_))
  simp only [if_true]
  refine wpAny_bind (wpAny_rule ?_)
  refine wpAny_bind (wpAny_field hz rfl (x := .ref TO) rfl ?_)
  refine wpAny_bind (wpAny_setField_rec hz (by simp) fun h₁ hz₁ hs₁ => ?_)
  replace hz₁ : IsZip h₁ z TI TO .ellipsis := hz₁
  refine wpAny_bind ?_
  simp only [List.zipIdx_cons, List.zipIdx_nil, List.forIn_cons, List.forIn_nil]
  refine wpAny_bind (wpAny_bind (wpAny_onRaise ?_))
  show wpAny _ _ (Builtin.SmallTypes.nextOf (.ref i1) >>= _) _ _ _
  cases hx : xs[k1]? with
  | none =>
    refine wpAny_bind (wpAny_nextOf_list_end hh (h1.extBut hs₁.extBut D.i1z) (hl1.extBut hs₁.extBut D.l1z) hx fun h₂ e hs₂ he => ?_)
    obtain ⟨oe, hoe, hce⟩ := he
    have hz₂ : IsZip h₂ z TI TO .ellipsis := hs₂ _ _ D.i1z.symm hz₁
    have hez : e ≠ z := fun x => by subst x; rw [hz₂] at hoe; cases hoe; simp at hce
    refine wpAny_setField_rec hz₂ (by simp) fun h₃ _ hs₃ => hE h₃ e (fun c o c1 _ c3 _ x => hs₃.extBut _ _ c1 (hs₂ _ _ c3 (hs₁.extBut _ _ c1 x))) ⟨oe, hs₃.extBut _ _ hez hoe, hce⟩
  | some x =>
    have hy : ys[k2]? = none := by rcases hend with h | h; rw [hx] at h; cases h; exact h
    refine wpAny_bind (wpAny_nextOf_list_item (h1.extBut hs₁.extBut D.i1z) (hl1.extBut hs₁.extBut D.l1z) hx fun h₂ h1₂ hs₂ => wpAny_pure ?_)
    have hTO₂ : IsPair h₂ TO a b := hs₂.extBut _ _ D.TOi1 (hs₁.extBut _ _ D.TOz hTO)
    refine wpAny_bind (wpAny_seqItems hTO₂ rfl ?_)
    refine wpAny_bind (wpAny_updateSeq_pair hTO₂ fun h₃ hTO₃ hs₃ => ?_)
    refine wpAny_bind (wpAny_letGo (wpAny_pure ?_))
    refine wpAny_bind (wpAny_bind (wpAny_onRaise ?_))
    show wpAny _ _ (Builtin.SmallTypes.nextOf (.ref i2) >>= _) _ _ _
    refine wpAny_bind (nextOf_tuple_end hh (((h2.extBut hs₁.extBut D.i2z).extBut hs₂.extBut D.i12.symm).extBut hs₃.extBut D.TOi2.symm)
      (((hl2.extBut hs₁.extBut D.l2z).extBut hs₂.extBut D.l2i1).extBut hs₃.extBut D.l2TO) hy fun h₄ e hs₄ he => ?_)
    obtain ⟨oe, hoe, hce⟩ := he
    have hz₄ : IsZip h₄ z TI TO .ellipsis := hs₄ _ _ D.i2z.symm (hs₃.extBut _ _ D.TOz.symm (hs₂.extBut _ _ D.i1z.symm hz₁))
    have hez : e ≠ z := fun x => by subst x; rw [hz₄] at hoe; cases hoe; simp at hce
    refine wpAny_setField_rec hz₄ (by simp) fun h₅ _ hs₅ => hE h₅ e (fun c o c1 c2 c3 c4 x => hs₅.extBut _ _ c1 (hs₄ _ _ c4 (hs₃.extBut _ _ c2 (hs₂.extBut _ _ c3 (hs₁.extBut _ _ c1 x))))) ⟨oe, hs₅.extBut _ _ hez hoe, hce⟩

theorem pyNext_zipM_item {z TI TO i1 i2 l1 l2 : Addr} {k1 k2 : Nat} {xs ys : Array Value} {x y a b : Value} {Q : Option Value → Shared → Prop} (D : ZipApart z TI TO i1 i2 l1 l2)
    (hz : IsZip s.heap z TI TO .none) (hTI : IsPair s.heap TI (.ref i1) (.ref i2)) (hTO : IsPair s.heap TO a b)
    (h1 : s.heap.IsListIter i1 l1 k1) (h2 : s.heap.IsTupleIter i2 l2 k2) (hl1 : s.heap.IsList l1 xs) (hl2 : s.heap.IsTuple l2 ys) (hx : xs[k1]? = some x) (hy : ys[k2]? = some y)
    (hQ : ∀ h', IsZip h' z TI TO (rawInt s.heap.objs.size) → IsPair h' TO x y → h'.IsListIter i1 l1 (k1 + 1) → h'.IsTupleIter i2 l2 (k2 + 1) → IsPair h' s.heap.objs.size x y → h'.objs.size = s.heap.objs.size + 1 →
      (∀ c o, c ≠ z → c ≠ TO → c ≠ i1 → c ≠ i2 → s.heap.get? c = some o → h'.get? c = some o) → Q (some (.ref s.heap.objs.size)) { s with heap := h' }) :
    wpAny (model prog w) A (pyNext (.ref z)) Q E s := by
  have hT : s.TypeIs (.ref z) "zip" := ⟨_, hz, rfl⟩
  unfold pyNext
  exact wpAny_bind (wpAny_attempt (wpAny_callSpecial?_slot (name := Str.ofString "__next__") hT F.slot_zip_next
    (wpAny_call_entry F.slot_zip_next hT F.entry_zip_next
      (zipM_next_item D hz hTI hTO h1 h2 hl1 hl2 hx hy fun h' a1 a2 a3 a4 a5 a6 a7 => wpAny_pure (hQ h' a1 a2 a3 a4 a5 a6 a7)) (F.args_zip_next_1 _))))

theorem pyNext_zipM_end {z TI TO i1 i2 l1 l2 : Addr} {k1 k2 : Nat} {xs ys : Array Value} {a b : Value} {Q : Option Value → Shared → Prop} (hh : A.handled = none) (D : ZipApart z TI TO i1 i2 l1 l2)
    (hz : IsZip s.heap z TI TO .none) (hTI : IsPair s.heap TI (.ref i1) (.ref i2)) (hTO : IsPair s.heap TO a b)
    (h1 : s.heap.IsListIter i1 l1 k1) (h2 : s.heap.IsTupleIter i2 l2 k2) (hl1 : s.heap.IsList l1 xs) (hl2 : s.heap.IsTuple l2 ys) (hend : xs[k1]? = none ∨ ys[k2]? = none)
    (hQ : ∀ h', (∀ c o, c ≠ z → c ≠ TO → c ≠ i1 → c ≠ i2 → s.heap.get? c = some o → h'.get? c = some o) → Q none { s with heap := h' }) : wpAny (model prog w) A (pyNext (.ref z)) Q E s := by
  have hT : s.TypeIs (.ref z) "zip" := ⟨_, hz, rfl⟩
  unfold pyNext
  refine wpAny_bind (wpAny_attempt (wpAny_callSpecial?_slot (name := Str.ofString "__next__") hT F.slot_zip_next
    (wpAny_call_entry F.slot_zip_next hT F.entry_zip_next (zipM_next_end hh D hz hTI hTO h1 h2 hl1 hl2 hend fun h' e hk he => ?_) (F.args_zip_next_1 _))))
  obtain ⟨o, ho, hc⟩ := he
  refine wpAny_bind (wpAny_isInstance (T := "StopIteration") (b := true) ⟨o, ho, hc⟩ isSubtype_stop ?_)
  exact wpAny_pure (hQ _ hk)
end

abbrev zipMH1 (h : Heap) (l1 : Addr) : Heap := h.push { cls := .type "list_iterator", data := .fields #[.ref l1, .int 0 0] }
abbrev zipMH2 (h : Heap) (l1 l2 : Addr) : Heap := (zipMH1 h l1).push { cls := .type "tuple_iterator", data := .fields #[.ref l2, .int 0 0] }
abbrev zipMH3 (h : Heap) (l1 l2 : Addr) : Heap := (zipMH2 h l1 l2).push { cls := .type "tuple", data := .seq #[.ref h.objs.size, .ref (zipMH1 h l1).objs.size] }
abbrev zipMH4 (h : Heap) (l1 l2 : Addr) : Heap := (zipMH3 h l1 l2).push { cls := .type "tuple", data := .seq #[.none, .none] }
abbrev zipMH5 (h : Heap) (l1 l2 : Addr) : Heap := (zipMH4 h l1 l2).push { cls := .type "zip", data := .fields #[.none, .bool false, .bool false, .ref (zipMH2 h l1 l2).objs.size, .ref (zipMH3 h l1 l2).objs.size] }

theorem meets_zipM_new (l1 l2 : Addr) (xs ys : Array Value) :
    Meets (Builtin.«zip.__new__» ⟨[.type "zip", .ref l1, .ref l2], []⟩) (fun _ R s => s.heap.IsList l1 xs ∧ s.heap.IsTuple l2 ys ∧
      R (.ok (.ret (.ref (zipMH4 s.heap l1 l2).objs.size))) { s with heap := zipMH5 s.heap l1 l2 }) :=
  .of_wp fun prog w A R s h => by
    obtain ⟨hp, g, d, tk, os⟩ := s; obtain ⟨hl1, hl2, h⟩ := h
    have hsub := sub_zip
    have hL1 : Heap.IsList (Shared.heap ⟨hp, g, d, tk, os⟩) l1 xs := hl1
    have hL2 : Heap.IsTuple (Shared.heap ⟨hp.push { cls := .type "list_iterator", data := .fields #[.ref l1, .int 0 0] }, g, d, tk, os⟩) l2 ys := Heap.IsTuple.push hl2 _
    wp_walk using wpAny_pyIter_list hL1, wpAny_pyIter_tuple hL2
    exact ⟨_, rfl, h⟩

section
variable {prog : Program} {w : World} {A : Around} {E : Value → Shared → Prop} {s : Shared}

theorem call_zipM {l1 l2 : Addr} {xs ys : Array Value} {Q : Value → Shared → Prop} (hl1 : s.heap.IsList l1 xs) (hl2 : s.heap.IsTuple l2 ys)
    (h : ∀ h', IsZip h' (s.heap.objs.size + 4) (s.heap.objs.size + 2) (s.heap.objs.size + 3) .none → IsPair h' (s.heap.objs.size + 2) (.ref s.heap.objs.size) (.ref (s.heap.objs.size + 1)) →
      IsPair h' (s.heap.objs.size + 3) .none .none → h'.IsListIter s.heap.objs.size l1 0 → h'.IsTupleIter (s.heap.objs.size + 1) l2 0 → h'.objs.size = s.heap.objs.size + 5 →
      (∀ c o, s.heap.get? c = some o → h'.get? c = some o) → Q (.ref (s.heap.objs.size + 4)) { s with heap := h' }) :
    wpAny (model prog w) A (call (.type "zip") [.ref l1, .ref l2]) Q E s := by
  refine callType_new F.called_zip (by decide) (F.typeCall_zip_2 _ _) (F.newCall_zip_2 _ _) (fun obj => F.args_object_init_3 obj _ _) F.entry_zip_new
    (meets_zipM_new l1 l2 xs ys) ⟨hl1, hl2, ?_⟩
  have z1 : (zipMH1 s.heap l1).objs.size = s.heap.objs.size + 1 := Heap.size_push ..
  have z2 : (zipMH2 s.heap l1 l2).objs.size = s.heap.objs.size + 2 := by rw [Heap.size_push, z1]
  have z3 : (zipMH3 s.heap l1 l2).objs.size = s.heap.objs.size + 3 := by rw [Heap.size_push, z2]
  have z4 : (zipMH4 s.heap l1 l2).objs.size = s.heap.objs.size + 4 := by rw [Heap.size_push, z3]
  have z5 : (zipMH5 s.heap l1 l2).objs.size = s.heap.objs.size + 5 := by rw [Heap.size_push, z4]
  have g5 : (zipMH5 s.heap l1 l2).get? (zipMH4 s.heap l1 l2).objs.size = some _ := Heap.get?_push_size _ rfl
  have g4 : (zipMH5 s.heap l1 l2).get? (zipMH3 s.heap l1 l2).objs.size = some _ := Heap.get?_push_of_some _ (Heap.get?_push_size _ rfl)
  have g3 : (zipMH5 s.heap l1 l2).get? (zipMH2 s.heap l1 l2).objs.size = some _ := Heap.get?_push_of_some _ (Heap.get?_push_of_some _ (Heap.get?_push_size _ rfl))
  have g2 : (zipMH5 s.heap l1 l2).get? (zipMH1 s.heap l1).objs.size = some _ := Heap.get?_push_of_some _ (Heap.get?_push_of_some _ (Heap.get?_push_of_some _ (Heap.get?_push_size _ rfl)))
  have g1 : (zipMH5 s.heap l1 l2).get? s.heap.objs.size = some _ := Heap.get?_push_of_some _ (Heap.get?_push_of_some _ (Heap.get?_push_of_some _ (Heap.get?_push_of_some _ (Heap.get?_push_size _ rfl))))
  show _ ∧ _
  rw [z2, z3, z4] at g5
  rw [z1, z2] at g3
  rw [z3] at g4
  rw [z1] at g2
  rw [z4]
  exact ⟨⟨_, g5, rfl⟩, h _ g5 g3 g4 ⟨_, g1, rfl, rfl⟩ ⟨_, g2, rfl, rfl⟩ z5 fun c o x =>
    Heap.get?_push_of_some _ (Heap.get?_push_of_some _ (Heap.get?_push_of_some _ (Heap.get?_push_of_some _ (Heap.get?_push_of_some _ x))))⟩
end

/-- the list at a and the tuple at b as they stand at each turn, the items in new pairs -/
def ItzM (K : PySem.W.Frag) (a b : Addr) : It :=
  ⟨fun i H => ∃ (xs ys : List V) (x y : V), SqL K H a xs ∧ SqT K H b ys ∧ xs[i]? = some x ∧ ys[i]? = some y,
    fun i H v H' => ∃ T x y, v = .ref T ∧ H T = none ∧ H' = upd H T (.tup [x, y]) ∧ (∀ xs, SqL K H a xs → xs[i]? = some x) ∧ ∀ ys, SqT K H b ys → ys[i]? = some y,
    fun i H => ∃ xs ys : List V, SqL K H a xs ∧ SqT K H b ys ∧ (xs.length ≤ i ∨ ys.length ≤ i)⟩
theorem turn_zipM {P : Program} {w : World} {K : PySem.W.Frag} {elts : List Expr} {kk : Nat} {tpos : Pos} {a b z TI TO i1 i2 : Addr} (D : ZipApart z TI TO i1 i2 a b) :
    Turn P w K (.Tuple elts kk tpos) (ItzM K a b) [z, TI, TO, i1, i2] z (fun i h => IsZip h z TI TO .none ∧ IsPair h TI (.ref i1) (.ref i2) ∧ (∃ x y, IsPair h TO x y) ∧ h.IsListIter i1 a i ∧ h.IsTupleIter i2 b i) where
  mem := by simp
  obj := fun i h st c hc => by
    obtain ⟨hz, hTI, ⟨x, y, hTO⟩, ⟨o1, e1, _, d1⟩, ⟨o2, e2, _, d2⟩⟩ := st
    have e' : c = z ∨ c = TI ∨ c = TO ∨ c = i1 ∨ c = i2 := by simpa using hc
    rcases e' with q | q | q | q | q
    · rw [q]; exact ⟨_, hz, fun v q => nomatch q⟩
    · rw [q]; exact ⟨_, hTI, fun v q => nomatch q⟩
    · rw [q]; exact ⟨_, hTO, fun v q => nomatch q⟩
    · rw [q]; exact ⟨o1, e1, fun v q => by rw [d1] at q; cases q⟩
    · rw [q]; exact ⟨o2, e2, fun v q => by rw [d2] at q; cases q⟩
  keep := fun i h h' st k => by
    obtain ⟨hz, hTI, ⟨x, y, hTO⟩, h1, h2⟩ := st
    exact ⟨k z (by simp) _ hz, k TI (by simp) _ hTI, ⟨x, y, k TO (by simp) _ hTO⟩, h1.at fun o q => k i1 (by simp) o q, h2.at fun o q => k i2 (by simp) o q⟩
  item := by
    intro X hP hw hK hc i pins s σ H E I hf st hg
    subst hP hw hK
    obtain ⟨hz, hTI, ⟨x0, y0, hTO⟩, h1, h2⟩ := st
    obtain ⟨xs, ys, x, y, hqx, hqy, hx, hy⟩ := hg
    obtain ⟨its, rv, p, _⟩ := I.list hqx
    obtain ⟨its2, rv2, p2, _⟩ := I.tuple hqy
    obtain ⟨u, hu, ru⟩ := rv.get hx
    obtain ⟨u2, hu2, ru2⟩ := rv2.get hy
    have hzl : z < s.heap.objs.size := Heap.lt_size hz
    refine pyNext_zipM_item D hz hTI hTO h1 h2 p.isList p2 (x := u) (y := u2) (by simpa using hu) (by simpa using hu2) fun h' z' TO' h1' h2' hT hsz hk => ?_
    refine ⟨_, rfl, wpAny_letOwnedTupleGo_zip (s := { s with heap := h' }) z' fun h'' z'' sb => ?_⟩
    have hT2 : h''.get? s.heap.objs.size = some { cls := .type "tuple", data := .seq #[u, u2] } := (sb.2 _ (Nat.ne_of_gt hzl)).trans hT
    have new : ObjOk X.prog X.w (upd H s.heap.objs.size (.tup [x, y])) h'' s.heap.objs.size (.tup [x, y]) :=
      ⟨by show 2 ≤ sizeLine; decide, [u, u2], .cons ru (.cons ru2 .nil), ⟨_, hT2, rfl, _, rfl⟩⟩
    have I1 : Inv X pins σ (upd H s.heap.objs.size (.tup [x, y])) { s with heap := h'' } :=
      I.turnedNew (t' := s.toks) (ch := [z, TI, TO, i1, i2]) (fun c o hb q => (sb.2 c (fun q' => hb (by simp [q']))).trans (hk c o (fun q' => hb (by simp [q'])) (fun q' => hb (by simp [q'])) (fun q' => hb (by simp [q'])) (fun q' => hb (by simp [q'])) q)) hf (Nat.le_refl _) new
    refine ⟨.ref s.heap.objs.size, _, I1, rfl, ⟨_, x, y, rfl, I.hok.fresh (Nat.le_refl _), rfl, fun l hl => by rw [I.list_inj hl hqx]; exact hx, fun l hl => by rw [I.tuple_inj hl hqy]; exact hy⟩, ⟨z'', ?_, ⟨u, u2, ?_⟩, ?_, ?_⟩, fun c hcm => ?_⟩
    · exact (sb.2 _ D.TIz).trans (hk _ _ D.TIz D.TITO D.TIi1 D.TIi2 hTI)
    · exact (sb.2 _ D.TOz).trans TO'
    · exact h1'.at fun o q => (sb.2 _ D.i1z).trans q
    · exact h2'.at fun o q => (sb.2 _ D.i2z).trans q
    · have hlt : c < s.heap.objs.size := by
        have e' : c = z ∨ c = TI ∨ c = TO ∨ c = i1 ∨ c = i2 := by simpa using hcm
        rcases e' with q | q | q | q | q
        · rw [q]; exact hzl
        · rw [q]; exact Heap.lt_size hTI
        · rw [q]; exact Heap.lt_size hTO
        · rw [q]; obtain ⟨_, e1, _⟩ := h1; exact Heap.lt_size e1
        · rw [q]; obtain ⟨_, e2, _⟩ := h2; exact Heap.lt_size e2
      rw [upd_ne (Nat.ne_of_lt hlt)]
      exact (hf c hcm).1
  done := by
    intro X hP hw hK hc i pins s σ H E I hf st hg
    subst hP hw hK
    obtain ⟨hz, hTI, ⟨x0, y0, hTO⟩, h1, h2⟩ := st
    obtain ⟨xs, ys, hqx, hqy, hend⟩ := hg
    obtain ⟨its, rv, p, _⟩ := I.list hqx
    obtain ⟨its2, rv2, p2, _⟩ := I.tuple hqy
    have l1 := rv.length
    have l2 := rv2.length
    have he : its.toArray[i]? = none ∨ its2.toArray[i]? = none := by
      rcases hend with q | q
      · exact .inl (by simp; omega)
      · exact .inr (by simp; omega)
    exact pyNext_zipM_end (I.ok.hd hc) D hz hTI hTO h1 h2 p.isList p2 he fun h' hk => ⟨rfl, I.turnedL (t' := s.toks) (ch := [z, TI, TO, i1, i2]) (fun c o hb q =>
      hk c o (fun q' => hb (by simp [q'])) (fun q' => hb (by simp [q'])) (fun q' => hb (by simp [q'])) (fun q' => hb (by simp [q'])) q) hf⟩
  self := fun A i s Q E st h => wpAny_pyIter_zip st.1 h


section
variable {X : Cx} {σ : L2.St} {H : Hp} {e a b : Expr} {p pos tpos : Pos} {elts : List Expr} {kk : Nat}
/-- zip of a list and of a list or a tuple of data -/
theorem i_zipD {H0 : Hp} {R : It → Hp → Prop} (B : Blt X.mg X.base) (h : wE X a σ H fun v H1 => wE X b σ H1 fun u H2 => ∃ (q : Addr) (xs : List V) (l : List Addr) (d : PyData), v = .ref q ∧ H2 q = some (.lst xs) ∧ But l H0 H2 ∧ DD X.K l H0 u d ∧ seqB d = true ∧
      ∀ J G vs, Walk J (min xs.length vs.length) G (YPair (fun i => xs[i]?) (fun i => vs[i]?)) → (∀ H', H' q = some (.lst xs) → But l H0 H' → G H') → DDs X.K l H0 vs (items d) → R J H2) (hg : Gl X "zip" := by rfl)
    (hs : starEach [a, b] X.env = (false, eval a X.env) :: starEach [b] X.env := by rfl) (hs2 : starEach [b] X.env = [(false, eval b X.env)] := by rfl) :
    wI X (.Tuple elts kk tpos) (.Call (.Name "zip" p) [a, b] [] pos) σ H R := by
  have ha : wA X [a, b] σ H fun vs H2 => ∃ (q t : Addr) (xs ys : List V), vs = [.ref q, .ref t] ∧ ((SqL X.K H2 q xs ∧ SqL X.K H2 t ys ∧ R (Itz X.K q t) H2) ∨ (SqL X.K H2 q xs ∧ SqT X.K H2 t ys ∧ R (ItzM X.K q t) H2)) :=
    a_cons (wE_mono h fun v H1 g1 => a_cons (wE_mono g1 fun u H2 ⟨q, xs, l, d, e1, e2, e3, e4, e5, r⟩ => a_nil (by
      subst e1
      have sq : ∀ {H'}, H' q = some (.lst xs) → SqL X.K H' q xs := fun h => .inl (.inl h)
      cases e4 with
      | @lst t ys ds h1 n h2 => exact ⟨q, t, xs, ys, rfl, .inl ⟨sq e2, e3.sql n h1, r _ _ ys (walk_zip rfl) (fun H' b1 b2 => ⟨sq b1, b2.sql n h1⟩) h2⟩⟩
      | @tup t ys ds h1 n h2 =>
        refine ⟨q, t, xs, ys, rfl, .inr ⟨sq e2, e3.sqt n h1, r (ItzM X.K q t) (fun H => SqL X.K H q xs ∧ SqT X.K H t ys) ys ⟨fun i H hi q => ?_, fun H q => ⟨xs, ys, q.1, q.2, by omega⟩, fun i H v H' hi q y => ?_⟩ (fun H' b1 b2 => ⟨sq b1, b2.sqt n h1⟩) h2⟩⟩
        · exact ⟨xs, ys, xs[i]'(by omega), ys[i]'(by omega), q.1, q.2, List.getElem?_eq_getElem _, List.getElem?_eq_getElem _⟩
        · obtain ⟨T, x, z, h1, h2, h3, h4, h5⟩ := y
          exact ⟨T, x, z, h1, h2, h3, h4 xs q.1, h5 ys q.2⟩
      | _ => simp [seqB, Z.isList, Z.isTuple] at e5)) hs2) hs
  refine ⟨fun pins s I => ?_⟩
  refine Call_ (ld_blt I hg B.zip PyProof.Rows.boot_zip (PyProof.Rows.callWith_type1 (thn (ha.run pos pins _ I) fun us s1 ⟨vs, H1, I1, r1, q1⟩ => ?_) hs (by rw [hs2]; rfl)))
  obtain ⟨q, t, xs, ys, ex, q1⟩ := q1
  subst ex
  obtain ⟨u1, u2, rfl, k1, k2⟩ := vals2 r1
  cases k1
  cases k2
  have fresh5 : ∀ c, c ∈ [s1.heap.objs.size + 4, s1.heap.objs.size + 2, s1.heap.objs.size + 3, s1.heap.objs.size, s1.heap.objs.size + 1] → FpOk X pins H1 c := fun c hcm => by
    have hle : s1.heap.objs.size ≤ c := by
      simp only [List.mem_cons, List.not_mem_nil, or_false] at hcm
      omega
    exact I1.fpOk hle (I1.hok.fresh hle)
  rcases q1 with ⟨hqx, hqy, r⟩ | ⟨hqx, hqy, r⟩
  · obtain ⟨its, rv, p1, _⟩ := I1.list hqx
    obtain ⟨its2, rv2, p2, _⟩ := I1.list hqy
    refine call_zip_2 p1.isList p2.isList fun h' hz hTI hTO h1 h2 hsz hk => wpAny_pyIter_zip hz ?_
    have I2 : Inv X pins σ H1 { s1 with heap := h' } := I1.kept (t' := s1.toks) hk
    exact ⟨s1.heap.objs.size + 4, [s1.heap.objs.size + 4, s1.heap.objs.size + 2, s1.heap.objs.size + 3, s1.heap.objs.size, s1.heap.objs.size + 1], _, _, H1, rfl, I2, turn_zip (PySem.W.ktu_apart s1.heap.objs.size q t p1.lt p2.lt), ⟨hz, hTI, ⟨_, _, hTO⟩, h1, h2⟩, fresh5, r⟩
  · obtain ⟨its, rv, p1, _⟩ := I1.list hqx
    obtain ⟨its2, rv2, p2, _⟩ := I1.tuple hqy
    obtain ⟨o2, ho2, _⟩ := id p2
    refine call_zipM p1.isList (show s1.heap.IsTuple t its2.toArray from p2) fun h' hz hTI hTO h1 h2 hsz hk => wpAny_pyIter_zip hz ?_
    have I2 : Inv X pins σ H1 { s1 with heap := h' } := I1.kept (t' := s1.toks) hk
    exact ⟨s1.heap.objs.size + 4, [s1.heap.objs.size + 4, s1.heap.objs.size + 2, s1.heap.objs.size + 3, s1.heap.objs.size, s1.heap.objs.size + 1], _, _, H1, rfl, I2, turn_zipM (PySem.W.ktu_apart s1.heap.objs.size q t p1.lt (Heap.lt_size ho2)), ⟨hz, hTI, ⟨_, _, hTO⟩, h1, h2⟩, fresh5, r⟩
end
end Z

set_option Elab.async false
set_option linter.all false
set_option maxRecDepth 100000
set_option maxHeartbeats 4000000
/-! trees of lists, each list at an address of its own; a tree that grows at its right edge -/
namespace Z
open PySem PySem.Spec PyProof.Rows L2
mutual
/-- v holds the tree d of lists and texts; its lists stand at the addresses S, each once -/
inductive Bu (H : Hp) : List Addr → V → PyData → Prop
  | str (x : Str) : Bu H [] (.str x) (.str x)
  | lst {a : Addr} {xs : List V} {S : List Addr} {ds : List PyData} : H a = some (.lst xs) → Bus H S xs ds → a ∉ S → Bu H (a :: S) (.ref a) (.list ds)
inductive Bus (H : Hp) : List Addr → List V → List PyData → Prop
  | nil : Bus H [] [] []
  | cons {S T : List Addr} {v : V} {d : PyData} {vs : List V} {ds : List PyData} : Bu H S v d → Bus H T vs ds → (∀ a ∈ S, a ∉ T) → Bus H (S ++ T) (v :: vs) (d :: ds)
end
mutual
theorem Bu.dd {K : PySem.W.Frag} {l : List Addr} {H : Hp} {S : List Addr} {v : V} {d : PyData} : Bu H S v d → (∀ a ∈ S, a ∉ l) → DD K l H v d
  | .str x, _ => .str x
  | .lst h r _, n => .lst (.inl (.inl h)) (n _ (by simp)) (Bus.dd r fun a ha => n a (by simp [ha]))
theorem Bus.dd {K : PySem.W.Frag} {l : List Addr} {H : Hp} {S : List Addr} {vs : List V} {ds : List PyData} : Bus H S vs ds → (∀ a ∈ S, a ∉ l) → DDs K l H vs ds
  | .nil, _ => .nil
  | .cons h r _, n => .cons (Bu.dd h fun a ha => n a (by simp [ha])) (Bus.dd r fun a ha => n a (by simp [ha]))
end
mutual
theorem Bu.but {l : List Addr} {H H' : Hp} {S : List Addr} {v : V} {d : PyData} (b : But l H H') : Bu H S v d → (∀ a ∈ S, a ∉ l) → Bu H' S v d
  | .str x, _ => .str x
  | .lst h r m, n => .lst (b _ _ (n _ (by simp)) h) (Bus.but b r fun a ha => n a (by simp [ha])) m
theorem Bus.but {l : List Addr} {H H' : Hp} {S : List Addr} {vs : List V} {ds : List PyData} (b : But l H H') : Bus H S vs ds → (∀ a ∈ S, a ∉ l) → Bus H' S vs ds
  | .nil, _ => .nil
  | .cons h r m, n => .cons (Bu.but b h fun a ha => n a (by simp [ha])) (Bus.but b r fun a ha => n a (by simp [ha])) m
end
theorem Bus.length {H : Hp} : ∀ {S : List Addr} {vs : List V} {ds : List PyData}, Bus H S vs ds → vs.length = ds.length
  | _, _, _, .nil => rfl
  | _, _, _, .cons _ r _ => by simp [Bus.length r]
theorem Bus.append {H : Hp} : ∀ {S T : List Addr} {xs ys : List V} {ds es : List PyData}, Bus H S xs ds → Bus H T ys es → (∀ a ∈ S, a ∉ T) → Bus H (S ++ T) (xs ++ ys) (ds ++ es)
  | _, _, _, _, _, _, .nil, r, _ => r
  | _, _, _, _, _, _, .cons (S := S1) (T := T1) h h2 m, r, n => by
    rw [List.append_assoc]
    exact .cons h (Bus.append h2 r fun a ha => n a (by simp [ha])) fun a ha hb => by
      rcases List.mem_append.mp hb with q | q
      · exact m a ha q
      · exact n a (by simp [ha]) q
theorem Bu.one {H : Hp} {S : List Addr} {v : V} {d : PyData} (h : Bu H S v d) : Bus H S [v] [d] := by
  have := Bus.cons h .nil (by simp)
  rwa [List.append_nil] at this
/-! ### plain: open levels -/
abbrev Sts := List (List PyData)
/-- all levels closed -/
def fold : Sts → List PyData
  | [] => []
  | [ds] => ds
  | ds :: r :: rs => ds ++ [.list (fold (r :: rs))]
/-- the first n levels stay open -/
def closeTo : Nat → Sts → Sts
  | 0, _ => []
  | _, [] => []
  | 1, st => [fold st]
  | n + 2, ds :: r => ds :: closeTo (n + 1) r
def putLast : Sts → PyData → Sts
  | [], _ => []
  | [ds], d => [ds ++ [d]]
  | ds :: r :: rs, d => ds :: putLast (r :: rs) d
theorem len_closeTo : ∀ {n : Nat} {st : Sts}, n ≤ st.length → (closeTo n st).length = n
  | 0, _, _ => rfl
  | 1, _ :: _, _ => rfl
  | n + 2, ds :: r, h => by
    show (closeTo (n + 1) r).length + 1 = n + 2
    rw [len_closeTo (n := n + 1) (by simpa using h)]
theorem len_putLast : ∀ {st : Sts} {d : PyData}, (putLast st d).length = st.length
  | [], _ => rfl
  | [_], _ => rfl
  | _ :: r :: rs, d => by
    show (putLast (r :: rs) d).length + 1 = _
    rw [len_putLast (st := r :: rs)]
    rfl
theorem fold_few : ∀ {st : Sts} {N : Nat}, (∀ ds ∈ st, ds.length ≤ N) → (fold st).length ≤ N + 1
  | [], _, _ => by simp [fold]
  | [ds], N, h => Nat.le_succ_of_le (h ds (by simp))
  | ds :: r :: rs, N, h => by
    show (ds ++ [_]).length ≤ _
    rw [List.length_append]
    exact Nat.succ_le_succ (h ds (by simp))
theorem closeTo_few : ∀ {n : Nat} {st : Sts} {N : Nat}, (∀ ds ∈ st, ds.length ≤ N) → ∀ ds ∈ closeTo n st, ds.length ≤ N + 1
  | 0, _, _, _, ds, h => by simp [closeTo] at h
  | 1, [], _, _, ds, h => by simp [closeTo] at h
  | n + 2, [], _, _, ds, h => by simp [closeTo] at h
  | 1, a :: st, N, hN, ds, h => by
    have : ds = fold (a :: st) := by simpa [closeTo] using h
    rw [this]
    exact fold_few hN
  | n + 2, a :: r, N, hN, ds, h => by
    have h : ds ∈ a :: closeTo (n + 1) r := h
    rcases List.mem_cons.mp h with h | h
    · rw [h]; exact Nat.le_succ_of_le (hN a (by simp))
    · exact closeTo_few (n := n + 1) (fun d hd => hN d (by simp [hd])) ds h
theorem putLast_few : ∀ {st : Sts} {d : PyData} {N : Nat}, (∀ ds ∈ st, ds.length ≤ N) → ∀ ds ∈ putLast st d, ds.length ≤ N + 1
  | [], _, _, _, ds, h => by simp [putLast] at h
  | [a], d, N, hN, ds, h => by
    have : ds = a ++ [d] := by simpa [putLast] using h
    rw [this, List.length_append]
    exact Nat.succ_le_succ (hN a (by simp))
  | a :: r :: rs, d, N, hN, ds, h => by
    have h : ds ∈ a :: putLast (r :: rs) d := h
    rcases List.mem_cons.mp h with h | h
    · rw [h]; exact Nat.le_succ_of_le (hN a (by simp))
    · exact putLast_few (st := r :: rs) (fun d hd => hN d (by simp [hd])) ds h
/-- the open lists at us, each one's last but the innermost's is the next one; what is closed stands at T -/
inductive Spn (H : Hp) : List Addr → List Addr → Sts → Prop
  | one {u : Addr} {xs : List V} {S : List Addr} {ds : List PyData} : H u = some (.lst xs) → Bus H S xs ds → u ∉ S → Spn H [u] S [ds]
  | more {u u' : Addr} {us : List Addr} {xs : List V} {S T : List Addr} {ds : List PyData} {r : Sts} : H u = some (.lst (xs ++ [.ref u'])) → Bus H S xs ds → Spn H (u' :: us) T r → u ∉ S → u ∉ u' :: us → u ∉ T → (∀ a ∈ S, a ∉ u' :: us ∧ a ∉ T) →
      Spn H (u :: u' :: us) (S ++ T) (ds :: r)
theorem Spn.len {H : Hp} : ∀ {us T : List Addr} {st : Sts}, Spn H us T st → st.length = us.length
  | _, _, _, .one .. => rfl
  | _, _, _, .more _ _ r .. => by simp [Spn.len r]
theorem Spn.but {l : List Addr} {H H' : Hp} (b : But l H H') : ∀ {us T : List Addr} {st : Sts}, Spn H us T st → (∀ a ∈ us, a ∉ l) → (∀ a ∈ T, a ∉ l) → Spn H' us T st
  | _, _, _, .one h r n, h1, h2 => .one (b _ _ (h1 _ (by simp)) h) (r.but b h2) n
  | _, _, _, .more h r s n1 n2 n3 n4, h1, h2 => .more (b _ _ (h1 _ (by simp)) h) (r.but b fun a ha => h2 a (by simp [ha])) (s.but b (fun a ha => h1 a (List.mem_cons_of_mem _ ha)) fun a ha => h2 a (by simp [ha])) n1 n2 n3 n4
theorem Spn.apart {H : Hp} : ∀ {us T : List Addr} {st : Sts}, Spn H us T st → ∀ a ∈ us, a ∉ T
  | _, _, _, .one h r n, a, ha => by rw [List.mem_singleton.mp ha]; exact n
  | _, _, _, .more h r s n1 n2 n3 n4, a, ha => fun hb => by
    rcases List.mem_cons.mp ha with e | ha
    · subst e
      rcases List.mem_append.mp hb with q | q
      · exact n1 q
      · exact n3 q
    · rcases List.mem_append.mp hb with q | q
      · exact (n4 a q).1 ha
      · exact s.apart a ha q
theorem Spn.fold {H : Hp} : ∀ {u : Addr} {us T : List Addr} {st : Sts}, Spn H (u :: us) T st → ∃ xs S, H u = some (.lst xs) ∧ Bus H S xs (fold st) ∧ u ∉ S ∧ ∀ a ∈ S, a ∈ us ∨ a ∈ T
  | _, _, _, _, .one h r n => ⟨_, _, h, r, n, fun a ha => .inr ha⟩
  | _, _, _, _, .more (r := r0) h r s n1 n2 n3 n4 => by
    obtain ⟨xs', S', e1, e2, e3, e4⟩ := s.fold
    cases r0 with
    | nil => cases s
    | cons r1 rs =>
      refine ⟨_, _, h, Bus.append r (Bu.one (Bu.lst e1 e2 e3)) fun a ha hb => ?_, fun hb => ?_, fun a ha => ?_⟩
      · rcases List.mem_cons.mp hb with e | hb
        · exact (n4 a ha).1 (by simp [e])
        · rcases e4 a hb with q | q
          · exact (n4 a ha).1 (by simp [q])
          · exact (n4 a ha).2 q
      · rcases List.mem_append.mp hb with q | q
        · exact n1 q
        · rcases List.mem_cons.mp q with e | q
          · exact n2 (by simp [e])
          · rcases e4 _ q with q | q
            · exact n2 (by simp [q])
            · exact n3 q
      · rcases List.mem_append.mp ha with q | q
        · exact .inr (by simp [q])
        · rcases List.mem_cons.mp q with e | q
          · exact .inl (by simp [e])
          · rcases e4 _ q with q | q
            · exact .inl (by simp [q])
            · exact .inr (by simp [q])
theorem Spn.cut {H : Hp} : ∀ {n : Nat} {us T : List Addr} {st : Sts}, Spn H us T st → 1 ≤ n → n ≤ us.length → ∃ T', Spn H (us.take n) T' (closeTo n st) ∧ ∀ a ∈ T', a ∈ us ∨ a ∈ T
  | 0, _, _, _, _, h, _ => by omega
  | 1, u :: us, T, st, s, _, _ => by
    obtain ⟨xs, S, e1, e2, e3, e4⟩ := s.fold
    have hc : closeTo 1 st = [Z.fold st] := by
      cases st with
      | nil => cases s
      | cons a r => rfl
    rw [hc]
    exact ⟨S, .one e1 e2 e3, fun a ha => (e4 a ha).imp (fun q => List.mem_cons_of_mem _ q) id⟩
  | n + 2, u :: us, T, st, s, _, hn => by
    cases s with
    | one => simp at hn
    | @more _ u' us xs S T ds r h r0 s n1 n2 n3 n4 =>
      obtain ⟨T', s', hT⟩ := s.cut (n := n + 1) (by omega) (by simpa using hn)
      refine ⟨S ++ T', .more h r0 s' n1 (fun q => n2 ?_) (fun q => ?_) (fun a ha => ⟨fun q => (n4 a ha).1 ?_, fun q => ?_⟩), fun a ha => ?_⟩
      · exact List.mem_of_mem_take (i := n + 1) q
      · rcases hT _ q with q | q
        · exact n2 q
        · exact n3 q
      · exact List.mem_of_mem_take (i := n + 1) q
      · rcases hT _ q with q | q
        · exact (n4 a ha).1 q
        · exact (n4 a ha).2 q
      · rcases List.mem_append.mp ha with q | q
        · exact .inr (by simp [q])
        · rcases hT _ q with q | q
          · exact .inl (List.mem_cons_of_mem _ q)
          · exact .inr (by simp [q])
theorem Spn.hd {H : Hp} {us T : List Addr} {st : Sts} (s : Spn H us T st) : ∃ u r, us = u :: r := by
  cases s <;> exact ⟨_, _, rfl⟩
/-- the innermost one -/
theorem Spn.last {H : Hp} : ∀ {us T : List Addr} {st : Sts}, Spn H us T st → ∃ ini u xs ds, us = ini ++ [u] ∧ u ∉ ini ∧ u ∉ T ∧ H u = some (.lst xs) ∧ xs.length = ds.length ∧ ds ∈ st ∧
    (∀ (p : Addr) H', H' u = some (.lst (xs ++ [.ref p])) → H' p = some (.lst []) → But [u, p] H H' → p ∉ us → p ∉ T → Spn H' (us ++ [p]) T (st ++ [[]])) ∧
    ∀ x H', H' u = some (.lst (xs ++ [.str x])) → But [u] H H' → Spn H' us T (putLast st (.str x))
  | _, _, _, .one (u := u) (xs := xs) (S := S) (ds := ds) h r n => by
    refine ⟨[], u, xs, ds, rfl, by simp, n, h, r.length, by simp, fun p H' h1 h2 b np nT => ?_, fun x H' h1 b => ?_⟩
    · have e : S ++ [] = S := List.append_nil S
      have := Spn.more (u := u) (u' := p) (us := []) (xs := xs) (S := S) (T := []) (ds := ds) (r := [[]]) h1 (r.but b fun a ha hb => by
        rcases List.mem_cons.mp hb with e | hb
        · exact n (e ▸ ha)
        · exact nT (List.mem_singleton.mp hb ▸ ha)) (.one h2 .nil (by simp)) n (fun q => np (by rw [List.mem_singleton.mp q]; simp)) (by simp) (fun a ha => ⟨fun q => nT (List.mem_singleton.mp q ▸ ha), by simp⟩)
      rw [e] at this
      exact this
    · have := Bus.append (r.but b fun a ha hb => n (List.mem_singleton.mp hb ▸ ha)) (Bu.one (.str (H := H') x)) (by simp)
      rw [List.append_nil] at this
      exact .one h1 this n
  | _, _, _, .more (u := u) (u' := u') (us := us) (xs := xs) (S := S) (T := T) (ds := ds) (r := r) h r0 s n1 n2 n3 n4 => by
    obtain ⟨ini, v, ys, es, e1, e2, e3, e4, e5, e6, f1, f2⟩ := s.last
    have hv : v ∈ u' :: us := by rw [e1]; simp
    have huv : u ≠ v := fun z => n2 (z ▸ hv)
    refine ⟨u :: ini, v, ys, es, by rw [e1]; rfl, fun q => ?_, fun q => ?_, e4, e5, List.mem_cons_of_mem _ e6, fun p H' h1 h2 b np nT => ?_, fun x H' h1 b => ?_⟩
    · rcases List.mem_cons.mp q with z | q
      · exact huv z.symm
      · exact e2 q
    · rcases List.mem_append.mp q with q | q
      · exact (n4 v q).1 hv
      · exact e3 q
    · have hup : u ≠ p := fun z => np (by rw [z]; simp)
      have s' := f1 p H' h1 h2 b (fun q => np (List.mem_cons_of_mem _ q)) fun q => nT (by simp [q])
      have rr : (u' :: us) ++ [p] = u' :: (us ++ [p]) := rfl
      rw [rr] at s'
      refine .more (b _ _ (by simp [huv, hup]) h) (r0.but b fun a ha hb => ?_) s' n1 (fun q => ?_) n3 fun a ha => ⟨fun q => ?_, (n4 a ha).2⟩
      · rcases List.mem_cons.mp hb with z | hb
        · exact (n4 a ha).1 (z ▸ hv)
        · exact nT (by rw [← List.mem_singleton.mp hb]; simp [ha])
      · rcases List.mem_append.mp (show u ∈ (u' :: us) ++ [p] from q) with q | q
        · exact n2 q
        · exact hup (List.mem_singleton.mp q)
      · rcases List.mem_append.mp (show a ∈ (u' :: us) ++ [p] from q) with q | q
        · exact (n4 a ha).1 q
        · exact nT (by rw [← List.mem_singleton.mp q]; simp [ha])
    · have s' := f2 x H' h1 b
      have hp : putLast (ds :: r) (.str x) = ds :: putLast r (.str x) := by
        cases r with
        | nil => cases s
        | cons a rs => rfl
      rw [hp]
      exact .more (b _ _ (by simp [huv]) h) (r0.but b fun a ha hb => (n4 a ha).1 (List.mem_singleton.mp hb ▸ hv)) s' n1 n2 n3 n4
theorem cutV_toV (ys : List V) (n : Nat) : cutV ys none (some (n : Int)) = ys.take n := by
  unfold cutV
  rw [HT.sIx_nat, HT.sIx_none, List.drop_zero, Nat.sub_zero]
  by_cases h : n ≤ ys.length
  · rw [Nat.min_eq_left h]
  · rw [Nat.min_eq_right (by omega), List.take_of_length_le (Nat.le_refl _), List.take_of_length_le (by omega)]
theorem cutV_fromV (ys : List V) (n : Nat) : cutV ys (some (n : Int)) none = ys.drop n := by
  unfold cutV
  rw [HT.sIx_nat, HT.sIx_none]
  by_cases h : n ≤ ys.length
  · rw [Nat.min_eq_left h, List.take_of_length_le (by rw [List.length_drop]; omega)]
  · rw [Nat.min_eq_right (by omega), List.drop_of_length_le (Nat.le_refl _), List.drop_of_length_le (by omega)]
    simp
mutual
theorem Bu.there {H : Hp} {S : List Addr} {v : V} {d : PyData} : Bu H S v d → ∀ a ∈ S, ∃ xs, H a = some (.lst xs)
  | .str x, a, h => by simp at h
  | .lst h r m, a, ha => by
    rcases List.mem_cons.mp ha with e | ha
    · rw [e]; exact ⟨_, h⟩
    · exact Bus.there r a ha
theorem Bus.there {H : Hp} {S : List Addr} {vs : List V} {ds : List PyData} : Bus H S vs ds → ∀ a ∈ S, ∃ xs, H a = some (.lst xs)
  | .nil, a, h => by simp at h
  | .cons h r m, a, ha => by
    rcases List.mem_append.mp ha with q | q
    · exact Bu.there h a q
    · exact Bus.there r a q
end
theorem Spn.there {H : Hp} : ∀ {us T : List Addr} {st : Sts}, Spn H us T st → ∀ a, a ∈ us ∨ a ∈ T → ∃ xs, H a = some (.lst xs)
  | _, _, _, .one h r n, a, ha => by
    rcases ha with ha | ha
    · rw [List.mem_singleton.mp ha]; exact ⟨_, h⟩
    · exact r.there a ha
  | _, _, _, .more h r s n1 n2 n3 n4, a, ha => by
    rcases ha with ha | ha
    · rcases List.mem_cons.mp ha with e | ha
      · rw [e]; exact ⟨_, h⟩
      · exact s.there a (.inl ha)
    · rcases List.mem_append.mp ha with q | q
      · exact r.there a q
      · exact s.there a (.inr q)
/-- one level down: the last one -/
theorem Spn.down {H : Hp} : ∀ {us T : List Addr} {st : Sts}, Spn H us T st → ∀ (j : Nat) (u v : Addr), us[j]? = some u → us[j + 1]? = some v → ∃ xs, H u = some (.lst (xs ++ [.ref v]))
  | _, _, _, .one .., j, u, v, _, h => by simp at h
  | _, _, _, .more h r s n1 n2 n3 n4, 0, u, v, h1, h2 => by
    simp at h1 h2
    subst h1
    subst h2
    exact ⟨_, h⟩
  | _, _, _, .more h r s n1 n2 n3 n4, j + 1, u, v, h1, h2 => s.down j u v (by simpa using h1) (by simpa using h2)
theorem closeTo_all : ∀ {n : Nat} {st : Sts}, st.length = n → closeTo n st = st
  | 0, [], _ => rfl
  | 1, [a], _ => rfl
  | n + 2, a :: r, h => by
    show a :: closeTo (n + 1) r = a :: r
    rw [closeTo_all (by simpa using h)]
end Z

set_option Elab.async false
set_option linter.all false
set_option maxRecDepth 100000
set_option maxHeartbeats 4000000
/-! rows of texts: parts, one behind the other, many times; the new state told by what it holds -/
namespace Z
open PySem PySem.Spec PyProof.Rows L2
theorem cut_mid (ys : List V) (a b : Nat) (h : a ≤ b) : cutV ys (some (a : Int)) (some (b : Int)) = (ys.drop a).take (b - a) := by
  unfold cutV
  rw [HT.sIx_nat, HT.sIx_nat]
  by_cases ha : a ≤ ys.length
  · rw [Nat.min_eq_left ha]
    by_cases hb : b ≤ ys.length
    · rw [Nat.min_eq_left hb]
    · rw [Nat.min_eq_right (by omega), List.take_of_length_le (by rw [List.length_drop]; omega), List.take_of_length_le (by rw [List.length_drop]; omega)]
  · have e : List.drop a ys = [] := List.drop_of_length_le (by omega)
    have e2 : List.drop (min a ys.length) ys = [] := List.drop_of_length_le (by omega)
    rw [e, e2]
    simp
/-- the row ys of texts stands at q -/
def RowS (H : Hp) (q : Addr) (ys : List Str) : Prop := H q = some (.lst (ys.map V.str))
theorem RowS.new {H H' : Hp} {q : Addr} {ys : List Str} (h : RowS H q ys) (b : But [] H H') : RowS H' q ys := b _ _ (by simp) h
section
variable {X : Cx} {σ : L2.St} {H : Hp} {Q : VK} {q r : Addr} {xs ys : List Str} {a b n : Nat}
theorem rs_to {K : PySem.W.Frag} (h : RowS H q ys) (k : ∀ p H', But [] H H' → H p = none → RowS H' p (ys.take a) → Q (.ref p) H') : rSlL K (.ref q) none (some (a : Int)) H Q :=
  ⟨q, _, rfl, .inl (.inl h), fun p hp => k p _ (But.new hp) hp (by rw [cutV_toV]; unfold RowS; rw [upd_same, List.map_take])⟩
theorem rs_from {K : PySem.W.Frag} (h : RowS H q ys) (k : ∀ p H', But [] H H' → H p = none → RowS H' p (ys.drop a) → Q (.ref p) H') : rSlL K (.ref q) (some (a : Int)) none H Q :=
  ⟨q, _, rfl, .inl (.inl h), fun p hp => k p _ (But.new hp) hp (by rw [cutV_fromV]; unfold RowS; rw [upd_same, List.map_drop])⟩
theorem rs_mid {K : PySem.W.Frag} (hab : a ≤ b) (h : RowS H q ys) (k : ∀ p H', But [] H H' → H p = none → RowS H' p ((ys.drop a).take (b - a)) → Q (.ref p) H') : rSlL K (.ref q) (some (a : Int)) (some (b : Int)) H Q :=
  ⟨q, _, rfl, .inl (.inl h), fun p hp => k p _ (But.new hp) hp (by rw [cut_mid _ _ _ hab]; unfold RowS; rw [upd_same, List.map_take, List.map_drop])⟩
theorem o_catS (h1 : RowS H q xs) (h2 : RowS H r ys) (hn : xs.length + ys.length ≤ 1000000) (k : ∀ p H', But [] H H' → H p = none → RowS H' p (xs ++ ys) → Q (.ref p) H') : oW X (binaryOp .Add) (.ref q) (.ref r) H Q :=
  o_cat h1 h2 (by rw [sizeLine_eq, List.length_map, List.length_map]; omega) fun p hp => k p _ (But.new hp) hp (by unfold RowS; rw [upd_same, List.map_append])
theorem o_repS (h1 : RowS H q xs) (hn : xs.length * n ≤ 1000000) (hn2 : n ≤ 1000000) (k : ∀ p H', But [] H H' → H p = none → RowS H' p (List.replicate n xs).flatten → Q (.ref p) H') : oW X (binaryOp .Mult) (.ref q) (.int n) H Q :=
  o_rep h1 (by rw [sizeLine_eq, List.length_map]; omega) (by omega) fun p hp => k p _ (But.new hp) hp (by unfold RowS; rw [upd_same, List.map_flatten, List.map_replicate])
end
end Z

set_option Elab.async false
set_option linter.all false
set_option maxRecDepth 100000
set_option maxHeartbeats 4000000
/-! a comprehension that keeps some -/
namespace Z
open PySem PySem.Spec PyProof.Rows L2
def keepL : List Bool → List V → List V
  | b :: bs, x :: xs => if b = true then x :: keepL bs xs else keepL bs xs
  | _, _ => []
theorem keepL_snoc {b : Bool} {x : V} : ∀ {bs : List Bool} {xs : List V}, bs.length = xs.length → keepL (bs ++ [b]) (xs ++ [x]) = keepL bs xs ++ (if b = true then [x] else [])
  | [], [], _ => by cases b <;> rfl
  | c :: bs, z :: xs, h => by
    have ih := keepL_snoc (b := b) (x := x) (bs := bs) (xs := xs) (by simpa using h)
    show (if c = true then z :: keepL (bs ++ [b]) (xs ++ [x]) else keepL (bs ++ [b]) (xs ++ [x])) = (if c = true then z :: keepL bs xs else keepL bs xs) ++ _
    rw [ih]
    cases c <;> rfl
  | [], _ :: _, h => by simp at h
  | _ :: _, [], h => by simp at h
theorem keepL_len : ∀ {bs : List Bool} {xs : List V}, (keepL bs xs).length ≤ xs.length
  | [], _ => by simp [keepL]
  | _ :: _, [] => by simp [keepL]
  | b :: bs, x :: xs => by
    have := keepL_len (bs := bs) (xs := xs)
    show (if b = true then x :: keepL bs xs else keepL bs xs).length ≤ _
    cases b <;> simp <;> omega
theorem keepL_dds {K : PySem.W.Frag} {l : List Addr} {H : Hp} {f : PyData → Bool} : ∀ {xs : List V} {ds : List PyData}, DDs K l H xs ds → DDs K l H (keepL (ds.map f) xs) (ds.filter f)
  | _, _, .nil => .nil
  | _, _, .cons (v := x) (d := d) h r => by
    have ih := keepL_dds (f := f) r
    rw [List.map_cons, List.filter_cons]
    show DDs K l H (if f d = true then x :: keepL _ _ else keepL _ _) _
    cases f d with
    | true => exact .cons h ih
    | false => exact ih
section
variable {X : Cx} {k : Nat} {W : WX} {σ : L2.St} {H : Hp} {pos : Pos} {Q : VK} {iter c : Expr} {scope : Scope} {y : Str} {p p2 : Pos}
/-- the target is a name, one test -/
theorem lc_test {vs : List Nat} {i : Nat} {elt : Expr} {D : Addr} {x : V} {Nx : Hp → Prop} (hN : X.N.Nodup)
    (h : ∀ s H0 C cl fp, wT (X.blk s H0 scope (compEnvC scope cl C X.env) fp) c ((wipe σ vs).set i (some x)) H fun b H3 => if b = true then wEb X scope elt ((wipe σ vs).set i (some x)) H3 fun y H4 => ∃ acc, H4 D = some (.lst acc) ∧ acc.length < sizeLine ∧ Nx (upd H4 D (.lst (acc ++ [y]))) else Nx H3)
    (hw : wipe ((wipe σ vs).set i (some x)) vs = wipe σ vs := by rfl) (hi : X.N[i]? = some y := by rfl)
    (hx : Loc (relS scope X.env.scope) y := by first | exact Or.inl rfl | exact Or.inr rfl) (hf : (scope.names.lookup y == some .cell) = true ∨ (relS scope X.env.scope).names.lookup y = some .local := by first | exact .inl rfl | exact .inr rfl) :
    LcTurn X scope vs (.Name y p) [c] elt σ D x H Nx := by
  intro s H0 C cl fp
  refine g_name (i := i) ?_ hN hi hx hf
  exact ⟨hw, fun s H0 C cl fp => eIf (pts_one pT) (h s H0 C cl fp)⟩
/-- what is walked is kept where the test says so; nothing is changed -/
theorem lcF_core {J : It} {n : Nat} {G : Hp → Prop} {Y : Nat → Hp → V → Hp → Prop} {vs : List Nat} {elt : Expr} {i : Nat} {H1 : Hp} {xs : List V} {bs : List Bool} (hN : X.N.Nodup) (w : Walk J n G Y) (hn : xs.length = n) (hb : bs.length = n) (hz : n ≤ sizeLine) (hG : ∀ H', But [] H1 H' → G H')
    (ht : ∀ j x H2 H', j < n → But [] H1 H2 → Y j H2 x H' → H' = H2 ∧ xs[j]? = some x ∧ ∀ s H0 C cl fp, wT (X.blk s H0 scope (compEnvC scope cl C X.env) fp) c ((wipe σ vs).set i (some x)) H2 fun b H3 => bs[j]? = some b ∧ But [] H2 H3 ∧ (b = true → wEb X scope elt ((wipe σ vs).set i (some x)) H3 fun y H4 => y = x ∧ But [] H3 H4))
    {Qd : Addr → Hp → Prop} (hq : ∀ D H', But [] H1 H' → H1 D = none → H' D = some (.lst (keepL bs xs)) → Qd D H')
    (hw : ∀ x, wipe ((wipe σ vs).set i (some x)) vs = wipe σ vs := by intro _; rfl) (hi : X.N[i]? = some y := by rfl)
    (hx : Loc (relS scope X.env.scope) y := by first | exact Or.inl rfl | exact Or.inr rfl) (hf : (scope.names.lookup y == some .cell) = true ∨ (relS scope X.env.scope).names.lookup y = some .local := by first | exact .inl rfl | exact .inr rfl) : ∀ D, H1 D = none → ∃ Pv : Nat → Hp → Prop, Pv 0 (upd H1 D (.lst [])) ∧ (∀ i H, i ≤ n → Pv i H → G H) ∧
      (∀ i x H H', i < n → Pv i H → Y i H x H' → LcTurn X scope vs (.Name y p) [c] elt σ D x H' (Pv (i + 1))) ∧ ∀ H, Pv n H → Qd D H := by
  intro D hD
  refine ⟨fun j H' => But [] H1 H' ∧ H' D = some (.lst (keepL (bs.take j) (xs.take j))), ⟨But.new hD, by rw [upd_same]; rfl⟩, fun j H' _ h => hG H' h.1, ?_, fun H' h => hq D H' h.1 hD (by
    have h2 := h.2
    rw [List.take_of_length_le (by omega), List.take_of_length_le (by omega)] at h2
    exact h2)⟩
  intro j x H2 H' hj hP hY
  obtain ⟨rfl, hxj, hT⟩ := ht j x H2 H' hj hP.1 hY
  refine lc_test (i := i) hN (fun s H0 C cl fp => ⟨fun pins s2 I => thn ((hT s H0 C cl fp).run pins s2 I) fun b s3 h3 => ?_⟩) (hw x) hi hx hf
  obtain ⟨H3, I3, hbj, b3, hE⟩ := h3
  refine ⟨H3, I3, ?_⟩
  have e1 : bs.take (j + 1) = bs.take j ++ [b] := by rw [List.take_add_one, hbj]; rfl
  have e2 : xs.take (j + 1) = xs.take j ++ [x] := by rw [List.take_add_one, hxj]; rfl
  have e3 : keepL (bs.take (j + 1)) (xs.take (j + 1)) = keepL (bs.take j) (xs.take j) ++ (if b = true then [x] else []) := by
    rw [e1, e2, keepL_snoc (by rw [List.length_take, List.length_take]; omega)]
  have hD3 := b3 _ _ (by simp) hP.2
  cases b with
  | false =>
    refine ⟨hP.1.trans b3, ?_⟩
    rw [e3, hD3]
    simp
  | true =>
    show wEb X scope elt _ H3 _
    intro s H0 C cl fp
    refine wE_mono (hE rfl s H0 C cl fp) fun v H4 ⟨hv, b4⟩ => ?_
    subst hv
    have hD4 := b4 _ _ (by simp) hD3
    have hl := keepL_len (bs := bs.take j) (xs := xs.take j)
    rw [List.length_take] at hl
    refine ⟨_, hD4, by omega, fun q o _ e => ?_, by rw [upd_same, e3]; rfl⟩
    rw [upd_ne (ne_of_none e hD)]
    exact b4 _ _ (by simp) (b3 _ _ (by simp) (hP.1 _ _ (by simp) e))
/-- [x for x in xs if c] -/
theorem e_lcF (own : List (Str × Nat)) (C : Cxt X k W) (i : Nat)
    (h : wI X (.Name y p) iter σ H fun J H1 => ∃ n G Y xs bs, Walk J n G Y ∧ xs.length = n ∧ bs.length = n ∧ n ≤ sizeLine ∧ (∀ H', But [] H1 H' → G H') ∧
      (∀ j x H2 H', j < n → But [] H1 H2 → Y j H2 x H' → H' = H2 ∧ xs[j]? = some x ∧ ∀ s H0 C cl fp, wT (X.blk s H0 scope (compEnvC scope cl C X.env) fp) c ((wipe σ (own.map (·.2))).set i (some x)) H2 fun b H3 => bs[j]? = some b ∧ But [] H2 H3 ∧ (b = true → wEb X scope (.Name y p2) ((wipe σ (own.map (·.2))).set i (some x)) H3 fun y H4 => y = x ∧ But [] H3 H4)) ∧
      ∀ D H', But [] H1 H' → H1 D = none → H' D = some (.lst (keepL bs xs)) → Q (.ref D) H')
    (ok : BlkOk X.N X.env.scope scope own := by exact blkOk_by (by first | rfl | kernel_rfl)) (hs : ∀ x, foldedSetIterable iter X.env x = pure x := by intro _; rfl)
    (hw : ∀ x, wipe ((wipe σ (own.map (·.2))).set i (some x)) (own.map (·.2)) = wipe σ (own.map (·.2)) := by intro _; rfl) (hi : X.N[i]? = some y := by rfl)
    (hx : Loc (relS scope X.env.scope) y := by first | exact Or.inl rfl | exact Or.inr rfl) (hf : (scope.names.lookup y == some .cell) = true ∨ (relS scope X.env.scope).names.lookup y = some .local := by first | exact .inl rfl | exact .inr rfl) :
    wE X (.ListComp (.Name y p2) [⟨.Name y p, iter, [c], 0⟩] scope pos) σ H Q :=
  e_lc own C (wI_mono h fun J H1 ⟨n, G, Y, xs, bs, w, h1, h2, h3, h4, h5, h6⟩ => ⟨n, G, Y, w, lcF_core C.nd w h1 h2 h3 h4 h5 h6 hw hi hx hf⟩) ok hs
end
theorem op_isnotB {X : Cx} : OpR X (compareOp .IsNot) (fun x y H Q => ∃ a b : Bool, x = .bl a ∧ y = .bl b ∧ Q (.bl (!decide (a = b))) H) := by
  intro pins s σ H x y v u Q I rx ry h
  obtain ⟨a, b, rfl, rfl, q⟩ := h
  cases rx
  cases ry
  show wpAny _ _ ((isSame (Value.bool a) (Value.bool b)) >>= fun z => pure (Value.bool (!z))) _ _ s
  refine wpAny_bind (wpAny_isSame_plain rfl (wpAny_pure (fin_bl I q ?_)))
  cases a <;> cases b <;> rfl
theorem c_isnotB {X : Cx} {H : Hp} {Q : VK} {a b : Bool} (q : Q (.bl (!decide (a = b))) H) : oW X (compareOp .IsNot) (.bl a) (.bl b) H Q := oW_of op_isnotB ⟨a, b, rfl, rfl, q⟩
end Z

set_option Elab.async false
set_option linter.all false
set_option maxRecDepth 100000
set_option maxHeartbeats 4000000
/-! a, b, .. = a list; a list is not the empty one -/
namespace Z
open PySem PySem.Spec PyProof.Rows L2
def rNeNil (K : PySem.W.Frag) : R2 := fun x y H Q => ∃ (a b : Addr) (xs : List V), x = .ref a ∧ y = .ref b ∧ SqL K H a xs ∧ SqL K H b [] ∧ Q (.bl (!xs.isEmpty)) H
theorem op_neNil {X : Cx} (hu : X.A.units + 64 < cLine) : OpR X (compareOp .NotEq) (rNeNil X.K) := by
  intro pins s σ H x y v u Q I rx ry h
  obtain ⟨a, b, xs, rfl, rfl, ha, hb, q⟩ := h
  cases rx
  cases ry
  obtain ⟨its, rv, pl, hz⟩ := I.list ha
  obtain ⟨its2, rv2, pl2, hz2⟩ := I.list hb
  cases rv2
  have r : SeqAt.RcNeAt X.A s (.ref a) (.ref b) (!xs.isEmpty) := by
    cases xs with
    | nil =>
      cases rv
      exact SeqAt.RcNeAt.lists (e := fun _ => true) pl.isList pl2.isList rfl (by omega) (fun j h _ => absurd h (by simp))
    | cons y l =>
      cases rv
      exact SeqAt.RcNeAt.lists_lengths pl.isList pl2.isList (by simp) (by omega)
  exact r X.prog X.w _ _ ⟨.bl _, H, I, rfl, q⟩
section
variable {X : Cx} {k : Nat} {W : WX} {σ : L2.St} {H : Hp} {es : List Expr}
theorem c_neNil {a b : Addr} {xs : List V} {Q : VK} (C : Cxt X k W) (ha : SqL X.K H a xs) (hb : SqL X.K H b []) (q : Q (.bl (!xs.isEmpty)) H) : oW X (compareOp .NotEq) (.ref a) (.ref b) H Q :=
  oW_of (op_neNil (by have := C.un; omega)) ⟨a, b, xs, rfl, rfl, ha, hb, q⟩
theorem g_lst {k : Nat} {pos : Pos} {p : Addr} {xs : List V} {Q : L2.St → Hp → Prop} (h : wGs X es xs σ H Q) (hc : X.calm = true) (hq : SqL X.K H p xs) (hn : (assignEach es X.env).length = xs.length := by rfl)
    (hst : (assignEach es X.env).findIdx? (·.1) = none := by rfl) : wG X (.Tuple es k pos) (.ref p) σ H Q := eG (pg_lst hc pGs hn hst) ⟨p, xs, rfl, hq, rfl, h⟩
end
end Z

set_option Elab.async false
set_option linter.all false
set_option maxRecDepth 100000
set_option maxHeartbeats 4000000
/-! x != y by the own __eq__ of a class whose __ne__ is object's -/
namespace Z
open PySem PySem.Spec PyProof.Rows L2 C8
section
variable {M : Model} {prog : Program} {w : World} {A : Around} {E : Value → Shared → Prop} {s : Shared} {K : PySem.W.Frag} {x C f : Addr} {ox : Obj} {od : Option Obj} {b : Value}
theorem ifBound_objNe {args : List Value} {Q : Option Value → Shared → Prop} (X : K.In s.heap) (I : PySem.W.InstAt s.heap x ox C od) (hs : PySem.W.findIn K (.ref C) "__ne__" = some (some (.builtin "object.__ne__")))
    (h : wpAny M A (call (.builtin "object.__ne__") (.ref x :: args)) (fun v => Q (some v)) E s) : wpAny M A (callSpecialIfBound? (.ref x) "__ne__" args) Q E s := by
  simp only [callSpecialIfBound?, bindSpecialIfBound?]
  refine wpAny_holding (wpAny_bind (wpAny_bind (wpAny_bind (I.type.here ((PySem.W.looks_findIn X hs).here ?_)))))
  refine wpAny_bind (wpAny_askSetting (wpAny_ite ?_))
  have fin : wpAny M A (call (.builtin "object.__ne__") ([.ref x] ++ args) >>= fun v => pure (some v)) Q E s := wpAny_bind (wpAny_mono h (fun v s' h' => wpAny_pure h') fun _ _ h' => h')
  split
  · exact wpAny_bind (wpAny_of_eq (F.cmp_object.ne.bind _) (wpAny_pure (by exact fin)))
  · exact wpAny_tryCatch (wpAny_bind (wpAny_of_eq (F.cmp_object.ne.bind _) (wpAny_pure (by exact fin))))
theorem entry_ne {Q : Fin → Shared → Prop} (hu : A.units < cLine) (X : K.In s.heap) (I : PySem.W.InstAt s.heap x ox C od) (hs : PySem.W.findIn K (.ref C) "__eq__" = some (some (.ref f))) (hf : PySem.W.isFn K (.ref f) = true)
    (h : wpAny M A (call (.ref f) [.ref x, b]) (fun v s' => v = .bool true ∧ Q (.done (.ret (.bool false))) s') E s) : wpAny M A (Builtin.«object.__ne__» ⟨[.ref x, b], []⟩) Q E s := by
  unfold Builtin.«object.__ne__»
  repeat (first | with_reducible refine wpAny_cRoomFor hu ?_ | with_reducible refine wpAny_bind (PySem.W.ifBound_K X I hs hf (wpAny_mono h (fun v s' z => ?_) fun _ _ e => e)) | wp_step)
  obtain ⟨rfl, q⟩ := z
  exact wpAny_bind (wpAny_truthy_bool (wpAny_pure q))
theorem cmp_objNe {od' : Option Obj} {oy : Obj} {y : Addr} {Q : Value → Shared → Prop} (hu : A.units + 1 < cLine) (X : K.In s.heap) (I : PySem.W.InstAt s.heap x ox C od) (J : PySem.W.InstAt s.heap y oy C od')
    (hn : PySem.W.findIn K (.ref C) "__ne__" = some (some (.builtin "object.__ne__"))) (hm : PySem.W.mroIn K C (.type "object") = some true) (hs : PySem.W.findIn K (.ref C) "__eq__" = some (some (.ref f))) (hf : PySem.W.isFn K (.ref f) = true)
    (h : wpAny (model prog w) A.in1 (call (.ref f) [.ref x, .ref y]) (fun v s' => v = .bool true ∧ Q (.bool false) s') E s) : wpAny (model prog w) A (richCompare .NotEq (.ref x) (.ref y)) Q E s := by
  have hu0 : A.units < cLine := Nat.lt_of_succ_lt hu
  have one : wpAny (model prog w) A (tryCompare (.ref x) "__ne__" (.ref y)) (fun r s' => ∃ v, r = some v ∧ Q v s') E s := by
    unfold tryCompare
    exact wpAny_bind (ifBound_objNe X I hn (wpAny_call (codeAny_call_builtin F.cmp_object.ne.plain F.cmpEntry_ne (PySem.W.check_slot F.cmpKind_ne F.cmpSplit_ne (I.type.andThen (PySem.W.looks_mroIn X hm)) (F.cmpArgs_ne _ _) (entry_ne (A := A.in1) hu X I hs hf (wpAny_mono h (fun v s' z => ⟨z.1, wpAny_pure ⟨_, rfl, z.2⟩⟩) fun _ _ e => e))))))
  simp only [richCompare, cmpInfo_NotEq, oneThing_ref]
  refine wpAny_holding (wpAny_bind (wpAny_cRoomFor hu0 ?_))
  refine wpAny_bind (I.type.here (wpAny_bind (J.type.here ?_)))
  rw [if_neg (by simp)]
  refine wpAny_bind (wpAny_pure ?_)
  simp only [Bool.false_eq_true, if_false]
  refine wpAny_bind (wpAny_mono one (fun r s' z => ?_) fun _ _ e => e)
  obtain ⟨v, rfl, hq⟩ := z
  exact wpAny_pure hq
end
def rNeG (D : Eqv) : R2 := fun x y H Q => D x y H ∧ ∀ H', Ext H H' → Q (.bl false) H'
section
variable {X : Cx} {n : Nat}
theorem op_neG {CX : CXT} {C f : Addr} {fd : FuncData} {ps : List Str} {R : Addr → Addr → Hp → Prop} {E : XK} (F : FnOk X.prog X.w X.K X.mg X.base CX n f fd ps (spEq R)) (hs : PySem.W.findIn X.K (.ref C) "__eq__" = some (some (.ref f))) (hf : PySem.W.isFn X.K (.ref f) = true)
    (hn : PySem.W.findIn X.K (.ref C) "__ne__" = some (some (.builtin "object.__ne__"))) (hm : PySem.W.mroIn X.K C (.type "object") = some true) (hb : Binds X.K fd ps []) (hx : Passes CX X E) (hr : Room (n + 1) X.A) : OpR X (compareOp .NotEq) (rNeG (DIns C R)) := by
  intro pins s σ H x y u v Q I rx ry hq
  obtain ⟨⟨a, b, dx, dy, fs, gs, rfl, rfl, ha, hb', hR⟩, q⟩ := hq
  cases rx
  cases ry
  obtain ⟨mA, J, _⟩ := ins_get I.hok ha
  obtain ⟨mB, J', _⟩ := ins_get I.hok hb'
  obtain ⟨od, J, _⟩ := J.look
  obtain ⟨od', J', _⟩ := J'.look
  obtain ⟨m, hF⟩ := I.fr
  have sb : Sub X (n + 1) X.A := ⟨hr, rfl⟩
  have s1 : Sub X n X.A.in1 := sb.in1
  refine cmp_objNe (f := f) (by have := s1.room.units0; exact this) I.kIn J J' hn hm hs hf ?_
  have hsp : spEq R [.ref a, .ref b] H (fun v H' => v = .bl true ∧ Ext H H') E := ⟨a, b, rfl, hR, fun H' e => ⟨rfl, e⟩⟩
  have e0 : Env0 X.prog X.w X.K X.mg X.base X.A.in1 X.stack s H := by
    have e := I.env0
    exact ⟨by rw [s1.fr]; exact e.frames, e.mod, e.bs, e.bsz, e.funs, e.frf, e.hok, e.bare⟩
  have hl := F.len _ _ _ _ hsp
  have r2 : Vals [V.ref a, V.ref b] [Value.ref a, Value.ref b] := .cons rfl (.cons rfl .nil)
  refine wpAny_call (codeAny_mono (F.run X.A.in1 X.stack s H ⟨[.ref a, .ref b], []⟩ [.ref a, .ref b] [.ref a, .ref b] _ E s1.room e0 (by
    have := hb s [.ref a, .ref b] I.kIn (by simpa using hl)
    simpa using this) r2 hsp) fun r s' hq => ?_)
  cases r with
  | error e => exact hx pins σ H s e s' I hq
  | ok fl =>
    cases fl with
    | ret w =>
      obtain ⟨z, H', I', rz, ez, ex⟩ := I.after hq
      subst ez
      cases rz
      exact ⟨rfl, .bl false, H', I', rfl, q _ ex⟩
    | next => exact False.elim hq
    | brk => exact False.elim hq
    | cont => exact False.elim hq
end
section
variable {X : Cx} {k : Nat} {W : WX} {σ : L2.St} {H : Hp} {Q : VK}
/-- x != y, both alike by the own __eq__ of the class at C -/
theorem c_neI {C : Addr} {ps : List Str} {R : Addr → Addr → Hp → Prop} {y z : V} (Cc : Cxt X (k + 1) W) (M : MethOk X.prog X.w X.K X.mg X.base k C "__eq__" ps (spEq R)) (hn : PySem.W.findIn X.K (.ref C) "__ne__" = some (some (.builtin "object.__ne__"))) (hm : PySem.W.mroIn X.K C (.type "object") = some true)
    (d : DIns C R y z H) (q : ∀ H', But [] H H' → Q (.bl false) H') : oW X (compareOp .NotEq) y z H Q := by
  obtain ⟨f, fd, hmm, F, hb⟩ := M.ex
  exact oW_of (op_neG F hmm.at_ hmm.fn hn hm hb (passes0 Cc.tk) Cc.room) ⟨d, fun H' e => q H' (but_ext e)⟩
end
end Z

set_option Elab.async false
set_option linter.all false
set_option maxRecDepth 100000
set_option maxHeartbeats 4000000
/-! two lists of the same plain values are equal -/
namespace Z
open PySem PySem.Spec PyProof.Rows L2
def SameF : Eqv := fun x y _ => x = y ∧ flatB x = true
theorem mon_same : Mon SameF := fun _ _ _ _ _ d => d
theorem eqG_same {X : Cx} {n : Nat} : EqG X n SameF := by
  intro A pins s σ H x y u v sb I rx ry d
  obtain ⟨e, f⟩ := d
  subst e
  exact eqAt_same rx ry f X.prog X.w X.xe _ ⟨rfl, H, I, Ext.rfl'⟩
section
variable {X : Cx} {k : Nat} {W : WX} {σ : L2.St} {H : Hp} {Q : VK}
theorem c_eqFlat {a b : Addr} {xs : List V} (C : Cxt X (k + 1) W) (ha : H a = some (.lst xs)) (hb : H b = some (.lst xs)) (f : ∀ v ∈ xs, flatB v = true) (q : ∀ H', But [] H H' → Q (.bl true) H') : oW X (compareOp .Eq) (.ref a) (.ref b) H Q :=
  oW_of (op_eqG (n := 1) (rcG_list mon_same (eqG_same (n := 0))) (C.room.mono (by omega))) ⟨⟨a, b, xs, xs, rfl, rfl, ha, hb, rfl, fun i x y h1 h2 => ⟨Option.some.inj (h1.symm.trans h2), f x (List.mem_of_getElem? h1)⟩⟩, fun H' e => q H' (but_ext e)⟩
end
end Z

set_option Elab.async false
set_option linter.all false
set_option maxRecDepth 100000
set_option maxHeartbeats 4000000
/-! one dict put into another (`**`) -/
namespace Z
open PySem
section
variable {prog : Program} {w : World} {K : Type} [DecidableEq K] {knd : KeyKind prog w K} {A : Around} {E : Value → Shared → Prop} {s : Shared}
theorem wpAny_dictPut_pairs {d : Addr} {kvs : List (K × Value)} {k : K} {key v : Value} {Q : Unit → Shared → Prop} (hkey : knd.is k key = true) (hm : s.heap.DictOf knd d kvs)
    (hQ : ∀ h', h'.DictOf knd d (stored kvs k v) → Heap.SameBut d s.heap h' → Q () { s with heap := h' }) (hsz : kvs.length ≤ sizeLine) : wpAny (model prog w) A (dictPut d (knd.hash k) key v) Q E s := by
  obtain ⟨o, es, ep, ho, hc, hd, hk, hp, hn⟩ := hm
  have hes : es.size ≤ sizeLine := by have e1 := hp.length; have e2 : es.toList.length = es.size := by simp
                                      omega
  unfold dictPut
  refine wpAny_bind (wpAny_dictFind_of hkey ho hd hk ?_)
  have hidx : (es.findIdx? fun e => knd.is k e.key) = kvs.findIdx? fun kv => decide (kv.1 = k) := by
    rw [← hp.findIdx k]; obtain ⟨l⟩ := es; simp
  cases hi : es.findIdx? fun e => knd.is k e.key with
  | some i =>
    refine wpAny_updateDict ho hd (hQ _ ⟨_, _, ep, Heap.get?_update_self _ ho (Obj.isFreed_of_dict (Obj.data_mapDict hd _)),
      hc.mapDict _, Obj.data_mapDict hd _, hk.modify _ _, ?_, ?_⟩ (Heap.SameBut.update ..))
    · rw [stored, if_pos (any_of_findIdx_some (hidx ▸ hi))]
      have hl : (es.toList.findIdx? fun e => knd.is k e.key) = some i := by rw [← hi]; obtain ⟨l⟩ := es; simp
      have := hp.modify hn hl v
      obtain ⟨l⟩ := es
      simpa using this
    · rw [stored, if_pos (any_of_findIdx_some (hidx ▸ hi)), keys_map_store]; exact hn
  | none =>
    have hnot : k ∉ kvs.map (·.1) := not_mem_of_findIdx_none (hidx ▸ hi)
    have hany : ¬ (kvs.any fun kv => decide (kv.1 = k)) = true := by
      rw [List.any_eq_true]; rintro ⟨kv, hkv, he⟩
      exact hnot (List.mem_map.mpr ⟨kv, hkv, of_decide_eq_true he⟩)
    refine wpAny_updateDictKeys (hz := hes) ho hd (hQ _ ⟨_, _, ep + 1, Heap.get?_update_self _ ho (Obj.isFreed_of_dict (Obj.data_mapDictKeys hd _)),
      hc.mapDictKeys _, Obj.data_mapDictKeys hd _, hk.push hkey _, ?_, ?_⟩ (Heap.SameBut.update ..))
    · rw [stored, if_neg hany]
      have := hp.append hkey (knd.hash k) v
      obtain ⟨l⟩ := es
      simpa using this
    · rw [stored, if_neg hany, List.map_append, List.nodup_append]
      refine ⟨hn, by simp, ?_⟩
      intro a ha b hb
      simp only [List.map_cons, List.map_nil, List.mem_singleton] at hb
      subst hb
      exact fun e => hnot (e ▸ ha)
/-- the key is not there -/
theorem wpAny_dictFind_none {d : Addr} {kvs : List (K × Value)} {k : K} {key : Value} {Q : Option Nat → Shared → Prop} (hkey : knd.is k key = true) (hm : s.heap.DictOf knd d kvs) (hno : k ∉ kvs.map (·.1)) (hQ : Q none s) : wpAny (model prog w) A (dictFind d key (knd.hash k)) Q E s := by
  obtain ⟨o, es, ep, ho, hc, hd, hk, hp, hn⟩ := hm
  refine wpAny_dictFind_of hkey ho hd hk ?_
  have hidx : (es.findIdx? fun e => knd.is k e.key) = kvs.findIdx? fun kv => decide (kv.1 = k) := by
    rw [← hp.findIdx k]; obtain ⟨l⟩ := es; simp
  have : (kvs.findIdx? fun kv => decide (kv.1 = k)) = none := List.findIdx?_eq_none_iff.mpr fun x hx => decide_eq_false fun e => hno (List.mem_map.mpr ⟨x, hx, e⟩)
  rw [hidx, this]
  exact hQ
theorem wpAny_mergeMapping {d o : Addr} {kvs more : List (K × Value)} {u : Bool} {Q : Unit → Shared → Prop} (hdo : d ≠ o) (hoS : (o == sysModules) = false) (hu : u = true → kvs = [])
    (hd : s.heap.DictOf knd d kvs) (ho : s.heap.DictOf knd o more)
    (hQ : ∀ h', h'.DictOf knd d (merged kvs more) → h'.DictOf knd o more → Heap.SameBut d s.heap h' → Q () { s with heap := h' })
    (hsz : kvs.length + more.length ≤ sizeLine) : wpAny (model prog w) A (mergeMapping d (.ref o) u) Q E s := by
  have hT : s.TypeIs (.ref o) "dict" := ho.typeIs
  obtain ⟨od, esd, epd, hod, hcd, hdd, hkd, hpd, hnd⟩ := id hd
  obtain ⟨oo, eso, epo, hoo, hco, hdo', hko, hpo, hno⟩ := id ho
  have hlen : more.length = eso.size := by rw [← hpo.length]; simp
  unfold mergeMapping
  have sub : isSubtype (.type "dict") (.type "dict") = pure true := by rw [isSubtype_type]; kernel_rfl
  refine wpAny_bind (wpAny_isInstance (b := true) hT sub ?_)
  rw [if_pos rfl]
  refine wpAny_bind (wpAny_specialOf hT F.slot_dict_iter.lookup (wpAny_bind (wpAny_pure ?_)))
  have e1 : (some (Value.builtin "dict.__iter__") == some (Value.builtin "dict.__iter__")) = true := by simp
  rw [e1]
  dsimp only
  rw [hoS]
  simp only [Bool.false_eq_true, if_false]
  refine wpAny_bind (wpAny_dictEntries hod hdd ?_)
  split
  · refine wpAny_bind (wpAny_dictEntries hoo hdo' ?_)
    refine wpAny_bind (wpAny_of_eq (a := PUnit.unit) ?_ ?_)
    · rw [← Array.forIn_toList]
      refine forIn_yield_id _ fun e he c => ?_
      obtain ⟨k, hkey, _⟩ := hko e (Array.mem_toList_iff.mp he)
      have bv := knd.byValue k _ hkey
      cases hke : e.key <;> first | rfl | (rw [hke] at bv; cases bv)
    refine wpAny_bind (wpAny_dictEntries hoo hdo' (wpAny_bind (wpAny_dictEpoch hoo hdo' (wpAny_bind ?_))))
    rw [List.range_eq_range']
    refine wpAny_forIn_list _
      (fun rest _ s' => ∃ h' i, s' = { s with heap := h' } ∧ rest = List.range' i (eso.size - i) ∧ i ≤ eso.size ∧ h'.DictOf knd d (merged kvs (more.take i)) ∧ h'.get? o = some oo ∧ Heap.SameBut d s.heap h')
      _ ?_ ?_ _ _ ⟨s.heap, 0, rfl, by simp, Nat.zero_le _, by simpa [merged] using hd, hoo, Heap.SameBut.refl _ _⟩
    · rintro x rest b s' ⟨h', i, rfl, hr, hi, hd', hoo', hs'⟩
      have hlt : i < eso.size := by
        rcases Nat.lt_or_ge i eso.size with h | h
        · exact h
        · rw [Nat.sub_eq_zero_of_le h] at hr; simp at hr
      obtain ⟨rfl, hrest⟩ : x = i ∧ rest = List.range' (i + 1) (eso.size - (i + 1)) := by
        have e : eso.size - i = (eso.size - (i + 1)) + 1 := by omega
        rw [e, List.range'_succ] at hr
        injection hr with h1 h2
        exact ⟨h1, h2⟩
      refine wpAny_bind (wpAny_dictEntries hoo' hdo' ?_)
      rw [Array.getElem?_eq_getElem hlt]
      obtain ⟨kv, hkv⟩ : ∃ kv, more[x]? = some kv := ⟨more[x]'(by rw [hlen]; exact hlt), List.getElem?_eq_getElem _⟩
      obtain ⟨k, v⟩ := kv
      obtain ⟨hkey, hval⟩ := hpo.get? (e := eso[x]) (by simp [hlt]) hkv
      obtain ⟨k', hkey', hhash⟩ := hko eso[x] (Array.getElem_mem hlt)
      obtain rfl : k' = k := knd.inj _ _ _ hkey' hkey
      dsimp only
      rw [hhash, hval]
      have hmx : (merged kvs (more.take x)).length ≤ sizeLine := by
        have e1 := merged_length_le kvs (more.take x)
        have e2 : (more.take x).length ≤ more.length := by rw [List.length_take]; omega
        omega
      have fin : ∀ h'', h''.DictOf knd d (stored (merged kvs (more.take x)) k' v) → Heap.SameBut d h' h'' → ∃ h3 i, ({ s with heap := h'' } : Shared) = { s with heap := h3 } ∧ rest = List.range' i (eso.size - i) ∧ i ≤ eso.size ∧ h3.DictOf knd d (merged kvs (more.take i)) ∧ h3.get? o = some oo ∧ Heap.SameBut d s.heap h3 := fun h'' hd'' hs'' =>
        ⟨h'', x + 1, rfl, hrest, hlt, by rw [merged_take_succ kvs more x (k', v) hkv]; exact hd'', (hs''.2 o (Ne.symm hdo)).trans hoo', hs'.trans hs''⟩
      have put : wpAny (model prog w) A (dictPut d (knd.hash k') eso[x].key v) (fun _ s1 => ∃ h'', s1 = { s with heap := h'' } ∧ h''.get? o = some oo ∧ ∃ h3 i, ({ s with heap := h'' } : Shared) = { s with heap := h3 } ∧ rest = List.range' i (eso.size - i) ∧ i ≤ eso.size ∧ h3.DictOf knd d (merged kvs (more.take i)) ∧ h3.get? o = some oo ∧ Heap.SameBut d s.heap h3) E { s with heap := h' } :=
        wpAny_dictPut_pairs hkey hd' (fun h'' hd'' hs'' => ⟨h'', rfl, (hs''.2 o (Ne.symm hdo)).trans hoo', fin h'' hd'' hs''⟩) hmx
      refine wpAny_bind (wpAny_holding (wpAny_mono (?_ : wpAny _ _ _ (fun _ s1 => ∃ h'', s1 = { s with heap := h'' } ∧ h''.get? o = some oo ∧ ∃ h3 i, ({ s with heap := h'' } : Shared) = { s with heap := h3 } ∧ rest = List.range' i (eso.size - i) ∧ i ≤ eso.size ∧ h3.DictOf knd d (merged kvs (more.take i)) ∧ h3.get? o = some oo ∧ Heap.SameBut d s.heap h3) _ _) (fun _ s1 z => ?_) fun _ _ e => e))
      · cases u with
        | false => exact put
        | true =>
          have hk0 := hu rfl
          subst hk0
          rw [if_pos rfl]
          refine wpAny_bind (wpAny_dictFind_none hkey hd' ?_ ?_)
          · rw [merged_nil_of_nodup _ (List.Nodup.sublist (List.Sublist.map _ (List.take_sublist ..)) hno)]
            intro hmem
            obtain ⟨kv, hm, he⟩ := List.mem_map.mp hmem
            obtain ⟨j, hj, ej⟩ := List.mem_iff_getElem.mp hm
            have hjx : j < x := by rw [List.length_take] at hj; omega
            have h1 : (more.map (·.1))[j]? = some k' := by
              rw [List.getElem_take] at ej
              rw [List.getElem?_map, List.getElem?_eq_getElem (by omega), ej, ← he]; rfl
            have h2 : (more.map (·.1))[x]? = some k' := by rw [List.getElem?_map, hkv]; rfl
            have := (List.getElem?_inj (i := j) (by rw [List.length_map, hlen]; omega) hno).mp (h1.trans h2.symm)
            omega
          · rw [if_neg (by simp)]
            exact put
      · obtain ⟨h'', rfl, ho'', q⟩ := z
        refine wpAny_bind (wpAny_dictEpoch ho'' hdo' ?_)
        rw [if_neg (by simp)]
        exact wpAny_pure q
    · rintro b s' ⟨h', i, rfl, hr, hi, hd', hoo', hs'⟩
      have hin : i = eso.size := by
        rcases Nat.lt_or_ge i eso.size with h | h
        · have e : eso.size - i = (eso.size - (i + 1)) + 1 := by omega
          rw [e, List.range'_succ] at hr; exact nomatch hr
        · exact Nat.le_antisymm hi h
      refine wpAny_pure (hQ h' ?_ ⟨oo, eso, epo, hoo', hco, hdo', hko, hpo, hno⟩ hs')
      rw [hin, ← hlen, List.take_length] at hd'; exact hd'
  · skip
    refine wpAny_bind (wpAny_dictEntries hoo hdo' (wpAny_bind (wpAny_dictEpoch hoo hdo' (wpAny_bind ?_))))
    rw [List.range_eq_range']
    refine wpAny_forIn_list _
      (fun rest _ s' => ∃ h' i, s' = { s with heap := h' } ∧ rest = List.range' i (eso.size - i) ∧ i ≤ eso.size ∧ h'.DictOf knd d (merged kvs (more.take i)) ∧ h'.get? o = some oo ∧ Heap.SameBut d s.heap h')
      _ ?_ ?_ _ _ ⟨s.heap, 0, rfl, by simp, Nat.zero_le _, by simpa [merged] using hd, hoo, Heap.SameBut.refl _ _⟩
    · rintro x rest b s' ⟨h', i, rfl, hr, hi, hd', hoo', hs'⟩
      have hlt : i < eso.size := by
        rcases Nat.lt_or_ge i eso.size with h | h
        · exact h
        · rw [Nat.sub_eq_zero_of_le h] at hr; simp at hr
      obtain ⟨rfl, hrest⟩ : x = i ∧ rest = List.range' (i + 1) (eso.size - (i + 1)) := by
        have e : eso.size - i = (eso.size - (i + 1)) + 1 := by omega
        rw [e, List.range'_succ] at hr
        injection hr with h1 h2
        exact ⟨h1, h2⟩
      refine wpAny_bind (wpAny_dictEntries hoo' hdo' ?_)
      rw [Array.getElem?_eq_getElem hlt]
      obtain ⟨kv, hkv⟩ : ∃ kv, more[x]? = some kv := ⟨more[x]'(by rw [hlen]; exact hlt), List.getElem?_eq_getElem _⟩
      obtain ⟨k, v⟩ := kv
      obtain ⟨hkey, hval⟩ := hpo.get? (e := eso[x]) (by simp [hlt]) hkv
      obtain ⟨k', hkey', hhash⟩ := hko eso[x] (Array.getElem_mem hlt)
      obtain rfl : k' = k := knd.inj _ _ _ hkey' hkey
      dsimp only
      rw [hhash, hval]
      have hmx : (merged kvs (more.take x)).length ≤ sizeLine := by
        have e1 := merged_length_le kvs (more.take x)
        have e2 : (more.take x).length ≤ more.length := by rw [List.length_take]; omega
        omega
      have fin : ∀ h'', h''.DictOf knd d (stored (merged kvs (more.take x)) k' v) → Heap.SameBut d h' h'' → ∃ h3 i, ({ s with heap := h'' } : Shared) = { s with heap := h3 } ∧ rest = List.range' i (eso.size - i) ∧ i ≤ eso.size ∧ h3.DictOf knd d (merged kvs (more.take i)) ∧ h3.get? o = some oo ∧ Heap.SameBut d s.heap h3 := fun h'' hd'' hs'' =>
        ⟨h'', x + 1, rfl, hrest, hlt, by rw [merged_take_succ kvs more x (k', v) hkv]; exact hd'', (hs''.2 o (Ne.symm hdo)).trans hoo', hs'.trans hs''⟩
      have put : wpAny (model prog w) A (dictPut d (knd.hash k') eso[x].key v) (fun _ s1 => ∃ h'', s1 = { s with heap := h'' } ∧ h''.get? o = some oo ∧ ∃ h3 i, ({ s with heap := h'' } : Shared) = { s with heap := h3 } ∧ rest = List.range' i (eso.size - i) ∧ i ≤ eso.size ∧ h3.DictOf knd d (merged kvs (more.take i)) ∧ h3.get? o = some oo ∧ Heap.SameBut d s.heap h3) E { s with heap := h' } :=
        wpAny_dictPut_pairs hkey hd' (fun h'' hd'' hs'' => ⟨h'', rfl, (hs''.2 o (Ne.symm hdo)).trans hoo', fin h'' hd'' hs''⟩) hmx
      refine wpAny_bind (wpAny_holding (wpAny_mono (?_ : wpAny _ _ _ (fun _ s1 => ∃ h'', s1 = { s with heap := h'' } ∧ h''.get? o = some oo ∧ ∃ h3 i, ({ s with heap := h'' } : Shared) = { s with heap := h3 } ∧ rest = List.range' i (eso.size - i) ∧ i ≤ eso.size ∧ h3.DictOf knd d (merged kvs (more.take i)) ∧ h3.get? o = some oo ∧ Heap.SameBut d s.heap h3) _ _) (fun _ s1 z => ?_) fun _ _ e => e))
      · cases u with
        | false => exact put
        | true =>
          have hk0 := hu rfl
          subst hk0
          rw [if_pos rfl]
          refine wpAny_bind (wpAny_dictFind_none hkey hd' ?_ ?_)
          · rw [merged_nil_of_nodup _ (List.Nodup.sublist (List.Sublist.map _ (List.take_sublist ..)) hno)]
            intro hmem
            obtain ⟨kv, hm, he⟩ := List.mem_map.mp hmem
            obtain ⟨j, hj, ej⟩ := List.mem_iff_getElem.mp hm
            have hjx : j < x := by rw [List.length_take] at hj; omega
            have h1 : (more.map (·.1))[j]? = some k' := by
              rw [List.getElem_take] at ej
              rw [List.getElem?_map, List.getElem?_eq_getElem (by omega), ej, ← he]; rfl
            have h2 : (more.map (·.1))[x]? = some k' := by rw [List.getElem?_map, hkv]; rfl
            have := (List.getElem?_inj (i := j) (by rw [List.length_map, hlen]; omega) hno).mp (h1.trans h2.symm)
            omega
          · rw [if_neg (by simp)]
            exact put
      · obtain ⟨h'', rfl, ho'', q⟩ := z
        refine wpAny_bind (wpAny_dictEpoch ho'' hdo' ?_)
        rw [if_neg (by simp)]
        exact wpAny_pure q
    · rintro b s' ⟨h', i, rfl, hr, hi, hd', hoo', hs'⟩
      have hin : i = eso.size := by
        rcases Nat.lt_or_ge i eso.size with h | h
        · have e : eso.size - i = (eso.size - (i + 1)) + 1 := by omega
          rw [e, List.range'_succ] at hr; exact nomatch hr
        · exact Nat.le_antisymm hi h
      refine wpAny_pure (hQ h' ?_ ⟨oo, eso, epo, hoo', hco, hdo', hko, hpo, hno⟩ hs')
      rw [hin, ← hlen, List.take_length] at hd'; exact hd'
end
end Z

set_option Elab.async false
set_option linter.all false
set_option maxRecDepth 100000
set_option maxHeartbeats 4000000
/-! {**d, k: v} -/
namespace Z
open PySem
section
variable {prog : Program} {w : World} {K : Type} [DecidableEq K] {knd : KeyKind prog w K} {A : Around} {E : Value → Shared → Prop} {s : Shared}
theorem wpAny_display1 {D Ke Ve : Sem Value} {Q : Value → Shared → Prop}
    (h : wpAny (model prog w) A D (fun m s1 => ∃ o more, m = .ref o ∧ s.heap.objs.size ≠ o ∧ (o == sysModules) = false ∧ s1.heap.DictOf knd s.heap.objs.size [] ∧ s1.heap.DictOf knd o more ∧ more.length + 1 ≤ sizeLine ∧
      ∀ h', h'.DictOf knd s.heap.objs.size more → Heap.SameBut s.heap.objs.size s1.heap h' →
        wpAny (model prog w) A (evalPairs [(Ke, Ve)]) (fun vs s2 => ∃ kv more', Carries knd vs [kv] ∧ s2.heap.DictOf knd h'.objs.size [] ∧ s.heap.objs.size ≠ h'.objs.size ∧ (h'.objs.size == sysModules) = false ∧ s2.heap.DictOf knd s.heap.objs.size more' ∧ more'.length + 1 ≤ sizeLine ∧
          ∀ h2, h2.DictOf knd h'.objs.size [kv] → Heap.SameBut h'.objs.size s2.heap h2 → ∀ h3, h3.DictOf knd s.heap.objs.size (stored more' kv.1 kv.2) → Heap.SameBut s.heap.objs.size h2 h3 → Q (.ref s.heap.objs.size) { s2 with heap := h3, toks := s2.toks + vs.length }) E
          { s1 with heap := h'.push { cls := .type "dict", data := .dict #[] } }) E { s with heap := s.heap.push { cls := .type "dict", data := .dict #[] } }) :
    wpAny (model prog w) A (dictDisplay [(none, D), (some Ke, Ve)]) Q E s := by
  unfold dictDisplay
  dsimp only
  simp only [List.forIn_cons, List.forIn_nil, List.isEmpty_nil, if_true, pure_bind, bind_assoc, List.nil_append]
  refine wpAny_bind (wpAny_alloc ?_)
  refine wpAny_bind (wpAny_holding (wpAny_mono h (fun m s1 hm => ?_) fun _ _ e => e))
  obtain ⟨o, more, rfl, hne, hs, hd, ho, hz, hq⟩ := hm
  have nod : (more.map (·.1)).Nodup := let ⟨_, _, _, _, _, _, _, _, n⟩ := ho; n
  refine wpAny_bind (wpAny_onRaise (wpAny_tryCatch (wpAny_onRaise (wpAny_holding (wpAny_mergeMapping (knd := knd) (kvs := []) hne hs (fun _ => rfl) hd ho (fun h' hd' ho' sb => ?_) (by simp; omega))))))
  rw [merged_nil_of_nodup _ nod] at hd'
  rw [if_neg (by simp)]
  refine wpAny_bind (wpAny_pure (wpAny_bind (wpAny_pure ?_)))
  rw [if_neg (by simp)]
  dsimp only
  refine wpAny_bind (wpAny_bind (wpAny_holding (wpAny_subDict (knd := knd) (by simp) (wpAny_mono (hq h' hd' sb) (fun vs s2 z => ?_) fun _ _ e => e))))
  obtain ⟨kv, more', hc, hsub, hn1, hs1, hd2, hz2, hend⟩ := z
  refine ⟨[kv], hc, hsub, fun h2 hsub2 sb2 => ?_⟩
  have e1 : merged [] [kv] = [kv] := by simp [merged, stored]
  rw [e1] at hsub2
  refine wpAny_bind (wpAny_onRaise (wpAny_holding (wpAny_mergeMapping (knd := knd) (kvs := more') (more := [kv]) hn1 hs1 (fun e => by cases e) (hd2.sameBut sb2 hn1) hsub2 (fun h3 hd3 _ sb3 => ?_) (by simpa using hz2))))
  refine wpAny_pure (wpAny_pure ?_)
  exact hend h2 hsub2 sb2 h3 hd3 sb3
end
section
open PySem.Spec PyProof.Rows L2
variable {X : Cx} {σ : L2.St} {H : Hp} {d ke ve : Expr} {pos : Pos} {Q : VK}
/-- {**d, k: v} -/
theorem e_dispStar (h : ∀ p, H p = none → wE X d σ (upd H p (.dK [])) fun x H1 => ∃ o kvs, x = .ref o ∧ o ≠ p ∧ H1 o = some (.dK kvs) ∧ H1 p = some (.dK []) ∧ kvs.length ≤ 1000 ∧ ∀ q, upd H1 p (.dK kvs) q = none →
      wE X ke σ (upd (upd H1 p (.dK kvs)) q (.dK [])) fun kx H2 => wE X ve σ H2 fun vx H3 => ∃ k, kx = kV k ∧ H3 q = some (.dK []) ∧ H3 p = some (.dK kvs) ∧ Q (.ref p) (upd (upd H3 q (.dK [(k, vx)])) p (.dK (putK kvs k vx)))) :
    wE X (.Dict [none, some ke] [d, ve] pos) σ H Q := by
  refine ⟨fun pins s I => ?_⟩
  rw [arm_eval_Dict]
  refine wpAny_bind (wpAny_standAt ?_)
  show wpAny _ _ (dictDisplay [(none, _), (some _, _)]) _ _ _
  have hn := I.hok.fresh (Nat.le_refl s.heap.objs.size)
  have I1 := I.laid (a := s.heap.objs.size) (o := .dK []) (h' := s.heap.push { cls := .type "dict", data := .dict #[] }) (t' := s.toks) (fun _ _ q => Heap.get?_push_of_some _ q) (Nat.le_refl _) (dk_empty s.heap I.big)
  refine wpAny_display1 (knd := mixKind X.prog X.w) ?_
  refine wpAny_bind (wpAny_mono ((h _ hn).run pins _ I1) (fun u s1 hu => ?_) fun _ _ e => e)
  refine wpAny_bind (wpAny_standAt (wpAny_pure ?_))
  obtain ⟨x, H1, I2, rx, o, kvs, rfl, hop, ho, hp, hz, hq⟩ := hu
  cases rx
  obtain ⟨zo, hso, vso, ro, ddo⟩ := dk_of I2.hok ho
  obtain ⟨zp, hsp, vsp, rp, ddp⟩ := dk_of I2.hok hp
  cases rp
  have big : ∀ n, n ≤ 16777216 → n ≤ sizeLine := fun n h => by rw [sizeLine_eq]; exact h
  refine ⟨o, vso, rfl, hop.symm, hso, ddp, ddo, by rw [← ro.length]; exact big _ (by omega), fun h' dd' sb => ?_⟩
  obtain ⟨ob, hob⟩ : ∃ q, h'.get? s.heap.objs.size = some q := let ⟨q, _, _, hq, _⟩ := dd'; ⟨q, hq⟩
  have I3 := d_write (t' := s1.toks) I2 (by rw [hp]; exact True.intro) sb ⟨ob, hob⟩ (dk_new (kvs := kvs) zo hsp ro dd')
  have hn3 := I3.hok.fresh (Nat.le_refl h'.objs.size)
  have I4 := I3.laid (a := h'.objs.size) (o := .dK []) (h' := h'.push { cls := .type "dict", data := .dict #[] }) (t' := s1.toks) (fun _ _ q => Heap.get?_push_of_some _ q) (Nat.le_refl _) (dk_empty h' I3.big)
  have npq : s.heap.objs.size ≠ h'.objs.size := Nat.ne_of_lt (Heap.lt_size hob)
  refine evalPairs_cons (wpAny_mono ((hq _ hn3).run pins _ I4) (fun ku s2 hk => ?_) fun _ _ e => e)
  obtain ⟨kx, H2, I5, rk, q5⟩ := hk
  refine wpAny_bind (wpAny_mono (q5.run pins _ I5) (fun vu s3 hv => ?_) fun _ _ e => e)
  obtain ⟨vx, H3, I6, rv, k, rfl, hq6, hp6, q6⟩ := hv
  refine wpAny_bind (wpAny_standAt (wpAny_pure (evalPairs_nil ?_)))
  obtain ⟨zq, hsq, vsq, rq, ddq⟩ := dk_of I6.hok hq6
  cases rq
  obtain ⟨z6, hs6, vs6, r6, dd6⟩ := dk_of I6.hok hp6
  refine ⟨(k, vu), vs6, ⟨kV_is rk, rfl, trivial⟩, ddq, npq, hsq, dd6, by rw [← r6.length]; exact big _ (by omega), fun h2 dd2 sb2 h3 dd3 sb3 => ?_⟩
  have I7 := d_write (t' := s3.toks) I6 (by rw [hq6]; exact True.intro) sb2 (let ⟨q, _, _, hq, _⟩ := dd2; ⟨q, hq⟩) (dk_new (kvs := [(k, vx)]) (big _ (by simp)) hsq (.cons ⟨rfl, rv⟩ .nil) dd2)
  have I8 := d_write (t' := s3.toks + 1) I7 (by rw [upd_ne npq, hp6]; exact True.intro) sb3 (let ⟨q, _, _, hq, _⟩ := dd3; ⟨q, hq⟩) (dk_new (kvs := putK kvs k vx) (by have := length_putK kvs k vx; exact big _ (by omega)) hs6 (r6.put k rv) dd3)
  exact ⟨.ref s.heap.objs.size, _, I8, rfl, q6⟩
end
end Z

set_option Elab.async false
set_option linter.all false
set_option maxRecDepth 100000
set_option maxHeartbeats 4000000
/-! C(e, .., **d) -/
namespace Z
open PySem PySem.Spec PyProof.Rows L2
section
variable {prog : Program} {w : World} {A : Around} {E : Value → Shared → Prop} {s : Shared}
theorem wpAny_mergedKw {K : Type} [DecidableEq K] {knd : KeyKind prog w K} {f : Value} {x : Sem Value} {Q : Addr → Shared → Prop}
    (h : wpAny (model prog w) A x (fun m s1 => ∃ o more, m = .ref o ∧ s.heap.objs.size ≠ o ∧ (o == sysModules) = false ∧ s1.heap.DictOf knd s.heap.objs.size [] ∧ s1.heap.DictOf knd o more ∧ more.length ≤ sizeLine ∧
      ∀ h', h'.DictOf knd s.heap.objs.size more → Heap.SameBut s.heap.objs.size s1.heap h' → Q s.heap.objs.size { s1 with heap := h' }) E { s with heap := s.heap.push { cls := .type "dict", data := .dict #[] } }) :
    wpAny (model prog w) A (mergedKeywords f [(none, x)]) Q E s := by
  unfold mergedKeywords
  refine wpAny_bind (wpAny_alloc ?_)
  refine wpAny_bind (wpAny_holding ?_)
  refine wpAny_bind ?_
  rw [List.forIn_cons]
  refine wpAny_bind ?_
  refine wpAny_bind ?_
  refine wpAny_of_eq (a := ()) rfl ?_
  refine wpAny_bind (wpAny_mono h (fun m s1 hm => ?_) fun _ _ e => e)
  obtain ⟨o, more, rfl, hne, hs, hd, ho, hz, hq⟩ := hm
  have nod : (more.map (·.1)).Nodup := let ⟨_, _, _, _, _, _, _, _, n⟩ := ho; n
  refine wpAny_bind (wpAny_onRaise (wpAny_holding (wpAny_tryCatch (wpAny_onRaise (wpAny_mergeMapping (knd := knd) (kvs := []) hne hs (fun _ => rfl) hd ho (fun h' hd' ho' sb => ?_) (by simpa using hz))))))
  rw [merged_nil_of_nodup _ nod] at hd'
  refine wpAny_pure ?_
  refine wpAny_of_eq (a := []) rfl ?_
  refine wpAny_bind (wpAny_of_eq (a := ()) rfl ?_)
  exact wpAny_pure (wpAny_pure (hq h' hd' sb))
/-- the keywords told by a dict whose keys are texts -/
theorem wpAny_keywordsIn {f : Value} {d : Addr} {ks : List Str} {ws : List Value} {Q : List (Str × Value) → Shared → Prop} (hm : s.heap.DictOf (mixKind prog w) d ((ks.zip ws).map fun q => ((.inr q.1 : Key), q.2))) (hq : Q (ks.zip ws) s) : wpAny (model prog w) A (keywordsIn f d) Q E s := by
  obtain ⟨o, es, ep, ho, hc, hdat, hk, hp, hn⟩ := hm
  unfold keywordsIn
  refine wpAny_bind (wpAny_dictEntries ho hdat ?_)
  refine wpAny_bind ?_
  rw [← Array.forIn_toList]
  generalize es.toList = l at hp
  refine wpAny_forIn_list _ (fun rest b s' => s' = s ∧ ∃ zs : List (Str × Value), Pairs (mixKind prog w) rest (zs.map fun q => ((.inr q.1 : Key), q.2)) ∧ b ++ zs = ks.zip ws) _ ?_ ?_ _ _ ⟨rfl, ks.zip ws, hp, rfl⟩
  · rintro x rest b s' ⟨rfl, zs, hp, e⟩
    cases zs with
    | nil => rw [List.map_nil] at hp; cases hp
    | cons z zs =>
      rw [List.map_cons] at hp
      cases hp with
      | cons hkey hval hp =>
        have hkey : keyIs (.inr z.1 : Key) x.key = true := hkey
        rcases keyIs_shape hkey with ⟨i, t, e1, _⟩ | ⟨y, t, e1, e2⟩
        · cases e1
        · cases e1
          dsimp only
          rw [e2]
          exact wpAny_pure ⟨rfl, zs, hp, by rw [← e]; simp [hval]⟩
  · rintro b s' ⟨rfl, zs, hp, e⟩
    cases zs with
    | nil => rw [List.append_nil] at e; subst e; exact wpAny_pure hq
    | cons z zs => rw [List.map_cons] at hp; cases hp
end
section
variable {M : Model} {A : Around} {E : Value → Shared → Prop} {s : Shared} {env : Env}
theorem evalArgs_star {f : Value} {x kx : Sem Value} {rest : List (Bool × Sem Value)} {Q : Args → Shared → Prop}
    (h : wpAny M A (spliced ((false, x) :: rest)) (fun vs s₁ => wpAny M A (mergedKeywords f [(none, kx)]) (fun d s₂ => wpAny M A (keywordsIn f d) (fun kw s₃ => Q ⟨vs, kw⟩ s₃) E s₂) E s₁) E s) :
    wpAny M A (evalArgs f true ((false, x) :: rest) [(none, kx)]) Q E s := by
  unfold evalArgs
  show wpAny M A (spliced ((false, x) :: rest) >>= _) Q E s
  refine wpAny_bind (wpAny_mono h (fun vs s₁ h₁ => ?_) fun _ _ x => x)
  refine wpAny_bind (wpAny_pure ?_)
  refine wpAny_holding ?_
  rw [if_neg (by simp)]
  refine wpAny_bind (wpAny_mono h₁ (fun d s₂ h₂ => ?_) fun _ _ x => x)
  refine wpAny_bind (wpAny_pure ?_)
  exact wpAny_bind (wpAny_holding (wpAny_mono h₂ (fun kw s₃ h₃ => wpAny_pure h₃) fun _ _ x => x))
theorem callWith_star {K : PySem.W.Frag} {pos : Pos} {f : Value} {first : List Value} {x kx : Sem Value} {rest : List (Bool × Sem Value)} {Q : Value → Shared → Prop} (hk : PySem.W.keepIn K f = true)
    (h : wpAny M A (spliced ((false, x) :: rest)) (fun vs s₁ => wpAny M A (mergedKeywords f [(none, kx)]) (fun d s₂ => wpAny M A (keywordsIn f d) (fun kw s₃ => K.In s₃.heap ∧ wpAny M A (call f (first ++ vs) kw) Q E s₃) E s₂) E s₁) E s) :
    wpAny M A (callWith pos f first ((false, x) :: rest) [(none, kx)]) Q E s := by
  unfold callWith
  refine wpAny_bind (wpAny_holding (wpAny_mono (evalArgs_star (Q := fun a s₃ => K.In s₃.heap ∧ wpAny M A (call f (first ++ a.pos) a.kw) Q E s₃) h) (fun a s₁ h₁ => wpAny_bind (wpAny_standAt ?_)) fun _ _ x => x))
  obtain ⟨KX, h₁⟩ := h₁
  obtain ⟨k, hk', L⟩ := PySem.W.looks_keep (M := M) hk KX
  have hst : ((((false, x) :: rest).any (·.1) || ([((none : Option Str), kx)] : List (Option Str × Sem Value)).any (·.1.isNone)) = true) := by simp
  simp only [hst]
  refine wpAny_bind (L.here ?_)
  have tail : ∀ {t : Sem Value}, wpAny M A t Q E s₁ → wpAny M A (t >>= fun r => holding [r] point >>= fun _ => pure r) Q E s₁ :=
    fun ht => wpAny_bind (wpAny_mono ht (fun r s₂ hr => wpAny_bind (wpAny_holding (wpAny_point (wpAny_pure hr)))) fun _ _ x => x)
  have marked (mk : Value) : wpAny M A (callMarked mk f (first ++ a.pos) a.kw) Q E s₁ := by unfold callMarked; exact Calls.wpAny_keep h₁
  rcases hk' with rfl | rfl
  · exact tail (marked _)
  · exact tail (wpAny_operateT h₁)
end
section
variable {X : Cx} {k n : Nat} {W : WX} {σ : L2.St} {H : Hp} {Q : VK} {x : Str} {e ke : Expr} {es : List Expr} {p pos kp : Pos}
theorem kv_zip : ∀ {ks : List Str} {zs : List V} {vs : List (Key × Value)}, KV ((ks.zip zs).map fun q => ((.inr q.1 : Key), q.2)) vs → zs.length = ks.length → ∃ ws, vs = (ks.zip ws).map (fun q => ((.inr q.1 : Key), q.2)) ∧ Vals zs ws
  | [], [], vs, h, _ => by cases h; exact ⟨[], rfl, .nil⟩
  | [], z :: zs, _, _, l => by simp at l
  | q :: ks, [], _, _, l => by simp at l
  | q :: ks, z :: zs, vs, h, l => by
    rw [List.zip_cons_cons, List.map_cons] at h
    cases h with
    | @cons a b as bs h t =>
      obtain ⟨ws, e, r⟩ := kv_zip (ks := ks) (zs := zs) t (by simpa using l)
      obtain ⟨b1, b2⟩ := b
      obtain ⟨e1, e2⟩ := h
      refine ⟨b2 :: ws, ?_, .cons e2 r⟩
      rw [List.zip_cons_cons, List.map_cons, ← e, show b1 = (.inr q : Key) from e1.symm]
/-- C(e, .., **d), d a dict of texts -/
theorem e_makeStar {sp : Sp} {C : Addr} {j n : Nat} {ps ks : List Str} {gf : List Value → List Value → List Value} {gV : List V → List V → List V} {E : XK} (Cc : Cxt X (j + 1) W) (M : MakeOk X.prog X.w X.K X.mg X.base j x C ps sp fun fd => KBn X.K fd ps (n + 1) ks gf gV) (hW : ∀ cls d σ H, E cls d H → W cls d σ H)
    (h : wA X (e :: es) σ H fun vs H1 => vs.length = n ∧ ∀ d, H1 d = none → wE X ke σ (upd H1 d (.dK [])) fun y H2 => ∃ o zs, y = .ref o ∧ o ≠ d ∧ zs.length = ks.length ∧ H2 o = some (.dK ((ks.zip zs).map fun q => ((.inr q.1 : Key), q.2))) ∧ H2 d = some (.dK []) ∧ ks.length ≤ 1000 ∧
      ∀ r dx, upd H2 d (.dK ((ks.zip zs).map fun q => ((.inr q.1 : Key), q.2))) r = none → upd H2 d (.dK ((ks.zip zs).map fun q => ((.inr q.1 : Key), q.2))) dx = none → dx ≠ r →
        sp (gV (.ref r :: vs) zs) (upd (upd (upd H2 d (.dK ((ks.zip zs).map fun q => ((.inr q.1 : Key), q.2)))) dx (.own r)) r (.ins C dx [])) (fun v H3 => v = .non ∧ Q (.ref r) H3) E) (hg : Gl X x := by rfl)
    (hdb : (x == ("__debug__" : Str)) = false := by decide) (he : starEach (e :: es) X.env = (false, eval e X.env) :: starEach es X.env := by rfl) :
    wE X (.Call (.Name x p) (e :: es) [⟨none, ke, kp⟩] pos) σ H Q := by
  obtain ⟨f, fd, hm, mk, F, hb⟩ := M.ex
  refine ⟨fun pins s I => ?_⟩
  refine wpAny_Call_Name_kw (ld_glob I hg hm ?_ hdb)
  have ev : backTo pos (starEach (e :: es) X.env) = (false, eval e X.env) :: backTo pos (starEach es X.env) := by rw [he]; rfl
  rw [ev]
  show wpAny _ _ (callWith pos _ [] ((false, eval e X.env) :: backTo pos (starEach es X.env)) [(none, do let v ← eval ke X.env; standAt pos; pure v)]) _ _ _
  refine callWith_star (K := X.K) mk.kp ?_
  rw [← ev]
  refine wpAny_mono (h.run pos pins s I) (fun us s1 hu => ?_) fun _ _ e => e
  obtain ⟨vs, H1, I1, r, hl, hk⟩ := hu
  have hn := I1.hok.fresh (Nat.le_refl s1.heap.objs.size)
  have I2 := I1.laid (a := s1.heap.objs.size) (o := .dK []) (h' := s1.heap.push { cls := .type "dict", data := .dict #[] }) (t' := s1.toks) (fun _ _ q => Heap.get?_push_of_some _ q) (Nat.le_refl _) (dk_empty s1.heap I1.big)
  refine wpAny_mergedKw (knd := mixKind X.prog X.w) ?_
  refine wpAny_bind (wpAny_mono ((hk _ hn).run pins _ I2) (fun u s2 hv => ?_) fun _ _ e => e)
  obtain ⟨y, H2, I3, ry, o, zs, rfl, hod, lz, ho, hd, hks, hq⟩ := hv
  cases ry
  refine wpAny_bind (wpAny_standAt (wpAny_pure ?_))
  obtain ⟨zo, hso, vso, ro, ddo⟩ := dk_of I3.hok ho
  obtain ⟨zd, hsd, vsd, rd, ddd⟩ := dk_of I3.hok hd
  cases rd
  refine ⟨o, vso, rfl, hod.symm, hso, ddd, ddo, by rw [← ro.length]; exact zo, fun h' dd' sb => ?_⟩
  have I4 := d_write (t' := s2.toks) I3 (by rw [hd]; exact True.intro) sb (let ⟨q, _, _, hq, _⟩ := dd'; ⟨q, hq⟩) (dk_new zo hsd ro dd')
  obtain ⟨ws, ew, rz⟩ := kv_zip ro lz
  subst ew
  refine wpAny_keywordsIn dd' ⟨I4.kIn, ?_⟩
  exact run_makeK mk F Cc.room hb (passesE Cc.tk hW) I4 r rz hl lz hq
end
end Z

set_option Elab.async false
set_option linter.all false
set_option maxRecDepth 100000
set_option maxHeartbeats 4000000
/-! o.m(e, ..) where o is itself a call: which object it is is told by the promise -/
namespace Z
open PySem PySem.Spec PyProof.Rows L2
section
variable {X : Cx} {k : Nat} {W : WX} {σ : L2.St} {H : Hp} {m : Str} {o e : Expr} {es : List Expr} {apos pos : Pos} {Q : VK}
theorem e_methX {sp : Sp} {C : Addr} {j : Nat} {ps : List Str} (Cc : Cxt X j W) (c : Cls X.K C) (M : MethOk X.prog X.w X.K X.mg X.base j C m ps sp) (h : wE X o σ H fun x H1 => ∃ (r dx : Addr) (fs : List (Str × V)), x = .ref r ∧ H1 r = some (.ins C dx fs) ∧ fs.lookup m = none ∧ wA X (e :: es) σ H1 fun vs H2 => sp (.ref r :: vs) H2 Q fun _ _ _ => False)
    (hb : attributeBase o m X.env (eval o X.env) = eval o X.env := by rfl) (hf : methodCallForm ((e :: es).length + 0) (backTo pos (starEach (e :: es) X.env)) (backToKw pos (keywordEach [] X.env)) = true := by rfl) (hl : (apos.endLine == pos.line) = true := by rfl)
    (hst : starEach (e :: es) X.env = (false, eval e X.env) :: starEach es X.env := by rfl) (hpl : (backTo pos (starEach es X.env)).any (·.1) = false := by rfl) :
    wE X (.Call (.Attribute o m apos) (e :: es) [] pos) σ H Q := by
  obtain ⟨g, fd, hm, F, hbd⟩ := M.ex
  exact eE (pe_meth (pl := plainOf o X.env) pE c hm F Cc.room hbd .nil (passes0 Cc.tk) pA hst hpl (meth_eval hb hf hl)) (wE_mono h fun x H1 ⟨r, dx, fs, e1, h1, n, q⟩ => by subst e1; exact ⟨r, dx, fs, rfl, h1, n, wA_mono q fun vs H2 q => by rw [List.append_nil]; exact q⟩)
end
end Z

set_option Elab.async false
set_option linter.all false
set_option maxRecDepth 100000
set_option maxHeartbeats 4000000
/-! list(x) of a text, xs.pop(i), sorted(texts), x[::-1] of a text, f-strings with {x!r} of data -/
namespace Z
open PySem PySem.Spec PyProof.Rows L2
def signs (x : Str) : List V := x.cps.toList.map fun c => .str ⟨#[c]⟩
section
variable {X : Cx} {k : Nat} {W : WX} {σ : L2.St} {H : Hp} {e a b c o i : Expr} {es : List Expr} {p p2 pos apos : Pos} {Q : VK} {x f m : Str}
theorem call_listS (hc : X.calm = true) : CallR X (.type "list") (fun xs H Q => ∃ x : Str, xs = [.str x] ∧ x.length ≤ sizeLine ∧ ∀ p, H p = none → Q (.ref p) (upd H p (.lst (signs x)))) := by
  intro pins s σ H xs us Q I r h
  obtain ⟨x, rfl, hz, q⟩ := h
  obtain ⟨u, rfl, t, rfl⟩ := vals1 r
  have hlen : (signs x).length = x.length := by rw [signs, List.length_map]; exact lenL x
  refine PySem.call_list_str (I.ok.hd hc) x t (fun h' tk acc' c' hk e ha => ?_) hz
  refine ⟨.ref s.heap.objs.size, _, I.laid (t' := tk) hk (Nat.le_refl _) (show ObjOk X.prog X.w _ h' _ (.lst (signs x)) from ⟨by rw [hlen]; exact hz, acc'.toList, c', ?_, e⟩), rfl, q _ (I.hok.fresh (Nat.le_refl _))⟩
  refine vals_of_idx _ _ ?_ fun j u hu => ?_
  · rw [Array.length_toList, ha.1, hlen]; rfl
  · rw [Array.getElem?_toList] at hu
    obtain ⟨c, u', hc', rfl⟩ := ha.2 j u hu
    refine ⟨.str ⟨#[c]⟩, ?_, ⟨u', rfl⟩⟩
    rw [signs, List.getElem?_map, Array.getElem?_toList, hc']
    rfl
theorem e_listS (C : Cxt X k W) (h : wE X a σ H fun x H1 => ∃ z : Str, x = .str z ∧ z.length ≤ sizeLine ∧ ∀ l, H1 l = none → Q (.ref l) (upd H1 l (.lst (signs z)))) (hg : Gl X "list" := by rfl) (hs : starEach [a] X.env = [(false, eval a X.env)] := by rfl) :
    wE X (.Call (.Name "list" p) [a] [] pos) σ H Q := e_Ty (T := "list") (a_cons (wE_mono h fun x H1 ⟨z, e1, h1, h2⟩ => a_nil (cW_of (call_listS C.calm) ⟨z, by rw [e1], h1, h2⟩)) hs) C.blt.list PyProof.Rows.boot_list hg (by decide) (by decide) hs rfl
theorem e_sortedS (B : Blt X.mg X.base) (h : wE X a σ H fun x H1 => ∃ (q : Addr) (xs : List Str), x = .ref q ∧ SqL X.K H1 q (xs.map V.str) ∧ xs.length < 64 ∧ ∀ (ys : List Str) (p : Addr), ys.Perm xs → sortedS ys = true → H1 p = none → Q (.ref p) (upd H1 p (.lst (ys.map V.str))))
    (hg : Gl X "sorted" := by rfl) (hs : starEach [a] X.env = [(false, eval a X.env)] := by rfl) :
    wE X (.Call (.Name "sorted" p) [a] [] pos) σ H Q := e_B (id := "sorted") (a_cons (wE_mono h fun x H1 ⟨q, xs, e1, h1, h2, h3⟩ => a_nil (cW_of cr_sortedS ⟨q, xs, by rw [e1], h1, h2, h3⟩)) hs) B.sorted PyProof.Rows.boot_sorted hg (by decide) (by decide) hs rfl
/-- xs.pop(i) -/
theorem e_popAt (h : wE X o σ H fun x H1 => ∃ q, x = .ref q ∧ (∃ ys, H1 q = some (.lst ys)) ∧ wE X a σ H1 fun y H2 => ∃ (xs : List V) (j : Nat) (v : V), y = .int j ∧ H2 q = some (.lst xs) ∧ xs.length ≤ 1000000 ∧ xs[j]? = some v ∧ Q v (upd H2 q (.lst (xs.eraseIdx j))))
    (hs : starEach [a] X.env = [(false, eval a X.env)] := by rfl) (hbase : attributeBase o "pop" X.env (eval o X.env) = eval o X.env := by rfl) (hline : (apos.endLine == pos.line) = true := by rfl)
    (hfew : ((backTo pos (starEach [a] X.env)).all (fun x => !x.1) && (backToKw pos (keywordEach [] X.env)).all (fun x => x.1.isSome) && decide (([a] : List Expr).length + ([] : List Keyword).length + (if ([] : List Keyword).isEmpty then 0 else 1) < 30)) = true := by rfl) :
    wE X (.Call (.Attribute o "pop" apos) [a] [] pos) σ H Q :=
  eE (pe_bm PySem.F.plainAttrs_list PySem.F.slot_list_pop PySem.F.type_list_pop mt_popAt pE pA hbase hfew hline (by rw [hs]; rfl) rfl)
    (wE_mono h fun x H1 ⟨q, e1, ⟨ys, h0⟩, h1⟩ => ⟨by rw [e1]; exact .inl ⟨rfl, ys, .inl (.inl h0)⟩, a_cons (wE_mono h1 fun y H2 ⟨xs, j, v, h2, h3, hl, hv, h4⟩ => a_nil (by
      have hj : j < xs.length := (List.getElem?_eq_some_iff.mp hv).1
      exact ⟨q, xs, j, j, v, e1, by rw [h2], h3, by omega, by omega, by rw [seqIndex_of (by omega) (by omega)]; simp, hv, h4⟩)) (by rw [hs]; rfl)⟩)
/-- x[::-1], x a text -/
def revS (x : Str) : Str := sOf x.cps.toList.reverse
theorem strRev (x : Str) : ((Builtin.Str.strSliceIndices none none (-1) x.length).filterMap (x.cps[·]?)).toArray = x.cps.toList.reverse.toArray := by
  have e : Builtin.Str.strSliceIndices none none (-1) x.length = sliceRange ((x.cps.size : Int) - 1) (-1) (-1) := rfl
  rw [e, PySem.W.krv_sliceRange, PySem.W.krv_range, List.filterMap_reverse, PySem.W.krv_all]
theorem e_revS {kk : Nat} {p1 p2 p3 : Pos} (h : wE X e σ H fun x H1 => ∃ z : Str, x = .str z ∧ z.length ≤ sizeLine ∧ Q (.str (revS z)) H1) : wE X (.Subscript e (.Slice none none (some (.UnaryOp .USub (.Constant (.int 1) kk p1) p2)) p3) pos) σ H Q := by
  refine ⟨fun pins s I => ?_⟩
  refine Subscript_ (thn (h.run pins s I) fun v s1 ⟨x, H1, I1, r1, q1⟩ => ?_)
  obtain ⟨z, ex, hz, q⟩ := q1
  subst ex
  obtain ⟨t, rfl⟩ := r1
  have hst : PO X (some (.UnaryOp .USub (.Constant (.int 1) kk p1) p2)) (tPart (tUn (rU fun i => .int (-i)) (tC (.int 1)))) := po_some (pe_un un_neg pe_int)
  refine wpAny_Slice (thn (po_none.run pins s1 σ H1 (fun o H2 => o = none ∧ H2 = H1) I1 ⟨rfl, rfl⟩) fun vl s2 ⟨l, H2, I2, pl, el, e2⟩ => ?_)
  subst el e2
  refine thn (po_none.run pins s2 σ H2 (fun o H3 => o = none ∧ H3 = H2) I2 ⟨rfl, rfl⟩) fun vu s3 ⟨u, H3, I3, pu, eu, e3⟩ => ?_
  subst eu e3
  refine thn (hst.run pins s3 σ H3 (fun o H4 => o = some (-1) ∧ H4 = H3) I3 ⟨1, rfl, -1, rfl, rfl, rfl⟩) fun vs s4 ⟨o, H4, I4, ps, eo, e4⟩ => ?_
  subst eo e4
  have I5 : Inv X pins σ H4 { s4 with heap := s4.heap.push { cls := .type "slice", data := .fields #[vl, vu, vs] } } := I4.kept (t' := s4.toks) fun b ob q => Heap.get?_push_of_some _ q
  show wpAny (model X.prog X.w) X.A (subscriptTail e (.Slice none none (some (.UnaryOp .USub (.Constant (.int 1) kk p1) p2)) p3) (.str z t) (.ref s4.heap.objs.size)) (EP X pins σ Q) X.xe { s4 with heap := s4.heap.push { cls := .type "slice", data := .fields #[vl, vu, vs] } }
  refine tail_any (ops := [.str z t, .ref s4.heap.objs.size]) (typeIs_str _ _ _) (PySem.F.slot_str_getitem.lookup) ?_ (by with_unfolding_all rfl)
  obtain ⟨l, rfl, el⟩ := IsPart.raw pl
  obtain ⟨u, rfl, eu⟩ := IsPart.raw pu
  obtain ⟨st, rfl, es⟩ := IsPart.raw ps
  have el' : l.map (·.1) = none := by first | exact el | exact el.symm
  have eu' : u.map (·.1) = none := by first | exact eu | exact eu.symm
  have es' : st.map (·.1) = some (-1) := by first | exact es | exact es.symm
  refine wpAny_getItem_str_slice (l := l) (u := u) (st := st) ⟨_, Heap.get?_push_size _ rfl, rfl, rfl⟩ (by rw [es']; rfl) ?_
  have e1 : (st.map (·.1)).getD 1 = -1 := by rw [es']; rfl
  unfold sliceMade slicePicked
  rw [e1, el', eu', strRev, if_neg (by simp)]
  refine ⟨?_, .str (revS z), H4, I5.tok _, ⟨_, rfl⟩, q⟩
  show (z.cps.toList.reverse.toArray).size ≤ sizeLine
  rw [List.size_toArray, List.length_reverse, Array.length_toList]
  exact hz
/-- {x!r}: data that stand in the heap -/
theorem e_fmtRD (B : Blt X.mg X.base) (hg : X.A.guards = some []) (hu : X.A.units + 66 < cLine) (h : wE X e σ H fun x H1 => ∃ l d q, x = .ref q ∧ DD X.K l H1 x d ∧ rp d = true ∧ Q (.str d.shown) H1) : wE X (.FormattedValue e 114 none pos) σ H Q := by
  refine ⟨fun pins s I => ?_⟩
  refine wpAny_FormattedValue_repr (thn (h.run pins s I) fun v s1 hv => ?_)
  obtain ⟨x, H1, I1, r1, l, d, q0, rfl, hd, hr, q⟩ := hv
  obtain ⟨hs, hdp, hz⟩ := rp_len hr
  obtain ⟨as, hr, na⟩ := DD.reads B.sys I1 hd r1
  obtain rfl : v = Value.ref q0 := r1
  refine pyReprObj_of_reads hr hs (fun _ => na) hg (by omega) (fun _ _ e => e) (fun h' u tk k => ?_) hz
  exact wpAny_formatField_str ⟨.str d.shown, H1, I1.kept k, ⟨_, rfl⟩, q⟩ ⟨.str d.shown, H1, (I1.kept (t' := tk) k).tok _, ⟨_, rfl⟩, q⟩ hz
end
end Z

set_option Elab.async false
set_option linter.all false
set_option maxRecDepth 100000
set_option maxHeartbeats 4000000
/-! instances of own classes: == against anything, either way round -/
namespace Z
open PySem PySem.Spec PyProof.Rows PySem.SeqAt
section
variable {M : Model} {prog : Program} {w : World} {A : Around} {E : Value → Shared → Prop} {s : Shared} {K : PySem.W.Frag} {x C f : Addr} {ox : Obj} {od : Option Obj}
theorem sub_mro {T : String} {l : List Value} (e : fastBuiltinMro T = some l) (h : l.contains (.ref C) = false) : PySem.W.subIn K (.type T) (.ref C) = some false := by
  show (fastBuiltinMro T).map (·.contains (.ref C)) = some false
  rw [e]
  exact congrArg some h
theorem subA : ∀ T ∈ ["NoneType", "bool", "int", "str", "list", "tuple", "dict"], PySem.W.subIn K (.type T) (.ref C) = some false := by
  intro T hT
  simp only [List.mem_cons, List.not_mem_nil, or_false] at hT
  rcases hT with rfl | rfl | rfl | rfl | rfl | rfl | rfl
  · exact sub_mro (l := [.type "NoneType", .type "object"]) (by decide +kernel) (by first | rfl | simp)
  · exact sub_mro (l := [.type "bool", .type "int", .type "object"]) (by decide +kernel) (by first | rfl | simp)
  · exact sub_mro (l := [.type "int", .type "object"]) (by decide +kernel) (by first | rfl | simp)
  · exact sub_mro (l := [.type "str", .type "object"]) (by decide +kernel) (by first | rfl | simp)
  · exact sub_mro (l := [.type "list", .type "object"]) (by decide +kernel) (by first | rfl | simp)
  · exact sub_mro (l := [.type "tuple", .type "object"]) (by decide +kernel) (by first | rfl | simp)
  · exact sub_mro (l := [.type "dict", .type "object"]) (by decide +kernel) (by first | rfl | simp)
theorem isInst_own {T : String} {Q : Bool → Shared → Prop} (X : K.In s.heap) (I : PySem.W.InstAt s.heap x ox C od) (h : PySem.W.subIn K (.ref C) (.type T) = some false) (q : Q false s) : wpAny M A (isInstance (.ref x) (.type T)) Q E s :=
  wpAny_bind (I.type.here ((PySem.W.looks_subIn X h).here q))
theorem list_declines {l : Addr} {items : Array Value} {n : Nat} {dd : Option Addr} {sl : Array (Option Value)} {Q : Fin → Shared → Prop} (X : K.In s.heap) (I : PySem.W.InstAt s.heap x ox C od) (h : PySem.W.subIn K (.ref C) (.type "list") = some false)
    (hl : s.heap.get? l = some { cls := .type "list", dict := dd, data := .seq items n, slots := sl }) (q : Q (.done (.ret .notImplemented)) s) : wpAny M A (Builtin.«list.__eq__» ⟨[.ref l, .ref x], []⟩) Q E s := by
  unfold Builtin.«list.__eq__»
  repeat (first | with_reducible refine wpAny_bind (isInst_own X I h ?_) | wp_step)

  all_goals exact q
theorem tuple_declines {l : Addr} {items : Array Value} {n : Nat} {dd : Option Addr} {sl : Array (Option Value)} {Q : Fin → Shared → Prop} (X : K.In s.heap) (I : PySem.W.InstAt s.heap x ox C od) (h : PySem.W.subIn K (.ref C) (.type "tuple") = some false)
    (hl : s.heap.get? l = some { cls := .type "tuple", dict := dd, data := .seq items n, slots := sl }) (q : Q (.done (.ret .notImplemented)) s) : wpAny M A (Builtin.«tuple.__eq__» ⟨[.ref l, .ref x], []⟩) Q E s := by
  unfold Builtin.«tuple.__eq__»
  repeat (first | with_reducible refine wpAny_bind (isInst_own X I h ?_) | wp_step)
  all_goals exact q
theorem dict_declines {l : Addr} {Q : Fin → Shared → Prop} (X : K.In s.heap) (I : PySem.W.InstAt s.heap x ox C od) (h : PySem.W.subIn K (.ref C) (.type "dict") = some false)
    (q : Q (.done (.ret .notImplemented)) s) : wpAny M A (Builtin.«dict.__eq__» ⟨[.ref l, .ref x], []⟩) Q E s := by
  unfold Builtin.«dict.__eq__»
  repeat (first | with_reducible refine wpAny_bind (isInst_own X I h ?_) | wp_step)
  all_goals exact q
theorem int_declines {v : Value} (hv : (∃ b, v = .bool b) ∨ ∃ i t, v = .int i t) {Q : Fin → Shared → Prop} (I : PySem.W.InstAt s.heap x ox C od) (hd : ox.data = .plain)
    (q : Q (.done (.ret .notImplemented)) s) : wpAny M A (Builtin.«int.__eq__» ⟨[v, .ref x], []⟩) Q E s := by
  obtain ⟨cls, dd, data, sl⟩ := ox
  simp only at hd
  subst hd
  have hx := I.at_
  obtain ⟨hp, g, d, tk, os⟩ := s
  rcases hv with ⟨b, rfl⟩ | ⟨i, t, rfl⟩
  · wp_walk using wpAny_load hx
    exact q
  · wp_walk using wpAny_load hx
    exact q
theorem str_declines {y : Str} {t : Tok} {Q : Fin → Shared → Prop} (I : PySem.W.InstAt s.heap x ox C od) (hd : ox.data = .plain)
    (q : Q (.done (.ret .notImplemented)) s) : wpAny M A (Builtin.«str.__eq__» ⟨[.str y t, .ref x], []⟩) Q E s := by
  obtain ⟨cls, dd, data, sl⟩ := ox
  simp only at hd
  subst hd
  have hx := I.at_
  obtain ⟨hp, g, d, tk, os⟩ := s
  wp_walk using wpAny_load hx
  exact q
/-- what a built-in type's own == says to an instance: nothing -/
def Declines (prog : Program) (w : World) (A : Around) (s : Shared) (x : Addr) (v : Value) (T : String) : Prop :=
  s.TypeIs v T ∧ T ∈ ["NoneType", "bool", "int", "str", "list", "tuple", "dict"] ∧ ∃ id, Slot T "__eq__" id ∧ ∀ (E : Value → Shared → Prop) (Q : Value → Shared → Prop), Q .notImplemented s → wpAny (model prog w) A (call (.builtin id) [v, .ref x]) Q E s
theorem rc_bwd {v : Value} {T : String} {Q : Value → Shared → Prop} (hu : A.units < cLine) (X : K.In s.heap) (I : PySem.W.InstAt s.heap x ox C od) (hT : PySem.W.subIn K (.ref C) (.type T) = some false) (D : Declines prog w A s x v T)
    (hs : PySem.W.findIn K (.ref C) "__eq__" = some (some (.ref f))) (hf : PySem.W.isFn K (.ref f) = true)
    (h : wpAny (model prog w) A (call (.ref f) [.ref x, v]) (PySem.W.CmpBack Q) E s) : wpAny (model prog w) A (richCompare .Eq v (.ref x)) Q E s := by
  obtain ⟨ty, _, id, sl, hc⟩ := D
  have one : wpAny (model prog w) A (tryCompare v "__eq__" (.ref x)) (fun r s' => r = none ∧ s' = s) E s :=
    wpAny_tryCompare_declines ty sl (hc E _ ⟨rfl, rfl, rfl⟩)
  have two : wpAny (model prog w) A (tryCompare (.ref x) "__eq__" v) (fun r s' => ∃ u, r = some u ∧ Q u s') E s := by
    unfold tryCompare
    refine wpAny_bind (PySem.W.ifBound_K X I hs hf (wpAny_mono h (fun u s' hv => ?_) fun _ _ e => e))
    cases u <;> first | exact hv.elim | exact wpAny_pure ⟨_, rfl, hv⟩
  simp only [richCompare, cmpInfo_Eq, ty.oneThing_none]
  refine wpAny_holding (wpAny_bind (wpAny_cRoomFor hu ?_))
  refine wpAny_bind (wpAny_typeOf ty (wpAny_bind (I.type.here ?_)))
  rw [if_pos (by simp)]
  refine wpAny_bind ((PySem.W.looks_subIn X hT).here ?_)
  simp only [Bool.false_eq_true, if_false, Bool.not_false, if_true]
  refine wpAny_bind (m := tryCompare v _ (.ref x)) (wpAny_mono one (fun r s1 z => ?_) fun _ _ e => e)
  obtain ⟨z1, z2⟩ := z
  subst z1
  subst z2
  refine wpAny_bind (m := tryCompare (.ref x) _ v) (wpAny_mono two (fun r s2 z => ?_) fun _ _ e => e)
  obtain ⟨u, rfl, hq⟩ := z
  exact wpAny_pure hq
theorem rc_fwd {v : Value} {T : String} {Q : Value → Shared → Prop} (hu : A.units < cLine) (X : K.In s.heap) (I : PySem.W.InstAt s.heap x ox C od) (ty : s.TypeIs v T) (hT : T ∈ ["NoneType", "bool", "int", "str", "list", "tuple", "dict"])
    (hs : PySem.W.findIn K (.ref C) "__eq__" = some (some (.ref f))) (hf : PySem.W.isFn K (.ref f) = true)
    (h : wpAny (model prog w) A (call (.ref f) [.ref x, v]) (PySem.W.CmpBack Q) E s) : wpAny (model prog w) A (richCompare .Eq (.ref x) v) Q E s := by
  have two : wpAny (model prog w) A (tryCompare (.ref x) "__eq__" v) (fun r s' => ∃ u, r = some u ∧ Q u s') E s := by
    unfold tryCompare
    refine wpAny_bind (PySem.W.ifBound_K X I hs hf (wpAny_mono h (fun u s' hv => ?_) fun _ _ e => e))
    cases u <;> first | exact hv.elim | exact wpAny_pure ⟨_, rfl, hv⟩
  simp only [richCompare, cmpInfo_Eq, oneThing_ref]
  refine wpAny_holding (wpAny_bind (wpAny_cRoomFor hu ?_))
  refine wpAny_bind (I.type.here (wpAny_bind (wpAny_typeOf ty ?_)))
  rw [if_pos (by simp)]
  refine wpAny_bind ((PySem.W.looks_subIn X (subA T hT)).here ?_)
  simp only [Bool.false_eq_true, if_false]
  refine wpAny_bind (m := tryCompare (.ref x) _ v) (wpAny_mono two (fun r s2 z => ?_) fun _ _ e => e)
  obtain ⟨u, rfl, hq⟩ := z
  exact wpAny_pure hq
end
end Z
namespace Z
open PySem PySem.Spec PyProof.Rows L2
/-- what an own == answers: of these two, b -/
def spEqB (R : V → V → Bool → Hp → Prop) : Sp := fun vs H Q _ => ∃ x y b, vs = [x, y] ∧ R x y b H ∧ ∀ H', But [] H H' → Q (.bl b) H'
/-- the class at C is over object alone -/
def NotB (K : PySem.W.Frag) (C : Addr) : Prop := ∀ T ∈ ["NoneType", "bool", "int", "str", "list", "tuple", "dict"], PySem.W.subIn K (.ref C) (.type T) = some false
section
variable {X : Cx} {pins : List (Addr × Obj)} {σ : L2.St} {H : Hp} {s : Shared}
/-- of which built-in type a value is -/
inductive Ty1 (K : PySem.W.Frag) (H : Hp) : V → String → Prop where
  | non : Ty1 K H .non "NoneType"
  | bl (b : Bool) : Ty1 K H (.bl b) "bool"
  | int (i : Int) : Ty1 K H (.int i) "int"
  | str (x : Str) : Ty1 K H (.str x) "str"
  | lst {a : Addr} {xs : List V} (h : SqL K H a xs) : Ty1 K H (.ref a) "list"
  | tup {a : Addr} {xs : List V} (h : SqT K H a xs) : Ty1 K H (.ref a) "tuple"
  | dct {a : Addr} {kvs : List (Key × V)} (h : H a = some (.dK kvs)) : Ty1 K H (.ref a) "dict"
theorem DD.ty1 {K : PySem.W.Frag} {l : List Addr} {v : V} {d : PyData} (h : DD K l H v d) : Ty1 K H v (tyD d) := by
  cases h with
  | non => exact .non
  | bl b => exact .bl b
  | int i => exact .int i
  | str x => exact .str x
  | lst h1 h2 h3 => exact .lst h1
  | tup h1 h2 h3 => exact .tup h1
  | dct h1 h2 h3 => exact .dct h1
theorem Ty1.tyx {K : PySem.W.Frag} {v : V} {T : String} (h : Ty1 K H v T) : TyX K H v (.type T) := by
  cases h with
  | non => exact .base .non
  | bl b => exact .base (.bl b)
  | int i => exact .base (.int i)
  | str x => exact .base (.str x)
  | lst h1 =>
    rcases h1 with (h1 | ⟨o, h1⟩) | ⟨o, its, n, h1, h4, _⟩
    · exact .base (.lst h1)
    · exact .base (.frz h1)
    · exact .kList h1 h4
  | tup h1 =>
    rcases h1 with (h1 | ⟨o, h1⟩) | ⟨o, its, n, h1, h4, _⟩
    · exact .base (.tup h1)
    · exact .fTuple h1
    · exact .kTuple h1 h4
  | dct h1 => exact .base (.dK h1)
theorem Ty1.mem {K : PySem.W.Frag} {v : V} {T : String} (h : Ty1 K H v T) : T ∈ ["NoneType", "bool", "int", "str", "list", "tuple", "dict"] := by cases h <;> simp
theorem ty_declines {v : V} {T : String} {u : Value} {A : Around} {a C : Addr} {ox : Obj} {od : Option Obj} (I : Inv X pins σ H s) (hd : Ty1 X.K H v T) (rv : RelV v u) (J : PySem.W.InstAt s.heap a ox C od) (hp : ox.data = .plain) (nb : NotB X.K C) : Declines X.prog X.w A s a u T := by
  have K := I.kIn
  cases hd with
  | non =>
    cases rv
    exact ⟨rfl, by simp, _, F.slot_NoneType_eq_refl, fun E Q q => call_gives F.slot_NoneType_eq_refl rfl F.entry_NoneType_eq (F.args_NoneType_eq_2 _ _) (PySem.SeqAt.NoneType___eq___none_ref_0 a) q⟩
  | bl b =>
    cases rv
    exact ⟨rfl, by simp, _, F.slot_bool_eq, fun E Q q => GQ.call_here F.slot_bool_eq rfl F.entry_int_eq (F.args_int_eq_2 _ _) (int_declines (.inl ⟨_, rfl⟩) J hp q)⟩
  | int i =>
    obtain ⟨t, rfl⟩ := rv
    exact ⟨typeIs_int _ _ _, by simp, _, F.slot_int_eq, fun E Q q => GQ.call_here F.slot_int_eq (typeIs_int _ _ _) F.entry_int_eq (F.args_int_eq_2 _ _) (int_declines (.inr ⟨_, _, rfl⟩) J hp q)⟩
  | str y =>
    obtain ⟨t, rfl⟩ := rv
    exact ⟨typeIs_str _ _ _, by simp, _, F.slot_str_eq, fun E Q q => GQ.call_here F.slot_str_eq (typeIs_str _ _ _) F.entry_str_eq (F.args_str_eq_2 _ _) (str_declines J hp q)⟩
  | @lst b xs h1 =>
    obtain rfl : u = Value.ref b := rv
    obtain ⟨its, r', pl, hz⟩ := I.list h1
    obtain ⟨⟨cls, dd, data, sl⟩, ho, hc, n, hd'⟩ := pl.isList
    simp only at hc hd'
    subst hc hd'
    exact ⟨⟨_, ho, rfl⟩, by simp, _, F.slot_list_eq, fun E Q q => GQ.call_here F.slot_list_eq ⟨_, ho, rfl⟩ F.entry_list_eq (F.args_list_eq_2 _ _) (list_declines K J (nb _ (by simp)) ho q)⟩
  | @tup b xs h1 =>
    obtain rfl : u = Value.ref b := rv
    obtain ⟨its, r', pl, hz⟩ := I.tuple h1
    obtain ⟨⟨cls, dd, data, sl⟩, ho, hc, n, hd'⟩ := pl
    simp only at hc hd'
    subst hc hd'
    exact ⟨⟨_, ho, rfl⟩, by simp, _, F.slot_tuple_eq, fun E Q q => GQ.call_here F.slot_tuple_eq ⟨_, ho, rfl⟩ F.entry_tuple_eq (F.args_tuple_eq_2 _ _) (tuple_declines K J (nb _ (by simp)) ho q)⟩
  | @dct b kvs h1 =>
    obtain rfl : u = Value.ref b := rv
    obtain ⟨_, _, vs, rk, o, es, ep, ho, hx, hdd, _, hpp, _⟩ := I.hok b _ h1
    exact ⟨⟨_, ho, hx.1⟩, by simp, _, F.slot_dict_eq, fun E Q q => GQ.call_here F.slot_dict_eq ⟨_, ho, hx.1⟩ F.entry_dict_eq (F.args_dict_eq_2 _ _) (dict_declines K J (nb _ (by simp)) q)⟩
end
end Z

set_option Elab.async false
set_option linter.all false
set_option maxRecDepth 100000
set_option maxHeartbeats 4000000
/-! instances of own classes: ==, != with both answers; repr; called -/
namespace Z
open PySem PySem.Spec PyProof.Rows L2
theorem kit_no {K : PySem.W.Frag} {T : String} {C : Addr} (h1 : PySem.W.subIn K (.type T) (.ref C) = some false) (h2 : PySem.W.hasDictIn K C = true) (h3 : PySem.W.typeIn K (.ref C) = some (.type "type")) : PySem.W.kitOne K (.type T) (.ref C) = some false := by
  obtain ⟨cd, hc, _⟩ := PySem.W.any_some h2
  unfold PySem.W.kitOne PySem.W.kitCls
  split
  · rename_i z; simp at z
  · simp [hc, h3, h1]
section
variable {X : Cx} {k : Nat} {W : WX} {σ : L2.St} {H : Hp} {Q : VK}
/-- the own == run at two values -/
theorem run_eqB {A : Around} {f : Addr} {fd : FuncData} {ps : List Str} {R : V → V → Bool → Hp → Prop} {pins : List (Addr × Obj)} {s : Shared} {x y : V} {u v : Value} {b : Bool} (tk : Takes X W) (F : FnOk X.prog X.w X.K X.mg X.base (L2.CX X.prog X.w) k f fd ps (spEqB R)) (hb : Binds X.K fd ps [])
    (hr : Room k A) (hA : A.frames = X.A.frames) (I : Inv X pins σ H s) (rx : RelV x u) (ry : RelV y v) (hR : R x y b H) :
    wpAny (model X.prog X.w) A (call (.ref f) [u, v]) (fun r s' => r = .bool b ∧ ∃ H', Inv X pins σ H' s' ∧ But [] H H') X.xe s := by
  have hsp : spEqB R [x, y] H (fun v H' => v = .bl b ∧ But [] H H') (fun _ _ _ => False) := ⟨x, y, b, rfl, hR, fun H' e => ⟨rfl, e⟩⟩
  have e0 : Env0 X.prog X.w X.K X.mg X.base A X.stack s H := by
    have e := I.env0
    exact ⟨by rw [hA]; exact e.frames, e.mod, e.bs, e.bsz, e.funs, e.frf, e.hok, e.bare⟩
  have hl := F.len _ _ _ _ hsp
  have r2 : Vals [x, y] [u, v] := .cons rx (.cons ry .nil)
  refine wpAny_call (codeAny_mono (F.run A X.stack s H ⟨[u, v], []⟩ [u, v] [x, y] _ (fun _ _ _ => False) hr e0 (by
    have := hb s [u, v] I.kIn (by simpa using hl)
    simpa using this) r2 hsp) fun r s' hq => ?_)
  cases r with
  | error e => exact passes0 tk pins σ H s e s' I hq
  | ok fl =>
    cases fl with
    | ret w =>
      obtain ⟨z, H', I', rz, ez, ex⟩ := I.after hq
      subst ez
      cases rz
      exact ⟨rfl, H', I', ex⟩
    | next => exact False.elim hq
    | brk => exact False.elim hq
    | cont => exact False.elim hq
variable {C : Addr} {ps : List Str} {R : V → V → Bool → Hp → Prop} {a a2 dx dy : Addr} {fs gs : List (Str × V)} {y : V} {T : String} {b : Bool}
/-- o == y, y data -/
theorem c_eqOD (Cc : Cxt X (k + 1) W) (M : MethOk X.prog X.w X.K X.mg X.base k C "__eq__" ps (spEqB R)) (nb : NotB X.K C) (ha : H a = some (.ins C dx fs)) (hd : Ty1 X.K H y T) (hR : R (.ref a) y b H) (q : ∀ H', But [] H H' → Q (.bl b) H') : oW X (compareOp .Eq) (.ref a) y H Q := by
  obtain ⟨f, fd, hmm, F, hb⟩ := M.ex
  refine ⟨fun pins s σ u v I rx ry => ?_⟩
  obtain rfl : u = Value.ref a := rx
  obtain ⟨mA, J, _⟩ := ins_get I.hok ha
  obtain ⟨od, J, _⟩ := J.look
  have D := ty_declines (A := X.A) I hd ry J rfl nb
  have sb : Sub X (k + 1) X.A := ⟨Cc.room, rfl⟩
  exact rc_fwd sb.room.units0 I.kIn J D.1 D.2.1 hmm.at_ hmm.fn (wpAny_mono (run_eqB (x := .ref a) Cc.tk F hb (Cc.room.mono (Nat.le_succ _)) rfl I rfl ry hR) (fun r s' ⟨er, H', I', e⟩ => by subst er; exact ⟨.bl b, H', I', rfl, q H' e⟩) fun _ _ e => e)
/-- y == o, y data -/
theorem c_eqDO (Cc : Cxt X (k + 1) W) (M : MethOk X.prog X.w X.K X.mg X.base k C "__eq__" ps (spEqB R)) (nb : NotB X.K C) (ha : H a = some (.ins C dx fs)) (hd : Ty1 X.K H y T) (hR : R (.ref a) y b H) (q : ∀ H', But [] H H' → Q (.bl b) H') : oW X (compareOp .Eq) y (.ref a) H Q := by
  obtain ⟨f, fd, hmm, F, hb⟩ := M.ex
  refine ⟨fun pins s σ u v I rx ry => ?_⟩
  obtain rfl : v = Value.ref a := ry
  obtain ⟨mA, J, _⟩ := ins_get I.hok ha
  obtain ⟨od, J, _⟩ := J.look
  have D := ty_declines (A := X.A) I hd rx J rfl nb
  have sb : Sub X (k + 1) X.A := ⟨Cc.room, rfl⟩
  exact rc_bwd sb.room.units0 I.kIn J (nb _ D.2.1) D hmm.at_ hmm.fn (wpAny_mono (run_eqB (x := .ref a) Cc.tk F hb (Cc.room.mono (Nat.le_succ _)) rfl I rfl rx hR) (fun r s' ⟨er, H', I', e⟩ => by subst er; exact ⟨.bl b, H', I', rfl, q H' e⟩) fun _ _ e => e)
/-- isinstance(y, C), y of a built-in type: no -/
theorem e_isO {x : Str} {e : Expr} {p pT pos : Pos} {σ : L2.St} (B : Blt X.mg X.base) (hd' : PySem.W.hasDictIn X.K C = true) (ht : PySem.W.typeIn X.K (.ref C) = some (.type "type")) (hT : X.mg x = some (.ref C))
    (h : wE X e σ H fun v H1 => ∃ T, Ty1 X.K H1 v T ∧ Q (.bl false) H1) (hgT : Gl X x := by rfl) (hdT : (x == ("__debug__" : Str)) = false := by decide) (hgl : Gl X "isinstance" := by rfl)
    (hs : starEach [e, .Name x pT] X.env = (false, eval e X.env) :: starEach [.Name x pT] X.env := by rfl) (hs2 : starEach [.Name x pT] X.env = [(false, eval (.Name x pT) X.env)] := by rfl) : wE X (.Call (.Name "isinstance" p) [e, .Name x pT] [] pos) σ H Q :=
  e_B (id := "isinstance") (a_cons (wE_mono h fun v H1 ⟨T, h1, q⟩ => a_cons (e_glob (v := .ref C) (a_nil (cW_of call_isi ⟨v, .ref C, .type T, .ref C, false, rfl, .own C, h1.tyx, kit_no (subA T h1.mem) hd' ht, q⟩)) hT rfl hgT hdT) hs2) hs)
    B.isinstance PyProof.Rows.boot_isinstance hgl (by decide) (by decide) hs (by rw [hs2]; rfl)
/-- o == o2, both of the class at C -/
theorem c_eqOO (Cc : Cxt X (k + 1) W) (M : MethOk X.prog X.w X.K X.mg X.base k C "__eq__" ps (spEqB R)) (ha : H a = some (.ins C dx fs)) (hb2 : H a2 = some (.ins C dy gs)) (hR : R (.ref a) (.ref a2) b H) (q : ∀ H', But [] H H' → Q (.bl b) H') : oW X (compareOp .Eq) (.ref a) (.ref a2) H Q := by
  obtain ⟨f, fd, hmm, F, hb⟩ := M.ex
  refine ⟨fun pins s σ u v I rx ry => ?_⟩
  obtain rfl : u = Value.ref a := rx
  obtain rfl : v = Value.ref a2 := ry
  obtain ⟨mA, J, _⟩ := ins_get I.hok ha
  obtain ⟨mB, J', _⟩ := ins_get I.hok hb2
  obtain ⟨od, J, _⟩ := J.look
  obtain ⟨od', J', _⟩ := J'.look
  obtain ⟨m, hF⟩ := I.fr
  have sb : Sub X (k + 1) X.A := ⟨Cc.room, rfl⟩
  exact PySem.W.cmp_K (op := .Eq) (tb := .ref C) sb.room.units0 hF I.ok.mod.kin J J'.type (by simp [PySem.W.notFirst]) hmm.at_ hmm.fn (wpAny_mono (run_eqB (x := .ref a) (y := .ref a2) Cc.tk F hb (Cc.room.mono (Nat.le_succ _)) rfl I rfl rfl hR) (fun r s' ⟨er, H', I', e⟩ => by subst er; exact ⟨.bl b, H', I', rfl, q H' e⟩) fun _ _ e => e)
section
variable {prog : Program} {w : World} {A : Around} {E : Value → Shared → Prop} {s : Shared} {K : PySem.W.Frag} {x C f : Addr} {ox : Obj} {od : Option Obj} {v : Value} {b : Bool}
theorem entry_neB {Q : Fin → Shared → Prop} (hu : A.units < cLine) (X : K.In s.heap) (I : PySem.W.InstAt s.heap x ox C od) (hs : PySem.W.findIn K (.ref C) "__eq__" = some (some (.ref f))) (hf : PySem.W.isFn K (.ref f) = true)
    (h : wpAny (model prog w) A (call (.ref f) [.ref x, v]) (fun r s' => r = .bool b ∧ Q (.done (.ret (.bool (!b)))) s') E s) : wpAny (model prog w) A (Builtin.«object.__ne__» ⟨[.ref x, v], []⟩) Q E s := by
  unfold Builtin.«object.__ne__»
  repeat (first | with_reducible refine wpAny_cRoomFor hu ?_ | with_reducible refine wpAny_bind (PySem.W.ifBound_K X I hs hf (wpAny_mono h (fun v s' z => ?_) fun _ _ e => e)) | wp_step)
  obtain ⟨rfl, q⟩ := z
  exact wpAny_bind (wpAny_truthy_bool (wpAny_pure q))
theorem cmp_objNeB {od' : Option Obj} {oy : Obj} {y : Addr} {Q : Value → Shared → Prop} (hu : A.units + 1 < cLine) (X : K.In s.heap) (I : PySem.W.InstAt s.heap x ox C od) (J : PySem.W.InstAt s.heap y oy C od')
    (hn : PySem.W.findIn K (.ref C) "__ne__" = some (some (.builtin "object.__ne__"))) (hm : PySem.W.mroIn K C (.type "object") = some true) (hs : PySem.W.findIn K (.ref C) "__eq__" = some (some (.ref f))) (hf : PySem.W.isFn K (.ref f) = true)
    (h : wpAny (model prog w) A.in1 (call (.ref f) [.ref x, .ref y]) (fun v s' => v = .bool b ∧ Q (.bool (!b)) s') E s) : wpAny (model prog w) A (richCompare .NotEq (.ref x) (.ref y)) Q E s := by
  have hu0 : A.units < cLine := Nat.lt_of_succ_lt hu
  have one : wpAny (model prog w) A (tryCompare (.ref x) "__ne__" (.ref y)) (fun r s' => ∃ v, r = some v ∧ Q v s') E s := by
    unfold tryCompare
    exact wpAny_bind (ifBound_objNe X I hn (wpAny_call (codeAny_call_builtin F.cmp_object.ne.plain F.cmpEntry_ne (PySem.W.check_slot F.cmpKind_ne F.cmpSplit_ne (I.type.andThen (PySem.W.looks_mroIn X hm)) (F.cmpArgs_ne _ _) (entry_neB (A := A.in1) hu X I hs hf (wpAny_mono h (fun v s' z => ⟨z.1, wpAny_pure ⟨_, rfl, z.2⟩⟩) fun _ _ e => e))))))
  simp only [richCompare, cmpInfo_NotEq, oneThing_ref]
  refine wpAny_holding (wpAny_bind (wpAny_cRoomFor hu0 ?_))
  refine wpAny_bind (I.type.here (wpAny_bind (J.type.here ?_)))
  rw [if_neg (by simp)]
  refine wpAny_bind (wpAny_pure ?_)
  simp only [Bool.false_eq_true, if_false]
  refine wpAny_bind (wpAny_mono one (fun r s' z => ?_) fun _ _ e => e)
  obtain ⟨v, rfl, hq⟩ := z
  exact wpAny_pure hq
end
/-- o != o2, both of the class at C -/
theorem c_neOO (Cc : Cxt X (k + 1) W) (M : MethOk X.prog X.w X.K X.mg X.base k C "__eq__" ps (spEqB R)) (hn : PySem.W.findIn X.K (.ref C) "__ne__" = some (some (.builtin "object.__ne__"))) (hm : PySem.W.mroIn X.K C (.type "object") = some true)
    (ha : H a = some (.ins C dx fs)) (hb2 : H a2 = some (.ins C dy gs)) (hR : R (.ref a) (.ref a2) b H) (q : ∀ H', But [] H H' → Q (.bl (!b)) H') : oW X (compareOp .NotEq) (.ref a) (.ref a2) H Q := by
  obtain ⟨f, fd, hmm, F, hb⟩ := M.ex
  refine ⟨fun pins s σ u v I rx ry => ?_⟩
  obtain rfl : u = Value.ref a := rx
  obtain rfl : v = Value.ref a2 := ry
  obtain ⟨mA, J, _⟩ := ins_get I.hok ha
  obtain ⟨mB, J', _⟩ := ins_get I.hok hb2
  obtain ⟨od, J, _⟩ := J.look
  obtain ⟨od', J', _⟩ := J'.look
  have sb : Sub X (k + 1) X.A := ⟨Cc.room, rfl⟩
  have s1 : Sub X k X.A.in1 := sb.in1
  exact cmp_objNeB (f := f) (by have := s1.room.units0; exact this) I.kIn J J' hn hm hmm.at_ hmm.fn (wpAny_mono (run_eqB (x := .ref a) (y := .ref a2) Cc.tk F hb s1.room s1.fr I rfl rfl hR) (fun r s' ⟨er, H', I', e⟩ => ⟨er, .bl (!b), H', I', rfl, q H' e⟩) fun _ _ e => e)
/-! ### repr of an instance -/
/-- a method that wants that no guard of repr stands -/
structure MethG (P : Program) (w : World) (K : PySem.W.Frag) (mg : Str → Option Value) (base : Heap) (k : Nat) (C : Addr) (m : Str) (ps : List Str) (sp : Sp) : Prop where
  ex : ∃ f fd, Meth K C m f ∧ GFn P w K mg base k f fd ps sp ∧ Binds K fd ps []
theorem call_reprI {sp : Sp} (Cc : Cxt X (k + 1) W) (g : Gd X) (M : MethG X.prog X.w X.K X.mg X.base k C "__repr__" ps sp) : CallR X (.builtin "repr") (fun xs H Q => ∃ (a dx : Addr) (fs : List (Str × V)), xs = [.ref a] ∧ H a = some (.ins C dx fs) ∧ sp [.ref a] H (fun v H' => ∃ z : Str, v = .str z ∧ Q v H') fun _ _ _ => False) := by
  obtain ⟨f, fd, hmm, F, hb⟩ := M.ex
  intro pins s σ H xs us Q I r h
  obtain ⟨a, dx, fs, rfl, ha, hsp⟩ := h
  obtain ⟨u, rfl, r1⟩ := vals1 r
  obtain rfl : u = Value.ref a := r1
  obtain ⟨mA, J, _⟩ := ins_get I.hok ha
  obtain ⟨od, J, _⟩ := J.look
  obtain ⟨m, hF⟩ := I.fr
  have sb : Sub X (k + 1) X.A := ⟨Cc.room, rfl⟩
  have s1 : Sub X k X.A.in1 := sb.in1
  refine PySem.W.repr_K s1.room.units0 hF I.ok.mod.kin J hmm.at_ hmm.fn ?_
  have e0 : Env0 X.prog X.w X.K X.mg X.base X.A.in1 X.stack s H := by
    have e := I.env0
    exact ⟨by rw [s1.fr]; exact e.frames, e.mod, e.bs, e.bsz, e.funs, e.frf, e.hok, e.bare⟩
  have hl := F.len _ _ _ _ hsp
  refine wpAny_call (codeAny_mono (F.run X.A.in1 X.stack s H ⟨[.ref a], []⟩ [.ref a] [.ref a] _ _ s1.room g e0 (by
    have := hb s [.ref a] I.kIn (by simpa using hl)
    simpa using this) (.cons rfl .nil) hsp) fun r s' hq => ?_)
  cases r with
  | error e => exact passes0 Cc.tk pins σ H s e s' I hq
  | ok fl =>
    cases fl with
    | ret w =>
      obtain ⟨z, H', I', rz, y, ez, q⟩ := I.after hq
      subst ez
      obtain ⟨t, rfl⟩ := rz
      exact ⟨.str y, H', I', ⟨t, rfl⟩, q⟩
    | next => exact False.elim hq
    | brk => exact False.elim hq
    | cont => exact False.elim hq
end
end Z

set_option Elab.async false
set_option linter.all false
set_option maxRecDepth 100000
set_option maxHeartbeats 4000000
/-! instances called; their repr; f-strings -/
namespace Z
open PySem PySem.Spec PyProof.Rows L2
section
variable {M : Model} {A : Around} {E : Value → Shared → Prop} {s : Shared} {a : Addr} {pos : Pos} {Q : Value → Shared → Prop}
theorem callK_of {args : List (Bool × Sem Value)} {kws : List (Option Str × Sem Value)} (hplain : (args.any (·.1) || kws.any (·.1.isNone)) = false)
    (h : wpAny M A (evalArgs (.ref a) true args kws) (fun z s₁ => (∃ C ox od, PySem.W.InstAt s₁.heap a ox C od ∧ ox.data = .plain) ∧ wpAny M A (call (.ref a) ([] ++ z.pos) z.kw) Q E s₁) E s) : wpAny M A (callWith pos (.ref a) [] args kws) Q E s := by
  unfold callWith
  refine wpAny_bind (wpAny_holding (wpAny_mono h (fun z s₁ h₁ => wpAny_bind (wpAny_standAt ?_)) fun _ _ y => y))
  obtain ⟨⟨C, ox, od, J, hd⟩, h₁⟩ := h₁
  have L := PySem.W.kco_keeper (M := M) J hd
  simp only [hplain]
  refine wpAny_bind (L.here ?_)
  have tail : ∀ {t : Sem Value}, wpAny M A t Q E s₁ → wpAny M A (t >>= fun r => holding [r] point >>= fun _ => pure r) Q E s₁ :=
    fun ht => wpAny_bind (wpAny_mono ht (fun r s₂ hr => wpAny_bind (wpAny_holding (wpAny_point (wpAny_pure hr)))) fun _ _ y => y)
  exact tail (wpAny_operateT h₁)
end
/-- instances of the class at C may be called with one argument, named pn -/
structure CallOk (P : Program) (w : World) (K : PySem.W.Frag) (mg : Str → Option Value) (base : Heap) (k : Nat) (C : Addr) (pn : Str) (sp : Sp) : Prop where
  ex : ∃ g fd, StX.CallO K C g ∧ FnOk P w K mg base (L2.CX P w) k g fd ["self", pn] sp ∧ (∀ s a u, BindsTo s fd ⟨[a, u], []⟩ ((["self", pn] : List Str).zip [a, u])) ∧ ∀ s a u, BindsTo s fd ⟨[a], [(pn, u)]⟩ ((["self", pn] : List Str).zip [a, u])
section
variable {X : Cx} {k : Nat} {W : WX} {σ : L2.St} {H : Hp} {Q : VK} {C : Addr} {sp : Sp} {fe e : Expr} {pos : Pos} {pn : Str}
theorem run_inst {pins : List (Addr × Obj)} {s : Shared} {a g dx : Addr} {fs : List (Str × V)} {fd : FuncData} {us : List Value} {kw : List (Str × Value)} {v : V} {u : Value} (Cc : Cxt X k W) (c : StX.CallO X.K C g) (F : FnOk X.prog X.w X.K X.mg X.base (L2.CX X.prog X.w) k g fd ["self", pn] sp)
    (hb : BindsTo s fd ⟨.ref a :: us, kw⟩ ((["self", pn] : List Str).zip [.ref a, u])) (I : Inv X pins σ H s) (hi : H a = some (.ins C dx fs)) (r : RelV v u) (h : sp [.ref a, v] H Q fun cls d H' => W cls d σ H') : wpAny (model X.prog X.w) X.A (call (.ref a) us kw) (EP X pins σ Q) X.xe s := by
  obtain ⟨mA, O, _⟩ := ins_get I.hok hi
  obtain ⟨od, J, _⟩ := O.look
  refine wpAny_call (PySem.W.kco_code I.kIn J rfl c.at_ c.fn c.fi (codeAny_mono (F.run X.A X.stack s H ⟨.ref a :: us, kw⟩ [.ref a, u] [.ref a, v] Q _ Cc.room I.env0 hb (.cons rfl (.cons r .nil)) h) fun r s' hq => ?_))
  cases r with
  | error e => exact Cc.tk e s' (XE.of_call I (fun _ _ _ z => z) hq)
  | ok fl =>
    cases fl with
    | ret w => exact I.after hq
    | next => exact False.elim hq
    | brk => exact False.elim hq
    | cont => exact False.elim hq
/-- o(e) -/
theorem e_inst (Cc : Cxt X k W) (M : CallOk X.prog X.w X.K X.mg X.base k C pn sp) (h : wE X fe σ H fun y H1 => ∃ a, y = .ref a ∧ wE X e σ H1 fun v H2 => (∃ dx fs, H2 a = some (.ins C dx fs)) ∧ sp [.ref a, v] H2 Q fun cls d H' => W cls d σ H')
    (ht : eval (.Call fe [e] [] pos) X.env = (do callWith pos (← eval fe X.env) [] (backTo pos (starEach [e] X.env)) (backToKw pos (keywordEach [] X.env))) := by rfl)
    (he : starEach [e] X.env = (false, eval e X.env) :: starEach [] X.env := by rfl) (hpl : (backTo pos (starEach [] X.env)).any (·.1) = false := by rfl) : wE X (.Call fe [e] [] pos) σ H Q := by
  obtain ⟨g, fd, c, F, b1, b2⟩ := M.ex
  refine ⟨fun pins s I => ?_⟩
  refine Call_ (thn (h.run pins s I) fun u s1 ⟨y, H1, I1, ry, a, ey, q⟩ => ?_) ht
  subst ey
  obtain rfl : u = Value.ref a := ry
  have hA : wA X [e] σ H1 fun vs H2 => ∃ v, vs = [v] ∧ (∃ dx fs, H2 a = some (.ins C dx fs)) ∧ sp [.ref a, v] H2 Q fun cls d H' => W cls d σ H' := a_cons (wE_mono q fun v H2 q2 => a_nil ⟨v, rfl, q2⟩) he
  refine StX.callO_with (thn (hA.run pos pins s1 I1) fun us s2 ⟨vs, H2, I2, r, v, ev, ⟨dx, fs, hi⟩, q2⟩ => ?_) he hpl
  subst ev
  obtain ⟨u, rfl, ru⟩ := vals1 r
  obtain ⟨mA, O, _⟩ := ins_get I2.hok hi
  obtain ⟨od, J, _⟩ := O.look
  refine ⟨⟨C, _, od, J, rfl⟩, ?_⟩
  exact run_inst Cc c F (b1 _ _ _) I2 hi ru q2
/-- o(pn = e) -/
theorem e_instK {p : Pos} (Cc : Cxt X k W) (M : CallOk X.prog X.w X.K X.mg X.base k C pn sp) (h : wE X fe σ H fun y H1 => ∃ a, y = .ref a ∧ wE X e σ H1 fun v H2 => (∃ dx fs, H2 a = some (.ins C dx fs)) ∧ sp [.ref a, v] H2 Q fun cls d H' => W cls d σ H')
    (ht : eval (.Call fe [] [⟨some pn, e, p⟩] pos) X.env = (do callWith pos (← eval fe X.env) [] (backTo pos (starEach [] X.env)) (backToKw pos (keywordEach [⟨some pn, e, p⟩] X.env))) := by rfl)
    (hall : (backToKw pos (keywordEach [⟨some pn, e, p⟩] X.env)).all (·.1.isSome) = true := by rfl) (hks : (backToKw pos (keywordEach [⟨some pn, e, p⟩] X.env)).filterMap (·.1) = [pn] := by rfl)
    (hpl : ((backTo pos (starEach [] X.env)).any (·.1) || (backToKw pos (keywordEach [⟨some pn, e, p⟩] X.env)).any (·.1.isNone)) = false := by rfl) : wE X (.Call fe [] [⟨some pn, e, p⟩] pos) σ H Q := by
  obtain ⟨g, fd, c, F, b1, b2⟩ := M.ex
  refine ⟨fun pins s I => ?_⟩
  rw [ht]
  refine wpAny_bind (thn (h.run pins s I) fun u s1 ⟨y, H1, I1, ry, a, ey, q⟩ => ?_)
  subst ey
  obtain rfl : u = Value.ref a := ry
  have hK : wK X [⟨some pn, e, p⟩] σ H1 fun vs H2 => ∃ v, vs = [v] ∧ (∃ dx fs, H2 a = some (.ins C dx fs)) ∧ sp [.ref a, v] H2 Q fun cls d H' => W cls d σ H' := k_cons (wE_mono q fun v H2 q2 => k_nil ⟨v, rfl, q2⟩)
  refine callK_of hpl (evalArgs_kw2_nil hall (thn (hK.run pos pins s1 I1) fun us s2 ⟨vs, H2, I2, r, v, ev, ⟨dx, fs, hi⟩, q2⟩ => ?_))
  subst ev
  obtain ⟨u, rfl, ru⟩ := vals1 r
  obtain ⟨mA, O, _⟩ := ins_get I2.hok hi
  obtain ⟨od, J, _⟩ := O.look
  refine ⟨⟨C, _, od, J, rfl⟩, ?_⟩
  rw [hks]
  exact run_inst (us := []) Cc c F (b2 _ _ _) I2 hi ru q2
/-- repr(o) -/
theorem e_reprI {sp : Sp} {ps : List Str} {p : Pos} (Cc : Cxt X (k + 1) W) (g : Gd X) (M : MethG X.prog X.w X.K X.mg X.base k C "__repr__" ps sp) (h : wE X e σ H fun v H1 => ∃ (a dx : Addr) (fs : List (Str × V)), v = .ref a ∧ H1 a = some (.ins C dx fs) ∧ sp [.ref a] H1 (fun v H' => ∃ z : Str, v = .str z ∧ Q v H') fun _ _ _ => False)
    (hgl : Gl X "repr" := by rfl) (hs : starEach [e] X.env = [(false, eval e X.env)] := by rfl) : wE X (.Call (.Name "repr" p) [e] [] pos) σ H Q :=
  e_B (id := "repr") (a_cons (wE_mono h fun x H1 ⟨a, dx, fs, e1, h1, h2⟩ => a_nil (cW_of (call_reprI Cc g M) ⟨a, dx, fs, by rw [e1], h1, h2⟩)) hs) Cc.blt.repr PyProof.Rows.boot_repr hgl (by decide) (by decide) hs rfl
/-- {x!r}, x a text -/
theorem e_fmtRS (h : wE X e σ H fun x H1 => ∃ y : Str, x = .str y ∧ (reprText y).length ≤ sizeLine ∧ Q (.str (reprText y)) H1) : wE X (.FormattedValue e 114 none pos) σ H Q :=
  eE (pe_fmtR pE) (wE_mono h fun x H1 h => .inl h)
/-- f'..', parts one behind the other -/
def wJ (X : Cx) (es : List Expr) (acc : Str) (σ : L2.St) (H : Hp) (Q : VK) : Prop := match es with
  | [] => Q (.str acc) H
  | e :: es => wE X e σ H fun x H1 => ∃ y : Str, x = .str y ∧ (acc ++ y).length ≤ sizeLine ∧ wJ X es (acc ++ y) σ H1 Q
theorem tJs_of : ∀ (es : List Expr) (acc : Str) (H : Hp), wJ X es acc σ H Q → tJs (es.map (wE X)) acc σ H (fun out H1 => Q (.str out) H1)
  | [], _, _, h => h
  | e :: es, acc, H, h => wE_mono h fun x H1 ⟨y, e1, h1, h2⟩ => ⟨y, e1, h1, tJs_of es _ _ h2⟩
theorem pj_all : ∀ es : List Expr, PJ X es (es.map (wE X))
  | [] => .nil
  | e :: es => .cons pE (pj_all es)
theorem e_joined {v1 v2 : Expr} {rest : List Expr} (h : wJ X (v1 :: v2 :: rest) Str.empty σ H Q) : wE X (.JoinedStr (v1 :: v2 :: rest) pos) σ H Q := eE (pe_joined (pj_all (v1 :: v2 :: rest))) (tJs_of _ _ _ h)
end
end Z

set_option Elab.async false
set_option linter.all false
set_option maxRecDepth 100000
set_option maxHeartbeats 4000000
/-! plain: what can be shown, in general -/
namespace Z
open PySem PySem.Spec PyProof.Rows L2
theorem depthAllZ {b : Nat} : ∀ {ds : List PyData}, (∀ d ∈ ds, PyData.depth d ≤ b) → PyData.depthAll ds ≤ b
  | [], _ => by simp [PyData.depthAll]
  | d :: ds, h => by
    have h2 := depthAllZ (ds := ds) fun x hx => h x (List.mem_cons_of_mem _ hx)
    have h1 := h d (by simp)
    simp only [PyData.depthAll]
    omega
theorem weightAllZ {b : Nat} : ∀ {ds : List PyData}, (∀ d ∈ ds, PyData.weight d ≤ b) → PyData.weightAll ds ≤ ds.length * (b + 1)
  | [], _ => by simp [PyData.weightAll]
  | d :: ds, h => by
    have h2 := weightAllZ (ds := ds) fun x hx => h x (List.mem_cons_of_mem _ hx)
    have h1 := h d (by simp)
    simp only [PyData.weightAll, List.length_cons, Nat.add_mul]
    omega
theorem showAllZ : ∀ {ds : List PyData}, (∀ d ∈ ds, PyData.showable d = true) → PyData.showableAll ds = true
  | [], _ => rfl
  | d :: ds, h => by
    have h2 := showAllZ (ds := ds) fun x hx => h x (List.mem_cons_of_mem _ hx)
    simp only [PyData.showableAll, h d (by simp), h2, Bool.and_self]
theorem leavesAllZ : ∀ {ds : List PyData}, (∀ d ∈ ds, PyData.leavesShort 40 d = true) → PyData.leavesShortAll 40 ds = true
  | [], _ => rfl
  | d :: ds, h => by
    have h2 := leavesAllZ (ds := ds) fun x hx => h x (List.mem_cons_of_mem _ hx)
    simp only [PyData.leavesShortAll, h d (by simp), h2, Bool.and_self]
/-- it can be shown: its depth, its weight -/
structure ShwZ (n w : Nat) (d : PyData) : Prop where
  s : d.showable = true
  l : d.leavesShort 40 = true
  dep : d.depth ≤ n
  w : d.weight ≤ w
theorem ShwZ.mono {n m w v : Nat} {d : PyData} (h : ShwZ n w d) (a : n ≤ m) (b : w ≤ v) : ShwZ m v d := ⟨h.s, h.l, Nat.le_trans h.dep a, Nat.le_trans h.w b⟩
theorem ShwZ.list {n w : Nat} {ds : List PyData} (L : Nat) (h : ∀ d ∈ ds, ShwZ n w d) (hl : ds.length ≤ L) : ShwZ (n + 1) (L * (w + 1)) (.list ds) := by
  have e1 := showAllZ fun d hd => (h d hd).s
  have e2 := leavesAllZ fun d hd => (h d hd).l
  have e3 := depthAllZ fun d hd => (h d hd).dep
  have e4 := weightAllZ fun d hd => (h d hd).w
  have e5 : ds.length * (w + 1) ≤ L * (w + 1) := Nat.mul_le_mul_right _ hl
  exact ⟨by simp only [PyData.showable, e1], by simp only [PyData.leavesShort, e2], by simp only [PyData.depth]; omega, by simp only [PyData.weight]; omega⟩
theorem ShwZ.rp {n w : Nat} {d : PyData} (h : ShwZ n w d) (hn : n ≤ 64) (hw : w ≤ 300000) : rp d = true := by
  have e1 := h.dep
  have e2 := h.w
  rw [Z.rp, h.s, h.l, decide_eq_true (show d.depth ≤ 64 by omega), decide_eq_true (show d.weight ≤ 300000 by omega)]
  rfl
theorem ShwZ.none {n w : Nat} : ShwZ n w .none := ⟨by simp only [PyData.showable], by simp only [PyData.leavesShort], by simp only [PyData.depth]; omega, by simp only [PyData.weight]; omega⟩
end Z

set_option Elab.async false
set_option linter.all false
set_option maxRecDepth 100000
set_option maxHeartbeats 4000000
/-! plain: what can be compared -/
namespace Z
open PySem PySem.Spec PyProof.Rows L2 TL
theorem layAllZ : ∀ {ds : List PyData}, (∀ d ∈ ds, PyData.canLay0 d = true) → PyData.canLayAll0 ds = true
  | [], _ => rfl
  | d :: ds, h => by
    have h2 := layAllZ (ds := ds) fun x hx => h x (List.mem_cons_of_mem _ hx)
    simp only [PyData.canLayAll0, h d (by simp), h2, Bool.and_self]
theorem noDictZ : ∀ {ds : List PyData}, (∀ d ∈ ds, PyData.hasDict d = false) → PyData.hasDictAll ds = false
  | [], _ => rfl
  | d :: ds, h => by
    have h2 := noDictZ (ds := ds) fun x hx => h x (List.mem_cons_of_mem _ hx)
    simp only [PyData.hasDictAll, h d (by simp), h2, Bool.or_self]
/-- good to be compared -/
structure CmpZ (n : Nat) (d : PyData) : Prop where
  lay : PyData.canLay0 d = true
  dep : d.depth ≤ n
  nod : d.hasDict = false
theorem CmpZ.mono {n m : Nat} {d : PyData} (h : CmpZ n d) (a : n ≤ m) : CmpZ m d := ⟨h.lay, Nat.le_trans h.dep a, h.nod⟩
theorem CmpZ.list {n : Nat} {ds : List PyData} (h : ∀ d ∈ ds, CmpZ n d) : CmpZ (n + 1) (.list ds) := by
  have e1 := layAllZ fun d hd => (h d hd).lay
  have e2 := depthAllZ fun d hd => (h d hd).dep
  have e3 := noDictZ fun d hd => (h d hd).nod
  exact ⟨by simp only [PyData.canLay0, e1], by simp only [PyData.depth]; omega, by simp only [PyData.hasDict, e3]⟩
theorem CmpZ.tuple {n : Nat} {ds : List PyData} (h : ∀ d ∈ ds, CmpZ n d) : CmpZ (n + 1) (.tuple ds) := by
  have e1 := layAllZ fun d hd => (h d hd).lay
  have e2 := depthAllZ fun d hd => (h d hd).dep
  have e3 := noDictZ fun d hd => (h d hd).nod
  exact ⟨by simp only [PyData.canLay0, e1], by simp only [PyData.depth]; omega, by simp only [PyData.hasDict, e3]⟩
theorem CmpZ.str {x : Str} (h : ∀ c ∈ x.cps.toList, c < 128) : CmpZ 0 (.str x) := ⟨by simp only [PyData.canLay0, strOk_ascii h], by simp only [PyData.depth]; omega, by simp only [PyData.hasDict]⟩
theorem CmpZ.int {i : Int} : CmpZ 0 (.int i) := ⟨by simp only [PyData.canLay0], by simp only [PyData.depth]; omega, by simp only [PyData.hasDict]⟩
theorem CmpZ.none : CmpZ 0 .none := ⟨by simp only [PyData.canLay0], by simp only [PyData.depth]; omega, by simp only [PyData.hasDict]⟩
theorem CmpZ.shaped {n : Nat} {d : PyData} (h : CmpZ n d) (hn : n ≤ 64) : SeqAt.shaped d = true := by
  have := h.dep
  rw [SeqAt.shaped, h.lay, decide_eq_true (by omega)]
  rfl
theorem CmpZ.same {n : Nat} {d : PyData} (h : CmpZ n d) : PyData.eqv d d = true := eqv_same h.nod
end Z

set_option Elab.async false
set_option linter.all false
set_option maxRecDepth 100000
set_option maxHeartbeats 4000000
namespace K21
open PySem PySem.Spec PyProof.Rows L2 Z
/-! ### lists, signs, lines -/
section
variable {P : Program} {w : World} {K : PySem.W.Frag} {mg : Str → Option Value} {base : Heap}
def isSeq (d : PyData) : Bool := Z.isList d || Z.isTuple d
theorem scIl : FnScope ["value"] ["value"] (defScope (top 14)) := ⟨rfl, rfl, rfl, by decide +kernel, rfl, by decide +kernel, by decide +kernel⟩
theorem d_isList (B : Blt mg base) (D : At K mg "is_list" (top 14)) : Def P w K mg base 1 "is_list" (top 14) ["value"] (sp1 K isSeq) := by
  refine def_of D B scIl sp1_len fun f cdv A outer s H vs Q E hm C h => ?_
  obtain ⟨v, l, d, rfl, hd, hf, q⟩ := h
  refine b_cons (s_ret (e_isi2 B kit_list kit_tuple B.list PyProof.Rows.boot_list B.tuple PyProof.Rows.boot_tuple (e_name 0 ⟨l, d, hd, fun H' b => ?_⟩)))
  exact q H' b
/-- want_signs, where they are signs -/
def spFine (K : PySem.W.Frag) (f : PyData → Bool) : Sp := fun vs H Q _ => ∃ v l d, vs = [v] ∧ DD K l H v d ∧ fits d ∧ f d = true ∧ ∀ H', But [] H H' → Q .non H'
theorem scWs : FnScope ["value"] ["value"] (defScope (top 16)) := ⟨rfl, rfl, rfl, by decide +kernel, rfl, by decide +kernel, by decide +kernel⟩
theorem d_fineSigns (B : Blt mg base) (D : At K mg "want_signs" (top 16)) (D1 : Def P w K mg base 1 "are_signs" (top 15) ["value"] (sp1 K areSigns)) :
    Def P w K mg base 2 "want_signs" (top 16) ["value"] (spFine K areSigns) := by
  refine def_of D B scWs (fun vs H Q E ⟨v, l, d, e, _⟩ => by rw [e]; rfl) fun f cdv A outer s H vs Q E hm C h => ?_
  obtain ⟨v, l, d, rfl, hd, hf, e1, q⟩ := h
  refine b_cons (s_ifB false ?_ (fun e => by cases e) (fun _ H1 b1 => b_nil (b_nil (q H1 b1))))
  refine t_not (t_val (e_call C D1 (a_cons (e_name 0 (a_nil ?_))) rfl (fun _ _ _ _ _ _ us hl => match us, hl with | [_], _ => rfl)))
  exact ⟨v, l, d, rfl, hd, hf, fun H' b => ⟨_, rfl, by rw [e1]; rfl, b⟩⟩
theorem flat_strs (ys : List Str) : (ys.map V.str).all flatV = true := List.all_eq_true.mpr fun x hx => by
  obtain ⟨y, _, rfl⟩ := List.mem_map.mp hx
  rfl
def spWantLine (K : PySem.W.Frag) : Sp := fun vs H Q _ => ∃ g x : Str, vs = [.str g, .str x] ∧ isLine g (.str x) = true ∧ x.length ≤ 1000000 ∧ ∀ H', But [] H H' → Q .non H'
theorem scWl : FnScope ["signs", "line"] ["signs", "line"] (defScope (top 18)) := ⟨rfl, rfl, rfl, by decide +kernel, rfl, by decide +kernel, by decide +kernel⟩
theorem d_wantLine (B : Blt mg base) (D : At K mg "want_line" (top 18)) (D1 : Def P w K mg base 1 "is_line" (top 17) ["signs", "value"] (spLine K)) : Def P w K mg base 2 "want_line" (top 18) ["signs", "line"] (spWantLine K) := by
  refine def_of D B scWl (fun vs H Q E ⟨_, _, e, _⟩ => by rw [e]; rfl) fun f cdv A outer s H vs Q E hm C h => ?_
  obtain ⟨g, x, rfl, hx, hxl, hQ⟩ := h
  refine b_cons (s_ifB false ?_ (fun e => by cases e) (fun _ H1 b1 => b_nil (b_nil (hQ H1 b1))))
  refine t_not (t_val (e_call C D1 (a_cons (e_name 0 (a_cons (e_name 1 (a_nil ?_))))) rfl (fun _ _ _ _ _ _ us hl => match us, hl with | [_, _], _ => rfl)))
  exact ⟨g, _, [], .str x, rfl, .str x, by show x.length ≤ _; rw [sizeLine_eq]; omega, fun H' b => ⟨_, rfl, by rw [hx]; rfl, b⟩⟩
end
end K21

set_option Elab.async false
set_option linter.all false
set_option maxRecDepth 100000
set_option maxHeartbeats 4000000
namespace K21
open PySem PySem.Spec PyProof.Rows L2 Z
/-! ### rules -/
structure Rule where
  fr : Bool
  old : Str
  new : Str
  deriving DecidableEq
def kd (b : Bool) : Str := if b = true then "front" else "whole"
def ruleD (r : Rule) : PyData := .tuple [.str (kd r.fr), .str r.old, .str r.new]
structure okRule (g : Str) (r : Rule) : Prop where
  o : isLine g (.str r.old) = true
  n : isLine g (.str r.new) = true
  ol : r.old.length ≤ 40
  nl : r.new.length ≤ 40
structure Consts4 (mg : Str → Option Value) : Prop where
  fr : ∃ u, mg "FRONT" = some u ∧ RelV (.str "front") u
  wh : ∃ u, mg "WHOLE" = some u ∧ RelV (.str "whole") u
  ml : ∃ u, mg "MOST_IN_LINE" = some u ∧ RelV (.int 40) u
  mr : ∃ u, mg "MOST_RULES" = some u ∧ RelV (.int 400) u
theorem dd_rule {K : PySem.W.Frag} {l : List Addr} {H : Hp} {v : V} {r : Rule} (h : DD K l H v (ruleD r)) : ∃ t, v = .ref t ∧ t ∉ l ∧ SqT K H t [.str (kd r.fr), .str r.old, .str r.new] := by
  unfold ruleD at h
  cases h with
  | tup h1 n h2 =>
    cases h2 with
    | cons a h2 =>
      cases h2 with
      | cons b h2 =>
        cases h2 with
        | cons c h2 =>
          cases h2
          cases a
          cases b
          cases c
          exact ⟨_, rfl, n, h1⟩
section
variable {P : Program} {w : World} {K : PySem.W.Frag} {mg : Str → Option Value} {base : Heap}
def spRuleOk (K : PySem.W.Frag) : Sp := fun vs H Q _ => ∃ g v l r, vs = [.str g, v] ∧ DD K l H v (ruleD r) ∧ okRule g r ∧ ∀ H', But [] H H' → Q (.bl true) H'
theorem scRu : FnScope ["signs", "value", "line"] ["signs", "value"] (defScope (top 37)) := ⟨rfl, rfl, rfl, by decide +kernel, rfl, by decide +kernel, by decide +kernel⟩
theorem d_isRule (B : Blt mg base) (D : At K mg "is_rule" (top 37)) (T : Consts4 mg) (D1 : Def P w K mg base 1 "is_line" (top 17) ["signs", "value"] (spLine K)) : Def P w K mg base 2 "is_rule" (top 37) ["signs", "value"] (spRuleOk K) := by
  refine def_of D B scRu (fun vs H Q E ⟨_, _, _, _, e, _⟩ => by rw [e]; rfl) fun f cdv A outer s H vs Q E hm C h => ?_
  obtain ⟨g, v, l, r, rfl, hd, ok, hQ⟩ := h
  obtain ⟨t, rfl, nt, ht⟩ := dd_rule hd
  obtain ⟨u1, hu1, ru1⟩ := T.fr
  obtain ⟨u2, hu2, ru2⟩ := T.wh
  obtain ⟨u3, hu3, ru3⟩ := T.ml
  have two : ∀ n, n ≤ 16777216 → n ≤ sizeLine := fun n h => by rw [sizeLine_eq]; exact h
  refine b_cons (s_ifB false ?_ (fun e => by cases e) (fun _ H1 b1 => b_nil ?_))
  · refine t_boolop (w_or (t_not (t_val (e_isi B kit_tuple B.tuple PyProof.Rows.boot_tuple (e_name 1 (v := .ref t) ⟨l, ruleD r, hd, true, rfl, ite_b (fun e => by cases e) fun _ => ?_⟩)))))
    refine w_or (t_cmp (e_len B (e_name 1 (v := .ref t) ⟨3, .inr ⟨_, ht, rfl⟩, e_int (c_ne rfl ⟨false, rfl, ite_b (fun e => by cases e) fun _ => ?_⟩)⟩)))
    refine w_or1 (t_cmp (e_ix (e_name 1 (v := .ref t) (e_int (ix_t ht (v := .str (kd r.fr)) rfl (e_tup (a_cons (e_glob (v := .str "front") (a_cons (e_glob (v := .str "whole") (a_nil ⟨two 2 (by decide), fun q hq => ?_⟩) hu2 ru2)) hu1 ru1))))))))
    exact c_notInL (.inr (.inl (.inl upd_same))) rfl rfl ⟨false, by (cases r.fr <;> rfl), rfl, But.new hq⟩
  have ht1 := b1.sqt (by simp) ht
  refine b_cons (s_ret (e_all C (e_lcM [("line", 2)] C (i_tup (e_slice sl_tup (e_name 1 (v := .ref t) (p_some (e_int ⟨1, rfl, p_none ⟨t, _, rfl, ht1, (fun z => absurd z.1 (show ¬ (HT.sIx 3 0 (some 1) = 0) by decide)), fun q hq => ?_⟩⟩))))))))
  have bq : But [] H1 (upd H1 q (.tup [.str r.old, .str r.new])) := But.new hq
  have hq2 : upd H1 q (.tup [.str r.old, .str r.new]) q = some (.tup [.str r.old, .str r.new]) := upd_same
  show ∃ a, V.ref q = .ref a ∧ (∃ xs, SqT K (upd H1 q (.tup [.str r.old, .str r.new])) a xs) ∧ _
  refine ⟨q, rfl, ⟨_, .inl (.inl hq2)⟩, 2, _, _, [.bl true, .bl true], walk_tup (xs := [.str r.old, .str r.new]), rfl, two 2 (by decide), fun H' b => .inl (.inl (b _ _ (by simp) hq2)), fun i x H2 H' hi b2 hx => ?_, fun D H' b hD hD2 => ⟨D, [true, true], rfl, .inl (.inl hD2), ?_⟩⟩
  · obtain ⟨rfl, hx⟩ := hx
    obtain ⟨y, rfl, hy, hyl⟩ : ∃ y : Str, x = .str y ∧ isLine g (.str y) = true ∧ y.length ≤ 40 := by
      match i, hi with
      | 0, _ => cases hx; exact ⟨_, rfl, ok.o, ok.ol⟩
      | 1, _ => cases hx; exact ⟨_, rfl, ok.n, ok.nl⟩
    refine ⟨But.refl, mt_name (i := 2) C.nd fun s H0 Ca cl fp => ?_⟩
    refine e_and (e_call (C.blk _ _ _ _ _) D1 (a_cons (e_name 0 (v := .str g) (a_cons (e_name 2 (v := .str y) (a_nil ?_))))) rfl (fun _ _ _ _ _ _ us hl => match us, hl with | [_, _], _ => rfl))
    refine ⟨g, _, [], .str y, rfl, .str y, by show y.length ≤ _; exact two _ (by omega), fun H4 b4 => ⟨_, rfl, ite_b (fun _ => ?_) fun e => by rw [hy] at e; cases e⟩⟩
    refine e_one (e_cmp (e_len B (e_name 2 (v := .str y) ⟨y.length, ⟨two _ (by omega), rfl⟩, e_glob (v := .int 40) (c_le ⟨?_, b4⟩) hu3 ru3⟩)))
    rw [decide_eq_true (by omega)]
    match i, hi with
    | 0, _ => rfl
    | 1, _ => rfl
  · exact hQ H' (b1.trans (bq.trans b))
def rulesD (rs : List Rule) : List PyData := rs.map ruleD
def spRulesOk (K : PySem.W.Frag) : Sp := fun vs H Q _ => ∃ (g : Str) (v : V) (l : List Addr) (d : PyData) (rs : List Rule), vs = [.str g, v] ∧ DD K l H v d ∧ seqB d = true ∧ items d = rulesD rs ∧ (∀ r ∈ rs, okRule g r) ∧ rs.length ≤ 400 ∧ ∀ H', But [] H H' → Q .non H'
theorem scWr : FnScope ["signs", "value", "position", "rule"] ["signs", "value"] (defScope (top 38)) := ⟨rfl, rfl, rfl, by decide +kernel, rfl, by decide +kernel, by decide +kernel⟩
theorem seq_len {K : PySem.W.Frag} {l : List Addr} {H : Hp} {v : V} {d : PyData} (hd : DD K l H v d) (hs : seqB d = true) : LenV K v H (items d).length := by
  cases hd with
  | @lst a xs ds h1 n h2 => exact .inl ⟨xs, h1, h2.length.symm⟩
  | @tup a xs ds h1 n h2 => exact .inr ⟨xs, h1, h2.length.symm⟩
  | _ => simp [seqB, Z.isList, Z.isTuple] at hs
theorem d_wantRules (B : Blt mg base) (D : At K mg "want_rules" (top 38)) (T : Consts4 mg) (D0 : Def P w K mg base 1 "is_list" (top 14) ["value"] (sp1 K isSeq)) (D1 : Def P w K mg base 2 "is_rule" (top 37) ["signs", "value"] (spRuleOk K)) :
    Def P w K mg base 3 "want_rules" (top 38) ["signs", "value"] (spRulesOk K) := by
  refine def_of D B scWr (fun vs H Q E ⟨_, _, _, _, _, e, _⟩ => by rw [e]; rfl) fun f cdv A outer s H vs Q E hm C h => ?_
  obtain ⟨g, v, l, d, rs, rfl, hd, hs, hi, hok, hn, hQ⟩ := h
  obtain ⟨u4, hu4, ru4⟩ := T.mr
  have fd : fits d := by cases d <;> first | trivial | simp [seqB, Z.isList, Z.isTuple] at hs
  refine b_cons (s_ifB false ?_ (fun e => by cases e) (fun _ H1 b1 => b_nil ?_))
  · refine t_not (t_val (e_call (C.mono (by decide)) D0 (a_cons (e_name 1 (v := v) (a_nil ?_))) rfl (fun _ _ _ _ _ _ us hl => match us, hl with | [_], _ => rfl)))
    exact ⟨v, l, d, rfl, hd, fd, fun H' b => ⟨_, rfl, by (rw [show isSeq d = true from hs]; rfl), b⟩⟩
  have hd1 := hd.but (b1.mono (by simp))
  refine b_cons (s_for C (i_enumDD B hd1 hs (fun Q q => e_name 1 q) fun J G vs wk hG hds => ?_))
  refine ⟨_, G, _, wk, fun i σ H' => (∃ v2 v3, σ = [some (.str g), some v, v2, v3]) ∧ But [] H1 H', ⟨⟨none, none, rfl⟩, But.refl⟩, fun i σ H' _ h => hG H' (h.2.mono (by simp)), ?_, ?_⟩
  · rintro i x σ H2 H3 hi2 ⟨⟨v2, v3, rfl⟩, b2⟩ ⟨t, x1, y1, rfl, ht, rfl, e1, e2⟩
    cases e1
    obtain ⟨dx, hdx, hD⟩ := hds.get e2
    rw [hi] at hdx
    obtain ⟨r, hr, rfl⟩ : ∃ r, rs[i]? = some r ∧ ruleD r = dx := by
      have : (rs.map ruleD)[i]? = some dx := hdx
      rw [List.getElem?_map, Option.map_eq_some_iff] at this
      exact this
    have hrm := hok r (List.mem_of_getElem? hr)
    refine g_tup (gs_cons (g_name (i := 2) (gs_cons (g_name (i := 3) (gs_nil ?_) C.nd)) C.nd)) rfl (.inl (.inl upd_same))
    have b3 : But [] H1 (upd H2 t (.tup [.int (i : Nat), y1])) := b2.trans (But.new ht)
    refine b_cons (s_ifB false ?_ (fun e => by cases e) (fun _ H4 b4 => b_nil (b_nil ⟨⟨_, _, rfl⟩, b3.trans b4⟩)))
    refine t_not (t_val (e_call C D1 (a_cons (e_name 0 (v := .str g) (a_cons (e_name 3 (v := y1) (a_nil ?_))))) rfl (fun _ _ _ _ _ _ us hl => match us, hl with | [_, _], _ => rfl)))
    exact ⟨g, y1, l, r, rfl, hD.but (b3.mono (by simp)), hrm, fun H' b => ⟨_, rfl, rfl, b⟩⟩
  · rintro σ H2 ⟨⟨v2, v3, rfl⟩, b2⟩
    refine b_cons (s_ifB false ?_ (fun e => by cases e) (fun _ H3 b3 => b_nil (b_nil (hQ H3 (b1.trans (b2.trans b3))))))
    have hl := seq_len (hd1.but (b2.mono (by simp))) hs
    have e : (items d).length = rs.length := by rw [hi, rulesD, List.length_map]
    rw [e] at hl
    refine t_cmp (e_len B (e_name 1 (v := v) ⟨_, hl, e_glob (v := .int 400) (c_gt ⟨_, rfl, ?_, But.refl⟩) hu4 ru4⟩))
    rw [decide_eq_false (by omega)]
end
end K21

set_option Elab.async false
set_option linter.all false
set_option maxRecDepth 100000
set_option maxHeartbeats 4000000
namespace K21
open PySem PySem.Spec PyProof.Rows L2 Z
/-! ### plain: turning -/
def fitsR (r : Rule) (x : Str) : Bool := if r.fr = true then decide (x.cps.toList.take r.old.length = r.old.cps.toList) else decide (x = r.old)
def applyR (r : Rule) (x : Str) : Str := if r.fr = true then r.new ++ cutS x (some (r.old.length : Int)) none else r.new
def turnR (rs : List Rule) (x : Str) : Str := match rs.find? (fitsR · x) with
  | some r => applyR r x
  | none => x
structure OkR (g : Str) (rs : List Rule) : Prop where
  each : ∀ r ∈ rs, okRule g r
  sg : strSigns g = true
  few : rs.length ≤ 400
theorem find_take {α : Type} {p : α → Bool} {l : List α} {i : Nat} {x : α} (h : ∀ y ∈ l.take i, p y = false) (hx : l[i]? = some x) (hp : p x = true) : l.find? p = some x := by
  obtain ⟨hlt, e⟩ := List.getElem?_eq_some_iff.mp hx
  have e2 : l = l.take i ++ x :: l.drop (i + 1) := by rw [← e, ← List.drop_eq_getElem_cons hlt, List.take_append_drop]
  rw [e2, List.find?_append, List.find?_eq_none.mpr (fun y hy => by rw [h y hy]; simp), List.find?_cons, hp]
  rfl
theorem all_take {α : Type} {p : α → Bool} {l : List α} {i : Nat} {x : α} (h : ∀ y ∈ l.take i, p y = false) (hx : l[i]? = some x) (hp : p x = false) : ∀ y ∈ l.take (i + 1), p y = false := fun y hy => by
  rw [List.take_add_one, hx, List.mem_append] at hy
  rcases hy with hy | hy
  · exact h y hy
  · have e : y = x := by simpa using hy
    rw [e]
    exact hp
/-! ### what stays while lists change -/
theorem sqt_lists {l : List Addr} {H H' : Hp} {a : Addr} {xs : List V} (b : Ex l H H') (hl : ∀ q ∈ l, ∃ ys, H q = some (.lst ys)) (h : SqT [] H a xs) : a ∉ l := fun z => by
  obtain ⟨ys, e⟩ := hl a z
  rcases h with (h | ⟨o, h⟩) | ⟨o, its, n, h, _⟩
  · rw [e] at h; cases h
  · rw [e] at h; cases h
  · cases h
mutual
theorem dd_lists {l : List Addr} {H H' : Hp} (b : Ex l H H') (hl : ∀ q ∈ l, ∃ ys, H q = some (.lst ys)) : ∀ {v : V} {d : PyData}, DD [] [] H v d → tupOnly d = true → DD [] [] H' v d
  | _, _, .non, _ => .non
  | _, _, .bl b, _ => .bl b
  | _, _, .int i, _ => .int i
  | _, _, .str x, _ => .str x
  | _, _, .lst _ _ _, h => by simp [tupOnly] at h
  | _, _, .tup h1 n h2, h => .tup (b.sqt (sqt_lists b hl h1) h1) n (dds_lists b hl h2 (by simpa [tupOnly] using h))
  | _, _, .dct _ _ _, h => by simp [tupOnly] at h
theorem dds_lists {l : List Addr} {H H' : Hp} (b : Ex l H H') (hl : ∀ q ∈ l, ∃ ys, H q = some (.lst ys)) : ∀ {vs : List V} {ds : List PyData}, DDs [] [] H vs ds → tupOnlyAll ds = true → DDs [] [] H' vs ds
  | _, _, .nil, _ => .nil
  | _, _, .cons h r, t => by
    simp only [tupOnlyAll, Bool.and_eq_true] at t
    exact .cons (dd_lists b hl h t.1) (dds_lists b hl r t.2)
end
theorem rules_tup (rs : List Rule) : tupOnly (.tuple (rulesD rs)) = true := by
  simp only [tupOnly]
  exact tupOnlyAll_of fun d hd => by
    obtain ⟨r, _, rfl⟩ := List.mem_map.mp hd
    rfl
/-! ### relays -/
def relF (g : Str) (tq : Addr) : List (Str × V) := [("own_signs", .str g), ("own_rules", .ref tq), ("own_cells", .non)]
structure IsRelay (CR : Addr) (g : Str) (rs : List Rule) (H : Hp) (p : Addr) : Prop where
  ex : ∃ dx tq, H p = some (.ins CR dx (relF g tq)) ∧ DD [] [] H (.ref tq) (.tuple (rulesD rs))
theorem IsRelay.exL {CR : Addr} {g : Str} {rs : List Rule} {l : List Addr} {H H' : Hp} {p : Addr} (h : IsRelay CR g rs H p) (b : Ex l H H') (hl : ∀ q ∈ l, ∃ ys, H q = some (.lst ys)) : IsRelay CR g rs H' p := by
  obtain ⟨dx, tq, h1, h2⟩ := h.ex
  refine ⟨dx, tq, b _ _ (fun z => ?_) h1 (fun _ z => by cases z), dd_lists b hl h2 (rules_tup rs)⟩
  obtain ⟨ys, e⟩ := hl p z
  rw [e] at h1
  cases h1
theorem IsRelay.ext {CR : Addr} {g : Str} {rs : List Rule} {H H' : Hp} {p : Addr} (h : IsRelay CR g rs H p) (b : Ex [] H H') : IsRelay CR g rs H' p := h.exL b (by simp)
theorem IsRelay.but {CR : Addr} {g : Str} {rs : List Rule} {H H' : Hp} {p : Addr} (h : IsRelay CR g rs H p) (b : But [] H H') : IsRelay CR g rs H' p := h.ext b.ex
structure ClsP (K : PySem.W.Frag) (CR : Addr) : Prop where
  c : Cls K CR
  n1 : NoAttr K CR "own_signs"
  n2 : NoAttr K CR "own_rules"
  n3 : NoAttr K CR "own_cells"
structure MethAt (K : PySem.W.Frag) (CR : Addr) (m q : Str) (st : Stmt) : Prop where
  ex : ∃ (f : Addr) (oc doc pm cdv ct : Value) (od an : Option Addr) (osl : Array (Option Value)), Meth K CR m f ∧ K.lookup f = some ⟨oc, od, .func (PySem.W.fnOf m q (defArgs st) (defBody st) (defScope st) .none .none doc pm an cdv ct), osl⟩ ∧ PySem.W.codeIn K cdv q = true
structure PropAt (K : PySem.W.Frag) (CR : Addr) (m q : Str) (st : Stmt) : Prop where
  ex : ∃ (pr f : Addr) (oc doc pm cdv ct : Value) (od an : Option Addr) (osl : Array (Option Value)), PropOf K CR m pr f ∧ K.lookup f = some ⟨oc, od, .func (PySem.W.fnOf m q (defArgs st) (defBody st) (defScope st) .none .none doc pm an cdv ct), osl⟩ ∧ PySem.W.codeIn K cdv q = true
section
variable {P : Program} {w : World} {K : PySem.W.Frag} {mg : Str → Option Value} {base : Heap} {CR : Addr}
/-- what a value of rules is -/
structure IsRules (K : PySem.W.Frag) (rs : List Rule) (l : List Addr) (H : Hp) (v : V) : Prop where
  ex : ∃ d, DD K l H v d ∧ seqB d = true ∧ items d = rulesD rs
def spTurned (K : PySem.W.Frag) : Sp := fun vs H Q _ => ∃ (v : V) (l : List Addr) (rs : List Rule) (x : Str), vs = [v, .str x] ∧ IsRules K rs l H v ∧ (∀ r ∈ rs, r.old.length ≤ 100 ∧ r.new.length ≤ 100) ∧ x.length ≤ 100000 ∧ ∀ H', But [] H H' → Q (.str (turnR rs x)) H'
theorem scTf : FnScope ["rules", "line", "kind", "old", "new"] ["rules", "line"] (defScope (top 23)) := ⟨rfl, rfl, rfl, by decide +kernel, rfl, by decide +kernel, by decide +kernel⟩
theorem d_turned (B : Blt mg base) (D : At K mg "turned_first" (top 23)) (T : Consts4 mg) : Def P w K mg base 1 "turned_first" (top 23) ["rules", "line"] (spTurned K) := by
  refine def_of D B scTf (fun vs H Q E ⟨_, _, _, _, e, _⟩ => by rw [e]; rfl) fun f cdv A outer s H vs Q E hm C h => ?_
  obtain ⟨v, l, rs, x, rfl, hv, hlen, hx, hQ⟩ := h
  obtain ⟨d, hd, hs, hi⟩ := hv.ex
  obtain ⟨u1, hu1, ru1⟩ := T.fr
  obtain ⟨u2, hu2, ru2⟩ := T.wh
  have sz : ∀ n, n ≤ 16777216 → n ≤ sizeLine := fun n h => by rw [sizeLine_eq]; exact h
  have es : ∀ a b : Str, decide (V.str a = V.str b) = decide (a = b) := fun a b => by rw [decide_eq_decide, V.str.injEq]
  refine b_cons (s_for C (i_dd hd hs (fun Q q => e_name 0 q) fun J G vs wk hG hds => ?_))
  have hvl : vs.length = rs.length := by rw [hds.length, hi, rulesD, List.length_map]
  refine ⟨_, G, _, wk, fun i σ H' => (∃ v2 v3 v4, σ = [some v, some (.str x), v2, v3, v4]) ∧ But [] H H' ∧ ∀ r ∈ rs.take i, fitsR r x = false, ⟨⟨none, none, none, rfl⟩, But.refl, by simp⟩, fun i σ H' _ h => hG H' (h.2.1.mono (by simp)), ?_, ?_⟩
  · rintro i y σ H2 H3 hi2 ⟨⟨v2, v3, v4, rfl⟩, b2, hno⟩ ⟨rfl, hy⟩
    obtain ⟨dx, hdx, hD⟩ := hds.get hy
    rw [hi] at hdx
    obtain ⟨r, hr, rfl⟩ : ∃ r, rs[i]? = some r ∧ ruleD r = dx := by
      have : (rs.map ruleD)[i]? = some dx := hdx
      rw [List.getElem?_map, Option.map_eq_some_iff] at this
      exact this
    have hl := hlen r (List.mem_of_getElem? hr)
    obtain ⟨t, rfl, nt, ht⟩ := dd_rule (hD.but (b2.mono (by simp)))
    refine g_tup (gs_cons (g_name (i := 2) (gs_cons (g_name (i := 3) (gs_cons (g_name (i := 4) (gs_nil ?_) C.nd)) C.nd)) C.nd)) rfl ht
    have hst := starts_eq x r.old
    refine b_cons (s_ifB (r.fr && fitsR r x) ?_ (fun e H4 b4 => ?_) (fun e H4 b4 => b_nil ?_))
    · refine t_boolop (w_and (t_cmp (e_name 2 (v := .str (kd r.fr)) (e_glob (v := .str "front") (c_eq rfl ⟨r.fr, by (cases r.fr <;> rfl), ite_b (fun e => ?_) fun e => ⟨by rw [e]; rfl, But.refl⟩⟩) hu1 ru1))))
      refine w_and1 (t_val (e_starts (e_name 1 (v := .str x) ⟨x, rfl, e_name 3 (v := .str r.old) ⟨r.old, rfl, _, rfl, ?_, But.refl⟩⟩)))
      rw [hst, e, Bool.true_and, fitsR, if_pos e]
    · simp only [Bool.and_eq_true] at e
      refine b_cons (s_ret (e_bin (e_name 4 (v := .str r.new) (e_slice sl_str (e_name 1 (v := .str x) (p_some (e_len B (e_name 3 (v := .str r.old) ⟨r.old.length, ⟨sz _ (by omega), rfl⟩, r.old.length, rfl, p_none ⟨x, rfl, sz _ (by omega), ?_⟩⟩))))))))
      have := cutS_length x (some (r.old.length : Int)) none
      refine o_adds (by rw [sizeLine_eq]; omega) ?_
      have et : turnR rs x = r.new ++ cutS x (some (r.old.length : Int)) none := by
        unfold turnR
        rw [find_take hno hr e.2]
        simp only [applyR, if_pos e.1]
      rw [← et]
      exact hQ H4 (b2.trans b4)
    refine b_cons (s_ifB (!r.fr && fitsR r x) ?_ (fun e2 H5 b5 => ?_) (fun e2 H5 b5 => b_nil (b_nil ⟨⟨_, _, _, rfl⟩, b2.trans (b4.trans b5), all_take hno hr ?_⟩)))
    · refine t_boolop (w_and (t_cmp (e_name 2 (v := .str (kd r.fr)) (e_glob (v := .str "whole") (c_eq rfl ⟨!r.fr, by (cases r.fr <;> rfl), ite_b (fun e3 => ?_) fun e3 => ⟨by rw [e3]; rfl, But.refl⟩⟩) hu2 ru2))))
      refine w_and1 (t_cmp (e_name 1 (v := .str x) (e_name 3 (v := .str r.old) (c_eq rfl ⟨_, rfl, ?_, But.refl⟩))))
      have e4 : r.fr = false := by simpa using e3
      rw [es, e3, Bool.true_and, fitsR, if_neg (by rw [e4]; decide)]
    · simp only [Bool.and_eq_true, Bool.not_eq_true'] at e2
      refine b_cons (s_ret (e_name 4 (v := .str r.new) ?_))
      have et : turnR rs x = r.new := by
        unfold turnR
        rw [find_take hno hr e2.2]
        simp only [applyR, e2.1, Bool.false_eq_true, if_false]
      rw [← et]
      exact hQ H5 (b2.trans (b4.trans b5))
    · cases hf : r.fr
      · rw [hf] at e2; simpa using e2
      · rw [hf] at e; simpa using e
  · rintro σ H2 ⟨⟨v2, v3, v4, rfl⟩, b2, hno⟩
    rw [hvl, List.take_length] at hno
    refine b_cons (s_ret (e_name 1 (v := .str x) ?_))
    have et : turnR rs x = x := by
      unfold turnR
      rw [List.find?_eq_none.mpr (fun y hy => by rw [hno y hy]; simp)]
    have := hQ H2 b2
    rwa [et] at this
end
end K21

set_option Elab.async false
set_option linter.all false
set_option maxRecDepth 100000
set_option maxHeartbeats 4000000
/-! plain: what can be shown, what can be compared, further -/
namespace Z
open PySem PySem.Spec PyProof.Rows L2
theorem ShwZ.tuple {n w : Nat} {ds : List PyData} (L : Nat) (h : ∀ d ∈ ds, ShwZ n w d) (hl : ds.length ≤ L) : ShwZ (n + 1) (L * (w + 1)) (.tuple ds) := by
  have e1 := showAllZ fun d hd => (h d hd).s
  have e2 := leavesAllZ fun d hd => (h d hd).l
  have e3 := depthAllZ fun d hd => (h d hd).dep
  have e4 := weightAllZ fun d hd => (h d hd).w
  have e5 : ds.length * (w + 1) ≤ L * (w + 1) := Nat.mul_le_mul_right _ hl
  exact ⟨by simp only [PyData.showable, e1], by simp only [PyData.leavesShort, e2], by simp only [PyData.depth]; omega, by simp only [PyData.weight]; omega⟩
theorem ShwZ.str {n w : Nat} {x : Str} (h : ∀ c ∈ x.cps.toList, c < 128) (hw : x.length ≤ w) : ShwZ n w (.str x) := by
  refine ⟨by simp only [PyData.showable], ?_, by simp only [PyData.depth]; omega, by simp only [PyData.weight]; exact hw⟩
  have := leaves_strs [x] (fun y hy c hc => by rw [List.mem_singleton.mp hy] at hc; have := h c hc; omega)
  simpa [PyData.leavesShortAll] using this
theorem ShwZ.bool {n w : Nat} {b : Bool} : ShwZ n w (.bool b) := ⟨by simp only [PyData.showable], by simp only [PyData.leavesShort], by simp only [PyData.depth]; omega, by simp only [PyData.weight]; omega⟩
theorem nat_small : ∀ k : Nat, k < 1000 → (PyData.int (k : Int)).showable = true ∧ (PyData.int (k : Int)).leavesShort 40 = true ∧ (PyData.int (k : Int)).depth = 0 ∧ (PyData.int (k : Int)).weight ≤ 10 := by decide +kernel
theorem ShwZ.nat {n w k : Nat} (h : k < 1000) (hw : 10 ≤ w) : ShwZ n w (.int (k : Int)) := by
  obtain ⟨h1, h2, h3, h4⟩ := nat_small k h
  exact ⟨h1, h2, by omega, by omega⟩
/-- the length of what is shown -/
theorem ShwZ.len {n w : Nat} {d : PyData} (h : ShwZ n w d) : d.shown.length ≤ 42 * w + 40 := by
  have h2 := PyData.shown_le 40 (by decide) d h.l
  have h3 := h.w
  have : (40 + 2) * d.weight ≤ 42 * w := Nat.mul_le_mul_left _ h3
  omega
theorem CmpZ.bool {b : Bool} : CmpZ 0 (.bool b) := ⟨by simp only [PyData.canLay0], by simp only [PyData.depth]; omega, by simp only [PyData.hasDict]⟩
end Z

set_option Elab.async false
set_option linter.all false
set_option maxRecDepth 100000
set_option maxHeartbeats 4000000
namespace K21
open PySem PySem.Spec PyProof.Rows L2 Z
/-! ### plain: rules shown, rules compared -/
theorem strSigns_ascii {g : Str} (h : strSigns g = true) : ∀ c ∈ g.cps.toList, c < 128 := by
  simp only [strSigns, Bool.and_eq_true, List.all_eq_true, decide_eq_true_eq] at h
  exact fun c hc => known_ascii c (h.1.2 c hc)
theorem isLine_ascii {g x : Str} (hg : strSigns g = true) (h : isLine g (.str x) = true) : ∀ c ∈ x.cps.toList, c < 128 := by
  simp only [isLine, List.all_eq_true, decide_eq_true_eq] at h
  exact fun c hc => strSigns_ascii hg c (h c hc)
theorem strSigns_len {g : Str} (h : strSigns g = true) : g.length ≤ 4 ∧ 2 ≤ g.length := by
  simp only [strSigns, Bool.and_eq_true, decide_eq_true_eq] at h
  exact ⟨h.1.1.2, h.1.1.1⟩
theorem kd_ascii (b : Bool) : ∀ c ∈ (kd b).cps.toList, c < 128 := by cases b <;> decide +kernel
theorem kd_len (b : Bool) : (kd b).length = 5 := by cases b <;> rfl
theorem rule_shw {g : Str} (hg : strSigns g = true) {r : Rule} (h : okRule g r) : ShwZ 1 123 (ruleD r) := by
  refine (ShwZ.tuple (n := 0) (w := 40) 3 (fun d hd => ?_) (by simp)).mono (Nat.le_refl _) (by decide)
  simp only [List.mem_cons, List.not_mem_nil, or_false] at hd
  rcases hd with rfl | rfl | rfl
  · exact ShwZ.str (kd_ascii _) (by rw [kd_len]; decide)
  · exact ShwZ.str (isLine_ascii hg h.o) h.ol
  · exact ShwZ.str (isLine_ascii hg h.n) h.nl
theorem rules_shw {g : Str} (hg : strSigns g = true) {rs : List Rule} (h : ∀ r ∈ rs, okRule g r) (hn : rs.length ≤ 400) : ShwZ 2 (400 * 124) (.list (rulesD rs)) :=
  ShwZ.list 400 (fun d hd => by obtain ⟨r, hr, rfl⟩ := List.mem_map.mp hd; exact rule_shw hg (h r hr)) (by rw [rulesD, List.length_map]; exact hn)
theorem rule_cmp {g : Str} (hg : strSigns g = true) {r : Rule} (h : okRule g r) : CmpZ 1 (ruleD r) := CmpZ.tuple fun d hd => by
  simp only [List.mem_cons, List.not_mem_nil, or_false] at hd
  rcases hd with rfl | rfl | rfl
  · exact CmpZ.str (kd_ascii _)
  · exact CmpZ.str (isLine_ascii hg h.o)
  · exact CmpZ.str (isLine_ascii hg h.n)
theorem ruleD_inj {r s : Rule} : PyData.eqv (ruleD r) (ruleD s) = decide (r = s) := by
  rw [Bool.eq_iff_iff, decide_eq_true_eq]
  obtain ⟨f1, o1, n1⟩ := r
  obtain ⟨f2, o2, n2⟩ := s
  cases f1 <;> cases f2 <;> simp [ruleD, PyData.eqv, PyData.eqvAll, kd]
  all_goals exact fun e => absurd e (by decide)
theorem rulesD_inj : ∀ {rs ss : List Rule}, PyData.eqvAll (rulesD rs) (rulesD ss) = decide (rs = ss)
  | [], [] => rfl
  | [], _ :: _ => rfl
  | _ :: _, [] => rfl
  | r :: rs, s :: ss => by
    show (PyData.eqv (ruleD r) (ruleD s) && PyData.eqvAll (rulesD rs) (rulesD ss)) = _
    rw [ruleD_inj, rulesD_inj, Bool.eq_iff_iff]
    simp
def relD (g : Str) (rs : List Rule) : PyData := .tuple [.str g, .tuple (rulesD rs)]
theorem relD_inj {g g' : Str} {rs rs' : List Rule} : PyData.eqv (relD g rs) (relD g' rs') = decide (g = g' ∧ rs = rs') := by
  rw [Bool.eq_iff_iff, decide_eq_true_eq]
  simp only [relD, PyData.eqv, PyData.eqvAll, rulesD_inj, Bool.and_true, Bool.and_eq_true, decide_eq_true_eq, beq_iff_eq]
theorem relD_cmp {g : Str} {rs : List Rule} (ok : OkR g rs) : CmpZ 3 (relD g rs) := CmpZ.tuple fun d hd => by
  simp only [List.mem_cons, List.not_mem_nil, or_false] at hd
  rcases hd with rfl | rfl
  · exact (CmpZ.str (strSigns_ascii ok.sg)).mono (by decide)
  · exact CmpZ.tuple fun x hx => by
      obtain ⟨r, hr, rfl⟩ := List.mem_map.mp hx
      exact rule_cmp ok.sg (ok.each r hr)
/-- how a relay is shown -/
def shownR (g : Str) (rs : List Rule) : Str := ((((Str.empty ++ ("Relay(" : Str)) ++ (PyData.str g).shown) ++ (", " : Str)) ++ (PyData.list (rulesD rs)).shown) ++ (")" : Str)
mutual
theorem dd_ins {l : List Addr} {H : Hp} {r C dx : Addr} {fs : List (Str × V)} (hr : H r = some (.ins C dx fs)) : ∀ {v : V} {d : PyData}, DD [] l H v d → DD [] (r :: l) H v d
  | _, _, .non => .non
  | _, _, .bl b => .bl b
  | _, _, .int i => .int i
  | _, _, .str x => .str x
  | _, _, .lst h1 n h2 => .lst h1 (fun z => by
      rcases List.mem_cons.mp z with z | z
      · subst z
        rcases h1 with (h1 | ⟨o, h1⟩) | ⟨o, its, k, h1, _⟩
        · rw [hr] at h1; cases h1
        · rw [hr] at h1; cases h1
        · cases h1
      · exact n z) (dds_ins hr h2)
  | _, _, .tup h1 n h2 => .tup h1 (fun z => by
      rcases List.mem_cons.mp z with z | z
      · subst z
        rcases h1 with (h1 | ⟨o, h1⟩) | ⟨o, its, k, h1, _⟩
        · rw [hr] at h1; cases h1
        · rw [hr] at h1; cases h1
        · cases h1
      · exact n z) (dds_ins hr h2)
  | _, _, .dct h1 n h2 => .dct h1 (fun z => by
      rcases List.mem_cons.mp z with z | z
      · subst z
        rw [hr] at h1; cases h1
      · exact n z) (dds_ins hr h2)
theorem dds_ins {l : List Addr} {H : Hp} {r C dx : Addr} {fs : List (Str × V)} (hr : H r = some (.ins C dx fs)) : ∀ {vs : List V} {ds : List PyData}, DDs [] l H vs ds → DDs [] (r :: l) H vs ds
  | _, _, .nil => .nil
  | _, _, .cons h t => .cons (dd_ins hr h) (dds_ins hr t)
end
theorem app_len {x y : Str} : (x ++ y).length = x.length + y.length := by
  have e : (x ++ y : Str).cps.toList = x.cps.toList ++ y.cps.toList := TL.tl_append x y
  have := congrArg List.length e
  rw [Array.length_toList, List.length_append, Array.length_toList, Array.length_toList] at this
  exact this
section
variable {P : Program} {w : World} {K : PySem.W.Frag} {mg : Str → Option Value} {base : Heap} {CR : Addr}
def pPs : List Str := ["self", "signs", "rules"]
def spInitP (CR : Addr) : Sp := fun vs H Q _ => ∃ (r dx : Addr) (g : Str) (rs : List Rule) (v : V) (l : List Addr), vs = [.ref r, .str g, v] ∧ OkR g rs ∧ H r = some (.ins CR dx []) ∧ IsRules [] rs l H v ∧ ∀ H', But [r] H H' → IsRelay CR g rs H' r → Q .non H'
theorem scIn : FnScope ["self", "signs", "rules"] pPs (defScope (clsAt (top 41) 0)) := ⟨rfl, rfl, rfl, by decide +kernel, rfl, by decide +kernel, by decide +kernel⟩
theorem d_initP {CR f : Addr} {oc dV kV doc pm cdv ct : Value} {od an : Option Addr} {osl : Array (Option Value)} (B : Blt mg base) (CL : ClsP K CR)
    (lk : K.lookup f = some ⟨oc, od, .func (PySem.W.fnOf "__init__" "Relay.__init__" (defArgs (clsAt (top 41) 0)) (defBody (clsAt (top 41) 0)) (defScope (clsAt (top 41) 0)) dV kV doc pm an cdv ct), osl⟩) (hcd : PySem.W.codeIn K cdv "Relay.__init__" = true)
    (D1 : Def P w K mg base 2 "want_signs" (top 16) ["value"] (spFine K areSigns)) (D2 : Def P w K mg base 3 "want_rules" (top 38) ["signs", "value"] (spRulesOk K)) :
    FnOk P w K mg base (L2.CX P w) 4 f (PySem.W.fnOf "__init__" "Relay.__init__" (defArgs (clsAt (top 41) 0)) (defBody (clsAt (top 41) 0)) (defScope (clsAt (top 41) 0)) dV kV doc pm an cdv ct) pPs (spInitP CR) := by
  refine fnok_body B lk hcd scIn (fun vs H Q E ⟨_, _, _, _, _, _, e, _⟩ => by rw [e]; rfl) fun A outer s H vs Q E C h => ?_
  obtain ⟨r, dx, g, rs, v, l, rfl, ok, hr, ⟨d, hd, hs, hi⟩, hQ⟩ := h
  have gl := strSigns_len ok.sg
  have fg : areSigns (.str g) = true := ok.sg
  refine b_cons (s_expr (e_call (C.mono (by decide)) D1 (a_cons (e_name 1 (a_nil ?_))) rfl (fun _ _ _ _ _ _ us hl => match us, hl with | [_], _ => rfl)))
  refine ⟨_, [], .str g, rfl, .str g, by show g.length ≤ _; rw [sizeLine_eq]; omega, fg, fun H1 b1 => ?_⟩
  refine b_cons (s_expr (e_call C D2 (a_cons (e_name 1 (v := .str g) (a_cons (e_name 2 (v := v) (a_nil ?_))))) rfl (fun _ _ _ _ _ _ us hl => match us, hl with | [_, _], _ => rfl)))
  have hd1 := hd.but (b1.mono (by simp))
  refine ⟨g, v, l, d, rs, rfl, hd1.all, hs, hi, ok.each, ok.few, fun H2 b2 => ?_⟩
  have b02 := b1.trans b2
  have hr2 := b02 _ _ (by simp) hr
  have hd2 := dd_ins hr2 (hd1.but (b2.mono (by simp)))
  refine b_cons (s_fld (e_name 1 (v := .str g) (e_name 0 (v := .ref r) ⟨dx, [], rfl, hr2, by simp, ?_⟩)) CL.c CL.n1)
  have b3 : But [r] H2 (upd H2 r (.ins CR dx (putF "own_signs" (.str g) []))) := But.at (by simp)
  have hr3 : upd H2 r (.ins CR dx (putF "own_signs" (.str g) [])) r = some (.ins CR dx [("own_signs", .str g)]) := upd_same
  have hd3 := hd2.but (b3.mono (by simp))
  generalize upd H2 r (.ins CR dx (putF "own_signs" (.str g) [])) = H3 at b3 hr3 hd3 ⊢
  have b03 : But [r] H H3 := b02.of.trans b3
  have fin : ∀ (tq : Addr) (H4 : Hp), But [] H3 H4 → H4 r = some (.ins CR dx [("own_signs", .str g)]) → DD [] [r] H4 (.ref tq) (.tuple (rulesD rs)) → wB (bX P w K mg base ["self", "signs", "rules"] "Relay.__init__" (clsAt (top 41) 0) f cdv A outer s H E) ((defBody (clsAt (top 41) 0)).drop 4) { nx := fun _ H' => Q .non H', rt := Q } [some (.ref r), some (.str g), some v] (upd H4 r (.ins CR dx (putF "own_rules" (.ref tq) [("own_signs", .str g)]))) := fun tq H4 b4 hr4 ht => by
    refine b_cons (s_fld (e_none (e_name 0 (v := .ref r) ⟨dx, [("own_signs", .str g), ("own_rules", .ref tq)], rfl, upd_same, by simp, ?_⟩)) CL.c CL.n3)
    have b5 : But [r] H4 (upd H4 r (.ins CR dx (putF "own_rules" (.ref tq) [("own_signs", .str g)]))) := But.at (by simp)
    have b6 : But [r] (upd H4 r (.ins CR dx (putF "own_rules" (.ref tq) [("own_signs", .str g)]))) (upd (upd H4 r (.ins CR dx (putF "own_rules" (.ref tq) [("own_signs", .str g)]))) r (.ins CR dx (putF "own_cells" .non [("own_signs", .str g), ("own_rules", .ref tq)]))) := But.at (by simp)
    refine b_nil (hQ _ (b03.trans (b4.of.trans (b5.trans b6))) ⟨dx, tq, upd_same, ?_⟩)
    exact ((ht.but b5).but b6).less (by simp)
  have hd3' : DD [] [r] H3 v d := hd3.less (by simp)
  cases hd3' with
  | @lst a xs ds h1 n h2 =>
    have hi : ds = rulesD rs := hi
    refine b_cons (s_fld (e_tupleOf B (e_name 2 (v := .ref a) ⟨a, xs, rfl, .inl ⟨sql_all h1, fun tq htq => e_name 0 (v := .ref r) ⟨dx, [("own_signs", .str g)], rfl, ?_, by simp, ?_⟩⟩⟩)) CL.c CL.n2)
    · rw [upd_ne (ne_of_none hr3 htq)]
      exact hr3
    have bt : But [] H3 (upd H3 tq (.tup xs)) := But.new htq
    refine fin tq _ bt (by rw [upd_ne (ne_of_none hr3 htq)]; exact hr3) (.tup (.inl (.inl upd_same)) (by simpa using (ne_of_none hr3 htq).symm) ?_)
    rw [← hi]
    exact h2.but (bt.mono (by simp))
  | @tup a xs ds h1 n h2 =>
    have hi : ds = rulesD rs := hi
    refine b_cons (s_fld (e_tupleOf B (e_name 2 (v := .ref a) ⟨a, xs, rfl, .inr ⟨sqt_all h1, e_name 0 (v := .ref r) ⟨dx, [("own_signs", .str g)], rfl, hr3, by simp, ?_⟩⟩⟩)) CL.c CL.n2)
    refine fin a _ But.refl hr3 (.tup h1 n ?_)
    rw [← hi]
    exact h2
  | _ => simp [seqB, Z.isList, Z.isTuple] at hs
/-! ### what a relay tells -/
theorem bind1 {fd : FuncData} (h : ∀ us : List Value, us.length = (["self"] : List Str).length → bindArgs fd ⟨us, []⟩ = pure ((["self"] : List Str).zip us)) : Binds K fd ["self"] [] := Binds.all h
def spSignsP (CR : Addr) : Sp := fun vs H Q _ => ∃ p g rs, vs = [.ref p] ∧ IsRelay CR g rs H p ∧ Q (.str g) H
theorem scG1 : FnScope ["self"] ["self"] (defScope (clsAt (top 41) 1)) := ⟨rfl, rfl, rfl, by decide +kernel, rfl, by decide +kernel, by decide +kernel⟩
theorem d_signsP (B : Blt mg base) (CL : ClsP K CR) (D : PropAt K CR "signs" "Relay.signs" (clsAt (top 41) 1)) : PropOk P w K mg base 1 CR "signs" (spSignsP CR) := by
  obtain ⟨pr, f, oc, doc, pm, cdv, ct, od, an, osl, hp, lk, hcd⟩ := D.ex
  refine ⟨pr, f, _, hp, fnok_body B lk hcd scG1 (fun vs H Q E ⟨_, _, _, e, _⟩ => by rw [e]; rfl) fun A outer s H vs Q E C h => ?_, bind1 fun us hl => match us, hl with | [_], _ => rfl⟩
  obtain ⟨p, g, rs, rfl, hR, q⟩ := h
  obtain ⟨dx, tq, h1, h2⟩ := hR.ex
  exact b_cons (s_ret (e_fld (v := .str g) (e_name 0 (v := .ref p) ⟨rfl, h1, q⟩) CL.c CL.n1 rfl))
def spRulesP (CR : Addr) : Sp := fun vs H Q _ => ∃ p g rs, vs = [.ref p] ∧ IsRelay CR g rs H p ∧ ∀ q xs H', But [] H H' → H q = none → H' q = some (.lst xs) → DDs [] [] H' xs (rulesD rs) → Q (.ref q) H'
theorem scG2 : FnScope ["self"] ["self"] (defScope (clsAt (top 41) 2)) := ⟨rfl, rfl, rfl, by decide +kernel, rfl, by decide +kernel, by decide +kernel⟩
theorem tup_parts {l : List Addr} {H : Hp} {tq : Addr} {ds : List PyData} (h : DD [] l H (.ref tq) (.tuple ds)) : ∃ xs, SqT [] H tq xs ∧ DDs [] l H xs ds := by
  cases h with
  | tup h1 n h2 => exact ⟨_, h1, h2⟩
theorem d_rulesP (B : Blt mg base) (CL : ClsP K CR) (D : MethAt K CR "rules" "Relay.rules" (clsAt (top 41) 2)) : MethOk P w K mg base 1 CR "rules" ["self"] (spRulesP CR) := by
  obtain ⟨f, oc, doc, pm, cdv, ct, od, an, osl, hp, lk, hcd⟩ := D.ex
  refine ⟨f, _, hp, fnok_body B lk hcd scG2 (fun vs H Q E ⟨_, _, _, e, _⟩ => by rw [e]; rfl) fun A outer s H vs Q E C h => ?_, Binds.all fun us hl => match us, hl with | [_], _ => rfl⟩
  obtain ⟨p, g, rs, rfl, hR, hQ⟩ := h
  obtain ⟨dx, tq, h1, h2⟩ := hR.ex
  obtain ⟨xs, h3, h4⟩ := tup_parts h2
  refine b_cons (s_ret (e_listOf B (e_fld (v := .ref tq) (e_name 0 (v := .ref p) ⟨rfl, h1, ⟨tq, xs, rfl, .inr (sqt_all h3), fun q hq => ?_⟩⟩) CL.c CL.n2 rfl)))
  exact hQ q xs _ (But.new hq) hq upd_same (h4.but (But.new hq))
def spCallP (CR : Addr) : Sp := fun vs H Q _ => ∃ p g rs x, vs = [.ref p, .str x] ∧ IsRelay CR g rs H p ∧ OkR g rs ∧ isLine g (.str x) = true ∧ x.length ≤ 10000 ∧ ∀ H', But [] H H' → Q (.str (turnR rs x)) H'
theorem scCl : FnScope ["self", "line"] ["self", "line"] (defScope (clsAt (top 41) 3)) := ⟨rfl, rfl, rfl, by decide +kernel, rfl, by decide +kernel, by decide +kernel⟩
structure CallAt (K : PySem.W.Frag) (CR : Addr) (q : Str) (st : Stmt) : Prop where
  ex : ∃ (f : Addr) (oc doc pm cdv ct : Value) (od an : Option Addr) (osl : Array (Option Value)), StX.CallO K CR f ∧ K.lookup f = some ⟨oc, od, .func (PySem.W.fnOf "__call__" q (defArgs st) (defBody st) (defScope st) .none .none doc pm an cdv ct), osl⟩ ∧ PySem.W.codeIn K cdv q = true
theorem d_callP (B : Blt mg base) (CL : ClsP K CR) (D : CallAt K CR "Relay.__call__" (clsAt (top 41) 3)) (D1 : Def P w K mg base 2 "want_line" (top 18) ["signs", "line"] (spWantLine K)) (D2 : Def P w K mg base 1 "turned_first" (top 23) ["rules", "line"] (spTurned K)) :
    CallOk P w K mg base 3 CR "line" (spCallP CR) := by
  obtain ⟨f, oc, doc, pm, cdv, ct, od, an, osl, hp, lk, hcd⟩ := D.ex
  refine ⟨f, _, hp, fnok_body B lk hcd scCl (fun vs H Q E ⟨_, _, _, _, e, _⟩ => by rw [e]; rfl) fun A outer s H vs Q E C h => ?_, fun s a u => .of_eq rfl, fun s a u => .of_eq rfl⟩
  obtain ⟨p, g, rs, x, rfl, hR, ok, hx, hxl, hQ⟩ := h
  obtain ⟨dx, tq, h1, h2⟩ := hR.ex
  refine b_cons (s_expr (e_call C D1 (a_cons (e_fld (v := .str g) (e_name 0 (v := .ref p) ⟨rfl, h1, a_cons (e_name 1 (v := .str x) (a_nil ?_))⟩) CL.c CL.n1 rfl)) rfl (fun _ _ _ _ _ _ us hl => match us, hl with | [_, _], _ => rfl)))
  refine ⟨g, x, rfl, hx, by omega, fun H1 b1 => ?_⟩
  refine b_cons (s_ret (e_call (C.mono (by decide)) D2 (a_cons (e_fld (v := .ref tq) (e_name 0 (v := .ref p) ⟨rfl, b1 _ _ (by simp) h1, a_cons (e_name 1 (v := .str x) (a_nil ?_))⟩) CL.c CL.n2 rfl)) rfl (fun _ _ _ _ _ _ us hl => match us, hl with | [_, _], _ => rfl)))
  exact ⟨.ref tq, [], rs, x, rfl, ⟨_, (h2.but b1).all, rfl, rfl⟩, fun r hr => ⟨by have := (ok.each r hr).ol; omega, by have := (ok.each r hr).nl; omega⟩, by omega, fun H' b => hQ H' (b1.trans b)⟩
/-! ### ==, repr -/
def EqR (K : PySem.W.Frag) (CR : Addr) : V → V → Bool → Hp → Prop := fun x y b H => ∃ p g rs, x = .ref p ∧ IsRelay CR g rs H p ∧ OkR g rs ∧
  ((∃ q g' rs', y = .ref q ∧ IsRelay CR g' rs' H q ∧ OkR g' rs' ∧ b = decide (g = g' ∧ rs = rs')) ∨ (∃ T, Ty1 K H y T ∧ b = false))
theorem scEq : FnScope ["self", "other"] ["self", "other"] (defScope (clsAt (top 41) 13)) := ⟨rfl, rfl, rfl, by decide +kernel, rfl, by decide +kernel, by decide +kernel⟩
theorem d_eqP (B : Blt mg base) (CL : ClsP K CR) (IC : C8.InsC K CR) (hdd : PySem.W.hasDictIn K CR = true) (hty : PySem.W.typeIn K (.ref CR) = some (.type "type")) (gR : mg "Relay" = some (.ref CR)) (D : MethAt K CR "__eq__" "Relay.__eq__" (clsAt (top 41) 13)) : MethOk P w K mg base 1 CR "__eq__" ["self", "other"] (spEqB (EqR K CR)) := by
  obtain ⟨f, oc, doc, pm, cdv, ct, od, an, osl, hp, lk, hcd⟩ := D.ex
  refine ⟨f, _, hp, fnok_body B lk hcd scEq (fun vs H Q E ⟨_, _, _, e, _⟩ => by rw [e]; rfl) fun A outer s H vs Q E C h => ?_, Binds.all fun us hl => match us, hl with | [_, _], _ => rfl⟩
  obtain ⟨x, y, b, rfl, ⟨p, g, rs, rfl, hR, ok, ho⟩, q⟩ := h
  have two : ∀ n, n ≤ 16777216 → n ≤ sizeLine := fun n h => by rw [sizeLine_eq]; exact h
  rcases ho with ⟨q2, g', rs', rfl, hR2, ok2, rfl⟩ | ⟨T, hT, rfl⟩
  · obtain ⟨dx, tq, h1, h2⟩ := hR.ex
    obtain ⟨dy, tq2, k1, k2⟩ := hR2.ex
    refine b_cons (s_ifB false ?_ (fun e => by cases e) (fun _ H1 b1 => b_nil ?_))
    · exact t_not (t_val (e_isC B IC gR (e_name 1 (v := .ref q2) ⟨q2, dy, _, rfl, k1, true, rfl, rfl, But.refl⟩)))
    have h1' := b1 _ _ (by simp) h1
    have k1' := b1 _ _ (by simp) k1
    refine b_cons (s_ret (e_cmp (e_tup (a_cons (e_fld (v := .str g) (e_name 0 (v := .ref p) ⟨rfl, h1', a_cons (e_fld (v := .ref tq) (e_name 0 (v := .ref p) ⟨rfl, h1', a_nil ⟨two 2 (by decide), fun t1 ht1 => ?_⟩⟩) CL.c CL.n2 rfl)⟩) CL.c CL.n1 rfl)))))
    have b2 : But [] H1 (upd H1 t1 (.tup [.str g, .ref tq])) := But.new ht1
    refine e_tup (a_cons (e_fld (v := .str g') (e_name 1 (v := .ref q2) ⟨rfl, b2 _ _ (by simp) k1', a_cons (e_fld (v := .ref tq2) (e_name 1 (v := .ref q2) ⟨rfl, b2 _ _ (by simp) k1', a_nil ⟨two 2 (by decide), fun t2 ht2 => ?_⟩⟩) CL.c CL.n2 rfl)⟩) CL.c CL.n1 rfl))
    have b3 : But [] (upd H1 t1 (.tup [.str g, .ref tq])) (upd (upd H1 t1 (.tup [.str g, .ref tq])) t2 (.tup [.str g', .ref tq2])) := But.new ht2
    have b13 := b1.trans (b2.trans b3)
    refine c_eqD C (l := []) (m := []) (d := relD g rs) (f := relD g' rs') (.tup (.inl (.inl (b3 _ _ (by simp) upd_same))) (by simp) (.cons (.str _) (.cons (h2.but b13).all .nil))) (.tup (.inl (.inl upd_same)) (by simp) (.cons (.str _) (.cons (k2.but b13).all .nil))) ((relD_cmp ok).shaped (by decide)) ((relD_cmp ok2).shaped (by decide)) ?_
    rw [relD_inj]
    exact q _ b13
  · refine b_cons (s_ifB true ?_ (fun _ H1 b1 => b_cons (s_ret (e_bool (q H1 b1)))) (fun e => by cases e))
    exact t_not (t_val (e_isO B hdd hty gR (e_name 1 (v := y) ⟨T, hT, false, rfl, rfl, But.refl⟩)))
def spReprP (CR : Addr) : Sp := fun vs H Q _ => ∃ p g rs, vs = [.ref p] ∧ IsRelay CR g rs H p ∧ OkR g rs ∧ ∀ H', But [] H H' → Q (.str (shownR g rs)) H'
theorem scRp : FnScope ["self"] ["self"] (defScope (clsAt (top 41) 14)) := ⟨rfl, rfl, rfl, by decide +kernel, rfl, by decide +kernel, by decide +kernel⟩
theorem d_reprP (B : Blt mg base) (CL : ClsP K CR) (D : MethAt K CR "__repr__" "Relay.__repr__" (clsAt (top 41) 14)) : MethG P w K mg base 1 CR "__repr__" ["self"] (spReprP CR) := by
  obtain ⟨f, oc, doc, pm, cdv, ct, od, an, osl, hp, lk, hcd⟩ := D.ex
  refine ⟨f, _, hp, gfn_body B lk hcd scRp (fun vs H Q E ⟨_, _, _, e, _⟩ => by rw [e]; rfl) fun A outer s H vs Q E C gd h => ?_, Binds.all fun us hl => match us, hl with | [_], _ => rfl⟩
  obtain ⟨p, g, rs, rfl, hR, ok, hQ⟩ := h
  obtain ⟨dx, tq, h1, h2⟩ := hR.ex
  obtain ⟨xs, h3, h4⟩ := tup_parts h2
  have shw := rules_shw ok.sg ok.each ok.few
  have l1 := shw.len
  have l2 := (ShwZ.str (n := 0) (w := 4) (strSigns_ascii ok.sg) (strSigns_len ok.sg).1).len
  have l3 : ("Relay(" : Str).length = 6 := rfl
  have l4 : (", " : Str).length = 2 := rfl
  have l5 : (")" : Str).length = 1 := rfl
  have l0 : (Str.empty).length = 0 := rfl
  have sz : ∀ n, n ≤ 16777216 → n ≤ sizeLine := fun n h => by rw [sizeLine_eq]; exact h
  have eg : reprText g = (PyData.str g).shown := (PyData.shown_str g).symm
  refine b_cons (s_ret (e_joined ?_))
  refine e_str ⟨_, rfl, sz _ (by rw [app_len, l0, l3]; decide), ?_⟩
  refine e_fmtRS (e_fld (v := .str g) (e_name 0 (v := .ref p) ⟨rfl, h1, g, rfl, ?_, ?_⟩) CL.c CL.n1 rfl)
  · rw [eg]; exact sz _ (by omega)
  rw [eg]
  refine ⟨_, rfl, sz _ (by rw [app_len, app_len, l0, l3]; omega), ?_⟩
  refine e_str ⟨_, rfl, sz _ (by rw [app_len, app_len, app_len, l0, l3, l4]; omega), ?_⟩
  refine e_fmtRD B gd C.un (e_listOf B (e_fld (v := .ref tq) (e_name 0 (v := .ref p) ⟨rfl, h1, ⟨tq, xs, rfl, .inr (sqt_all h3), fun q hq => ?_⟩⟩) CL.c CL.n2 rfl))
  refine ⟨[], .list (rulesD rs), q, rfl, (DD.lst (.inl (.inl upd_same)) (by simp) (h4.but (But.new hq))).all, shw.rp (by decide) (by decide), _, rfl, sz _ (by rw [app_len, app_len, app_len, app_len, l0, l3, l4]; omega), ?_⟩
  refine e_str ⟨_, rfl, sz _ (by rw [app_len, app_len, app_len, app_len, app_len, l0, l3, l4, l5]; omega), ?_⟩
  exact hQ _ (But.new hq)
end
end K21

set_option Elab.async false
set_option linter.all false
set_option maxRecDepth 100000
set_option maxHeartbeats 4000000
namespace K21
open PySem PySem.Spec PyProof.Rows L2 Z
/-! ### what is drawn -/
def Pot (H : Hp) (p : Addr) : Prop := ∃ a b : Int, H p = some (.lst [.int a, .int b]) ∧ 0 ≤ b ∧ b < 2 ^ 31
theorem Pot.new {H H' : Hp} {p : Addr} (h : Pot H p) (b : But [] H H') : Pot H' p := let ⟨x, y, e, r⟩ := h; ⟨x, y, b _ _ (by simp) e, r⟩
theorem Pot.ext {H H' : Hp} {p : Addr} (h : Pot H p) (e : Ex [] H H') : Pot H' p := let ⟨a, b, x, r⟩ := h; ⟨a, b, e.lst (by simp) x, r⟩
theorem Pot.here {H : Hp} {p : Addr} (h : Pot H p) : Here [p] H := let ⟨x, y, e, r⟩ := h; fun q hq => by rw [List.mem_singleton.mp hq]; exact ⟨_, e⟩
theorem Pot.there {H : Hp} {p q : Addr} (h : Pot H p) (hq : H q = none) : q ≠ p := fun z => by
  obtain ⟨x, y, e, r⟩ := h
  rw [z, e] at hq
  cases hq
theorem Pot.upd {H : Hp} {p q : Addr} {o : HO} (h : Pot H p) (n : q ≠ p) : Pot (L2.upd H q o) p := let ⟨a, b, e, r⟩ := h; ⟨a, b, by rw [upd_ne n.symm]; exact e, r⟩
theorem Pot.ne {H : Hp} {p q : Addr} {o : HO} (h : Pot H p) (hq : H q = some o) (ho : ∀ a b : Int, o ≠ .lst [.int a, .int b]) : q ≠ p := fun z => by
  obtain ⟨x, y, e, r⟩ := h
  rw [z, e] at hq
  exact ho _ _ (Option.some.inj hq).symm
theorem Pot.lsts {H : Hp} {p : Addr} (h : Pot H p) : ∀ q ∈ [p], ∃ xs, H q = some (.lst xs) := fun q hq => by
  obtain ⟨a, b, e, _⟩ := h
  rw [List.mem_singleton.mp hq]
  exact ⟨_, e⟩
section
variable {P : Program} {w : World} {K : PySem.W.Frag} {mg : Str → Option Value} {base : Heap}
def spPotMk (K : PySem.W.Frag) : Sp := fun vs H Q _ => ∃ (q : Addr) (ns : List Int) (k : Nat), vs = [.ref q, .int k] ∧ SqL K H q (ns.map V.int) ∧ k ≤ 100 ∧ ns.length ≤ 1000 ∧ ∀ p H', But [] H H' → H p = none → Pot H' p → Q (.ref p) H'
theorem scPot : FnScope ["script", "k", "cell"] ["script", "k"] (defScope (top 43)) := ⟨rfl, rfl, rfl, by decide +kernel, rfl, by decide +kernel, by decide +kernel⟩
theorem d_pot (B : Blt mg base) (D : At K mg "_law_pot" (top 43)) : Def P w K mg base 1 "_law_pot" (top 43) ["script", "k"] (spPotMk K) := by
  refine def_of D B scPot (fun vs H Q E ⟨_, _, _, e, _⟩ => by rw [e]; rfl) fun f cdv A outer s H vs Q E hm C h => ?_
  obtain ⟨q, ns, k, rfl, hq, hk, hn, hQ⟩ := h
  have hq' : ∀ {H1}, But [] H H1 → SqL K H1 q (ns.map V.int) := fun b => b.sql (by simp) hq
  have fin : ∀ (j : Int) (H1 : Hp), But [] H H1 → wB (bX P w K mg base ["script", "k", "cell"] "_law_pot" (top 43) f cdv A outer s H E) ((defBody (top 43)).drop 1) { nx := fun _ H' => Q .non H', rt := Q } [some (.ref q), some (.int k), some (.int j)] H1 := fun j H1 b1 => by
    refine b_cons (s_ret (e_lst (a_cons (e_max2 C (e_int (e_bin (e_name 2 (e_bin (e_int (e_int ?_))))))))))
    refine o_pow ⟨by decide, by decide, by decide⟩ (o_sub ⟨_, _, rfl, rfl, ?_⟩)
    have m1 := Int.emod_nonneg j (show (2147483563 : Int) ≠ 0 by decide)
    have m2 := Int.emod_lt_of_pos j (show (0 : Int) < 2147483563 by decide)
    refine a_cons (e_bin (e_bin (e_int1 B (e_bin (e_bin (e_bin (e_bin (e_int1 B (e_name 2 ⟨j, rfl, e_int (o_mod (by decide) (e_int (o_mul (.inl ⟨by omega, by omega⟩) ?_)))⟩))))))))) 
    refine e_bin (e_int (e_name 1 (o_mul (.inl ⟨by decide, by omega⟩) (o_add (e_int (o_add ⟨_, rfl, e_int (o_mod (by decide) (e_int (o_add (a_nil ⟨?_, fun p hp => ?_⟩))))⟩))))))
    · rw [sizeLine_eq]; exact (by decide : 2 ≤ 16777216)
    · have x1 := Int.emod_nonneg (j % 2147483563 * 40013 + 7919 * (k : Int) + 59) (show (2147483629 : Int) ≠ 0 by decide)
      have x2 := Int.emod_lt_of_pos (j % 2147483563 * 40013 + 7919 * (k : Int) + 59) (show (0 : Int) < 2147483629 by decide)
      exact hQ p _ (b1.trans (But.new hp)) (b1.free hp) ⟨_, _, upd_same, by omega, by omega⟩
  refine b_cons (s_set (i := 2) (e_if (t_cmp (e_name 1 (v := .int k) (e_len B (e_name 0 (v := .ref q) ⟨ns.length, .inl ⟨_, hq, by simp⟩, c_lt ⟨decide (k < ns.length), ?_, ite_b (fun e => ?_) fun e => ?_⟩⟩))))) C.nd)
  · congr 1; rw [decide_eq_decide]; omega
  · have hlt : k < ns.length := of_decide_eq_true e
    refine e_abs B (e_ix (e_name 0 (v := .ref q) (e_name 1 (v := .int k) (ix_l hq (v := .int ns[k]) ?_ ⟨_, rfl, fin _ H But.refl⟩))))
    exact atI_nat (by simp [hlt])
  · refine e_bin (e_bin (e_int (e_name 1 (v := .int k) ?_)))
    exact o_mul (.inl ⟨by decide, by decide⟩) (e_int (o_add (fin _ H But.refl)))
def spDraw : Sp := fun vs H Q _ => ∃ (p : Addr) (n : Int), vs = [.ref p, .int n] ∧ Pot H p ∧ 0 < n ∧ n < 1073741824 ∧ ∀ (r : Int) H', 0 ≤ r → r < n → But [p] H H' → Pot H' p → Q (.int r) H'
def drPs : List Str := ["pot", "much"]
theorem scDraw : FnScope ["pot", "much", "digit"] drPs (defScope (top 44)) := ⟨rfl, rfl, rfl, by decide +kernel, rfl, by decide +kernel, by decide +kernel⟩
theorem d_draw (B : Blt mg base) (D : At K mg "_law_draw" (top 44)) : Def P w K mg base 1 "_law_draw" (top 44) drPs spDraw := by
  refine def_of D B scDraw (fun vs H Q E ⟨_, _, e, _⟩ => by rw [e]; rfl) fun f cdv A outer s H vs Q E hm C h => ?_
  obtain ⟨p, n, rfl, ⟨a, b, hp, b0, b1⟩, n0, n1, hQ⟩ := h
  have sq : SqL K H p [.int a, .int b] := .inl (.inl hp)
  refine b_cons (s_ifB (decide (0 < a)) ?_ (fun e H1 b1 => ?_) (fun e H1 b1 => ?_))
  · refine t_cmp (e_ix (e_name 0 (e_int (ix_l sq (v := .int a) rfl (e_int (c_gt ⟨_, rfl, rfl, But.refl⟩))))))
  · have hp1 := b1 _ _ (by simp) hp
    refine b_cons (s_asg (e_divmod B (e_ix (e_name 0 (e_int (ix_l (.inl (.inl hp1)) (v := .int a) rfl (e_name 1 ?_)))))))
    refine ⟨a, n, rfl, rfl, ⟨n0, n1⟩, fun t ht => ?_⟩
    have hpt : p ≠ t := ne_of_none hp1 ht
    refine g_tup (gs_cons (g_sub (e_name 0 (e_int (set_l (j := 0) (by rw [upd_ne hpt]; exact hp1) rfl ?_))))) rfl (.inl (.inl upd_same))
    refine gs_cons (g_name (i := 2) (gs_nil (b_cons (s_ret (e_name 2 ?_)))) C.nd)
    refine hQ _ _ (Int.emod_nonneg _ (by omega)) (Int.emod_lt_of_pos _ n0) ((b1.of.trans (But.new ht)).trans (But.at (by simp))) ⟨_, _, upd_same, b0, by assumption⟩
  · have hp1 := b1 _ _ (by simp) hp
    refine b_nil (b_cons (s_asg (e_bin (e_int1 B (e_bin (e_bin (e_ix (e_name 0 (e_int (ix_l (.inl (.inl hp1)) (v := .int b) rfl (e_int ?_)))))))))))
    refine o_mul (.inr ⟨by decide, by decide⟩) (e_int (o_add ⟨_, rfl, e_int (o_mod (by decide) (g_sub (e_name 0 (e_int (set_l (j := 1) hp1 rfl ?_)))))⟩))
    have x1 := Int.emod_nonneg (b * 39979 + 20021) (show (2147483587 : Int) ≠ 0 by decide)
    have x2 := Int.emod_lt_of_pos (b * 39979 + 20021) (show (0 : Int) < 2147483587 by decide)
    generalize (b * 39979 + 20021) % 2147483587 = b' at x1 x2 ⊢
    refine b_cons (s_ret (e_bin (e_int1 B (e_bin (e_bin (e_int1 B (e_bin (e_ix (e_name 0 (e_int (ix_l (.inl (.inl upd_same)) (v := .int b') rfl (e_ix (e_name 0 (e_int (ix_l (.inl (.inl upd_same)) (v := .int b') rfl ?_)))))))))))))))
    refine o_mul (.inl ⟨by omega, by omega⟩) ⟨_, rfl, e_int (o_mod (by decide) (e_int (o_div ⟨by decide, by decide⟩ ⟨_, rfl, e_name 1 (o_mod n0 ?_)⟩)))⟩
    exact hQ _ _ (Int.emod_nonneg _ (by omega)) (Int.emod_lt_of_pos _ n0) (b1.of.trans (But.at (by simp))) ⟨_, _, upd_same, by omega, by omega⟩
def piPs : List Str := ["pot", "some"]
def spPick (K : PySem.W.Frag) : Sp := fun vs H Q _ => ∃ p, Pot H p ∧
  ((∃ q xs, vs = [.ref p, .ref q] ∧ q ≠ p ∧ (SqL K H q xs ∨ SqT K H q xs) ∧ 0 < xs.length ∧ xs.length < 1000000 ∧ ∀ v ∈ xs, ∀ H', But [p] H H' → Pot H' p → Q v H') ∨
   (∃ z : Str, vs = [.ref p, .str z] ∧ 0 < z.length ∧ z.length < 1000000 ∧ ∀ c ∈ z.cps.toList, ∀ H', But [p] H H' → Pot H' p → Q (.str ⟨#[c]⟩) H'))
theorem scPick : FnScope piPs piPs (defScope (top 45)) := ⟨rfl, rfl, rfl, by decide +kernel, rfl, by decide +kernel, by decide +kernel⟩
theorem d_pick (B : Blt mg base) (D : At K mg "_law_pick" (top 45)) (D1 : Def P w K mg base 1 "_law_draw" (top 44) drPs spDraw) : Def P w K mg base 2 "_law_pick" (top 45) piPs (spPick K) := by
  refine def_of D B scPick (fun vs H Q E ⟨_, _, h⟩ => by rcases h with ⟨_, _, e, _⟩ | ⟨_, e, _⟩ <;> (rw [e]; rfl)) fun f cdv A outer s H vs Q E hm C h => ?_
  obtain ⟨p, hp, ⟨q, xs, rfl, hqp, hq, x0, x1, hQ⟩ | ⟨z, rfl, x0, x1, hQ⟩⟩ := h
  · refine b_cons (s_ret (e_ix (e_name 1 (v := .ref q) (e_call C D1 (a_cons (e_name 0 (a_cons (e_len B (e_name 1 (v := .ref q) ?_))))) rfl (fun _ _ _ _ _ _ us hl => match us, hl with | [_, _], _ => rfl)))))
    refine ⟨xs.length, hq.elim (fun h => .inl ⟨xs, h, rfl⟩) fun h => .inr ⟨xs, h, rfl⟩, a_nil ⟨p, xs.length, rfl, hp, by omega, by omega, fun r H' r0 r1 b hp' => ?_⟩⟩
    obtain ⟨j, rfl⟩ := Int.eq_ofNat_of_zero_le r0
    have hj : j < xs.length := by omega
    rcases hq with hq | hq
    · exact ix_l (b.sql (by simpa using hqp) hq) (atI_nat (List.getElem?_eq_getElem hj)) (hQ _ (List.getElem_mem hj) H' b hp')
    · exact ix_t (b.sqt (by simpa using hqp) hq) (atI_nat (List.getElem?_eq_getElem hj)) (hQ _ (List.getElem_mem hj) H' b hp')
  · refine b_cons (s_ret (e_ix (e_name 1 (e_call C D1 (a_cons (e_name 0 (a_cons (e_len B (e_name 1 ?_))))) rfl (fun _ _ _ _ _ _ us hl => match us, hl with | [_, _], _ => rfl)))))
    have hz : z.length ≤ sizeLine := by rw [sizeLine_eq]; omega
    refine ⟨z.length, ⟨hz, rfl⟩, a_nil ⟨p, z.length, rfl, hp, by omega, by omega, fun r H' r0 r1 b hp' => ?_⟩⟩
    obtain ⟨j, rfl⟩ := Int.eq_ofNat_of_zero_le r0
    have hj : j < z.cps.toList.length := by have : z.cps.toList.length = z.length := by simp; rfl
                                            omega
    exact ix_s hz (atI_nat (List.getElem?_eq_getElem hj)) (hQ _ (List.getElem_mem hj) H' b hp')
end
end K21

set_option Elab.async false
set_option linter.all false
set_option maxRecDepth 100000
set_option maxHeartbeats 4000000
/-! plain: texts of one sign -/
namespace Z
open PySem PySem.Spec PyProof.Rows L2
theorem ones_sum : ∀ ys : List Nat, ((ys.map fun c => (⟨#[c]⟩ : Str)).map (·.length)).sum = ys.length
  | [] => rfl
  | c :: r => by simp only [List.map_cons, List.sum_cons, ones_sum r, List.length_cons]; show 1 + r.length = _; omega
theorem ones_flat : ∀ ys : List Nat, (ys.map fun c => [c]).flatten = ys
  | [] => rfl
  | c :: r => by simp only [List.map_cons, List.flatten_cons, ones_flat r, List.cons_append, List.nil_append]
/-- an arrangement of images is the image of an arrangement -/
theorem perm_map {α β : Type} {f : α → β} : ∀ {ys : List β} {xs : List α}, ys.Perm (xs.map f) → ∃ zs : List α, ys = zs.map f ∧ zs.Perm xs := by
  intro ys xs h
  generalize hm : xs.map f = ms at h
  induction h generalizing xs with
  | nil => cases xs with | nil => exact ⟨[], rfl, .refl _⟩ | cons => simp at hm
  | cons y _ ih => 
    cases xs with
    | nil => simp at hm
    | cons x xs =>
      simp only [List.map_cons, List.cons.injEq] at hm
      obtain ⟨zs, e, p⟩ := ih hm.2
      exact ⟨x :: zs, by rw [e, List.map_cons, hm.1], p.cons x⟩
  | swap a b l =>
    match xs, hm with
    | x :: y :: xs, hm =>
      simp only [List.map_cons, List.cons.injEq] at hm
      exact ⟨y :: x :: xs, by simp [hm.1, hm.2.1, hm.2.2], .swap _ _ _⟩
  | trans _ _ ih1 ih2 =>
    obtain ⟨zs, e, p⟩ := ih2 hm
    obtain ⟨us, e2, p2⟩ := ih1 e.symm
    exact ⟨us, e2, p2.trans p⟩
theorem erase_map {α β : Type} {f : α → β} : ∀ (l : List α) (j : Nat), (l.map f).eraseIdx j = (l.eraseIdx j).map f
  | [], _ => rfl
  | _ :: _, 0 => rfl
  | x :: l, j + 1 => by simp only [List.map_cons, List.eraseIdx_cons_succ, erase_map l j]
theorem erase_perm {α : Type} : ∀ (l : List α) (j : Nat) (h : j < l.length), (l[j] :: l.eraseIdx j).Perm l
  | [], j, h => by simp at h
  | x :: l, 0, h => .refl _
  | x :: l, j + 1, h => by
    simp only [List.getElem_cons_succ, List.eraseIdx_cons_succ]
    exact (List.Perm.swap _ _ _).trans ((erase_perm l j (by simpa using h)).cons x)
end Z

set_option Elab.async false
set_option linter.all false
set_option maxRecDepth 100000
set_option maxHeartbeats 4000000
namespace K21
open PySem PySem.Spec PyProof.Rows L2 Z
/-! ### texts drawn -/
theorem app_line {g x y : Str} (hx : isLine g (.str x) = true) (hy : isLine g (.str y) = true) : isLine g (.str (x ++ y)) = true := by
  have e : (x ++ y : Str).cps.toList = x.cps.toList ++ y.cps.toList := TL.tl_append x y
  simp only [isLine] at hx hy ⊢
  rw [e, List.all_append, hx, hy]
  rfl
theorem one_line {g : Str} {c : Nat} (h : c ∈ g.cps.toList) : isLine g (.str ⟨#[c]⟩) = true := by simpa [isLine] using h
theorem line_sub {g x : Str} : isLine g (.str x) = true ↔ ∀ c ∈ x.cps.toList, c ∈ g.cps.toList := by
  simp only [isLine, List.all_eq_true, decide_eq_true_eq]
section
variable {P : Program} {w : World} {K : PySem.W.Frag} {mg : Str → Option Value} {base : Heap}
def spNote : Sp := fun vs H Q _ => ∃ (p : Addr) (g : Str) (n : Nat), vs = [.ref p, .str g, .int n] ∧ Pot H p ∧ strSigns g = true ∧ n ≤ 100 ∧ ∀ (y : Str) H', isLine g (.str y) = true → y.length ≤ n → But [p] H H' → Pot H' p → Q (.str y) H'
theorem scNo : FnScope ["pot", "abc", "most", "turn"] ["pot", "abc", "most"] (defScope (top 48)) := ⟨rfl, rfl, rfl, by decide +kernel, rfl, by decide +kernel, by decide +kernel⟩
theorem d_note (B : Blt mg base) (D : At K mg "_law_note" (top 48)) (D0 : Def P w K mg base 1 "_law_draw" (top 44) drPs spDraw) (D1 : Def P w K mg base 2 "_law_pick" (top 45) piPs (spPick K)) :
    Def P w K mg base 3 "_law_note" (top 48) ["pot", "abc", "most"] spNote := by
  refine def_of D B scNo (fun vs H Q E ⟨_, _, _, e, _⟩ => by rw [e]; rfl) fun f cdv A outer s H vs Q E hm C h => ?_
  obtain ⟨p, g, n, rfl, hp, hg, hn, hQ⟩ := h
  have gl := strSigns_len hg
  refine b_cons (s_ret (e_join (e_str ⟨"", rfl, e_lc [("turn", 3)] C (i_range1 B (e_call (C.mono (by decide)) D0 (a_cons (e_name 0 (a_cons (e_bin (e_name 2 (e_int (o_add (a_nil ?_)))))))) rfl (fun _ _ _ _ _ _ us hl => match us, hl with | [_, _], _ => rfl)))⟩)))
  refine ⟨p, n + 1, rfl, hp, by omega, by omega, fun r H1 r0 r1 b1 hp1 => ?_⟩
  obtain ⟨m, rfl⟩ := Int.eq_ofNat_of_zero_le r0
  refine ⟨m, rfl, by omega, by omega, m, _, _, walk_range, fun Dl hDl => ?_⟩
  have nDp : Dl ≠ p := hp1.there hDl
  refine ⟨fun i H' => But [p] H1 H' ∧ Pot H' p ∧ ∃ ys : List Nat, ys.length = i ∧ (∀ c ∈ ys, c ∈ g.cps.toList) ∧ H' Dl = some (.lst (ys.map fun c => .str ⟨#[c]⟩)), ⟨But.new hDl, hp1.new (But.new hDl), [], rfl, fun c hc => by simp at hc, upd_same⟩, fun _ _ _ _ => trivial, ?_, ?_⟩
  · rintro i x H5 H' hi ⟨b5, hp5, ys, hy, hyg, hD5⟩ ⟨rfl, rfl⟩
    refine lc_plain (i := 3) C.nd fun s H0 Ca cl fp => ?_
    refine e_call (C.blk _ _ _ _ _) D1 (a_cons (e_name 0 (a_cons (e_name 1 (a_nil ?_))))) rfl (fun _ _ _ _ _ _ us hl => match us, hl with | [_, _], _ => rfl)
    refine ⟨p, hp5, .inr ⟨g, rfl, by omega, by omega, fun c hc H6 b6 hp6 => ?_⟩⟩
    refine ⟨_, b6 _ _ (by simpa using nDp) hD5, by rw [sizeLine_eq, List.length_map]; omega, fun q o nq e => ?_, hp6.upd nDp, ys ++ [c], by simp [hy], ?_, ?_⟩
    · rw [upd_ne (ne_of_none e hDl)]
      exact b6 _ _ nq (b5 _ _ nq e)
    · intro c' hc'
      rcases List.mem_append.mp hc' with h | h
      · exact hyg c' h
      · rw [List.mem_singleton.mp h]; exact hc
    · rw [upd_same]; simp
  · rintro H5 ⟨b5, hp5, ys, hy, hyg, hD5⟩
    have e1 : (ys.map fun c => (⟨#[c]⟩ : Str)) = (ys.map fun c => [c]).map sOf := by rw [List.map_map]; rfl
    refine ⟨Dl, ys.map fun c => (⟨#[c]⟩ : Str), rfl, .inl (.inl (.inl (by rw [hD5, List.map_map]; rfl))), ?_, ?_⟩
    · rw [ones_sum]
      show ys.length + _ * 0 ≤ _
      omega
    rw [e1, Z.join_nil, ones_flat]
    exact hQ (sOf ys) H5 (line_sub.mpr (by rw [sOf_list]; exact hyg)) (by rw [sOf_len]; omega) (b1.trans b5) hp5
/-! ### signs drawn -/
def poolL : List Nat := ("-.0123456789=>abcdefghijklmnopqrstuvwxyz|" : Str).cps.toList
theorem pool_known : ∀ c ∈ poolL, c ∈ known.cps.toList := by decide +kernel
theorem pool_nodup : poolL.Nodup := by decide +kernel
theorem pool_len : poolL.length = 41 := by decide +kernel
abbrev oneS (c : Nat) : Str := ⟨#[c]⟩
theorem asc_of : ∀ {gs : List Nat}, gs.Nodup → sortedS (gs.map oneS) = true → ascends gs = true
  | [], _, _ => rfl
  | [_], _, _ => rfl
  | a :: b :: r, hn, hs => by
    have e : sortedS ((a :: b :: r).map oneS) = (!ltCps [b] [a] && sortedS ((b :: r).map oneS)) := rfl
    rw [e, Bool.and_eq_true] at hs
    have h1 : ltCps [b] [a] = false := by simpa using hs.1
    simp only [ltCps, Bool.and_false, Bool.or_false, decide_eq_false_iff_not] at h1
    have hn2 := List.nodup_cons.mp hn
    have hne : a ≠ b := fun z => hn2.1 (by rw [z]; simp)
    simp only [ascends, Bool.and_eq_true, decide_eq_true_eq]
    exact ⟨by omega, asc_of hn2.2 hs.2⟩
def spAbc : Sp := fun vs H Q _ => ∃ (p : Addr), vs = [.ref p, .int 4] ∧ Pot H p ∧ ∀ (g : Str) H', strSigns g = true → But [p] H H' → Pot H' p → Q (.str g) H'
theorem scAb : FnScope ["pot", "most", "pool", "found", "turn"] ["pot", "most"] (defScope (top 47)) := ⟨rfl, rfl, rfl, by decide +kernel, rfl, by decide +kernel, by decide +kernel⟩
theorem d_abc (B : Blt mg base) (D : At K mg "_law_abc" (top 47)) (D0 : Def P w K mg base 1 "_law_draw" (top 44) drPs spDraw) : Def P w K mg base 2 "_law_abc" (top 47) ["pot", "most"] spAbc := by
  refine def_of D B scAb (fun vs H Q E ⟨_, e, _⟩ => by rw [e]; rfl) fun f cdv A outer s H vs Q E hm C h => ?_
  obtain ⟨p, rfl, hp, hQ⟩ := h
  have sz : ∀ n, n ≤ 16777216 → n ≤ sizeLine := fun n h => by rw [sizeLine_eq]; exact h
  refine b_cons (s_par (i := 2) (j := 3) C (a_cons (e_listS C (e_str ⟨_, rfl, sz _ (by decide), fun lq hlq => a_cons (e_lst (a_nil ⟨sz 0 (by decide), fun fq hfq => a_nil ⟨_, _, rfl, ?_⟩⟩))⟩))))
  have b1 : But [] H (upd H lq (.lst (poolL.map fun c => .str (oneS c)))) := But.new hlq
  have b2 : But [] (upd H lq (.lst (poolL.map fun c => .str (oneS c)))) (upd (upd H lq (.lst (poolL.map fun c => .str (oneS c)))) fq (.lst [])) := But.new hfq
  have hl : upd (upd H lq (.lst (poolL.map fun c => .str (oneS c)))) fq (.lst []) lq = some (.lst (poolL.map fun c => .str (oneS c))) := b2 _ _ (by simp) upd_same
  have hf : upd (upd H lq (.lst (poolL.map fun c => .str (oneS c)))) fq (.lst []) fq = some (.lst (([] : List Nat).map fun c => .str (oneS c))) := upd_same
  have b12 := b1.trans b2
  have nlp := hp.there hlq
  have nfp := (hp.new b1).there hfq
  have nlf : lq ≠ fq := ne_of_none (H := upd H lq (.lst (Z.signs _))) upd_same hfq
  show wB _ _ _ [some (.ref p), some (.int 4), some (.ref lq), some (.ref fq), none] (upd (upd H lq (.lst (poolL.map fun c => .str (oneS c)))) fq (.lst []))
  generalize upd (upd H lq (.lst (poolL.map fun c => .str (oneS c)))) fq (.lst []) = H2 at hl hf b12 b2 ⊢
  have hp2 := hp.new b12
  have hfqH : H fq = none := b1.free hfq
  refine b_cons (s_for C (i_range1 B (e_bin (e_int (e_call (C.mono (by decide)) D0 (a_cons (e_name 0 (v := .ref p) (a_cons (e_bin (e_name 1 (v := .int 4) (e_int (o_sub (a_nil ?_)))))))) rfl (fun _ _ _ _ _ _ us hl => match us, hl with | [_, _], _ => rfl))))))
  refine ⟨p, 3, rfl, hp2, by decide, by decide, fun r H3 r0 r1 b3 hp3 => o_add ⟨_, rfl, by omega, by omega, ?_⟩⟩
  obtain ⟨n, rfl⟩ := Int.eq_ofNat_of_zero_le r0
  have nl1 : lq ∉ [p] := by simpa using nlp
  have nf1 : fq ∉ [p] := by simpa using nfp
  refine ⟨_, _, _, walk_range, fun i σ H' => (∃ v4, σ = [some (.ref p), some (.int 4), some (.ref lq), some (.ref fq), v4]) ∧ But [p] H H' ∧ Pot H' p ∧ ∃ cs fs : List Nat, H' lq = some (.lst (cs.map fun c => .str (oneS c))) ∧ H' fq = some (.lst (fs.map fun c => .str (oneS c))) ∧ fs.length = i ∧ (fs ++ cs).Perm poolL,
    ⟨⟨none, rfl⟩, b12.of.trans b3, hp3, poolL, [], b3 _ _ nl1 hl, b3 _ _ nf1 hf, rfl, List.Perm.refl _⟩, fun _ _ _ _ _ => trivial, ?_, ?_⟩
  · rintro i x σ H4 H1 hi ⟨⟨v4, rfl⟩, b1, hp1, cs, fs, hl, hf, hfl, hpm⟩ ⟨rfl, rfl⟩
    have hcl : fs.length + cs.length = 41 := by have := hpm.length_eq; rw [List.length_append, pool_len] at this; exact this
    refine g_name (i := 4) ?_ C.nd
    refine b_cons (s_expr (e_append (e_name 3 (v := .ref fq) ⟨fq, rfl, ⟨_, hf⟩, e_popAt (e_name 2 (v := .ref lq) ⟨lq, rfl, ⟨_, hl⟩, e_call (C.mono (by decide)) D0 (a_cons (e_name 0 (v := .ref p) (a_cons (e_len B (e_name 2 (v := .ref lq) ⟨cs.length, .inl ⟨_, .inl (.inl hl), by simp⟩, a_nil ?_⟩))))) rfl (fun _ _ _ _ _ _ us hl => match us, hl with | [_, _], _ => rfl)⟩)⟩)))
    refine ⟨p, cs.length, rfl, hp1, by omega, by omega, fun r5 H5 r0 r1 b5 hp5 => ?_⟩
    obtain ⟨j, rfl⟩ := Int.eq_ofNat_of_zero_le r0
    have hj : j < cs.length := by omega
    have hl5 := b5 _ _ nl1 hl
    have hf5 := b5 _ _ nf1 hf
    refine ⟨_, j, .str (oneS cs[j]), rfl, hl5, by rw [List.length_map]; omega, by rw [List.getElem?_map, List.getElem?_eq_getElem hj]; rfl, ?_⟩
    have hf6 : upd H5 lq (.lst ((cs.map fun c => V.str (oneS c)).eraseIdx j)) fq = some (.lst (fs.map fun c => .str (oneS c))) := by rw [upd_ne nlf.symm]; exact hf5
    have hl6 : upd H5 lq (.lst ((cs.map fun c => V.str (oneS c)).eraseIdx j)) lq = some (.lst ((cs.eraseIdx j).map fun c => .str (oneS c))) := by rw [upd_same, erase_map]
    refine ⟨_, hf6, by rw [sizeLine_eq, List.length_map]; omega, b_nil ⟨⟨_, rfl⟩, fun a o na e => ?_, (hp5.upd nlp).upd nfp, cs.eraseIdx j, fs ++ [cs[j]], by rw [upd_ne nlf]; exact hl6, by rw [upd_same, List.map_append]; rfl, by simp [hfl], ?_⟩⟩
    · rw [upd_ne (ne_of_none e hfqH), upd_ne (ne_of_none e hlq)]
      exact b5 _ _ na (b1 _ _ na e)
    · refine List.Perm.trans ?_ hpm
      rw [List.append_assoc]
      refine List.Perm.append_left fs ?_
      exact erase_perm cs j hj
  · rintro σ H4 ⟨⟨v4, rfl⟩, b4, hp4, cs, fs, hl, hf, hfl, hpm⟩
    have hnd : (fs ++ cs).Nodup := hpm.nodup_iff.mpr pool_nodup
    have hfn : fs.Nodup := (List.nodup_append.mp hnd).1
    have hfk : ∀ c ∈ fs, c ∈ known.cps.toList := fun c hc => pool_known c (hpm.mem_iff.mp (List.mem_append_left _ hc))
    refine b_cons (s_ret (e_join (e_str ⟨"", rfl, e_sortedS B (e_name 3 (v := .ref fq) ⟨fq, fs.map oneS, rfl, .inl (.inl (by rw [hf, List.map_map]; rfl)), by rw [List.length_map]; omega, fun ys sq hpy hso hsq => ?_⟩)⟩)))
    obtain ⟨gs, rfl, hgp⟩ : ∃ gs : List Nat, ys = gs.map oneS ∧ gs.Perm fs := perm_map hpy
    have hgl := hgp.length_eq
    have e1 : (gs.map oneS) = (gs.map fun c => [c]).map sOf := by rw [List.map_map]; rfl
    refine ⟨sq, gs.map oneS, rfl, .inl (.inl (.inl upd_same)), by rw [ones_sum]; show gs.length + _ * 0 ≤ _; omega, ?_⟩
    have bs : But [] H4 (upd H4 sq (.lst ((gs.map oneS).map V.str))) := But.new hsq
    generalize upd H4 sq (.lst ((gs.map oneS).map V.str)) = H5 at bs ⊢
    rw [e1, Z.join_nil, ones_flat]
    refine hQ (sOf gs) _ ?_ (b4.trans bs.of) (hp4.new bs)
    have has := asc_of (hgp.nodup_iff.mpr hfn) hso
    simp only [strSigns, sOf_len, sOf_list, has, Bool.and_true, Bool.and_eq_true, decide_eq_true_eq, List.all_eq_true]
    exact ⟨⟨by omega, by omega⟩, fun c hc => hfk c (hgp.mem_iff.mp hc)⟩
end
end K21

set_option Elab.async false
set_option linter.all false
set_option maxRecDepth 100000
set_option maxHeartbeats 4000000
/-! a statement in the middle: what holds after it, then the rest -/
namespace Z
open PySem PySem.Spec PyProof.Rows L2
variable {X : Cx} {st : Stmt} {sts : List Stmt} {σ : L2.St} {H : Hp}
theorem wS_mono {D D' : Ends} (h : wS X st D σ H) (k1 : ∀ σ' H', D.nx σ' H' → D'.nx σ' H') (k2 : ∀ v H', D.rt v H' → D'.rt v H') (k3 : ∀ σ' H', D.bk σ' H' → D'.bk σ' H') (k4 : ∀ σ' H', D.ct σ' H' → D'.ct σ' H') : wS X st D' σ H :=
  ⟨fun pins s I => thn (h.run pins s I) fun f s' q => by
    cases f with
    | next => obtain ⟨σ', H', I', q⟩ := q; exact ⟨σ', H', I', k1 _ _ q⟩
    | brk => obtain ⟨σ', H', I', q⟩ := q; exact ⟨σ', H', I', k3 _ _ q⟩
    | cont => obtain ⟨σ', H', I', q⟩ := q; exact ⟨σ', H', I', k4 _ _ q⟩
    | ret u => obtain ⟨v, σ', H', I', r, q⟩ := q; exact ⟨v, σ', H', I', r, k2 _ _ q⟩⟩
theorem b_mid {D : Ends} (M : L2.St → Hp → Prop) (h : wS X st { D with nx := M } σ H) (k : ∀ σ' H', M σ' H' → wB X sts D σ' H') : wB X (st :: sts) D σ H :=
  b_cons (wS_mono h k (fun _ _ q => q) (fun _ _ q => q) (fun _ _ q => q))
theorem Ty1.but {K : PySem.W.Frag} {H H' : Hp} {v : V} {T : String} (h : Ty1 K H v T) (b : But [] H H') : Ty1 K H' v T := by
  cases h with
  | non => exact .non
  | bl b => exact .bl b
  | int i => exact .int i
  | str x => exact .str x
  | lst h => exact .lst (b.sql (by simp) h)
  | tup h => exact .tup (b.sqt (by simp) h)
  | dct h => exact .dct (b _ _ (by simp) h)
end Z

set_option Elab.async false
set_option linter.all false
set_option maxRecDepth 100000
set_option maxHeartbeats 4000000
namespace K21
open PySem PySem.Spec PyProof.Rows L2 Z
/-! ### rules drawn -/
structure okS (g : Str) (b : Nat) (r : Rule) : Prop where
  o : isLine g (.str r.old) = true
  n : isLine g (.str r.new) = true
  ol : r.old.length ≤ b
  nl : r.new.length ≤ b
theorem okS.mono {g : Str} {n m : Nat} {r : Rule} (h : okS g n r) (hm : n ≤ m) : okS g m r := ⟨h.o, h.n, Nat.le_trans h.ol hm, Nat.le_trans h.nl hm⟩
theorem okS.rule {g : Str} {n : Nat} {r : Rule} (h : okS g n r) (hm : n ≤ 40) : okRule g r := ⟨h.o, h.n, Nat.le_trans h.ol hm, Nat.le_trans h.nl hm⟩
structure IsDeals (rs : List Rule) (H : Hp) (q : Addr) : Prop where
  ex : ∃ vs, H q = some (.lst vs) ∧ DDs [] [] H vs (rulesD rs)
theorem rulesAll (rs : List Rule) : tupOnlyAll (rulesD rs) = true := tupOnlyAll_of fun d hd => by
  obtain ⟨r, _, rfl⟩ := List.mem_map.mp hd
  rfl
theorem rules_exL {rs : List Rule} {l : List Addr} {H H' : Hp} {vs : List V} (h : DDs [] [] H vs (rulesD rs)) (b : Ex l H H') (hl : ∀ q ∈ l, ∃ ys, H q = some (.lst ys)) : DDs [] [] H' vs (rulesD rs) := dds_lists b hl h (rulesAll rs)
theorem IsDeals.exL {rs : List Rule} {l : List Addr} {H H' : Hp} {q : Addr} (h : IsDeals rs H q) (b : Ex l H H') (hl : ∀ q ∈ l, ∃ ys, H q = some (.lst ys)) (n : q ∉ l) : IsDeals rs H' q := let ⟨vs, h1, h2⟩ := h.ex; ⟨vs, b.lst n h1, rules_exL h2 b hl⟩
theorem IsDeals.ext {rs : List Rule} {H H' : Hp} {q : Addr} (h : IsDeals rs H q) (b : Ex [] H H') : IsDeals rs H' q := h.exL b (by simp) (by simp)
theorem IsDeals.but {rs : List Rule} {H H' : Hp} {q : Addr} (h : IsDeals rs H q) (b : But [] H H') : IsDeals rs H' q := h.ext b.ex
theorem rules_head {K : PySem.W.Frag} {l : List Addr} {H : Hp} {rs : List Rule} {a b : Int} {vs : List V} (h : DDs K l H vs (rulesD rs)) : vs ≠ [.int a, .int b] := fun z => by
  rw [z] at h
  cases rs with
  | nil => cases h
  | cons r rs => cases h with | cons h1 h2 => cases h1
theorem IsDeals.nep {rs : List Rule} {H : Hp} {q p : Addr} (h : IsDeals rs H q) (hp : Pot H p) : q ≠ p := let ⟨vs, h1, h2⟩ := h.ex; hp.ne h1 fun a b z => rules_head h2 (HO.lst.inj z)
theorem IsDeals.pot {rs : List Rule} {H H' : Hp} {q p : Addr} (h : IsDeals rs H q) (hp : Pot H p) (b : Ex [p] H H') : IsDeals rs H' q := h.exL b hp.lsts (by simpa using h.nep hp)
theorem IsDeals.dd {rs : List Rule} {H : Hp} {q : Addr} (h : IsDeals rs H q) : DD [] [] H (.ref q) (.list (rulesD rs)) := let ⟨vs, h1, h2⟩ := h.ex; .lst (.inl (.inl h1)) (by simp) h2
theorem IsDeals.rules {K : PySem.W.Frag} {rs : List Rule} {H : Hp} {q : Addr} (h : IsDeals rs H q) : IsRules K rs [] H (.ref q) := ⟨_, h.dd.all, rfl, rfl⟩
theorem cut_line {g x : Str} {lo hi : Option Int} (h : isLine g (.str x) = true) : isLine g (.str (cutS x lo hi)) = true := by
  rw [line_sub] at h ⊢
  unfold cutS
  intro c hc
  have hc : c ∈ (x.cps.toList.drop (HT.sIx x.length 0 lo)).take (HT.sIx x.length x.length hi - HT.sIx x.length 0 lo) := by simpa using hc
  exact h c (List.mem_of_mem_drop (List.mem_of_mem_take hc))
theorem rev_line {g x : Str} (h : isLine g (.str x) = true) : isLine g (.str (revS x)) = true := by
  rw [line_sub] at h ⊢
  unfold revS
  rw [sOf_list]
  exact fun c hc => h c (by simpa using hc)
theorem rev_len (x : Str) : (revS x).length = x.length := by rw [revS, sOf_len, List.length_reverse]; exact lenL x
section
variable {P : Program} {w : World} {K : PySem.W.Frag} {mg : Str → Option Value} {base : Heap}
def spDeals : Sp := fun vs H Q _ => ∃ (p : Addr) (g : Str) (lot : Nat), vs = [.ref p, .str g, .int lot, .int 2] ∧ Pot H p ∧ strSigns g = true ∧ lot ≤ 20 ∧ ∀ q rs H', But [p] H H' → Pot H' p → H q = none → IsDeals rs H' q → (∀ r ∈ rs, okS g 3 r) → rs.length ≤ lot → Q (.ref q) H'
theorem scDe : FnScope ["pot", "abc", "lot", "most", "found", "turn", "old", "way", "letter", "new"] ["pot", "abc", "lot", "most"] (defScope (top 49)) := ⟨rfl, rfl, rfl, by decide +kernel, rfl, by decide +kernel, by decide +kernel⟩
theorem d_deals (B : Blt mg base) (D : At K mg "_law_deals" (top 49)) (D0 : Def P w K mg base 1 "_law_draw" (top 44) drPs spDraw) (D1 : Def P w K mg base 2 "_law_pick" (top 45) piPs (spPick K))
    (D2 : Def P w K mg base 3 "_law_note" (top 48) ["pot", "abc", "most"] spNote) : Def P w K mg base 4 "_law_deals" (top 49) ["pot", "abc", "lot", "most"] spDeals := by
  refine def_of D B scDe (fun vs H Q E ⟨_, _, _, e, _⟩ => by rw [e]; rfl) fun f cdv A outer s H vs Q E hm C h => ?_
  obtain ⟨p, g, lot, rfl, hp, hg, hlot, hQ⟩ := h
  have gl := strSigns_len hg
  have sz : ∀ n, n ≤ 16777216 → n ≤ sizeLine := fun n h => by rw [sizeLine_eq]; exact h
  refine b_cons (s_set (i := 4) (e_lst (a_nil ⟨sz 0 (by decide), fun fq hfq => ?_⟩)) C.nd)
  have bf : But [] H (upd H fq (.lst [])) := But.new hfq
  have nfp := hp.there hfq
  have nf1 : fq ∉ [p] := by simpa using nfp
  refine b_cons (s_for C (i_range1 B (e_call (C.mono (by decide)) D0 (a_cons (e_name 0 (v := .ref p) (a_cons (e_bin (e_name 2 (v := .int lot) (e_int (o_add (a_nil ?_)))))))) rfl (fun _ _ _ _ _ _ us hl => match us, hl with | [_, _], _ => rfl))))
  refine ⟨p, lot + 1, rfl, hp.new bf, by omega, by omega, fun r H1 r0 r1 b1 hp1 => ?_⟩
  obtain ⟨n, rfl⟩ := Int.eq_ofNat_of_zero_le r0
  refine ⟨_, rfl, by omega, by omega, ?_⟩
  refine ⟨_, _, _, walk_range, fun i σ H' => (∃ v5 v6 v7 v8 v9, σ = [some (.ref p), some (.str g), some (.int lot), some (.int 2), some (.ref fq), v5, v6, v7, v8, v9]) ∧ But [p] H H' ∧ Pot H' p ∧ ∃ rs, IsDeals rs H' fq ∧ rs.length = i ∧ ∀ r ∈ rs, okS g 3 r,
    ⟨⟨none, none, none, none, none, rfl⟩, bf.of.trans b1, hp1, [], ⟨[], b1 _ _ nf1 upd_same, .nil⟩, rfl, by simp⟩, fun _ _ _ _ _ => trivial, ?_, ?_⟩
  · rintro i x σ H2 H1 hi ⟨⟨v5, v6, v7, v8, v9, rfl⟩, b1, hp1, rs, hrs, hrl, hok⟩ ⟨rfl, rfl⟩
    refine g_name (i := 5) ?_ C.nd
    refine b_cons (s_par (i := 6) (j := 7) C (a_cons (e_call C D2 (a_cons (e_name 0 (v := .ref p) (a_cons (e_name 1 (v := .str g) (a_cons (e_name 3 (v := .int 2) (a_nil ?_))))))) rfl (fun _ _ _ _ _ _ us hl => match us, hl with | [_, _, _], _ => rfl))))
    refine ⟨p, g, 2, rfl, hp1, hg, by decide, fun old H3 ho hol b3 hp3 => ?_⟩
    refine a_cons (e_call (C.mono (by decide)) D0 (a_cons (e_name 0 (v := .ref p) (a_cons (e_int (a_nil ?_))))) rfl (fun _ _ _ _ _ _ us hl => match us, hl with | [_, _], _ => rfl))
    refine ⟨p, 5, rfl, hp3, by decide, by decide, fun way H4 r0 r1 b4 hp4 => a_nil ⟨_, _, rfl, ?_⟩⟩
    obtain ⟨way, rfl⟩ := Int.eq_ofNat_of_zero_le r0
    refine b_cons (s_par (i := 8) (j := 9) C (a_cons (e_call (C.mono (by decide)) D1 (a_cons (e_name 0 (v := .ref p) (a_cons (e_name 1 (v := .str g) (a_nil ?_))))) rfl (fun _ _ _ _ _ _ us hl => match us, hl with | [_, _], _ => rfl))))
    refine ⟨p, hp4, .inr ⟨g, rfl, by omega, by omega, fun c hc H5 b5 hp5 => ?_⟩⟩
    refine a_cons (e_call C D2 (a_cons (e_name 0 (v := .ref p) (a_cons (e_name 1 (v := .str g) (a_cons (e_int (a_nil ?_))))))) rfl (fun _ _ _ _ _ _ us hl => match us, hl with | [_, _, _], _ => rfl))
    refine ⟨p, g, 2, rfl, hp5, hg, by decide, fun new H6 hn hnl b6 hp6 => a_nil ⟨_, _, rfl, ?_⟩⟩
    have b16 : But [p] H1 H6 := b3.trans (b4.trans (b5.trans b6))
    have l1 : (⟨#[c]⟩ : Str).length = 1 := rfl
    have hrs6 := hrs.pot hp1 b16.ex
    have wl : way ≤ 4 := by omega
    refine b_mid (fun σ' H' => ∃ y : Str, σ' = [some (.ref p), some (.str g), some (.int lot), some (.int 2), some (.ref fq), some (.int (0 + (i : Int))), some (.str old), some (.int (way : Int)), some (.str ⟨#[c]⟩), some (.str y)] ∧ But [p] H1 H' ∧ Pot H' p ∧ isLine g (.str y) = true ∧ y.length ≤ 3) ?_ ?_
    · refine s_ifB (decide (way ≠ 0)) ?_ (fun e H7 b7 => ?_) (fun e H7 b7 => b_nil ⟨new, rfl, b16.trans b7.of, hp6.new b7, hn, by omega⟩)
      · refine t_cmp (e_name 7 (v := .int (way : Int)) (e_int (c_gt ⟨_, rfl, ?_, But.refl⟩)))
        rw [decide_eq_decide]; omega
      · have hw : way ≠ 0 := by simpa using e
        have l2 := cutS_length old (some (1 : Int)) none
        refine b_cons (s_set (i := 9) (e_ix (e_lst (a_cons (e_bin (e_name 8 (v := .str ⟨#[c]⟩) (e_name 6 (v := .str old) (o_adds (sz _ (by omega)) ?_)))))) ) C.nd)
        refine a_cons (e_slice sl_str (e_name 6 (v := .str old) (p_some (e_int ⟨1, rfl, p_none ⟨old, rfl, sz _ (by omega), ?_⟩⟩))))
        refine a_cons (e_bin (e_name 6 (v := .str old) (e_name 8 (v := .str ⟨#[c]⟩) (o_adds (sz _ (by omega)) ?_))))
        refine a_cons (e_revS (e_name 6 (v := .str old) ⟨old, rfl, sz _ (by omega), a_nil ⟨sz 4 (by decide), fun lq hlq => e_bin (e_name 7 (v := .int (way : Int)) (e_int (o_sub ?_)))⟩⟩))
        have b8 : But [] H7 (upd H7 lq (.lst [.str ((⟨#[c]⟩ : Str) ++ old), .str (cutS old (some 1) none), .str (old ++ ⟨#[c]⟩), .str (revS old)])) := But.new hlq
        have b9 := b7.trans b8
        have hlc : isLine g (.str ⟨#[c]⟩) = true := one_line hc
        have : way = 1 ∨ way = 2 ∨ way = 3 ∨ way = 4 := by omega
        rcases this with rfl | rfl | rfl | rfl
        · exact ix_l (.inl (.inl upd_same)) (v := .str ((⟨#[c]⟩ : Str) ++ old)) rfl (b_nil ⟨_, rfl, b16.trans b9.of, hp6.new b9, app_line hlc ho, by rw [app_len]; omega⟩)
        · exact ix_l (.inl (.inl upd_same)) (v := .str (cutS old (some 1) none)) rfl (b_nil ⟨_, rfl, b16.trans b9.of, hp6.new b9, cut_line ho, by omega⟩)
        · exact ix_l (.inl (.inl upd_same)) (v := .str (old ++ ⟨#[c]⟩)) rfl (b_nil ⟨_, rfl, b16.trans b9.of, hp6.new b9, app_line ho hlc, by rw [app_len]; omega⟩)
        · exact ix_l (.inl (.inl upd_same)) (v := .str (revS old)) rfl (b_nil ⟨_, rfl, b16.trans b9.of, hp6.new b9, rev_line ho, by rw [rev_len]; omega⟩)
    · rintro σ' H7 ⟨y, rfl, b17, hp7, hy, hyl⟩
      obtain ⟨vs7, hv7, hd7⟩ := (hrs.pot hp1 b17.ex).ex
      refine b_cons (s_expr (e_append (e_name 4 (v := .ref fq) ⟨fq, rfl, ⟨_, hv7⟩, e_tup (a_cons ?_)⟩)))
      refine e_call (C.mono (by decide)) D1 (a_cons (e_name 0 (v := .ref p) (a_cons (e_lst (a_cons (e_str (a_cons (e_str (a_cons (e_str (a_nil ⟨sz 3 (by decide), fun kq hkq => a_nil ?_⟩))))))))))) rfl (fun _ _ _ _ _ _ us hl => match us, hl with | [_, _], _ => rfl)
      have bk : But [] H7 (upd H7 kq (.lst [.str "front", .str "front", .str "whole"])) := But.new hkq
      refine ⟨p, hp7.new bk, .inl ⟨kq, _, rfl, (hp7.there hkq), .inl (.inl (.inl upd_same)), by decide, by decide, fun v hv H8 b8 hp8 => ?_⟩⟩
      obtain ⟨fr, rfl⟩ : ∃ fr, v = .str (kd fr) := by
        simp only [List.mem_cons, List.not_mem_nil, or_false] at hv
        rcases hv with rfl | rfl | rfl
        · exact ⟨true, rfl⟩
        · exact ⟨true, rfl⟩
        · exact ⟨false, rfl⟩
      refine a_cons (e_name 6 (v := .str old) (a_cons (e_name 9 (v := .str y) (a_nil ⟨sz 3 (by decide), fun tq htq => ?_⟩))))
      have bt : But [] H8 (upd H8 tq (.tup [.str (kd fr), .str old, .str y])) := But.new htq
      have b79 := bk.of.trans (b8.trans bt.of)
      have hd9 := IsDeals.pot ⟨vs7, hv7, hd7⟩ hp7 b79.ex
      obtain ⟨vs9, hv9, hd9⟩ := hd9.ex
      have hp9 := hp8.new bt
      have nfp' := IsDeals.nep ⟨vs9, hv9, hd9⟩ hp9
      have hn9 : vs9.length = i := by rw [hd9.length, rulesD, List.length_map, hrl]
      have htt : upd H8 tq (.tup [.str (kd fr), .str old, .str y]) tq = some (.tup [.str (kd fr), .str old, .str y]) := upd_same
      generalize upd H8 tq (.tup [.str (kd fr), .str old, .str y]) = H9 at bt b79 hp9 hv9 hd9 htt ⊢
      have ht9 : DD [] [] H9 (.ref tq) (ruleD ⟨fr, old, y⟩) := .tup (.inl (.inl htt)) (by simp) (.cons (.str _) (.cons (.str _) (.cons (.str _) .nil)))
      have bE : Ex [fq] H9 (upd H9 fq (.lst (vs9 ++ [.ref tq]))) := (But.at (by simp)).ex
      have lE : ∀ q ∈ [fq], ∃ ys, H9 q = some (.lst ys) := fun q hq => by rw [List.mem_singleton.mp hq]; exact ⟨_, hv9⟩
      refine ⟨vs9, hv9, by rw [hn9, sizeLine_eq]; omega, b_nil ⟨⟨_, _, _, _, _, rfl⟩, fun a o na e => ?_, hp9.upd nfp', rs ++ [⟨fr, old, y⟩], ⟨_, upd_same, ?_⟩, by simp [hrl], fun r hr => ?_⟩⟩
      · rw [upd_ne (ne_of_none e hfq)]
        exact b79 _ _ na (b17 _ _ na (b1 _ _ na e))
      · rw [rulesD, List.map_append]
        exact DDs.append (rules_exL hd9 bE lE) (.cons (dd_lists bE lE ht9 rfl) .nil)
      · rcases List.mem_append.mp hr with h | h
        · exact hok r h
        · rw [List.mem_singleton.mp h]; exact ⟨ho, hy, by show old.length ≤ 3; omega, hyl⟩
  · rintro σ H2 ⟨⟨v5, v6, v7, v8, v9, rfl⟩, b2, hp2, rs, hrs, hrl, hok⟩
    exact b_cons (s_ret (e_name 4 (v := .ref fq) (hQ fq rs H2 b2 hp2 hfq hrs hok (by omega))))
end
end K21

set_option Elab.async false
set_option linter.all false
set_option maxRecDepth 100000
set_option maxHeartbeats 4000000
namespace K21
open PySem PySem.Spec PyProof.Rows L2 Z
/-! ### what is due -/
theorem cut_take (x : Str) (n : Nat) : (cutS x none (some (n : Int))).cps.toList = x.cps.toList.take n := by
  have e : cutS x none (some (n : Int)) = sOf ((x.cps.toList.drop 0).take (min n x.length)) := by
    unfold cutS
    rw [HT.sIx_nat, HT.sIx_none, Nat.sub_zero]
    rfl
  rw [e, sOf_list, List.drop_zero, ← lenL x, List.take_eq_take_iff]
  omega
theorem strEq {x y : Str} : x = y ↔ x.cps.toList = y.cps.toList := by
  refine ⟨fun e => by rw [e], fun e => ?_⟩
  cases x; cases y
  simp only [Str.mk.injEq]
  exact Array.ext' e
theorem head_fits (r : Rule) (x : Str) : decide (V.str (cutS x none (some (r.old.length : Int))) = .str r.old) = decide (x.cps.toList.take r.old.length = r.old.cps.toList) := by
  rw [decide_eq_decide, V.str.injEq, strEq, cut_take]
theorem lines_sum {g : Str} {n : Nat} {ys : List Str} (h : ∀ y ∈ ys, isLine g (.str y) = true ∧ y.length ≤ n) : ∀ y ∈ ys, y.length ≤ n := fun y hy => (h y hy).2
theorem rules_mem {K : PySem.W.Frag} {l : List Addr} {H : Hp} {rs : List Rule} {vs ys : List V} (h : DDs K l H vs (rulesD rs)) (hy : ∀ y ∈ ys, y ∈ vs) : ∃ rs', DDs K l H ys (rulesD rs') ∧ ∀ r ∈ rs', r ∈ rs := by
  induction ys with
  | nil => exact ⟨[], .nil, by simp⟩
  | cons y ys ih =>
    obtain ⟨rs', h1, h2⟩ := ih fun z hz => hy z (List.mem_cons_of_mem _ hz)
    obtain ⟨i, hi⟩ := List.mem_iff_getElem?.mp (hy y (by simp))
    obtain ⟨dx, hdx, hD⟩ := h.get hi
    rw [rulesD, List.getElem?_map, Option.map_eq_some_iff] at hdx
    obtain ⟨r, hr, rfl⟩ := hdx
    refine ⟨r :: rs', .cons hD h1, fun s hs => ?_⟩
    rcases List.mem_cons.mp hs with rfl | hs
    · exact List.mem_of_getElem? hr
    · exact h2 s hs
section
variable {P : Program} {w : World} {K : PySem.W.Frag} {mg : Str → Option Value} {base : Heap}
def spTurn : Sp := fun vs H Q _ => ∃ (q : Addr) (rs : List Rule) (x : Str), vs = [.ref q, .str x] ∧ IsDeals rs H q ∧ (∀ r ∈ rs, r.old.length ≤ 100 ∧ r.new.length ≤ 100) ∧ x.length ≤ 100000 ∧ ∀ H', But [] H H' → Q (.str (turnR rs x)) H'
theorem scLt : FnScope ["deals", "note", "kind", "old", "new"] ["deals", "note"] (defScope (top 50)) := ⟨rfl, rfl, rfl, by decide +kernel, rfl, by decide +kernel, by decide +kernel⟩
theorem d_lturn (B : Blt mg base) (D : At K mg "_law_turn" (top 50)) : Def P w K mg base 1 "_law_turn" (top 50) ["deals", "note"] spTurn := by
  refine def_of D B scLt (fun vs H Q E ⟨_, _, _, e, _⟩ => by rw [e]; rfl) fun f cdv A outer s H vs Q E hm C h => ?_
  obtain ⟨q, rs, x, rfl, hq, hlen, hx, hQ⟩ := h
  obtain ⟨xs, hv, hds⟩ := hq.ex
  have sz : ∀ n, n ≤ 16777216 → n ≤ sizeLine := fun n h => by rw [sizeLine_eq]; exact h
  have es : ∀ a b : Str, decide (V.str a = V.str b) = decide (a = b) := fun a b => by rw [decide_eq_decide, V.str.injEq]
  have hvl : xs.length = rs.length := by rw [hds.length, rulesD, List.length_map]
  refine b_cons (s_for C (i_list (e_name 0 (v := .ref q) ⟨q, rfl, ⟨_, .inl (.inl hv)⟩, _, _, _, walk_list (xs := xs), fun i σ H' => (∃ v2 v3 v4, σ = [some (.ref q), some (.str x), v2, v3, v4]) ∧ But [] H H' ∧ ∀ r ∈ rs.take i, fitsR r x = false, ⟨⟨none, none, none, rfl⟩, But.refl, by simp⟩, fun i σ H' _ h => .inl (.inl (h.2.1 _ _ (by simp) hv)), ?_, ?_⟩)))
  · rintro i y σ H2 H3 hi2 ⟨⟨v2, v3, v4, rfl⟩, b2, hno⟩ ⟨rfl, hy⟩
    obtain ⟨dx, hdx, hD⟩ := hds.get hy
    obtain ⟨r, hr, rfl⟩ : ∃ r, rs[i]? = some r ∧ ruleD r = dx := by
      have : (rs.map ruleD)[i]? = some dx := hdx
      rw [List.getElem?_map, Option.map_eq_some_iff] at this
      exact this
    have hl := hlen r (List.mem_of_getElem? hr)
    obtain ⟨t, rfl, nt, ht⟩ := dd_rule (hD.but (b2.mono (by simp)))
    refine g_tup (gs_cons (g_name (i := 2) (gs_cons (g_name (i := 3) (gs_cons (g_name (i := 4) (gs_nil ?_) C.nd)) C.nd)) C.nd)) rfl (sqt_all ht)
    refine b_cons (s_ifB (!r.fr && fitsR r x) ?_ (fun e H4 b4 => ?_) (fun e H4 b4 => b_nil ?_))
    · refine t_boolop (w_and (t_cmp (e_name 2 (v := .str (kd r.fr)) (e_str (c_eq rfl ⟨!r.fr, by (cases r.fr <;> rfl), ite_b (fun e3 => ?_) fun e3 => ⟨by rw [e3]; rfl, But.refl⟩⟩)))))
      refine w_and1 (t_cmp (e_name 1 (v := .str x) (e_name 3 (v := .str r.old) (c_eq rfl ⟨_, rfl, ?_, But.refl⟩))))
      have e4 : r.fr = false := by simpa using e3
      rw [es, e3, Bool.true_and, fitsR, if_neg (by rw [e4]; decide)]
    · simp only [Bool.and_eq_true, Bool.not_eq_true'] at e
      refine b_cons (s_ret (e_name 4 (v := .str r.new) ?_))
      have et : turnR rs x = r.new := by
        unfold turnR
        rw [find_take hno hr e.2]
        simp only [applyR, e.1, Bool.false_eq_true, if_false]
      rw [← et]
      exact hQ H4 (b2.trans b4)
    refine b_cons (s_ifB (r.fr && fitsR r x) ?_ (fun e2 H5 b5 => ?_) (fun e2 H5 b5 => b_nil (b_nil ⟨⟨_, _, _, rfl⟩, b2.trans (b4.trans b5), all_take hno hr ?_⟩)))
    · refine t_boolop (w_and (t_cmp (e_name 2 (v := .str (kd r.fr)) (e_str (c_eq rfl ⟨r.fr, by (cases r.fr <;> rfl), ite_b (fun e3 => ?_) fun e3 => ⟨by rw [e3]; rfl, But.refl⟩⟩)))))
      refine w_and1 (t_cmp (e_slice sl_str (e_name 1 (v := .str x) (p_none (p_some (e_len B (e_name 3 (v := .str r.old) ⟨r.old.length, ⟨sz _ (by omega), rfl⟩, r.old.length, rfl, x, rfl, sz _ (by omega), ?_⟩)))))))
      refine e_name 3 (v := .str r.old) (c_eq rfl ⟨_, rfl, ?_, But.refl⟩)
      rw [head_fits, e3, Bool.true_and, fitsR, if_pos e3]
    · simp only [Bool.and_eq_true] at e2
      refine b_cons (s_ret (e_bin (e_name 4 (v := .str r.new) (e_slice sl_str (e_name 1 (v := .str x) (p_some (e_len B (e_name 3 (v := .str r.old) ⟨r.old.length, ⟨sz _ (by omega), rfl⟩, r.old.length, rfl, p_none ⟨x, rfl, sz _ (by omega), ?_⟩⟩))))))))
      have := cutS_length x (some (r.old.length : Int)) none
      refine o_adds (by rw [sizeLine_eq]; omega) ?_
      have et : turnR rs x = r.new ++ cutS x (some (r.old.length : Int)) none := by
        unfold turnR
        rw [find_take hno hr e2.2]
        simp only [applyR, if_pos e2.1]
      rw [← et]
      exact hQ H5 (b2.trans (b4.trans b5))
    · cases hf : r.fr
      · rw [hf] at e; simpa using e
      · rw [hf] at e2; simpa using e2
  · rintro σ H2 ⟨⟨v2, v3, v4, rfl⟩, b2, hno⟩
    rw [hvl, List.take_length] at hno
    refine b_cons (s_ret (e_name 1 (v := .str x) ?_))
    have et : turnR rs x = x := by
      unfold turnR
      rw [List.find?_eq_none.mpr (fun y hy => by rw [hno y hy]; simp)]
    have := hQ H2 b2
    rwa [et] at this
/-! ### all short lines -/
def spNotes : Sp := fun vs H Q _ => ∃ (g : Str) (n : Nat), vs = [.str g, .int n] ∧ strSigns g = true ∧ n ≤ 4 ∧ ∀ q (ys : List Str) H', But [] H H' → H q = none → H' q = some (.lst (ys.map V.str)) → ys.length ≤ 512 → (∀ y ∈ ys, isLine g (.str y) = true ∧ y.length ≤ n) → Q (.ref q) H'
theorem scNs : FnScope ["abc", "most", "found", "last", "turn", "longer", "note", "letter"] ["abc", "most"] (defScope (top 51)) := ⟨rfl, rfl, rfl, by decide +kernel, rfl, by decide +kernel, by decide +kernel⟩
theorem d_notes (B : Blt mg base) (D : At K mg "_law_notes" (top 51)) : Def P w K mg base 1 "_law_notes" (top 51) ["abc", "most"] spNotes := by
  refine def_of D B scNs (fun vs H Q E ⟨_, _, e, _⟩ => by rw [e]; rfl) fun f cdv A outer s H vs Q E hm C h => ?_
  obtain ⟨g, n, rfl, hg, hn, hQ⟩ := h
  have gl := strSigns_len hg
  have sz : ∀ n, n ≤ 16777216 → n ≤ sizeLine := fun n h => by rw [sizeLine_eq]; exact h
  refine b_cons (s_par (i := 2) (j := 3) C (a_cons (e_lst (a_cons (e_str (a_nil ⟨sz 1 (by decide), fun fq hfq => a_cons (e_lst (a_cons (e_str (a_nil ⟨sz 1 (by decide), fun lq hlq => a_nil ⟨_, _, rfl, ?_⟩⟩))))⟩))))))
  have b1 : But [] H (upd H fq (.lst [.str ""])) := But.new hfq
  have b2 : But [] (upd H fq (.lst [.str ""])) (upd (upd H fq (.lst [.str ""])) lq (.lst [.str ""])) := But.new hlq
  have hf2 : upd (upd H fq (.lst [.str ""])) lq (.lst [.str ""]) fq = some (.lst (([""] : List Str).map V.str)) := b2 _ _ (by simp) upd_same
  have hl2 : upd (upd H fq (.lst [.str ""])) lq (.lst [.str ""]) lq = some (.lst (([""] : List Str).map V.str)) := upd_same
  have b12 := b1.trans b2
  show wB _ _ _ [some (.str g), some (.int (n : Int)), some (.ref fq), some (.ref lq), none, none, none, none] (upd (upd H fq (.lst [.str ""])) lq (.lst [.str ""]))
  generalize upd (upd H fq (.lst [.str ""])) lq (.lst [.str ""]) = H2 at hf2 hl2 b12 b2 ⊢
  have hem : isLine g (.str "") = true := rfl
  refine b_cons (s_for C (i_range1 B (e_name 1 (v := .int n) ⟨_, rfl, by omega, by omega, ?_⟩)))
  refine ⟨_, _, _, walk_range, fun i σ H' => (∃ fq lq v4 v5 v6 v7 ys zs, σ = [some (.str g), some (.int (n : Int)), some (.ref fq), some (.ref lq), v4, v5, v6, v7] ∧ H fq = none ∧ H' fq = some (.lst ((ys : List Str).map V.str)) ∧ H' lq = some (.lst ((zs : List Str).map V.str)) ∧ (∀ y ∈ ys, isLine g (.str y) = true ∧ y.length ≤ i) ∧ (∀ y ∈ zs, isLine g (.str y) = true ∧ y.length ≤ i) ∧ ys.length ≤ 2 * 4 ^ i ∧ zs.length ≤ 4 ^ i) ∧ But [] H H',
    ⟨⟨fq, lq, none, none, none, none, [""], [""], rfl, hfq, hf2, hl2, fun y hy => by rw [List.mem_singleton.mp hy]; exact ⟨hem, Nat.le_refl _⟩, fun y hy => by rw [List.mem_singleton.mp hy]; exact ⟨hem, Nat.le_refl _⟩, by decide, by decide⟩, b12⟩, fun _ _ _ _ _ => trivial, ?_, ?_⟩
  · rintro i x σ H4 H3 hi ⟨⟨fq, lq, v4, v5, v6, v7, ys, zs, rfl, hfn, hf, hl, hy, hz, hyl, hzl⟩, b3⟩ ⟨rfl, rfl⟩
    have hin : i < 4 := by omega
    have hp4 : 4 ^ i ≤ 4 ^ 3 := Nat.pow_le_pow_right (by decide) (by omega)
    have hp64 : 4 ^ i ≤ 64 := hp4
    have hgs : g.cps.size ≤ 4 := gl.1
    refine g_name (i := 4) ?_ C.nd
    refine b_cons (s_set (i := 5) (e_lst (a_nil ⟨sz 0 (by decide), fun mq hmq => ?_⟩)) C.nd)
    have b4 : But [] H3 (upd H3 mq (.lst [])) := But.new hmq
    refine b_cons (s_for C (i_list (e_name 3 (v := .ref lq) ⟨lq, rfl, ⟨_, .inl (.inl (b4 _ _ (by simp) hl))⟩, _, _, _, walk_list (xs := zs.map V.str), fun j σ H' => (∃ v6 v7, σ = [some (.str g), some (.int (n : Int)), some (.ref fq), some (.ref lq), some (.int (0 + (i : Nat))), some (.ref mq), v6, v7]) ∧ But [] H3 H' ∧ ∃ ws : List Str, H' mq = some (.lst (ws.map V.str)) ∧ ws.length = j * g.cps.size ∧ ∀ y ∈ ws, isLine g (.str y) = true ∧ y.length ≤ i + 1, ⟨⟨v6, v7, rfl⟩, b4, [], upd_same, by simp, by simp⟩, fun i σ H' _ h => .inl (.inl (h.2.1 _ _ (by simp) hl)), ?_, ?_⟩)))
    · rintro j y σ H5 H6 hj ⟨⟨v6, v7, rfl⟩, b5, ws, hw, hwl, hwo⟩ ⟨rfl, hyz⟩
      rw [List.getElem?_map, Option.map_eq_some_iff] at hyz
      obtain ⟨z, hzj, rfl⟩ := hyz
      have hzo := hz z (List.mem_of_getElem? hzj)
      rw [List.length_map] at hj
      refine g_name (i := 6) ?_ C.nd
      refine b_cons (s_expr (e_extend (e_name 5 (v := .ref mq) ⟨mq, rfl, ⟨_, hw⟩, e_lcM [("letter", 7)] C (i_str (e_name 0 (v := .str g) ?_))⟩)))
      refine ⟨g, rfl, _, _, _, (g.cps.toList.map fun c => V.str (z ++ ⟨#[c]⟩)), walk_str, by simp, sz _ (by omega), fun _ _ => trivial, fun k y H7 H8 hk b7 hy7 => ?_, fun Da H7 b7 hn7 hl7 => ?_⟩
      · obtain ⟨rfl, c, hc, rfl⟩ := hy7
        refine ⟨But.refl, mt_name (i := 7) C.nd fun s H0 Ca cl fp => e_bin (e_name 6 (v := .str z) (e_name 7 (v := .str ⟨#[c]⟩) (o_adds (sz _ (by show _ + 1 ≤ _; omega)) ⟨?_, But.refl⟩)))⟩
        rw [← Array.getElem?_toList] at hc
        rw [List.getElem?_map, hc]
        rfl
      · have e1 : (g.cps.toList.map fun c => V.str (z ++ ⟨#[c]⟩)) = (g.cps.toList.map fun c => z ++ (⟨#[c]⟩ : Str)).map V.str := by rw [List.map_map]; rfl
        refine ⟨Da, ws.map V.str, _, rfl, b7 _ _ (by simp) hw, hl7, ?_, b_nil ⟨⟨_, _, rfl⟩, fun a o na e => ?_, ws ++ (g.cps.toList.map fun c => z ++ (⟨#[c]⟩ : Str)), by rw [upd_same, e1, List.map_append], ?_, fun y hy => ?_⟩⟩
        · have : j * g.cps.size ≤ 64 * 4 := Nat.mul_le_mul (by omega) hgs
          rw [List.length_map, List.length_map, hwl, sizeLine_eq, Array.length_toList]
          omega
        · rw [upd_ne (ne_of_none e hmq)]
          exact b7 _ _ (by simp) (b5 _ _ na e)
        · rw [List.length_append, List.length_map, hwl, Array.length_toList, Nat.succ_mul]
        · rcases List.mem_append.mp hy with h | h
          · exact hwo y h
          · obtain ⟨c, hc, rfl⟩ := List.mem_map.mp h
            exact ⟨app_line hzo.1 (one_line hc), by rw [app_len]; show _ + 1 ≤ _; omega⟩
    · rintro σ H5 ⟨⟨v6, v7, rfl⟩, b5, ws, hw, hwl, hwo⟩
      rw [List.length_map] at hwl
      have hwl2 : ws.length ≤ 4 ^ i * 4 := by rw [hwl]; exact Nat.mul_le_mul hzl hgs
      refine b_cons (s_par (i := 2) (j := 3) C (a_cons (e_bin (e_name 2 (v := .ref fq) (e_name 5 (v := .ref mq) (o_cat (b5 _ _ (by simp) hf) hw (by rw [List.length_map, List.length_map, sizeLine_eq]; omega) fun rq hrq => a_cons (e_name 5 (v := .ref mq) (a_nil ⟨_, _, rfl, b_nil ?_⟩))))))))
      have b6 : But [] H5 (upd H5 rq (.lst (ys.map V.str ++ ws.map V.str))) := But.new hrq
      have e4 : 4 ^ (i + 1) = 4 ^ i * 4 := Nat.pow_succ 4 i
      refine ⟨⟨rq, mq, _, _, _, _, ys ++ ws, ws, rfl, (b3.trans b5).free hrq, by rw [upd_same, List.map_append], b6 _ _ (by simp) hw, fun y hy2 => ?_, hwo, ?_, by rw [e4]; exact hwl2⟩, b3.trans (b5.trans b6)⟩
      · rcases List.mem_append.mp hy2 with h | h
        · exact ⟨(hy y h).1, Nat.le_succ_of_le (hy y h).2⟩
        · exact hwo y h
      · rw [List.length_append, e4]; omega
  · rintro σ H3 ⟨⟨fq, lq, v4, v5, v6, v7, ys, zs, rfl, hfn, hf, hl, hy, hz, hyl, hzl⟩, b3⟩
    have e1 : (n : Int).toNat = n := by omega
    rw [e1] at hy hyl
    have hp : 4 ^ n ≤ 4 ^ 4 := Nat.pow_le_pow_right (by decide) hn
    have hp2 : 4 ^ n ≤ 256 := hp
    exact b_cons (s_ret (e_name 2 (v := .ref fq) (hQ fq ys H3 b3 hfn hf (by omega) hy)))
end
end K21

set_option Elab.async false
set_option linter.all false
set_option maxRecDepth 100000
set_option maxHeartbeats 4000000
namespace K21
open PySem PySem.Spec PyProof.Rows L2 Z
section
variable {P : Program} {w : World} {K : PySem.W.Frag} {mg : Str → Option Value} {base : Heap}
/-! ### mixed -/
def spMixed : Sp := fun vs H Q _ => ∃ (p q : Addr) (xs : List V), vs = [.ref p, .ref q] ∧ Pot H p ∧ H q = some (.lst xs) ∧ xs.length ≤ 1000 ∧ ∀ r ys H', But [p] H H' → Pot H' p → H r = none → H' r = some (.lst ys) → ys.length = xs.length → (∀ y ∈ ys, y ∈ xs) → Q (.ref r) H'
theorem scMi : FnScope ["pot", "some", "pack", "turn"] ["pot", "some"] (defScope (top 46)) := ⟨rfl, rfl, rfl, by decide +kernel, rfl, by decide +kernel, by decide +kernel⟩
theorem d_mixed (B : Blt mg base) (D : At K mg "_law_mixed" (top 46)) (D0 : Def P w K mg base 1 "_law_draw" (top 44) drPs spDraw) : Def P w K mg base 2 "_law_mixed" (top 46) ["pot", "some"] spMixed := by
  refine def_of D B scMi (fun vs H Q E ⟨_, _, _, e, _⟩ => by rw [e]; rfl) fun f cdv A outer s H vs Q E hm C h => ?_
  obtain ⟨p, q, xs, rfl, hp, hq, hx, hQ⟩ := h
  have sz : ∀ n, n ≤ 16777216 → n ≤ sizeLine := fun n h => by rw [sizeLine_eq]; exact h
  refine b_cons (s_set (i := 2) (e_listOf B (e_name 1 (v := .ref q) ⟨q, xs, rfl, .inl (.inl (.inl hq)), fun kq hkq => ?_⟩)) C.nd)
  have b1 : But [] H (upd H kq (.lst xs)) := But.new hkq
  have nkp := hp.there hkq
  have hk1 : upd H kq (.lst xs) kq = some (.lst xs) := upd_same
  refine b_cons (s_ret (e_lc [("turn", 3)] C (i_range1 B (e_len B (e_name 1 (v := .ref q) ⟨xs.length, .inl ⟨xs, .inl (.inl (b1 _ _ (by simp) hq)), rfl⟩, xs.length, rfl, by omega, by omega, _, _, _, walk_range, fun Dl hDl => ?_⟩)))))
  have hp1 := hp.new b1
  have nDp := hp1.there hDl
  have nDk : Dl ≠ kq := (ne_of_none hk1 hDl).symm
  have hDH := b1.free hDl
  refine ⟨fun i H' => But [p] H H' ∧ Pot H' p ∧ ∃ ds ps : List V, H' kq = some (.lst ps) ∧ H' Dl = some (.lst ds) ∧ (ds ++ ps).Perm xs ∧ ds.length = i, ⟨b1.of.trans (But.new hDl), hp1.new (But.new hDl), [], xs, by rw [upd_ne (ne_of_none hk1 hDl)]; exact hk1, upd_same, List.Perm.refl _, rfl⟩, fun _ _ _ _ => trivial, ?_, ?_⟩
  · rintro i x H2 H3 hi ⟨b2, hp2, ds, ps, hk2, hD2, hpm, hdl⟩ ⟨rfl, rfl⟩
    have hlen : ds.length + ps.length = xs.length := by rw [← List.length_append]; exact hpm.length_eq
    refine lc_plain (i := 3) C.nd fun s H0 Ca cl fp => ?_
    refine e_popAt (e_name 2 (v := .ref kq) ⟨kq, rfl, ⟨_, hk2⟩, ?_⟩)
    refine e_call ((C.mono (by decide)).blk _ _ _ _ _) D0 (a_cons (e_name 0 (v := .ref p) (a_cons (e_len B (e_name 2 (v := .ref kq) ⟨ps.length, .inl ⟨ps, .inl (.inl hk2), rfl⟩, a_nil ?_⟩))))) rfl (fun _ _ _ _ _ _ us hl => match us, hl with | [_, _], _ => rfl)
    refine ⟨p, ps.length, rfl, hp2, by omega, by omega, fun r H4 r0 r1 b4 hp4 => ?_⟩
    obtain ⟨j, rfl⟩ := Int.eq_ofNat_of_zero_le r0
    have hj : j < ps.length := by omega
    have hk4 := b4 _ _ (by simpa using nkp) hk2
    have hD4 := b4 _ _ (by simpa using nDp) hD2
    refine ⟨ps, j, ps[j], rfl, hk4, by omega, List.getElem?_eq_getElem hj, ds, by rw [upd_ne nDk]; exact hD4, sz _ (by omega), fun a o na e => ?_, (hp4.upd nkp).upd nDp, ds ++ [ps[j]], ps.eraseIdx j, by rw [upd_ne nDk.symm]; exact upd_same, upd_same, ?_, by simp [hdl]⟩
    · rw [upd_ne (ne_of_none e hDH), upd_ne (ne_of_none e hkq)]
      exact b4 _ _ na (b2 _ _ na e)
    · refine List.Perm.trans ?_ hpm
      rw [List.append_assoc]
      exact List.Perm.append_left ds (erase_perm ps j hj)
  · rintro H2 ⟨b2, hp2, ds, ps, hk2, hD2, hpm, hdl⟩
    have hlen : ds.length + ps.length = xs.length := by rw [← List.length_append]; exact hpm.length_eq
    have hdl : ds.length = xs.length := by omega
    exact hQ Dl ds H2 b2 hp2 hDH hD2 hdl fun y hy => hpm.mem_iff.mp (List.mem_append_left _ hy)
/-! ### with rules that are hidden -/
def spHidden : Sp := fun vs H Q _ => ∃ (p q : Addr) (g : Str) (rs : List Rule), vs = [.ref p, .str g, .ref q] ∧ Pot H p ∧ strSigns g = true ∧ IsDeals rs H q ∧ (∀ r ∈ rs, okS g 3 r) ∧ rs.length ≤ 20 ∧ ∀ q' rs' H', But [p] H H' → Pot H' p → H q' = none → IsDeals rs' H' q' → (∀ r ∈ rs', okS g 5 r) → rs'.length ≤ 22 → Q (.ref q') H'
theorem scWh : FnScope ["pot", "abc", "deals", "found", "turn", "kind", "old", "new", "later", "sort"] ["pot", "abc", "deals"] (defScope (top 52)) := ⟨rfl, rfl, rfl, by decide +kernel, rfl, by decide +kernel, by decide +kernel⟩
theorem d_hidden (B : Blt mg base) (D : At K mg "_law_with_hidden" (top 52)) (D0 : Def P w K mg base 1 "_law_draw" (top 44) drPs spDraw) (D1 : Def P w K mg base 2 "_law_pick" (top 45) piPs (spPick K)) (D2 : Def P w K mg base 3 "_law_note" (top 48) ["pot", "abc", "most"] spNote) :
    Def P w K mg base 4 "_law_with_hidden" (top 52) ["pot", "abc", "deals"] spHidden := by
  refine def_of D B scWh (fun vs H Q E ⟨_, _, _, _, e, _⟩ => by rw [e]; rfl) fun f cdv A outer s H vs Q E hm C h => ?_
  obtain ⟨p, q, g, rs0, rfl, hp, hg, hq, hok0, hn0, hQ⟩ := h
  have gl := strSigns_len hg
  have sz : ∀ n, n ≤ 16777216 → n ≤ sizeLine := fun n h => by rw [sizeLine_eq]; exact h
  obtain ⟨vs0, hv0, hd0⟩ := hq.ex
  refine b_cons (s_set (i := 3) (e_listOf B (e_name 2 (v := .ref q) ⟨q, vs0, rfl, .inl (.inl (.inl hv0)), fun fq hfq => ?_⟩)) C.nd)
  have bf : But [] H (upd H fq (.lst vs0)) := But.new hfq
  have nfp := hp.there hfq
  have hrs0 : IsDeals rs0 (upd H fq (.lst vs0)) fq := ⟨_, upd_same, hd0.but bf⟩
  refine b_cons (s_for C (i_range1 B (e_call (C.mono (by decide)) D0 (a_cons (e_name 0 (v := .ref p) (a_cons (e_int (a_nil ?_))))) rfl (fun _ _ _ _ _ _ us hl => match us, hl with | [_, _], _ => rfl))))
  refine ⟨p, 3, rfl, hp.new bf, by omega, by omega, fun r H1 r0 r1 b1 hp1 => ?_⟩
  obtain ⟨n, rfl⟩ := Int.eq_ofNat_of_zero_le r0
  refine ⟨_, rfl, by omega, by omega, ?_⟩
  refine ⟨_, _, _, walk_range, fun i σ H' => (∃ v4 v5 v6 v7 v8 v9, σ = [some (.ref p), some (.str g), some (.ref q), some (.ref fq), v4, v5, v6, v7, v8, v9]) ∧ But [p] H H' ∧ Pot H' p ∧ ∃ rs, IsDeals rs H' fq ∧ rs.length ≤ 20 + i ∧ ∀ r ∈ rs, okS g (3 + i) r,
    ⟨⟨none, none, none, none, none, none, rfl⟩, bf.of.trans b1, hp1, rs0, hrs0.pot (hp.new bf) b1.ex, hn0, hok0⟩, fun _ _ _ _ _ => trivial, ?_, ?_⟩
  · rintro i x σ H2 H1 hi ⟨⟨v4, v5, v6, v7, v8, v9, rfl⟩, b1, hp1, rs, hrs, hrl, hok⟩ ⟨rfl, rfl⟩
    have hi2 : i < 2 := by omega
    refine g_name (i := 4) ?_ C.nd
    obtain ⟨vs, hv, hd⟩ := hrs.ex
    have hvl : vs.length = rs.length := by rw [hd.length, rulesD, List.length_map]
    refine b_cons (s_ifB (!vs.isEmpty) ?_ (fun e H2 b2 => ?_) (fun e H2 b2 => b_nil (b_nil ⟨⟨_, _, _, _, _, _, rfl⟩, b1.trans b2.of, hp1.new b2, rs, hrs.but b2, by omega, fun r hr => (hok r hr).mono (by omega)⟩)))
    · exact t_cmp (e_name 3 (v := .ref fq) (e_lst (a_nil ⟨sz 0 (by decide), fun q hq => c_neNil C (xs := vs) (.inl (.inl ((But.new hq : But [] H1 _) _ _ (by simp) hv))) (.inl (.inl upd_same)) ⟨_, rfl, rfl, But.new hq⟩⟩)))
    have hne : 0 < vs.length := by cases vs with | nil => simp at e | cons => simp
    have hrs2 := hrs.but b2
    have hp2 := hp1.new b2
    obtain ⟨vs2, hv2, hd2⟩ := hrs2.ex
    have e2 : vs2 = vs := by have := b2 _ _ (by simp) hv; rw [hv2] at this; cases this; rfl
    subst e2
    refine b_cons (s_asg (e_call (C.mono (by decide)) D1 (a_cons (e_name 0 (v := .ref p) (a_cons (e_name 3 (v := .ref fq) (a_nil ?_))))) rfl (fun _ _ _ _ _ _ us hl => match us, hl with | [_, _], _ => rfl)))
    refine ⟨p, hp2, .inl ⟨fq, vs2, rfl, nfp, .inl (.inl (.inl hv2)), hne, by omega, fun v hvm H3 b3 hp3 => ?_⟩⟩
    obtain ⟨j, hj⟩ := List.mem_iff_getElem?.mp hvm
    obtain ⟨dx, hdx, hD⟩ := hd2.get hj
    obtain ⟨r, hr, rfl⟩ : ∃ r, rs[j]? = some r ∧ ruleD r = dx := by
      have : (rs.map ruleD)[j]? = some dx := hdx
      rw [List.getElem?_map, Option.map_eq_some_iff] at this
      exact this
    have hrk := hok r (List.mem_of_getElem? hr)
    have hol := hrk.ol
    obtain ⟨t, rfl, nt, ht⟩ := dd_rule (dd_lists b3.ex hp2.lsts hD rfl)
    refine g_tup (gs_cons (g_name (i := 5) (gs_cons (g_name (i := 6) (gs_cons (g_name (i := 7) (gs_nil ?_) C.nd)) C.nd)) C.nd)) rfl (sqt_all ht)
    have b13 : But [p] H1 H3 := b2.of.trans b3
    refine b_mid (fun σ' H' => ∃ y : Str, σ' = [some (.ref p), some (.str g), some (.ref q), some (.ref fq), some (.int (0 + (i : Int))), some (.str (kd r.fr)), some (.str r.old), some (.str r.new), some (.str y), v9] ∧ But [p] H1 H' ∧ Pot H' p ∧ isLine g (.str y) = true ∧ y.length ≤ 4 + i) ?_ ?_
    · refine s_set (i := 8) (e_if (t_cmp (e_name 5 (v := .str (kd r.fr)) (e_str (c_eq rfl ⟨r.fr, by (cases r.fr <;> rfl), ite_b (fun e3 => ?_) fun e3 => ?_⟩))))) C.nd
      · refine e_bin (e_name 6 (v := .str r.old) (e_call (C.mono (by decide)) D2 (a_cons (e_name 0 (v := .ref p) (a_cons (e_name 1 (v := .str g) (a_cons (e_int (a_nil ?_))))))) rfl (fun _ _ _ _ _ _ us hl => match us, hl with | [_, _, _], _ => rfl)))
        refine ⟨p, g, 1, rfl, hp3, hg, by decide, fun y H4 hy hyl b4 hp4 => o_adds (sz _ (by omega)) ⟨_, rfl, b13.trans b4, hp4, app_line hrk.o hy, by rw [app_len]; omega⟩⟩
      · exact e_name 6 (v := .str r.old) ⟨_, rfl, b13, hp3, hrk.o, by omega⟩
    rintro σ' H4 ⟨y, rfl, b4, hp4, hy, hyl⟩
    refine b_mid (fun σ' H' => ∃ fr : Bool, σ' = [some (.ref p), some (.str g), some (.ref q), some (.ref fq), some (.int (0 + (i : Int))), some (.str (kd r.fr)), some (.str r.old), some (.str r.new), some (.str y), some (.str (kd fr))] ∧ But [p] H1 H' ∧ Pot H' p) ?_ ?_
    · refine s_set (i := 9) (e_if (t_cmp (e_name 5 (v := .str (kd r.fr)) (e_str (c_eq rfl ⟨r.fr, by (cases r.fr <;> rfl), ite_b (fun e3 => ?_) fun e3 => ?_⟩))))) C.nd
      · refine e_call (C.mono (by decide)) D1 (a_cons (e_name 0 (v := .ref p) (a_cons (e_lst (a_cons (e_str (a_cons (e_str (a_nil ⟨sz 2 (by decide), fun kq hkq => a_nil ?_⟩))))))))) rfl (fun _ _ _ _ _ _ us hl => match us, hl with | [_, _], _ => rfl)
        have bk : But [] H4 (upd H4 kq (.lst [.str "front", .str "whole"])) := But.new hkq
        refine ⟨p, hp4.new bk, .inl ⟨kq, _, rfl, (hp4.there hkq), .inl (.inl (.inl upd_same)), by decide, by decide, fun v hv H8 b8 hp8 => ?_⟩⟩
        simp only [List.mem_cons, List.not_mem_nil, or_false] at hv
        rcases hv with rfl | rfl
        · exact ⟨true, rfl, b4.trans (bk.of.trans b8), hp8⟩
        · exact ⟨false, rfl, b4.trans (bk.of.trans b8), hp8⟩
      · exact e_str ⟨false, rfl, b4, hp4⟩
    rintro σ' H5 ⟨fr, rfl, b5, hp5⟩
    have hrs5 := hrs.pot hp1 b5.ex
    obtain ⟨vs5, hv5, hd5⟩ := hrs5.ex
    refine b_cons (s_expr (e_append (e_name 3 (v := .ref fq) ⟨fq, rfl, ⟨_, hv5⟩, e_tup (a_cons (e_name 9 (v := .str (kd fr)) (a_cons (e_name 8 (v := .str y) (a_cons ?_)))))⟩)))
    refine e_call (C.mono (by decide)) D2 (a_cons (e_name 0 (v := .ref p) (a_cons (e_name 1 (v := .str g) (a_cons (e_int (a_nil ?_))))))) rfl (fun _ _ _ _ _ _ us hl => match us, hl with | [_, _, _], _ => rfl)
    refine ⟨p, g, 2, rfl, hp5, hg, by decide, fun new H6 hn hnl b6 hp6 => a_nil ⟨sz 3 (by decide), fun tq htq => ?_⟩⟩
    have bt : But [] H6 (upd H6 tq (.tup [.str (kd fr), .str y, .str new])) := But.new htq
    have b69 := b6.trans bt.of
    have hrs9 := hrs5.pot hp5 b69.ex
    obtain ⟨vs9, hv9, hd9⟩ := hrs9.ex
    have hp9 := hp6.new bt
    have nfp' := hrs9.nep hp9
    have hn9 : vs9.length = rs.length := by rw [hd9.length, rulesD, List.length_map]
    have htt : upd H6 tq (.tup [.str (kd fr), .str y, .str new]) tq = some (.tup [.str (kd fr), .str y, .str new]) := upd_same
    generalize upd H6 tq (.tup [.str (kd fr), .str y, .str new]) = H9 at bt b69 hrs9 hp9 hv9 hd9 htt ⊢
    have ht9 : DD [] [] H9 (.ref tq) (ruleD ⟨fr, y, new⟩) := .tup (.inl (.inl htt)) (by simp) (.cons (.str _) (.cons (.str _) (.cons (.str _) .nil)))
    have bE : Ex [fq] H9 (upd H9 fq (.lst (vs9 ++ [.ref tq]))) := (But.at (by simp)).ex
    have lE : ∀ q ∈ [fq], ∃ ys, H9 q = some (.lst ys) := fun q hq => by rw [List.mem_singleton.mp hq]; exact ⟨_, hv9⟩
    refine ⟨vs9, hv9, by rw [hn9, sizeLine_eq]; omega, b_nil (b_nil ⟨⟨_, _, _, _, _, _, rfl⟩, fun a o na e => ?_, hp9.upd nfp', rs ++ [⟨fr, y, new⟩], ⟨_, upd_same, ?_⟩, by rw [List.length_append]; show _ + 1 ≤ _; omega, fun r hr => ?_⟩)⟩
    · rw [upd_ne (ne_of_none e hfq)]
      exact b69 _ _ na (b5 _ _ na (b1 _ _ na e))
    · rw [rulesD, List.map_append]
      exact DDs.append (rules_exL hd9 bE lE) (.cons (dd_lists bE lE ht9 rfl) .nil)
    · rcases List.mem_append.mp hr with h | h
      · exact (hok r h).mono (by omega)
      · rw [List.mem_singleton.mp h]; exact ⟨hy, hn, by show y.length ≤ _; omega, by show new.length ≤ _; omega⟩
  · rintro σ H2 ⟨⟨v4, v5, v6, v7, v8, v9, rfl⟩, b2, hp2, rs, hrs, hrl, hok⟩
    have e1 : ((n : Int).toNat) = n := by omega
    rw [e1] at hrl hok
    exact b_cons (s_ret (e_name 3 (v := .ref fq) (hQ fq rs H2 b2 hp2 hfq hrs (fun r hr => (hok r hr).mono (by omega)) (by omega))))
end
end K21

set_option Elab.async false
set_option linter.all false
set_option maxRecDepth 100000
set_option maxHeartbeats 4000000
namespace K21
open PySem PySem.Spec PyProof.Rows L2 Z
/-! ### plain: lines turned -/
theorem turn_line {g : Str} {rs : List Rule} {x : Str} (h : ∀ r ∈ rs, okRule g r) (hx : isLine g (.str x) = true) : isLine g (.str (turnR rs x)) = true := by
  unfold turnR
  cases e : rs.find? (fitsR · x) with
  | none => exact hx
  | some r =>
    have hr := h r (List.mem_of_find?_eq_some e)
    show isLine g (.str (applyR r x)) = true
    unfold applyR
    split
    · exact app_line hr.n (cut_line hx)
    · exact hr.n
theorem turn_len {g : Str} {rs : List Rule} {x : Str} (h : ∀ r ∈ rs, okRule g r) : (turnR rs x).length ≤ x.length + 40 := by
  unfold turnR
  cases e : rs.find? (fitsR · x) with
  | none => show x.length ≤ _; omega
  | some r =>
    have hr := (h r (List.mem_of_find?_eq_some e)).nl
    show (applyR r x).length ≤ _
    unfold applyR
    split
    · have := cutS_length x (some (r.old.length : Int)) none
      rw [app_len]; omega
    · omega
theorem mul_line {g : Str} {c n : Nat} (h : c ∈ g.cps.toList) : isLine g (.str (Txt.mul ⟨#[c]⟩ (n : Int))) = true := by
  rw [line_sub, mul_one_list]
  intro d hd
  rw [List.eq_of_mem_replicate hd]
  exact h
theorem mul_len (c n : Nat) : (Txt.mul ⟨#[c]⟩ (n : Int)).length = n := by
  have : (Txt.mul ⟨#[c]⟩ (n : Int)).cps.toList.length = (Txt.mul ⟨#[c]⟩ (n : Int)).length := by simp; rfl
  rw [← this, mul_one_list, List.length_replicate]
  omega
theorem texts_shw {g : Str} (hg : strSigns g = true) {ys : List Str} {w : Nat} (L : Nat) (h : ∀ y ∈ ys, isLine g (.str y) = true ∧ y.length ≤ w) (hl : ys.length ≤ L) : ShwZ 1 (L * (w + 1)) (.list (ys.map PyData.str)) :=
  ShwZ.list (n := 0) (w := w) L (fun d hd => by
    obtain ⟨y, hy, rfl⟩ := List.mem_map.mp hd
    exact ShwZ.str (isLine_ascii hg (h y hy).1) (h y hy).2) (by rw [List.length_map]; exact hl)
theorem IsRelay.pot {CR : Addr} {g : Str} {rs : List Rule} {H H' : Hp} {o p : Addr} (h : IsRelay CR g rs H o) (hp : Pot H p) (b : Ex [p] H H') : IsRelay CR g rs H' o := h.exL b hp.lsts
theorem IsRelay.ins {CR : Addr} {g : Str} {rs : List Rule} {H : Hp} {o : Addr} (h : IsRelay CR g rs H o) : ∃ dx fs, H o = some (.ins CR dx fs) := let ⟨dx, tq, h1, _⟩ := h.ex; ⟨dx, _, h1⟩
section
variable {P : Program} {w : World} {K : PySem.W.Frag} {mg : Str → Option Value} {base : Heap} {CR : Addr}
theorem atI_end {α : Type} {xs : List α} {v : α} (h : xs[xs.length - 1]? = some v) : atI xs (-1) = some v := by
  have hj := (List.getElem?_eq_some_iff.mp h).1
  unfold atI ixN
  rw [if_neg (by decide), if_pos (by omega)]
  show xs[((-1 : Int) + xs.length).toNat]? = some v
  rw [show ((-1 : Int) + xs.length).toNat = xs.length - 1 by omega]
  exact h
/-! ### the turns -/
def spTurnsR (CR : Addr) : Sp := fun vs H Q _ => ∃ (p q o : Addr) (g : Str) (rs : List Rule), vs = [.ref p, .str g, .ref q, .ref o] ∧ Pot H p ∧ OkR g rs ∧ (∀ r ∈ rs, okS g 5 r) ∧ rs.length ≤ 22 ∧ IsDeals rs H q ∧ IsRelay CR g rs H o ∧ ∀ H', But [p] H H' → Pot H' p → Q (.bl true) H'
theorem scTr : FnScope ["pot", "abc", "deals", "plan", "few", "far", "note", "due", "turn", "kind", "old", "new"] ["pot", "abc", "deals", "plan"] (defScope (top 53)) := ⟨rfl, rfl, rfl, by decide +kernel, rfl, by decide +kernel, by decide +kernel⟩
theorem d_turnsR (B : Blt mg base) (D : At K mg "_law_turns_right" (top 53)) (D1 : Def P w K mg base 1 "_law_notes" (top 51) ["abc", "most"] spNotes) (D2 : Def P w K mg base 3 "_law_note" (top 48) ["pot", "abc", "most"] spNote)
    (D3 : Def P w K mg base 1 "_law_turn" (top 50) ["deals", "note"] spTurn) (M : CallOk P w K mg base 3 CR "line" (spCallP CR)) :
    DefG P w K mg base 4 "_law_turns_right" (top 53) ["pot", "abc", "deals", "plan"] (spTurnsR CR) := by
  refine defG_of D B scTr (fun vs H Q E ⟨_, _, _, _, _, e, _⟩ => by rw [e]; rfl) fun f cdv A outer s H vs Q E hm C gd h => ?_
  obtain ⟨p, q, o, g, rs, rfl, hp, ok, hs5, hr22, hq, ho, hQ⟩ := h
  have hg := ok.sg
  have gl := strSigns_len hg
  have sz : ∀ n, n ≤ 16777216 → n ≤ sizeLine := fun n h => by rw [sizeLine_eq]; exact h
  refine b_cons (s_set (i := 4) (e_call (C.mono (by decide)) D1 (a_cons (e_name 1 (v := .str g) (a_cons ?_))) rfl (fun _ _ _ _ _ _ us hl => match us, hl with | [_, _], _ => rfl)) C.nd)
  refine wE_mono (Q := fun v H' => (∃ n : Nat, v = .int n ∧ n ≤ 4) ∧ But [] H H') (e_if (t_cmp (e_len B (e_name 1 (v := .str g) ⟨g.length, ⟨sz _ (by omega), rfl⟩, e_int (c_lt ⟨_, rfl, ite_b (fun e => e_int ⟨⟨4, rfl, by decide⟩, But.refl⟩) fun e => e_int ⟨⟨3, rfl, by decide⟩, But.refl⟩⟩)⟩)))) ?_
  rintro v H1 ⟨⟨n, rfl, hn⟩, b1⟩
  refine a_nil ⟨g, n, rfl, hg, hn, fun kq few H2 b2 hkn hk hkl hko => ?_⟩
  have b02 := b1.trans b2
  have hp2 := hp.new b02
  have hkf := b1.free hkn
  have nkp : kq ≠ p := hp.there hkf
  have nk1 : kq ∉ [p] := by simpa using nkp
  -- far
  refine b_cons (s_setLc (i := 5) [("turn", 8)] C (i_range1 B (e_int ⟨6, rfl, by decide, by decide, 6, _, _, walk_range, fun Dl hDl => ?_⟩)))
  have nDp := hp2.there hDl
  have hDH := b02.free hDl
  refine ⟨fun i H' => But [p] H2 H' ∧ Pot H' p ∧ ∃ ys : List Str, H' Dl = some (.lst (ys.map V.str)) ∧ ys.length = i ∧ ∀ y ∈ ys, isLine g (.str y) = true ∧ y.length ≤ 100, ⟨But.new hDl, hp2.new (But.new hDl), [], upd_same, rfl, by simp⟩, fun _ _ _ _ => trivial, ?_, ?_⟩
  · rintro i x H5 H' hi ⟨b5, hp5, ys, hD5, hyl, hyo⟩ ⟨rfl, rfl⟩
    refine lc_plain (i := 8) C.nd fun s H0 Ca cl fp => ?_
    refine e_call ((C.mono (by decide)).blk _ _ _ _ _) D2 (a_cons (e_name 0 (v := .ref p) (a_cons (e_name 1 (v := .str g) (a_cons (e_int (a_nil ?_))))))) rfl (fun _ _ _ _ _ _ us hl => match us, hl with | [_, _, _], _ => rfl)
    refine ⟨p, g, 30, rfl, hp5, hg, by decide, fun y H6 hy hyl6 b6 hp6 => ?_⟩
    refine ⟨_, b6 _ _ (by simpa using nDp) hD5, sz _ (by rw [List.length_map]; omega), fun a o na e => ?_, hp6.upd nDp, ys ++ [y], by rw [upd_same]; simp, by simp [hyl], fun z hz => ?_⟩
    · rw [upd_ne (ne_of_none e hDl)]
      exact b6 _ _ na (b5 _ _ na e)
    · rcases List.mem_append.mp hz with h | h
      · exact hyo z h
      · rw [List.mem_singleton.mp h]; exact ⟨hy, by omega⟩
  rintro H3 ⟨b3, hp3, ys, hD3, hyl, hyo⟩
  have b03 : But [p] H H3 := b02.of.trans b3
  have hk3 := b3 _ _ nk1 hk
  show wB _ _ _ [some (.ref p), some (.str g), some (.ref q), some (.ref o), some (.ref kq), some (.ref Dl), none, none, none, none, none, none] H3
  -- far.extend: rules' old lines
  obtain ⟨vs3, hv3, hd3⟩ := (hq.pot hp b03.ex).ex
  have hvl : vs3.length = rs.length := by rw [hd3.length, rulesD, List.length_map]
  refine b_cons (s_expr (e_extend (e_name 5 (v := .ref Dl) ⟨Dl, rfl, ⟨_, hD3⟩, e_lc [("kind", 9), ("old", 10), ("new", 11)] C (i_list (e_name 2 (v := .ref q) ⟨q, rfl, ⟨_, .inl (.inl hv3)⟩, _, _, _, walk_list (xs := vs3), fun El hEl => ?_⟩))⟩)))
  have nEp := hp3.there hEl
  have nED : El ≠ Dl := (ne_of_none hD3 hEl).symm
  have nqp := IsDeals.nep ⟨vs3, hv3, hd3⟩ hp3
  have nq1 : q ∉ [p] := by simpa using nqp
  refine ⟨fun i H' => But [p] H3 H' ∧ Pot H' p ∧ ∃ zs : List Str, H' El = some (.lst (zs.map V.str)) ∧ zs.length = i ∧ ∀ y ∈ zs, isLine g (.str y) = true ∧ y.length ≤ 100, ⟨But.new hEl, hp3.new (But.new hEl), [], upd_same, rfl, by simp⟩, fun i H' _ h => .inl (.inl (h.1 _ _ nq1 hv3)), ?_, ?_⟩
  · rintro i x H5 H' hi ⟨b5, hp5, zs, hE5, hzl, hzo⟩ ⟨rfl, hx⟩
    obtain ⟨dx, hdx, hD⟩ := hd3.get hx
    obtain ⟨r, hr, rfl⟩ : ∃ r, rs[i]? = some r ∧ ruleD r = dx := by
      have : (rs.map ruleD)[i]? = some dx := hdx
      rw [List.getElem?_map, Option.map_eq_some_iff] at this
      exact this
    have hrk := hs5 r (List.mem_of_getElem? hr)
    have hol := hrk.ol
    obtain ⟨t, rfl, nt, ht⟩ := dd_rule (dd_lists b5.ex hp3.lsts hD rfl)
    intro s H0 Ca cl fp
    refine g_tup (gs_cons (g_name (i := 9) (gs_cons (g_name (i := 10) (gs_cons (g_name (i := 11) (gs_nil ⟨rfl, ?_⟩) C.nd)) C.nd)) C.nd)) rfl (sqt_all ht)
    refine fun s H0 Ca cl fp => eIf pts_nil ?_
    refine fun s H0 Ca cl fp => ?_
    refine e_bin (e_name 10 (v := .str r.old) (e_call ((C.mono (by decide)).blk _ _ _ _ _) D2 (a_cons (e_name 0 (v := .ref p) (a_cons (e_name 1 (v := .str g) (a_cons (e_int (a_nil ?_))))))) rfl (fun _ _ _ _ _ _ us hl => match us, hl with | [_, _, _], _ => rfl)))
    refine ⟨p, g, 4, rfl, hp5, hg, by decide, fun y H6 hy hyl6 b6 hp6 => o_adds (sz _ (by omega)) ?_⟩
    refine ⟨_, b6 _ _ (by simpa using nEp) hE5, sz _ (by rw [List.length_map]; omega), fun a o na e => ?_, hp6.upd nEp, zs ++ [r.old ++ y], by rw [upd_same]; simp, by simp [hzl], fun z hz => ?_⟩
    · rw [upd_ne (ne_of_none e hEl)]
      exact b6 _ _ na (b5 _ _ na e)
    · rcases List.mem_append.mp hz with h | h
      · exact hzo z h
      · rw [List.mem_singleton.mp h]; exact ⟨app_line hrk.o hy, by rw [app_len]; omega⟩
  rintro H4 ⟨b4, hp4, zs, hE4, hzl, hzo⟩
  have nD1 : Dl ∉ [p] := by simpa using nDp
  have hD4 := b4 _ _ nD1 hD3
  refine ⟨El, _, _, rfl, hD4, hE4, by rw [List.length_map, List.length_map, sizeLine_eq]; omega, ?_⟩
  have e1 : ys.map V.str ++ zs.map V.str = (ys ++ zs).map V.str := by rw [List.map_append]
  rw [e1]
  have hyz : ∀ y ∈ ys ++ zs, isLine g (.str y) = true ∧ y.length ≤ 100 := fun y hy => by
    rcases List.mem_append.mp hy with h | h
    · exact hyo y h
    · exact hzo y h
  have hyzl : (ys ++ zs).length = 6 + rs.length := by rw [List.length_append]; omega
  have hD5 : upd H4 Dl (.lst ((ys ++ zs).map V.str)) Dl = some (.lst ((ys ++ zs).map V.str)) := upd_same
  have b05 : But [p] H (upd H4 Dl (.lst ((ys ++ zs).map V.str))) := fun a o na e => by
    rw [upd_ne (ne_of_none e hDH)]
    exact b4 _ _ na (b03 _ _ na e)
  have hk5 : upd H4 Dl (.lst ((ys ++ zs).map V.str)) kq = some (.lst (few.map V.str)) := by
    rw [upd_ne (ne_of_none hk hDl)]
    exact b4 _ _ nk1 hk3
  have hp5 : Pot (upd H4 Dl (.lst ((ys ++ zs).map V.str))) p := hp4.upd nDp
  generalize upd H4 Dl (.lst ((ys ++ zs).map V.str)) = H5 at hD5 b05 hk5 hp5 ⊢
  generalize ys ++ zs = us at hyz hyzl hD5
  -- far.extend: long lines
  have hus : us[us.length - 1]? = some (us[us.length - 1]'(by omega)) := List.getElem?_eq_getElem (by omega)
  have hul := hyz _ (List.mem_of_getElem? hus)
  have hgs : g.cps.size = g.length := rfl
  have hc0 : g.cps.toList[0]? = some (g.cps.toList[0]'(by rw [Array.length_toList]; omega)) := List.getElem?_eq_getElem _
  have hc1 : g.cps.toList[1]? = some (g.cps.toList[1]'(by rw [Array.length_toList]; omega)) := List.getElem?_eq_getElem _
  have m0 := List.mem_of_getElem? hc0
  have m1 := List.mem_of_getElem? hc1
  generalize g.cps.toList[0]'(by rw [Array.length_toList]; omega) = c0 at hc0 m0
  generalize g.cps.toList[1]'(by rw [Array.length_toList]; omega) = c1 at hc1 m1
  generalize us[us.length - 1]'(by omega) = ul at hus hul
  refine b_cons (s_expr (e_extend (e_name 5 (v := .ref Dl) ⟨Dl, rfl, ⟨_, hD5⟩, e_lst (a_cons (e_bin (e_ix (e_name 5 (v := .ref Dl) (e_un (e_int (u_neg (ix_l (.inl (.inl hD5)) (v := .str ul) ?_ ?_))))))))⟩)))
  · exact atI_end (by rw [List.length_map, List.getElem?_map, hus]; rfl)
  refine e_bin (e_ix (e_name 1 (v := .str g) (e_int (ix_s (sz _ (by omega)) (c := c0) (atI_nat (j := 0) hc0) (e_int (o_mulS (by show 1 ≤ 16; decide) (by decide) (by decide) (o_adds ?_ (a_cons ?_))))))))
  · rw [show (1500 : Int) = ((1500 : Nat) : Int) from rfl, mul_len, sizeLine_eq]; omega
  refine e_bin (e_ix (e_name 1 (v := .str g) (e_int (ix_s (sz _ (by omega)) (c := c1) (atI_nat (j := 1) hc1) (e_int (o_mulS (by show 1 ≤ 16; decide) (by decide) (by decide) (a_nil ⟨sz 2 (by decide), fun Fl hFl => ?_⟩)))))))
  have bF : But [] H5 (upd H5 Fl (.lst [.str (ul ++ Txt.mul ⟨#[c0]⟩ 1500), .str (Txt.mul ⟨#[c1]⟩ 60)])) := But.new hFl
  have nFD : Fl ≠ Dl := (ne_of_none hD5 hFl).symm
  have hFF : upd H5 Fl (.lst [.str (ul ++ Txt.mul ⟨#[c0]⟩ 1500), .str (Txt.mul ⟨#[c1]⟩ 60)]) Fl = some (.lst (([ul ++ Txt.mul ⟨#[c0]⟩ 1500, Txt.mul ⟨#[c1]⟩ 60] : List Str).map V.str)) := upd_same
  refine ⟨Fl, _, _, rfl, bF _ _ (by simp) hD5, hFF, by rw [List.length_map, sizeLine_eq]; show us.length + 2 ≤ _; omega, ?_⟩
  have hlong : ∀ y ∈ us ++ [ul ++ Txt.mul ⟨#[c0]⟩ 1500, Txt.mul ⟨#[c1]⟩ 60], isLine g (.str y) = true ∧ y.length ≤ 1600 := fun y hy => by
    rcases List.mem_append.mp hy with h | h
    · exact ⟨(hyz y h).1, by have := (hyz y h).2; omega⟩
    · simp only [List.mem_cons, List.not_mem_nil, or_false] at h
      rcases h with rfl | rfl
      · exact ⟨app_line hul.1 (mul_line (n := 1500) m0), by rw [app_len, show (1500 : Int) = ((1500 : Nat) : Int) from rfl, mul_len]; omega⟩
      · exact ⟨mul_line (n := 60) m1, by rw [show (60 : Int) = ((60 : Nat) : Int) from rfl, mul_len]; omega⟩
  have hll : (us ++ [ul ++ Txt.mul ⟨#[c0]⟩ 1500, Txt.mul ⟨#[c1]⟩ 60]).length ≤ 40 := by rw [List.length_append]; show us.length + 2 ≤ _; omega
  rw [← List.map_append]
  have b56 : But [p] H (upd (upd H5 Fl (.lst [.str (ul ++ Txt.mul ⟨#[c0]⟩ 1500), .str (Txt.mul ⟨#[c1]⟩ 60)])) Dl (.lst ((us ++ [ul ++ Txt.mul ⟨#[c0]⟩ 1500, Txt.mul ⟨#[c1]⟩ 60]).map V.str))) := fun a o na e => by
    rw [upd_ne (ne_of_none e hDH)]
    exact bF _ _ (by simp) (b05 _ _ na e)
  have hk6 : upd (upd H5 Fl (.lst [.str (ul ++ Txt.mul ⟨#[c0]⟩ 1500), .str (Txt.mul ⟨#[c1]⟩ 60)])) Dl (.lst ((us ++ [ul ++ Txt.mul ⟨#[c0]⟩ 1500, Txt.mul ⟨#[c1]⟩ 60]).map V.str)) kq = some (.lst (few.map V.str)) := by
    rw [upd_ne (ne_of_none hk hDl)]
    exact bF _ _ (by simp) hk5
  have hD6 : upd (upd H5 Fl (.lst [.str (ul ++ Txt.mul ⟨#[c0]⟩ 1500), .str (Txt.mul ⟨#[c1]⟩ 60)])) Dl (.lst ((us ++ [ul ++ Txt.mul ⟨#[c0]⟩ 1500, Txt.mul ⟨#[c1]⟩ 60]).map V.str)) Dl = some (.lst ((us ++ [ul ++ Txt.mul ⟨#[c0]⟩ 1500, Txt.mul ⟨#[c1]⟩ 60]).map V.str)) := upd_same
  have hp6 := (hp5.new bF).upd (o := .lst ((us ++ [ul ++ Txt.mul ⟨#[c0]⟩ 1500, Txt.mul ⟨#[c1]⟩ 60]).map V.str)) nDp
  generalize upd (upd H5 Fl (.lst [.str (ul ++ Txt.mul ⟨#[c0]⟩ 1500), .str (Txt.mul ⟨#[c1]⟩ 60)])) Dl (.lst ((us ++ [ul ++ Txt.mul ⟨#[c0]⟩ 1500, Txt.mul ⟨#[c1]⟩ 60]).map V.str)) = H6 at b56 hk6 hD6 hp6 ⊢
  generalize us ++ [ul ++ Txt.mul ⟨#[c0]⟩ 1500, Txt.mul ⟨#[c1]⟩ 60] = ls at hlong hll hk6 hD6 hp6
  have hq6 := hq.pot hp b56.ex
  have ho6 := ho.pot hp b56.ex
  clear hFF bF nFD hFl hul hus hc0 hc1 m0 m1 hk5 hD5 b05 hp5 hyz hyzl hE4 hD4 hzo hzl hp4 b4 hd3 hv3 hvl hEl nEp nED hD3 hyo hyl hp3 b3 b03 hk3 hk
  refine b_cons (s_for C (i_list (e_bin (e_name 4 (v := .ref kq) (e_name 5 (v := .ref Dl) (o_cat hk6 hD6 (by rw [List.length_map, List.length_map, sizeLine_eq]; omega) fun cq hcq => ?_))))))
  have bc : But [] H6 (upd H6 cq (.lst (few.map V.str ++ ls.map V.str))) := But.new hcq
  have hcc : upd H6 cq (.lst (few.map V.str ++ ls.map V.str)) cq = some (.lst ((few ++ ls).map V.str)) := by rw [upd_same, List.map_append]
  have hall : ∀ y ∈ few ++ ls, isLine g (.str y) = true ∧ y.length ≤ 1600 := fun y hy => by
    rcases List.mem_append.mp hy with h | h
    · exact ⟨(hko y h).1, by have := (hko y h).2; omega⟩
    · exact hlong y h
  have hq7 := hq6.but bc
  have ho7 := ho6.but bc
  have b67 := b56.trans bc.of
  have hp7 := hp6.new bc
  generalize upd H6 cq (.lst (few.map V.str ++ ls.map V.str)) = H7 at bc hcc hq7 ho7 b67 hp7 ⊢
  refine ⟨cq, rfl, ⟨_, .inl (.inl hcc)⟩, _, _, _, walk_list (xs := (few ++ ls).map V.str), fun i σ H' => (∃ v6 v7, σ = [some (.ref p), some (.str g), some (.ref q), some (.ref o), some (.ref kq), some (.ref Dl), v6, v7, none, none, none, none]) ∧ But [] H7 H', ⟨⟨none, none, rfl⟩, But.refl⟩, fun i σ H' _ h => .inl (.inl (h.2 _ _ (by simp) hcc)), ?_, ?_⟩
  · rintro i y σ H8 H' hi ⟨⟨v6, v7, rfl⟩, b8⟩ ⟨rfl, hy⟩
    rw [List.getElem?_map, Option.map_eq_some_iff] at hy
    obtain ⟨x, hxi, rfl⟩ := hy
    have hx := hall x (List.mem_of_getElem? hxi)
    have hrl := turn_len (g := g) (x := x) ok.each
    have htl := turn_line ok.each hx.1
    refine g_name (i := 6) ?_ C.nd
    refine b_cons (s_set (i := 7) (e_call (C.mono (by decide)) D3 (a_cons (e_name 2 (v := .ref q) (a_cons (e_name 6 (v := .str x) (a_nil ?_))))) rfl (fun _ _ _ _ _ _ us hl => match us, hl with | [_, _], _ => rfl)) C.nd)
    refine ⟨q, rs, x, rfl, hq7.but b8, fun r hr => ⟨by have := (hs5 r hr).ol; omega, by have := (hs5 r hr).nl; omega⟩, by omega, fun H9 b9 => ?_⟩
    have b79 := b8.trans b9
    refine b_cons (s_ifB false ?_ (fun e => by cases e) (fun _ HA bA => b_nil (b_nil ⟨⟨_, _, rfl⟩, b79.trans bA⟩)))
    have call : ∀ (HA : Hp), But [] H7 HA → (∃ dx fs, HA o = some (.ins CR dx fs)) ∧ ∀ (Q : VK) (E : XK), (∀ H', But [] HA H' → Q (.str (turnR rs x)) H') → spCallP CR [.ref o, .str x] HA Q E := fun HA bA => ⟨(ho7.but bA).ins, fun Q E k => ⟨o, g, rs, x, rfl, ho7.but bA, ok, hx.1, by omega, k⟩⟩
    have shw3 : ShwZ 1 (3 * (2000 + 1)) (.list ([turnR rs x, turnR rs x, turnR rs x].map PyData.str)) := texts_shw (w := 2000) hg 3 (fun y hy => by
      simp only [List.mem_cons, List.not_mem_nil, or_false] at hy
      rcases hy with rfl | rfl | rfl <;> exact ⟨htl, by omega⟩) (Nat.le_refl _)
    refine t_cmp (e_rep B gd C.un (e_lst (a_cons (e_inst C M (e_name 3 (v := .ref o) ⟨o, rfl, e_name 6 (v := .str x) ⟨(call _ b79).1, (call _ b79).2 _ _ fun HA bA => ?_⟩⟩)))))
    refine a_cons (e_instK C M (e_name 3 (v := .ref o) ⟨o, rfl, e_name 6 (v := .str x) ⟨(call _ (b79.trans bA)).1, (call _ (b79.trans bA)).2 _ _ fun HB bB => ?_⟩⟩))
    have b7B := b79.trans (bA.trans bB)
    refine a_cons (e_inst C M (e_name 3 (v := .ref o) ⟨o, rfl, e_name 6 (v := .str x) ⟨(call _ b7B).1, (call _ b7B).2 _ _ fun HC bC => a_nil ⟨sz 3 (by decide), fun lq hlq => ?_⟩⟩⟩))
    have bl : But [] HC (upd HC lq (.lst [.str (turnR rs x), .str (turnR rs x), .str (turnR rs x)])) := But.new hlq
    refine ⟨[], _, .lst (.inl (.inl upd_same)) (by simp) (.cons (.str _) (.cons (.str _) (.cons (.str _) .nil))), shw3.rp (by decide) (by decide), ?_⟩
    refine e_rep B gd C.un (e_lst (a_cons (e_name 7 (v := .str (turnR rs x)) (a_cons (e_name 7 (v := .str (turnR rs x)) (a_cons (e_name 7 (v := .str (turnR rs x)) (a_nil ⟨sz 3 (by decide), fun mq hmq => ?_⟩))))))))
    have bm : But [] (upd HC lq (.lst [.str (turnR rs x), .str (turnR rs x), .str (turnR rs x)])) (upd (upd HC lq (.lst [.str (turnR rs x), .str (turnR rs x), .str (turnR rs x)])) mq (.lst [.str (turnR rs x), .str (turnR rs x), .str (turnR rs x)])) := But.new hmq
    refine ⟨[], _, .lst (.inl (.inl upd_same)) (by simp) (.cons (.str _) (.cons (.str _) (.cons (.str _) .nil))), shw3.rp (by decide) (by decide), c_ne rfl ⟨false, by simp, rfl, bA.trans (bB.trans (bC.trans (bl.trans bm)))⟩⟩
  · rintro σ H8 ⟨⟨v6, v7, rfl⟩, b8⟩
    exact b_cons (s_ret (e_bool (hQ H8 (b67.trans b8.of) (hp7.new b8))))
end
end K21

set_option Elab.async false
set_option linter.all false
set_option maxRecDepth 100000
set_option maxHeartbeats 4000000
namespace K21
open PySem PySem.Spec PyProof.Rows L2 Z
theorem empty_app (x : Str) : Str.empty ++ x = x := by
  rw [strEq]
  rw [show (Str.empty ++ x : Str).cps.toList = (Str.empty).cps.toList ++ x.cps.toList from TL.tl_append _ _]
  rfl
theorem shownR_eq (g : Str) (rs : List Rule) : ((("Relay(" : Str) ++ (PyData.str g).shown ++ (", " : Str)) ++ (PyData.list (rulesD rs)).shown) ++ (")" : Str) = shownR g rs := by
  unfold shownR
  rw [empty_app]
section
variable {P : Program} {w : World} {K : PySem.W.Frag} {mg : Str → Option Value} {base : Heap} {CR : Addr}
/-! ### what is told -/
def spToldR (CR : Addr) : Sp := fun vs H Q _ => ∃ (q o : Addr) (g : Str) (rs : List Rule), vs = [.str g, .ref q, .ref o] ∧ OkR g rs ∧ IsDeals rs H q ∧ IsRelay CR g rs H o ∧ ∀ H', But [] H H' → Q (.bl true) H'
theorem scTo : FnScope ["abc", "deals", "plan", "told", "due", "later"] ["abc", "deals", "plan"] (defScope (top 54)) := ⟨rfl, rfl, rfl, by decide +kernel, rfl, by decide +kernel, by decide +kernel⟩
theorem d_toldR (B : Blt mg base) (CL : ClsP K CR) (D : At K mg "_law_told_right" (top 54)) (M1 : MethOk P w K mg base 1 CR "rules" ["self"] (spRulesP CR)) (M2 : MethG P w K mg base 1 CR "__repr__" ["self"] (spReprP CR)) (M3 : PropOk P w K mg base 1 CR "signs" (spSignsP CR)) :
    DefG P w K mg base 3 "_law_told_right" (top 54) ["abc", "deals", "plan"] (spToldR CR) := by
  refine defG_of D B scTo (fun vs H Q E ⟨_, _, _, _, e, _⟩ => by rw [e]; rfl) fun f cdv A outer s H vs Q E hm C gd h => ?_
  obtain ⟨q, o, g, rs, rfl, ok, hq, ho, hQ⟩ := h
  have hg := ok.sg
  have gl := strSigns_len hg
  have sz : ∀ n, n ≤ 16777216 → n ≤ sizeLine := fun n h => by rw [sizeLine_eq]; exact h
  have shw := rules_shw hg ok.each ok.few
  have shg : ShwZ 0 4 (.str g) := ShwZ.str (strSigns_ascii hg) gl.1
  have l1 := shw.len
  have l2 := shg.len
  have l3 : ("Relay(" : Str).length = 6 := rfl
  have l4 : (", " : Str).length = 2 := rfl
  have l5 : (")" : Str).length = 1 := rfl
  have rules : ∀ (HA : Hp), But [] H HA → ∃ dx fs, HA o = some (.ins CR dx fs) ∧ fs.lookup ("rules" : Str) = none ∧ ∀ (Q : VK) (E : XK), (∀ q xs H', But [] HA H' → HA q = none → H' q = some (.lst xs) → DDs [] [] H' xs (rulesD rs) → Q (.ref q) H') → spRulesP CR [.ref o] HA Q E := fun HA bA => by
    obtain ⟨dx, tq, h1, h2⟩ := (ho.but bA).ex
    exact ⟨dx, _, h1, rfl, fun Q E k => ⟨o, g, rs, rfl, ho.but bA, k⟩⟩
  have repr : ∀ (HA : Hp), But [] H HA → ∃ dx fs, HA o = some (.ins CR dx fs) ∧ ∀ (Q : VK) (E : XK), (∀ H', But [] HA H' → ∃ z : Str, V.str (shownR g rs) = .str z ∧ Q (.str z) H') → spReprP CR [.ref o] HA (fun v H' => ∃ z : Str, v = .str z ∧ Q v H') E := fun HA bA => by
    obtain ⟨dx, tq, h1, h2⟩ := (ho.but bA).ex
    exact ⟨dx, _, h1, fun Q E k => ⟨o, g, rs, rfl, ho.but bA, ok, fun H' b => by obtain ⟨z, e, q⟩ := k H' b; exact ⟨z, e, by rw [e]; exact q⟩⟩⟩
  obtain ⟨dx, fs, h1, hl, hk⟩ := rules H But.refl
  refine b_cons (s_par (i := 3) (j := 4) C (a_cons (e_meth0 (C.mono (by decide)) CL.c M1 (e_name 2 (v := .ref o) ⟨rfl, h1, hl, hk _ _ fun tq xs H1 b1 htn htq hts => ?_⟩))))
  refine a_cons (e_bin (e_bin (e_bin (e_bin (e_str (e_rep B gd C.un (e_name 0 (v := .str g) ⟨[], .str g, .str _, shg.rp (by decide) (by decide), o_adds (sz _ (by omega)) (e_str (o_adds (sz _ (by rw [app_len]; omega)) ?_))⟩)))))))
  have hts1 : DD [] [] H1 (.ref tq) (.list (rulesD rs)) := .lst (.inl (.inl htq)) (by simp) hts
  refine e_rep B gd C.un (e_name 1 (v := .ref q) ⟨[], .list (rulesD rs), (hq.but b1).dd.all, shw.rp (by decide) (by decide), o_adds (sz _ (by rw [app_len, app_len]; omega)) (e_str (o_adds (sz _ (by rw [app_len, app_len, app_len]; omega)) (a_nil ⟨_, _, rfl, ?_⟩)))⟩)
  rw [shownR_eq]
  show wB _ _ _ [some (.str g), some (.ref q), some (.ref o), some (.ref tq), some (.str (shownR g rs)), none] H1
  refine b_cons (s_ifB false ?_ (fun e => by cases e) (fun _ H2 b2 => b_nil ?_))
  · refine t_boolop (w_or (t_cmp (e_rep B gd C.un (e_name 3 (v := .ref tq) ⟨[], _, hts1.all, shw.rp (by decide) (by decide), e_rep B gd C.un (e_name 1 (v := .ref q) ⟨[], _, (hq.but b1).dd.all, shw.rp (by decide) (by decide), c_ne rfl ⟨false, by simp, ite_b (fun e => by cases e) fun _ => ?_⟩⟩)⟩))))
    obtain ⟨dy, fy, k1, kk⟩ := repr H1 b1
    refine w_or (t_cmp (e_reprI (C.mono (by decide)) gd M2 (e_name 2 (v := .ref o) ⟨o, dy, fy, rfl, k1, kk _ _ fun H2 b2 => ⟨_, rfl, e_name 4 (v := .str (shownR g rs)) (c_ne rfl ⟨false, by simp, ite_b (fun e => by cases e) fun _ => ?_⟩)⟩⟩)))
    obtain ⟨dz, tz, m1, m2⟩ := ((ho.but b1).but b2).ex
    refine w_or1 (t_cmp (e_rep B gd C.un (e_prop (C.mono (by decide)) CL.c M3 (e_name 2 (v := .ref o) ⟨rfl, m1, ⟨o, g, rs, rfl, (ho.but b1).but b2, ?_⟩⟩))))
    exact ⟨[], .str g, .str _, shg.rp (by decide) (by decide), e_rep B gd C.un (e_name 0 (v := .str g) ⟨[], .str g, .str _, shg.rp (by decide) (by decide), c_ne rfl ⟨false, by simp, rfl, b2⟩⟩)⟩
  have htq2 := b2 _ _ (by simp) htq
  refine b_cons (s_expr (e_reverse (e_name 3 (v := .ref tq) ⟨tq, xs, rfl, htq2, ?_⟩)))
  have hxl : xs.length = rs.length := by rw [hts.length, rulesD, List.length_map]
  refine b_cons (s_expr (e_append (e_name 3 (v := .ref tq) ⟨tq, rfl, ⟨_, upd_same⟩, e_none ⟨_, upd_same, sz _ (by rw [List.length_reverse]; have := ok.few; omega), ?_⟩⟩)))
  have b3 : But [] H (upd (upd H2 tq (.lst xs.reverse)) tq (.lst (xs.reverse ++ [.non]))) := fun a oo na e => by
    rw [upd_ne (ne_of_none e htn), upd_ne (ne_of_none e htn)]
    exact b2 _ _ na (b1 _ _ na e)
  generalize upd (upd H2 tq (.lst xs.reverse)) tq (.lst (xs.reverse ++ [.non])) = H3 at b3 ⊢
  obtain ⟨dx, fs, h1, hl, hk⟩ := rules H3 b3
  refine b_cons (s_set (i := 5) (e_meth0 (C.mono (by decide)) CL.c M1 (e_name 2 (v := .ref o) ⟨rfl, h1, hl, hk _ _ fun sq ys H4 b4 hsn hsq hss => ?_⟩)) C.nd)
  refine b_cons (s_expr (e_clear (e_name 5 (v := .ref sq) ⟨sq, ys, rfl, hsq, ?_⟩)))
  have hsH := b3.free hsn
  have b5 : But [] H (upd H4 sq (.lst [])) := fun a oo na e => by
    rw [upd_ne (ne_of_none e hsH)]
    exact b4 _ _ na (b3 _ _ na e)
  generalize upd H4 sq (.lst []) = H5 at b5 ⊢
  obtain ⟨dx, fs, h1, hl, hk⟩ := rules H5 b5
  refine b_cons (s_ret (e_and (e_cmp (e_rep B gd C.un (e_meth0 (C.mono (by decide)) CL.c M1 (e_name 2 (v := .ref o) ⟨rfl, h1, hl, hk _ _ fun uq zs H6 b6 hun huq hus => ?_⟩))))))
  have b56 := b5.trans b6
  refine ⟨[], .list (rulesD rs), (DD.lst (.inl (.inl huq)) (by simp) hus).all, shw.rp (by decide) (by decide), e_rep B gd C.un (e_name 1 (v := .ref q) ⟨[], _, (hq.but b56).dd.all, shw.rp (by decide) (by decide), c_eq rfl ⟨_, rfl, ite_b (fun _ => ?_) fun e => by simp at e⟩⟩)⟩
  obtain ⟨dy, fy, k1, kk⟩ := repr H6 b56
  refine e_one (e_cmp (e_reprI (C.mono (by decide)) gd M2 (e_name 2 (v := .ref o) ⟨o, dy, fy, rfl, k1, kk _ _ fun H7 b7 => ⟨_, rfl, e_name 4 (v := .str (shownR g rs)) (c_eq rfl ?_)⟩⟩)))
  rw [decide_eq_true rfl]
  exact hQ H7 (b56.trans b7)
end
end K21

set_option Elab.async false
set_option linter.all false
set_option maxRecDepth 100000
set_option maxHeartbeats 4000000
namespace K21
open PySem PySem.Spec PyProof.Rows L2 Z
/-! ### lists of rules, further -/
structure Mate (g : Str) (H : Hp) (q : Addr) : Prop where
  ex : ∃ rs, IsDeals rs H q ∧ (∀ r ∈ rs, okRule g r) ∧ rs.length ≤ 60
theorem Mate.exL {g : Str} {H H' : Hp} {q : Addr} {l : List Addr} (h : Mate g H q) (b : Ex l H H') (hl : ∀ q ∈ l, ∃ ys, H q = some (.lst ys)) (n : q ∉ l) : Mate g H' q := let ⟨rs, a, c, d⟩ := h.ex; ⟨rs, a.exL b hl n, c, d⟩
theorem Mate.but {g : Str} {H H' : Hp} {q : Addr} (h : Mate g H q) (b : But [] H H') : Mate g H' q := h.exL b.ex (by simp) (by simp)
theorem Mate.here {g : Str} {H : Hp} {q : Addr} (h : Mate g H q) : ∃ xs, H q = some (.lst xs) := let ⟨_, a, _⟩ := h.ex; let ⟨vs, e, _⟩ := a.ex; ⟨vs, e⟩
structure Mates (g : Str) (n : Nat) (sq : Addr) (H : Hp) : Prop where
  ex : ∃ xs, H sq = some (.lst xs) ∧ xs.length = n ∧ ∀ v ∈ xs, ∃ q, v = .ref q ∧ q ≠ sq ∧ Mate g H q
theorem Mates.but {g : Str} {n : Nat} {sq : Addr} {H H' : Hp} (h : Mates g n sq H) (b : But [] H H') : Mates g n sq H' := by
  obtain ⟨xs, h1, h2, h3⟩ := h.ex
  refine ⟨xs, b _ _ (by simp) h1, h2, fun v hv => ?_⟩
  obtain ⟨q, e, ne, m⟩ := h3 v hv
  exact ⟨q, e, ne, m.but b⟩
theorem Mates.here {g : Str} {n : Nat} {sq : Addr} {H : Hp} (h : Mates g n sq H) : ∃ xs, H sq = some (.lst xs) := let ⟨xs, e, _⟩ := h.ex; ⟨xs, e⟩
theorem Mates.push {g : Str} {n : Nat} {sq q : Addr} {H : Hp} (h : Mates g n sq H) (m : Mate g H q) (ne : q ≠ sq) : ∃ xs, H sq = some (.lst xs) ∧ xs.length = n ∧ Mates g (n + 1) sq (upd H sq (.lst (xs ++ [.ref q]))) := by
  obtain ⟨xs, h1, h2, h3⟩ := h.ex
  have b : Ex [sq] H (upd H sq (.lst (xs ++ [.ref q]))) := (But.at (by simp)).ex
  have hl : ∀ q ∈ [sq], ∃ ys, H q = some (.lst ys) := fun q hq => by rw [List.mem_singleton.mp hq]; exact ⟨_, h1⟩
  refine ⟨xs, h1, h2, xs ++ [.ref q], upd_same, by rw [List.length_append, h2]; rfl, fun v hv => ?_⟩
  rcases List.mem_append.mp hv with hv | hv
  · obtain ⟨q2, e, ne2, m2⟩ := h3 v hv
    exact ⟨q2, e, ne2, m2.exL b hl (by simpa using ne2)⟩
  · exact ⟨q, List.mem_singleton.mp hv, ne, m.exL b hl (by simpa using ne)⟩
theorem deals_push {rs : List Rule} {H : Hp} {q tq : Addr} {vs : List V} (h : IsDeals rs H q) (hv : H q = some (.lst vs)) (htq : H tq = none) (r : Rule) :
    IsDeals (rs ++ [r]) (upd (upd H tq (.tup [.str (kd r.fr), .str r.old, .str r.new])) q (.lst (vs ++ [.ref tq]))) q := by
  obtain ⟨vs', hv', hd⟩ := h.ex
  rw [hv] at hv'
  cases hv'
  have b : But [] H (upd H tq (.tup [.str (kd r.fr), .str r.old, .str r.new])) := But.new htq
  have hv2 := b _ _ (by simp) hv
  have bE : Ex [q] (upd H tq (.tup [.str (kd r.fr), .str r.old, .str r.new])) (upd (upd H tq (.tup [.str (kd r.fr), .str r.old, .str r.new])) q (.lst (vs ++ [.ref tq]))) := (But.at (by simp)).ex
  have lE : ∀ a ∈ [q], ∃ ys, (upd H tq (.tup [.str (kd r.fr), .str r.old, .str r.new])) a = some (.lst ys) := fun a ha => by rw [List.mem_singleton.mp ha]; exact ⟨_, hv2⟩
  have ht : DD [] [] (upd H tq (.tup [.str (kd r.fr), .str r.old, .str r.new])) (.ref tq) (ruleD r) := .tup (.inl (.inl upd_same)) (by simp) (.cons (.str _) (.cons (.str _) (.cons (.str _) .nil)))
  refine ⟨_, upd_same, ?_⟩
  rw [rulesD, List.map_append]
  exact DDs.append (rules_exL (hd.but b) bE lE) (.cons (dd_lists bE lE ht rfl) .nil)
theorem IsDeals.len {rs : List Rule} {H : Hp} {q : Addr} {vs : List V} (h : IsDeals rs H q) (hv : H q = some (.lst vs)) : vs.length = rs.length := by
  obtain ⟨vs', hv', hd⟩ := h.ex
  rw [hv] at hv'
  cases hv'
  rw [hd.length, rulesD, List.length_map]
/-- a list of some of the rules -/
theorem IsDeals.sub {rs : List Rule} {H H' : Hp} {q q' : Addr} {vs ys : List V} (h : IsDeals rs H q) (hv : H q = some (.lst vs)) (b : Ex [] H H') (hy : H' q' = some (.lst ys)) (hm : ∀ y ∈ ys, y ∈ vs) : ∃ rs', IsDeals rs' H' q' ∧ (∀ r ∈ rs', r ∈ rs) ∧ rs'.length = ys.length := by
  obtain ⟨vs', hv', hd⟩ := h.ex
  rw [hv] at hv'
  cases hv'
  obtain ⟨rs', h1, h2⟩ := rules_mem hd hm
  have hl := h1.length
  rw [rulesD, List.length_map] at hl
  exact ⟨rs', ⟨ys, hy, rules_exL h1 b (by simp)⟩, h2, hl.symm⟩
theorem cutV_mem {xs : List V} {lo hi : Option Int} {y : V} (h : y ∈ cutV xs lo hi) : y ∈ xs := by
  unfold cutV at h
  exact List.mem_of_mem_drop (List.mem_of_mem_take h)
theorem cutV_len (xs : List V) (lo hi : Option Int) : (cutV xs lo hi).length ≤ xs.length := by
  unfold cutV
  rw [List.length_take, List.length_drop]
  omega
/-- two lists of rules joined -/
theorem IsDeals.cat {rs ss : List Rule} {H H' : Hp} {q q2 q' : Addr} {vs us : List V} (h : IsDeals rs H q) (hv : H q = some (.lst vs)) (k : IsDeals ss H q2) (hu : H q2 = some (.lst us)) (b : But [] H H') (hy : H' q' = some (.lst (vs ++ us))) : IsDeals (rs ++ ss) H' q' := by
  obtain ⟨vs', hv', hd⟩ := h.ex
  rw [hv] at hv'
  cases hv'
  obtain ⟨us', hu', he⟩ := k.ex
  rw [hu] at hu'
  cases hu'
  refine ⟨_, hy, ?_⟩
  rw [rulesD, List.map_append]
  exact DDs.append (hd.but b) (he.but b)
theorem one_deals {H : Hp} {q tq : Addr} (r : Rule) (hq : H q = some (.lst [.ref tq])) (ht : H tq = some (.tup [.str (kd r.fr), .str r.old, .str r.new])) : IsDeals [r] H q :=
  ⟨_, hq, .cons (.tup (.inl (.inl ht)) (by simp) (.cons (.str _) (.cons (.str _) (.cons (.str _) .nil)))) .nil⟩
theorem rules_cmp {g : Str} (hg : strSigns g = true) {rs : List Rule} (h : ∀ r ∈ rs, okRule g r) : CmpZ 2 (.list (rulesD rs)) := CmpZ.list fun x hx => by
  obtain ⟨r, hr, rfl⟩ := List.mem_map.mp hx
  exact rule_cmp hg (h r hr)
theorem rules_eqv {rs ss : List Rule} : PyData.eqv (.list (rulesD rs)) (.list (rulesD ss)) = decide (rs = ss) := rulesD_inj
section
variable {P : Program} {w : World} {K : PySem.W.Frag} {mg : Str → Option Value} {base : Heap} {CR : Addr}
theorem mk_spec {CR : Addr} {g : Str} {rs : List Rule} {v : V} {l : List Addr} {H : Hp} {Q : Addr → Hp → Prop} {E : XK} (ok : OkR g rs) (hv : IsRules [] rs l H v) (k : ∀ r H', But [] H H' → H r = none → IsRelay CR g rs H' r → Q r H') :
    ∀ r dx, H r = none → H dx = none → dx ≠ r → spInitP CR (.ref r :: ([.str g, v] ++ [])) (upd (upd H dx (.own r)) r (.ins CR dx [])) (fun v H2 => v = .non ∧ Q r H2) E := fun r dx hr hdx nd => by
  have bn : But [] H (upd (upd H dx (.own r)) r (.ins CR dx [])) := (But.new hdx).trans (But.new (by rw [upd_ne nd.symm]; exact hr))
  obtain ⟨d, h1, h2, h3⟩ := hv.ex
  exact ⟨r, dx, g, rs, v, l, rfl, ok, upd_same, ⟨d, h1.but (bn.mono (by simp)), h2, h3⟩, fun H' b hR => ⟨rfl, k r H' (but_late bn b fun q hq => by rw [List.mem_singleton.mp hq]; exact hr) hr hR⟩⟩
theorem eqR_oo {K : PySem.W.Frag} {CR p q : Addr} {g : Str} {rs ss : List Rule} {H : Hp} (h1 : IsRelay CR g rs H p) (o1 : OkR g rs) (h2 : IsRelay CR g ss H q) (o2 : OkR g ss) : EqR K CR (.ref p) (.ref q) (decide (rs = ss)) H :=
  ⟨p, g, rs, rfl, h1, o1, .inl ⟨q, g, ss, rfl, h2, o2, by rw [decide_eq_decide]; simp⟩⟩
theorem Mate.relay {g : Str} {H : Hp} {q : Addr} (h : Mate g H q) (hg : strSigns g = true) : ∃ rs, IsDeals rs H q ∧ OkR g rs ∧ rs.length ≤ 60 := let ⟨rs, a, b, c⟩ := h.ex; ⟨rs, a, ⟨b, hg, by omega⟩, c⟩
end
end K21

set_option Elab.async false
set_option linter.all false
set_option maxRecDepth 100000
set_option maxHeartbeats 4000000
namespace K21
open PySem PySem.Spec PyProof.Rows L2 Z
section
variable {P : Program} {w : World} {K : PySem.W.Frag} {mg : Str → Option Value} {base : Heap} {CR : Addr}
abbrev MakeP (P : Program) (w : World) (K : PySem.W.Frag) (mg : Str → Option Value) (base : Heap) (CR : Addr) : Prop := MakeOk P w K mg base 4 "Relay" CR pPs (spInitP CR) fun fd => Binds K fd pPs []
def spEqualR (CR : Addr) : Sp := fun vs H Q _ => ∃ (v : V) (q o : Addr) (g : Str) (rs : List Rule), vs = [v, .str g, .ref q, .ref o] ∧ OkR g rs ∧ (∀ r ∈ rs, okS g 5 r) ∧ rs.length ≤ 22 ∧ IsDeals rs H q ∧ IsRelay CR g rs H o ∧ ∀ H', But [] H H' → Q (.bl true) H'
theorem scEr : FnScope ["pot", "abc", "deals", "plan", "twin", "some", "others", "mate", "is_due", "odd", "kind", "old", "new", "thing"] ["pot", "abc", "deals", "plan"] (defScope (top 55)) := ⟨rfl, rfl, rfl, by decide +kernel, rfl, by decide +kernel, by decide +kernel⟩
theorem d_equalR (B : Blt mg base) (CL : ClsP K CR) (D : At K mg "_law_equal_right" (top 55)) (MP : MakeP P w K mg base CR) (M1 : MethOk P w K mg base 1 CR "rules" ["self"] (spRulesP CR)) (M2 : MethG P w K mg base 1 CR "__repr__" ["self"] (spReprP CR))
    (MQ : MethOk P w K mg base 1 CR "__eq__" ["self", "other"] (spEqB (EqR K CR))) (nb : NotB K CR) (hn : PySem.W.findIn K (.ref CR) "__ne__" = some (some (.builtin "object.__ne__"))) (hmr : PySem.W.mroIn K CR (.type "object") = some true) :
    DefG P w K mg base 6 "_law_equal_right" (top 55) ["pot", "abc", "deals", "plan"] (spEqualR CR) := by
  refine defG_of D B scEr (fun vs H Q E ⟨_, _, _, _, _, e, _⟩ => by rw [e]; rfl) fun f cdv A outer s H vs Q E hm C gd h => ?_
  obtain ⟨v0, q, o, g, rs, rfl, ok, hs5, hr22, hq, ho, hQ⟩ := h
  have hg := ok.sg
  have gl := strSigns_len hg
  have sz : ∀ n, n ≤ 16777216 → n ≤ sizeLine := fun n h => by rw [sizeLine_eq]; exact h
  obtain ⟨vs, hv, hd⟩ := hq.ex
  have hvl : vs.length = rs.length := hq.len hv
  have hso : ∀ r ∈ rs, okRule g r := ok.each
  -- twin
  refine b_cons (s_set (i := 4) (e_make (E := fun _ _ _ => False) (C.mono (by decide)) MP .nil (fun _ _ _ _ z => z.elim) (a_cons (e_name 1 (v := .str g) (a_cons (e_tupleOf B (e_name 2 (v := .ref q) ⟨q, vs, rfl, .inl ⟨.inl (.inl hv), fun tq htq => a_nil ?_⟩⟩)))))) C.nd)
  have bt : But [] H (upd H tq (.tup vs)) := But.new htq
  refine mk_spec (v := .ref tq) (l := []) ok ⟨.tuple (rulesD rs), .tup (.inl (.inl upd_same)) (by simp) (hd.but bt), rfl, rfl⟩ fun tw H2 b2 htw hTw => ?_
  have b02 := bt.trans b2
  have ho2 := ho.but b02
  have dt : decide (rs = rs) = true := by simp
  refine b_cons (s_ifB false ?_ (fun e => by cases e) (fun _ H3 b3 => b_nil ?_))
  · obtain ⟨dx, tx, h1, _⟩ := ho2.ex
    obtain ⟨dy, ty, k1, _⟩ := hTw.ex
    refine t_boolop (w_or (t_not (t_cmp (e_name 3 (v := .ref o) (e_name 4 (v := .ref tw) (c_eqOO (C.mono (by decide)) MQ h1 k1 (eqR_oo ho2 ok hTw ok) fun H3 b3 => ⟨_, rfl, ?_⟩))))))
    refine ite_b (fun e => by rw [dt] at e; cases e) fun _ => ?_
    refine w_or (t_cmp (e_name 3 (v := .ref o) (e_name 4 (v := .ref tw) (c_neOO (C.mono (by decide)) MQ hn hmr (b3 _ _ (by simp) h1) (b3 _ _ (by simp) k1) (eqR_oo (ho2.but b3) ok (hTw.but b3) ok) fun H4 b4 => ⟨_, rfl, ?_⟩))))
    refine ite_b (fun e => by rw [dt] at e; cases e) fun _ => ?_
    refine w_or1 (t_not (t_cmp (e_name 4 (v := .ref tw) (e_name 3 (v := .ref o) (c_eqOO (C.mono (by decide)) MQ ((b3.trans b4) _ _ (by simp) k1) ((b3.trans b4) _ _ (by simp) h1) (eqR_oo (hTw.but (b3.trans b4)) ok (ho2.but (b3.trans b4)) ok) fun H5 b5 => ⟨_, rfl, ?_, b3.trans (b4.trans b5)⟩)))))
    rw [dt]; rfl
  have b03 := b02.trans b3
  have hv3 := b03 _ _ (by simp) hv
  have hq3 := hq.but b03
  -- the mates
  refine b_cons (s_set (i := 5) (e_lst (a_cons ?_)) C.nd)
  refine wE_mono (Q := fun v H' => ∃ q', v = .ref q' ∧ But [] H3 H' ∧ Mate g H' q') ?_ ?_
  · refine e_bin (e_name 2 (v := .ref q) (e_lst (a_cons (e_tup (a_cons (e_str (a_cons (e_str (a_cons (e_str (a_nil ⟨sz 3 (by decide), fun t1 ht1 => a_nil ⟨sz 1 (by decide), fun l1 hl1 => ?_⟩⟩)))))))))))
    have c1 : But [] H3 (upd H3 t1 (.tup [.str "front", .str "", .str ""])) := But.new ht1
    have c2 : But [] (upd H3 t1 (.tup [.str "front", .str "", .str ""])) (upd (upd H3 t1 (.tup [.str "front", .str "", .str ""])) l1 (.lst [.ref t1])) := But.new hl1
    have c12 := c1.trans c2
    have hone : IsDeals [⟨true, "", ""⟩] (upd (upd H3 t1 (.tup [.str "front", .str "", .str ""])) l1 (.lst [.ref t1])) l1 := one_deals ⟨true, "", ""⟩ upd_same (c2 _ _ (by simp) upd_same)
    refine o_cat (c12 _ _ (by simp) hv3) upd_same (by rw [hvl, sizeLine_eq]; show _ + 1 ≤ _; omega) fun m1 hm1 => ?_
    refine ⟨m1, rfl, c12.trans (But.new hm1), rs ++ [⟨true, "", ""⟩], (hq3.but c12).cat (c12 _ _ (by simp) hv3) hone upd_same (But.new hm1) upd_same, fun r hr => ?_, by rw [List.length_append]; show _ + 1 ≤ _; omega⟩
    rcases List.mem_append.mp hr with h | h
    · exact hso r h
    · rw [List.mem_singleton.mp h]; exact ⟨rfl, rfl, by decide, by decide⟩
  rintro _ H4 ⟨q1, rfl, b4, m1⟩
  refine a_cons (wE_mono (Q := fun v H' => ∃ q', v = .ref q' ∧ But [] H4 H' ∧ Mate g H' q') ?_ ?_)
  · have hv4 := b4 _ _ (by simp) hv3
    have hq4 := hq3.but b4
    refine e_if (t_cmp (e_name 2 (v := .ref q) (e_lst (a_nil ⟨sz 0 (by decide), fun n1 hn1 => c_neNil C (xs := vs) (.inl (.inl ((But.new hn1 : But [] H4 _) _ _ (by simp) hv4))) (.inl (.inl upd_same)) ⟨_, rfl, ite_b (fun e => ?_) fun e => ?_⟩⟩))))
    · have c0 : But [] H4 (upd H4 n1 (.lst [])) := But.new hn1
      have hv5 := c0 _ _ (by simp) hv4
      refine e_bin (e_name 2 (v := .ref q) (e_slice sl_list (e_name 2 (v := .ref q) (p_some (e_un (e_int (u_neg ⟨-1, rfl, p_none ⟨q, vs, rfl, .inl (.inl hv5), fun l1 hl1 => ?_⟩⟩)))))))
      have c2 : But [] (upd H4 n1 (.lst [])) (upd (upd H4 n1 (.lst [])) l1 (.lst (cutV vs (some (-1)) none))) := But.new hl1
      have hv6 := c2 _ _ (by simp) hv5
      have hcl := cutV_len vs (some (-1)) none
      refine o_cat hv6 upd_same (by rw [sizeLine_eq]; omega) fun m1 hm1 => ?_
      have c3 : But [] (upd (upd H4 n1 (.lst [])) l1 (.lst (cutV vs (some (-1)) none))) (upd (upd (upd H4 n1 (.lst [])) l1 (.lst (cutV vs (some (-1)) none))) m1 (.lst (vs ++ cutV vs (some (-1)) none))) := But.new hm1
      obtain ⟨rs', k1, k2, k3⟩ := IsDeals.sub hq4 hv4 (c0.trans (c2.trans c3)).ex upd_same (fun y hy => (List.mem_append.mp hy).elim id cutV_mem)
      exact ⟨m1, rfl, c0.trans (c2.trans c3), rs', k1, fun r hr => hso r (k2 r hr), by rw [k3, List.length_append]; omega⟩
    · have c0 : But [] H4 (upd H4 n1 (.lst [])) := But.new hn1
      refine e_lst (a_cons (e_tup (a_cons (e_str (a_cons (e_str (a_cons (e_str (a_nil ⟨sz 3 (by decide), fun t1 ht1 => a_nil ⟨sz 1 (by decide), fun l1 hl1 => ?_⟩⟩)))))))))
      have c1 : But [] (upd H4 n1 (.lst [])) (upd (upd H4 n1 (.lst [])) t1 (.tup [.str "whole", .str "", .str ""])) := But.new ht1
      have c2 : But [] (upd (upd H4 n1 (.lst [])) t1 (.tup [.str "whole", .str "", .str ""])) (upd (upd (upd H4 n1 (.lst [])) t1 (.tup [.str "whole", .str "", .str ""])) l1 (.lst [.ref t1])) := But.new hl1
      exact ⟨l1, rfl, c0.trans (c1.trans c2), [⟨false, "", ""⟩], one_deals ⟨false, "", ""⟩ upd_same (c2 _ _ (by simp) upd_same), fun r hr => by rw [List.mem_singleton.mp hr]; exact ⟨rfl, rfl, by decide, by decide⟩, by decide⟩
  rintro _ H5 ⟨q2, rfl, b5, m2⟩
  refine a_cons (wE_mono (Q := fun v H' => ∃ q', v = .ref q' ∧ But [] H5 H' ∧ Mate g H' q') ?_ ?_)
  · have hv5 := (b4.trans b5) _ _ (by simp) hv3
    have hq5 := hq3.but (b4.trans b5)
    refine e_slice sl_list (e_name 2 (v := .ref q) (p_some (e_int ⟨1, rfl, p_none ⟨q, vs, rfl, .inl (.inl hv5), fun l1 hl1 => ?_⟩⟩)))
    have hcl := cutV_len vs (some 1) none
    obtain ⟨rs', k1, k2, k3⟩ := IsDeals.sub hq5 hv5 (But.new hl1 : But [] H5 (upd H5 l1 (.lst (cutV vs (some 1) none)))).ex upd_same (fun y hy => cutV_mem hy)
    exact ⟨l1, rfl, But.new hl1, rs', k1, fun r hr => hso r (k2 r hr), by rw [k3]; omega⟩
  rintro _ H6 ⟨q3, rfl, b6, m3⟩
  refine a_nil ⟨sz 3 (by decide), fun sq hsq => ?_⟩
  have m1' := (m1.but (b5.trans b6))
  have m2' := m2.but b6
  have b36 := b4.trans (b5.trans b6)
  have b06 := b03.trans b36
  have hsH := b06.free hsq
  have bs : But [] H6 (upd H6 sq (.lst [.ref q1, .ref q2, .ref q3])) := But.new hsq
  have ms : Mates g 3 sq (upd H6 sq (.lst [.ref q1, .ref q2, .ref q3])) := ⟨_, upd_same, rfl, fun v hv => by
    simp only [List.mem_cons, List.not_mem_nil, or_false] at hv
    rcases hv with rfl | rfl | rfl
    · exact ⟨q1, rfl, ne_of_none (m1'.here.choose_spec) hsq, m1'.but bs⟩
    · exact ⟨q2, rfl, ne_of_none (m2'.here.choose_spec) hsq, m2'.but bs⟩
    · exact ⟨q3, rfl, ne_of_none (m3.here.choose_spec) hsq, m3.but bs⟩⟩
  have b07 := b06.trans bs
  clear m1 m2 m3 m1' m2' b4 b5 b6 b36
  show wB _ _ _ [some v0, some (.str g), some (.ref q), some (.ref o), some (.ref tw), some (.ref sq), none, none, none, none, none, none, none, none] (upd H6 sq (.lst [.ref q1, .ref q2, .ref q3]))
  generalize upd H6 sq (.lst [.ref q1, .ref q2, .ref q3]) = H7 at bs ms b07 ⊢
  clear bs
  have hc0 : g.cps.toList[0]? = some (g.cps.toList[0]'(by rw [Array.length_toList]; show 0 < g.length; omega)) := List.getElem?_eq_getElem _
  have hc1 : g.cps.toList[1]? = some (g.cps.toList[1]'(by rw [Array.length_toList]; show 1 < g.length; omega)) := List.getElem?_eq_getElem _
  have m0 := List.mem_of_getElem? hc0
  have m1 := List.mem_of_getElem? hc1
  generalize g.cps.toList[0]'(by rw [Array.length_toList]; show 0 < g.length; omega) = c0 at hc0 m0
  generalize g.cps.toList[1]'(by rw [Array.length_toList]; show 1 < g.length; omega) = c1 at hc1 m1
  -- mate 3
  have hv3 := b07 _ _ (by simp) hv
  refine b_cons (s_expr (e_append (e_name 5 (v := .ref sq) ⟨sq, rfl, ms.here, ?_⟩)))
  refine wE_mono (Q := fun v H' => ∃ q', v = .ref q' ∧ But [] H7 H' ∧ H7 q' = none ∧ Mate g H' q') (e_lc [("kind", 10), ("old", 11), ("new", 12)] C (i_list (e_name 2 (v := .ref q) ⟨q, rfl, ⟨_, .inl (.inl hv3)⟩, _, _, _, walk_list (xs := vs), fun Dl hDl => ?_⟩))) ?_
  · refine ⟨fun i H' => But [] H7 H' ∧ ∃ rs', IsDeals rs' H' Dl ∧ rs'.length = i ∧ ∀ r ∈ rs', okRule g r, ⟨But.new hDl, [], ⟨[], upd_same, .nil⟩, rfl, by simp⟩, fun i H' _ h => .inl (.inl (h.1 _ _ (by simp) hv3)), ?_, ?_⟩
    · rintro i x H' HA hi ⟨b8, rs', hr8, hl8, ho8⟩ ⟨rfl, hx⟩
      obtain ⟨dx, hdx, hD⟩ := hd.get hx
      obtain ⟨r, hr, rfl⟩ : ∃ r, rs[i]? = some r ∧ ruleD r = dx := by
        have : (rs.map ruleD)[i]? = some dx := hdx
        rw [List.getElem?_map, Option.map_eq_some_iff] at this
        exact this
      have hrk := hs5 r (List.mem_of_getElem? hr)
      have hol := hrk.ol
      have hnl := hrk.nl
      obtain ⟨t, rfl, nt, ht⟩ := dd_rule (hD.but (b07.trans b8))
      obtain ⟨ws, hw, _⟩ := hr8.ex
      have hwl := hr8.len hw
      intro s H0 Ca cl fp
      refine g_tup (gs_cons (g_name (i := 10) (gs_cons (g_name (i := 11) (gs_cons (g_name (i := 12) (gs_nil ⟨rfl, ?_⟩) C.nd)) C.nd)) C.nd)) rfl (sqt_all ht)
      refine fun s H0 Ca cl fp => eIf pts_nil ?_
      refine fun s H0 Ca cl fp => ?_
      refine e_tup (a_cons (wE_mono (Q := fun v H' => (∃ fr, v = .str (kd fr)) ∧ HA = H') (e_if (t_cmp (e_name 10 (v := .str (kd r.fr)) (e_str (c_eq rfl ⟨r.fr, by (cases r.fr <;> rfl), ite_b (fun e => e_str ⟨⟨false, rfl⟩, rfl⟩) fun e => e_str ⟨⟨true, rfl⟩, rfl⟩⟩))))) ?_))
      rintro v HB ⟨⟨fr, rfl⟩, rfl⟩
      refine a_cons (e_name 11 (v := .str r.old) (a_cons (e_name 12 (v := .str r.new) (a_nil ⟨sz 3 (by decide), fun tq htq => ?_⟩))))
      refine ⟨ws, (But.new htq : But [] HA _) _ _ (by simp) hw, sz _ (by omega), fun a o na e => ?_, rs' ++ [⟨fr, r.old, r.new⟩], deals_push hr8 hw htq ⟨fr, r.old, r.new⟩, by simp [hl8], fun r' hr' => ?_⟩
      · rw [upd_ne (ne_of_none e hDl), upd_ne (ne_of_none (b8 _ _ na e) htq)]
        exact b8 _ _ na e
      · rcases List.mem_append.mp hr' with h | h
        · exact ho8 r' h
        · rw [List.mem_singleton.mp h]; exact ⟨hrk.o, hrk.n, by show r.old.length ≤ _; omega, by show r.new.length ≤ _; omega⟩
    · rintro HA ⟨b8, rs', hr8, hl8, ho8⟩
      exact ⟨Dl, rfl, b8, hDl, rs', hr8, ho8, by omega⟩
  rintro _ HA ⟨q4, rfl, b8, hn4, m4⟩
  obtain ⟨xs3, k1, k2, k3⟩ := (ms.but b8).push m4 (ne_of_none ms.here.choose_spec hn4).symm
  refine ⟨xs3, k1, sz _ (by omega), ?_⟩
  have b073 : But [] H (upd HA sq (.lst (xs3 ++ [.ref q4]))) := fun a o na e => by
    rw [upd_ne (ne_of_none e hsH)]
    exact b8 _ _ na (b07 _ _ na e)
  generalize upd HA sq (.lst (xs3 ++ [.ref q4])) = H8 at k3 b073
  have ms3 := k3
  clear k3 m4 b8 ms b07 k1 k2 hn4
  -- mate 4
  have hv4 := b073 _ _ (by simp) hv
  refine b_cons (s_expr (e_append (e_name 5 (v := .ref sq) ⟨sq, rfl, ms3.here, ?_⟩)))
  refine wE_mono (Q := fun v H' => ∃ q', v = .ref q' ∧ But [] H8 H' ∧ H8 q' = none ∧ Mate g H' q') (e_lc [("kind", 10), ("old", 11), ("new", 12)] C (i_list (e_name 2 (v := .ref q) ⟨q, rfl, ⟨_, .inl (.inl hv4)⟩, _, _, _, walk_list (xs := vs), fun Dl hDl => ?_⟩))) ?_
  · refine ⟨fun i H' => But [] H8 H' ∧ ∃ rs', IsDeals rs' H' Dl ∧ rs'.length = i ∧ ∀ r ∈ rs', okRule g r, ⟨But.new hDl, [], ⟨[], upd_same, .nil⟩, rfl, by simp⟩, fun i H' _ h => .inl (.inl (h.1 _ _ (by simp) hv4)), ?_, ?_⟩
    · rintro i x H' HA hi ⟨b8, rs', hr8, hl8, ho8⟩ ⟨rfl, hx⟩
      obtain ⟨dx, hdx, hD⟩ := hd.get hx
      obtain ⟨r, hr, rfl⟩ : ∃ r, rs[i]? = some r ∧ ruleD r = dx := by
        have : (rs.map ruleD)[i]? = some dx := hdx
        rw [List.getElem?_map, Option.map_eq_some_iff] at this
        exact this
      have hrk := hs5 r (List.mem_of_getElem? hr)
      have hol := hrk.ol
      have hnl := hrk.nl
      obtain ⟨t, rfl, nt, ht⟩ := dd_rule (hD.but (b073.trans b8))
      obtain ⟨ws, hw, _⟩ := hr8.ex
      have hwl := hr8.len hw
      intro s H0 Ca cl fp
      refine g_tup (gs_cons (g_name (i := 10) (gs_cons (g_name (i := 11) (gs_cons (g_name (i := 12) (gs_nil ⟨rfl, ?_⟩) C.nd)) C.nd)) C.nd)) rfl (sqt_all ht)
      refine fun s H0 Ca cl fp => eIf pts_nil ?_
      refine fun s H0 Ca cl fp => ?_
      refine e_tup (a_cons (e_name 10 (v := .str (kd r.fr)) (a_cons (e_name 11 (v := .str r.old) (a_cons (e_bin (e_name 12 (v := .str r.new) (e_ix (e_name 1 (v := .str g) (e_int (ix_s (sz _ (by omega)) (c := c0) (atI_nat (j := 0) hc0) (o_adds (sz _ (by show _ + 1 ≤ _; omega)) (a_nil ⟨sz 3 (by decide), fun tq htq => ?_⟩)))))))))))))
      refine ⟨ws, (But.new htq : But [] HA _) _ _ (by simp) hw, sz _ (by omega), fun a o na e => ?_, rs' ++ [⟨r.fr, r.old, r.new ++ ⟨#[c0]⟩⟩], deals_push hr8 hw htq ⟨r.fr, r.old, r.new ++ ⟨#[c0]⟩⟩, by simp [hl8], fun r' hr' => ?_⟩
      · rw [upd_ne (ne_of_none e hDl), upd_ne (ne_of_none (b8 _ _ na e) htq)]
        exact b8 _ _ na e
      · rcases List.mem_append.mp hr' with h | h
        · exact ho8 r' h
        · rw [List.mem_singleton.mp h]; exact ⟨hrk.o, app_line hrk.n (one_line m0), by show r.old.length ≤ _; omega, by show (r.new ++ _).length ≤ _; rw [app_len]; show _ + 1 ≤ _; omega⟩
    · rintro HA ⟨b8, rs', hr8, hl8, ho8⟩
      exact ⟨Dl, rfl, b8, hDl, rs', hr8, ho8, by omega⟩
  rintro _ HA ⟨q4, rfl, b8, hn4, m4⟩
  obtain ⟨xs4, k1, k2, k3⟩ := (ms3.but b8).push m4 (ne_of_none ms3.here.choose_spec hn4).symm
  refine ⟨xs4, k1, sz _ (by omega), ?_⟩
  have b074 : But [] H (upd HA sq (.lst (xs4 ++ [.ref q4]))) := fun a o na e => by
    rw [upd_ne (ne_of_none e hsH)]
    exact b8 _ _ na (b073 _ _ na e)
  generalize upd HA sq (.lst (xs4 ++ [.ref q4])) = H9 at k3 b074
  have ms4 := k3
  clear k3 m4 b8 ms3 b073 k1 k2 hn4
  -- mate 5
  have hv5 := b074 _ _ (by simp) hv
  refine b_cons (s_expr (e_append (e_name 5 (v := .ref sq) ⟨sq, rfl, ms4.here, ?_⟩)))
  refine wE_mono (Q := fun v H' => ∃ q', v = .ref q' ∧ But [] H9 H' ∧ H9 q' = none ∧ Mate g H' q') (e_lc [("kind", 10), ("old", 11), ("new", 12)] C (i_list (e_name 2 (v := .ref q) ⟨q, rfl, ⟨_, .inl (.inl hv5)⟩, _, _, _, walk_list (xs := vs), fun Dl hDl => ?_⟩))) ?_
  · refine ⟨fun i H' => But [] H9 H' ∧ ∃ rs', IsDeals rs' H' Dl ∧ rs'.length = i ∧ ∀ r ∈ rs', okRule g r, ⟨But.new hDl, [], ⟨[], upd_same, .nil⟩, rfl, by simp⟩, fun i H' _ h => .inl (.inl (h.1 _ _ (by simp) hv5)), ?_, ?_⟩
    · rintro i x H' HA hi ⟨b8, rs', hr8, hl8, ho8⟩ ⟨rfl, hx⟩
      obtain ⟨dx, hdx, hD⟩ := hd.get hx
      obtain ⟨r, hr, rfl⟩ : ∃ r, rs[i]? = some r ∧ ruleD r = dx := by
        have : (rs.map ruleD)[i]? = some dx := hdx
        rw [List.getElem?_map, Option.map_eq_some_iff] at this
        exact this
      have hrk := hs5 r (List.mem_of_getElem? hr)
      have hol := hrk.ol
      have hnl := hrk.nl
      obtain ⟨t, rfl, nt, ht⟩ := dd_rule (hD.but (b074.trans b8))
      obtain ⟨ws, hw, _⟩ := hr8.ex
      have hwl := hr8.len hw
      intro s H0 Ca cl fp
      refine g_tup (gs_cons (g_name (i := 10) (gs_cons (g_name (i := 11) (gs_cons (g_name (i := 12) (gs_nil ⟨rfl, ?_⟩) C.nd)) C.nd)) C.nd)) rfl (sqt_all ht)
      refine fun s H0 Ca cl fp => eIf pts_nil ?_
      refine fun s H0 Ca cl fp => ?_
      refine e_tup (a_cons (e_name 10 (v := .str (kd r.fr)) (a_cons (e_bin (e_name 11 (v := .str r.old) (e_ix (e_name 1 (v := .str g) (e_int (ix_s (sz _ (by omega)) (c := c1) (atI_nat (j := 1) hc1) (o_adds (sz _ (by show _ + 1 ≤ _; omega)) (a_cons (e_name 12 (v := .str r.new) (a_nil ⟨sz 3 (by decide), fun tq htq => ?_⟩)))))))))))))
      refine ⟨ws, (But.new htq : But [] HA _) _ _ (by simp) hw, sz _ (by omega), fun a o na e => ?_, rs' ++ [⟨r.fr, r.old ++ ⟨#[c1]⟩, r.new⟩], deals_push hr8 hw htq ⟨r.fr, r.old ++ ⟨#[c1]⟩, r.new⟩, by simp [hl8], fun r' hr' => ?_⟩
      · rw [upd_ne (ne_of_none e hDl), upd_ne (ne_of_none (b8 _ _ na e) htq)]
        exact b8 _ _ na e
      · rcases List.mem_append.mp hr' with h | h
        · exact ho8 r' h
        · rw [List.mem_singleton.mp h]; exact ⟨app_line hrk.o (one_line m1), hrk.n, by show (r.old ++ _).length ≤ _; rw [app_len]; show _ + 1 ≤ _; omega, by show r.new.length ≤ _; omega⟩
    · rintro HA ⟨b8, rs', hr8, hl8, ho8⟩
      exact ⟨Dl, rfl, b8, hDl, rs', hr8, ho8, by omega⟩
  rintro _ HA ⟨q4, rfl, b8, hn4, m4⟩
  obtain ⟨xs5, k1, k2, k3⟩ := (ms4.but b8).push m4 (ne_of_none ms4.here.choose_spec hn4).symm
  refine ⟨xs5, k1, sz _ (by omega), ?_⟩
  have b075 : But [] H (upd HA sq (.lst (xs5 ++ [.ref q4]))) := fun a o na e => by
    rw [upd_ne (ne_of_none e hsH)]
    exact b8 _ _ na (b074 _ _ na e)
  generalize upd HA sq (.lst (xs5 ++ [.ref q4])) = HX at k3 b075
  have ms5 := k3
  clear k3 m4 b8 ms4 b074 k1 k2 hn4
  -- mate 6: the rules backwards
  have hv6 := b075 _ _ (by simp) hv
  refine b_cons (s_expr (e_append (e_name 5 (v := .ref sq) ⟨sq, rfl, ms5.here, e_rev (e_name 2 (v := .ref q) ⟨q, vs, rfl, .inl (.inl hv6), fun l1 hl1 => ?_⟩)⟩)))
  have bl : But [] HX (upd HX l1 (.lst vs.reverse)) := But.new hl1
  obtain ⟨rs', k1, k2, k3⟩ := IsDeals.sub (hq.but b075) hv6 bl.ex upd_same (fun y hy => List.mem_reverse.mp hy)
  obtain ⟨xs6, k4, k5, k6⟩ := (ms5.but bl).push ⟨rs', k1, fun r hr => hso r (k2 r hr), by rw [k3, List.length_reverse]; omega⟩ (ne_of_none ms5.here.choose_spec hl1).symm
  refine ⟨xs6, k4, sz _ (by omega), ?_⟩
  have b08 : But [] H (upd (upd HX l1 (.lst vs.reverse)) sq (.lst (xs6 ++ [.ref l1]))) := fun a o na e => by
    rw [upd_ne (ne_of_none e hsH)]
    exact bl _ _ na (b075 _ _ na e)
  generalize upd (upd HX l1 (.lst vs.reverse)) sq (.lst (xs6 ++ [.ref l1])) = HY at k6 b08
  clear ms5 b075 bl k1 k2 k3 k4 k5 hv6
  obtain ⟨xs, hs, hsl, hms⟩ := k6.ex
  show wB _ _ _ [some v0, some (.str g), some (.ref q), some (.ref o), some (.ref tw), some (.ref sq), none, none, none, none, none, none, none, none] HY
  refine b_cons (s_for C (i_list (e_name 5 (v := .ref sq) ⟨sq, rfl, ⟨_, .inl (.inl hs)⟩, _, _, _, walk_list (xs := xs), fun i σ H' => (∃ v6 v7 v8, σ = [some v0, some (.str g), some (.ref q), some (.ref o), some (.ref tw), some (.ref sq), v6, v7, v8, none, none, none, none, none]) ∧ But [] HY H', ⟨⟨none, none, none, rfl⟩, But.refl⟩, fun i σ H' _ h => .inl (.inl (h.2 _ _ (by simp) hs)), ?_, ?_⟩)))
  · rintro i y σ HA H' hi ⟨⟨v6, v7, v8, rfl⟩, bA⟩ ⟨rfl, hy⟩
    obtain ⟨q', rfl, nq, mq⟩ := hms y (List.mem_of_getElem? hy)
    obtain ⟨ss, hss, oks, _⟩ := (mq.but bA).relay hg
    refine g_name (i := 6) ?_ C.nd
    refine b_cons (s_set (i := 7) (e_make (E := fun _ _ _ => False) (C.mono (by decide)) MP .nil (fun _ _ _ _ z => z.elim) (a_cons (e_name 1 (v := .str g) (a_cons (e_name 6 (v := .ref q') (a_nil ?_)))))) C.nd)
    refine mk_spec (v := .ref q') (l := []) oks (hss.rules (K := [])) fun mt HB bB hmt hMt => ?_
    have bAB := bA.trans bB
    have b0B := b08.trans bAB
    refine b_cons (s_set (i := 8) (e_cmp (e_name 6 (v := .ref q') (e_name 2 (v := .ref q) (c_eqD C (hss.but bB).dd.all (hq.but b0B).dd.all ((rules_cmp hg oks.each).shaped (by decide)) ((rules_cmp hg hso).shaped (by decide)) ?_)))) C.nd)
    rw [rules_eqv]
    have hoB := ho.but b0B
    obtain ⟨dx, tx, h1, _⟩ := hoB.ex
    obtain ⟨dy, ty, k1, _⟩ := hMt.ex
    have dsym : decide (rs = ss) = decide (ss = rs) := by rw [decide_eq_decide]; exact eq_comm
    have shw3 : ShwZ 1 (3 * (10 + 1)) (.list [.bool (decide (ss = rs)), .bool (decide (ss = rs)), .bool (!decide (ss = rs))]) := ShwZ.list (n := 0) (w := 10) 3 (fun d hd => by
      simp only [List.mem_cons, List.not_mem_nil, or_false] at hd
      rcases hd with rfl | rfl | rfl <;> exact ShwZ.bool) (Nat.le_refl _)
    refine b_cons (s_ifB false ?_ (fun e => by cases e) (fun _ HC bC => b_nil (b_nil ⟨⟨_, _, _, rfl⟩, bAB.trans bC⟩)))
    refine t_cmp (e_rep B gd C.un (e_lst (a_cons (e_cmp (e_name 3 (v := .ref o) (e_name 7 (v := .ref mt) (c_eqOO (C.mono (by decide)) MQ h1 k1 (eqR_oo hoB ok hMt oks) fun HC bC => ?_)))))))
    refine a_cons (e_cmp (e_name 7 (v := .ref mt) (e_name 3 (v := .ref o) (c_eqOO (C.mono (by decide)) MQ (bC _ _ (by simp) k1) (bC _ _ (by simp) h1) (eqR_oo (hMt.but bC) oks (hoB.but bC) ok) fun HD bD => ?_))))
    have bCD := bC.trans bD
    refine a_cons (e_cmp (e_name 3 (v := .ref o) (e_name 7 (v := .ref mt) (c_neOO (C.mono (by decide)) MQ hn hmr (bCD _ _ (by simp) h1) (bCD _ _ (by simp) k1) (eqR_oo (hoB.but bCD) ok (hMt.but bCD) oks) fun HE bE => a_nil ⟨sz 3 (by decide), fun lq hlq => ?_⟩))))
    rw [dsym]
    have bl : But [] HE (upd HE lq (.lst [.bl (decide (ss = rs)), .bl (decide (ss = rs)), .bl (!decide (ss = rs))])) := But.new hlq
    refine ⟨[], .list [.bool (decide (ss = rs)), .bool (decide (ss = rs)), .bool (!decide (ss = rs))], .lst (.inl (.inl upd_same)) (by simp) (.cons (.bl _) (.cons (.bl _) (.cons (.bl _) .nil))), shw3.rp (by decide) (by decide), ?_⟩
    refine e_rep B gd C.un (e_lst (a_cons (e_name 8 (v := .bl (decide (ss = rs))) (a_cons (e_name 8 (v := .bl (decide (ss = rs))) (a_cons (e_not (e_name 8 (v := .bl (decide (ss = rs))) ⟨_, rfl, a_nil ⟨sz 3 (by decide), fun mq hmq => ?_⟩⟩))))))))
    exact ⟨[], _, .lst (.inl (.inl upd_same)) (by simp) (.cons (.bl _) (.cons (.bl _) (.cons (.bl _) .nil))), shw3.rp (by decide) (by decide), c_ne rfl ⟨false, by simp, rfl, bCD.trans (bE.trans (bl.trans (But.new hmq)))⟩⟩
  rintro σ HA ⟨⟨v6, v7, v8, rfl⟩, bA⟩
  have b0A := b08.trans bA
  have hvA := b0A _ _ (by simp) hv
  -- what is no relay
  refine b_cons (s_set (i := 9) (e_lst (a_cons (e_none (a_cons (e_int (a_cons (e_bool (a_cons (e_name 1 (v := .str g) (a_cons (e_name 2 (v := .ref q) (a_cons (e_tupleOf B (e_name 2 (v := .ref q) ⟨q, vs, rfl, .inl ⟨.inl (.inl hvA), fun tq htq => ?_⟩⟩)))))))))))))) C.nd)
  have c1 : But [] HA (upd HA tq (.tup vs)) := But.new htq
  have ht1 : Ty1 K (upd HA tq (.tup vs)) (.ref tq) "tuple" := .tup (.inl (.inl upd_same))
  generalize upd HA tq (.tup vs) = HB at c1 ht1 ⊢
  have b0B := b0A.trans c1
  have hoB := ho.but b0B
  obtain ⟨dx, tx, h1, _⟩ := hoB.ex
  refine a_cons (e_reprI (C.mono (by decide)) gd M2 (e_name 3 (v := .ref o) ⟨o, dx, _, rfl, h1, ⟨o, g, rs, rfl, hoB, ok, fun HC bC => ⟨_, rfl, ?_⟩⟩⟩))
  have b0C := b0B.trans bC
  have hoC := ho.but b0C
  obtain ⟨dy, ty, h2, _⟩ := hoC.ex
  refine a_cons (e_meth0 (C.mono (by decide)) CL.c M1 (e_name 3 (v := .ref o) ⟨rfl, h2, rfl, ⟨o, g, rs, rfl, hoC, fun rq ws HD bD hrn hrw hrd => ?_⟩⟩))
  have hr1 : Ty1 K HD (.ref rq) "list" := .lst (.inl (.inl hrw))
  refine a_cons (e_tup (a_cons (e_name 1 (v := .str g) (a_cons (e_name 2 (v := .ref q) (a_nil ⟨sz 2 (by decide), fun pq hpq => ?_⟩))))))
  have c2 : But [] HD (upd HD pq (.tup [.str g, .ref q])) := But.new hpq
  have hp1 : Ty1 K (upd HD pq (.tup [.str g, .ref q])) (.ref pq) "tuple" := .tup (.inl (.inl upd_same))
  generalize upd HD pq (.tup [.str g, .ref q]) = HE at c2 hp1 ⊢
  refine a_cons (e_lst (a_cons (e_name 3 (v := .ref o) (a_nil ⟨sz 1 (by decide), fun lq hlq => ?_⟩))))
  have c3 : But [] HE (upd HE lq (.lst [.ref o])) := But.new hlq
  have hl1 : Ty1 K (upd HE lq (.lst [.ref o])) (.ref lq) "list" := .lst (.inl (.inl upd_same))
  generalize upd HE lq (.lst [.ref o]) = HF at c3 hl1 ⊢
  refine a_cons (eE pe_dnewK fun eq heq => a_nil ⟨sz 11 (by decide), fun oq hoq => ?_⟩)
  have c4 : But [] HF (upd HF eq (.dK [])) := But.new heq
  have he1 : Ty1 K (upd HF eq (.dK [])) (.ref eq) "dict" := .dct upd_same
  generalize upd HF eq (.dK []) = HG at c4 he1 hoq ⊢
  have c5 : But [] HG (upd HG oq (.lst [.non, .int 0, .bl true, .str g, .ref q, .ref tq, .str (shownR g rs), .ref rq, .ref pq, .ref lq, .ref eq])) := But.new hoq
  have hoq1 : upd HG oq (.lst [.non, .int 0, .bl true, .str g, .ref q, .ref tq, .str (shownR g rs), .ref rq, .ref pq, .ref lq, .ref eq]) oq = some (.lst [.non, .int 0, .bl true, .str g, .ref q, .ref tq, .str (shownR g rs), .ref rq, .ref pq, .ref lq, .ref eq]) := upd_same
  show wB _ _ _ ([some v0, some (.str g), some (.ref q), some (.ref o), some (.ref tw), some (.ref sq), v6, v7, v8, some (.ref oq), none, none, none, none] : L2.St) (upd HG oq (.lst [.non, .int 0, .bl true, .str g, .ref q, .ref tq, .str (shownR g rs), .ref rq, .ref pq, .ref lq, .ref eq]))
  generalize upd HG oq (.lst [.non, .int 0, .bl true, .str g, .ref q, .ref tq, .str (shownR g rs), .ref rq, .ref pq, .ref lq, .ref eq]) = HH at c5 hoq1 ⊢
  have e5 := c5
  have e4 := c4.trans e5
  have e3 := c3.trans e4
  have e2 := c2.trans e3
  have eD := bD.trans e2
  have eC := bC.trans eD
  have b0H := b0B.trans eC
  have hty : ∀ v ∈ [V.non, .int 0, .bl true, .str g, .ref q, .ref tq, .str (shownR g rs), .ref rq, .ref pq, .ref lq, .ref eq], ∃ T, Ty1 K HH v T := fun v hv2 => by
    simp only [List.mem_cons, List.not_mem_nil, or_false] at hv2
    rcases hv2 with rfl | rfl | rfl | rfl | rfl | rfl | rfl | rfl | rfl | rfl | rfl
    · exact ⟨_, .non⟩
    · exact ⟨_, .int 0⟩
    · exact ⟨_, .bl true⟩
    · exact ⟨_, .str _⟩
    · exact ⟨_, .lst (.inl (.inl (b0H _ _ (by simp) hv)))⟩
    · exact ⟨_, ht1.but eC⟩
    · exact ⟨_, .str _⟩
    · exact ⟨_, hr1.but e2⟩
    · exact ⟨_, hp1.but e3⟩
    · exact ⟨_, hl1.but e4⟩
    · exact ⟨_, he1.but e5⟩
  refine b_cons (s_ret (e_not (e_any C (e_lcM [("thing", 13)] C (i_list (e_name 9 (v := .ref oq) ⟨oq, rfl, ⟨_, .inl (.inl hoq1)⟩, _, _, _, List.replicate 11 (.bl false), walk_list (xs := [V.non, .int 0, .bl true, .str g, .ref q, .ref tq, .str (shownR g rs), .ref rq, .ref pq, .ref lq, .ref eq]), rfl, sz 11 (by decide), fun H' b => .inl (.inl (b _ _ (by simp) hoq1)), fun i x HJ H' hi bJ hx => ?_, fun D HJ bJ hDn hDl => ⟨D, List.replicate 11 false, rfl, .inl (.inl hDl), ?_⟩⟩))))))
  · obtain ⟨rfl, hx⟩ := hx
    obtain ⟨T, hT⟩ := hty x (List.mem_of_getElem? hx)
    have hT1 := hT.but bJ
    have hoJ := ho.but (b0H.trans bJ)
    obtain ⟨dz, tz, h3, _⟩ := hoJ.ex
    refine ⟨But.refl, mt_name (i := 13) C.nd fun s H0 Ca cl fp => ?_⟩
    have CB := (C.mono (show 2 ≤ 5 by decide))
    refine e_or (e_cmp (e_name 3 (v := .ref o) (e_name 13 (v := x) (c_eqOD (CB.blk _ _ _ _ _) MQ nb h3 hT1 ⟨o, g, rs, rfl, hoJ, ok, .inr ⟨T, hT1, rfl⟩⟩ fun HK bK => ⟨false, rfl, ite_b (fun e => by cases e) fun _ => ?_⟩))))
    refine e_one (e_cmp (e_name 13 (v := x) (e_name 3 (v := .ref o) (c_eqDO (CB.blk _ _ _ _ _) MQ nb (bK _ _ (by simp) h3) (hT1.but bK) ⟨o, g, rs, rfl, hoJ.but bK, ok, .inr ⟨T, hT1.but bK, rfl⟩⟩ fun HL bL => ⟨?_, bK.trans bL⟩))))
    have hi11 : i < 11 := hi
    rw [List.getElem?_replicate, if_pos hi11]
  · exact ⟨_, rfl, hQ HJ (b0H.trans bJ)⟩
end
end K21

set_option Elab.async false
set_option linter.all false
set_option maxRecDepth 100000
set_option maxHeartbeats 4000000
namespace K21
open PySem PySem.Spec PyProof.Rows L2 Z
/-! ### plain: hidden rules -/
def hidR (e r : Rule) : Bool := (e.fr && decide (r.old.cps.toList.take e.old.length = e.old.cps.toList)) || decide (e.fr = r.fr ∧ e.old = r.old)
theorem hid_fits {e r : Rule} {x : Str} (h : hidR e r = true) (hf : fitsR r x = true) : fitsR e x = true := by
  simp only [hidR, Bool.or_eq_true, Bool.and_eq_true, decide_eq_true_eq] at h
  rcases h with ⟨he, hp⟩ | ⟨h1, h2⟩
  · have hn : e.old.length ≤ r.old.length := by
      have := congrArg List.length hp
      rw [List.length_take, lenL, lenL] at this
      omega
    unfold fitsR
    rw [if_pos he, decide_eq_true_eq]
    unfold fitsR at hf
    split at hf
    · rw [decide_eq_true_eq] at hf
      rw [← hp, ← hf, List.take_take, Nat.min_eq_left hn]
    · rw [decide_eq_true_eq] at hf
      rw [hf, hp]
  · unfold fitsR at hf ⊢
    rw [h1, h2]
    exact hf
theorem turn_congr {rs ss : List Rule} {x : Str} (h : rs.find? (fitsR · x) = ss.find? (fitsR · x)) : turnR rs x = turnR ss x := by
  unfold turnR
  rw [h]
theorem find_hid {ls : List Rule} {r : Rule} {x : Str} (h : ls.any (hidR · r) = true) : (ls ++ [r]).find? (fitsR · x) = ls.find? (fitsR · x) := by
  rw [List.find?_append]
  cases e : ls.find? (fitsR · x) with
  | some s => rfl
  | none =>
    rw [Option.none_or, List.find?_eq_none]
    intro s hs hf
    rw [List.mem_singleton.mp hs] at hf
    obtain ⟨d, hd, hh⟩ := List.any_eq_true.mp h
    have := List.find?_eq_none.mp e d hd
    exact this (hid_fits hh hf)
theorem find_more {rs ss : List Rule} {x : Str} (h : ∀ r ∈ ss, r ∈ rs) : (rs ++ ss).find? (fitsR · x) = rs.find? (fitsR · x) := by
  rw [List.find?_append]
  cases e : rs.find? (fitsR · x) with
  | some s => rfl
  | none =>
    rw [Option.none_or, List.find?_eq_none]
    exact fun s hs => List.find?_eq_none.mp e s (h s hs)
theorem cut_zero (x : Str) : cutS x (some 0) none = x := by
  unfold cutS
  rw [strEq]
  show (((x.cps.toList.drop 0).take (x.length - 0)).toArray).toList = _
  rw [List.drop_zero, Nat.sub_zero, ← lenL x, List.take_length]
theorem turn_end (rs : List Rule) (x : Str) : turnR (rs ++ [⟨true, "", ""⟩]) x = turnR rs x := by
  unfold turnR
  rw [List.find?_append]
  cases e : rs.find? (fitsR · x) with
  | some s => rfl
  | none =>
    show applyR ⟨true, "", ""⟩ x = x
    show ("" : Str) ++ cutS x (some 0) none = x
    rw [cut_zero]
    exact empty_app x
theorem pair_eqv {a b : Bool} {x y : Str} : PyData.eqv (.tuple [.str (kd a), .str x]) (.tuple [.str (kd b), .str y]) = decide (a = b ∧ x = y) := by
  rw [Bool.eq_iff_iff, decide_eq_true_eq]
  cases a <;> cases b <;> simp [PyData.eqv, PyData.eqvAll, kd]
  all_goals exact fun e => absurd e (by decide)
theorem pair_cmp {g x : Str} {a : Bool} (hg : strSigns g = true) (h : isLine g (.str x) = true) : CmpZ 1 (.tuple [.str (kd a), .str x]) := CmpZ.tuple fun d hd => by
  simp only [List.mem_cons, List.not_mem_nil, or_false] at hd
  rcases hd with rfl | rfl
  · exact CmpZ.str (kd_ascii _)
  · exact CmpZ.str (isLine_ascii hg h)
theorem three_eqv (y : Str) : PyData.eqv (.list [.str y, .str y, .str y]) (.list [.str y, .str y, .str y]) = true := by
  simp [PyData.eqv, PyData.eqvAll]
theorem three_cmp {g y : Str} (hg : strSigns g = true) (h : isLine g (.str y) = true) : CmpZ 1 (.list [.str y, .str y, .str y]) := CmpZ.list fun d hd => by
  simp only [List.mem_cons, List.not_mem_nil, or_false] at hd
  rcases hd with rfl | rfl | rfl <;> exact CmpZ.str (isLine_ascii hg h)
theorem any_take {α : Type} {p : α → Bool} {l : List α} {i : Nat} {x : α} (hx : l[i]? = some x) : (l.take (i + 1)).any p = ((l.take i).any p || p x) := by
  rw [List.take_add_one, hx, List.any_append]
  simp
section
variable {P : Program} {w : World} {K : PySem.W.Frag} {mg : Str → Option Value} {base : Heap} {CR : Addr}
def spHidR (CR : Addr) : Sp := fun vs H Q _ => ∃ (p q o : Addr) (g : Str) (rs : List Rule), vs = [.ref p, .str g, .ref q, .ref o] ∧ Pot H p ∧ OkR g rs ∧ (∀ r ∈ rs, okS g 5 r) ∧ rs.length ≤ 22 ∧ IsDeals rs H q ∧ IsRelay CR g rs H o ∧ ∀ H', But [p] H H' → Pot H' p → Q (.bl true) H'
theorem scHr : FnScope ["pot", "abc", "deals", "plan", "less", "kind", "old", "new", "is_hidden", "early", "begun", "made", "mates", "note", "mate"] ["pot", "abc", "deals", "plan"] (defScope (top 56)) := ⟨rfl, rfl, rfl, by decide +kernel, rfl, by decide +kernel, by decide +kernel⟩
theorem d_hidR (B : Blt mg base) (D : At K mg "_law_hidden_right" (top 56)) (MP : MakeP P w K mg base CR) (D1 : Def P w K mg base 1 "_law_notes" (top 51) ["abc", "most"] spNotes)
    (D2 : Def P w K mg base 2 "_law_mixed" (top 46) ["pot", "some"] spMixed) (M : CallOk P w K mg base 3 CR "line" (spCallP CR)) :
    Def P w K mg base 6 "_law_hidden_right" (top 56) ["pot", "abc", "deals", "plan"] (spHidR CR) := by
  refine def_of D B scHr (fun vs H Q E ⟨_, _, _, _, _, e, _⟩ => by rw [e]; rfl) fun f cdv A outer s H vs Q E hm C h => ?_
  obtain ⟨p, q, o, g, rs, rfl, hp, ok, hs5, hr22, hq, ho, hQ⟩ := h
  have hg := ok.sg
  have gl := strSigns_len hg
  have sz : ∀ n, n ≤ 16777216 → n ≤ sizeLine := fun n h => by rw [sizeLine_eq]; exact h
  obtain ⟨vs, hv, hd⟩ := hq.ex
  have hvl : vs.length = rs.length := hq.len hv
  refine b_cons (s_set (i := 4) (e_lst (a_nil ⟨sz 0 (by decide), fun lq hlq => ?_⟩)) C.nd)
  have b0 : But [] H (upd H lq (.lst [])) := But.new hlq
  have nlp := hp.there hlq
  refine b_cons (s_for C (i_list (e_name 2 (v := .ref q) ⟨q, rfl, ⟨_, .inl (.inl (b0 _ _ (by simp) hv))⟩, _, _, _, walk_list (xs := vs), fun i σ H' => (∃ v5 v6 v7 v8 v9 v10 v11, σ = [some (.ref p), some (.str g), some (.ref q), some (.ref o), some (.ref lq), v5, v6, v7, v8, v9, v10, v11, none, none, none]) ∧ But [] H H' ∧ ∃ ls, IsDeals ls H' lq ∧ ls.length ≤ i ∧ (∀ r ∈ ls, r ∈ rs) ∧ ∀ x, ls.find? (fitsR · x) = (rs.take i).find? (fitsR · x),
    ⟨⟨none, none, none, none, none, none, none, rfl⟩, b0, [], ⟨[], upd_same, .nil⟩, Nat.le_refl _, by simp, fun x => by simp⟩, fun i σ H' _ h => .inl (.inl (h.2.1 _ _ (by simp) hv)), ?_, ?_⟩)))
  · rintro i y σ H' H2 hi ⟨⟨v5, v6, v7, v8, v9, v10, v11, rfl⟩, b2, ls, hls, hll, hsub, hfind⟩ ⟨rfl, hy⟩
    obtain ⟨dx, hdx, hD⟩ := hd.get hy
    obtain ⟨r, hr, rfl⟩ : ∃ r, rs[i]? = some r ∧ ruleD r = dx := by
      have : (rs.map ruleD)[i]? = some dx := hdx
      rw [List.getElem?_map, Option.map_eq_some_iff] at this
      exact this
    have hrk := hs5 r (List.mem_of_getElem? hr)
    have hol := hrk.ol
    obtain ⟨t, rfl, nt, ht⟩ := dd_rule (hD.but b2)
    refine g_tup (gs_cons (g_name (i := 5) (gs_cons (g_name (i := 6) (gs_cons (g_name (i := 7) (gs_nil ?_) C.nd)) C.nd)) C.nd)) rfl (sqt_all ht)
    refine b_cons (s_set (i := 8) (e_bool ?_) C.nd)
    obtain ⟨us, hu, hud⟩ := hls.ex
    have hul := hls.len hu
    refine b_cons (s_for C (i_list (e_name 4 (v := .ref lq) ⟨lq, rfl, ⟨_, .inl (.inl hu)⟩, _, _, _, walk_list (xs := us), fun j σ H' => (∃ v9 v10 v11, σ = [some (.ref p), some (.str g), some (.ref q), some (.ref o), some (.ref lq), some (.str (kd r.fr)), some (.str r.old), some (.str r.new), some (.bl ((ls.take j).any (hidR · r))), v9, v10, v11, none, none, none]) ∧ But [] H2 H',
      ⟨⟨v9, v10, v11, rfl⟩, But.refl⟩, fun j σ H' _ h => .inl (.inl (h.2 _ _ (by simp) hu)), ?_, ?_⟩)))
    · rintro j z σ H' H3 hj ⟨⟨v9, v10, v11, rfl⟩, b3⟩ ⟨rfl, hz⟩
      obtain ⟨dz, hdz, hDz⟩ := hud.get hz
      obtain ⟨e, he, rfl⟩ : ∃ r, ls[j]? = some r ∧ ruleD r = dz := by
        have : (ls.map ruleD)[j]? = some dz := hdz
        rw [List.getElem?_map, Option.map_eq_some_iff] at this
        exact this
      have hek := hs5 e (hsub e (List.mem_of_getElem? he))
      have hel := hek.ol
      obtain ⟨t2, rfl, nt2, ht2⟩ := dd_rule (hDz.but b3)
      refine g_tup (gs_cons (g_name (i := 9) (gs_cons (g_name (i := 10) (gs_cons (g_name (i := 11) (gs_nil ?_) C.nd)) C.nd)) C.nd)) rfl (sqt_all ht2)
      refine b_mid (fun σ' H' => σ' = [some (.ref p), some (.str g), some (.ref q), some (.ref o), some (.ref lq), some (.str (kd r.fr)), some (.str r.old), some (.str r.new), some (.bl ((ls.take j).any (hidR · r) || (e.fr && decide (r.old.cps.toList.take e.old.length = e.old.cps.toList)))), some (.str (kd e.fr)), some (.str e.old), some (.str e.new), none, none, none] ∧ But [] H2 H') ?_ ?_
      · refine s_ifB (e.fr && decide (r.old.cps.toList.take e.old.length = e.old.cps.toList)) ?_ (fun hc H4 b4 => ?_) (fun hc H4 b4 => b_nil ?_)
        · refine t_boolop (w_and (t_cmp (e_name 9 (v := .str (kd e.fr)) (e_str (c_eq rfl ⟨e.fr, by (cases e.fr <;> rfl), ite_b (fun e3 => ?_) fun e3 => ⟨by rw [e3]; rfl, But.refl⟩⟩)))))
          refine w_and1 (t_cmp (e_slice sl_str (e_name 6 (v := .str r.old) (p_none (p_some (e_len B (e_name 10 (v := .str e.old) ⟨e.old.length, ⟨sz _ (by omega), rfl⟩, e.old.length, rfl, r.old, rfl, sz _ (by omega), ?_⟩)))))))
          refine e_name 10 (v := .str e.old) (c_eq rfl ⟨_, rfl, ?_, But.refl⟩)
          rw [head_fits, e3, Bool.true_and]
        · exact b_cons (s_set (i := 8) (e_bool (b_nil ⟨by rw [hc, Bool.or_true]; rfl, b3.trans b4⟩)) C.nd)
        · exact ⟨by rw [hc, Bool.or_false]; rfl, b3.trans b4⟩
      rintro σ' H4 ⟨rfl, b4⟩
      refine b_cons (s_ifB (decide (e.fr = r.fr ∧ e.old = r.old)) ?_ (fun hc H5 b5 => ?_) (fun hc H5 b5 => b_nil (b_nil ?_)))
      · refine t_cmp (e_tup (a_cons (e_name 9 (v := .str (kd e.fr)) (a_cons (e_name 10 (v := .str e.old) (a_nil ⟨sz 2 (by decide), fun k1 hk1 => ?_⟩))))))
        refine e_tup (a_cons (e_name 5 (v := .str (kd r.fr)) (a_cons (e_name 6 (v := .str r.old) (a_nil ⟨sz 2 (by decide), fun k2 hk2 => ?_⟩)))))
        have c1 : But [] H4 (upd H4 k1 (.tup [.str (kd e.fr), .str e.old])) := But.new hk1
        have c2 : But [] (upd H4 k1 (.tup [.str (kd e.fr), .str e.old])) (upd (upd H4 k1 (.tup [.str (kd e.fr), .str e.old])) k2 (.tup [.str (kd r.fr), .str r.old])) := But.new hk2
        refine c_eqD C (l := []) (m := []) (d := .tuple [.str (kd e.fr), .str e.old]) (f := .tuple [.str (kd r.fr), .str r.old]) (.tup (.inl (.inl (c2 _ _ (by simp) upd_same))) (by simp) (.cons (.str _) (.cons (.str _) .nil))) (.tup (.inl (.inl upd_same)) (by simp) (.cons (.str _) (.cons (.str _) .nil))) ((pair_cmp hg hek.o).shaped (by decide)) ((pair_cmp hg hrk.o).shaped (by decide)) ⟨_, rfl, pair_eqv, c1.trans c2⟩
      · exact b_cons (s_set (i := 8) (e_bool (b_nil (b_nil ⟨⟨some (.str (kd e.fr)), some (.str e.old), some (.str e.new), by rw [any_take he, hidR, hc, Bool.or_true, Bool.or_true]; rfl⟩, b4.trans b5⟩))) C.nd)
      · exact ⟨⟨some (.str (kd e.fr)), some (.str e.old), some (.str e.new), by rw [any_take he, hidR, hc, Bool.or_false]⟩, b4.trans b5⟩
    · rintro σ H3 ⟨⟨v9, v10, v11, rfl⟩, b3⟩
      rw [hul, List.take_length]
      refine b_cons (s_ifB (!ls.any (hidR · r)) ?_ (fun hc H4 b4 => ?_) (fun hc H4 b4 => b_nil (b_nil ?_)))
      · exact t_not (t_val (e_name 8 (v := .bl (ls.any (hidR · r))) ⟨_, rfl, rfl, But.refl⟩))
      · have b24 := b3.trans b4
        have hu4 := b24 _ _ (by simp) hu
        refine b_cons (s_expr (e_append (e_name 4 (v := .ref lq) ⟨lq, rfl, ⟨_, hu4⟩, e_tup (a_cons (e_name 5 (v := .str (kd r.fr)) (a_cons (e_name 6 (v := .str r.old) (a_cons (e_name 7 (v := .str r.new) (a_nil ⟨sz 3 (by decide), fun tq htq => ?_⟩)))))))⟩)))
        have bt : But [] H4 (upd H4 tq (.tup [.str (kd r.fr), .str r.old, .str r.new])) := But.new htq
        refine ⟨us, bt _ _ (by simp) hu4, sz _ (by omega), b_nil (b_nil ⟨⟨_, _, _, _, _, _, _, rfl⟩, fun a oo na e => ?_, ls ++ [r], deals_push (hls.but b24) hu4 htq r, by rw [List.length_append]; show _ + 1 ≤ _; omega, fun s hs => ?_, fun x => ?_⟩)⟩
        · rw [upd_ne (ne_of_none e hlq)]
          exact bt _ _ na (b24 _ _ na (b2 _ _ na e))
        · rcases List.mem_append.mp hs with h | h
          · exact hsub s h
          · rw [List.mem_singleton.mp h]; exact List.mem_of_getElem? hr
        · rw [List.take_add_one, hr]
          show _ = List.find? _ (List.take i rs ++ [r])
          rw [List.find?_append, List.find?_append, hfind]
      · refine ⟨⟨_, _, _, _, _, _, _, rfl⟩, b2.trans (b3.trans b4), ls, hls.but (b3.trans b4), by omega, hsub, fun x => ?_⟩
        rw [List.take_add_one, hr]
        show _ = List.find? _ (List.take i rs ++ [r])
        rw [List.find?_append, ← hfind, ← List.find?_append, find_hid (by simpa using hc)]
  rintro σ H2 ⟨⟨v5, v6, v7, v8, v9, v10, v11, rfl⟩, b2, ls, hls, hll, hsub, hfind⟩
  rw [hvl, List.take_length] at hfind
  rw [hvl] at hll
  have okl : OkR g ls := ⟨fun r hr => ok.each r (hsub r hr), hg, by omega⟩
  have hp2 := hp.new b2
  -- the mates
  refine b_cons (s_set (i := 12) (e_lst (a_cons (e_make (E := fun _ _ _ => False) (C.mono (by decide)) MP .nil (fun _ _ _ _ z => z.elim) (a_cons (e_name 1 (v := .str g) (a_cons (e_name 4 (v := .ref lq) (a_nil ?_)))))))) C.nd)
  refine mk_spec (v := .ref lq) (l := []) okl (hls.rules (K := [])) fun r1 H3 b3 hr1 hR1 => ?_
  have b03 := b2.trans b3
  have hp3 := hp.new b03
  refine a_cons (e_make (E := fun _ _ _ => False) (C.mono (by decide)) MP .nil (fun _ _ _ _ z => z.elim) (a_cons (e_name 1 (v := .str g) (a_cons (e_bin (e_name 2 (v := .ref q) ?_))))))
  refine e_call (C.mono (by decide)) D2 (a_cons (e_name 0 (v := .ref p) (a_cons (e_name 2 (v := .ref q) (a_nil ?_))))) rfl (fun _ _ _ _ _ _ us hl => match us, hl with | [_, _], _ => rfl)
  refine ⟨p, q, vs, rfl, hp3, b03 _ _ (by simp) hv, by omega, fun mq ys H4 b4 hp4 hmn hmq hyl hym => ?_⟩
  have b04 : But [p] H H4 := b03.of.trans b4
  have nqp := hq.nep hp
  have hv4 := b04 _ _ (by simpa using nqp) hv
  refine o_cat hv4 hmq (by rw [sizeLine_eq]; omega) fun cq hcq => a_nil ?_
  have bc : But [] H4 (upd H4 cq (.lst (vs ++ ys))) := But.new hcq
  obtain ⟨rs', hd', hsub'⟩ : ∃ rs', DDs [] [] (upd H4 cq (.lst (vs ++ ys))) ys (rulesD rs') ∧ ∀ r ∈ rs', r ∈ rs := rules_mem ((rules_exL hd b04.ex hp.lsts).but bc) hym
  have hl' : rs'.length = ys.length := by have := hd'.length; rw [rulesD, List.length_map] at this; exact this.symm
  have hcd : IsDeals (rs ++ rs') (upd H4 cq (.lst (vs ++ ys))) cq := ⟨_, upd_same, by rw [rulesD, List.map_append]; exact DDs.append ((rules_exL hd b04.ex hp.lsts).but bc) hd'⟩
  have okm : OkR g (rs ++ rs') := ⟨fun r hr => (List.mem_append.mp hr).elim (ok.each r) fun h => ok.each r (hsub' r h), hg, by rw [List.length_append]; omega⟩
  have hR1c := (hR1.pot hp3 b4.ex).but bc
  have hpc := hp4.new bc
  have b0c : But [p] H (upd H4 cq (.lst (vs ++ ys))) := b04.trans bc.of
  have hvc := bc _ _ (by simp) hv4
  generalize upd H4 cq (.lst (vs ++ ys)) = H5 at bc hcd hd' hR1c hpc b0c hvc ⊢
  refine mk_spec (v := .ref cq) (l := []) okm (hcd.rules (K := [])) fun r2 H6 b6 hr2 hR2 => a_nil ⟨sz 2 (by decide), fun nq hnq => ?_⟩
  have b06 : But [p] H H6 := b0c.trans b6.of
  have bn : But [] H6 (upd H6 nq (.lst [.ref r1, .ref r2])) := But.new hnq
  have hp6 := hpc.new b6
  have nnp := hp6.there hnq
  have hnH := b06.freeL (by simpa using nnp) hnq
  have hn7 : upd H6 nq (.lst [.ref r1, .ref r2]) nq = some (.lst [.ref r1, .ref r2]) := upd_same
  have hR17 := (hR1c.but b6).but bn
  have hR27 := hR2.but bn
  have hp7 := hp6.new bn
  have hv7 := (b6.trans bn) _ _ (by simp) hvc
  have b07 : But [p] H (upd H6 nq (.lst [.ref r1, .ref r2])) := b06.trans bn.of
  show wB _ _ _ [some (.ref p), some (.str g), some (.ref q), some (.ref o), some (.ref lq), v5, v6, v7, v8, v9, v10, v11, some (.ref nq), none, none] (upd H6 nq (.lst [.ref r1, .ref r2]))
  generalize upd H6 nq (.lst [.ref r1, .ref r2]) = H7 at bn hn7 hR17 hR27 hp7 hv7 b07 ⊢
  refine b_cons (s_expr (e_append (e_name 12 (v := .ref nq) ⟨nq, rfl, ⟨_, hn7⟩, ?_⟩)))
  refine e_make (E := fun _ _ _ => False) (C.mono (by decide)) MP .nil (fun _ _ _ _ z => z.elim) (a_cons (e_name 1 (v := .str g) (a_cons (e_bin (e_name 2 (v := .ref q) (e_lst (a_cons (e_tup (a_cons (e_str (a_cons (e_str (a_cons (e_str (a_nil ⟨sz 3 (by decide), fun t1 ht1 => a_nil ⟨sz 1 (by decide), fun l1 hl1 => ?_⟩⟩)))))))))))))))
  have c1 : But [] H7 (upd H7 t1 (.tup [.str "front", .str "", .str ""])) := But.new ht1
  have c2 : But [] (upd H7 t1 (.tup [.str "front", .str "", .str ""])) (upd (upd H7 t1 (.tup [.str "front", .str "", .str ""])) l1 (.lst [.ref t1])) := But.new hl1
  have c12 := c1.trans c2
  have hone : IsDeals [⟨true, "", ""⟩] (upd (upd H7 t1 (.tup [.str "front", .str "", .str ""])) l1 (.lst [.ref t1])) l1 := one_deals ⟨true, "", ""⟩ upd_same (c2 _ _ (by simp) upd_same)
  refine o_cat (c12 _ _ (by simp) hv7) upd_same (by rw [hvl, sizeLine_eq]; show _ + 1 ≤ _; omega) fun m1 hm1 => a_nil ?_
  have hend := ((hq.pot hp b07.ex).but c12).cat (c12 _ _ (by simp) hv7) hone upd_same (But.new hm1) (upd_same (H := upd (upd H7 t1 (.tup [.str "front", .str "", .str ""])) l1 (.lst [.ref t1])) (a := m1))
  have b78 := c12.trans (But.new hm1 : But [] _ (upd (upd (upd H7 t1 (.tup [.str "front", .str "", .str ""])) l1 (.lst [.ref t1])) m1 (.lst (vs ++ [.ref t1]))))
  generalize upd (upd (upd H7 t1 (.tup [.str "front", .str "", .str ""])) l1 (.lst [.ref t1])) m1 (.lst (vs ++ [.ref t1])) = H8 at hend b78 ⊢
  have oke : OkR g (rs ++ [⟨true, "", ""⟩]) := ⟨fun r hr => (List.mem_append.mp hr).elim (ok.each r) fun h => by rw [List.mem_singleton.mp h]; exact ⟨rfl, rfl, by decide, by decide⟩, hg, by rw [List.length_append]; show _ + 1 ≤ _; omega⟩
  refine mk_spec (v := .ref m1) (l := []) oke (hend.rules (K := [])) fun r3 H9 b9 hr3 hR3 => ?_
  have b79 := b78.trans b9
  have hn9 := b79 _ _ (by simp) hn7
  refine ⟨_, hn9, by (show 2 < sizeLine; rw [sizeLine_eq]; decide), ?_⟩
  have bE : Ex [nq] H9 (upd H9 nq (.lst ([.ref r1, .ref r2] ++ [.ref r3]))) := (But.at (by simp)).ex
  have lE : ∀ a ∈ [nq], ∃ ys, H9 a = some (.lst ys) := fun a ha => by rw [List.mem_singleton.mp ha]; exact ⟨_, hn9⟩
  have hRA := (hR17.but b79).exL bE lE
  have hRB := (hR27.but b79).exL bE lE
  have hRC := hR3.exL bE lE
  have hnA : upd H9 nq (.lst ([.ref r1, .ref r2] ++ [.ref r3])) nq = some (.lst [.ref r1, .ref r2, .ref r3]) := upd_same
  have b0A : But [p] H (upd H9 nq (.lst ([.ref r1, .ref r2] ++ [.ref r3]))) := fun a oo na e => by
    rw [upd_ne (ne_of_none e hnH)]
    exact b79 _ _ (by simp) (b07 _ _ na e)
  have hpA : Pot (upd H9 nq (.lst ([.ref r1, .ref r2] ++ [.ref r3]))) p := (hp7.new b79).upd nnp
  have hoA := ho.pot hp b0A.ex
  generalize upd H9 nq (.lst ([.ref r1, .ref r2] ++ [.ref r3])) = HA at hRA hRB hRC hnA b0A hpA hoA ⊢
  clear hR17 hR27 hR3 b79 hn9 bE lE b9 hend b78 hone c12 c1 c2 hn7 hp7 hv7 b07 bn
  refine b_cons (s_for C (i_list (e_call (C.mono (by decide)) D1 (a_cons (e_name 1 (v := .str g) (a_cons ?_))) rfl (fun _ _ _ _ _ _ us hl => match us, hl with | [_, _], _ => rfl))))
  refine wE_mono (Q := fun v H' => (∃ n : Nat, v = .int n ∧ n ≤ 4) ∧ But [] HA H') (e_if (t_cmp (e_len B (e_name 1 (v := .str g) ⟨g.length, ⟨sz _ (by omega), rfl⟩, e_int (c_lt ⟨_, rfl, ite_b (fun e => e_int ⟨⟨4, rfl, by decide⟩, But.refl⟩) fun e => e_int ⟨⟨3, rfl, by decide⟩, But.refl⟩⟩)⟩)))) ?_
  rintro v HB ⟨⟨n, rfl, hn⟩, bB⟩
  refine a_nil ⟨g, n, rfl, hg, hn, fun kq few HC bC hkn hk hkl hko => ?_⟩
  have bAC := bB.trans bC
  refine ⟨kq, rfl, ⟨_, .inl (.inl hk)⟩, _, _, _, walk_list (xs := few.map V.str), fun i σ H' => (∃ v13, σ = [some (.ref p), some (.str g), some (.ref q), some (.ref o), some (.ref lq), v5, v6, v7, v8, v9, v10, v11, some (.ref nq), v13, none]) ∧ But [] HC H', ⟨⟨none, rfl⟩, But.refl⟩, fun i σ H' _ h => .inl (.inl (h.2 _ _ (by simp) hk)), ?_, ?_⟩
  · rintro i y σ H' HD hi ⟨⟨v13, rfl⟩, bD⟩ ⟨rfl, hy⟩
    rw [List.getElem?_map, Option.map_eq_some_iff] at hy
    obtain ⟨x, hxi, rfl⟩ := hy
    have hx := hko x (List.mem_of_getElem? hxi)
    have htl := turn_line ok.each hx.1
    have bAD := bAC.trans bD
    refine g_name (i := 13) ?_ C.nd
    refine b_cons (s_ifB false ?_ (fun e => by cases e) (fun _ HE bE => b_nil (b_nil ⟨⟨_, rfl⟩, bD.trans bE⟩)))
    refine t_cmp (e_lcM [("mate", 14)] C (i_list (e_name 12 (v := .ref nq) ⟨nq, rfl, ⟨_, .inl (.inl (bAD _ _ (by simp) hnA))⟩, _, _, _, [.str (turnR rs x), .str (turnR rs x), .str (turnR rs x)], walk_list (xs := [.ref r1, .ref r2, .ref r3]), rfl, sz 3 (by decide), fun H' b => .inl (.inl ((bAD.trans b) _ _ (by simp) hnA)), fun j z H' HJ hj bJ hz => ?_, fun Dm HM bM hDn hDl => ?_⟩)))
    · obtain ⟨rfl, hz⟩ := hz
      have bAJ := bAD.trans bJ
      obtain ⟨a, ss, rfl, hRs, oks, e1⟩ : ∃ a ss, z = .ref a ∧ IsRelay CR g ss HJ a ∧ OkR g ss ∧ [V.str (turnR rs x), .str (turnR rs x), .str (turnR rs x)][j]? = some (.str (turnR ss x)) := by
        match j, hj with
        | 0, _ => cases hz; exact ⟨r1, ls, rfl, hRA.but bAJ, okl, by rw [turn_congr (hfind x)]; rfl⟩
        | 1, _ => cases hz; exact ⟨r2, rs ++ rs', rfl, hRB.but bAJ, okm, by rw [turn_congr (find_more hsub')]; rfl⟩
        | 2, _ => cases hz; exact ⟨r3, _, rfl, hRC.but bAJ, oke, by rw [turn_end]; rfl⟩
      refine ⟨But.refl, mt_name (i := 14) C.nd fun s H0 Ca cl fp => ?_⟩
      exact e_inst ((C.mono (show 3 ≤ 5 by decide)).blk _ _ _ _ _) M (e_name 14 (v := .ref a) ⟨a, rfl, e_name 13 (v := .str x) ⟨hRs.ins, ⟨a, g, ss, x, rfl, hRs, oks, hx.1, by omega, fun H' b => ⟨e1, b⟩⟩⟩⟩)
    · have bAM := bAD.trans bM
      have hoM := hoA.but bAM
      refine e_bin (e_lst (a_cons (e_inst (C.mono (by decide)) M (e_name 3 (v := .ref o) ⟨o, rfl, e_name 13 (v := .str x) ⟨hoM.ins, ⟨o, g, rs, x, rfl, hoM, ok, hx.1, by omega, fun HN bN => a_nil ⟨sz 1 (by decide), fun l1 hl1 => e_int (o_rep (n := 3) upd_same (sz _ (by show 1 * 3 ≤ _; decide)) (by decide) fun l2 hl2 => ?_)⟩⟩⟩⟩))))
      have c1 : But [] HN (upd HN l1 (.lst [.str (turnR rs x)])) := But.new hl1
      have c2 : But [] (upd HN l1 (.lst [.str (turnR rs x)])) (upd (upd HN l1 (.lst [.str (turnR rs x)])) l2 (.lst [.str (turnR rs x), .str (turnR rs x), .str (turnR rs x)])) := But.new hl2
      have cc := bN.trans (c1.trans c2)
      have e3 := (three_cmp hg htl).shaped (by decide)
      refine c_neD C (l := []) (m := []) (d := .list [.str (turnR rs x), .str (turnR rs x), .str (turnR rs x)]) (f := .list [.str (turnR rs x), .str (turnR rs x), .str (turnR rs x)]) (.lst (.inl (.inl (cc _ _ (by simp) hDl))) (by simp) (.cons (.str _) (.cons (.str _) (.cons (.str _) .nil)))) (.lst (.inl (.inl upd_same)) (by simp) (.cons (.str _) (.cons (.str _) (.cons (.str _) .nil)))) e3 e3 ⟨_, rfl, ?_, bM.trans cc⟩
      rw [three_eqv]; rfl
  · rintro σ HD ⟨⟨v13, rfl⟩, bD⟩
    exact b_cons (s_ret (e_bool (hQ HD (b0A.trans (bAC.trans bD).of) (hpA.new (bAC.trans bD)))))
end
end K21

set_option Elab.async false
set_option linter.all false
set_option maxRecDepth 100000
set_option maxHeartbeats 4000000
namespace K21
open PySem PySem.Spec PyProof.Rows L2 Z
theorem app_assoc (x y z : Str) : x ++ y ++ z = x ++ (y ++ z) := by
  rw [strEq]
  have e : ∀ a b : Str, (a ++ b : Str).cps.toList = a.cps.toList ++ b.cps.toList := fun a b => TL.tl_append a b
  rw [e, e, e, e, List.append_assoc]
theorem shown0 (g : Str) : (("Relay(" : Str) ++ (PyData.str g).shown) ++ (", [])" : Str) = shownR g [] := by
  have e : (", [])" : Str) = (", " : Str) ++ ((PyData.list (rulesD [])).shown ++ (")" : Str)) := by decide +kernel
  rw [← shownR_eq, e, app_assoc, app_assoc, app_assoc, app_assoc]
theorem turn_nil (x : Str) : turnR [] x = x := rfl
section
variable {P : Program} {w : World} {K : PySem.W.Frag} {mg : Str → Option Value} {base : Heap} {CR : Addr}
abbrev MakePK (P : Program) (w : World) (K : PySem.W.Frag) (mg : Str → Option Value) (base : Heap) (CR : Addr) : Prop := MakeOk P w K mg base 4 "Relay" CR pPs (spInitP CR) fun fd => KBn K fd pPs 1 ["rules", "signs"] (fun us ws => us ++ ws.reverse) (fun us ws => us ++ ws.reverse)
def spRight (CR : Addr) : Sp := fun vs H Q _ => ∃ p : Addr, vs = [.ref p] ∧ Pot H p ∧ ∀ H', But [p] H H' → Q (.bl true) H'
theorem scRi : FnScope ["pot", "abc", "turn", "deals", "passed", "plan", "bare", "note"] ["pot"] (defScope (top 57)) := ⟨rfl, rfl, rfl, by decide +kernel, rfl, by decide +kernel, by decide +kernel⟩
theorem d_right21 (B : Blt mg base) (CL : ClsP K CR) (D : At K mg "_law_right" (top 57)) (MP : MakeP P w K mg base CR) (MK : MakePK P w K mg base CR) (M : CallOk P w K mg base 3 CR "line" (spCallP CR)) (M1 : MethOk P w K mg base 1 CR "rules" ["self"] (spRulesP CR)) (M2 : MethG P w K mg base 1 CR "__repr__" ["self"] (spReprP CR))
    (D1 : Def P w K mg base 2 "_law_abc" (top 47) ["pot", "most"] spAbc) (D2 : Def P w K mg base 4 "_law_deals" (top 49) ["pot", "abc", "lot", "most"] spDeals) (D3 : Def P w K mg base 4 "_law_with_hidden" (top 52) ["pot", "abc", "deals"] spHidden)
    (D4 : DefG P w K mg base 3 "_law_told_right" (top 54) ["abc", "deals", "plan"] (spToldR CR)) (D5 : DefG P w K mg base 4 "_law_turns_right" (top 53) ["pot", "abc", "deals", "plan"] (spTurnsR CR))
    (D6 : DefG P w K mg base 6 "_law_equal_right" (top 55) ["pot", "abc", "deals", "plan"] (spEqualR CR)) (D7 : Def P w K mg base 6 "_law_hidden_right" (top 56) ["pot", "abc", "deals", "plan"] (spHidR CR))
    (D8 : Def P w K mg base 3 "_law_note" (top 48) ["pot", "abc", "most"] spNote) :
    DefG P w K mg base 7 "_law_right" (top 57) ["pot"] (spRight CR) := by
  refine defG_of D B scRi (fun vs H Q E ⟨_, e, _⟩ => by rw [e]; rfl) fun f cdv A outer s H vs Q E hm C gd h => ?_
  obtain ⟨p, rfl, hp, hQ⟩ := h
  have sz : ∀ n, n ≤ 16777216 → n ≤ sizeLine := fun n h => by rw [sizeLine_eq]; exact h
  refine b_cons (s_set (i := 1) (e_call (C.mono (by decide)) D1 (a_cons (e_name 0 (v := .ref p) (a_cons (e_int (a_nil ?_))))) rfl (fun _ _ _ _ _ _ us hl => match us, hl with | [_, _], _ => rfl)) C.nd)
  refine ⟨p, rfl, hp, fun g H1 hg b1 hp1 => ?_⟩
  have gl := strSigns_len hg
  refine b_cons (s_for C (i_range1 B (e_int ⟨2, rfl, by decide, by decide, ?_⟩)))
  refine ⟨_, _, _, walk_range, fun i σ H' => (∃ v2 v3 v4 v5, σ = [some (.ref p), some (.str g), v2, v3, v4, v5, none, none]) ∧ But [p] H H' ∧ Pot H' p, ⟨⟨none, none, none, none, rfl⟩, b1, hp1⟩, fun _ _ _ _ _ => trivial, ?_, ?_⟩
  · rintro i x σ H' H2 hi ⟨⟨v2, v3, v4, v5, rfl⟩, b2, hp2⟩ ⟨rfl, rfl⟩
    refine g_name (i := 2) ?_ C.nd
    refine b_cons (s_set (i := 3) (e_call (C.mono (by decide)) D3 (a_cons (e_name 0 (v := .ref p) (a_cons (e_name 1 (v := .str g) (a_cons ?_))))) rfl (fun _ _ _ _ _ _ us hl => match us, hl with | [_, _, _], _ => rfl)) C.nd)
    refine e_call (C.mono (by decide)) D2 (a_cons (e_name 0 (v := .ref p) (a_cons (e_name 1 (v := .str g) (a_cons (e_int (a_cons (e_int (a_nil ?_))))))))) rfl (fun _ _ _ _ _ _ us hl => match us, hl with | [_, _, _, _], _ => rfl)
    refine ⟨p, g, 4, rfl, hp2, hg, by decide, fun q0 rs0 H3 b3 hp3 hq0n hq0 hs0 hl0 => a_nil ?_⟩
    refine ⟨p, q0, g, rs0, rfl, hp3, hg, hq0, hs0, by omega, fun q rs H4 b4 hp4 hqn hq hs5 hl5 => ?_⟩
    have ok : OkR g rs := ⟨fun r hr => (hs5 r hr).rule (by decide), hg, by omega⟩
    have b24 := b3.trans b4
    obtain ⟨vs, hv, hd⟩ := hq.ex
    have hvl : vs.length = rs.length := hq.len hv
    refine b_cons (s_set (i := 4) (e_listOf B (e_name 3 (v := .ref q) ⟨q, vs, rfl, .inl (.inl (.inl hv)), fun pq hpq => ?_⟩)) C.nd)
    have bp : But [] H4 (upd H4 pq (.lst vs)) := But.new hpq
    have npp := hp4.there hpq
    have nqq : q ≠ pq := ne_of_none hv hpq
    have hpv : upd H4 pq (.lst vs) pq = some (.lst vs) := upd_same
    have hq5 := hq.but bp
    have hpd : IsDeals rs (upd H4 pq (.lst vs)) pq := ⟨_, hpv, hd.but bp⟩
    have hp5 := hp4.new bp
    have b05 := b2.trans (b24.trans bp.of)
    have npH : H pq = none := (b2.trans b24).freeL (by simpa using npp) hpq
    generalize upd H4 pq (.lst vs) = H5 at bp hpv hq5 hpd hp5 b05 ⊢
    refine b_cons (s_set (i := 5) (wE_mono (Q := fun v H' => ∃ o, v = .ref o ∧ But [] H5 H' ∧ IsRelay CR g rs H' o) ?_ ?_) C.nd)
    · refine e_if (t_cmp (e_name 2 (v := .int (0 + (i : Int))) (e_int (c_eq rfl ⟨_, rfl, ite_b (fun e => ?_) fun e => ?_⟩))))
      · refine e_make (E := fun _ _ _ => False) (C.mono (by decide)) MP .nil (fun _ _ _ _ z => z.elim) (a_cons (e_name 1 (v := .str g) (a_cons (e_name 4 (v := .ref pq) (a_nil ?_)))))
        exact mk_spec (v := .ref pq) (l := []) ok (hpd.rules (K := [])) fun o H6 b6 _ hR => ⟨o, rfl, b6, hR⟩
      · refine e_makeK0 (E := fun _ _ _ => False) (C.mono (by decide)) MK (fun _ _ _ _ z => z.elim) (k_cons (e_name 4 (v := .ref pq) (k_cons (e_name 1 (v := .str g) (k_nil ⟨rfl, ?_⟩)))))
        exact mk_spec (v := .ref pq) (l := []) ok (hpd.rules (K := [])) fun o H6 b6 _ hR => ⟨o, rfl, b6, hR⟩
    rintro _ H6 ⟨o, rfl, b6, hR⟩
    have hpv6 := b6 _ _ (by simp) hpv
    refine b_cons (s_expr (e_reverse (e_name 4 (v := .ref pq) ⟨pq, vs, rfl, hpv6, ?_⟩)))
    refine b_cons (s_expr (e_append (e_name 4 (v := .ref pq) ⟨pq, rfl, ⟨_, upd_same⟩, ?_⟩)))
    refine e_tup (a_cons (e_str (a_cons (e_str (a_cons (e_name 1 (v := .str g) (a_nil ⟨sz 3 (by decide), fun tq htq => ?_⟩)))))))
    have c1 : But [pq] H6 (upd H6 pq (.lst vs.reverse)) := But.at (by simp)
    have c2 : But [pq] (upd H6 pq (.lst vs.reverse)) (upd (upd H6 pq (.lst vs.reverse)) tq (.tup [.str "front", .str "", .str g])) := But.new htq
    have hp7 : upd (upd H6 pq (.lst vs.reverse)) tq (.tup [.str "front", .str "", .str g]) pq = some (.lst vs.reverse) := by
      rw [upd_ne (ne_of_none (H := upd H6 pq (.lst vs.reverse)) upd_same htq)]; exact upd_same
    generalize upd (upd H6 pq (.lst vs.reverse)) tq (.tup [.str "front", .str "", .str g]) = H7 at c2 hp7 ⊢
    have c12 := c1.trans c2
    refine ⟨_, hp7, sz _ (by rw [List.length_reverse]; omega), ?_⟩
    refine b_cons (s_expr (e_append (e_name 4 (v := .ref pq) ⟨pq, rfl, ⟨_, upd_same⟩, e_none ⟨_, upd_same, sz _ (by rw [List.length_append, List.length_reverse]; show _ + 1 + 1 ≤ 16777216; omega), ?_⟩⟩)))
    have c3 : But [pq] H7 (upd (upd H7 pq (.lst (vs.reverse ++ [.ref tq]))) pq (.lst (vs.reverse ++ [.ref tq] ++ [.non]))) := fun a oo na e => by
      have : a ≠ pq := by simpa using na
      rw [upd_ne this, upd_ne this]; exact e
    have c68 := c12.trans c3
    have hl6 : ∀ a ∈ [pq], ∃ ys, H6 a = some (.lst ys) := fun a ha => by rw [List.mem_singleton.mp ha]; exact ⟨_, hpv6⟩
    have hq8 := (hq5.but b6).exL c68.ex hl6 (by simpa using nqq)
    have hR8 := hR.exL c68.ex hl6
    have hp8 : Pot (upd (upd H7 pq (.lst (vs.reverse ++ [.ref tq]))) pq (.lst (vs.reverse ++ [.ref tq] ++ [.non]))) p := by
      obtain ⟨a, b, e, r⟩ := hp5.new b6
      exact ⟨a, b, c68 _ _ (by simpa using npp.symm) e, r⟩
    have b08 : But [p] H (upd (upd H7 pq (.lst (vs.reverse ++ [.ref tq]))) pq (.lst (vs.reverse ++ [.ref tq] ++ [.non]))) := fun a oo na e => c68 _ _ (by simpa using ne_of_none e npH) (b6 _ _ (by simp) (b05 _ _ na e))
    show wB _ _ _ [some (.ref p), some (.str g), some (.int (0 + (i : Int))), some (.ref q), some (.ref pq), some (.ref o), none, none] (upd (upd H7 pq (.lst (vs.reverse ++ [.ref tq]))) pq (.lst (vs.reverse ++ [.ref tq] ++ [.non])))
    generalize upd (upd H7 pq (.lst (vs.reverse ++ [.ref tq]))) pq (.lst (vs.reverse ++ [.ref tq] ++ [.non])) = H8 at hq8 hR8 hp8 b08 ⊢
    clear c3 c68 c12 c1 c2 hl6 hp7 hpv6 hR hpv hpd hq5 hp5 b05 bp
    refine b_mid (fun σ' H' => σ' = [some (.ref p), some (.str g), some (.int (0 + (i : Int))), some (.ref q), some (.ref pq), some (.ref o), none, none] ∧ But [p] H H' ∧ Pot H' p ∧ IsDeals rs H' q ∧ IsRelay CR g rs H' o) ?_ ?_
    · refine s_if (t_boolop (w_or (t_not (t_val (e_callG (C.mono (by decide)) gd D4 (a_cons (e_name 1 (v := .str g) (a_cons (e_name 3 (v := .ref q) (a_cons (e_name 5 (v := .ref o) (a_nil ?_))))))) rfl (fun _ _ _ _ _ _ us hl => match us, hl with | [_, _, _], _ => rfl))))))
      refine ⟨q, o, g, rs, rfl, ok, hq8, hR8, fun H9 b9 => ⟨true, rfl, ?_⟩⟩
      show wW _ _ _ _ _
      refine w_or1 (t_not (t_val (e_callG (C.mono (by decide)) gd D5 (a_cons (e_name 0 (v := .ref p) (a_cons (e_name 1 (v := .str g) (a_cons (e_name 3 (v := .ref q) (a_cons (e_name 5 (v := .ref o) (a_nil ?_))))))))) rfl (fun _ _ _ _ _ _ us hl => match us, hl with | [_, _, _, _], _ => rfl))))
      have hpk := hp8.new b9
      refine ⟨p, q, o, g, rs, rfl, hpk, ok, hs5, hl5, hq8.but b9, hR8.but b9, fun HA bA hpA => ⟨true, rfl, ?_⟩⟩
      show wB _ _ _ _ _
      exact b_nil ⟨rfl, b08.trans (b9.of.trans bA), hpA, (hq8.but b9).pot hpk bA.ex, (hR8.but b9).pot hpk bA.ex⟩
    rintro σ' H9 ⟨rfl, b9, hp9, hq9, hR9⟩
    refine b_mid (fun σ' H' => σ' = [some (.ref p), some (.str g), some (.int (0 + (i : Int))), some (.ref q), some (.ref pq), some (.ref o), none, none] ∧ But [p] H H' ∧ Pot H' p ∧ IsDeals rs H' q ∧ IsRelay CR g rs H' o) ?_ ?_
    · refine s_if (t_boolop (w_or (t_not (t_val (e_callG C gd D6 (a_cons (e_name 0 (v := .ref p) (a_cons (e_name 1 (v := .str g) (a_cons (e_name 3 (v := .ref q) (a_cons (e_name 5 (v := .ref o) (a_nil ?_))))))))) rfl (fun _ _ _ _ _ _ us hl => match us, hl with | [_, _, _, _], _ => rfl))))))
      refine ⟨.ref p, q, o, g, rs, rfl, ok, hs5, hl5, hq9, hR9, fun HA bA => ⟨true, rfl, ?_⟩⟩
      show wW _ _ _ _ _
      refine w_or1 (t_not (t_val (e_call C D7 (a_cons (e_name 0 (v := .ref p) (a_cons (e_name 1 (v := .str g) (a_cons (e_name 3 (v := .ref q) (a_cons (e_name 5 (v := .ref o) (a_nil ?_))))))))) rfl (fun _ _ _ _ _ _ us hl => match us, hl with | [_, _, _, _], _ => rfl))))
      have hpk := hp9.new bA
      refine ⟨p, q, o, g, rs, rfl, hpk, ok, hs5, hl5, hq9.but bA, hR9.but bA, fun HB bB hpB => ⟨true, rfl, ?_⟩⟩
      show wB _ _ _ _ _
      exact b_nil ⟨rfl, b9.trans (bA.of.trans bB), hpB, (hq9.but bA).pot hpk bB.ex, (hR9.but bA).pot hpk bB.ex⟩
    rintro σ' HA ⟨rfl, bA, hpA, hqA, hRA⟩
    refine b_cons (s_if (t_not (t_val (e_callG (C.mono (by decide)) gd D4 (a_cons (e_name 1 (v := .str g) (a_cons (e_name 3 (v := .ref q) (a_cons (e_name 5 (v := .ref o) (a_nil ?_))))))) rfl (fun _ _ _ _ _ _ us hl => match us, hl with | [_, _, _], _ => rfl)))))
    refine ⟨q, o, g, rs, rfl, ok, hqA, hRA, fun HB bB => ⟨true, rfl, ?_⟩⟩
    show wB _ _ _ _ _
    exact b_nil (b_nil ⟨⟨_, _, _, _, rfl⟩, bA.trans bB.of, hpA.new bB⟩)
  · rintro σ H2 ⟨⟨v2, v3, v4, v5, rfl⟩, b2, hp2⟩
    have ok0 : OkR g [] := ⟨by simp, hg, by decide⟩
    refine b_cons (s_par (i := 6) (j := 7) C (a_cons (e_make (E := fun _ _ _ => False) (C.mono (by decide)) MP .nil (fun _ _ _ _ z => z.elim) (a_cons (e_name 1 (v := .str g) (a_cons (e_lst (a_nil ⟨sz 0 (by decide), fun lq hlq => a_nil ?_⟩))))))))
    have bl : But [] H2 (upd H2 lq (.lst [])) := But.new hlq
    refine mk_spec (v := .ref lq) (l := []) ok0 (IsDeals.rules (K := []) (rs := []) ⟨[], upd_same, .nil⟩) fun o H3 b3 hon hR => ?_
    have b23 := bl.trans b3
    have hp3 := hp2.new b23
    refine a_cons (e_call (C.mono (by decide)) D8 (a_cons (e_name 0 (v := .ref p) (a_cons (e_name 1 (v := .str g) (a_cons (e_int (a_nil ?_))))))) rfl (fun _ _ _ _ _ _ us hl => match us, hl with | [_, _, _], _ => rfl))
    refine ⟨p, g, 9, rfl, hp3, hg, by decide, fun y H4 hy hyl b4 hp4 => a_nil ⟨_, _, rfl, ?_⟩⟩
    have hR4 := hR.pot hp3 b4.ex
    have b04 := b2.trans (b23.of.trans b4)
    show wB _ _ _ [some (.ref p), some (.str g), v2, v3, v4, v5, some (.ref o), some (.str y)] H4
    refine b_cons (s_ifB false ?_ (fun e => by cases e) (fun _ H5 b5 => b_nil ?_))
    · refine t_boolop (w_or (t_cmp (e_inst (C.mono (by decide)) M (e_name 6 (v := .ref o) ⟨o, rfl, e_name 7 (v := .str y) ⟨hR4.ins, ⟨o, g, [], y, rfl, hR4, ok0, hy, by omega, fun H5 b5 => ?_⟩⟩⟩))))
      rw [turn_nil]
      refine e_name 7 (v := .str y) (c_ne rfl ⟨false, by simp, ite_b (fun e => by cases e) fun _ => ?_⟩)
      have hR5 := hR4.but b5
      obtain ⟨dx, tq, h1, _⟩ := hR5.ex
      refine w_or1 (t_cmp (e_meth0 (C.mono (by decide)) CL.c M1 (e_name 6 (v := .ref o) ⟨rfl, h1, rfl, ⟨o, g, [], rfl, hR5, fun rq xs H6 b6 _ hx hds => ?_⟩⟩)))
      obtain rfl : xs = [] := by
        have := hds.length
        exact List.eq_nil_of_length_eq_zero this
      exact e_lst (a_nil ⟨sz 0 (by decide), fun nq hnq => c_neNil C (xs := []) (.inl (.inl ((But.new hnq : But [] H6 _) _ _ (by simp) hx))) (.inl (.inl upd_same)) ⟨_, rfl, rfl, b5.trans (b6.trans (But.new hnq))⟩⟩)
    have hR5 := hR4.but b5
    obtain ⟨dx, tq, h1, _⟩ := hR5.ex
    have shg : ShwZ 0 4 (.str g) := ShwZ.str (strSigns_ascii hg) gl.1
    have l2 := shg.len
    have l3 : ("Relay(" : Str).length = 6 := rfl
    have l4 : (", [])" : Str).length = 5 := rfl
    refine b_cons (s_ret (e_cmp (e_reprI (C.mono (by decide)) gd M2 (e_name 6 (v := .ref o) ⟨o, dx, _, rfl, h1, ⟨o, g, [], rfl, hR5, ok0, fun H6 b6 => ⟨_, rfl, ?_⟩⟩⟩))))
    refine e_bin (e_bin (e_str (e_rep B gd C.un (e_name 1 (v := .str g) ⟨[], .str g, .str _, shg.rp (by decide) (by decide), o_adds (sz _ (by omega)) (e_str (o_adds (sz _ (by rw [app_len]; omega)) ?_))⟩))))
    rw [shown0]
    refine c_eq rfl ?_
    rw [decide_eq_true rfl]
    exact hQ H6 (b04.trans (b5.trans b6).of)
/-! ### the law -/
def spLaw21 (K : PySem.W.Frag) : Sp := fun vs H Q _ => ∃ (a : Addr) (ns : List Int), vs = [.ref a] ∧ SqL K H a (ns.map V.int) ∧ ns.length ≤ 63 ∧ ∀ H', Q (.bl true) H'
theorem scLw : FnScope ["script", "k"] ["script"] (defScope (top 58)) := ⟨rfl, rfl, rfl, by decide +kernel, rfl, by decide +kernel, by decide +kernel⟩
theorem d_law21 (B : Blt mg base) (D : At K mg "law" (top 58)) (D1 : Def P w K mg base 1 "_law_pot" (top 43) ["script", "k"] (spPotMk K)) (D2 : DefG P w K mg base 7 "_law_right" (top 57) ["pot"] (spRight CR)) :
    DefG P w K mg base 8 "law" (top 58) ["script"] (spLaw21 K) := by
  refine defG_of D B scLw (fun vs H Q E ⟨_, _, e, _⟩ => by rw [e]; rfl) fun f cdv A outer s H vs Q E hm C g h => ?_
  obtain ⟨a, ns, rfl, ha, hn, hQ⟩ := h
  refine b_cons (s_ret (e_all C (e_lc [("k", 1)] C (i_range1 B (e_max2 C (e_int (e_min2 C (e_len B (e_name 0 (v := .ref a) ?_)))))))))
  refine ⟨ns.length, .inl ⟨_, ha, by simp⟩, e_int ⟨_, _, rfl, rfl, _, _, rfl, rfl, ?_⟩⟩
  have hj : ∃ j : Nat, j ≤ 4 ∧ (if (if (4 : Int) < ((ns.length : Nat) : Int) then (4 : Int) else ((ns.length : Nat) : Int)) > 1 then (if (4 : Int) < ((ns.length : Nat) : Int) then (4 : Int) else ((ns.length : Nat) : Int)) else 1) = (j : Int) := by
    by_cases h4 : (4 : Int) < ((ns.length : Nat) : Int)
    · rw [if_pos h4]
      exact ⟨4, by decide, rfl⟩
    · rw [if_neg h4]
      by_cases h1 : ((ns.length : Nat) : Int) > 1
      · rw [if_pos h1]
        exact ⟨ns.length, by omega, rfl⟩
      · rw [if_neg h1]
        exact ⟨1, by decide, rfl⟩
  obtain ⟨j, j4, ej⟩ := hj
  refine ⟨_, rfl, ?_⟩
  rw [ej]
  refine ⟨by omega, by omega, j, _, _, walk_range, fun Dl hDl => ⟨fun i H' => But [] H H' ∧ H' Dl = some (.lst (List.replicate i (.bl true))), ⟨But.new hDl, upd_same⟩, fun _ _ _ _ => trivial, ?_, ?_⟩⟩
  · rintro i x H3 H' hi ⟨x3, hD3⟩ ⟨rfl, rfl⟩
    refine lc_plain (i := 1) C.nd fun s H0 Ca cl fp => e_callG (C.blk _ _ _ _ _) g D2 (a_cons (e_call ((C.mono (by decide)).blk _ _ _ _ _) D1 (a_cons (e_name 0 (v := .ref a) (a_cons (e_name 1 (a_nil ?_))))) rfl (fun _ _ _ _ _ _ us hl => match us, hl with | [_, _], _ => rfl))) rfl (fun _ _ _ _ _ _ us hl => match us, hl with | [_], _ => rfl)
    refine ⟨a, ns, i, by simp, x3.sql (by simp) ha, by omega, by omega, fun p H4 b4 hpn hp4 => a_nil ⟨p, rfl, hp4, fun H5 x5 => ?_⟩⟩
    have x35 : But [] H' H5 := but_late b4 x5 fun q hq => by rw [List.mem_singleton.mp hq]; exact hpn
    have hD5 := x35 _ _ (by simp) hD3
    refine ⟨_, hD5, by rw [List.length_replicate, sizeLine_eq]; omega, fun q o na e => ?_, ?_⟩
    · rw [upd_ne (ne_of_none e hDl)]
      exact (x3.trans x35) q o na e
    · rw [upd_same, ← List.replicate_succ']
  · rintro H3 ⟨x3, hD3⟩
    refine ⟨Dl, List.replicate j true, rfl, .inl (.inl (by rw [hD3, List.map_replicate])), ?_⟩
    rw [show (List.replicate j true).all id = true by simp]
    exact hQ H3
end
end K21

set_option Elab.async false
set_option linter.all false
set_option maxRecDepth 100000
set_option maxHeartbeats 4000000
namespace K21
open PySem PySem.Spec PyProof.Rows L2 Z LamX NdefX
structure InitAt (K : PySem.W.Frag) (CR : Addr) : Prop where
  ex : ∃ (f : Addr) (oc kV doc pm cdv ct : Value) (od an : Option Addr) (osl : Array (Option Value)), Mk K CR f ∧ K.lookup f = some ⟨oc, od, .func (PySem.W.fnOf "__init__" "Relay.__init__" (defArgs (clsAt (top 41) 0)) (defBody (clsAt (top 41) 0)) (defScope (clsAt (top 41) 0)) .none kV doc pm an cdv ct), osl⟩ ∧ PySem.W.codeIn K cdv "Relay.__init__" = true
theorem prop_mk {K : PySem.W.Frag} {CR pr f : Addr} {m q : Str} {st : Stmt} {oc doc pm cdv ct : Value} {od an : Option Addr} {osl : Array (Option Value)} {rest : List Value} (a1 : PySem.W.findIn K (.ref CR) m = some (some (.ref pr))) (a2 : PySem.W.specialIn K (.ref pr) "__get__" = some (some (.builtin "property.__get__")))
    (a3 : PySem.W.takesIn K (.ref pr) = some true) (a4 : PySem.W.recIn K pr "property" = some (.ref f :: rest)) (a5 : K.lookup f = some ⟨oc, od, .func (PySem.W.fnOf m q (defArgs st) (defBody st) (defScope st) .none .none doc pm an cdv ct), osl⟩) (a6 : PySem.W.codeIn K cdv q = true) : PropAt K CR m q st :=
  ⟨pr, f, oc, doc, pm, cdv, ct, od, an, osl, ⟨a1, a2, a3, _, a4⟩, a5, a6⟩
theorem meth_mk {K : PySem.W.Frag} {CR f : Addr} {m q : Str} {st : Stmt} {oc doc pm cdv ct : Value} {od an : Option Addr} {osl : Array (Option Value)} (a1 : PySem.W.findIn K (.ref CR) m = some (some (.ref f))) (a2 : PySem.W.isFn K (.ref f) = true)
    (a3 : PySem.W.keepIn K (.ref f) = true) (a5 : K.lookup f = some ⟨oc, od, .func (PySem.W.fnOf m q (defArgs st) (defBody st) (defScope st) .none .none doc pm an cdv ct), osl⟩) (a6 : PySem.W.codeIn K cdv q = true) : MethAt K CR m q st :=
  ⟨f, oc, doc, pm, cdv, ct, od, an, osl, ⟨a1, a2, a3⟩, a5, a6⟩
theorem initAt_mk {K : PySem.W.Frag} {CR f : Addr} {oc kV doc pm cdv ct : Value} {od an : Option Addr} {osl : Array (Option Value)} (a1 : PySem.W.makesIn K CR = true) (a2 : PySem.W.findIn K (.ref CR) "__init__" = some (some (.ref f))) (a3 : PySem.W.isFn K (.ref f) = true) (a4 : PySem.W.keepIn K (.ref CR) = true)
    (a5 : K.lookup f = some ⟨oc, od, .func (PySem.W.fnOf "__init__" "Relay.__init__" (defArgs (clsAt (top 41) 0)) (defBody (clsAt (top 41) 0)) (defScope (clsAt (top 41) 0)) .none kV doc pm an cdv ct), osl⟩) (a6 : PySem.W.codeIn K cdv "Relay.__init__" = true) : InitAt K CR :=
  ⟨f, oc, kV, doc, pm, cdv, ct, od, an, osl, ⟨a1, a2, a3, a4⟩, a5, a6⟩
theorem callAt_mk {K : PySem.W.Frag} {CR f : Addr} {q : Str} {st : Stmt} {oc doc pm cdv ct : Value} {od an : Option Addr} {osl : Array (Option Value)} (a1 : PySem.W.findIn K (.ref CR) "__call__" = some (some (.ref f))) (a2 : PySem.W.isFn K (.ref f) = true)
    (a3 : PySem.W.fnIn K f = true) (a5 : K.lookup f = some ⟨oc, od, .func (PySem.W.fnOf "__call__" q (defArgs st) (defBody st) (defScope st) .none .none doc pm an cdv ct), osl⟩) (a6 : PySem.W.codeIn K cdv q = true) : CallAt K CR q st :=
  ⟨f, oc, doc, pm, cdv, ct, od, an, osl, ⟨a1, a2, a3⟩, a5, a6⟩
theorem notB_mk {K : PySem.W.Frag} {C : Addr} (a1 : PySem.W.subIn K (.ref C) (.type "NoneType") = some false) (a2 : PySem.W.subIn K (.ref C) (.type "bool") = some false) (a3 : PySem.W.subIn K (.ref C) (.type "int") = some false) (a4 : PySem.W.subIn K (.ref C) (.type "str") = some false)
    (a5 : PySem.W.subIn K (.ref C) (.type "list") = some false) (a6 : PySem.W.subIn K (.ref C) (.type "tuple") = some false) (a7 : PySem.W.subIn K (.ref C) (.type "dict") = some false) : NotB K C := fun T h => by
  simp only [List.mem_cons, List.not_mem_nil, or_false] at h
  rcases h with rfl | rfl | rfl | rfl | rfl | rfl | rfl <;> assumption
theorem kbn_init {K : PySem.W.Frag} {kV doc pm cdv ct : Value} {an : Option Addr} : KBn K (PySem.W.fnOf "__init__" "Relay.__init__" (defArgs (clsAt (top 41) 0)) (defBody (clsAt (top 41) 0)) (defScope (clsAt (top 41) 0)) .none kV doc pm an cdv ct) pPs 1 ["rules", "signs"] (fun us ws => us ++ ws.reverse) (fun vs zs => vs ++ zs.reverse) :=
  ⟨fun s us ws X l1 l2 => .of_eq (match us, ws, l1, l2 with | [_], [_, _], _, _ => rfl), fun r1 r2 => r1.append (vals_rev r2)⟩
theorem bindsP {K : PySem.W.Frag} {kV doc pm cdv ct : Value} {an : Option Addr} : Binds K (PySem.W.fnOf "__init__" "Relay.__init__" (defArgs (clsAt (top 41) 0)) (defBody (clsAt (top 41) 0)) (defScope (clsAt (top 41) 0)) .none kV doc pm an cdv ct) pPs [] :=
  Binds.all fun us hl => match us, hl with | [_, _, _], _ => rfl

structure Facts (K : PySem.W.Frag) (w : World) (mg : Str → Option Value) (CR : Addr) : Prop where
  g_Relay : mg "Relay" = some (.ref CR)
  B : BltN mg
  T : Consts mg
  a_are_signs : At K mg "are_signs" (top 15)
  a_is_line : At K mg "is_line" (top 17)
  a_is_list : At K mg "is_list" (top 14)
  a_want_signs : At K mg "want_signs" (top 16)
  a_want_line : At K mg "want_line" (top 18)
  a_is_rule : At K mg "is_rule" (top 37)
  T4 : Consts4 mg
  a_want_rules : At K mg "want_rules" (top 38)
  a_turned_first : At K mg "turned_first" (top 23)
  iR : InitAt K CR
  CL : ClsP K CR
  p_Relay_signs : PropAt K CR "signs" "Relay.signs" (clsAt (top 41) 1)
  m_Relay_rules : MethAt K CR "rules" "Relay.rules" (clsAt (top 41) 2)
  cA : CallAt K CR "Relay.__call__" (clsAt (top 41) 3)
  IC_Relay : C8.InsC K CR
  hdd : PySem.W.hasDictIn K CR = true
  hty : PySem.W.typeIn K (.ref CR) = some (.type "type")
  m_Relay___eq__ : MethAt K CR "__eq__" "Relay.__eq__" (clsAt (top 41) 13)
  m_Relay___repr__ : MethAt K CR "__repr__" "Relay.__repr__" (clsAt (top 41) 14)
  a_law_pot : At K mg "_law_pot" (top 43)
  a_law_draw : At K mg "_law_draw" (top 44)
  a_law_pick : At K mg "_law_pick" (top 45)
  a_law_note : At K mg "_law_note" (top 48)
  a_law_abc : At K mg "_law_abc" (top 47)
  a_law_deals : At K mg "_law_deals" (top 49)
  a_law_turn : At K mg "_law_turn" (top 50)
  a_law_notes : At K mg "_law_notes" (top 51)
  a_law_mixed : At K mg "_law_mixed" (top 46)
  a_law_with_hidden : At K mg "_law_with_hidden" (top 52)
  a_law_turns_right : At K mg "_law_turns_right" (top 53)
  a_law_told_right : At K mg "_law_told_right" (top 54)
  a_law_equal_right : At K mg "_law_equal_right" (top 55)
  nB : NotB K CR
  hne_Relay : PySem.W.findIn K (.ref CR) "__ne__" = some (some (.builtin "object.__ne__"))
  a_law_hidden_right : At K mg "_law_hidden_right" (top 56)
  a_law_right : At K mg "_law_right" (top 57)
  a_law : At K mg "law" (top 58)
theorem law_def {P : Program} {w : World} {K : PySem.W.Frag} {mg : Str → Option Value} {base : Heap} {CR : Addr} (F : Facts K w mg CR) (S : SysAt base) : DefG P w K mg base 8 "law" (top 58) ["script"] (spLaw21 K) := by
  have B := F.B.at S
  have areS : Def P w K mg base 1 "are_signs" (top 15) ["value"] (sp1 K areSigns) := d_areSigns B F.a_are_signs F.T
  have isLine : Def P w K mg base 1 "is_line" (top 17) ["signs", "value"] (spLine K) := d_isLine B F.a_is_line
  have isList : Def P w K mg base 1 "is_list" (top 14) ["value"] (sp1 K isSeq) := d_isList B F.a_is_list
  have fineS := d_fineSigns B F.a_want_signs areS
  have wantLine := d_wantLine B F.a_want_line isLine
  have isRule := d_isRule B F.a_is_rule F.T4 isLine
  have wantRules := d_wantRules B F.a_want_rules F.T4 isList isRule
  have turned : Def P w K mg base 1 "turned_first" (top 23) ["rules", "line"] (spTurned K) := d_turned B F.a_turned_first F.T4
  obtain ⟨fi, oc, kV, doc, pm, cdv, ct, od, an, osl, mk, lk, hcd⟩ := F.iR.ex
  have ini := d_initP (P := P) (w := w) B F.CL lk hcd fineS wantRules
  have MP : MakeP P w K mg base CR := ⟨fi, _, F.g_Relay, mk, ini, bindsP⟩
  have MK : MakePK P w K mg base CR := ⟨fi, _, F.g_Relay, mk, ini, kbn_init⟩
  have gS : PropOk P w K mg base 1 CR "signs" (spSignsP CR) := d_signsP B F.CL F.p_Relay_signs
  have M1 : MethOk P w K mg base 1 CR "rules" ["self"] (spRulesP CR) := d_rulesP B F.CL F.m_Relay_rules
  have M : CallOk P w K mg base 3 CR "line" (spCallP CR) := d_callP B F.CL F.cA wantLine turned
  have MQ : MethOk P w K mg base 1 CR "__eq__" ["self", "other"] (spEqB (EqR K CR)) := d_eqP B F.CL F.IC_Relay F.hdd F.hty F.g_Relay F.m_Relay___eq__
  have M2 : MethG P w K mg base 1 CR "__repr__" ["self"] (spReprP CR) := d_reprP B F.CL F.m_Relay___repr__
  have pot : Def P w K mg base 1 "_law_pot" (top 43) ["script", "k"] (spPotMk K) := d_pot B F.a_law_pot
  have draw := d_draw (P := P) (w := w) (K := K) B F.a_law_draw
  have pick := d_pick B F.a_law_pick draw
  have note := d_note B F.a_law_note draw pick
  have abc := d_abc B F.a_law_abc draw
  have deals := d_deals B F.a_law_deals draw pick note
  have lturn : Def P w K mg base 1 "_law_turn" (top 50) ["deals", "note"] spTurn := d_lturn B F.a_law_turn
  have notes : Def P w K mg base 1 "_law_notes" (top 51) ["abc", "most"] spNotes := d_notes B F.a_law_notes
  have mixed := d_mixed B F.a_law_mixed draw
  have hid := d_hidden B F.a_law_with_hidden draw pick note
  have turnsR := d_turnsR B F.a_law_turns_right notes note lturn M
  have toldR := d_toldR B F.CL F.a_law_told_right M1 M2 gS
  have equalR := d_equalR B F.CL F.a_law_equal_right MP M1 M2 MQ F.nB F.hne_Relay F.IC_Relay.hm
  have hidR := d_hidR B F.a_law_hidden_right MP notes mixed M
  have right := d_right21 B F.CL F.a_law_right MP MK M M1 M2 abc deals hid toldR turnsR equalR hidR note
  exact d_law21 B F.a_law pot right
/-- the law's promise at the head's heap -/
theorem law_at {l : PySem.W.OpenLaw} {w : World} {K : PySem.W.Frag} {mg : Str → Option Value} {h : Heap} {fa CR : Addr} (F : Facts K w mg CR) (hfa : mg "law" = some (.ref fa)) :
    LawG l w K 8 63 "script" mg fa h := by
  refine ⟨[], spLaw21 K, fun p hp => by simp at hp, fun p hp => by simp at hp, fun p hp => by simp at hp, fun H a ns hn hb hT hS => ?_, fun base KB G S hTB => ?_⟩
  · exact ⟨a, ns, rfl, hS, hn, fun _ => rfl⟩
  · obtain ⟨f2, kV2, doc2, pm2, an2, cdv2, ct2, hm2, kp2, G2⟩ := (law_def (P := l.prog) (w := w) F S).ex
    have e2 := hfa.symm.trans hm2
    cases e2
    exact ⟨_, fun s u => .of_eq rfl, G2⟩
end K21

set_option Elab.async false
set_option linter.all false
open PySem PySem.W PyProof.Rows
set_option maxRecDepth 100000 in
set_option maxHeartbeats 0 in
theorem PySem.Challenge.cw_frontlines_k21_relays_told_holds : PySem.Challenge.rw_frontlines_k21_relays_told.Holds := by
  w_on; o_law
  refine HH.top (by assumption) (by rfl) (by rfl) (by rfl) ?hw ?hc
  (case hw => w_witness2)
  k_fill
  refine Z.walk_G (n := 63) (k := 8) (x := "script") rfl (by decide) rfl ⟨rfl, by decide, by decide⟩ (fun w h Y => PySem.W.kIn_of Y) (by first | rfl | kernel_rfl) ?F
  intro w mg fa h Y KX G hmg
  have B : Z.BltN mg := by
    refine' Z.bltn_mk KX G ?a1 ?a2 ?a3 ?a4 ?a5 ?a6 ?a7 ?a8 ?a9 ?a10 ?a11 ?a12 ?a13 ?a14 ?a15 ?a16 ?a17 ?a18 ?a19 ?a20 ?a21 ?a22 <;> k_is
  refine' K21.law_at ⟨(W.mg_of KX G ?g_Relayg1),
      B,
      ⟨(Z.const_mk KX G ?tac1 ?tar), (Z.const_mk KX G ?tbc1 ?tbr), (Z.const_mk KX G ?tcc1 ?tcr)⟩,
      Z.at_mk KX G ?da_are_signs1 ?da_are_signs2 ?da_are_signs3 ?da_are_signs4,
      Z.at_mk KX G ?da_is_line1 ?da_is_line2 ?da_is_line3 ?da_is_line4,
      Z.at_mk KX G ?da_is_list1 ?da_is_list2 ?da_is_list3 ?da_is_list4,
      Z.at_mk KX G ?da_want_signs1 ?da_want_signs2 ?da_want_signs3 ?da_want_signs4,
      Z.at_mk KX G ?da_want_line1 ?da_want_line2 ?da_want_line3 ?da_want_line4,
      Z.at_mk KX G ?da_is_rule1 ?da_is_rule2 ?da_is_rule3 ?da_is_rule4,
      ⟨(Z.const_mk KX G ?vac1 ?var), (Z.const_mk KX G ?vbc1 ?vbr), (Z.const_mk KX G ?vcc1 ?vcr), (Z.const_mk KX G ?vdc1 ?vdr)⟩,
      Z.at_mk KX G ?da_want_rules1 ?da_want_rules2 ?da_want_rules3 ?da_want_rules4,
      Z.at_mk KX G ?da_turned_first1 ?da_turned_first2 ?da_turned_first3 ?da_turned_first4,
      K21.initAt_mk ?in1 ?in2 ?in3 ?in4 ?in5 ?in6,
      ⟨⟨?clCL1, ?clCL2, ?clCL3, ?clCL4⟩, ?naCL1, ?naCL2, ?naCL3⟩,
      K21.prop_mk ?p_Relay_signs_1 ?p_Relay_signs_2 ?p_Relay_signs_3 ?p_Relay_signs_4 ?p_Relay_signs_5 ?p_Relay_signs_6,
      K21.meth_mk ?m_Relay_rules_1 ?m_Relay_rules_2 ?m_Relay_rules_3 ?m_Relay_rules_4 ?m_Relay_rules_5,
      K21.callAt_mk ?cA1 ?cA2 ?cA3 ?cA4 ?cA5,
      ⟨⟨?icIC_Relay1, ?icIC_Relay2, ?icIC_Relay3, ?icIC_Relay4⟩, ?ihIC_Relay1, ?ihIC_Relay2, ?ihIC_Relay3, ?ihIC_Relay4, Z.kit_ref ?ikIC_Relay1 ?ikIC_Relay2 ?ikIC_Relay3⟩,
      ?hdd1,
      ?hty1,
      K21.meth_mk ?m_Relay___eq___1 ?m_Relay___eq___2 ?m_Relay___eq___3 ?m_Relay___eq___4 ?m_Relay___eq___5,
      K21.meth_mk ?m_Relay___repr___1 ?m_Relay___repr___2 ?m_Relay___repr___3 ?m_Relay___repr___4 ?m_Relay___repr___5,
      Z.at_mk KX G ?da_law_pot1 ?da_law_pot2 ?da_law_pot3 ?da_law_pot4,
      Z.at_mk KX G ?da_law_draw1 ?da_law_draw2 ?da_law_draw3 ?da_law_draw4,
      Z.at_mk KX G ?da_law_pick1 ?da_law_pick2 ?da_law_pick3 ?da_law_pick4,
      Z.at_mk KX G ?da_law_note1 ?da_law_note2 ?da_law_note3 ?da_law_note4,
      Z.at_mk KX G ?da_law_abc1 ?da_law_abc2 ?da_law_abc3 ?da_law_abc4,
      Z.at_mk KX G ?da_law_deals1 ?da_law_deals2 ?da_law_deals3 ?da_law_deals4,
      Z.at_mk KX G ?da_law_turn1 ?da_law_turn2 ?da_law_turn3 ?da_law_turn4,
      Z.at_mk KX G ?da_law_notes1 ?da_law_notes2 ?da_law_notes3 ?da_law_notes4,
      Z.at_mk KX G ?da_law_mixed1 ?da_law_mixed2 ?da_law_mixed3 ?da_law_mixed4,
      Z.at_mk KX G ?da_law_with_hidden1 ?da_law_with_hidden2 ?da_law_with_hidden3 ?da_law_with_hidden4,
      Z.at_mk KX G ?da_law_turns_right1 ?da_law_turns_right2 ?da_law_turns_right3 ?da_law_turns_right4,
      Z.at_mk KX G ?da_law_told_right1 ?da_law_told_right2 ?da_law_told_right3 ?da_law_told_right4,
      Z.at_mk KX G ?da_law_equal_right1 ?da_law_equal_right2 ?da_law_equal_right3 ?da_law_equal_right4,
      K21.notB_mk ?nB1 ?nB2 ?nB3 ?nB4 ?nB5 ?nB6 ?nB7,
      ?hne_Relay1,
      Z.at_mk KX G ?da_law_hidden_right1 ?da_law_hidden_right2 ?da_law_hidden_right3 ?da_law_hidden_right4,
      Z.at_mk KX G ?da_law_right1 ?da_law_right2 ?da_law_right3 ?da_law_right4,
      Z.at_mk KX G ?da_law1 ?da_law2 ?da_law3 ?da_law4⟩ hmg
  (case g_Relayg1 => k_is)
  (case tac1 => k_is)
  (case tar => exact ⟨_, rfl⟩)
  (case tbc1 => k_is)
  (case tbr => exact ⟨_, rfl⟩)
  (case tcc1 => k_is)
  (case tcr => exact ⟨_, rfl⟩)
  (case da_are_signs1 => k_is)
  (case da_are_signs2 => k_is)
  (case da_are_signs3 => k_is)
  (case da_are_signs4 => k_is)
  (case da_is_line1 => k_is)
  (case da_is_line2 => k_is)
  (case da_is_line3 => k_is)
  (case da_is_line4 => k_is)
  (case da_is_list1 => k_is)
  (case da_is_list2 => k_is)
  (case da_is_list3 => k_is)
  (case da_is_list4 => k_is)
  (case da_want_signs1 => k_is)
  (case da_want_signs2 => k_is)
  (case da_want_signs3 => k_is)
  (case da_want_signs4 => k_is)
  (case da_want_line1 => k_is)
  (case da_want_line2 => k_is)
  (case da_want_line3 => k_is)
  (case da_want_line4 => k_is)
  (case da_is_rule1 => k_is)
  (case da_is_rule2 => k_is)
  (case da_is_rule3 => k_is)
  (case da_is_rule4 => k_is)
  (case vac1 => k_is)
  (case var => exact ⟨_, rfl⟩)
  (case vbc1 => k_is)
  (case vbr => exact ⟨_, rfl⟩)
  (case vcc1 => k_is)
  (case vcr => exact ⟨_, rfl⟩)
  (case vdc1 => k_is)
  (case vdr => exact ⟨_, rfl⟩)
  (case da_want_rules1 => k_is)
  (case da_want_rules2 => k_is)
  (case da_want_rules3 => k_is)
  (case da_want_rules4 => k_is)
  (case da_turned_first1 => k_is)
  (case da_turned_first2 => k_is)
  (case da_turned_first3 => k_is)
  (case da_turned_first4 => k_is)
  (case in1 => k_is)
  (case in2 => k_is)
  (case in3 => k_is)
  (case in4 => k_is)
  (case in5 => k_is)
  (case in6 => k_is)
  (case naCL1 => unfold L2.NoAttr; k_is)
  (case naCL2 => unfold L2.NoAttr; k_is)
  (case naCL3 => unfold L2.NoAttr; k_is)
  (case clCL1 => k_is)
  (case clCL2 => k_is)
  (case clCL3 => k_is)
  (case clCL4 => k_is)
  (case p_Relay_signs_1 => k_is)
  (case p_Relay_signs_2 => k_is)
  (case p_Relay_signs_3 => k_is)
  (case p_Relay_signs_4 => k_is)
  (case p_Relay_signs_5 => k_is)
  (case p_Relay_signs_6 => k_is)
  (case m_Relay_rules_1 => k_is)
  (case m_Relay_rules_2 => k_is)
  (case m_Relay_rules_3 => k_is)
  (case m_Relay_rules_4 => k_is)
  (case m_Relay_rules_5 => k_is)
  (case cA1 => k_is)
  (case cA2 => k_is)
  (case cA3 => k_is)
  (case cA4 => k_is)
  (case cA5 => k_is)
  (case icIC_Relay1 => k_is)
  (case icIC_Relay2 => k_is)
  (case icIC_Relay3 => k_is)
  (case icIC_Relay4 => k_is)
  (case ihIC_Relay1 => k_is)
  (case ihIC_Relay2 => k_is)
  (case ihIC_Relay3 => k_is)
  (case ihIC_Relay4 => k_is)
  (case ikIC_Relay1 => k_is)
  (case ikIC_Relay2 => k_is)
  (case ikIC_Relay3 => k_is)
  (case hdd1 => k_is)
  (case hty1 => k_is)
  (case m_Relay___eq___1 => k_is)
  (case m_Relay___eq___2 => k_is)
  (case m_Relay___eq___3 => k_is)
  (case m_Relay___eq___4 => k_is)
  (case m_Relay___eq___5 => k_is)
  (case m_Relay___repr___1 => k_is)
  (case m_Relay___repr___2 => k_is)
  (case m_Relay___repr___3 => k_is)
  (case m_Relay___repr___4 => k_is)
  (case m_Relay___repr___5 => k_is)
  (case da_law_pot1 => k_is)
  (case da_law_pot2 => k_is)
  (case da_law_pot3 => k_is)
  (case da_law_pot4 => k_is)
  (case da_law_draw1 => k_is)
  (case da_law_draw2 => k_is)
  (case da_law_draw3 => k_is)
  (case da_law_draw4 => k_is)
  (case da_law_pick1 => k_is)
  (case da_law_pick2 => k_is)
  (case da_law_pick3 => k_is)
  (case da_law_pick4 => k_is)
  (case da_law_note1 => k_is)
  (case da_law_note2 => k_is)
  (case da_law_note3 => k_is)
  (case da_law_note4 => k_is)
  (case da_law_abc1 => k_is)
  (case da_law_abc2 => k_is)
  (case da_law_abc3 => k_is)
  (case da_law_abc4 => k_is)
  (case da_law_deals1 => k_is)
  (case da_law_deals2 => k_is)
  (case da_law_deals3 => k_is)
  (case da_law_deals4 => k_is)
  (case da_law_turn1 => k_is)
  (case da_law_turn2 => k_is)
  (case da_law_turn3 => k_is)
  (case da_law_turn4 => k_is)
  (case da_law_notes1 => k_is)
  (case da_law_notes2 => k_is)
  (case da_law_notes3 => k_is)
  (case da_law_notes4 => k_is)
  (case da_law_mixed1 => k_is)
  (case da_law_mixed2 => k_is)
  (case da_law_mixed3 => k_is)
  (case da_law_mixed4 => k_is)
  (case da_law_with_hidden1 => k_is)
  (case da_law_with_hidden2 => k_is)
  (case da_law_with_hidden3 => k_is)
  (case da_law_with_hidden4 => k_is)
  (case da_law_turns_right1 => k_is)
  (case da_law_turns_right2 => k_is)
  (case da_law_turns_right3 => k_is)
  (case da_law_turns_right4 => k_is)
  (case da_law_told_right1 => k_is)
  (case da_law_told_right2 => k_is)
  (case da_law_told_right3 => k_is)
  (case da_law_told_right4 => k_is)
  (case da_law_equal_right1 => k_is)
  (case da_law_equal_right2 => k_is)
  (case da_law_equal_right3 => k_is)
  (case da_law_equal_right4 => k_is)
  (case nB1 => k_is)
  (case nB2 => k_is)
  (case nB3 => k_is)
  (case nB4 => k_is)
  (case nB5 => k_is)
  (case nB6 => k_is)
  (case nB7 => k_is)
  (case hne_Relay1 => k_is)
  (case da_law_hidden_right1 => k_is)
  (case da_law_hidden_right2 => k_is)
  (case da_law_hidden_right3 => k_is)
  (case da_law_hidden_right4 => k_is)
  (case da_law_right1 => k_is)
  (case da_law_right2 => k_is)
  (case da_law_right3 => k_is)
  (case da_law_right4 => k_is)
  (case da_law1 => k_is)
  (case da_law2 => k_is)
  (case da_law3 => k_is)
  (case da_law4 => k_is)
#print axioms PySem.Challenge.cw_frontlines_k21_relays_told_holds

