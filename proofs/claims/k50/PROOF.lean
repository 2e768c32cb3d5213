import PyProof.Rows.All
import Wide.All
import OpenK.AllK
import Wide.FinOn
import KE.OsRunLaw
import PySem.Challenge.RW_frontlines_k50_readers_refused
import HandS.ForMost
import HandS.ForExc
import HandS.TryMany
import HandS.ExcInit
import HandS.ExcField
import HandS.IsInst
import HandS.Lambda
import HandS.Nested
import HandS.EndTab
import HandS.Walk
import HandS.Zip
import HandS.ExcIs
import KE.KExcIs
import HandS.HeadWalk
import PyProof.Draws
import HandS.Text
import HandS.Dict
import HandS.MakeKwOnly
import HandS.Property
import HandS.Small
import HandS.OwnEq
import HandS.More
import HandS.NoneIn
import HandS.Codes
import HandS.Style
import KE.GoesEnum
import HandS.Conv
import HandS.ListItems
import HandS.StrMore
import PyProof.Rows.StrMul
import PyProof.Rows.Range3
import PyProof.Rows.StrJoinRep
import HandS.TryOnly
import PyProof.NeData
set_option Elab.async false
set_option linter.all false
set_option maxRecDepth 100000
/-! the head by the kernel's own run, once for each answer of the world's one row -/
namespace ZH
open PySem PySem.W PySem.Calls PyProof.Rows HeadRun
theorem left_by {p q : Program} {loose : List PySem.Str} {Xt : Shared → Bool} {H : Hook} {ob : SharedT → H.α} {N M : Nat} (row : String) (ho : ∀ s : SharedT, ob s = H.obs s.abs)
    (e : opening p = plainProg p.main.scope.names) (hN : Nat.ble 600 N = true) (f : ∀ s, fenceModules? p s = some s) (le : Nat.ble M N = true)
    (run : ∀ (b : Bool) (w : World) (os : OsState), (endF (stepQ (denQ tabQ) p (w.withFollow row b)) M p (w.withFollow row b) os).map (fun s => (looksF p (boot_heap (w.withFollow row b).params) s.abs, seenQ q loose (importedModules p.main.body) Xt s.abs, ob s)) = some (true, openGood q loose, H.val (w.withFollow row b))) :
    LeftO p q loose Xt H.obs H.val N true :=
  left_one (M := M) e hN f le fun w os => by
    have z := run (w.params.followText row) w os
    rw [World.withFollow_self] at z
    have eo : ob = fun s => H.obs s.abs := funext ho
    rw [eo] at z
    simp only [endQ_eq, seenQ_eq]
    exact z
theorem obs_k {K : Params → Frag} {as : List Addr} {ek : ∀ P, as = (K P).map (·.1)} (s : SharedT) : (as.map (getT s) : List (Option Obj)) = Hook.obs (kHook K as ek) s.abs :=
  List.map_congr_left fun a _ => getT_eq s a
theorem obs_km {K : Params → Frag} {as ts : List Addr} {ek : ∀ P, as = (K P).map (·.1)} (s : SharedT) : ((as.map (getT s), ts.map (getT s)) : List (Option Obj) × List (Option Obj)) = Hook.obs (kmHook K as ek ts) s.abs :=
  Prod.ext (List.map_congr_left fun a _ => getT_eq s a) (List.map_congr_left fun a _ => getT_eq s a)
theorem left_k {p q : Program} {loose : List PySem.Str} {Xt : Shared → Bool} {K : Params → Frag} {as : List Addr} {ek : ∀ P, as = (K P).map (·.1)} {N M : Nat} (row : String)
    (e : opening p = plainProg p.main.scope.names) (hN : Nat.ble 600 N = true) (f : ∀ s, fenceModules? p s = some s) (le : Nat.ble M N = true)
    (run : ∀ (b : Bool) (w : World) (os : OsState), (endF (stepQ (denQ tabQ) p (w.withFollow row b)) M p (w.withFollow row b) os).map (fun s => (looksF p (boot_heap (w.withFollow row b).params) s.abs, seenQ q loose (importedModules p.main.body) Xt s.abs, as.map (getT s))) = some (true, openGood q loose, (K (w.withFollow row b).params).map fun x => some x.2)) :
    LeftO p q loose Xt (Hook.obs (kHook K as ek)) (Hook.val (kHook K as ek)) N true :=
  left_by (H := kHook K as ek) (ob := fun s => as.map (getT s)) row obs_k e hN f le run
theorem left_km {p q : Program} {loose : List PySem.Str} {Xt : Shared → Bool} {K : Params → Frag} {as ts : List Addr} {ek : ∀ P, as = (K P).map (·.1)} {N M : Nat} (row : String)
    (e : opening p = plainProg p.main.scope.names) (hN : Nat.ble 600 N = true) (f : ∀ s, fenceModules? p s = some s) (le : Nat.ble M N = true)
    (run : ∀ (b : Bool) (w : World) (os : OsState), (endF (stepQ (denQ tabQ) p (w.withFollow row b)) M p (w.withFollow row b) os).map (fun s => (looksF p (boot_heap (w.withFollow row b).params) s.abs, seenQ q loose (importedModules p.main.body) Xt s.abs, (as.map (getT s), ts.map (getT s)))) = some (true, openGood q loose, ((K (w.withFollow row b).params).map fun x => some x.2, ts.map fun _ => some (tabObj #[])))) :
    LeftO p q loose Xt (Hook.obs (kmHook K as ek ts)) (Hook.val (kmHook K as ek ts)) N true :=
  left_by (H := kmHook K as ek ts) (ob := fun s => (as.map (getT s), ts.map (getT s))) row obs_km e hN f le run
theorem left_km2 {p q : Program} {loose : List PySem.Str} {Xt : Shared → Bool} {K : Params → Frag} {as ts : List Addr} {ek : ∀ P, as = (K P).map (·.1)} {N M : Nat} (row : String)
    (e : opening p = plainProg p.main.scope.names) (hN : Nat.ble 600 N = true) (f : ∀ s, fenceModules? p s = some s) (le : Nat.ble M N = true)
    (run0 : ∀ (w : World) (os : OsState), (endF (stepQ (denQ tabQ) p (w.withFollow row false)) M p (w.withFollow row false) os).map (fun s => (looksF p (boot_heap (w.withFollow row false).params) s.abs, seenQ q loose (importedModules p.main.body) Xt s.abs, (as.map (getT s), ts.map (getT s)))) = some (true, openGood q loose, ((K (w.withFollow row false).params).map fun x => some x.2, ts.map fun _ => some (tabObj #[]))))
    (run1 : ∀ (w : World) (os : OsState), (endF (stepQ (denQ tabQ) p (w.withFollow row true)) M p (w.withFollow row true) os).map (fun s => (looksF p (boot_heap (w.withFollow row true).params) s.abs, seenQ q loose (importedModules p.main.body) Xt s.abs, (as.map (getT s), ts.map (getT s)))) = some (true, openGood q loose, ((K (w.withFollow row true).params).map fun x => some x.2, ts.map fun _ => some (tabObj #[])))) :
    LeftO p q loose Xt (Hook.obs (kmHook K as ek ts)) (Hook.val (kmHook K as ek ts)) N true :=
  left_km row e hN f le fun b => by cases b <;> assumption
theorem left_k2 {p q : Program} {loose : List PySem.Str} {Xt : Shared → Bool} {K : Params → Frag} {as : List Addr} {ek : ∀ P, as = (K P).map (·.1)} {N M : Nat} (row : String)
    (e : opening p = plainProg p.main.scope.names) (hN : Nat.ble 600 N = true) (f : ∀ s, fenceModules? p s = some s) (le : Nat.ble M N = true)
    (run0 : ∀ (w : World) (os : OsState), (endF (stepQ (denQ tabQ) p (w.withFollow row false)) M p (w.withFollow row false) os).map (fun s => (looksF p (boot_heap (w.withFollow row false).params) s.abs, seenQ q loose (importedModules p.main.body) Xt s.abs, as.map (getT s))) = some (true, openGood q loose, (K (w.withFollow row false).params).map fun x => some x.2))
    (run1 : ∀ (w : World) (os : OsState), (endF (stepQ (denQ tabQ) p (w.withFollow row true)) M p (w.withFollow row true) os).map (fun s => (looksF p (boot_heap (w.withFollow row true).params) s.abs, seenQ q loose (importedModules p.main.body) Xt s.abs, as.map (getT s))) = some (true, openGood q loose, (K (w.withFollow row true).params).map fun x => some x.2)) :
    LeftO p q loose Xt (Hook.obs (kHook K as ek)) (Hook.val (kHook K as ek)) N true :=
  left_k row e hN f le fun b => by cases b <;> assumption
end ZH

set_option Elab.async false
set_option linter.all false
set_option maxRecDepth 100000
set_option maxHeartbeats 0
noncomputable section
namespace HH
open PySem PySem.W PySem.Calls PyProof.Rows HeadRun
/-- the view: the law alone -/
def vw : Program := { PySem.Challenge.pw_frontlines_k50_readers_refused with main := { (PySem.Challenge.pw_frontlines_k50_readers_refused).main with body := (PySem.Challenge.pw_frontlines_k50_readers_refused).main.body.drop 47 } }
def lse : List PySem.Str := [PySem.Str.ofString "_wall", PySem.Str.ofString "__name__", PySem.Str.ofString "LineError", PySem.Str.ofString "InvalidSigns", PySem.Str.ofString "InvalidMarks", PySem.Str.ofString "InvalidTail", PySem.Str.ofString "InvalidCare", PySem.Str.ofString "InvalidLevel", PySem.Str.ofString "KNOWN_SIGNS", PySem.Str.ofString "LEAST_SIGNS", PySem.Str.ofString "MOST_SIGNS", PySem.Str.ofString "is_integer", PySem.Str.ofString "is_list", PySem.Str.ofString "are_signs", PySem.Str.ofString "want_signs", PySem.Str.ofString "is_line", PySem.Str.ofString "MOST_LEVELS", PySem.Str.ofString "MOST_MARK", PySem.Str.ofString "MOST_TAIL", PySem.Str.ofString "WORDS", PySem.Str.ofString "CARES", PySem.Str.ofString "KINDS", PySem.Str.ofString "is_mark_line", PySem.Str.ofString "is_tail", PySem.Str.ofString "want_marks", PySem.Str.ofString "is_word", PySem.Str.ofString "want_cares", PySem.Str.ofString "is_level", PySem.Str.ofString "want_level", PySem.Str.ofString "roles_of", PySem.Str.ofString "asked_roles", PySem.Str.ofString "Reader", PySem.Str.ofString "_law_pot", PySem.Str.ofString "_law_draw", PySem.Str.ofString "_law_pick", PySem.Str.ofString "_law_text", PySem.Str.ofString "_law_alphabet", PySem.Str.ofString "_law_odd_text", PySem.Str.ofString "_law_labels", PySem.Str.ofString "_law_care", PySem.Str.ofString "_law_told", PySem.Str.ofString "_law_due", PySem.Str.ofString "_law_is", PySem.Str.ofString "_law_right"]
abbrev rr : OpenRow := OpenLaw.row PySem.Challenge.rw_frontlines_k50_readers_refused
abbrev xt : Shared → Bool := fun s => xlAt vw [] s && recOk rr.toRowW.records s
section
local macro_rules
  | `(tactic| o_head $H) => `(tactic| (have hk := $H; assumption))
/-- lays what the walks read of the heap -/
theorem lay (h : rr.Holds) : rr.Holds := by
  k_head
end
def as : List Addr := [2, 3, 15, 17, 18, 20, 21, 22, 29, 30, 31, 32, 35, 42, 44, 45, 47, 48, 49, 50, 51, 54, 61, 63, 64, 66, 67, 68, 69, 70, 73, 80, 82, 83, 85, 86, 87, 88, 89, 92, 99, 101, 102, 104, 105, 106, 107, 108, 111, 118, 120, 121, 123, 124, 125, 126, 127, 130, 132, 133, 135, 136, 137, 139, 140, 142, 143, 144, 147, 148, 149, 151, 152, 154, 155, 156, 159, 160, 161, 162, 163, 164, 165, 166, 167, 169, 170, 172, 173, 174, 176, 177, 179, 180, 181, 183, 184, 186, 187, 188, 190, 191, 193, 194, 195, 197, 198, 200, 201, 202, 204, 205, 207, 208, 209, 211, 212, 214, 215, 216, 218, 219, 221, 222, 223, 226, 227, 235, 236, 238, 239, 241, 242, 243, 245, 246, 248, 249, 250, 251, 253, 254, 256, 257, 258, 259, 261, 262, 264, 265, 266, 267, 269, 270, 272, 273, 274, 275, 277, 278, 280, 281, 282, 283, 285, 286, 288, 289, 290, 291, 293, 294, 296, 297, 298, 299, 301, 302, 304, 305, 306, 309, 310, 311, 313, 314, 316, 317, 318, 320, 321, 323, 324, 325, 328, 329, 330, 332, 333, 335, 336, 337, 339, 340, 342, 343, 344, 346, 347, 349, 350, 351, 353, 354, 356, 357, 358, 360, 361, 363, 364, 365, 367, 368, 370, 371, 372, 374, 375, 377, 378, 379, 382, 383, 384, 385, 386, 387, 388, 391, 393, 394, 396, 397, 398, 400, 401, 403, 404, 405, 407, 408, 410, 411, 412, 415, 416, 417, 419, 420, 422, 423, 424, 426, 427, 429, 430, 431, 434, 435, 436, 438, 439, 441, 442, 443, 445, 446, 448, 449, 450, 452, 453, 455, 456, 457, 459, 460, 462, 463, 464, 467, 468, 469, 472, 473]
theorem ek : ∀ P, as = (HH.lay.heap_1 P).map (·.1) := fun P => by kernel_rfl
theorem run0 : ∀ (w : World) (os : OsState), (endF (stepQ (denQ tabQ) PySem.Challenge.pw_frontlines_k50_readers_refused (w.withFollow "special-get-raises" false)) 30000 PySem.Challenge.pw_frontlines_k50_readers_refused (w.withFollow "special-get-raises" false) os).map (fun s => (looksF PySem.Challenge.pw_frontlines_k50_readers_refused (boot_heap (w.withFollow "special-get-raises" false).params) s.abs, seenQ vw lse (importedModules (PySem.Challenge.pw_frontlines_k50_readers_refused).main.body) xt s.abs, (as.map (getT s), ([465] : List Addr).map (getT s)))) = some (true, openGood vw lse, (((HH.lay.heap_1 (w.withFollow "special-get-raises" false).params).map fun x => some x.2), ([465] : List Addr).map fun _ => some (tabObj #[]))) := by
  intro w os
  kernel_rfl
theorem run1 : ∀ (w : World) (os : OsState), (endF (stepQ (denQ tabQ) PySem.Challenge.pw_frontlines_k50_readers_refused (w.withFollow "special-get-raises" true)) 30000 PySem.Challenge.pw_frontlines_k50_readers_refused (w.withFollow "special-get-raises" true) os).map (fun s => (looksF PySem.Challenge.pw_frontlines_k50_readers_refused (boot_heap (w.withFollow "special-get-raises" true).params) s.abs, seenQ vw lse (importedModules (PySem.Challenge.pw_frontlines_k50_readers_refused).main.body) xt s.abs, (as.map (getT s), ([465] : List Addr).map (getT s)))) = some (true, openGood vw lse, (((HH.lay.heap_1 (w.withFollow "special-get-raises" true).params).map fun x => some x.2), ([465] : List Addr).map fun _ => some (tabObj #[]))) := by
  intro w os
  kernel_rfl
theorem left : LeftO rr.prog vw lse xt (Hook.obs (kmHook HH.lay.heap_1 as ek [465])) (Hook.val (kmHook HH.lay.heap_1 as ek [465])) 30600 true :=
  ZH.left_km2 (M := 30000) "special-get-raises" (by kernel_rfl) (by rfl) (fun s => by kernel_rfl) (by rfl) run0 run1
theorem top (said : rr.wellSaid = true) {d : DefRec} {kwd : List (PySem.Str × PySem.Expr)} (h1 : defOf vw rr.name = some (d, kwd)) (h2 : rr.prog.theDef rr.name = some (d.params, d.body, d.scope)) (h3 : kwWritten? d.params.kwonlyargs d.params.kw_defaults = some kwd) (hw : rr.toRowW.promised)
    (call : WalkO vw lse (XL vw []) (Hook.says (kmHook HH.lay.heap_1 as ek [465])) rr.toRowW d kwd fun f vs => PySem.call f vs) : rr.Holds :=
  holds_open (r := rr) (q := vw) (loose := lse) (Xt := xt) (XP := XL vw []) (Yf := Hook.obs (kmHook HH.lay.heap_1 as ek [465])) (Ya := Hook.val (kmHook HH.lay.heap_1 as ek [465])) (YP := Hook.says (kmHook HH.lay.heap_1 as ek [465])) (N := 30600) left (Hook.of (kmHook HH.lay.heap_1 as ek [465])) (Hook.keeps (kmHook HH.lay.heap_1 as ek [465])) (fun s e => xl_of s (Bool.and_eq_true_iff.mp e).1) XL.keeps h1 h2 h3 (fun s e => recFacts_of (Bool.and_eq_true_iff.mp e).2) (by rfl) said (by decide +kernel) ⟨rfl, rfl, rfl, rfl, rfl, by decide +kernel⟩ hw call
end HH
end

set_option Elab.async false
set_option linter.all false
set_option maxRecDepth 100000
set_option maxHeartbeats 4000000
/-! The weakest readings: each judgement of the hand layer turned into a predicate of the goal, so that a body is gone through from left to right. -/
namespace Z
open PySem PySem.Spec PyProof.Rows L2


/-! ### the judgements -/
structure wE (X : Cx) (e : Expr) (σ : L2.St) (H : Hp) (Q : VK) : Prop where
  run : ∀ pins s, Inv X pins σ H s → wpAny (model X.prog X.w) X.A (eval e X.env) (EP X pins σ Q) X.xe s
structure wT (X : Cx) (e : Expr) (σ : L2.St) (H : Hp) (Q : Bool → Hp → Prop) : Prop where
  run : ∀ pins s, Inv X pins σ H s → wpAny (model X.prog X.w) X.A (isTrue e X.env (eval e X.env)) (TP X pins σ Q) X.xe s
structure wW (X : Cx) (e : Expr) (σ : L2.St) (H : Hp) (Q : Bool → Hp → Prop) : Prop where
  run : ∀ whole pins s, Inv X pins σ H s → wpAny (model X.prog X.w) X.A (isTrue e X.env whole) (TP X pins σ Q) X.xe s
structure wA (X : Cx) (es : List Expr) (σ : L2.St) (H : Hp) (Q : List V → Hp → Prop) : Prop where
  run : ∀ pos pins s, Inv X pins σ H s → wpAny (model X.prog X.w) X.A (spliced (backTo pos (starEach es X.env))) (AP X pins σ Q) X.xe s
structure wK (X : Cx) (kws : List Keyword) (σ : L2.St) (H : Hp) (Q : List V → Hp → Prop) : Prop where
  run : ∀ pos pins s, Inv X pins σ H s → wpAny (model X.prog X.w) X.A (evalAll ((backToKw pos (keywordEach kws X.env)).map (·.2))) (AP X pins σ Q) X.xe s
structure wS (X : Cx) (st : Stmt) (D : Ends) (σ : L2.St) (H : Hp) : Prop where
  run : ∀ pins s, Inv X pins σ H s → wpAny (model X.prog X.w) X.A (exec st X.env) (SP X pins D) X.xe s
structure wB (X : Cx) (sts : List Stmt) (D : Ends) (σ : L2.St) (H : Hp) : Prop where
  run : ∀ pins s, Inv X pins σ H s → wpAny (model X.prog X.w) X.A (execs sts X.env) (SP X pins D) X.xe s
structure wG (X : Cx) (tg : Expr) (v : V) (σ : L2.St) (H : Hp) (Q : L2.St → Hp → Prop) : Prop where
  run : ∀ pins s u, Inv X pins σ H s → RelV v u → wpAny (model X.prog X.w) X.A (assign tg X.env u) (fun _ s' => ∃ σ' H', Inv X pins σ' H' s' ∧ Q σ' H') X.xe s
structure wGs (X : Cx) (ts : List Expr) (vs : List V) (σ : L2.St) (H : Hp) (Q : L2.St → Hp → Prop) : Prop where
  run : ∀ pins s us, Inv X pins σ H s → Vals vs us → wpAny (model X.prog X.w) X.A (assignInOrder ((assignEach ts X.env).map (·.2)) us) (fun _ s' => ∃ σ' H', Inv X pins σ' H' s' ∧ Q σ' H') X.xe s
structure wI (X : Cx) (tg iter : Expr) (σ : L2.St) (H : Hp) (R : It → Hp → Prop) : Prop where
  run : ∀ pins s, Inv X pins σ H s → wpAny (model X.prog X.w) X.A (eval iter X.env) (fun v s1 => wpAny (model X.prog X.w) X.A (pyIter v) (PIE X pins σ tg R) X.xe s1) X.xe s
structure wIf (X : Cx) (ifs : List Expr) (σ : L2.St) (H : Hp) (Q : Bool → Hp → Prop) : Prop where
  run : ∀ pins s, Inv X pins σ H s →
    wpAny (model X.prog X.w) X.A (forIn ifs true fun c r => if r = true then do let ok ← isTrue c X.env (eval c X.env); pure (ForInStep.yield ok) else pure (ForInStep.yield r)) (TP X pins σ Q) X.xe s

section
variable {X : Cx} {e a b c : Expr} {es : List Expr} {st : Stmt} {sts : List Stmt} {σ : L2.St} {H : Hp}
theorem pE : PE X e (wE X e) := ⟨fun pins s _ _ _ I h => h.run pins s I⟩
theorem pT : PT X e (wT X e) := ⟨fun pins s _ _ _ I h => h.run pins s I⟩
theorem pW : PW X e (wW X e) := ⟨fun wh pins s _ _ _ I h => h.run wh pins s I⟩
theorem pA : PA X es (wA X es) := ⟨fun pos pins s _ _ _ I h => h.run pos pins s I⟩
theorem pK {kws : List Keyword} : PK X kws (wK X kws) := ⟨fun pos pins s _ _ _ I h => h.run pos pins s I⟩
theorem pS : PS X st (wS X st) := ⟨fun pins s _ _ _ I h => h.run pins s I⟩
theorem pB : PSs X sts (wB X sts) := ⟨fun pins s _ _ _ I h => h.run pins s I⟩
theorem pG : PG X e (wG X e) := ⟨fun pins s _ _ _ u _ I r h => h.run pins s u I r⟩
theorem pGs : PGs X es (wGs X es) := ⟨fun pins s _ _ _ us _ I r h => h.run pins s us I r⟩
theorem pI {tg iter : Expr} : PI X tg iter (wI X tg iter) := ⟨fun pins s _ _ _ I h => h.run pins s I⟩
theorem pIf : PTs X es (wIf X es) := ⟨fun pins s _ _ _ I h => h.run pins s I⟩
theorem eE {t : TE} {Q : VK} (p : PE X e t) (h : t σ H Q) : wE X e σ H Q := ⟨fun pins s I => p.run pins s σ H Q I h⟩
theorem eT {t : TT} {Q : Bool → Hp → Prop} (p : PT X e t) (h : t σ H Q) : wT X e σ H Q := ⟨fun pins s I => p.run pins s σ H Q I h⟩
theorem eW {t : TT} {Q : Bool → Hp → Prop} (p : PW X e t) (h : t σ H Q) : wW X e σ H Q := ⟨fun wh pins s I => p.run wh pins s σ H Q I h⟩
theorem eA {t : TA} {Q : List V → Hp → Prop} (p : PA X es t) (h : t σ H Q) : wA X es σ H Q := ⟨fun pos pins s I => p.run pos pins s σ H Q I h⟩
theorem eK {kws : List Keyword} {t : TA} {Q : List V → Hp → Prop} (p : PK X kws t) (h : t σ H Q) : wK X kws σ H Q := ⟨fun pos pins s I => p.run pos pins s σ H Q I h⟩
theorem eS {t : TS} {D : Ends} (p : PS X st t) (h : t D σ H) : wS X st D σ H := ⟨fun pins s I => p.run pins s σ H D I h⟩
theorem eB {t : TS} {D : Ends} (p : PSs X sts t) (h : t D σ H) : wB X sts D σ H := ⟨fun pins s I => p.run pins s σ H D I h⟩
theorem eG {t : TG} {v : V} {Q : L2.St → Hp → Prop} (p : PG X e t) (h : t v σ H Q) : wG X e v σ H Q := ⟨fun pins s u I r => p.run pins s σ H v u Q I r h⟩
theorem eGs {t : TGs} {vs : List V} {Q : L2.St → Hp → Prop} (p : PGs X es t) (h : t vs σ H Q) : wGs X es vs σ H Q := ⟨fun pins s us I r => p.run pins s σ H vs us Q I r h⟩
theorem eI {tg iter : Expr} {t : TI} {R : It → Hp → Prop} (p : PI X tg iter t) (h : t σ H R) : wI X tg iter σ H R := ⟨fun pins s I => p.run pins s σ H R I h⟩
theorem eIf {t : TT} {Q : Bool → Hp → Prop} (p : PTs X es t) (h : t σ H Q) : wIf X es σ H Q := ⟨fun pins s I => p.run pins s σ H Q I h⟩

theorem wE_mono {Q Q' : VK} (h : wE X e σ H Q) (k : ∀ v H', Q v H' → Q' v H') : wE X e σ H Q' := ⟨fun pins s I => thn (h.run pins s I) fun _ _ ⟨v, H', I', r, q⟩ => ⟨v, H', I', r, k v H' q⟩⟩
theorem wT_mono {Q Q' : Bool → Hp → Prop} (h : wT X e σ H Q) (k : ∀ v H', Q v H' → Q' v H') : wT X e σ H Q' := ⟨fun pins s I => thn (h.run pins s I) fun b _ ⟨H', I', q⟩ => ⟨H', I', k b H' q⟩⟩

/-! ### statements -/
theorem b_nil {D : Ends} (h : D.nx σ H) : wB X [] D σ H := eB pss_nil h
theorem b_cons {D : Ends} (h : wS X st { D with nx := wB X sts D } σ H) : wB X (st :: sts) D σ H := eB (pss_cons pS pB) h
theorem s_pass {D : Ends} {pos : Pos} (h : D.nx σ H) : wS X (.Pass pos) D σ H := eS ps_pass h
theorem s_break {D : Ends} {pos : Pos} (h : D.bk σ H) : wS X (.Break pos) D σ H := eS ps_break h
theorem s_continue {D : Ends} {pos : Pos} (h : D.ct σ H) : wS X (.Continue pos) D σ H := eS ps_continue h
theorem s_if {D : Ends} {c : Expr} {u v : List Stmt} {pos : Pos} (h : wT X c σ H fun b H1 => if b = true then wB X u D σ H1 else wB X v D σ H1) : wS X (.If c u v pos) D σ H := eS (ps_if pT pB pB) h
theorem s_ret {D : Ends} {pos : Pos} (h : wE X e σ H D.rt) : wS X (.Return (some e) pos) D σ H := eS (ps_ret pE) h
theorem s_retN {D : Ends} {pos : Pos} (h : D.rt .non H) : wS X (.Return none pos) D σ H := eS ps_retN h
theorem s_expr {D : Ends} {pos : Pos} (h : wE X e σ H fun _ H1 => D.nx σ H1) (hs : swapsWith e none pos.line X.env = pure false := by rfl) : wS X (.Expr e pos) D σ H := eS (ps_expr pE hs) h
/-- name = value -/
theorem s_set {D : Ends} {i : Nat} {x : Str} {pos pos' : Pos} (h : wE X e σ H fun v H1 => D.nx (σ.set i (some v)) H1) (hN : X.N.Nodup) (hi : X.N[i]? = some x := by rfl) (hx : Loc X.env.scope x := by first | exact Or.inl rfl | exact Or.inr rfl)
    (hs : swapsWith e (some (.Name x pos')) pos.line X.env = pure false := by rfl) (hf : X.fn x = true ∨ X.env.scope.names.lookup x = some .local := by first | exact .inl rfl | exact .inr rfl) : wS X (.Assign [.Name x pos'] e pos) D σ H := eS (ps_set hN hi hx pE hs hf) h
theorem s_asg {D : Ends} {tg : Expr} {pos : Pos} (h : wE X e σ H fun v H1 => wG X tg v σ H1 D.nx) (hs : swapsWithSole [tg] e pos.line X.env = pure false := by rfl) (hw : swappedStores [tg] e X.env = pure none := by rfl)
    (h1 : (assignEach [tg] X.env).map (·.2) = [assign tg X.env] := by rfl) : wS X (.Assign [tg] e pos) D σ H := eS (ps_asg pE pG hs hw h1) h
theorem g_name {i : Nat} {x : Str} {pos : Pos} {v : V} {Q : L2.St → Hp → Prop} (h : Q (σ.set i (some v)) H) (hN : X.N.Nodup) (hi : X.N[i]? = some x := by rfl) (hx : Loc X.env.scope x := by first | exact Or.inl rfl | exact Or.inr rfl)
    (hf : X.fn x = true ∨ X.env.scope.names.lookup x = some .local := by first | exact .inl rfl | exact .inr rfl) : wG X (.Name x pos) v σ H Q := eG (pg_name hN hi hx hf) h
theorem gs_nil {Q : L2.St → Hp → Prop} (h : Q σ H) : wGs X [] [] σ H Q := eGs pgs_nil ⟨rfl, h⟩
theorem gs_cons {v : V} {vs : List V} {Q : L2.St → Hp → Prop} (h : wG X e v σ H fun σ' H' => wGs X es vs σ' H' Q) (hs : (assignEach (e :: es) X.env).map (·.2) = assign e X.env :: (assignEach es X.env).map (·.2) := by rfl) :
    wGs X (e :: es) (v :: vs) σ H Q := eGs (pgs_cons pG pGs hs) ⟨v, vs, rfl, h⟩
theorem g_tup {k : Nat} {pos : Pos} {p : Addr} {xs : List V} {Q : L2.St → Hp → Prop} (h : wGs X es xs σ H Q) (hc : X.calm = true) (hq : SqT X.K H p xs) (hn : (assignEach es X.env).length = xs.length := by rfl)
    (hst : (assignEach es X.env).findIdx? (·.1) = none := by rfl) : wG X (.Tuple es k pos) (.ref p) σ H Q := eG (pg_tup hc pGs hn hst) ⟨p, xs, rfl, hq, rfl, h⟩
/-- o[i] = v -/
structure sW (X : Cx) (o i v : V) (H : Hp) (Q : Hp → Prop) : Prop where
  run : ∀ pins s σ ov iv u, Inv X pins σ H s → RelV o ov → RelV i iv → RelV v u → wpAny (model X.prog X.w) X.A (setItem ov iv u) (fun _ s' => ∃ H', Inv X pins σ H' s' ∧ Q H') X.xe s
theorem g_sub {o i : Expr} {pos : Pos} {v : V} {Q : L2.St → Hp → Prop} (h : wE X o σ H fun ov H1 => wE X i σ H1 fun iv H2 => sW X ov iv v H2 fun H3 => Q σ H3)
    (ha : ∀ v, assign (.Subscript o i pos) X.env v = (do
      let ov ← holding [v] (eval o X.env)
      let iv ← holding [v, ov] (eval i X.env)
      standAt pos
      holding [v, ov, iv] (setItem ov iv v)
      release [v, ov, iv] []) := by intro _; rfl) : wG X (.Subscript o i pos) v σ H Q :=
  eG (pg_sub pE pE (t := sW X) (fun pins s σ H o i v ov iv u Q I r1 r2 r3 h => h.run pins s σ ov iv u I r1 r2 r3) ha) h
theorem sW_of {t : TSet} {o i v : V} {Q : Hp → Prop} (p : PSet X t) (h : t o i v H Q) : sW X o i v H Q := ⟨fun pins s σ ov iv u I r1 r2 r3 => p pins s σ H o i v ov iv u Q I r1 r2 r3 h⟩

/-! ### expressions -/
theorem e_name (i : Nat) {x : Str} {pos : Pos} {v : V} {Q : VK} (h : Q v H) (hs : σ[i]? = some (some v) := by rfl) (hN : X.N[i]? = some x := by rfl) (hv : Vis X.env.scope x := by first | exact Or.inl rfl | exact Or.inr (Or.inl rfl) | exact Or.inr (Or.inr rfl))
    (hd : (x == ("__debug__" : Str)) = false := by decide) (hcd : (x == ("__classdict__" : Str)) = false := by decide) : wE X (.Name x pos) σ H Q := eE (pe_var hN hv hd hcd) ⟨v, hs, h⟩
theorem e_glob {x : Str} {pos : Pos} {v : V} {u : Value} {Q : VK} (h : Q v H) (hm : X.mg x = some u) (r : RelV v u) (hg : Gl X x := by rfl) (hd : (x == ("__debug__" : Str)) = false := by decide) : wE X (.Name x pos) σ H Q := eE (pe_glob hg hm r hd) h
theorem e_blt {x : Str} {pos : Pos} {v : V} {u : Value} {Q : VK} (h : Q v H) (hm : X.mg x = none) (hv : bootBuiltins x = some u) (r : RelV v u) (hg : Gl X x := by rfl) (hn : x ≠ "__name__" := by decide) (hd : (x == ("__debug__" : Str)) = false := by decide) :
    wE X (.Name x pos) σ H Q := eE (pe_bltn hg hm hv r hn hd) h
theorem e_int {i : Int} {j} {pos : Pos} {Q : VK} (h : Q (.int i) H) : wE X (.Constant (.int i) j pos) σ H Q := eE pe_int h
theorem e_str {x : Str} {j} {pos : Pos} {Q : VK} (h : Q (.str x) H) : wE X (.Constant (.str x) j pos) σ H Q := eE pe_str h
theorem e_bool {b : Bool} {j} {pos : Pos} {Q : VK} (h : Q (.bl b) H) : wE X (.Constant (.bool b) j pos) σ H Q := eE pe_bl h
theorem e_none {j} {pos : Pos} {Q : VK} (h : Q .non H) : wE X (.Constant .none j pos) σ H Q := eE pe_non h
/-- an operation on two values -/
structure oW (X : Cx) (f : Value → Value → Sem Value) (x y : V) (H : Hp) (Q : VK) : Prop where
  run : ∀ pins s σ v u, Inv X pins σ H s → RelV x v → RelV y u → wpAny (model X.prog X.w) X.A (f v u) (EP X pins σ Q) X.xe s
theorem oR {f : Value → Value → Sem Value} : OpR X f (oW X f) := fun pins s σ _ _ _ v u _ I rx ry h => h.run pins s σ v u I rx ry
theorem oW_of {f : Value → Value → Sem Value} {r : R2} {x y : V} {Q : VK} (p : OpR X f r) (h : r x y H Q) : oW X f x y H Q := ⟨fun pins s σ v u I rx ry => p pins s σ H x y v u Q I rx ry h⟩
structure uW (X : Cx) (f : Value → Sem Value) (x : V) (H : Hp) (Q : VK) : Prop where
  run : ∀ pins s σ v, Inv X pins σ H s → RelV x v → wpAny (model X.prog X.w) X.A (f v) (EP X pins σ Q) X.xe s
theorem uW_of {f : Value → Sem Value} {r : V → Hp → VK → Prop} {x : V} {Q : VK} (p : UnR X f r) (h : r x H Q) : uW X f x H Q := ⟨fun pins s σ v I rx => p pins s σ H x v Q I rx h⟩
theorem e_bin {op : Operator} {pos : Pos} {Q : VK} (h : wE X a σ H fun x H1 => wE X b σ H1 fun y H2 => oW X (binaryOp op) x y H2 Q) : wE X (.BinOp a op b pos) σ H Q := eE (pe_op oR pE pE) h
theorem e_un {op : UnaryOp} {pos : Pos} {Q : VK} (h : wE X a σ H fun x H1 => uW X (unaryOp op) x H1 Q) : wE X (.UnaryOp op a pos) σ H Q := eE (pe_un (r := uW X (unaryOp op)) (fun pins s σ _ _ v _ I rx h => h.run pins s σ v I rx) pE) h
theorem e_cmp {op : CmpOp} {pos : Pos} {Q : VK} (h : wE X a σ H fun x H1 => wE X b σ H1 fun y H2 => oW X (compareOp op) x y H2 Q) (hm : behindInMarks op b = false := by first | exact nomark _ | rfl) :
    wE X (.Compare a [op] [b] pos) σ H Q := eE (pe_cmpR oR pE pE hm) h
theorem t_cmp {op : CmpOp} {pos : Pos} {Q : Bool → Hp → Prop} (h : wE X a σ H fun x H1 => wE X b σ H1 fun y H2 => oW X (compareOp op) x y H2 fun v H3 => ∃ k, v = .bl k ∧ Q k H3) (hm : behindInMarks op b = false := by first | exact nomark _ | rfl) :
    wT X (.Compare a [op] [b] pos) σ H Q := eT (pt_cmpR oR pE pE hm) h
theorem t_chain {op op' : CmpOp} {pos : Pos} {Q : Bool → Hp → Prop} (h : wE X a σ H fun x H1 => wE X b σ H1 fun y H2 => oW X (compareOp op) x y H2 fun z H3 => ∃ k, z = .bl k ∧
      (if k = true then wE X c σ H3 fun w' H4 => oW X (compareOp op') y w' H4 (fun v H5 => ∃ k, v = .bl k ∧ Q k H5) else ∃ k, V.bl false = .bl k ∧ Q k H3)) (hm : lastMarks [op, op'] [b, c] = false := by with_unfolding_all rfl) :
    wT X (.Compare a [op, op'] [b, c] pos) σ H Q := eT (pt_chain oR oR pE pE pE hm) h
theorem t_not {pos : Pos} {Q : Bool → Hp → Prop} (h : wT X a σ H fun c H1 => Q (!c) H1) : wT X (.UnaryOp .Not a pos) σ H Q := eT (pt_not pT) h
theorem e_not {pos : Pos} {Q : VK} (h : wE X a σ H fun x H1 => ∃ c, x = .bl c ∧ Q (.bl (!c)) H1) : wE X (.UnaryOp .Not a pos) σ H Q := eE (pe_not pE) h
theorem t_boolop {op} {pos : Pos} {Q : Bool → Hp → Prop} (h : wW X (.BoolOp op es pos) σ H Q) : wT X (.BoolOp op es pos) σ H Q := eT pW.pt h
theorem w_and1 {pos : Pos} {Q : Bool → Hp → Prop} (h : wT X a σ H Q) : wW X (.BoolOp .And [a] pos) σ H Q := eW (pw_and1 pT) h
theorem w_or1 {pos : Pos} {Q : Bool → Hp → Prop} (h : wT X a σ H Q) : wW X (.BoolOp .Or [a] pos) σ H Q := eW (pw_or1 pT) h
theorem w_and {rest : List Expr} {pos : Pos} {Q : Bool → Hp → Prop} (h : wT X a σ H fun c H1 => if c = true then wW X (.BoolOp .And (b :: rest) pos) σ H1 Q else Q false H1) : wW X (.BoolOp .And (a :: b :: rest) pos) σ H Q := eW (pw_and pT pW) h
theorem w_or {rest : List Expr} {pos : Pos} {Q : Bool → Hp → Prop} (h : wT X a σ H fun c H1 => if c = true then Q true H1 else wW X (.BoolOp .Or (b :: rest) pos) σ H1 Q) : wW X (.BoolOp .Or (a :: b :: rest) pos) σ H Q := eW (pw_or pT pW) h
theorem e_one {op} {pos : Pos} {Q : VK} (h : wE X a σ H Q) : wE X (.BoolOp op [a] pos) σ H Q := eE (pe_one pE) h
theorem e_and {rest : List Expr} {pos : Pos} {Q : VK} (h : wE X a σ H fun x H1 => ∃ c, x = .bl c ∧ if c = true then wE X (.BoolOp .And (b :: rest) pos) σ H1 Q else Q (.bl false) H1) : wE X (.BoolOp .And (a :: b :: rest) pos) σ H Q := eE (pe_and pE pE) h
theorem e_or {rest : List Expr} {pos : Pos} {Q : VK} (h : wE X a σ H fun x H1 => ∃ c, x = .bl c ∧ if c = true then Q (.bl true) H1 else wE X (.BoolOp .Or (b :: rest) pos) σ H1 Q) : wE X (.BoolOp .Or (a :: b :: rest) pos) σ H Q := eE (pe_or pE pE) h
theorem e_if {pos : Pos} {Q : VK} (h : wT X c σ H fun k H1 => if k = true then wE X a σ H1 Q else wE X b σ H1 Q) : wE X (.IfExp c a b pos) σ H Q := eE (pe_ifExp pT pE pE) h
/-- an expression whose value is a bool, as a test -/
theorem t_val {Q : Bool → Hp → Prop} (h : wE X e σ H fun x H1 => ∃ c, x = .bl c ∧ Q c H1) (he : ∀ whole, isTrue e X.env whole = (do let v ← whole; standAt e.pos; holding [v] (truthy v)) := by intro _; rfl) : wT X e σ H Q := eT (pt_val pE he) h
theorem t_truth {Q : Bool → Hp → Prop} (h : wE X e σ H fun x H1 => ∃ k, TruV X.K x H1 k ∧ Q k H1) (he : ∀ whole, isTrue e X.env whole = (do let v ← whole; standAt e.pos; holding [v] (truthy v)) := by intro _; rfl) : wT X e σ H Q := eT (pt_truth pE he) h
theorem a_nil {Q : List V → Hp → Prop} (h : Q [] H) : wA X [] σ H Q := eA pa_nil h
theorem a_cons {Q : List V → Hp → Prop} (h : wE X e σ H fun x H1 => wA X es σ H1 fun xs H2 => Q (x :: xs) H2) (hs : starEach (e :: es) X.env = (false, eval e X.env) :: starEach es X.env := by rfl) : wA X (e :: es) σ H Q := eA (pa_cons pE pA hs) h
theorem k_nil {Q : List V → Hp → Prop} (h : Q [] H) : wK X [] σ H Q := eK pk_nil h
theorem k_cons {nm : Option Str} {kpos : Pos} {kws : List Keyword} {Q : List V → Hp → Prop} (h : wE X e σ H fun x H1 => wK X kws σ H1 fun xs H2 => Q (x :: xs) H2) : wK X (⟨nm, e, kpos⟩ :: kws) σ H Q := eK (pk_cons pE pK) h
theorem e_tup {x1} {pos : Pos} {Q : VK} (h : wA X es σ H fun xs H1 => xs.length ≤ sizeLine ∧ ∀ p, H1 p = none → Q (.ref p) (upd H1 p (.tup xs))) : wE X (.Tuple es x1 pos) σ H Q := eE (pe_tup pA) h
theorem e_lst {pos : Pos} {Q : VK} (h : wA X es σ H fun xs H1 => xs.length ≤ sizeLine ∧ ∀ p, H1 p = none → Q (.ref p) (upd H1 p (.lst xs))) : wE X (.List es pos) σ H Q := eE (pe_lst pA) h
end
end Z

set_option Elab.async false
set_option linter.all false
set_option maxRecDepth 100000
set_option maxHeartbeats 4000000
namespace Z
open PySem PySem.Spec PyProof.Rows L2

/-- the built-in names that no def of the text hides -/
structure Blt (mg : Str → Option Value) (base : Heap) : Prop where
  sys : ∃ o es ep, base.get? sysModules = some o ∧ o.data = .dict es ep
  len : mg "len" = none
  range : mg "range" = none
  min : mg "min" = none
  max : mg "max" = none
  abs : mg "abs" = none
  int : mg "int" = none
  str : mg "str" = none
  bool : mg "bool" = none
  list : mg "list" = none
  tuple : mg "tuple" = none
  dict : mg "dict" = none
  isinstance : mg "isinstance" = none
  all : mg "all" = none
  any : mg "any" = none
  sum : mg "sum" = none
  zip : mg "zip" = none
  repr : mg "repr" = none
  divmod : mg "divmod" = none
  sorted : mg "sorted" = none
  enumerate : mg "enumerate" = none
  reversed : mg "reversed" = none
  valueError : mg "ValueError" = none

/-- where a body runs: the room, what a raised error is wished to meet -/
structure Cxt (X : Cx) (k : Nat) (W : WX) : Prop where
  room : Room k X.A
  calm : X.calm = true
  nd : X.N.Nodup
  blt : Blt X.mg X.base
  po : PassesOwn (model X.prog X.w) X.A X.env X.xe
  tk : Takes X W
abbrev W0 : WX := fun _ _ _ _ => False
theorem takesW0 {X : Cx} : Takes X W0 := fun _ _ ⟨_, _, _, _, _, _, _, _, _, _, _, _, _, _, _, _, z⟩ => z.elim
theorem Cxt.mono {X : Cx} {j k : Nat} {W : WX} (C : Cxt X k W) (h : j ≤ k) : Cxt X j W := ⟨C.room.mono h, C.calm, C.nd, C.blt, C.po, C.tk⟩
theorem Cxt.blk {X : Cx} {k : Nat} {W : WX} (C : Cxt X k W) (s : Shared) (H : Hp) (scope : Scope) (cenv : Env) (fp : List Addr) : Cxt (X.blk s H scope cenv fp) k W0 :=
  ⟨C.room, C.calm, C.nd, C.blt, PassesOwn.never, takesW0⟩
/-- no guard of repr stands -/
abbrev Gd (X : Cx) : Prop := X.A.guards = some []

/-! ### a def's promise, where no guard of repr stands -/
structure GFn (P : Program) (w : World) (K : PySem.W.Frag) (mg : Str → Option Value) (base : Heap) (k : Nat) (f : Addr) (fd : FuncData) (ps : List Str) (sp : Sp) : Prop where
  len : ∀ vs H Q E, sp vs H Q E → vs.length = ps.length
  run : ∀ (A : Around) (outer : List Env) (s : Shared) (H : Hp) (args : Args) (us : List Value) (vs : List V) (Q : VK) (E : XK), Room k A → A.guards = some [] → Env0 P w K mg base A outer s H → BindsTo s fd args (ps.zip us) → Vals vs us → sp vs H Q E →
    codeAny (model P w) A (.call (.ref f) args) (CR (L2.CX P w) outer P w H s Q E) s
/-- a def of the text under its name: its promise in every place -/
structure Def (P : Program) (w : World) (K : PySem.W.Frag) (mg : Str → Option Value) (base : Heap) (k : Nat) (x : Str) (st : Stmt) (ps : List Str) (sp : Sp) : Prop where
  ex : ∃ (f : Addr) (kV doc pm : Value) (an : Option Addr) (cdv ct : Value), mg x = some (.ref f) ∧ PySem.W.keepIn K (.ref f) = true ∧
    FnOk P w K mg base (L2.CX P w) k f (PySem.W.fnOf x x (defArgs st) (defBody st) (defScope st) .none kV doc pm an cdv ct) ps sp
/-- .. its promise where no guard of repr stands -/
structure DefG (P : Program) (w : World) (K : PySem.W.Frag) (mg : Str → Option Value) (base : Heap) (k : Nat) (x : Str) (st : Stmt) (ps : List Str) (sp : Sp) : Prop where
  ex : ∃ (f : Addr) (kV doc pm : Value) (an : Option Addr) (cdv ct : Value), mg x = some (.ref f) ∧ PySem.W.keepIn K (.ref f) = true ∧
    GFn P w K mg base k f (PySem.W.fnOf x x (defArgs st) (defBody st) (defScope st) .none kV doc pm an cdv ct) ps sp
/-- what the head tells of it -/
structure At (K : PySem.W.Frag) (mg : Str → Option Value) (x : Str) (st : Stmt) : Prop where
  ex : ∃ (f : Addr) (fd : FuncData), mg x = some (.ref f) ∧ Fun K x x st f fd

section
variable {P : Program} {w : World} {K : PySem.W.Frag} {mg : Str → Option Value} {base : Heap}
theorem gfn_of {k : Nat} {f : Addr} {fd : FuncData} {ps : List Str} {sp : Sp} (F : FnOk P w K mg base (L2.CX P w) k f fd ps sp) : GFn P w K mg base k f fd ps sp := ⟨F.len, fun A outer s H args us vs Q E hr _ => F.run A outer s H args us vs Q E hr⟩
theorem Def.g {k : Nat} {x : Str} {st : Stmt} {ps : List Str} {sp : Sp} (D : Def P w K mg base k x st ps sp) : DefG P w K mg base k x st ps sp := by
  obtain ⟨f, kV, doc, pm, an, cdv, ct, h1, h2, h3⟩ := D.ex
  exact ⟨f, kV, doc, pm, an, cdv, ct, h1, h2, gfn_of h3⟩
theorem Def.mono {j k : Nat} {x : Str} {st : Stmt} {ps : List Str} {sp : Sp} (D : Def P w K mg base j x st ps sp) (h : j ≤ k) : Def P w K mg base k x st ps sp := by
  obtain ⟨f, kV, doc, pm, an, cdv, ct, h1, h2, h3⟩ := D.ex
  exact ⟨f, kV, doc, pm, an, cdv, ct, h1, h2, h3.mono h⟩
theorem DefG.mono {j k : Nat} {x : Str} {st : Stmt} {ps : List Str} {sp : Sp} (D : DefG P w K mg base j x st ps sp) (h : j ≤ k) : DefG P w K mg base k x st ps sp := by
  obtain ⟨f, kV, doc, pm, an, cdv, ct, h1, h2, h3⟩ := D.ex
  exact ⟨f, kV, doc, pm, an, cdv, ct, h1, h2, h3.len, fun A outer s H args us vs Q E hr => h3.run A outer s H args us vs Q E (hr.mono h)⟩
/-- the body's context -/
abbrev bX (P : Program) (w : World) (K : PySem.W.Frag) (mg : Str → Option Value) (base : Heap) (N : List Str) (x : Str) (st : Stmt) (f : Addr) (cdv : Value) (A : Around) (outer : List Env) (s : Shared) (H : Hp) (E : XK) : Cx :=
  cxOf (L2.CX P w) P w K mg base N x (defScope st) f cdv A outer s H E
/-- THE RULE for a function object: x0 its name, x its qualified name -/
theorem fnok_body {k : Nat} {x0 x : Str} {st : Stmt} {f : Addr} {oc dV kV doc pm cdv ct : Value} {od an : Option Addr} {osl : Array (Option Value)} {N ps : List Str} {sp : Sp} (B : Blt mg base)
    (lk : K.lookup f = some ⟨oc, od, .func (PySem.W.fnOf x0 x (defArgs st) (defBody st) (defScope st) dV kV doc pm an cdv ct), osl⟩) (hcd : PySem.W.codeIn K cdv x = true)
    (S : FnScope N ps (defScope st)) (len : ∀ vs H Q E, sp vs H Q E → vs.length = ps.length)
    (body : ∀ (A : Around) (outer : List Env) (s : Shared) (H : Hp) (vs : List V) (Q : VK) (E : XK), Cxt (bX P w K mg base N x st f cdv A outer s H E) k (fun cls d _ H => E cls d H) → sp vs H Q E →
      wB (bX P w K mg base N x st f cdv A outer s H E) (defBody st) { nx := fun _ H' => Q .non H', rt := Q } (start N vs) H) :
    FnOk P w K mg base (L2.CX P w) (k + 1) f (PySem.W.fnOf x0 x (defArgs st) (defBody st) (defScope st) dV kV doc pm an cdv ct) ps sp :=
  ⟨len, fun A outer s H args us vs Q E hr e0 hb r hsp => LamX.run_ofS lk hcd S hr e0 hb r (len _ _ _ _ hsp) fun hr' => ⟨wB _ (defBody st), pB, body A outer s H vs Q E ⟨hr', rfl, S.nd, B, passes_of rfl, takes_of rfl rfl rfl rfl⟩ hsp⟩⟩
theorem gfn_body {k : Nat} {x0 x : Str} {st : Stmt} {f : Addr} {oc dV kV doc pm cdv ct : Value} {od an : Option Addr} {osl : Array (Option Value)} {N ps : List Str} {sp : Sp} (B : Blt mg base)
    (lk : K.lookup f = some ⟨oc, od, .func (PySem.W.fnOf x0 x (defArgs st) (defBody st) (defScope st) dV kV doc pm an cdv ct), osl⟩) (hcd : PySem.W.codeIn K cdv x = true)
    (S : FnScope N ps (defScope st)) (len : ∀ vs H Q E, sp vs H Q E → vs.length = ps.length)
    (body : ∀ (A : Around) (outer : List Env) (s : Shared) (H : Hp) (vs : List V) (Q : VK) (E : XK), Cxt (bX P w K mg base N x st f cdv A outer s H E) k (fun cls d _ H => E cls d H) → Gd (bX P w K mg base N x st f cdv A outer s H E) → sp vs H Q E →
      wB (bX P w K mg base N x st f cdv A outer s H E) (defBody st) { nx := fun _ H' => Q .non H', rt := Q } (start N vs) H) :
    GFn P w K mg base (k + 1) f (PySem.W.fnOf x0 x (defArgs st) (defBody st) (defScope st) dV kV doc pm an cdv ct) ps sp :=
  ⟨len, fun A outer s H args us vs Q E hr hg e0 hb r hsp => LamX.run_ofS lk hcd S hr e0 hb r (len _ _ _ _ hsp) fun hr' => ⟨wB _ (defBody st), pB, body A outer s H vs Q E ⟨hr', rfl, S.nd, B, passes_of rfl, takes_of rfl rfl rfl rfl⟩ hg hsp⟩⟩
/-- THE RULE for a def -/
theorem def_of {k : Nat} {x : Str} {st : Stmt} {N ps : List Str} {sp : Sp} (D : At K mg x st) (B : Blt mg base) (S : FnScope N ps (defScope st)) (len : ∀ vs H Q E, sp vs H Q E → vs.length = ps.length)
    (body : ∀ (f : Addr) (cdv : Value) (A : Around) (outer : List Env) (s : Shared) (H : Hp) (vs : List V) (Q : VK) (E : XK), mg x = some (.ref f) → Cxt (bX P w K mg base N x st f cdv A outer s H E) k (fun cls d _ H => E cls d H) → sp vs H Q E →
      wB (bX P w K mg base N x st f cdv A outer s H E) (defBody st) { nx := fun _ H' => Q .non H', rt := Q } (start N vs) H) : Def P w K mg base (k + 1) x st ps sp := by
  obtain ⟨f, fd, hm, F⟩ := D.ex
  obtain ⟨oc, od, kV, doc, pm, an, cdv, ct, osl, rfl, lk, hcd⟩ := F.ex
  exact ⟨f, kV, doc, pm, an, cdv, ct, hm, F.kp, fnok_body B lk hcd S len fun A outer s H vs Q E C h => body f cdv A outer s H vs Q E hm C h⟩
theorem defG_of {k : Nat} {x : Str} {st : Stmt} {N ps : List Str} {sp : Sp} (D : At K mg x st) (B : Blt mg base) (S : FnScope N ps (defScope st)) (len : ∀ vs H Q E, sp vs H Q E → vs.length = ps.length)
    (body : ∀ (f : Addr) (cdv : Value) (A : Around) (outer : List Env) (s : Shared) (H : Hp) (vs : List V) (Q : VK) (E : XK), mg x = some (.ref f) → Cxt (bX P w K mg base N x st f cdv A outer s H E) k (fun cls d _ H => E cls d H) → Gd (bX P w K mg base N x st f cdv A outer s H E) → sp vs H Q E →
      wB (bX P w K mg base N x st f cdv A outer s H E) (defBody st) { nx := fun _ H' => Q .non H', rt := Q } (start N vs) H) : DefG P w K mg base (k + 1) x st ps sp := by
  obtain ⟨f, fd, hm, F⟩ := D.ex
  obtain ⟨oc, od, kV, doc, pm, an, cdv, ct, osl, rfl, lk, hcd⟩ := F.ex
  exact ⟨f, kV, doc, pm, an, cdv, ct, hm, F.kp, gfn_body B lk hcd S len fun A outer s H vs Q E C g h => body f cdv A outer s H vs Q E hm C g h⟩
end

/-! ### calls of the text's defs -/
section
variable {X : Cx} {k : Nat} {W : WX} {σ : L2.St} {H : Hp} {x : Str} {st : Stmt} {ps : List Str} {sp : Sp} {e : Expr} {es : List Expr} {p pos : Pos} {Q : VK}
theorem ran {f : Addr} {fd : FuncData} {us : List Value} {kw : List (Str × Value)} {us' : List Value} {vs' : List V} {pins : List (Addr × Obj)} {s : Shared} (C : Cxt X k W) (F : FnOk X.prog X.w X.K X.mg X.base (L2.CX X.prog X.w) k f fd ps sp)
    (hb : BindsTo s fd ⟨us, kw⟩ (ps.zip us')) (I : Inv X pins σ H s) (r : Vals vs' us') (h : sp vs' H Q (fun cls d H' => W cls d σ H')) : wpAny (model X.prog X.w) X.A (call (.ref f) us kw) (EP X pins σ Q) X.xe s := by
  refine wpAny_call (codeAny_mono (F.run X.A X.stack s H ⟨us, kw⟩ us' vs' Q _ C.room I.env0 hb r h) fun r s' hq => ?_)
  cases r with
  | error e => exact C.tk e s' (XE.of_call I (fun _ _ _ z => z) hq)
  | ok fl =>
    cases fl with
    | ret u => exact I.after hq
    | next => exact False.elim hq
    | brk => exact False.elim hq
    | cont => exact False.elim hq
theorem e_call (C : Cxt X k W) (D : Def X.prog X.w X.K X.mg X.base k x st ps sp)
    (h : wA X (e :: es) σ H fun vs H1 => sp vs H1 Q (fun cls d H' => W cls d σ H')) (hg : Gl X x := by rfl)
    (hbind : ∀ (kV doc pm : Value) (an : Option Addr) (cdv ct : Value) (us : List Value), us.length = ps.length → bindArgs (PySem.W.fnOf x x (defArgs st) (defBody st) (defScope st) .none kV doc pm an cdv ct) ⟨us, []⟩ = pure (ps.zip us))
    (hdb : (x == ("__debug__" : Str)) = false := by decide) (he : starEach (e :: es) X.env = (false, eval e X.env) :: starEach es X.env := by rfl) (hpl : (backTo pos (starEach es X.env)).any (·.1) = false := by rfl) :
    wE X (.Call (.Name x p) (e :: es) [] pos) σ H Q := by
  obtain ⟨f, kV, doc, pm, an, cdv, ct, hm, hk, F⟩ := D.ex
  refine ⟨fun pins s I => ?_⟩
  refine wpAny_Call_Name_kw (ld_glob I hg hm ?_ hdb)
  refine PySem.W.callWith_K (h₀ := X.base) I.ok.mod.kin hk (thn (h.run pos pins s I) fun us s1 ⟨vs, H1, I1, r, q⟩ => ⟨I1.kIn, ?_⟩) he hpl
  exact ran C F (.of_eq (hbind kV doc pm an cdv ct us (r.length.symm.trans (F.len _ _ _ _ q)))) I1 r q
theorem e_call0 (C : Cxt X k W) (D : Def X.prog X.w X.K X.mg X.base k x st [] sp) (h : sp [] H Q (fun cls d H' => W cls d σ H')) (hg : Gl X x := by rfl)
    (hbind : ∀ (kV doc pm : Value) (an : Option Addr) (cdv ct : Value), bindArgs (PySem.W.fnOf x x (defArgs st) (defBody st) (defScope st) .none kV doc pm an cdv ct) ⟨[], []⟩ = pure [] := by intros; rfl)
    (hdb : (x == ("__debug__" : Str)) = false := by decide) : wE X (.Call (.Name x p) [] [] pos) σ H Q := by
  obtain ⟨f, kV, doc, pm, an, cdv, ct, hm, hk, F⟩ := D.ex
  refine ⟨fun pins s I => ?_⟩
  refine wpAny_Call_Name_kw (ld_glob I hg hm ?_ hdb)
  exact PySem.W.callWith_K0 I.kIn hk (ran (us := []) (us' := []) C F (.of_eq (hbind kV doc pm an cdv ct)) I .nil h)
/-- f(k = a, ..), nothing by its place -/
theorem e_callK0 {kws : List Keyword} {ks : List Str} {g : {α : Type} → List α → List α} (C : Cxt X k W) (D : Def X.prog X.w X.K X.mg X.base k x st ps sp)
    (h : wK X kws σ H fun zs H1 => sp (g zs) H1 Q (fun cls d H' => W cls d σ H')) (hrel : ∀ {vs : List V} {us : List Value}, Vals vs us → Vals (g vs) (g us)) (hg : Gl X x := by rfl)
    (hbind : ∀ (kV doc pm : Value) (an : Option Addr) (cdv ct : Value) (us : List Value), (g us).length = ps.length → bindArgs (PySem.W.fnOf x x (defArgs st) (defBody st) (defScope st) .none kV doc pm an cdv ct) ⟨[], ks.zip us⟩ = pure (ps.zip (g us)))
    (hall : (backToKw pos (keywordEach kws X.env)).all (·.1.isSome) = true := by rfl) (hks : (backToKw pos (keywordEach kws X.env)).filterMap (·.1) = ks := by rfl)
    (hdb : (x == ("__debug__" : Str)) = false := by decide)
    (hpl : ((backTo pos (starEach [] X.env)).any (·.1) || (backToKw pos (keywordEach kws X.env)).any (·.1.isNone)) = false := by rfl) : wE X (.Call (.Name x p) [] kws pos) σ H Q := by
  obtain ⟨f, kV, doc, pm, an, cdv, ct, hm, hk, F⟩ := D.ex
  refine ⟨fun pins s I => ?_⟩
  refine wpAny_Call_Name_kw (ld_glob I hg hm ?_ hdb)
  refine PySem.W.callWith_KW0 (h₀ := X.base) I.ok.mod.kin hk hall (thn (h.run pos pins s I) fun us s1 ⟨vs, H1, I1, r, q⟩ => ⟨I1.kIn, ?_⟩) hpl
  rw [hks]
  have r2 := hrel r
  exact ran (us := []) C F (.of_eq (hbind kV doc pm an cdv ct us (r2.length.symm.trans (F.len _ _ _ _ q)))) I1 r2 q
theorem ranG {f : Addr} {fd : FuncData} {us : List Value} {kw : List (Str × Value)} {us' : List Value} {vs' : List V} {pins : List (Addr × Obj)} {s : Shared} (C : Cxt X k W) (g : Gd X) (F : GFn X.prog X.w X.K X.mg X.base k f fd ps sp)
    (hb : BindsTo s fd ⟨us, kw⟩ (ps.zip us')) (I : Inv X pins σ H s) (r : Vals vs' us') (h : sp vs' H Q (fun cls d H' => W cls d σ H')) : wpAny (model X.prog X.w) X.A (call (.ref f) us kw) (EP X pins σ Q) X.xe s := by
  refine wpAny_call (codeAny_mono (F.run X.A X.stack s H ⟨us, kw⟩ us' vs' Q _ C.room g I.env0 hb r h) fun r s' hq => ?_)
  cases r with
  | error e => exact C.tk e s' (XE.of_call I (fun _ _ _ z => z) hq)
  | ok fl =>
    cases fl with
    | ret u => exact I.after hq
    | next => exact False.elim hq
    | brk => exact False.elim hq
    | cont => exact False.elim hq
theorem e_callG (C : Cxt X k W) (hgd : Gd X) (D : DefG X.prog X.w X.K X.mg X.base k x st ps sp)
    (h : wA X (e :: es) σ H fun vs H1 => sp vs H1 Q (fun cls d H' => W cls d σ H')) (hg : Gl X x := by rfl)
    (hbind : ∀ (kV doc pm : Value) (an : Option Addr) (cdv ct : Value) (us : List Value), us.length = ps.length → bindArgs (PySem.W.fnOf x x (defArgs st) (defBody st) (defScope st) .none kV doc pm an cdv ct) ⟨us, []⟩ = pure (ps.zip us))
    (hdb : (x == ("__debug__" : Str)) = false := by decide) (he : starEach (e :: es) X.env = (false, eval e X.env) :: starEach es X.env := by rfl) (hpl : (backTo pos (starEach es X.env)).any (·.1) = false := by rfl) :
    wE X (.Call (.Name x p) (e :: es) [] pos) σ H Q := by
  obtain ⟨f, kV, doc, pm, an, cdv, ct, hm, hk, F⟩ := D.ex
  refine ⟨fun pins s I => ?_⟩
  refine wpAny_Call_Name_kw (ld_glob I hg hm ?_ hdb)
  refine PySem.W.callWith_K (h₀ := X.base) I.ok.mod.kin hk (thn (h.run pos pins s I) fun us s1 ⟨vs, H1, I1, r, q⟩ => ⟨I1.kIn, ?_⟩) he hpl
  exact ranG C hgd F (.of_eq (hbind kV doc pm an cdv ct us (r.length.symm.trans (F.len _ _ _ _ q)))) I1 r q
theorem e_callG0 (C : Cxt X k W) (hgd : Gd X) (D : DefG X.prog X.w X.K X.mg X.base k x st [] sp) (h : sp [] H Q (fun cls d H' => W cls d σ H')) (hg : Gl X x := by rfl)
    (hbind : ∀ (kV doc pm : Value) (an : Option Addr) (cdv ct : Value), bindArgs (PySem.W.fnOf x x (defArgs st) (defBody st) (defScope st) .none kV doc pm an cdv ct) ⟨[], []⟩ = pure [] := by intros; rfl)
    (hdb : (x == ("__debug__" : Str)) = false := by decide) : wE X (.Call (.Name x p) [] [] pos) σ H Q := by
  obtain ⟨f, kV, doc, pm, an, cdv, ct, hm, hk, F⟩ := D.ex
  refine ⟨fun pins s I => ?_⟩
  refine wpAny_Call_Name_kw (ld_glob I hg hm ?_ hdb)
  exact PySem.W.callWith_K0 I.kIn hk (ranG (us := []) (us' := []) C hgd F (.of_eq (hbind kV doc pm an cdv ct)) I .nil h)
/-- f(k = a, ..), nothing by its place -/
theorem e_callGK0 {kws : List Keyword} {ks : List Str} {g : {α : Type} → List α → List α} (C : Cxt X k W) (hgd : Gd X) (D : DefG X.prog X.w X.K X.mg X.base k x st ps sp)
    (h : wK X kws σ H fun zs H1 => sp (g zs) H1 Q (fun cls d H' => W cls d σ H')) (hrel : ∀ {vs : List V} {us : List Value}, Vals vs us → Vals (g vs) (g us)) (hg : Gl X x := by rfl)
    (hbind : ∀ (kV doc pm : Value) (an : Option Addr) (cdv ct : Value) (us : List Value), (g us).length = ps.length → bindArgs (PySem.W.fnOf x x (defArgs st) (defBody st) (defScope st) .none kV doc pm an cdv ct) ⟨[], ks.zip us⟩ = pure (ps.zip (g us)))
    (hall : (backToKw pos (keywordEach kws X.env)).all (·.1.isSome) = true := by rfl) (hks : (backToKw pos (keywordEach kws X.env)).filterMap (·.1) = ks := by rfl)
    (hdb : (x == ("__debug__" : Str)) = false := by decide)
    (hpl : ((backTo pos (starEach [] X.env)).any (·.1) || (backToKw pos (keywordEach kws X.env)).any (·.1.isNone)) = false := by rfl) : wE X (.Call (.Name x p) [] kws pos) σ H Q := by
  obtain ⟨f, kV, doc, pm, an, cdv, ct, hm, hk, F⟩ := D.ex
  refine ⟨fun pins s I => ?_⟩
  refine wpAny_Call_Name_kw (ld_glob I hg hm ?_ hdb)
  refine PySem.W.callWith_KW0 (h₀ := X.base) I.ok.mod.kin hk hall (thn (h.run pos pins s I) fun us s1 ⟨vs, H1, I1, r, q⟩ => ⟨I1.kIn, ?_⟩) hpl
  rw [hks]
  have r2 := hrel r
  exact ranG (us := []) C hgd F (.of_eq (hbind kV doc pm an cdv ct us (r2.length.symm.trans (F.len _ _ _ _ q)))) I1 r2 q
end

/-! ### loops -/
section
variable {X : Cx} {k : Nat} {W : WX} {σ : L2.St} {H : Hp} {e a b c : Expr} {es : List Expr} {p pos : Pos}
theorem s_for {D : Ends} {tg iter : Expr} {body : List Stmt} (C : Cxt X k W)
    (h : wI X tg iter σ H fun J H1 => ∃ n G Y, Walk J n G Y ∧ ∃ Pv : Nat → L2.St → Hp → Prop, Pv 0 σ H1 ∧ (∀ i σ H, i ≤ n → Pv i σ H → G H) ∧
      (∀ i x σ H H', i < n → Pv i σ H → Y i H x H' → wG X tg x σ H' fun σ2 H2 => wB X body { D with nx := Pv (i + 1), ct := Pv (i + 1), bk := D.nx } σ2 H2) ∧ ∀ σ H, Pv n σ H → D.nx σ H)
    (hs : ∀ x, foldedSetIterable iter X.env x = pure x := by intro _; rfl) : wS X (.For tg iter body [] pos) D σ H := by
  refine eS (ps_for C.po C.calm pI pG pB hs) ⟨fun pins s I => ?_⟩
  refine wpAny_mono (h.run pins s I) (fun v s1 hv => ?_) fun _ _ z => z
  refine wpAny_mono hv (fun it s2 hi => ?_) fun _ _ z => z
  obtain ⟨itv, fp, tn, J, H', e1, I1, T, t0, f1, n, G, Y, w, Pv, h0, hG, hs, hd⟩ := hi
  exact ⟨itv, fp, tn, J, H', e1, I1, T, t0, f1, for_it w Pv h0 hG hs hd⟩
theorem wI_mono {tg iter : Expr} {R R' : It → Hp → Prop} (h : wI X tg iter σ H R) (k : ∀ J H', R J H' → R' J H') : wI X tg iter σ H R' := ⟨fun pins s I =>
  thn (h.run pins s I) fun v s1 hv => thn hv fun it s2 ⟨itv, fp, tn, J, H', e1, I1, T, t0, f1, r⟩ => ⟨itv, fp, tn, J, H', e1, I1, T, t0, f1, k J H' r⟩⟩
/-- the readings within a comprehension's block, whatever its context -/
def wEb (X : Cx) (scope : Scope) (e : Expr) : TE := fun σ H Q => ∀ (s : Shared) (H0 : Hp) (C : Addr) (cl : List (Str × Addr)) (fp : List Addr), wE (X.blk s H0 scope (compEnvC scope cl C X.env) fp) e σ H Q
def wGb (X : Cx) (scope : Scope) (e : Expr) : TG := fun v σ H Q => ∀ (s : Shared) (H0 : Hp) (C : Addr) (cl : List (Str × Addr)) (fp : List Addr), wG (X.blk s H0 scope (compEnvC scope cl C X.env) fp) e v σ H Q
def wIfb (X : Cx) (scope : Scope) (es : List Expr) : TT := fun σ H Q => ∀ (s : Shared) (H0 : Hp) (C : Addr) (cl : List (Str × Addr)) (fp : List Addr), wIf (X.blk s H0 scope (compEnvC scope cl C X.env) fp) es σ H Q
/-- one turn of a comprehension: x the item, D the list under way -/
def LcTurn (X : Cx) (scope : Scope) (vs : List Nat) (tg : Expr) (ifs : List Expr) (elt : Expr) (σ : L2.St) (D : Addr) (x : V) (H : Hp) (Nx : Hp → Prop) : Prop :=
  wGb X scope tg x (wipe σ vs) H fun σ2 H2 => wipe σ2 vs = wipe σ vs ∧ wIfb X scope ifs σ2 H2 fun b H3 =>
    if b = true then wEb X scope elt σ2 H3 fun y H4 => ∃ acc, H4 D = some (.lst acc) ∧ acc.length < sizeLine ∧ Nx (upd H4 D (.lst (acc ++ [y]))) else Nx H3
theorem e_lc {Q : VK} {elt tg iter : Expr} {ifs : List Expr} {scope : Scope} (own : List (Str × Nat)) (C : Cxt X k W)
    (h : wI X tg iter σ H fun J H1 => ∃ n G Y, Walk J n G Y ∧ ∀ D, H1 D = none → ∃ Pv : Nat → Hp → Prop, Pv 0 (upd H1 D (.lst [])) ∧ (∀ i H, i ≤ n → Pv i H → G H) ∧
      (∀ i x H H', i < n → Pv i H → Y i H x H' → LcTurn X scope (own.map (·.2)) tg ifs elt σ D x H' (Pv (i + 1))) ∧ ∀ H, Pv n H → Q (.ref D) H)
    (ok : BlkOk X.N X.env.scope scope own := by exact blkOk_by (by first | rfl | kernel_rfl)) (hs : ∀ x, foldedSetIterable iter X.env x = pure x := by intro _; rfl) :
    wE X (.ListComp elt [⟨tg, iter, ifs, 0⟩] scope pos) σ H Q := by
  refine eE (pe_lc (g := wGb X scope tg) (tt := wIfb X scope ifs) (te := wEb X scope elt) C.calm C.nd pI ok (fun s H C cl fp => ⟨fun pins s' σ' H' v u Q' I r hh => (hh s H C cl fp).run pins s' u I r⟩)
    (fun s H C cl fp => ⟨fun pins s' σ' H' Q' I hh => (hh s H C cl fp).run pins s' I⟩) (fun s H C cl fp => ⟨fun pins s' σ' H' Q' I hh => (hh s H C cl fp).run pins s' I⟩) hs) ?_
  refine wI_mono h fun J H1 hh => ?_
  obtain ⟨n, G, Y, w, hD⟩ := hh
  intro D hn
  obtain ⟨Pv, h0, hG, ht, hd⟩ := hD D hn
  exact lc_it w Pv h0 hG ht hd
theorem s_setLc {D : Ends} {i : Nat} {y : Str} {py spos : Pos} {elt tg iter : Expr} {ifs : List Expr} {scope : Scope} (own : List (Str × Nat)) (C : Cxt X k W)
    (h : wI X tg iter σ H fun J H1 => ∃ n G Y, Walk J n G Y ∧ ∀ L, H1 L = none → ∃ Pv : Nat → Hp → Prop, Pv 0 (upd H1 L (.lst [])) ∧ (∀ i H, i ≤ n → Pv i H → G H) ∧
      (∀ i x H H', i < n → Pv i H → Y i H x H' → LcTurn X scope (own.map (·.2)) tg ifs elt σ L x H' (Pv (i + 1))) ∧ ∀ H, Pv n H → D.nx (σ.set i (some (.ref L))) H)
    (hi : X.N[i]? = some y := by rfl) (hyl : X.env.scope.names.lookup y = some .local := by rfl)
    (hsw : swapsWith (.ListComp elt [⟨tg, iter, ifs, 0⟩] scope pos) (some (.Name y py)) spos.line X.env = pure true := by exact sw_true rfl rfl rfl (by first | rfl | kernel_rfl))
    (ok : BlkOk X.N X.env.scope scope own := by exact blkOk_by (by first | rfl | kernel_rfl)) (hs : ∀ x, foldedSetIterable iter X.env x = pure x := by intro _; rfl) :
    wS X (.Assign [.Name y py] (.ListComp elt [⟨tg, iter, ifs, 0⟩] scope pos) spos) D σ H := by
  refine eS (ps_setLc (g := wGb X scope tg) (tt := wIfb X scope ifs) (te := wEb X scope elt) C.calm C.nd hi hyl hsw pI ok (fun s H C cl fp => ⟨fun pins s' σ' H' v u Q' I r hh => (hh s H C cl fp).run pins s' u I r⟩)
    (fun s H C cl fp => ⟨fun pins s' σ' H' Q' I hh => (hh s H C cl fp).run pins s' I⟩) (fun s H C cl fp => ⟨fun pins s' σ' H' Q' I hh => (hh s H C cl fp).run pins s' I⟩) hs) ?_
  refine wI_mono h fun J H1 hh => ?_
  obtain ⟨n, G, Y, w, hD⟩ := hh
  intro L hn
  obtain ⟨Pv, h0, hG, ht, hd⟩ := hD L hn
  exact lc_it w Pv h0 hG ht hd
/-- a block without tests, its target a name -/
theorem lc_plain {scope : Scope} {vs : List Nat} {i : Nat} {y : Str} {elt : Expr} {D : Addr} {x : V} {Nx : Hp → Prop} (hN : X.N.Nodup)
    (h : wEb X scope elt ((wipe σ vs).set i (some x)) H fun y H4 => ∃ acc, H4 D = some (.lst acc) ∧ acc.length < sizeLine ∧ Nx (upd H4 D (.lst (acc ++ [y])))) (hw : wipe ((wipe σ vs).set i (some x)) vs = wipe σ vs := by rfl) (hi : X.N[i]? = some y := by rfl)
    (hx : Loc (relS scope X.env.scope) y := by first | exact Or.inl rfl | exact Or.inr rfl) (hf : (scope.names.lookup y == some .cell) = true ∨ (relS scope X.env.scope).names.lookup y = some .local := by first | exact .inl rfl | exact .inr rfl) :
    LcTurn X scope vs (.Name y p) [] elt σ D x H Nx := by
  intro s H0 C cl fp
  refine g_name (i := i) ?_ hN hi hx hf
  refine ⟨hw, fun s H0 C cl fp => eIf pts_nil ?_⟩
  exact h

/-! ### what is walked -/
theorem i_list {tg : Expr} {R : It → Hp → Prop} (h : wE X e σ H fun x H1 => ∃ a, x = .ref a ∧ (∃ xs, SqL X.K H1 a xs) ∧ R (Itl X.K a) H1) : wI X tg e σ H R := eI (pi_list pE) h
theorem i_tup {tg : Expr} {R : It → Hp → Prop} (h : wE X e σ H fun x H1 => ∃ a, x = .ref a ∧ (∃ xs, SqT X.K H1 a xs) ∧ R (Itt X.K a) H1) : wI X tg e σ H R := eI (pi_tup pE) h
theorem i_str {tg : Expr} {R : It → Hp → Prop} (h : wE X e σ H fun v H1 => ∃ x, v = .str x ∧ R (Its x) H1) : wI X tg e σ H R := eI (pi_str pE) h
theorem i_range1 {tg : Expr} {R : It → Hp → Prop} (B : Blt X.mg X.base) (h : wE X a σ H fun v H1 => ∃ j : Int, v = .int j ∧ -(2 ^ 62) ≤ j ∧ j < 2 ^ 62 ∧ R (Itr 0 j.toNat) H1) (hg : Gl X "range" := by rfl)
    (hs : starEach [a] X.env = [(false, eval a X.env)] := by rfl) : wI X tg (.Call (.Name "range" p) [a] [] pos) σ H R :=
  eI (pi_range1 hg B.range pA hs) (a_cons (wE_mono h fun v H1 ⟨j, e1, h1, h2, r⟩ => a_nil ⟨j, by rw [e1], h1, h2, r⟩) hs)
theorem i_range2 {tg : Expr} {R : It → Hp → Prop} (B : Blt X.mg X.base) (h : wE X a σ H fun v H1 => wE X b σ H1 fun u H2 => ∃ i j : Int, v = .int i ∧ u = .int j ∧ (-(2 ^ 62) ≤ i ∧ i < 2 ^ 62 ∧ -(2 ^ 62) ≤ j ∧ j < 2 ^ 62) ∧ R (Itr i (j - i).toNat) H2) (hg : Gl X "range" := by rfl)
    (hs : starEach [a, b] X.env = [(false, eval a X.env), (false, eval b X.env)] := by rfl) (hs2 : starEach [b] X.env = [(false, eval b X.env)] := by rfl) : wI X tg (.Call (.Name "range" p) [a, b] [] pos) σ H R :=
  eI (pi_range2 hg B.range pA hs hs2) (a_cons (wE_mono h fun v H1 q => a_cons (wE_mono q fun u H2 ⟨i, j, e1, e2, h1, r⟩ => a_nil ⟨i, j, by rw [e1, e2], h1, r⟩) hs2) (by rw [hs, hs2]))
theorem i_range3 {tg : Expr} {R : It → Hp → Prop} (B : Blt X.mg X.base) (h : wA X [a, b, c] σ H fun vs H1 => ∃ (i j c : Int) (n : Nat), vs = [.int i, .int j, .int c] ∧ RgC i j c n ∧ R (Itc i c n) H1) (hg : Gl X "range" := by rfl)
    (hs : starEach [a, b, c] X.env = (false, eval a X.env) :: starEach [b, c] X.env := by rfl) (hpl : (backTo pos (starEach [b, c] X.env)).any (·.1) = false := by rfl) : wI X tg (.Call (.Name "range" p) [a, b, c] [] pos) σ H R := eI (pi_range3 hg B.range pA hs hpl) h
theorem i_enum {R : It → Hp → Prop} {elts : List Expr} {kk : Nat} {tpos : Pos} (B : Blt X.mg X.base) (h : wE X e σ H fun v H1 => ∃ a xs, v = .ref a ∧ SqL X.K H1 a xs ∧ R (Ite X.K a) H1) (hg : Gl X "enumerate" := by rfl) (hs : starEach [e] X.env = [(false, eval e X.env)] := by rfl) :
    wI X (.Tuple elts kk tpos) (.Call (.Name "enumerate" p) [e] [] pos) σ H R :=
  eI (pi_enum hg B.enumerate pA hs) (a_cons (wE_mono h fun v H1 ⟨a, xs, e1, h1, r⟩ => a_nil ⟨a, xs, by rw [e1], h1, r⟩) hs)
end

/-! ### built-ins -/
structure cW (X : Cx) (f : Value) (xs : List V) (H : Hp) (Q : VK) : Prop where
  run : ∀ pins s σ us, Inv X pins σ H s → Vals xs us → wpAny (model X.prog X.w) X.A (call f us) (EP X pins σ Q) X.xe s
theorem cR {X : Cx} {f : Value} : CallR X f (cW X f) := fun pins s σ _ _ us _ I r h => h.run pins s σ us I r
theorem cW_of {X : Cx} {f : Value} {r : List V → Hp → VK → Prop} {xs : List V} {H : Hp} {Q : VK} (p : CallR X f r) (h : r xs H Q) : cW X f xs H Q := ⟨fun pins s σ us I rv => p pins s σ H xs us Q I rv h⟩
section
variable {X : Cx} {k : Nat} {W : WX} {σ : L2.St} {H : Hp} {x : Str} {e a b : Expr} {es : List Expr} {p pos : Pos} {Q : VK}
theorem e_B {id : String} (h : wA X (e :: es) σ H fun vs H1 => cW X (.builtin id) vs H1 Q) (hm : X.mg x = none) (hv : bootBuiltins x = some (.builtin id)) (hg : Gl X x := by rfl) (hn : x ≠ "__name__" := by decide) (hdb : (x == ("__debug__" : Str)) = false := by decide)
    (he : starEach (e :: es) X.env = (false, eval e X.env) :: starEach es X.env := by rfl) (hpl : (backTo pos (starEach es X.env)).any (·.1) = false := by rfl) : wE X (.Call (.Name x p) (e :: es) [] pos) σ H Q := eE (pe_callB cR hg hm hv pA hn hdb he hpl) h
theorem e_Ty {T : String} (h : wA X (e :: es) σ H fun vs H1 => cW X (.type T) vs H1 Q) (hm : X.mg x = none) (hv : bootBuiltins x = some (.type T)) (hg : Gl X x := by rfl) (hn : x ≠ "__name__" := by decide) (hdb : (x == ("__debug__" : Str)) = false := by decide)
    (he : starEach (e :: es) X.env = (false, eval e X.env) :: starEach es X.env := by rfl) (hpl : (backTo pos (starEach es X.env)).any (·.1) = false := by rfl) : wE X (.Call (.Name x p) (e :: es) [] pos) σ H Q := eE (pe_callTy cR hg hm hv pA hn hdb he hpl) h
theorem e_len (B : Blt X.mg X.base) (h : wE X a σ H fun x H1 => ∃ n, LenV X.K x H1 n ∧ Q (.int n) H1) (hg : Gl X "len" := by rfl) (hs : starEach [a] X.env = [(false, eval a X.env)] := by rfl) : wE X (.Call (.Name "len" p) [a] [] pos) σ H Q :=
  e_B (id := "len") (a_cons (wE_mono h fun x H1 ⟨n, l, q⟩ => a_nil (cW_of call_len ⟨x, n, rfl, l, q⟩)) hs) B.len PySem.boot_len hg (by decide) (by decide) hs rfl
theorem e_abs (B : Blt X.mg X.base) (h : wE X a σ H fun x H1 => ∃ i, x = .int i ∧ Q (.int (if i < 0 then -i else i)) H1) (hg : Gl X "abs" := by rfl) (hs : starEach [a] X.env = [(false, eval a X.env)] := by rfl) : wE X (.Call (.Name "abs" p) [a] [] pos) σ H Q :=
  e_B (id := "abs") (a_cons (wE_mono h fun x H1 ⟨n, l, q⟩ => a_nil (cW_of call_abs ⟨n, by rw [l], q⟩)) hs) B.abs PyProof.Rows.boot_abs hg (by decide) (by decide) hs rfl
theorem e_int1 (B : Blt X.mg X.base) (h : wE X a σ H fun x H1 => ∃ i, x = .int i ∧ Q (.int i) H1) (hg : Gl X "int" := by rfl) (hs : starEach [a] X.env = [(false, eval a X.env)] := by rfl) : wE X (.Call (.Name "int" p) [a] [] pos) σ H Q :=
  e_Ty (T := "int") (a_cons (wE_mono h fun x H1 ⟨n, l, q⟩ => a_nil (cW_of call_int1 (.inl ⟨n, by rw [l], q⟩))) hs) B.int PyProof.Rows.boot_int hg (by decide) (by decide) hs rfl
theorem e_max2 (C : Cxt X k W) (h : wE X a σ H fun x H1 => wE X b σ H1 fun y H2 => ∃ i j, x = .int i ∧ y = .int j ∧ Q (.int (if j > i then j else i)) H2) (hg : Gl X "max" := by rfl) (hs : starEach [a, b] X.env = (false, eval a X.env) :: starEach [b] X.env := by rfl)
    (hs2 : starEach [b] X.env = [(false, eval b X.env)] := by rfl) : wE X (.Call (.Name "max" p) [a, b] [] pos) σ H Q :=
  e_B (id := "max") (a_cons (wE_mono h fun x H1 q => a_cons (wE_mono q fun y H2 ⟨i, j, e1, e2, q⟩ => a_nil (cW_of (call_max2 C.calm) ⟨i, j, by rw [e1, e2], q⟩)) hs2) hs) C.blt.max PyProof.Rows.boot_max hg (by decide) (by decide) hs (by rw [hs2]; rfl)
theorem e_min2 (C : Cxt X k W) (h : wE X a σ H fun x H1 => wE X b σ H1 fun y H2 => ∃ i j, x = .int i ∧ y = .int j ∧ Q (.int (if j < i then j else i)) H2) (hg : Gl X "min" := by rfl) (hs : starEach [a, b] X.env = (false, eval a X.env) :: starEach [b] X.env := by rfl)
    (hs2 : starEach [b] X.env = [(false, eval b X.env)] := by rfl) : wE X (.Call (.Name "min" p) [a, b] [] pos) σ H Q :=
  e_B (id := "min") (a_cons (wE_mono h fun x H1 q => a_cons (wE_mono q fun y H2 ⟨i, j, e1, e2, q⟩ => a_nil (cW_of (call_min2 C.calm) ⟨i, j, by rw [e1, e2], q⟩)) hs2) hs) C.blt.min PyProof.Rows.boot_min hg (by decide) (by decide) hs (by rw [hs2]; rfl)
theorem e_divmod (B : Blt X.mg X.base) (h : wE X a σ H fun x H1 => wE X b σ H1 fun y H2 => ∃ i j, x = .int i ∧ y = .int j ∧ CDiv i j ∧ ∀ p, H2 p = none → Q (.ref p) (upd H2 p (.tup [.int (i / j), .int (i % j)]))) (hg : Gl X "divmod" := by rfl)
    (hs : starEach [a, b] X.env = (false, eval a X.env) :: starEach [b] X.env := by rfl) (hs2 : starEach [b] X.env = [(false, eval b X.env)] := by rfl) : wE X (.Call (.Name "divmod" p) [a, b] [] pos) σ H Q :=
  e_B (id := "divmod") (a_cons (wE_mono h fun x H1 q => a_cons (wE_mono q fun y H2 ⟨i, j, e1, e2, q⟩ => a_nil (cW_of call_divmod ⟨i, j, by rw [e1, e2], q⟩)) hs2) hs) B.divmod PyProof.Rows.boot_divmod hg (by decide) (by decide) hs (by rw [hs2]; rfl)
theorem e_all (C : Cxt X k W) (h : wE X a σ H fun x H1 => ∃ (q : Addr) (bs : List Bool), x = .ref q ∧ SqL X.K H1 q (bs.map V.bl) ∧ Q (.bl (bs.all id)) H1) (hg : Gl X "all" := by rfl) (hs : starEach [a] X.env = [(false, eval a X.env)] := by rfl) : wE X (.Call (.Name "all" p) [a] [] pos) σ H Q :=
  e_B (id := "all") (a_cons (wE_mono h fun x H1 ⟨n, bs, e1, l, q⟩ => a_nil (cW_of (cr_all C.calm) ⟨n, bs, by rw [e1], l, q⟩)) hs) C.blt.all PyProof.Rows.boot_all hg (by decide) (by decide) hs rfl
theorem e_any (C : Cxt X k W) (h : wE X a σ H fun x H1 => ∃ (q : Addr) (bs : List Bool), x = .ref q ∧ SqL X.K H1 q (bs.map V.bl) ∧ Q (.bl (bs.any id)) H1) (hg : Gl X "any" := by rfl) (hs : starEach [a] X.env = [(false, eval a X.env)] := by rfl) : wE X (.Call (.Name "any" p) [a] [] pos) σ H Q :=
  e_B (id := "any") (a_cons (wE_mono h fun x H1 ⟨n, bs, e1, l, q⟩ => a_nil (cW_of (cr_any C.calm) ⟨n, bs, by rw [e1], l, q⟩)) hs) C.blt.any PyProof.Rows.boot_any hg (by decide) (by decide) hs rfl

/-! ### subscripts, slices, methods -/
/-- v[i], by values -/
structure iW (X : Cx) (x y : V) (H : Hp) (Q : VK) : Prop where
  run : ∀ (value slice : Expr) pins s σ v u, Inv X pins σ H s → RelV x v → RelV y u → subscripted slice false v u = operate [v, u] (getItem v u) → wpAny (model X.prog X.w) X.A (subscriptTail value slice v u) (EP X pins σ Q) X.xe s
theorem e_ix (h : wE X a σ H fun x H1 => wE X b σ H1 fun y H2 => iW X x y H2 Q) (hs : PlainIx b := by exact fun _ _ => rfl) : wE X (.Subscript a b pos) σ H Q :=
  eE (pe_ix (r := iW X) (fun value slice pins s σ _ _ _ v u _ I rx ry h he => h.run value slice pins s σ v u I rx ry he) pE pE hs) h
theorem iW_of {r : R2} {x y : V} (p : IxR X r) (h : r x y H Q) : iW X x y H Q := ⟨fun value slice pins s σ v u I rx ry he => p value slice pins s σ H x y v u Q I rx ry h he⟩
theorem ix_l {q : Addr} {xs : List V} {i : Int} {v : V} (hq : SqL X.K H q xs) (ha : atI xs i = some v) (h : Q v H) : iW X (.ref q) (.int i) H Q := iW_of ix_list ⟨q, xs, i, v, rfl, rfl, hq, ha, h⟩
theorem ix_t {q : Addr} {xs : List V} {i : Int} {v : V} (hq : SqT X.K H q xs) (ha : atI xs i = some v) (h : Q v H) : iW X (.ref q) (.int i) H Q := iW_of ix_tup ⟨q, xs, i, v, rfl, rfl, hq, ha, h⟩
theorem ix_s {z : Str} {i : Int} {c : Nat} (hz : z.length ≤ sizeLine) (ha : atI z.cps.toList i = some c) (h : Q (.str ⟨#[c]⟩) H) : iW X (.str z) (.int i) H Q := iW_of ix_str ⟨z, i, c, rfl, rfl, hz, ha, h⟩
theorem set_l {q : Addr} {xs : List V} {i : Int} {j : Nat} {v : V} {R : Hp → Prop} (hq : H q = some (.lst xs)) (hj : ixN xs.length i = some j) (h : R (upd H q (.lst (xs.set j v)))) : sW X (.ref q) (.int i) v H R := sW_of set_list ⟨q, xs, i, j, rfl, rfl, hq, hj, h⟩
end
end Z

set_option Elab.async false
set_option linter.all false
set_option maxRecDepth 100000
set_option maxHeartbeats 4000000
/-! Data: what a value holds as a whole; none of its lists and dicts among l (those that may change) -/
namespace Z
open PySem PySem.Spec PyProof.Rows L2

/-- all but what stands at l is as it was -/
def But (l : List Addr) (H H' : Hp) : Prop := ∀ q o, q ∉ l → H q = some o → H' q = some o
theorem But.refl {l : List Addr} {H : Hp} : But l H H := fun _ _ _ h => h
theorem But.trans {l : List Addr} {H H1 H2 : Hp} (a : But l H H1) (b : But l H1 H2) : But l H H2 := fun q o n h => b q o n (a q o n h)
theorem But.new {l : List Addr} {H : Hp} {p : Addr} {o : HO} (h : H p = none) : But l H (upd H p o) := fun q u _ e => by rw [upd_ne (ne_of_none e h)]; exact e
theorem But.at {l : List Addr} {H : Hp} {p : Addr} {o : HO} (h : p ∈ l) : But l H (upd H p o) := fun q u n e => by
  have : q ≠ p := fun z => n (z ▸ h)
  rw [upd_ne this]; exact e
theorem But.mono {l m : List Addr} {H H' : Hp} (a : But l H H') (h : ∀ q ∈ l, q ∈ m) : But m H H' := fun q o n e => a q o (fun z => n (h q z)) e
theorem But.of {H H' : Hp} {l : List Addr} (a : But [] H H') : But l H H' := a.mono fun _ h => nomatch h
theorem But.free {H H' : Hp} (a : But [] H H') {p : Addr} (h : H' p = none) : H p = none := by
  cases e : H p with
  | none => rfl
  | some o => rw [a p o (by simp) e] at h; cases h
theorem But.freeL {l : List Addr} {H H' : Hp} (a : But l H H') {p : Addr} (n : p ∉ l) (h : H' p = none) : H p = none := by
  cases e : H p with
  | none => rfl
  | some o => rw [a p o n e] at h; cases h
theorem But.sql {K : PySem.W.Frag} {l : List Addr} {H H' : Hp} {a : Addr} {xs : List V} (b : But l H H') (n : a ∉ l) (h : SqL K H a xs) : SqL K H' a xs := by
  rcases h with (h | ⟨o, h⟩) | h
  · exact .inl (.inl (b _ _ n h))
  · exact .inl (.inr ⟨o, b _ _ n h⟩)
  · exact .inr h
theorem But.sqt {K : PySem.W.Frag} {l : List Addr} {H H' : Hp} {a : Addr} {xs : List V} (b : But l H H') (n : a ∉ l) (h : SqT K H a xs) : SqT K H' a xs := by
  rcases h with (h | ⟨o, h⟩) | h
  · exact .inl (.inl (b _ _ n h))
  · exact .inl (.inr ⟨o, b _ _ n h⟩)
  · exact .inr h

def keyD : Key → PyData
  | .inl i => .int i
  | .inr x => .str x
mutual
inductive DD (K : PySem.W.Frag) (l : List Addr) (H : Hp) : V → PyData → Prop
  | non : DD K l H .non .none
  | bl (b : Bool) : DD K l H (.bl b) (.bool b)
  | int (i : Int) : DD K l H (.int i) (.int i)
  | str (x : Str) : DD K l H (.str x) (.str x)
  | lst {a : Addr} {xs : List V} {ds : List PyData} : SqL K H a xs → a ∉ l → DDs K l H xs ds → DD K l H (.ref a) (.list ds)
  | tup {a : Addr} {xs : List V} {ds : List PyData} : SqT K H a xs → a ∉ l → DDs K l H xs ds → DD K l H (.ref a) (.tuple ds)
  | dct {a : Addr} {kvs : List (Key × V)} {ds : List PyData} : H a = some (.dK kvs) → a ∉ l → DDs K l H (kvs.map (·.2)) ds → DD K l H (.ref a) (.dict ((kvs.map fun q => keyD q.1).zip ds))
inductive DDs (K : PySem.W.Frag) (l : List Addr) (H : Hp) : List V → List PyData → Prop
  | nil : DDs K l H [] []
  | cons {v : V} {vs : List V} {d : PyData} {ds : List PyData} : DD K l H v d → DDs K l H vs ds → DDs K l H (v :: vs) (d :: ds)
end
section
variable {K : PySem.W.Frag} {l m : List Addr} {H H' : Hp}
mutual
theorem DD.but (b : But l H H') : ∀ {v : V} {d : PyData}, DD K l H v d → DD K l H' v d
  | _, _, .non => .non
  | _, _, .bl x => .bl x
  | _, _, .int x => .int x
  | _, _, .str x => .str x
  | _, _, .lst h n r => .lst (b.sql n h) n (DDs.but b r)
  | _, _, .tup h n r => .tup (b.sqt n h) n (DDs.but b r)
  | _, _, .dct h n r => .dct (b _ _ n h) n (DDs.but b r)
theorem DDs.but (b : But l H H') : ∀ {vs : List V} {ds : List PyData}, DDs K l H vs ds → DDs K l H' vs ds
  | _, _, .nil => .nil
  | _, _, .cons h r => .cons (DD.but b h) (DDs.but b r)
end
mutual
theorem DD.less (b : ∀ q ∈ m, q ∈ l) : ∀ {v : V} {d : PyData}, DD K l H v d → DD K m H v d
  | _, _, .non => .non
  | _, _, .bl x => .bl x
  | _, _, .int x => .int x
  | _, _, .str x => .str x
  | _, _, .lst h n r => .lst h (fun z => n (b _ z)) (DDs.less b r)
  | _, _, .tup h n r => .tup h (fun z => n (b _ z)) (DDs.less b r)
  | _, _, .dct h n r => .dct h (fun z => n (b _ z)) (DDs.less b r)
theorem DDs.less (b : ∀ q ∈ m, q ∈ l) : ∀ {vs : List V} {ds : List PyData}, DDs K l H vs ds → DDs K m H vs ds
  | _, _, .nil => .nil
  | _, _, .cons h r => .cons (DD.less b h) (DDs.less b r)
end
theorem DDs.length : ∀ {vs : List V} {ds : List PyData}, DDs K l H vs ds → vs.length = ds.length
  | _, _, .nil => rfl
  | _, _, .cons _ r => congrArg Nat.succ (DDs.length r)
theorem DDs.get : ∀ {vs : List V} {ds : List PyData} {i : Nat} {v : V}, DDs K l H vs ds → vs[i]? = some v → ∃ d, ds[i]? = some d ∧ DD K l H v d
  | _, _, _, _, .nil, h => by simp at h
  | _, _, 0, _, .cons h _, e => by simp at e; subst e; exact ⟨_, rfl, h⟩
  | _, _, i + 1, _, .cons _ r, e => by
    obtain ⟨d, h1, h2⟩ := DDs.get (i := i) r (by simpa using e)
    exact ⟨d, by simpa using h1, h2⟩
theorem DDs.strs : ∀ ys : List Str, DDs K l H (ys.map V.str) (ys.map PyData.str)
  | [] => .nil
  | y :: ys => .cons (.str y) (DDs.strs ys)
theorem DDs.append : ∀ {vs ws : List V} {ds es : List PyData}, DDs K l H vs ds → DDs K l H ws es → DDs K l H (vs ++ ws) (ds ++ es)
  | _, _, _, _, .nil, s => s
  | _, _, _, _, .cons h r, s => .cons h (DDs.append r s)
mutual
theorem DD.dp : ∀ {v : V} {d : PyData}, DD K l H v d → d.hasDict = false → Dp K H v d
  | _, _, .non, _ => .non
  | _, _, .bl x, _ => .bl x
  | _, _, .int x, _ => .int x
  | _, _, .str x, _ => .str x
  | _, _, .lst h n r, e => .lst h (DDs.dp r (by simpa [PyData.hasDict] using e))
  | _, _, .tup h n r, e => .tup h (DDs.dp r (by simpa [PyData.hasDict] using e))
  | _, _, .dct h n r, e => by simp [PyData.hasDict] at e
theorem DDs.dp : ∀ {vs : List V} {ds : List PyData}, DDs K l H vs ds → PyData.hasDictAll ds = false → DpAll K H vs ds
  | _, _, .nil, _ => .nil
  | _, _, .cons h r, e => by
    simp only [PyData.hasDictAll, Bool.or_eq_false_iff] at e
    exact .cons (DD.dp h e.1) (DDs.dp r e.2)
end
end

/-! ### what is read of it -/
theorem keyD_reads {h : Heap} {k : Key} {v : Value} (e : keyIs k v = true) : Reads h v (keyD k) [] := by
  rcases keyIs_shape e with ⟨i, t, rfl, rfl⟩ | ⟨x, t, rfl, rfl⟩
  · exact .int i t
  · exact .str x t
section
variable {X : Cx} {pins : List (Addr × Obj)} {σ : L2.St} {l : List Addr} {H : Hp} {s : Shared}
/-- at sysModules there is no list and no tracked dict -/
abbrev SysFree (X : Cx) : Prop := ∃ o es ep, X.base.get? sysModules = some o ∧ o.data = .dict es ep
theorem sys_noL (Y : SysFree X) (I : Inv X pins σ H s) {a : Addr} {xs : List V} (h : SqL X.K H a xs) : a ≠ sysModules := fun z => by
  subst z
  obtain ⟨o, es, ep, h1, h2⟩ := Y
  obtain ⟨its, rv, ⟨o', n, ho, hc, _, hd⟩, _⟩ := I.list h
  rw [(I.bs _ _ h1).1] at ho
  cases ho
  rw [h2] at hd
  cases hd
theorem sys_noD (Y : SysFree X) (I : Inv X pins σ H s) {a : Addr} {u : HO} (h : H a = some u) : a ≠ sysModules := fun z => by
  subst z
  obtain ⟨o, es, ep, h1, h2⟩ := Y
  rw [(I.bs _ _ h1).2] at h
  cases h
theorem readsAll_keys {P : Program} {w : World} (h : Heap) : ∀ {kvs : List (Key × V)} {vs : List (Key × Value)} {es : List DictEntry}, KV kvs vs → Pairs (mixKind P w) es vs → ReadsAll h (es.map (·.key)) (kvs.map fun q => keyD q.1) []
  | _, _, _, .nil, .nil => .nil
  | _, _, _, .cons r1 r, .cons e1 e2 e => by
    have q := readsAll_keys h r e
    have k1 := keyD_reads (h := h) (show keyIs _ _ = true from e1)
    rw [← r1.1] at k1
    exact ReadsAll.cons k1 q
theorem pairs_vals {P : Program} {w : World} : ∀ {es : List DictEntry} {vs : List (Key × Value)}, Pairs (mixKind P w) es vs → es.map (·.val) = vs.map (·.2)
  | _, _, .nil => rfl
  | _, _, .cons _ e2 e => by rw [List.map_cons, List.map_cons, e2, pairs_vals e]
theorem vals_of {kvs : List (Key × V)} {vs : List (Key × Value)} (r : KV kvs vs) : Vals (kvs.map (·.2)) (vs.map (·.2)) := by
  induction r with
  | nil => exact .nil
  | cons h _ ih => exact .cons h.2 ih
mutual
theorem DD.reads (Y : SysFree X) (I : Inv X pins σ H s) : ∀ {v : V} {d : PyData} {u : Value}, DD X.K l H v d → RelV v u → ∃ as, Reads s.heap u d as ∧ sysModules ∉ as
  | _, _, _, .non, r => by cases r; exact ⟨_, Reads.none, by simp⟩
  | _, _, _, .bl b, r => by cases r; exact ⟨_, Reads.bool b, by simp⟩
  | _, _, _, .int i, r => by obtain ⟨t, rfl⟩ := r; exact ⟨_, Reads.int i t, by simp⟩
  | _, _, _, .str x, r => by obtain ⟨t, rfl⟩ := r; exact ⟨_, Reads.str x t, by simp⟩
  | _, _, _, .lst h n ha, r => by
    cases r
    have ne := sys_noL Y I h
    obtain ⟨its, rv, ⟨o, n, ho, hc, _, hd⟩, _⟩ := I.list h
    obtain ⟨as, hr, na⟩ := DDs.reads Y I ha rv
    exact ⟨_, Reads.list ho hc hd hr, by simp [na, Ne.symm ne]⟩
  | _, _, _, .tup h n ha, r => by
    cases r
    obtain ⟨its, rv, ⟨o, ho, hc, n, hd⟩, _⟩ := I.tuple h
    obtain ⟨as, hr, na⟩ := DDs.reads Y I ha rv
    exact ⟨_, Reads.tuple ho hc hd hr, na⟩
  | _, _, _, .dct (a := a) (kvs := kvs) (ds := ds) h n ha, r => by
    cases r
    have ne := sys_noD Y I h
    obtain ⟨_, _, vs, rk, o, es, ep, ho, hx, hd, _, hp, _⟩ := I.hok a _ h
    have hv := pairs_vals hp
    obtain ⟨as, hr, na⟩ := DDs.reads Y I ha (vals_of rk)
    have hl := DDs.length ha
    refine ⟨_, Reads.dict (as := []) (bs := as) ho hx.1 hd ?_ ?_, by simp [na, Ne.symm ne]⟩
    · rw [List.map_fst_zip (by simpa using Nat.le_of_eq hl)]
      exact readsAll_keys _ rk hp
    · rw [List.map_snd_zip (by simpa using Nat.le_of_eq hl.symm), hv]
      exact hr
theorem DDs.reads (Y : SysFree X) (I : Inv X pins σ H s) : ∀ {vs : List V} {ds : List PyData} {us : List Value}, DDs X.K l H vs ds → Vals vs us → ∃ as, ReadsAll s.heap us ds as ∧ sysModules ∉ as
  | _, _, _, .nil, .nil => ⟨_, ReadsAll.nil, by simp⟩
  | _, _, _, .cons h r, .cons r1 r2 => by
    obtain ⟨as, q1, n1⟩ := DD.reads Y I h r1
    obtain ⟨bs, q2, n2⟩ := DDs.reads Y I r r2
    exact ⟨_, ReadsAll.cons q1 q2, by simp [n1, n2]⟩
end
/-! ### repr -/
theorem call_reprD (Y : SysFree X) (hg : X.A.guards = some []) (hu : X.A.units + 66 < cLine) : CallR X (.builtin "repr") (fun xs H Q => ∃ v l d, xs = [v] ∧ DD X.K l H v d ∧ d.showable = true ∧ d.depth ≤ 64 ∧ d.shown.length ≤ sizeLine ∧ Q (.str d.shown) H) := by
  intro pins s σ H xs us Q I r h
  obtain ⟨v, l, d, rfl, hd, hs, hdp, hz, q⟩ := h
  obtain ⟨u, rfl, r1⟩ := vals1 r
  have fin : ∀ {h' : Heap} {t tk}, (∀ b o, s.heap.get? b = some o → h'.get? b = some o) → EP X pins σ Q (.str d.shown t) { s with heap := h', toks := tk } := fun k => ⟨.str d.shown, H, I.kept k, ⟨_, rfl⟩, q⟩
  cases hd with
  | non =>
    cases r1
    rw [PyData.shown_none] at fin
    exact PySem.P.repr_of_none (fin fun _ _ e => e)
  | bl b =>
    cases r1
    rw [PyData.shown_bool] at fin
    refine PySem.P.repr_of_bool ?_
    have := fin (t := s.toks) (tk := s.toks + 1) (h' := s.heap) fun _ _ e => e
    cases b <;> exact this
  | int i =>
    obtain ⟨t, rfl⟩ := r1
    rw [PyData.shown_int] at fin
    exact PySem.P.repr_of_int (by simpa [PyData.showable] using hs) (fin fun _ _ e => e)
  | str x =>
    obtain ⟨t, rfl⟩ := r1
    rw [PyData.shown_str] at fin hz
    exact PySem.P.repr_of_str (fin fun _ _ e => e) hz
  | @lst a xs ds h1 h2 h3 =>
    obtain rfl : u = Value.ref a := r1
    obtain ⟨as, hr, na⟩ := DD.reads Y I (.lst h1 h2 h3) (u := .ref a) rfl
    exact repr_of_reads' hr hs (fun _ => na) hg (by omega) (fun _ _ e => e) (fun h' u tk k => fin k) hz
  | @tup a xs ds h1 h2 h3 =>
    obtain rfl : u = Value.ref a := r1
    obtain ⟨as, hr, na⟩ := DD.reads Y I (.tup h1 h2 h3) (u := .ref a) rfl
    exact repr_of_reads' hr hs (fun _ => na) hg (by omega) (fun _ _ e => e) (fun h' u tk k => fin k) hz
  | @dct a kvs ds h1 h2 h3 =>
    obtain rfl : u = Value.ref a := r1
    obtain ⟨as, hr, na⟩ := DD.reads Y I (.dct h1 h2 h3) (u := .ref a) rfl
    exact repr_of_reads' hr hs (fun _ => na) hg (by omega) (fun _ _ e => e) (fun h' u tk k => fin k) hz
end
end Z

set_option Elab.async false
set_option linter.all false
set_option maxRecDepth 100000
set_option maxHeartbeats 4000000
namespace Z
open PySem PySem.Spec PyProof.Rows L2

/-! ### repr, isinstance, == of data -/
section
variable {X : Cx} {k : Nat} {W : WX} {σ : L2.St} {H : Hp} {x : Str} {e a b : Expr} {es : List Expr} {p pos : Pos} {Q : VK}
theorem e_repr (B : Blt X.mg X.base) (hg : X.A.guards = some []) (hu : X.A.units + 66 < cLine)
    (h : wE X a σ H fun v H1 => ∃ l d, DD X.K l H1 v d ∧ d.showable = true ∧ d.depth ≤ 64 ∧ d.shown.length ≤ sizeLine ∧ Q (.str d.shown) H1) (hgl : Gl X "repr" := by rfl) (hs : starEach [a] X.env = [(false, eval a X.env)] := by rfl) :
    wE X (.Call (.Name "repr" p) [a] [] pos) σ H Q :=
  e_B (id := "repr") (a_cons (wE_mono h fun v H1 ⟨l, d, h1, h2, h3, h4, q⟩ => a_nil (cW_of (call_reprD B.sys hg hu) ⟨v, l, d, rfl, h1, h2, h3, h4, q⟩)) hs) B.repr PyProof.Rows.boot_repr hgl (by decide) (by decide) hs rfl
theorem Cxt.un (C : Cxt X k W) : X.A.units + 66 < cLine := by have := C.room.un; omega
/-- the name of a data's type -/
def tyD : PyData → String
  | .none => "NoneType" | .bool _ => "bool" | .int _ => "int" | .str _ => "str" | .list _ => "list" | .tuple _ => "tuple" | .dict _ => "dict"
theorem DD.tyx {K : PySem.W.Frag} {l : List Addr} {v : V} {d : PyData} (h : DD K l H v d) : TyX K H v (.type (tyD d)) := by
  cases h with
  | non => exact .base .non
  | bl b => exact .base (.bl b)
  | int i => exact .base (.int i)
  | str x => exact .base (.str x)
  | lst h1 h2 h3 =>
    rcases h1 with (h1 | ⟨o, h1⟩) | ⟨o, its, n, h1, h4, _⟩
    · exact .base (.lst h1)
    · exact .base (.frz h1)
    · exact .kList h1 h4
  | tup h1 h2 h3 =>
    rcases h1 with (h1 | ⟨o, h1⟩) | ⟨o, its, n, h1, h4, _⟩
    · exact .base (.tup h1)
    · exact .fTuple h1
    · exact .kTuple h1 h4
  | dct h1 h2 h3 => exact .base (.dK h1)
def isInt : PyData → Bool | .int _ => true | .bool _ => true | _ => false
def isBool : PyData → Bool | .bool _ => true | _ => false
def isStr : PyData → Bool | .str _ => true | _ => false
def isList : PyData → Bool | .list _ => true | _ => false
def isTuple : PyData → Bool | .tuple _ => true | _ => false
def isDict : PyData → Bool | .dict _ => true | _ => false
theorem kit_int : ∀ d : PyData, kitB (tyD d) "int" = some (isInt d)
  | .none => (by decide +kernel : kitB "NoneType" "int" = some false)
  | .bool _ => (by decide +kernel : kitB "bool" "int" = some true)
  | .int _ => (by decide +kernel : kitB "int" "int" = some true)
  | .str _ => (by decide +kernel : kitB "str" "int" = some false)
  | .list _ => (by decide +kernel : kitB "list" "int" = some false)
  | .tuple _ => (by decide +kernel : kitB "tuple" "int" = some false)
  | .dict _ => (by decide +kernel : kitB "dict" "int" = some false)
theorem kit_bool : ∀ d : PyData, kitB (tyD d) "bool" = some (isBool d)
  | .none => (by decide +kernel : kitB "NoneType" "bool" = some false)
  | .bool _ => (by decide +kernel : kitB "bool" "bool" = some true)
  | .int _ => (by decide +kernel : kitB "int" "bool" = some false)
  | .str _ => (by decide +kernel : kitB "str" "bool" = some false)
  | .list _ => (by decide +kernel : kitB "list" "bool" = some false)
  | .tuple _ => (by decide +kernel : kitB "tuple" "bool" = some false)
  | .dict _ => (by decide +kernel : kitB "dict" "bool" = some false)
theorem kit_str : ∀ d : PyData, kitB (tyD d) "str" = some (isStr d)
  | .none => (by decide +kernel : kitB "NoneType" "str" = some false)
  | .bool _ => (by decide +kernel : kitB "bool" "str" = some false)
  | .int _ => (by decide +kernel : kitB "int" "str" = some false)
  | .str _ => (by decide +kernel : kitB "str" "str" = some true)
  | .list _ => (by decide +kernel : kitB "list" "str" = some false)
  | .tuple _ => (by decide +kernel : kitB "tuple" "str" = some false)
  | .dict _ => (by decide +kernel : kitB "dict" "str" = some false)
theorem kit_list : ∀ d : PyData, kitB (tyD d) "list" = some (isList d)
  | .none => (by decide +kernel : kitB "NoneType" "list" = some false)
  | .bool _ => (by decide +kernel : kitB "bool" "list" = some false)
  | .int _ => (by decide +kernel : kitB "int" "list" = some false)
  | .str _ => (by decide +kernel : kitB "str" "list" = some false)
  | .list _ => (by decide +kernel : kitB "list" "list" = some true)
  | .tuple _ => (by decide +kernel : kitB "tuple" "list" = some false)
  | .dict _ => (by decide +kernel : kitB "dict" "list" = some false)
theorem kit_tuple : ∀ d : PyData, kitB (tyD d) "tuple" = some (isTuple d)
  | .none => (by decide +kernel : kitB "NoneType" "tuple" = some false)
  | .bool _ => (by decide +kernel : kitB "bool" "tuple" = some false)
  | .int _ => (by decide +kernel : kitB "int" "tuple" = some false)
  | .str _ => (by decide +kernel : kitB "str" "tuple" = some false)
  | .list _ => (by decide +kernel : kitB "list" "tuple" = some false)
  | .tuple _ => (by decide +kernel : kitB "tuple" "tuple" = some true)
  | .dict _ => (by decide +kernel : kitB "dict" "tuple" = some false)
theorem kit_dict : ∀ d : PyData, kitB (tyD d) "dict" = some (isDict d)
  | .none => (by decide +kernel : kitB "NoneType" "dict" = some false)
  | .bool _ => (by decide +kernel : kitB "bool" "dict" = some false)
  | .int _ => (by decide +kernel : kitB "int" "dict" = some false)
  | .str _ => (by decide +kernel : kitB "str" "dict" = some false)
  | .list _ => (by decide +kernel : kitB "list" "dict" = some false)
  | .tuple _ => (by decide +kernel : kitB "tuple" "dict" = some false)
  | .dict _ => (by decide +kernel : kitB "dict" "dict" = some true)
/-- isinstance(a, T), T a built-in type -/
theorem e_isi {T : Str} {n : String} {r : PyData → Bool} (B : Blt X.mg X.base) (hk : ∀ d, kitB (tyD d) n = some (r d)) (hT : X.mg T = none) (hv : bootBuiltins T = some (.type n))
    (h : wE X a σ H fun v H1 => ∃ l d, DD X.K l H1 v d ∧ Q (.bl (r d)) H1) {pT : Pos} (hgT : Gl X T := by rfl) (hnT : T ≠ "__name__" := by decide) (hdT : (T == ("__debug__" : Str)) = false := by decide) (hgl : Gl X "isinstance" := by rfl)
    (hs : starEach [a, .Name T pT] X.env = (false, eval a X.env) :: starEach [.Name T pT] X.env := by rfl) (hs2 : starEach [.Name T pT] X.env = [(false, eval (.Name T pT) X.env)] := by rfl) :
    wE X (.Call (.Name "isinstance" p) [a, .Name T pT] [] pos) σ H Q :=
  e_B (id := "isinstance") (a_cons (wE_mono h fun v H1 ⟨l, d, h1, q⟩ => a_cons (e_blt (v := .ty n) (a_nil (cW_of call_isi ⟨v, .ty n, _, _, r d, rfl, .ty n, h1.tyx, kit_ty (hk d), q⟩)) hT hv rfl hgT hnT hdT) hs2) hs)
    B.isinstance PyProof.Rows.boot_isinstance hgl (by decide) (by decide) hs (by rw [hs2]; rfl)
/-- isinstance(a, (T, U)), two built-in types -/
theorem e_isi2 {T U : Str} {n m : String} {r : PyData → Bool} {r' : PyData → Bool} (B : Blt X.mg X.base) (hk : ∀ d, kitB (tyD d) n = some (r d)) (hk' : ∀ d, kitB (tyD d) m = some (r' d)) (hT : X.mg T = none) (hv : bootBuiltins T = some (.type n)) (hU : X.mg U = none) (hv' : bootBuiltins U = some (.type m))
    {pT pU pt : Pos} {kt} (h : wE X a σ H fun v H1 => ∃ l d, DD X.K l H1 v d ∧ ∀ H2, But [] H1 H2 → Q (.bl (r d || r' d)) H2) (hgT : Gl X T := by rfl) (hnT : T ≠ "__name__" := by decide) (hdT : (T == ("__debug__" : Str)) = false := by decide) (hgU : Gl X U := by rfl) (hnU : U ≠ "__name__" := by decide) (hdU : (U == ("__debug__" : Str)) = false := by decide) (hgl : Gl X "isinstance" := by rfl)
    (hs : starEach [a, .Tuple [.Name T pT, .Name U pU] kt pt] X.env = (false, eval a X.env) :: starEach [.Tuple [.Name T pT, .Name U pU] kt pt] X.env := by rfl) (hs2 : starEach [.Tuple [.Name T pT, .Name U pU] kt pt] X.env = [(false, eval (.Tuple [.Name T pT, .Name U pU] kt pt) X.env)] := by rfl)
    (hs3 : starEach [.Name T pT, .Name U pU] X.env = (false, eval (.Name T pT) X.env) :: starEach [.Name U pU] X.env := by rfl) (hs4 : starEach [.Name U pU] X.env = [(false, eval (.Name U pU) X.env)] := by rfl) :
    wE X (.Call (.Name "isinstance" p) [a, .Tuple [.Name T pT, .Name U pU] kt pt] [] pos) σ H Q := by
  refine e_B (id := "isinstance") (a_cons (wE_mono h fun v H1 ⟨l, d, h1, q⟩ => a_cons (e_tup (a_cons (e_blt (v := .ty n) (a_cons (e_blt (v := .ty m) (a_nil ⟨by show 2 ≤ sizeLine; decide, fun t ht => ?_⟩) hU hv' rfl hgU hnU hdU) hs4) hT hv rfl hgT hnT hdT) hs3)) hs2) hs)
    B.isinstance PyProof.Rows.boot_isinstance hgl (by decide) (by decide) hs (by rw [hs2]; rfl)
  refine a_nil (cW_of call_isiT ⟨v, t, [.ty n, .ty m], _, [.type n, .type m], r d || r' d, rfl, upd_same, .cons (.ty n) (.cons (.ty m) .nil), (h1.but (But.new ht)).tyx, ?_, q _ (But.new ht)⟩)
  refine kitAny_cons (kit_ty (hk d)) (fun e1 => ?_) fun e1 => by rw [e1]; rfl
  rw [e1, Bool.false_or]
  exact kitAny_cons (kit_ty (hk' d)) (fun e2 => by rw [e2]; rfl) fun e2 => e2
/-- a == b, a != b: data without dicts, as the library tells it -/
theorem c_eqD {y z : V} {l m : List Addr} {d f : PyData} (C : Cxt X k W) (h1 : DD X.K l H y d) (h2 : DD X.K m H z f) (n1 : SeqAt.shaped d = true) (n2 : SeqAt.shaped f = true) (q : Q (.bl (PyData.eqv d f)) H) : oW X (compareOp .Eq) y z H Q :=
  oW_of (op_eqD C.room.units) ⟨d, f, h1.dp (PyData.hasDict_of_canLay d (SeqAt.canLay_of_shaped n1)), h2.dp (PyData.hasDict_of_canLay f (SeqAt.canLay_of_shaped n2)), n1, n2, q⟩
theorem c_neD {y z : V} {l m : List Addr} {d f : PyData} (C : Cxt X k W) (h1 : DD X.K l H y d) (h2 : DD X.K m H z f) (n1 : SeqAt.shaped d = true) (n2 : SeqAt.shaped f = true) (q : Q (.bl (!PyData.eqv d f)) H) : oW X (compareOp .NotEq) y z H Q :=
  oW_of (op_neD C.room.units) ⟨d, f, h1.dp (PyData.hasDict_of_canLay d (SeqAt.canLay_of_shaped n1)), h2.dp (PyData.hasDict_of_canLay f (SeqAt.canLay_of_shaped n2)), n1, n2, q⟩
end

/-! ### own errors over LineError: one field -/
/-- what the head tells of an error class: it stands at C under the name x -/
structure Err1 (K : PySem.W.Frag) (mg : Str → Option Value) (x f : Str) (C : Addr) (st : Stmt) : Prop where
  gC : mg x = some (.ref C)
  oex : OexC K C
  init : ∃ fI oc od kV doc pm an cdv ct osl, PySem.W.findIn K (.ref C) "__init__" = some (some (.ref fI)) ∧ PySem.W.typeIn K (.ref fI) = some (.type "function") ∧
    K.lookup fI = some ⟨oc, od, .func (PySem.W.fnOf "__init__" (x ++ ".__init__") (defArgs st) (defBody st) (defScope st) .none kV doc pm an cdv ct), osl⟩ ∧ PySem.W.codeIn K cdv (x ++ ".__init__") = true
  no : PySem.W.findIn K (.ref C) f = some none
  xf : XfC K C
  kc : PySem.W.typeIn K (.ref C) = some (.type "type")
/-- the base class LineError, whose __init__ is ValueError's -/
structure Base0 (K : PySem.W.Frag) (mg : Str → Option Value) (b : Str) : Prop where
  ex : ∃ CB, mg b = some (.ref CB) ∧ PySem.W.readsIn K CB (.type "type") = true ∧ PySem.W.specialIn K (.ref CB) "__getattribute__" = some (some (.builtin "type.__getattribute__")) ∧
    PySem.W.findCls K (.ref CB) (.type "type") "__init__" = some (.val (.builtin "ValueError.__init__"))
section
variable {X : Cx} {σ : L2.St} {H : Hp} {Q : VK} {e : Expr} {es : List Expr} {p1 p2 pos : Pos} {b : Str}
theorem e_baseInit {pl : Sem Bool} (B : Base0 X.K X.mg b) (h : wA X (e :: es) σ H fun vs H1 => ∃ (a C : Addr) (ws : List V), vs = .ref a :: ws ∧ ws.length ≤ 1000 ∧ OexC X.K C ∧ H1 a = some (exo a C none) ∧ Q .non H1) (hg : Gl X b) (hdb : (b == ("__debug__" : Str)) = false)
    (hc : eval (.Call (.Attribute (.Name b p1) "__init__" p2) (e :: es) [] pos) X.env = (do
      let ov ← eval (.Name b p1) X.env
      standAt p2.atName
      let (f, first) ← holding [ov] (getMethod ov "__init__" pl)
      callWith pos f first (backTo pos (starEach (e :: es) X.env)) (backToKw pos (keywordEach [] X.env))))
    (he : starEach (e :: es) X.env = (false, eval e X.env) :: starEach es X.env := by rfl) (hpl : (backTo pos (starEach es X.env)).any (·.1) = false := by rfl) :
    wE X (.Call (.Attribute (.Name b p1) "__init__" p2) (e :: es) [] pos) σ H Q := by
  obtain ⟨CB, hm, rd, ga, fc⟩ := B.ex
  refine ⟨fun pins s I => ?_⟩
  refine PySem.W.methodCall_KW (ld_glob I hg hm ?_ hdb) hc
  refine PySem.W.method_cls I.kIn ga (PySem.W.cls_value I.kIn rd fc rfl ?_)
  show wpAny _ _ (callWith pos (Value.builtin "ValueError.__init__") [] (backTo pos (starEach (e :: es) X.env)) []) _ _ _
  refine PyProof.Rows.callWith_method1 (thn (h.run pos pins _ (I.tok _)) fun us s1 ⟨vs, H1, I1, r1, a, C, ws, ev, hl, T, ea, q⟩ => ?_) he hpl
  subst ev
  cases r1 with
  | @cons _ u0 _ ur ra rw' =>
    obtain rfl : u0 = Value.ref a := ra
    have hlen : ur.length ≤ sizeLine := by
      rw [← Paired.length rw', sizeLine_eq]
      omega
    exact oinit_ok T I1 ea hlen fun s' J => ⟨.non, H1, J, rfl, q⟩
end
/-- what an error's __init__ promises -/
def spInit1 (K : PySem.W.Frag) (f : Str) : Sp := fun vs H Q _ => ∃ (a C : Addr) (v : V), vs = [.ref a, v] ∧ OexC K C ∧ PySem.W.findIn K (.ref C) f = some none ∧ H a = some (exo a C none) ∧
  ∀ dx, H dx = none → dx ≠ a → Q .non (upd (upd H dx (exd dx [(f, v)])) a (exo a C (some dx)))
section
variable {P : Program} {w : World} {K : PySem.W.Frag} {mg : Str → Option Value} {base : Heap}
theorem init1_ok {x b f txt : Str} {st : Stmt} {fI : Addr} {oc kV doc pm cdv ct : Value} {od an : Option Addr} {osl : Array (Option Value)} {p1 p2 p3 p4 p5 p6 p7 p8 p9 p10 : Pos} {j : Nat} (B : Base0 K mg b)
    (lk : K.lookup fI = some ⟨oc, od, .func (PySem.W.fnOf "__init__" x (defArgs st) (defBody st) (defScope st) .none kV doc pm an cdv ct), osl⟩) (hcd : PySem.W.codeIn K cdv x = true)
    (S : FnScope ["self", f] ["self", f] (defScope st))
    (hb : defBody st = [.Expr (.Call (.Attribute (.Name b p1) "__init__" p2) [.Name "self" p3, .Constant (.str txt) j p4] [] p5) p6, .Assign [.Attribute (.Name "self" p7) f p8] (.Name f p9) p10])
    (hs : (defScope st).names.lookup ("self" : Str) = some .local) (hf : (defScope st).names.lookup f = some .local) (hg : (defScope st).names.lookup b = some .globalImplicit) (hdb : (b == ("__debug__" : Str)) = false) (hdf : (f == ("__debug__" : Str)) = false) (hdf2 : (f == ("__classdict__" : Str)) = false)
    (hc : ∀ env : Env, env.scope = defScope st → ∃ pl, eval (.Call (.Attribute (.Name b p1) "__init__" p2) [.Name "self" p3, .Constant (.str txt) j p4] [] p5) env = (do
      let ov ← eval (.Name b p1) env
      standAt p2.atName
      let (f, first) ← holding [ov] (getMethod ov "__init__" pl)
      callWith p5 f first (backTo p5 (starEach [.Name "self" p3, .Constant (.str txt) j p4] env)) (backToKw p5 (keywordEach [] env))))
    (hsw : ∀ env : Env, env.scope = defScope st → swapsWith (.Name f p9) (some (.Attribute (.Name "self" p7) f p8)) p10.line env = pure false)
    (hsw2 : ∀ env : Env, env.scope = defScope st → swapsWith (.Call (.Attribute (.Name b p1) "__init__" p2) [.Name "self" p3, .Constant (.str txt) j p4] [] p5) none p6.line env = pure false) :
    FnOk P w K mg base (L2.CX P w) 1 fI (PySem.W.fnOf "__init__" x (defArgs st) (defBody st) (defScope st) .none kV doc pm an cdv ct) ["self", f] (spInit1 K f) := by
  refine fn_of lk hcd S (fun vs H Q E h => ?_) fun A outer s H vs Q E hr h => ⟨wB _ (defBody st), pB, ?_⟩
  · obtain ⟨a, C, v, rfl, _⟩ := h
    rfl
  · obtain ⟨a, C, v, rfl, T, hno, ha, q⟩ := h
    rw [hb]
    obtain ⟨pl, hcc⟩ := hc (envOfC x (defScope st) s.heap.objs.size fI cdv) rfl
    refine b_cons (s_expr (e_baseInit (pl := pl) B ?_ hg hdb hcc) (hsw2 _ rfl))
    refine a_cons (e_name 0 (a_cons (e_str (a_nil ⟨a, C, _, rfl, by simp, T, ha, ?_⟩))) rfl rfl (.inl hs))
    refine b_cons (eS (ps_ost (pE (e := .Name "self" p7)) pE (hsw _ rfl)) ?_)
    refine e_name 1 ?_ rfl rfl (.inl hf) hdf hdf2
    refine e_name 0 ?_ rfl rfl (.inl hs)
    exact ⟨a, C, rfl, T, hno, .inl ⟨ha, fun dx n ne => b_nil (q dx n ne)⟩⟩
end
end Z

set_option Elab.async false
set_option linter.all false
set_option maxRecDepth 100000
set_option maxHeartbeats 4000000
/-! raise and try with own errors of one field -/
namespace Z
open PySem PySem.Spec PyProof.Rows L2

/-- an error class of one field, its __init__ proved -/
structure ErrOk (P : Program) (w : World) (K : PySem.W.Frag) (mg : Str → Option Value) (base : Heap) (x f : Str) (C : Addr) : Prop where
  gC : mg x = some (.ref C)
  oex : OexC K C
  no : PySem.W.findIn K (.ref C) f = some none
  xf : XfC K C
  ex : ∃ fI fd, PySem.W.findIn K (.ref C) "__init__" = some (some (.ref fI)) ∧ PySem.W.typeIn K (.ref fI) = some (.type "function") ∧ FnOk P w K mg base (L2.CX P w) 1 fI fd ["self", f] (spInit1 K f) ∧ Binds K fd ["self", f] []
section
variable {X : Cx} {k : Nat} {W : WX} {σ : L2.St} {H : Hp} {x f : Str} {e : Expr} {C : Addr} {p1 p2 pos : Pos} {D : Ends}
/-- raise X(v) -/
theorem s_raise1 (Cc : Cxt X k W) (E : ErrOk X.prog X.w X.K X.mg X.base x f C) (hr : 2 ≤ k)
    (h : wE X e σ H fun v H1 => ∀ d H', But [] H1 H' → H1 d = none → H' d = some (.xd [(f, v)]) → W (.ref C) (some d) σ H')
    (hg : Gl X x := by rfl) (hdb : (x == ("__debug__" : Str)) = false := by decide) (he : starEach [e] X.env = [(false, eval e X.env)] := by rfl) : wS X (.Raise (some (.Call (.Name x p1) [e] [] p2)) none pos) D σ H := by
  obtain ⟨fI, fd, iC, tI, F, hb⟩ := E.ex
  have hx : Passes (L2.CX X.prog X.w) X (fun _ _ _ => False) := fun pins σ H s e s' I c => passes_call Cc.tk (fun cls d σ' H' z => z.elim) pins σ H s e s' I c
  refine eS (ps_raise Cc.calm Cc.tk (pmk_oex E.oex iC tI F (Cc.room.mono hr) hb .nil hx hg E.gC pA hdb he rfl)) ?_
  refine a_cons (wE_mono h fun v H1 q => a_nil ⟨by simp, fun a ha => ?_⟩) he
  refine ⟨a, C, v, rfl, E.oex, E.no, upd_same, fun dx hd ne => ⟨rfl, dx, [(f, v)], upd_same, by rw [upd_ne ne, upd_same], ?_, ?_⟩⟩
  · rw [upd_ne ne] at hd
    exact hd
  · have hd' : H1 dx = none := by rw [upd_ne ne] at hd; exact hd
    refine q dx _ (fun b o _ hbo => ?_) hd' upd_same
    have nb : b ≠ a := ne_of_none hbo ha
    have nb2 : b ≠ dx := ne_of_none hbo hd'
    rw [upd_ne nb2, del_ne nb, upd_ne nb, upd_ne nb2, upd_ne nb]
    exact hbo
end

/-! ### several clauses, each with its name -/
abbrev Cl := Value × Nat × List Stmt
def wHd (X : Cx) (Wout : WX) (D : Ends) : List Cl → WX
  | [] => Wout
  | (c, i, sts) :: r => fun cls d σ H => ∃ b, PySem.W.exmOne X.K cls c = some b ∧
      (b = true → ∀ (a : Addr) (oe : Obj) (pn : List (Addr × Obj)), Zc cls d oe → (∃ vs, oe.data = .fields vs) → H a = none →
        wB (X.suite a ((a, oe) :: pn)) sts { nx := fun σ' H' => D.nx (σ'.set i none) H', rt := D.rt, bk := fun σ' H' => D.bk (σ'.set i none) H', ct := fun σ' H' => D.ct (σ'.set i none) H' } (σ.set i (some (.ref a))) H) ∧
      (b = false → wHd X Wout D r cls d σ H)
inductive HdsAs (X : Cx) : List ExceptHandler → List Cl → Prop
  | nil : HdsAs X [] []
  | cons {x n : Str} {c : Value} {i : Nat} {b₀ : Stmt} {suite : List Stmt} {np pos' : Pos} {hds : List ExceptHandler} {l : List Cl} (hc : Names X x c) (hi : X.N[i]? = some n) (hln : X.env.kindOf n = some .local) (r : HdsAs X hds l) :
      HdsAs X (.ExceptHandler (some (.Name x np)) (some n) (b₀ :: suite) pos' :: hds) ((c, i, b₀ :: suite) :: l)
section
variable {X : Cx} {k : Nat} {W : WX} {σ : L2.St} {H : Hp} {body : List Stmt} {h₀ : ExceptHandler} {hds : List ExceptHandler} {l : List Cl} {pos : Pos} {D : Ends}
theorem s_try (C : Cxt X k W) (hh : HdsAs X (h₀ :: hds) l) (h : ∀ pn xe, Cxt (X.tr pn xe) k (wHd X W D l) → wB (X.tr pn xe) body D σ H) (hs : X.stack = X.env :: X.outer := by rfl) (hf : X.env.frame = some X.env.locals := by rfl) : wS X (.Try body (h₀ :: hds) [] [] pos) D σ H := by
  refine ⟨fun pins s I => ?_⟩
  have ok := I.ok
  have hfr : X.A.frames = some (X.env :: X.outer) := by rw [ok.frames, hs]
  refine wpAny_Try_except ?_
  refine wpAny_mono ((h (X.pn ++ pins) (fun e s₁ => wpAny (model X.prog X.w) X.A (noteFrame e X.env) (fun _ s₂ => wpAny (model X.prog X.w) X.A (setFlight e none) (fun _ s₃ =>
    wpAny (model X.prog X.w) X.A (handleBy e X.env (h₀ :: hds)) (SP X pins D) X.xe s₃) X.xe s₂) X.xe s₁) ⟨C.room, C.calm, C.nd, C.blt, PassesOwn.looking, fun u s' xx => ?_⟩).run [] s (I.toTry _)) (fun f s1 hsp => ?_) (fun e s1 he => he)
  · obtain ⟨a, B, sI, pins', σ', H', cls, d, rfl, J', nb, up, sky, na, os, ag, w⟩ := xx
    have J : Inv X pins σ' H' sI := J'.ofTry ok
    have sky' : Sky B (X.env :: X.outer) a (Zc cls d) X.env.locals s'.heap := by rw [← hs]; exact sky
    show wpAny (model X.prog X.w) X.A (noteFrame (.ref a) X.env) _ _ _
    refine Sky.land Zc.steady hfr hf sky' fun h3 fl3 up3 => ?_
    have J3 : Inv X pins σ' H' { s' with heap := h3 } := J.landed nb fl3.1 (up.trans up3) os ag
    obtain ⟨oe3, vs3, he3, hz3, hd3⟩ := fl3.there
    have notFr : ∀ {h : Heap} {o : Obj} {vs : Array Value}, h.FunFrames B (X.env :: X.outer) → h.get? a = some o → o.data = .fields vs → a ∉ frs (X.env :: X.outer) := fun {h o vs} ff e dd hm => by
      obtain ⟨_, o', e', hnf⟩ := ff.mem hm
      rw [e] at e'; cases e'
      exact hnf _ dd
    have nfr := notFr fl3.2.2.1 he3 hd3
    have nL : a ≠ X.env.locals := fun z => nfr (List.mem_filterMap.mpr ⟨X.env, List.mem_cons_self, by rw [hf, z]⟩)
    have nF : a ∉ X.fs := fun hm => by
      obtain ⟨e, he, q⟩ := List.mem_filterMap.mp hm
      exact nfr (List.mem_filterMap.mpr ⟨e, List.mem_cons_of_mem _ he, q⟩)
    have S3 := J3.suite he3 hd3 na nL nF
    have go : ∀ {hds' : List ExceptHandler} {l' : List Cl}, HdsAs X hds' l' → wHd X W D l' cls d σ' H' →
        wpAny (model X.prog X.w) X.A (handleBy (.ref a) X.env hds') (SP X pins D) X.xe { s' with heap := h3 } := by
      intro hds' l' hk
      induction hk with
      | nil =>
        intro w
        refine wpAny_handleBy_nil ?_
        obtain ⟨k1, k2, k3, oe, vs, T, oT, ts', he, hz, hd, h1, hr⟩ := id fl3
        unfold PySem.passOn
        refine wpAny_bind (wpAny_field he hd h1 ?_)
        rw [if_neg (show ¬ ((Value.ref T == Value.none) = true) from by simp)]
        have fin : wpAny (model X.prog X.w) X.A (setFlight (.ref a) X.env.frame) (fun _ s4 => wpAny (model X.prog X.w) X.A (throw (.ref a) : Sem Flow) (SP X pins D) X.xe s4) X.xe { s' with heap := h3 } := by
          rw [hf]
          refine HandSPX.setFlight_upZ fl3 fun h4 hh4 up4 => wpAny_throw (C.tk _ _ ?_)
          exact ⟨a, B, sI, pins, σ', H', cls, d, rfl, J, nb, (up.trans up3).trans up4, .inr (.inr (by rw [hs]; exact hh4)), na, os, ag, w⟩
        first
          | exact wpAny_bind (wpAny_pure (wpAny_bind fin))
          | exact wpAny_bind fin
      | @cons x n c i b₀ suite np pos' hds2 l2 hc hi hln r ih =>
        intro w
        obtain ⟨b, hb1, hyes, hno⟩ := w
        refine wpAny_handleBy_cons (codeAny_handlers_test ?_) (by intro q; cases q)
        have LT : PySem.W.Looks (model X.prog X.w) h3 (typeOf (.ref a)) cls := fun A Q E s k q => wpAny_typeOf_ref (k _ _ he3) (by rw [hz3.1]; exact q)
        have LM := PySem.W.exm_one (M := model X.prog X.w) (J3.kIn) LT hb1
        have test : ∀ {Q : Value → Shared → Prop} {E : Value → Shared → Prop}, Q c { s' with heap := h3 } → wpAny (model X.prog X.w) (X.A.mark (some (.ref a))) (eval (.Name x np) X.env) Q E { s' with heap := h3 } := fun {Q E} q => by
          obtain ⟨hg, hdbg, hm | ⟨hm, hv, hnn⟩⟩ := hc
          · exact ld_glob (X := X.suite a ((a, oe3) :: (X.pn ++ pins))) S3 hg hm q hdbg
          · exact ld_blt (X := X.suite a ((a, oe3) :: (X.pn ++ pins))) S3 hg hm hv q hnn hdbg
        refine test (LM.here ?_)
        cases b with
        | true =>
          refine codeAny_handlers_suite_as ?_
          refine HandSPX.lands_againZ fl3 fun h4 fl4 up4 => ?_
          have J4 : Inv X pins σ' H' { s' with heap := h4 } := J.landed nb fl4.1 ((up.trans up3).trans up4) os ag
          obtain ⟨oe4, vs4, he4, hz4, hd4⟩ := fl4.there
          have S4 := J4.suite he4 hd4 na nL nF
          have hloc : Loc X.env.scope n := .inl hln
          refine store_ok (X := X.suite a ((a, oe4) :: (X.pn ++ pins))) (v := .ref a) S4 C.nd hi hloc rfl (fun s5 S5 => ?_) (.inr hln)
          refine wpAny_mono ((hyes rfl a oe4 (X.pn ++ pins) hz4 ⟨_, hd4⟩ na).run [] s5 S5) (fun f s6 hsp => ?_) (fun _ _ z => False.elim z)
          have end_ : ∀ {σ6 : L2.St} {H6 : Hp} {Q : Shared → Prop}, Inv (X.suite a ((a, oe4) :: (X.pn ++ pins))) [] σ6 H6 s6 → (∀ s7, Inv X pins (σ6.set i none) H6 s7 → Q s7) →
              wpAny (model X.prog X.w) X.A (do bindName X.env n .none; unbindBehindTheSuite X.env n pos') (fun _ s7 => Q s7) X.xe s6 := fun {σ6 H6 Q} S6 hq => gone_ok (S6.unsuite ok) C.nd hi hln hq
          cases f with
          | next =>
            obtain ⟨σ6, H6, S6, q6⟩ := hsp
            exact end_ S6 fun s7 J7 => ⟨_, _, J7, q6⟩
          | brk =>
            obtain ⟨σ6, H6, S6, q6⟩ := hsp
            exact end_ S6 fun s7 J7 => ⟨_, _, J7, q6⟩
          | cont =>
            obtain ⟨σ6, H6, S6, q6⟩ := hsp
            exact end_ S6 fun s7 J7 => ⟨_, _, J7, q6⟩
          | ret u =>
            obtain ⟨v6, σ6, H6, S6, r6, q6⟩ := hsp
            exact end_ S6 fun s7 J7 => ⟨_, _, _, J7, r6, q6⟩
        | false =>
          show wpAny _ X.A (handleBy (.ref a) X.env hds2) _ _ _
          exact ih (hno rfl)
    exact go hh w
  · cases f with
    | next =>
      obtain ⟨σ', H', J', q⟩ := hsp
      exact wpAny_execs_nil ⟨σ', H', J'.ofTry ok, q⟩
    | brk =>
      obtain ⟨σ', H', J', q⟩ := hsp
      exact ⟨σ', H', J'.ofTry ok, q⟩
    | cont =>
      obtain ⟨σ', H', J', q⟩ := hsp
      exact ⟨σ', H', J'.ofTry ok, q⟩
    | ret u =>
      obtain ⟨v, σ', H', J', r, q⟩ := hsp
      exact ⟨v, σ', H', J'.ofTry ok, r, q⟩
end

/-! ### within a suite -/
section
variable {X : Cx} {σ : L2.St} {H : Hp} {a CE dd : Addr} {oe : Obj} {pn : List (Addr × Obj)} {e : Expr} {pos p : Pos} {f : Str} {Q : VK}
/-- e.f -/
theorem e_xf {v : V} (T : XfC X.K CE) (hno : PySem.W.findIn X.K (.ref CE) f = some none) (hz : Zc (.ref CE) (some dd) oe) (hf : ∃ vs, oe.data = .fields vs)
    (h : wE (X.suite a ((a, oe) :: pn)) e σ H fun x H1 => x = .ref a ∧ H1 dd = some (.xd [(f, v)]) ∧ Q v H1) (hb : attributeBase e f X.env (eval e X.env) = eval e X.env := by rfl) :
    wE (X.suite a ((a, oe) :: pn)) (.Attribute e f pos) σ H Q := by
  refine ⟨fun pins s I => ?_⟩
  refine attr_of hb (thn (h.run pins s I) fun u s1 hh => ?_)
  obtain ⟨x, H1, I1, rx, ex, ea, q⟩ := hh
  subst ex
  obtain rfl : u = Value.ref a := rx
  obtain ⟨ha, _⟩ := I1.pin (a, oe) (List.mem_append_left _ List.mem_cons_self)
  obtain ⟨vs, hd⟩ := hf
  obtain ⟨mA, hns, hr⟩ := (show ObjOk X.prog X.w H1 s1.heap dd (.xd [(f, v)]) from I1.hok dd _ ea)
  obtain ⟨od, ho, hl⟩ := lookIn_ns hns
  obtain ⟨u, hu, ru⟩ := RelO.some_of (v := v) (o := mA f) (by have := hr f; simpa using this)
  have J : PySem.W.InstAt s1.heap a oe CE (some od) := ⟨ha, hz.1, by unfold PySem.W.notCls; rw [hd] <;> rfl, by rw [hz.2]; exact ho⟩
  exact HandSPX.exc_get I1.kIn J T.ga T.gg T.exC (PySem.W.findObj_own T.hdC hno rfl (by rw [hl, hu])) (handed_of ru) ⟨v, H1, I1.tok _, ru, q⟩
/-- isinstance(e, c) of the caught error, whose fields are kept in dd -/
theorem c_isX {c : V} {cv : Value} {b : Bool} {fs : List (Str × V)} (T : ExcC X.K CE) (hz : Zc (.ref CE) (some dd) oe) (hf : ∃ vs, oe.data = .fields vs) (hcv : ∀ u, RelV c u → u = cv) (e1 : PySem.W.kitOne X.K (.ref CE) cv = some b) (hx : H dd = some (.xd fs)) (q : Q (.bl b) H) :
    cW (X.suite a ((a, oe) :: pn)) (.builtin "isinstance") [.ref a, c] H Q := by
  refine ⟨fun pins s σ us I r => ?_⟩
  cases r with
  | cons rx rr =>
    cases rr with
    | cons rt rr =>
      cases rr
      cases rx
      have ec := hcv _ rt
      subst ec
      obtain ⟨hget, _⟩ := I.pin (a, oe) (List.mem_append.mpr (.inl List.mem_cons_self))
      obtain ⟨vs, hv⟩ := hf
      obtain ⟨mA, hns, hr⟩ := (show ObjOk X.prog X.w H s.heap dd (.xd fs) from I.hok dd _ hx)
      obtain ⟨od, ho, hl⟩ := lookIn_ns hns
      have J : PySem.W.InstAt s.heap a oe CE (some od) := ⟨hget, hz.1, by unfold PySem.W.notCls; rw [hv] <;> rfl, by rw [hz.2]; exact ho⟩
      exact PySem.W.kia_one (PySem.W.kitx_exc (by obtain ⟨cd, hc, _⟩ := PySem.W.any_some T.hd; rw [hc]; rfl) T.hg T.hk T.hs T.ha T.hn T.ht T.hm) I.kIn J e1 (fun z => nomatch z) fun tk => ⟨.bl b, H, I.kept (t' := tk) fun _ _ z => z, rfl, q⟩
end
end Z

set_option Elab.async false
set_option linter.all false
set_option maxRecDepth 100000
set_option maxHeartbeats 4000000
/-! a lambda without parameters handed to a def that calls it -/
namespace Z
open PySem PySem.Spec PyProof.Rows L2 LamX
section
variable {X : Cx} {pins : List (Addr × Obj)} {σ : L2.St} {H : Hp} {s : Shared} {k : Nat} {W : WX}
theorem Cxt.lam {A : Around} {outer : List Env} {E : XK} {scope : Scope} {f c' : Addr} (C : Cxt X k W) {j : Nat} (hr : Room j (A.deeper (lamEnv X scope s.heap.objs.size f c'))) :
    Cxt (lamCx X A outer s H E scope f c') j (fun cls d _ H' => E cls d H') :=
  ⟨hr, rfl, C.nd, C.blt, passes_of rfl, takes_of rfl rfl rfl rfl⟩
/-- the context of the def that got the lambda -/
abbrev hX (X : Cx) (N : List Str) (x : Str) (st : Stmt) (g : Addr) (cdg : Value) (s : Shared) (H : Hp) (E : XK) : Cx := bX X.prog X.w X.K X.mg X.base N x st g cdg X.A X.stack s H E
/-- the lambda is called -/
theorem e_act {Ng : List Str} {x a : Str} {st : Stmt} {g f c' : Addr} {cdg pm ctv : Value} {params : Arguments} {body : Expr} {scope : Scope} {pn : List (Addr × Obj)} {xe : Value → Shared → Prop} {W' : WX} {E0 E : XK} {p1 p2 : Pos} {σZ : L2.St} {HZ : Hp} {Q : VK}
    (C : Cxt X (k + 2) W) (I : Inv X pins σ H s) (L : LamS X.env.scope scope) (hf : s.heap.get? f = some (PySem.W.kla_obj "<lambda>" (X.env.qual ++ "<lambda>") params body scope (cloFrom X.env.cells scope.names []) pm c' ctv)) (hfn : H f = none) (hfr : f ∉ frs X.stack)
    (hbind : bindArgs (PySem.W.kla_fn "<lambda>" (X.env.qual ++ "<lambda>") params body scope (cloFrom X.env.cells scope.names []) pm (.ref c') ctv) ⟨[], []⟩ = pure [])
    (tk : Takes ((hX X Ng x st g cdg s H E0).tr pn xe) W') (hW : ∀ cls d H', E cls d H' → W' cls d σZ H')
    (hN : Ng[0]? = some a) (hv : Vis (defScope st) a) (hd : (a == ("__debug__" : Str)) = false) (hcd : (a == ("__classdict__" : Str)) = false)
    (hs : σZ[0]? = some (some (.ref f))) (hc : HZ c' = some (CodeO c' (X.env.qual ++ "<lambda>")))
    (h : ∀ (A : Around) (outer : List Env) (s' : Shared) (H' : Hp), Cxt (lamCx X A outer s' H' E scope f c') k (fun cls d _ H => E cls d H) → (Gd X → Gd (lamCx X A outer s' H' E scope f c')) → wE (lamCx X A outer s' H' E scope f c') body σ HZ Q) :
    wE ((hX X Ng x st g cdg s H E0).tr pn xe) (.Call (.Name a p1) [] [] p2) σZ HZ Q := by
  refine ⟨fun pinsZ sZ IZ => ?_⟩
  refine wpAny_Call_Name_kw (thn ((pe_var (pos := p1) (i := 0) hN hv hd hcd).run pinsZ sZ σZ HZ (fun v H1 => v = .ref f ∧ H1 = HZ) IZ ⟨.ref f, hs, rfl, rfl⟩) fun u s1 ⟨v, H1, I1, r1, q1⟩ => ?_)
  obtain ⟨ev, eH⟩ := q1
  subst ev
  rw [eH] at I1
  obtain rfl : u = Value.ref f := r1
  have of1 : s1.heap.get? f = some (PySem.W.kla_obj "<lambda>" (X.env.qual ++ "<lambda>") params body scope (cloFrom X.env.cells scope.names []) pm c' ctv) := I1.base.keep f _ hf hfn hfr (fun z => nomatch (show f ∈ ([] : List Addr) from z))
  refine PySem.W.callWith_F0 ⟨_, _, _, _, of1⟩ ?_
  have un : Un (frs X.stack) [] H HZ s.heap s1.heap := I1.base
  obtain ⟨⟨oc, vs, t, hoc, hdc, hvc⟩, _, _⟩ := I1.hok c' _ hc
  have hr : Room (k + 1) (X.A.deeper (envOfC x (defScope st) s.heap.objs.size g cdg)) := C.room.deeper _
  have rc : codeAny (model X.prog X.w) (X.A.deeper (envOfC x (defScope st) s.heap.objs.size g cdg)) (.call (.ref f) ⟨[], []⟩) (CR (L2.CX X.prog X.w) (envOfC x (defScope st) s.heap.objs.size g cdg :: X.stack) X.prog X.w HZ s1 Q E) s1 := by
    refine PySem.W.kla_callFunE hr.depth of1 rfl L.co L.gen rfl ⟨c', oc, vs, t, rfl, hoc, hdc, hvc⟩ ?_
    rw [hbind]
    refine wpAny_pure (wpAny_newFunctionEnv (fun y hy => (L.own y hy).2) (fun y hy => absurd hy (by simp)) (fun h₁ hns hsb => ⟨I1.nolimit.fresh _ hsb, ?_⟩) L.kind)
    show codeAny _ _ (.expr body (lamEnv X scope s1.heap.objs.size f c')) _ _
    have kp : ∀ b o, s1.heap.get? b = some o → h₁.get? b = some o := fun b o e => hsb.extBut b o (Nat.ne_of_lt (Heap.lt_size e)) (Heap.get?_push_of_some _ e)
    have J : Inv (lamCx X (X.A.deeper (envOfC x (defScope st) s.heap.objs.size g cdg)) (envOfC x (defScope st) s.heap.objs.size g cdg :: X.stack) s1 HZ E scope f c') [] σ HZ { s1 with heap := h₁, toks := s1.toks + ([] : List (Str × Value)).length } :=
      lam_start2 I L I1.env0 hr.hd un hns kp
    have CL : Cxt (lamCx X (X.A.deeper (envOfC x (defScope st) s.heap.objs.size g cdg)) (envOfC x (defScope st) s.heap.objs.size g cdg :: X.stack) s1 HZ E scope f c') k (fun cls d _ H' => E cls d H') := C.lam (hr.deeper _)
    refine PySem.W.kla_codeExpr (wpAny_mono ((h _ _ s1 HZ CL fun g => g).run [] _ J) (fun v s' hq => ?_) fun e s' hq => hq)
    obtain ⟨w', H', J', rv, q⟩ := hq
    exact ⟨w', H', J'.os, J'.bare, J'.base, J'.hok, rv, q⟩
  refine wpAny_call (codeAny_mono rc fun r s' hq => ?_)
  cases r with
  | error e => exact tk e s' (XE.of_call I1 (fun cls d H' h => hW cls d H' h) hq)
  | ok fl =>
    cases fl with
    | ret u => exact I1.after hq
    | next => exact False.elim hq
    | brk => exact False.elim hq
    | cont => exact False.elim hq
/-- x(lambda: body) -/
theorem e_lam {T : List (Addr × Str)} {x a : Str} {st : Stmt} {c P : Addr} {Ng : List Str} {params : Arguments} {body : Expr} {scope : Scope} {p lpos pos : Pos} {Q : VK}
    (C : Cxt X (k + 2) W) (D : At X.K X.mg x st) (S : FnScope Ng [a] (defScope st)) (TB : TabB X.base X.mg c P) (hcode : X.env.code = .ref c) (hmT : (P, X.env.qual ++ "<lambda>") ∈ T) (hu : ∀ p ∈ T, p.1 = P → p.2 = X.env.qual ++ "<lambda>")
    (L : LamS X.env.scope scope) (hT : Tabs T H)
    (h : ∀ (g : Addr) (cdg : Value) (f c' : Addr) (s : Shared) (H1 : Hp), ExtN H H1 → Tabs T H1 → H1 c' = some (CodeO c' (X.env.qual ++ "<lambda>")) →
      Cxt (hX X Ng x st g cdg s H1 (fun cls d H' => W cls d σ H')) (k + 1) (fun cls d _ H' => W cls d σ H') → (Gd X → Gd (hX X Ng x st g cdg s H1 (fun cls d H' => W cls d σ H'))) →
      (∀ (W' : WX) (pn : List (Addr × Obj)) (xe : Value → Shared → Prop) (E : XK) (σZ : L2.St) (HZ : Hp) (Q' : VK) (p1 p2 : Pos), Takes ((hX X Ng x st g cdg s H1 (fun cls d H' => W cls d σ H')).tr pn xe) W' → (∀ cls d H', E cls d H' → W' cls d σZ H') →
        σZ[0]? = some (some (.ref f)) → HZ c' = some (CodeO c' (X.env.qual ++ "<lambda>")) →
        (∀ (A : Around) (outer : List Env) (s' : Shared) (H' : Hp), Cxt (lamCx X A outer s' H' E scope f c') k (fun cls d _ H => E cls d H) → (Gd X → Gd (lamCx X A outer s' H' E scope f c')) → wE (lamCx X A outer s' H' E scope f c') body σ HZ Q') →
        wE ((hX X Ng x st g cdg s H1 (fun cls d H' => W cls d σ H')).tr pn xe) (.Call (.Name a p1) [] [] p2) σZ HZ Q') →
      wB (hX X Ng x st g cdg s H1 (fun cls d H' => W cls d σ H')) (defBody st) { nx := fun _ H' => Q .non H', rt := Q } (start Ng [.ref f]) H1)
    (hN : Ng[0]? = some a := by rfl) (hv : Vis (defScope st) a := by first | exact Or.inl rfl | exact Or.inr (Or.inl rfl) | exact Or.inr (Or.inr rfl)) (hg : Gl X x := by rfl) (hdef : defaultsOf params X.env = ([], []) := by rfl)
    (hbl : ∀ (q : Str) (cl : List (Str × Addr)) (pm cv ctv : Value), bindArgs (PySem.W.kla_fn "<lambda>" q params body scope cl pm cv ctv) ⟨[], []⟩ = pure [] := by intros; rfl)
    (hbind : ∀ (kV doc pm : Value) (an : Option Addr) (cdv ct : Value) (us : List Value), us.length = ([a] : List Str).length → bindArgs (PySem.W.fnOf x x (defArgs st) (defBody st) (defScope st) .none kV doc pm an cdv ct) ⟨us, []⟩ = pure (([a] : List Str).zip us) := by exact fun _ _ _ _ _ _ us hl => match us, hl with | [_], _ => rfl)
    (hdb : (x == ("__debug__" : Str)) = false := by decide) (hd : (a == ("__debug__" : Str)) = false := by decide) (hcd : (a == ("__classdict__" : Str)) = false := by decide) :
    wE X (.Call (.Name x p) [.Lambda params body scope lpos] [] pos) σ H Q := by
  refine ⟨fun pins s I => ?_⟩
  obtain ⟨g, fd, hm, F⟩ := D.ex
  obtain ⟨oc, od, kV, doc, pm, an, cdg, ct, osl, rfl, lk, hcd2⟩ := F.ex
  refine wpAny_Call_Name_kw (ld_glob I hg hm ?_ hdb)
  refine PySem.W.callWith_K (h₀ := X.base) I.ok.mod.kin F.kp ?_ (by rfl) (by rfl)
  show wpAny _ _ (spliced ((false, eval (.Lambda params body scope lpos) X.env) :: backTo pos (starEach [] X.env))) _ _ s
  refine Calls.spliced_cons (lam_make2 I TB hcode hmT hu hT hdef (L.has I.ok) fun f c' pm' ctv H1 s' I1 eN T1 hf hfn hfr hco => ?_)
  refine Calls.spliced_nil ⟨I1.kIn, ?_⟩
  have rc : codeAny (model X.prog X.w) X.A (.call (.ref g) ⟨[.ref f], []⟩) (CR (L2.CX X.prog X.w) X.stack X.prog X.w H1 s' Q (fun cls d H' => W cls d σ H')) s' := by
    refine run_ofS (N := Ng) (ps := [a]) (us := [.ref f]) (vs := [.ref f]) lk hcd2 S (C.room.mono (show k + 1 + 1 ≤ k + 2 from Nat.le_refl _)) I1.env0 (.of_eq (hbind kV doc pm an cdg ct [.ref f] rfl)) (.cons rfl .nil) rfl fun hr' => ?_
    have CZ : Cxt (hX X Ng x st g cdg s' H1 (fun cls d H' => W cls d σ H')) (k + 1) (fun cls d _ H' => W cls d σ H') := ⟨hr', rfl, S.nd, C.blt, passes_of rfl, takes_of rfl rfl rfl rfl⟩
    refine ⟨wB _ (defBody st), pB, h g cdg f c' s' H1 eN T1 hco CZ (fun g => g) fun W' pn xe E σZ HZ Q' p1 p2 tk hW hs hc hh => ?_⟩
    exact e_act C I1 L hf hfn hfr (hbl _ _ _ _ _) tk hW hN hv hd hcd hs hc hh
  refine wpAny_call (codeAny_mono rc fun r s2 hq => ?_)
  cases r with
  | error e => exact C.tk e s2 (XE.of_call I1 (fun _ _ _ z => z) hq)
  | ok fl =>
    cases fl with
    | ret u => exact I1.after hq
    | next => exact False.elim hq
    | brk => exact False.elim hq
    | cont => exact False.elim hq
end
end Z

set_option Elab.async false
set_option linter.all false
set_option maxRecDepth 100000
set_option maxHeartbeats 4000000
/-! the law's own call, where the defs keep GFn; tables of code objects -/
namespace Z
open PySem PySem.Spec PyProof.Rows L2 LamX

/-- a def whose code object is known -/
structure AtC (K : PySem.W.Frag) (mg : Str → Option Value) (x : Str) (st : Stmt) (c : Addr) : Prop where
  ex : ∃ (f : Addr) (oc kV doc pm ct : Value) (od an : Option Addr) (osl : Array (Option Value)), mg x = some (.ref f) ∧ PySem.W.keepIn K (.ref f) = true ∧
    K.lookup f = some ⟨oc, od, .func (PySem.W.fnOf x x (defArgs st) (defBody st) (defScope st) .none kV doc pm an (.ref c) ct), osl⟩ ∧ PySem.W.codeIn K (.ref c) x = true
theorem defG_ofC {P : Program} {w : World} {K : PySem.W.Frag} {mg : Str → Option Value} {base : Heap} {k : Nat} {x : Str} {st : Stmt} {c : Addr} {N ps : List Str} {sp : Sp} (D : AtC K mg x st c) (B : Blt mg base) (S : FnScope N ps (defScope st)) (len : ∀ vs H Q E, sp vs H Q E → vs.length = ps.length)
    (body : ∀ (f : Addr) (A : Around) (outer : List Env) (s : Shared) (H : Hp) (vs : List V) (Q : VK) (E : XK), mg x = some (.ref f) → Cxt (bX P w K mg base N x st f (.ref c) A outer s H E) k (fun cls d _ H => E cls d H) → Gd (bX P w K mg base N x st f (.ref c) A outer s H E) → sp vs H Q E →
      wB (bX P w K mg base N x st f (.ref c) A outer s H E) (defBody st) { nx := fun _ H' => Q .non H', rt := Q } (start N vs) H) : DefG P w K mg base (k + 1) x st ps sp := by
  obtain ⟨f, oc, kV, doc, pm, ct, od, an, osl, hm, kp, lk, hcd⟩ := D.ex
  exact ⟨f, kV, doc, pm, an, .ref c, ct, hm, kp, gfn_body B lk hcd S len fun A outer s H vs Q E C g h => body f A outer s H vs Q E hm C g h⟩

/-- the data at sysModules is a dict -/
def SysAt (base : Heap) : Prop := ∃ o es ep, base.get? sysModules = some o ∧ o.data = .dict es ep
theorem law_callG {P : Program} {w : World} {K : PySem.W.Frag} {mg mb : Str → Option Value} {k : Nat} {fa a : Addr} {cs : List (Addr × Addr)} {x : Str} {sp : Sp} {s₁ : Shared} {vs : List Value} {ns : List Int}
    (KX : K.In s₁.heap) (hns : s₁.heap.Ns mainGlobals mg) (hb : s₁.heap.Ns builtinsNs mb) (hbb : ∀ x : Str, x ≠ "__name__" → mb x = bootBuiltins x) (hlim : s₁.heap.NoLimit) (hsy : ∃ mm, s₁.heap.Ns sysModules mm) (hg : s₁.gens = #[])
    (hT : ∀ p ∈ cs, s₁.heap.get? p.2 = some { cls := .none, data := .fields #[] }) (nT : ∀ p ∈ cs, K.lookup p.2 = none) (C : ∀ p ∈ cs, PySem.W.CodeHd s₁.heap p.1 p.2)
    (hbm : ∃ (bm : Addr) (ob : Obj), mg "__builtins__" = some (.ref bm) ∧ bm ≠ builtinsNs ∧ s₁.heap.get? bm = some ob ∧ ob.cls = .type "module" ∧ ob.dict = some builtinsNs ∧ ob.data = .plain)
    (ha : s₁.heap.get? a = some { cls := .type "list", data := .seq vs.toArray }) (hi : IntsAre vs ns) (hl : ns.length ≤ sizeLine) (hr : Room k callerA)
    (F : ∀ base : Heap, K.In base → base.Ns mainGlobals mg → SysAt base → (∀ p ∈ cs, TabB base mg p.1 p.2) → ∃ fd, (∀ (s : Shared) (u : Value), BindsTo s fd ⟨[u], []⟩ [(x, u)]) ∧ GFn P w K mg base k fa fd [x] sp)
    (hsp : ∀ H : Hp, (∀ p ∈ cs, H p.2 = some (.tbl #[])) → SqL K H a (ns.map V.int) → sp [.ref a] H (fun v _ => v = .bl true) fun _ _ _ => False) :
    codeAny (model P w) callerA (.call (.ref fa) ⟨[.ref a], []⟩) (fun r s' => r = .ok (.ret (.bool true)) ∧ OldK s₁.heap s'.heap ∧ s'.os = s₁.os ∧ AllBare s'.gens) s₁ := by
  have rv := vals_ints hi
  have lenV := hi.length
  have isT : ∀ b : Addr, b ∈ cs.map (·.2) → s₁.heap.get? b = some { cls := .none, data := .fields #[] } := fun b hb => by
    obtain ⟨p, hp, e⟩ := List.mem_map.mp hb
    rw [← e]
    exact hT p hp
  have aT : a ∉ cs.map (·.2) := fun z => by
    have q := isT a z
    rw [ha] at q
    have z' : Data.seq vs.toArray _ = Data.fields #[] := congrArg Obj.data (Option.some.inj q)
    cases z'
  have memT : ∀ p ∈ cs, p.2 ∈ cs.map (·.2) := fun p hp => List.mem_map.mpr ⟨p, hp, rfl⟩
  -- what is tracked at the start: the tables, and the script where the text does not hold it
  let H : Hp := fun b => if b ∈ cs.map (·.2) then some (.tbl #[]) else if b = a ∧ K.lookup a = none then some (.frz { cls := .type "list", data := .seq vs.toArray } (.lst (ns.map V.int))) else none
  have HT : ∀ b, b ∈ cs.map (·.2) → H b = some (.tbl #[]) := fun b hb => if_pos hb
  have HA : K.lookup a = none → H a = some (.frz { cls := .type "list", data := .seq vs.toArray } (.lst (ns.map V.int))) := fun e => (if_neg aT).trans (if_pos ⟨rfl, e⟩)
  have Hcase : ∀ b u, H b = some u → (b ∈ cs.map (·.2) ∧ u = .tbl #[]) ∨ (b = a ∧ K.lookup a = none ∧ u = .frz { cls := .type "list", data := .seq vs.toArray } (.lst (ns.map V.int))) := fun b u e => by
    by_cases h1 : b ∈ cs.map (·.2)
    · rw [HT b h1] at e
      cases e
      exact .inl ⟨h1, rfl⟩
    · have e1 : H b = _ := if_neg h1
      rw [e1] at e
      by_cases h2 : b = a ∧ K.lookup a = none
      · rw [if_pos h2] at e
        cases e
        exact .inr ⟨h2.1, h2.2, rfl⟩
      · rw [if_neg h2] at e
        cases e
  have hok : HOk P w H s₁.heap := fun b u e => by
    rcases Hcase b u e with ⟨h1, rfl⟩ | ⟨rfl, h2, rfl⟩
    · exact isT b h1
    · exact ⟨ha, by rw [List.length_map]; exact hl, vs, _, rv, ha⟩
  have hS : SqL K H a (ns.map V.int) := by
    cases hk : K.lookup a with
    | none => exact .inl (.inr ⟨_, HA hk⟩)
    | some o =>
      have e := KX a o hk
      rw [ha] at e
      cases e
      exact .inr ⟨_, vs.toArray, _, hk, rfl, rfl, rfl, by rw [List.size_toArray, lenV]; exact hl, by simpa using rv⟩
  have base_of : ∀ {b : Addr} {o : Obj}, s₁.heap.get? b = some o → H b = none → (hidT s₁.heap H).get? b = some o := fun e n => hidT_get e n
  have noD : ∀ {b : Addr} {o : Obj}, s₁.heap.get? b = some o → (∀ vs n, o.data ≠ .seq vs n) → o.data ≠ .fields #[] → H b = none := fun {b o} e h1 h2 => by
    cases q : H b with
    | none => rfl
    | some u =>
      rcases Hcase b u q with ⟨e', _⟩ | ⟨e', _⟩
      · rw [isT b e'] at e
        cases e
        exact (h2 rfl).elim
      · rw [e', ha] at e
        cases e
        exact (h1 _ _ rfl).elim
  have noA : ∀ {b : Addr} {o : Obj} {es : Array DictEntry} {ep : Nat}, s₁.heap.get? b = some o → o.data = .dict es ep → H b = none := fun {b o es ep} e d => by
    refine noD e (fun vs n z => ?_) fun z => ?_
    · rw [d] at z
      cases z
    · rw [d] at z
      cases z
  have nsK : ∀ {b : Addr} {m : Str → Option Value}, s₁.heap.Ns b m → (hidT s₁.heap H).Ns b m := fun {b m} ⟨o, es, ep, e, d, r⟩ => ⟨o, es, ep, base_of e (noA e d), d, r⟩
  have hKb : K.In (hidT s₁.heap H) := fun b o e => base_of (KX b o e) (by
    cases q : H b with
    | none => rfl
    | some u =>
      rcases Hcase b u q with ⟨e', _⟩ | ⟨e', hk, _⟩
      · obtain ⟨p, hp, ep⟩ := List.mem_map.mp e'
        rw [← ep, nT p hp] at e
        cases e
      · rw [e', hk] at e
        cases e)
  have hM : L2.Mod K mg (hidT s₁.heap H) := ⟨hKb, nsK hns, ⟨mb, nsK hb, hbb⟩, let ⟨mc, h1, h2⟩ := hlim; ⟨mc, nsK h1, h2⟩⟩
  have hSys : SysAt (hidT s₁.heap H) := by
    obtain ⟨mm, hm⟩ := hsy
    obtain ⟨o, es, ep, e, d, _⟩ := nsK hm
    exact ⟨o, es, ep, e, d⟩
  have TB : ∀ p ∈ cs, TabB (hidT s₁.heap H) mg p.1 p.2 := fun p hp => by
    have hTp := hT p hp
    refine ⟨?_, ?_, fun z => ?_⟩
    · obtain ⟨o, us, file, tf, flags, tg, inF, text, tt, e1, r1, r2, r3, r4, r5, r6, r7, r8, hne⟩ := C p hp
      refine ⟨o, us, file, tf, flags, tg, inF, text, tt, base_of e1 (noD e1 (fun vs n z => ?_) fun z => ?_), r1, r2, r3, r4, r5, r6, r7, r8, hne⟩
      · rw [r2] at z
        cases z
      · rw [r2] at z
        cases z
        simp at r3
    · obtain ⟨bm, ob, b1, b2, b3, b4, b5, b6⟩ := hbm
      have nG : bm ≠ mainGlobals := fun q => by
        obtain ⟨o, es, ep, e, hd, _⟩ := hns
        rw [q, e] at b3
        cases b3
        rw [hd] at b6
        cases b6
      have nP : bm ≠ p.2 := fun q => by
        rw [q, hTp] at b3
        cases b3
        cases b6
      refine ⟨bm, ob, b1, b2, nG, nP, base_of b3 (noD b3 (fun vs n z => ?_) fun z => ?_), b4, b5, b6⟩
      · rw [b6] at z
        cases z
      · rw [b6] at z
        cases z
    · obtain ⟨o, es, ep, e, hd, _⟩ := hns
      rw [z, hTp] at e
      cases e
      cases hd
  have e0 : Env0 P w K mg (hidT s₁.heap H) callerA [] s₁ H := ⟨rfl, hM, fun b o e => of_hidT e, Nat.le_of_eq (hidT_size _ _), trivial, fun b hb => absurd (show b ∈ ([] : List Addr) from hb) (by simp), hok, .of_eq hg⟩
  obtain ⟨fd, hbind, hF⟩ := F _ hKb (nsK hns) hSys TB
  refine codeAny_mono (hF.run callerA [] s₁ H ⟨[.ref a], []⟩ [.ref a] [.ref a] _ _ hr rfl e0 (hbind s₁ (.ref a)) (.cons rfl .nil) (hsp H (fun p hp => HT _ (memT p hp)) hS)) fun r s' h => ?_
  cases r with
  | error e =>
    obtain ⟨_, _, _, _, _, _, _, _, _, _, _, _, z⟩ := h
    exact z.elim
  | ok fl =>
    cases fl with
    | next => exact False.elim h
    | brk => exact False.elim h
    | cont => exact False.elim h
    | ret u =>
      obtain ⟨v, H', os, bare, un, hok', r', q⟩ := h
      have q' : v = .bl true := q
      subst q'
      obtain rfl : u = Value.bool true := r'
      have key : ∀ b o, b ∉ cs.map (·.2) → s₁.heap.get? b = some o → s'.heap.get? b = some o := fun b o nb e => by
        cases q : H b with
        | none => exact un.keep b o e q (by intro z; exact absurd (show b ∈ ([] : List Addr) from z) (by simp)) (by simp)
        | some u =>
          rcases Hcase b u q with ⟨z, _⟩ | ⟨_, _, z⟩
          · exact absurd z nb
          · rw [z] at q
            have z2 := un.frzs b _ _ q
            obtain ⟨e1, _⟩ := hok b _ q
            obtain ⟨e2, _⟩ := hok' b _ z2
            rw [e] at e1; cases e1
            exact e2
      have grown : ∀ p ∈ cs, ∃ more : Array Value, s'.heap.get? p.2 = some { cls := .none, data := .fields more } := fun p hp => by
        obtain ⟨more, z⟩ := un.tbls p.2 #[] (HT _ (memT p hp))
        exact ⟨_, hok' p.2 _ z⟩
      refine ⟨rfl, ⟨fun b o e => ?_, fun b o e => ?_⟩, os, bare⟩
      · by_cases hb : b ∈ cs.map (·.2)
        · obtain ⟨p, hp, ep⟩ := List.mem_map.mp hb
          obtain ⟨more, hm⟩ := grown p hp
          rw [← ep] at e ⊢
          rw [hT p hp] at e
          cases e
          exact .inr (.inl ⟨((C p hp).tab (hT p hp)).isCodeTable, rfl, #[], more, rfl, by rw [Array.empty_append]; exact hm⟩)
        · exact .inl (key b o hb e)
      · by_cases hb : b ∈ cs.map (·.2)
        · obtain ⟨p, hp, ep⟩ := List.mem_map.mp hb
          obtain ⟨more, hm⟩ := grown p hp
          rw [← ep]
          exact ⟨_, hm⟩
        · exact ⟨o, key b o hb e⟩
/-- what is known of the law's promise at the head's heap h -/
def LawG (l : PySem.W.OpenLaw) (w : World) (K : PySem.W.Frag) (k n : Nat) (x : Str) (mg : Str → Option Value) (fa : Addr) (h : Heap) : Prop :=
  ∃ (cs : List (Addr × Addr)) (sp : Sp), (∀ p ∈ cs, h.get? p.2 = some { cls := .none, data := .fields #[] }) ∧ (∀ p ∈ cs, K.lookup p.2 = none) ∧ (∀ p ∈ cs, PySem.W.CodeHd h p.1 p.2) ∧
    (∀ (H : Hp) (a : Addr) (ns : List Int), ns.length ≤ n → (∀ z ∈ ns, Builtin.Int.intBits z ≤ 1048576) → (∀ p ∈ cs, H p.2 = some (.tbl #[])) → SqL K H a (ns.map V.int) → sp [.ref a] H (fun v _ => v = .bl true) fun _ _ _ => False) ∧
    ∀ base : Heap, K.In base → base.Ns mainGlobals mg → SysAt base → (∀ p ∈ cs, TabB base mg p.1 p.2) → ∃ fd, (∀ (s : Shared) (u : Value), BindsTo s fd ⟨[u], []⟩ [(x, u)]) ∧ GFn l.prog w K mg base k fa fd [x] sp
theorem walk_G {l : PySem.W.OpenLaw} {n k : Nat} {q : Program} {loose : List Str} {XP : (Str → Option Value) → Heap → Prop} {YP : World → Heap → Prop} {d : DefRec} {K : Params → PySem.W.Frag} {x : Str}
    (hn : l.most = some n) (hn2 : n ≤ sizeLine) (hdf : d.params.defaults = []) (hr : Room k callerA) (hY : ∀ (w : World) (h : Heap), YP w h → (K w.params).In h) (hq : importsNone q = true)
    (F : ∀ (w : World) (mg : Str → Option Value) (fa : Addr) (h : Heap), YP w h → (K w.params).In h → h.Ns mainGlobals mg → mg d.name = some (.ref fa) → LawG l w (K w.params) k n x mg fa h) :
    PySem.W.WalkO q loose XP YP l.row.toRowW d [] (fun f vs => PySem.call f vs) := by
  refine Att.attach_callB hn hdf fun w s₀ s₁ mg mb fa o pm cd doc a vs ns G Y ho hd hcd hmg hobj hints hlen hbits hg => ?_
  have KX := hY w _ Y
  obtain ⟨cs, sp, hT, nT, C, hsp, hF⟩ := F w mg fa _ Y KX G.T.g hmg
  obtain ⟨mm, hmm, _⟩ := (G.T.seer hq).mods
  exact law_callG KX G.T.g G.T.b G.T.builtins G.T.nolimit ⟨mm, hmm⟩ hg hT nT C G.T.bmain hobj hints (Nat.le_trans hlen hn2) hr hF fun H hH hS => hsp H a ns hlen hbits hH hS
end Z

set_option Elab.async false
set_option linter.all false
set_option maxRecDepth 100000
set_option maxHeartbeats 4000000
/-! zip of two texts of ASCII signs -/
namespace Z
open PySem PySem.Spec PyProof.Rows L2
section
variable {prog : Program} {w : World} {A : Around} {E : Value → Shared → Prop} {s : Shared}
abbrev At8 (h : Heap) (a : Addr) (x : Str) (t : Tok) (i : Nat) : Prop := h.IsStrIter a "str_ascii_iterator" x t i
theorem at8_at {h h' : Heap} {a : Addr} {x : Str} {t : Tok} {i : Nat} (y : At8 h a x t i) (k : ∀ o, h.get? a = some o → h'.get? a = some o) : At8 h' a x t i := let ⟨o, e, r⟩ := y; ⟨o, k o e, r⟩
theorem zipS_next_item {z TI TO i1 i2 l1 l2 : Addr} {k1 k2 c d : Nat} {xs ys : Str} {t1 t2 : Tok} {a b : Value} {Q : Value → Shared → Prop} (D : ZipApart z TI TO i1 i2 l1 l2)
    (hz : IsZip s.heap z TI TO .none) (hTI : IsPair s.heap TI (.ref i1) (.ref i2)) (hTO : IsPair s.heap TO a b)
    (h1 : At8 s.heap i1 xs t1 k1) (h2 : At8 s.heap i2 ys t2 k2) (hx : xs.cps[k1]? = some c) (hy : ys.cps[k2]? = some d)
    (hQ : ∀ h' u v, IsZip h' z TI TO (rawInt s.heap.objs.size) → IsPair h' TO (.str ⟨#[c]⟩ u) (.str ⟨#[d]⟩ v) → At8 h' i1 xs t1 (k1 + 1) → At8 h' i2 ys t2 (k2 + 1) → IsPair h' s.heap.objs.size (.str ⟨#[c]⟩ u) (.str ⟨#[d]⟩ v) → h'.objs.size = s.heap.objs.size + 1 →
      (∀ c o, c ≠ z → c ≠ TO → c ≠ i1 → c ≠ i2 → s.heap.get? c = some o → h'.get? c = some o) → Q (.ref s.heap.objs.size) { s with heap := h', toks := s.toks + 2 }) :
    wpAny (model prog w) A (Builtin.«zip.__next__» ⟨[.ref z], []⟩) (fun fin s' => ∃ v, fin = .done (.ret v) ∧ Q v s') E s := by
  obtain ⟨hp, g, dr, tk, os⟩ := s
  show wpAny _ _ (field (.ref z) 2 >>= _) _ _ _
  refine wpAny_bind (wpAny_field hz rfl (x := .bool false) rfl ?_)
  show wpAny _ _ (field (.ref z) 3 >>= _) _ _ _
  refine wpAny_bind (wpAny_field hz rfl (x := .ref TI) rfl ?_)
  refine wpAny_bind (wpAny_seqItems hTI rfl ?_)
  show wpAny _ _ (Builtin.SmallTypes.ownedTupleIsFree (.ref z) >>= _) _ _ _
  refine wpAny_bind ?_
  unfold Builtin.SmallTypes.ownedTupleIsFree
  refine wpAny_bind (wpAny_field hz rfl (x := .none) rfl (wpAny_pure ?_))
  simp only [if_true]
  refine wpAny_bind (wpAny_rule ?_)
  refine wpAny_bind (wpAny_field hz rfl (x := .ref TO) rfl ?_)
  refine wpAny_bind (wpAny_setField_rec hz (by simp) fun h₁ hz₁ hs₁ => ?_)
  replace hz₁ : IsZip h₁ z TI TO .ellipsis := hz₁
  refine wpAny_bind ?_
  simp only [List.zipIdx_cons, List.zipIdx_nil, List.forIn_cons, List.forIn_nil]
  refine wpAny_bind (wpAny_bind (wpAny_onRaise ?_))
  show wpAny _ _ (Builtin.SmallTypes.nextOf (.ref i1) >>= _) _ _ _
  refine wpAny_bind (wpAny_nextOf_ascii_item (Heap.IsStrIter.extBut h1 hs₁.extBut D.i1z) hx fun h₂ h1₂ hs₂ => wpAny_pure ?_)
  have hTO₂ : IsPair h₂ TO a b := hs₂.extBut _ _ D.TOi1 (hs₁.extBut _ _ D.TOz hTO)
  refine wpAny_bind (wpAny_seqItems hTO₂ rfl ?_)
  refine wpAny_bind (wpAny_updateSeq_pair hTO₂ fun h₃ hTO₃ hs₃ => ?_)
  replace hTO₃ : IsPair h₃ TO (.str ⟨#[c]⟩ tk) b := hTO₃
  refine wpAny_bind (wpAny_letGo (wpAny_pure ?_))
  refine wpAny_bind (wpAny_bind (wpAny_onRaise ?_))
  show wpAny _ _ (Builtin.SmallTypes.nextOf (.ref i2) >>= _) _ _ _
  refine wpAny_bind (wpAny_nextOf_ascii_item (((Heap.IsStrIter.extBut h2 hs₁.extBut D.i2z).extBut hs₂.extBut D.i12.symm).extBut hs₃.extBut D.TOi2.symm) hy fun h₄ h2₄ hs₄ => wpAny_pure ?_)
  have hTO₄ : IsPair h₄ TO (.str ⟨#[c]⟩ tk) b := hs₄.extBut _ _ D.TOi2 hTO₃
  refine wpAny_bind (wpAny_seqItems hTO₄ rfl ?_)
  refine wpAny_bind (wpAny_updateSeq_pair hTO₄ fun h₅ hTO₅ hs₅ => ?_)
  replace hTO₅ : IsPair h₅ TO (.str ⟨#[c]⟩ tk) (.str ⟨#[d]⟩ (tk + 1)) := hTO₅
  refine wpAny_bind (wpAny_letGo (wpAny_pure (wpAny_pure ?_)))
  refine wpAny_bind (wpAny_seqItems hTO₅ rfl ?_)
  refine wpAny_bind (wpAny_newTuple ?_)
  have hsz : h₅.objs.size = hp.objs.size := by rw [hs₅.1, hs₄.1, hs₃.1, hs₂.1, hs₁.1]
  have hz₅ : IsZip h₅ z TI TO .ellipsis := hs₅.extBut _ _ D.TOz.symm (hs₄.extBut _ _ D.i2z.symm (hs₃.extBut _ _ D.TOz.symm (hs₂.extBut _ _ D.i1z.symm hz₁)))
  have hk₅ : ∀ c o, c ≠ z → c ≠ TO → c ≠ i1 → c ≠ i2 → hp.get? c = some o → h₅.get? c = some o := fun c o c1 c2 c3 c4 e =>
    hs₅.extBut _ _ c2 (hs₄.extBut _ _ c4 (hs₃.extBut _ _ c2 (hs₂.extBut _ _ c3 (hs₁.extBut _ _ c1 e))))
  have h1₅ : At8 h₅ i1 xs t1 (k1 + 1) := ((Heap.IsStrIter.extBut h1₂ hs₃.extBut D.TOi1.symm).extBut hs₄.extBut D.i12).extBut hs₅.extBut D.TOi1.symm
  have h2₅ : At8 h₅ i2 ys t2 (k2 + 1) := Heap.IsStrIter.extBut h2₄ hs₅.extBut D.TOi2.symm
  have hzlt : z < h₅.objs.size := Heap.lt_size hz₅
  have hTOlt : TO < h₅.objs.size := Heap.lt_size hTO₅
  show wpAny _ _ (Builtin.SmallTypes.ownedTupleHandOut (.ref z) (.ref h₅.objs.size) >>= _) _ _ _
  refine wpAny_bind ?_
  unfold Builtin.SmallTypes.ownedTupleHandOut
  have hz₆ : IsZip (h₅.push { cls := .type "tuple", data := .seq #[.str ⟨#[c]⟩ tk, .str ⟨#[d]⟩ (tk + 1)] }) z TI TO .ellipsis := Heap.get?_push_of_some _ hz₅
  refine wpAny_bind (wpAny_setField_rec hz₆ (by simp) fun h₇ hz₇ hs₇ => ?_)
  replace hz₇ : IsZip h₇ z TI TO (rawInt h₅.objs.size) := hz₇
  refine wpAny_setField_rec hz₇ (by simp) fun h₈ hz₈ hs₈ => ?_
  replace hz₈ : IsZip h₈ z TI TO (rawInt h₅.objs.size) := hz₈
  have up : ∀ c o, c ≠ z → h₅.get? c = some o → h₈.get? c = some o := fun c o c1 e => hs₈.extBut _ _ c1 (hs₇.extBut _ _ c1 (Heap.get?_push_of_some _ e))
  have hT₈ : IsPair h₈ h₅.objs.size (.str ⟨#[c]⟩ tk) (.str ⟨#[d]⟩ (tk + 1)) := hs₈.extBut _ _ (Nat.ne_of_gt hzlt) (hs₇.extBut _ _ (Nat.ne_of_gt hzlt) (Heap.get?_push_size _ rfl))
  have hz8 : h₈.objs.size = h₅.objs.size + 1 := by rw [hs₈.1, hs₇.1, Heap.size_push]
  rw [hsz] at hz₈ hT₈ hz8
  refine wpAny_pure ⟨_, rfl, ?_⟩
  show Q (.ref h₅.objs.size) _
  rw [hsz]
  exact hQ h₈ _ _ hz₈ (up _ _ D.TOz hTO₅) (at8_at h1₅ fun o e => up _ o D.i1z e) (at8_at h2₅ fun o e => up _ o D.i2z e) hT₈ hz8 fun c o c1 c2 c3 c4 e => up c o c1 (hk₅ c o c1 c2 c3 c4 e)
theorem zipS_next_end {z TI TO i1 i2 l1 l2 : Addr} {k1 k2 : Nat} {xs ys : Str} {t1 t2 : Tok} {a b : Value} {Q : Fin → Shared → Prop} (hh : A.handled = none) (D : ZipApart z TI TO i1 i2 l1 l2)
    (hz : IsZip s.heap z TI TO .none) (hTI : IsPair s.heap TI (.ref i1) (.ref i2)) (hTO : IsPair s.heap TO a b)
    (h1 : At8 s.heap i1 xs t1 k1) (h2 : At8 s.heap i2 ys t2 k2) (hend : xs.cps[k1]? = none ∨ ys.cps[k2]? = none)
    (hE : ∀ h' tk' e, (∀ c o, c ≠ z → c ≠ TO → c ≠ i1 → c ≠ i2 → s.heap.get? c = some o → h'.get? c = some o) → (∃ o, h'.get? e = some o ∧ o.cls = .type "StopIteration") → E (.ref e) { s with heap := h', toks := tk' }) :
    wpAny (model prog w) A (Builtin.«zip.__next__» ⟨[.ref z], []⟩) Q E s := by
  obtain ⟨hp, g, dr, tk, os⟩ := s
  show wpAny _ _ (field (.ref z) 2 >>= _) _ _ _
  refine wpAny_bind (wpAny_field hz rfl (x := .bool false) rfl ?_)
  show wpAny _ _ (field (.ref z) 3 >>= _) _ _ _
  refine wpAny_bind (wpAny_field hz rfl (x := .ref TI) rfl ?_)
  refine wpAny_bind (wpAny_seqItems hTI rfl ?_)
  show wpAny _ _ (Builtin.SmallTypes.ownedTupleIsFree (.ref z) >>= _) _ _ _
  refine wpAny_bind ?_
  unfold Builtin.SmallTypes.ownedTupleIsFree
  refine wpAny_bind (wpAny_field hz rfl (x := .none) rfl (wpAny_pure ?_))
  simp only [if_true]
  refine wpAny_bind (wpAny_rule ?_)
  refine wpAny_bind (wpAny_field hz rfl (x := .ref TO) rfl ?_)
  refine wpAny_bind (wpAny_setField_rec hz (by simp) fun h₁ hz₁ hs₁ => ?_)
  replace hz₁ : IsZip h₁ z TI TO .ellipsis := hz₁
  refine wpAny_bind ?_
  simp only [List.zipIdx_cons, List.zipIdx_nil, List.forIn_cons, List.forIn_nil]
  refine wpAny_bind (wpAny_bind (wpAny_onRaise ?_))
  show wpAny _ _ (Builtin.SmallTypes.nextOf (.ref i1) >>= _) _ _ _
  cases hx : xs.cps[k1]? with
  | none =>
    refine wpAny_bind (wpAny_nextOf_ascii_end hh (Heap.IsStrIter.extBut h1 hs₁.extBut D.i1z) hx fun h₂ e hs₂ he => ?_)
    obtain ⟨oe, hoe, hce⟩ := he
    have hz₂ : IsZip h₂ z TI TO .ellipsis := hs₂ _ _ D.i1z.symm hz₁
    have hez : e ≠ z := fun x => by subst x; rw [hz₂] at hoe; cases hoe; simp at hce
    refine wpAny_setField_rec hz₂ (by simp) fun h₃ _ hs₃ => hE h₃ _ e (fun c o c1 _ c3 _ x => hs₃.extBut _ _ c1 (hs₂ _ _ c3 (hs₁.extBut _ _ c1 x))) ⟨oe, hs₃.extBut _ _ hez hoe, hce⟩
  | some x =>
    have hy : ys.cps[k2]? = none := by rcases hend with h | h; rw [hx] at h; cases h; exact h
    refine wpAny_bind (wpAny_nextOf_ascii_item (Heap.IsStrIter.extBut h1 hs₁.extBut D.i1z) hx fun h₂ h1₂ hs₂ => wpAny_pure ?_)
    have hTO₂ : IsPair h₂ TO a b := hs₂.extBut _ _ D.TOi1 (hs₁.extBut _ _ D.TOz hTO)
    refine wpAny_bind (wpAny_seqItems hTO₂ rfl ?_)
    refine wpAny_bind (wpAny_updateSeq_pair hTO₂ fun h₃ hTO₃ hs₃ => ?_)
    refine wpAny_bind (wpAny_letGo (wpAny_pure ?_))
    refine wpAny_bind (wpAny_bind (wpAny_onRaise ?_))
    show wpAny _ _ (Builtin.SmallTypes.nextOf (.ref i2) >>= _) _ _ _
    refine wpAny_bind (wpAny_nextOf_ascii_end hh (((Heap.IsStrIter.extBut h2 hs₁.extBut D.i2z).extBut hs₂.extBut D.i12.symm).extBut hs₃.extBut D.TOi2.symm) hy fun h₄ e hs₄ he => ?_)
    obtain ⟨oe, hoe, hce⟩ := he
    have hz₄ : IsZip h₄ z TI TO .ellipsis := hs₄ _ _ D.i2z.symm (hs₃.extBut _ _ D.TOz.symm (hs₂.extBut _ _ D.i1z.symm hz₁))
    have hez : e ≠ z := fun x => by subst x; rw [hz₄] at hoe; cases hoe; simp at hce
    refine wpAny_setField_rec hz₄ (by simp) fun h₅ _ hs₅ => hE h₅ _ e (fun c o c1 c2 c3 c4 x => hs₅.extBut _ _ c1 (hs₄ _ _ c4 (hs₃.extBut _ _ c2 (hs₂.extBut _ _ c3 (hs₁.extBut _ _ c1 x))))) ⟨oe, hs₅.extBut _ _ hez hoe, hce⟩
theorem pyNext_zipS_item {z TI TO i1 i2 l1 l2 : Addr} {k1 k2 c d : Nat} {xs ys : Str} {t1 t2 : Tok} {a b : Value} {Q : Option Value → Shared → Prop} (D : ZipApart z TI TO i1 i2 l1 l2)
    (hz : IsZip s.heap z TI TO .none) (hTI : IsPair s.heap TI (.ref i1) (.ref i2)) (hTO : IsPair s.heap TO a b)
    (h1 : At8 s.heap i1 xs t1 k1) (h2 : At8 s.heap i2 ys t2 k2) (hx : xs.cps[k1]? = some c) (hy : ys.cps[k2]? = some d)
    (hQ : ∀ h' u v, IsZip h' z TI TO (rawInt s.heap.objs.size) → IsPair h' TO (.str ⟨#[c]⟩ u) (.str ⟨#[d]⟩ v) → At8 h' i1 xs t1 (k1 + 1) → At8 h' i2 ys t2 (k2 + 1) → IsPair h' s.heap.objs.size (.str ⟨#[c]⟩ u) (.str ⟨#[d]⟩ v) → h'.objs.size = s.heap.objs.size + 1 →
      (∀ c o, c ≠ z → c ≠ TO → c ≠ i1 → c ≠ i2 → s.heap.get? c = some o → h'.get? c = some o) → Q (some (.ref s.heap.objs.size)) { s with heap := h', toks := s.toks + 2 }) :
    wpAny (model prog w) A (pyNext (.ref z)) Q E s := by
  have hT : s.TypeIs (.ref z) "zip" := ⟨_, hz, rfl⟩
  unfold pyNext
  exact wpAny_bind (wpAny_attempt (wpAny_callSpecial?_slot (name := Str.ofString "__next__") hT F.slot_zip_next
    (wpAny_call_entry F.slot_zip_next hT F.entry_zip_next
      (zipS_next_item D hz hTI hTO h1 h2 hx hy fun h' u v a1 a2 a3 a4 a5 a6 a7 => wpAny_pure (hQ h' u v a1 a2 a3 a4 a5 a6 a7)) (F.args_zip_next_1 _))))
theorem pyNext_zipS_end {z TI TO i1 i2 l1 l2 : Addr} {k1 k2 : Nat} {xs ys : Str} {t1 t2 : Tok} {a b : Value} {Q : Option Value → Shared → Prop} (hh : A.handled = none) (D : ZipApart z TI TO i1 i2 l1 l2)
    (hz : IsZip s.heap z TI TO .none) (hTI : IsPair s.heap TI (.ref i1) (.ref i2)) (hTO : IsPair s.heap TO a b)
    (h1 : At8 s.heap i1 xs t1 k1) (h2 : At8 s.heap i2 ys t2 k2) (hend : xs.cps[k1]? = none ∨ ys.cps[k2]? = none)
    (hQ : ∀ h' tk', (∀ c o, c ≠ z → c ≠ TO → c ≠ i1 → c ≠ i2 → s.heap.get? c = some o → h'.get? c = some o) → Q none { s with heap := h', toks := tk' }) : wpAny (model prog w) A (pyNext (.ref z)) Q E s := by
  have hT : s.TypeIs (.ref z) "zip" := ⟨_, hz, rfl⟩
  unfold pyNext
  refine wpAny_bind (wpAny_attempt (wpAny_callSpecial?_slot (name := Str.ofString "__next__") hT F.slot_zip_next
    (wpAny_call_entry F.slot_zip_next hT F.entry_zip_next (zipS_next_end hh D hz hTI hTO h1 h2 hend fun h' tk' e hk he => ?_) (F.args_zip_next_1 _))))
  obtain ⟨o, ho, hc⟩ := he
  refine wpAny_bind (wpAny_isInstance (T := "StopIteration") (b := true) ⟨o, ho, hc⟩ isSubtype_stop ?_)
  exact wpAny_pure (hQ _ _ hk)
end
abbrev zipSH1 (h : Heap) (x : Str) (t : Tok) : Heap := h.push { cls := .type "str_ascii_iterator", data := .fields #[.str x t, .int 0 0] }
abbrev zipSH2 (h : Heap) (x y : Str) (t u : Tok) : Heap := (zipSH1 h x t).push { cls := .type "str_ascii_iterator", data := .fields #[.str y u, .int 0 0] }
abbrev zipSH3 (h : Heap) (x y : Str) (t u : Tok) : Heap := (zipSH2 h x y t u).push { cls := .type "tuple", data := .seq #[.ref h.objs.size, .ref (zipSH1 h x t).objs.size] }
abbrev zipSH4 (h : Heap) (x y : Str) (t u : Tok) : Heap := (zipSH3 h x y t u).push { cls := .type "tuple", data := .seq #[.none, .none] }
abbrev zipSH5 (h : Heap) (x y : Str) (t u : Tok) : Heap := (zipSH4 h x y t u).push { cls := .type "zip", data := .fields #[.none, .bool false, .bool false, .ref (zipSH2 h x y t u).objs.size, .ref (zipSH3 h x y t u).objs.size] }
theorem meets_zipS_new (x y : Str) (t u : Tok) (hx : x.cps.all (· < 128) = true) (hy : y.cps.all (· < 128) = true) :
    Meets (Builtin.«zip.__new__» ⟨[.type "zip", .str x t, .str y u], []⟩) (fun _ R s => R (.ok (.ret (.ref (zipSH4 s.heap x y t u).objs.size))) { s with heap := zipSH5 s.heap x y t u }) :=
  .of_wp fun prog w A R s h => by
    obtain ⟨hp, g, d, tk, os⟩ := s
    have hsub := sub_zip
    wp_walk using wpAny_pyIter_ascii hx, wpAny_pyIter_ascii hy
    exact ⟨_, rfl, h⟩
section
variable {prog : Program} {w : World} {A : Around} {E : Value → Shared → Prop} {s : Shared}
theorem call_zipS {x y : Str} {t u : Tok} {Q : Value → Shared → Prop} (hx : x.cps.all (· < 128) = true) (hy : y.cps.all (· < 128) = true)
    (h : ∀ h', IsZip h' (s.heap.objs.size + 4) (s.heap.objs.size + 2) (s.heap.objs.size + 3) .none → IsPair h' (s.heap.objs.size + 2) (.ref s.heap.objs.size) (.ref (s.heap.objs.size + 1)) →
      IsPair h' (s.heap.objs.size + 3) .none .none → At8 h' s.heap.objs.size x t 0 → At8 h' (s.heap.objs.size + 1) y u 0 → h'.objs.size = s.heap.objs.size + 5 →
      (∀ c o, s.heap.get? c = some o → h'.get? c = some o) → Q (.ref (s.heap.objs.size + 4)) { s with heap := h' }) :
    wpAny (model prog w) A (call (.type "zip") [.str x t, .str y u]) Q E s := by
  refine callType_new F.called_zip (by decide) (F.typeCall_zip_2 _ _) (F.newCall_zip_2 _ _) (fun obj => F.args_object_init_3 obj _ _) F.entry_zip_new
    (meets_zipS_new x y t u hx hy) ?_
  have z1 : (zipSH1 s.heap x t).objs.size = s.heap.objs.size + 1 := Heap.size_push ..
  have z2 : (zipSH2 s.heap x y t u).objs.size = s.heap.objs.size + 2 := by rw [Heap.size_push, z1]
  have z3 : (zipSH3 s.heap x y t u).objs.size = s.heap.objs.size + 3 := by rw [Heap.size_push, z2]
  have z4 : (zipSH4 s.heap x y t u).objs.size = s.heap.objs.size + 4 := by rw [Heap.size_push, z3]
  have z5 : (zipSH5 s.heap x y t u).objs.size = s.heap.objs.size + 5 := by rw [Heap.size_push, z4]
  have g5 : (zipSH5 s.heap x y t u).get? (zipSH4 s.heap x y t u).objs.size = some _ := Heap.get?_push_size _ rfl
  have g4 : (zipSH5 s.heap x y t u).get? (zipSH3 s.heap x y t u).objs.size = some _ := Heap.get?_push_of_some _ (Heap.get?_push_size _ rfl)
  have g3 : (zipSH5 s.heap x y t u).get? (zipSH2 s.heap x y t u).objs.size = some _ := Heap.get?_push_of_some _ (Heap.get?_push_of_some _ (Heap.get?_push_size _ rfl))
  have g2 : (zipSH5 s.heap x y t u).get? (zipSH1 s.heap x t).objs.size = some _ := Heap.get?_push_of_some _ (Heap.get?_push_of_some _ (Heap.get?_push_of_some _ (Heap.get?_push_size _ rfl)))
  have g1 : (zipSH5 s.heap x y t u).get? s.heap.objs.size = some _ := Heap.get?_push_of_some _ (Heap.get?_push_of_some _ (Heap.get?_push_of_some _ (Heap.get?_push_of_some _ (Heap.get?_push_size _ rfl))))
  show _ ∧ _
  rw [z2, z3, z4] at g5
  rw [z1, z2] at g3
  rw [z3] at g4
  rw [z1] at g2
  rw [z4]
  exact ⟨⟨_, g5, rfl⟩, h _ g5 g3 g4 ⟨_, g1, rfl, rfl⟩ ⟨_, g2, rfl, rfl⟩ z5 fun c o x =>
    Heap.get?_push_of_some _ (Heap.get?_push_of_some _ (Heap.get?_push_of_some _ (Heap.get?_push_of_some _ (Heap.get?_push_of_some _ x))))⟩
end
/-- the walk: pairs of signs, as long as both have some -/
def ItzS (x y : Str) : It :=
  ⟨fun i H => i < x.cps.size ∧ i < y.cps.size,
    fun i H v H' => ∃ T c d, v = .ref T ∧ H T = none ∧ H' = upd H T (.tup [.str ⟨#[c]⟩, .str ⟨#[d]⟩]) ∧ x.cps[i]? = some c ∧ y.cps[i]? = some d,
    fun i H => x.cps.size ≤ i ∨ y.cps.size ≤ i⟩
theorem turn_zipS {P : Program} {w : World} {K : PySem.W.Frag} {elts : List Expr} {kk : Nat} {tpos : Pos} {x y : Str} {t1 t2 : Tok} {l1 l2 z TI TO i1 i2 : Addr} (D : ZipApart z TI TO i1 i2 l1 l2) :
    Turn P w K (.Tuple elts kk tpos) (ItzS x y) [z, TI, TO, i1, i2] z (fun i h => IsZip h z TI TO .none ∧ IsPair h TI (.ref i1) (.ref i2) ∧ (∃ x y, IsPair h TO x y) ∧ At8 h i1 x t1 i ∧ At8 h i2 y t2 i) where
  mem := by simp
  obj := fun i h st c hc => by
    obtain ⟨hz, hTI, ⟨x, y, hTO⟩, ⟨o1, e1, _, d1⟩, ⟨o2, e2, _, d2⟩⟩ := st
    have e' : c = z ∨ c = TI ∨ c = TO ∨ c = i1 ∨ c = i2 := by simpa using hc
    rcases e' with q | q | q | q | q
    · rw [q]; exact ⟨_, hz, fun v q => nomatch q⟩
    · rw [q]; exact ⟨_, hTI, fun v q => nomatch q⟩
    · rw [q]; exact ⟨_, hTO, fun v q => nomatch q⟩
    · rw [q]; exact ⟨o1, e1, fun v q => by rw [d1] at q; cases q⟩
    · rw [q]; exact ⟨o2, e2, fun v q => by rw [d2] at q; cases q⟩
  keep := fun i h h' st k => by
    obtain ⟨hz, hTI, ⟨x, y, hTO⟩, h1, h2⟩ := st
    exact ⟨k z (by simp) _ hz, k TI (by simp) _ hTI, ⟨x, y, k TO (by simp) _ hTO⟩, at8_at h1 fun o q => k i1 (by simp) o q, at8_at h2 fun o q => k i2 (by simp) o q⟩
  item := by
    intro X hP hw hK hc i pins s σ H E I hf st hg
    subst hP hw hK
    obtain ⟨hz, hTI, ⟨x0, y0, hTO⟩, h1, h2⟩ := st
    obtain ⟨hx, hy⟩ := hg
    obtain ⟨c1, ex⟩ : ∃ c, x.cps[i]? = some c := ⟨_, Array.getElem?_eq_getElem hx⟩
    obtain ⟨c2, ey⟩ : ∃ c, y.cps[i]? = some c := ⟨_, Array.getElem?_eq_getElem hy⟩
    have hzl : z < s.heap.objs.size := Heap.lt_size hz
    refine pyNext_zipS_item D hz hTI hTO h1 h2 ex ey fun h' u v z' TO' h1' h2' hT hsz hk => ?_
    refine ⟨_, rfl, wpAny_letOwnedTupleGo_zip (s := { s with heap := h', toks := s.toks + 2 }) z' fun h'' z'' sb => ?_⟩
    have hT2 : h''.get? s.heap.objs.size = some { cls := .type "tuple", data := .seq #[.str ⟨#[c1]⟩ u, .str ⟨#[c2]⟩ v] } := (sb.2 _ (Nat.ne_of_gt hzl)).trans hT
    have new : ObjOk X.prog X.w (upd H s.heap.objs.size (.tup [.str ⟨#[c1]⟩, .str ⟨#[c2]⟩])) h'' s.heap.objs.size (.tup [.str ⟨#[c1]⟩, .str ⟨#[c2]⟩]) :=
      ⟨by show 2 ≤ sizeLine; decide, [_, _], .cons ⟨u, rfl⟩ (.cons ⟨v, rfl⟩ .nil), ⟨_, hT2, rfl, _, rfl⟩⟩
    have I1 : Inv X pins σ (upd H s.heap.objs.size (.tup [.str ⟨#[c1]⟩, .str ⟨#[c2]⟩])) { s with heap := h'', toks := s.toks + 2 } :=
      I.turnedNew (t' := s.toks + 2) (ch := [z, TI, TO, i1, i2]) (fun c o hb q => (sb.2 c (fun q' => hb (by simp [q']))).trans (hk c o (fun q' => hb (by simp [q'])) (fun q' => hb (by simp [q'])) (fun q' => hb (by simp [q'])) (fun q' => hb (by simp [q'])) q)) hf (Nat.le_refl _) new
    refine ⟨.ref s.heap.objs.size, _, I1, rfl, ⟨_, _, _, rfl, I.hok.fresh (Nat.le_refl _), rfl, ex, ey⟩, ⟨z'', ?_, ⟨.str ⟨#[c1]⟩ u, .str ⟨#[c2]⟩ v, ?_⟩, ?_, ?_⟩, fun c hcm => ?_⟩
    · exact (sb.2 _ D.TIz).trans (hk _ _ D.TIz D.TITO D.TIi1 D.TIi2 hTI)
    · exact (sb.2 _ D.TOz).trans TO'
    · exact at8_at h1' fun o q => (sb.2 _ D.i1z).trans q
    · exact at8_at h2' fun o q => (sb.2 _ D.i2z).trans q
    · have hlt : c < s.heap.objs.size := by
        have e' : c = z ∨ c = TI ∨ c = TO ∨ c = i1 ∨ c = i2 := by simpa using hcm
        rcases e' with q | q | q | q | q
        · rw [q]; exact hzl
        · rw [q]; exact Heap.lt_size hTI
        · rw [q]; exact Heap.lt_size hTO
        · rw [q]; obtain ⟨_, e1, _⟩ := h1; exact Heap.lt_size e1
        · rw [q]; obtain ⟨_, e2, _⟩ := h2; exact Heap.lt_size e2
      rw [upd_ne (Nat.ne_of_lt hlt)]
      exact (hf c hcm).1
  done := by
    intro X hP hw hK hc i pins s σ H E I hf st hg
    subst hP hw hK
    obtain ⟨hz, hTI, ⟨x0, y0, hTO⟩, h1, h2⟩ := st
    have he : x.cps[i]? = none ∨ y.cps[i]? = none := by
      rcases hg with q | q
      · exact .inl (Array.getElem?_eq_none q)
      · exact .inr (Array.getElem?_eq_none q)
    exact pyNext_zipS_end (I.ok.hd hc) D hz hTI hTO h1 h2 he fun h' tk' hk => ⟨rfl, I.turnedL (t' := tk') (ch := [z, TI, TO, i1, i2]) (fun c o hb q =>
      hk c o (fun q' => hb (by simp [q'])) (fun q' => hb (by simp [q'])) (fun q' => hb (by simp [q'])) (fun q' => hb (by simp [q'])) q) hf⟩
  self := fun A i s Q E st h => wpAny_pyIter_zip st.1 h
section
variable {X : Cx} {σ : L2.St} {H : Hp} {e a b : Expr} {p pos tpos : Pos} {elts : List Expr} {kk : Nat}
theorem i_zipS {R : It → Hp → Prop} (B : Blt X.mg X.base) (h : wE X a σ H fun v H1 => wE X b σ H1 fun u H2 => ∃ x y : Str, v = .str x ∧ u = .str y ∧ x.cps.all (· < 128) = true ∧ y.cps.all (· < 128) = true ∧ R (ItzS x y) H2) (hg : Gl X "zip" := by rfl)
    (hs : starEach [a, b] X.env = (false, eval a X.env) :: starEach [b] X.env := by rfl) (hs2 : starEach [b] X.env = [(false, eval b X.env)] := by rfl) :
    wI X (.Tuple elts kk tpos) (.Call (.Name "zip" p) [a, b] [] pos) σ H R := by
  have ha : wA X [a, b] σ H fun vs H2 => ∃ x y : Str, vs = [.str x, .str y] ∧ x.cps.all (· < 128) = true ∧ y.cps.all (· < 128) = true ∧ R (ItzS x y) H2 :=
    a_cons (wE_mono h fun v H1 q => a_cons (wE_mono q fun u H2 ⟨x, y, e1, e2, r⟩ => a_nil ⟨x, y, by rw [e1, e2], r⟩) hs2) hs
  refine ⟨fun pins s I => ?_⟩
  refine Call_ (ld_blt I hg B.zip PyProof.Rows.boot_zip (PyProof.Rows.callWith_type1 (thn (ha.run pos pins _ I) fun us s1 ⟨vs, H1, I1, r1, q1⟩ => ?_) hs (by rw [hs2]; rfl)))
  obtain ⟨x, y, ex, hx, hy, q⟩ := q1
  subst ex
  obtain ⟨u1, u2, rfl, ⟨t1, rfl⟩, ⟨t2, rfl⟩⟩ := vals2 r1
  have fresh5 : ∀ c, c ∈ [s1.heap.objs.size + 4, s1.heap.objs.size + 2, s1.heap.objs.size + 3, s1.heap.objs.size, s1.heap.objs.size + 1] → FpOk X pins H1 c := fun c hcm => by
    have e' : c = s1.heap.objs.size + 4 ∨ c = s1.heap.objs.size + 2 ∨ c = s1.heap.objs.size + 3 ∨ c = s1.heap.objs.size ∨ c = s1.heap.objs.size + 1 := by simpa using hcm
    have hle : s1.heap.objs.size ≤ c := by
      rcases e' with z | z | z | z | z
      · rw [z]; exact Nat.le_add_right _ _
      · rw [z]; exact Nat.le_add_right _ _
      · rw [z]; exact Nat.le_add_right _ _
      · rw [z]; exact Nat.le_refl _
      · rw [z]; exact Nat.le_add_right _ _
    exact I1.fpOk hle (I1.hok.fresh hle)
  obtain ⟨m, ⟨oL, _, _, hoL, _⟩, _⟩ := id I1.loc
  refine call_zipS hx hy fun h' hz hTI hTO h1 h2 hsz hk => wpAny_pyIter_zip hz ?_
  have I2 : Inv X pins σ H1 { s1 with heap := h' } := I1.kept (t' := s1.toks) hk
  exact ⟨s1.heap.objs.size + 4, [s1.heap.objs.size + 4, s1.heap.objs.size + 2, s1.heap.objs.size + 3, s1.heap.objs.size, s1.heap.objs.size + 1], _, _, H1, rfl, I2, turn_zipS (PySem.W.ktu_apart s1.heap.objs.size _ _ (Heap.lt_size hoL) (Heap.lt_size hoL)), ⟨hz, hTI, ⟨_, _, hTO⟩, h1, h2⟩, fresh5, q⟩
end
theorem walk_zipS {x y : Str} {n : Nat} (hn : n = min x.cps.size y.cps.size) : Walk (ItzS x y) n (fun _ => True) (fun i H v H' => ∃ T c d, v = .ref T ∧ H T = none ∧ H' = upd H T (.tup [.str ⟨#[c]⟩, .str ⟨#[d]⟩]) ∧ x.cps[i]? = some c ∧ y.cps[i]? = some d) := by
  subst hn
  exact ⟨fun i _ hi _ => ⟨by omega, by omega⟩, fun _ _ => by show _ ∨ _; omega, fun _ _ _ _ _ _ y => y⟩
end Z

set_option Elab.async false
set_option linter.all false
set_option maxRecDepth 100000
set_option maxHeartbeats 4000000
/-! rules by value, slices, methods -/
namespace Z
open PySem PySem.Spec PyProof.Rows L2
section
variable {X : Cx} {k : Nat} {W : WX} {σ : L2.St} {H : Hp} {e a b o : Expr} {es : List Expr} {p p2 pos : Pos} {Q : VK}
theorem o_add {i j : Int} (q : Q (.int (i + j)) H) : oW X (binaryOp .Add) (.int i) (.int j) H Q := oW_of op_add ⟨i, j, rfl, rfl, q⟩
theorem o_sub {i j : Int} (q : Q (.int (i - j)) H) : oW X (binaryOp .Sub) (.int i) (.int j) H Q := oW_of op_sub ⟨i, j, rfl, rfl, q⟩
theorem o_mul {i j : Int} (h : CMul i j) (q : Q (.int (i * j)) H) : oW X (binaryOp .Mult) (.int i) (.int j) H Q := oW_of op_mul ⟨i, j, rfl, rfl, h, q⟩
theorem o_div {i j : Int} (h : CDiv i j) (q : Q (.int (i / j)) H) : oW X (binaryOp .FloorDiv) (.int i) (.int j) H Q := oW_of op_fdiv ⟨i, j, rfl, rfl, h, q⟩
theorem o_mod {i j : Int} (h : 0 < j) (q : Q (.int (i % j)) H) : oW X (binaryOp .Mod) (.int i) (.int j) H Q := oW_of op_mod ⟨i, j, rfl, rfl, h, q⟩
theorem o_pow {i j : Int} (h : CPow i j) (q : Q (.int (i ^ j.toNat)) H) : oW X (binaryOp .Pow) (.int i) (.int j) H Q := oW_of op_pow ⟨i, j, rfl, rfl, h, q⟩
theorem o_adds {i j : Str} (h : i.length + j.length ≤ sizeLine) (q : Q (.str (i ++ j)) H) : oW X (binaryOp .Add) (.str i) (.str j) H Q := oW_of op_add_str ⟨i, j, rfl, rfl, h, q⟩
theorem u_neg {i : Int} (q : Q (.int (-i)) H) : uW X (unaryOp .USub) (.int i) H Q := uW_of un_neg ⟨i, rfl, q⟩
theorem c_lt {i j : Int} (q : Q (.bl (decide (i < j))) H) : oW X (compareOp .Lt) (.int i) (.int j) H Q := oW_of op_lt ⟨i, j, rfl, rfl, q⟩
theorem c_le {i j : Int} (q : Q (.bl (decide (i ≤ j))) H) : oW X (compareOp .LtE) (.int i) (.int j) H Q := oW_of op_le ⟨i, j, rfl, rfl, q⟩
theorem c_gt {i j : Int} (q : Q (.bl (decide (j < i))) H) : oW X (compareOp .Gt) (.int i) (.int j) H Q := oW_of op_gt ⟨i, j, rfl, rfl, q⟩
theorem c_ge {i j : Int} (q : Q (.bl (decide (j ≤ i))) H) : oW X (compareOp .GtE) (.int i) (.int j) H Q := oW_of op_ge ⟨i, j, rfl, rfl, q⟩
theorem c_eq {x y : V} (h : scal x y = true) (q : Q (.bl (decide (x = y))) H) : oW X (compareOp .Eq) x y H Q := oW_of op_eq ⟨h, q⟩
theorem c_ne {x y : V} (h : scal x y = true) (q : Q (.bl (!decide (x = y))) H) : oW X (compareOp .NotEq) x y H Q := oW_of op_ne ⟨h, q⟩
theorem c_isN {x : V} (q : Q (.bl (decide (x = .non))) H) : oW X (compareOp .Is) x .non H Q := oW_of op_isN ⟨rfl, q⟩
theorem c_notN {x : V} (q : Q (.bl (!decide (x = .non))) H) : oW X (compareOp .IsNot) x .non H Q := oW_of op_notN ⟨rfl, q⟩
theorem c_ltS {i j : Str} (q : Q (.bl (decide (i.cps.toList < j.cps.toList))) H) : oW X (compareOp .Lt) (.str i) (.str j) H Q := oW_of op_lt_str ⟨i, j, rfl, rfl, q⟩
theorem c_inSign {c : Nat} {z : Str} (q : Q (.bl (decide (c ∈ z.cps.toList))) H) : oW X (compareOp .In) (.str ⟨#[c]⟩) (.str z) H Q := oW_of op_in_sign ⟨c, z, rfl, rfl, q⟩
theorem c_inL {x : V} {q : Addr} {xs : List V} (hq : SqL X.K H q xs ∨ SqT X.K H q xs) (fx : flatV x = true) (fs : xs.all flatV = true) (h : Q (.bl (inV x xs)) H) : oW X (compareOp .In) x (.ref q) H Q := oW_of op_in_seq ⟨q, xs, rfl, hq, fx, fs, by exact h⟩
theorem c_notInL {x : V} {q : Addr} {xs : List V} (hq : SqL X.K H q xs ∨ SqT X.K H q xs) (fx : flatV x = true) (fs : xs.all flatV = true) (h : Q (.bl (!inV x xs)) H) : oW X (compareOp .NotIn) x (.ref q) H Q := oW_of op_notIn_seq ⟨q, xs, rfl, hq, fx, fs, by exact h⟩

/-- the part of a slice -/
def wO (X : Cx) (e : Option Expr) : L2.TO := match e with | none => tNoPart | some e => tPart (wE X e)
theorem pO {e : Option Expr} : PO X e (wO X e) := match e with | none => po_none | some _ => po_some pE
theorem e_slice {r : V → Option Int → Option Int → Hp → VK → Prop} {lo hi : Option Expr} (hr : SlR X r) (h : wE X e σ H fun x H1 => wO X lo σ H1 fun l H2 => wO X hi σ H2 fun u H3 => r x l u H3 Q) : wE X (.Subscript e (.Slice lo hi none p2) pos) σ H Q :=
  eE (pe_slice hr pE pO pO) h
theorem p_none {R : Option Int → Hp → Prop} (h : R none H) : wO X none σ H R := h
theorem p_some {R : Option Int → Hp → Prop} (h : wE X e σ H fun x H1 => ∃ i, x = .int i ∧ R (some i) H1) : wO X (some e) σ H R := h
/-- "..".join(xs) -/
theorem e_join {apos : Pos} (h : wE X o σ H fun x H1 => ∃ s : Str, x = .str s ∧ wE X a σ H1 fun y H2 => ∃ q, ∃ ys : List Str, y = .ref q ∧ (SqL X.K H2 q (ys.map V.str) ∨ SqT X.K H2 q (ys.map V.str)) ∧ (ys.map (·.length)).sum + ys.length * s.length ≤ 16777216 ∧ Q (.str (Txt.join s ys)) H2)
    (hs : starEach [a] X.env = [(false, eval a X.env)] := by rfl) (hbase : attributeBase o "join" X.env (eval o X.env) = eval o X.env := by rfl) (hline : (apos.endLine == pos.line) = true := by rfl) : wE X (.Call (.Attribute o "join" apos) [a] [] pos) σ H Q :=
  eE (pe_join pE pE hs hbase hline) (wE_mono h fun x H1 ⟨s, e1, h1⟩ => ⟨⟨s, e1⟩, wE_mono h1 fun y H2 ⟨q, ys, e2, h2, h3, h4⟩ => ⟨s, q, ys, e1, by rw [e2], h2, h3, h4⟩⟩)
/-- xs.append(v) -/
theorem e_append {apos : Pos} (h : wE X o σ H fun x H1 => ∃ q, x = .ref q ∧ (∃ ys, H1 q = some (.lst ys)) ∧ wE X a σ H1 fun y H2 => ∃ xs, H2 q = some (.lst xs) ∧ xs.length < sizeLine ∧ Q .non (upd H2 q (.lst (xs ++ [y]))))
    (hs : starEach [a] X.env = [(false, eval a X.env)] := by rfl) (hbase : attributeBase o "append" X.env (eval o X.env) = eval o X.env := by rfl) (hline : (apos.endLine == pos.line) = true := by rfl)
    (hfew : ((backTo pos (starEach [a] X.env)).all (fun x => !x.1) && (backToKw pos (keywordEach [] X.env)).all (fun x => x.1.isSome) && decide (([a] : List Expr).length + ([] : List Keyword).length + (if ([] : List Keyword).isEmpty then 0 else 1) < 30)) = true := by rfl) :
    wE X (.Call (.Attribute o "append" apos) [a] [] pos) σ H Q :=
  eE (pe_bm PySem.F.plainAttrs_list PySem.F.slot_list_append PySem.F.type_list_append mt_append pE pA hbase hfew hline (by rw [hs]; rfl) rfl)
    (wE_mono h fun x H1 ⟨q, e1, ⟨ys, h0⟩, h1⟩ => ⟨by rw [e1]; exact .inl ⟨rfl, ys, .inl (.inl h0)⟩, a_cons (wE_mono h1 fun y H2 ⟨xs, h2, h3, h4⟩ => a_nil ⟨q, xs, y, e1, rfl, h2, h3, h4⟩) (by rw [hs]; rfl)⟩)
end
end Z

set_option Elab.async false
set_option linter.all false
set_option maxRecDepth 100000
set_option maxHeartbeats 4000000
/-! comprehensions that only read -/
namespace Z
open PySem PySem.Spec PyProof.Rows L2
section
variable {X : Cx} {k : Nat} {W : WX} {σ : L2.St} {H : Hp} {pos : Pos} {Q : VK} {elt tg iter : Expr} {scope : Scope}
/-- one turn that only reads: the item x, the heap H; the target is bound, the element told -/
def MapTurn (X : Cx) (scope : Scope) (vs : List Nat) (tg elt : Expr) (σ : L2.St) (x : V) (H : Hp) (R : V → Prop) : Prop :=
  wGb X scope tg x (wipe σ vs) H fun σ2 H2 => wipe σ2 vs = wipe σ vs ∧ But [] H H2 ∧ wEb X scope elt σ2 H2 fun v H4 => R v ∧ But [] H2 H4
theorem lcM_core {J : It} {n : Nat} {G : Hp → Prop} {Y : Nat → Hp → V → Hp → Prop} {own : List (Str × Nat)} {H1 : Hp} {ys : List V} (w : Walk J n G Y) (hn : ys.length = n) (hz : n ≤ sizeLine) (hG : ∀ H', But [] H1 H' → G H')
    (ht : ∀ i x H2 H', i < n → But [] H1 H2 → Y i H2 x H' → But [] H2 H' ∧ MapTurn X scope (own.map (·.2)) tg elt σ x H' fun v => ys[i]? = some v) {Qd : Addr → Hp → Prop}
    (hq : ∀ D H', But [] H1 H' → H1 D = none → H' D = some (.lst ys) → Qd D H') : ∀ D, H1 D = none → ∃ Pv : Nat → Hp → Prop, Pv 0 (upd H1 D (.lst [])) ∧ (∀ i H, i ≤ n → Pv i H → G H) ∧
      (∀ i x H H', i < n → Pv i H → Y i H x H' → LcTurn X scope (own.map (·.2)) tg [] elt σ D x H' (Pv (i + 1))) ∧ ∀ H, Pv n H → Qd D H := by
  intro D hD
  refine ⟨fun i H' => But [] H1 H' ∧ H' D = some (.lst (ys.take i)), ⟨But.new hD, by rw [upd_same]; rfl⟩, fun i H' _ h => hG H' h.1, ?_, fun H' h => hq D H' h.1 hD (by rw [h.2, ← hn, List.take_length])⟩
  intro i x H2 H' hi hP hY
  obtain ⟨hb, hm⟩ := ht i x H2 H' hi hP.1 hY
  intro s H0 C cl fp
  refine ⟨fun pins s2 u I r => thn ((hm s H0 C cl fp).run pins s2 u I r) fun _ s3 h3 => ?_⟩
  obtain ⟨σ', H3, I3, e1, b3, h3⟩ := h3
  refine ⟨σ', H3, I3, e1, fun s H0 C cl fp => eIf pts_nil ?_⟩
  intro s H0 C cl fp
  refine wE_mono (h3 s H0 C cl fp) fun v H4 ⟨hv, b4⟩ => ?_
  have hD4 : H4 D = some (.lst (ys.take i)) := b4 _ _ (by simp) (b3 _ _ (by simp) (hb _ _ (by simp) hP.2))
  refine ⟨_, hD4, by have := List.length_take_le i ys; rw [List.length_take]; omega, ?_, ?_⟩
  · refine fun q o _ e => ?_
    have ne : q ≠ D := ne_of_none e hD
    rw [upd_ne ne]
    exact b4 _ _ (by simp) (b3 _ _ (by simp) (hb _ _ (by simp) (hP.1 _ _ (by simp) e)))
  · rw [upd_same, List.take_add_one, hv]
    rfl
theorem e_lcM (own : List (Str × Nat)) (C : Cxt X k W)
    (h : wI X tg iter σ H fun J H1 => ∃ n G Y ys, Walk J n G Y ∧ ys.length = n ∧ n ≤ sizeLine ∧ (∀ H', But [] H1 H' → G H') ∧
      (∀ i x H2 H', i < n → But [] H1 H2 → Y i H2 x H' → But [] H2 H' ∧ MapTurn X scope (own.map (·.2)) tg elt σ x H' fun v => ys[i]? = some v) ∧
      ∀ D H', But [] H1 H' → H1 D = none → H' D = some (.lst ys) → Q (.ref D) H')
    (ok : BlkOk X.N X.env.scope scope own := by exact blkOk_by (by first | rfl | kernel_rfl)) (hs : ∀ x, foldedSetIterable iter X.env x = pure x := by intro _; rfl) :
    wE X (.ListComp elt [⟨tg, iter, [], 0⟩] scope pos) σ H Q :=
  e_lc own C (wI_mono h fun J H1 ⟨n, G, Y, ys, w, h1, h2, h3, h4, h5⟩ => ⟨n, G, Y, w, lcM_core w h1 h2 h3 h4 h5⟩) ok hs
/-- the target is a name -/
theorem mt_name {i : Nat} {y : Str} {p : Pos} {vs : List Nat} {x : V} {R : V → Prop} (hN : X.N.Nodup)
    (h : wEb X scope elt ((wipe σ vs).set i (some x)) H fun v H4 => R v ∧ But [] H H4) (hw : wipe ((wipe σ vs).set i (some x)) vs = wipe σ vs := by rfl) (hi : X.N[i]? = some y := by rfl)
    (hx : Loc (relS scope X.env.scope) y := by first | exact Or.inl rfl | exact Or.inr rfl) (hf : (scope.names.lookup y == some .cell) = true ∨ (relS scope X.env.scope).names.lookup y = some .local := by first | exact .inl rfl | exact .inr rfl) :
    MapTurn X scope vs (.Name y p) elt σ x H R := by
  intro s H0 C cl fp
  exact g_name (i := i) ⟨hw, But.refl, h⟩ hN hi hx hf
/-- the target is a pair of names -/
theorem mt_pair {i j : Nat} {y z : Str} {p p' pt : Pos} {kt} {vs : List Nat} {q : Addr} {u v : V} {R : V → Prop} (hc : X.calm = true) (hN : X.N.Nodup) (hq : H q = some (.tup [u, v]))
    (h : wEb X scope elt (((wipe σ vs).set i (some u)).set j (some v)) H fun v H4 => R v ∧ But [] H H4) (hw : wipe (((wipe σ vs).set i (some u)).set j (some v)) vs = wipe σ vs := by rfl) (hi : X.N[i]? = some y := by rfl) (hj : X.N[j]? = some z := by rfl)
    (hx : Loc (relS scope X.env.scope) y := by first | exact Or.inl rfl | exact Or.inr rfl) (hf : (scope.names.lookup y == some .cell) = true ∨ (relS scope X.env.scope).names.lookup y = some .local := by first | exact .inl rfl | exact .inr rfl)
    (hx2 : Loc (relS scope X.env.scope) z := by first | exact Or.inl rfl | exact Or.inr rfl) (hf2 : (scope.names.lookup z == some .cell) = true ∨ (relS scope X.env.scope).names.lookup z = some .local := by first | exact .inl rfl | exact .inr rfl) :
    MapTurn X scope vs (.Tuple [.Name y p, .Name z p'] kt pt) elt σ (.ref q) H R := by
  intro s H0 C cl fp
  refine g_tup (gs_cons (g_name (i := i) (gs_cons (g_name (i := j) (gs_nil ⟨hw, But.refl, h⟩) hN hj hx2 hf2)) hN hi hx hf)) hc (.inl (.inl hq))
/-- if c: u else: v, where the test only reads -/
theorem s_ifB {c : Expr} {u v : List Stmt} {D : Ends} (b : Bool) (ht : wT X c σ H fun x H1 => x = b ∧ But [] H H1) (h1 : b = true → ∀ H1, But [] H H1 → wB X u D σ H1) (h2 : b = false → ∀ H1, But [] H H1 → wB X v D σ H1) : wS X (.If c u v pos) D σ H :=
  s_if (wT_mono ht fun x H1 ⟨e, k⟩ => by
    subst e
    split
    · rename_i e
      exact h1 e H1 k
    · rename_i e
      exact h2 (by simpa using e) H1 k)
theorem ite_b {p q : Prop} {b : Bool} (h1 : b = true → p) (h2 : b = false → q) : if b = true then p else q := by
  cases b with
  | true => exact h1 rfl
  | false => exact h2 rfl
end
end Z

/-! plain: a text in pieces -/
set_option Elab.async false
set_option linter.all false
namespace Z
open PySem PySem.Spec PyProof.Rows L2 TL
def sOf (l : List Nat) : Str := ⟨l.toArray⟩
theorem sOf_list {l : List Nat} : (sOf l).cps.toList = l := by simp [sOf]
theorem sOf_len {l : List Nat} : (sOf l).length = l.length := by show (sOf l).cps.size = _; simp [sOf]
theorem sOf_str (x : Str) : sOf x.cps.toList = x := by cases x; simp [sOf]
theorem str_ext {x y : Str} (h : x.cps.toList = y.cps.toList) : x = y := by rw [← sOf_str x, ← sOf_str y, h]
def chunks (l : List Nat) (n : Nat) : List (List Nat) := if l.length ≤ n then [l] else (List.range ((l.length + n - 1) / n)).map fun i => (l.drop (i * n)).take n
theorem chunk_flat (l : List Nat) (n : Nat) : ∀ m, ((List.range m).map fun i => (l.drop (i * n)).take n).flatten = l.take (m * n)
  | 0 => by simp
  | m + 1 => by
    rw [List.range_succ, List.map_append, List.flatten_append, chunk_flat l n m]
    simp only [List.map_cons, List.map_nil, List.flatten_cons, List.flatten_nil, List.append_nil]
    rw [Nat.add_mul, Nat.one_mul, List.take_add]
theorem up_div {a n : Nat} (hn : 0 < n) : a ≤ (a + n - 1) / n * n := by
  have h := Nat.lt_div_mul_add hn (a := a + n - 1)
  omega
theorem chunks_flatten (l : List Nat) {n : Nat} (hn : 0 < n) : (chunks l n).flatten = l := by
  unfold chunks
  split
  · simp
  · rw [chunk_flat, List.take_of_length_le (up_div hn)]
theorem chunks_length (l : List Nat) {n : Nat} (hn : 0 < n) : (chunks l n).length = max 1 ((l.length + n - 1) / n) := by
  unfold chunks
  split
  · rename_i h
    have : (l.length + n - 1) / n ≤ 1 := by
      rw [← Nat.lt_succ_iff, Nat.div_lt_iff_lt_mul hn]
      omega
    simp only [List.length_singleton]
    omega
  · rename_i h
    rw [List.length_map, List.length_range]
    have : 1 ≤ (l.length + n - 1) / n := by
      rw [Nat.le_div_iff_mul_le hn]
      omega
    omega
theorem chunks_last (l : List Nat) {n : Nat} (hn : 0 < n) : ∀ p ∈ (chunks l n).getLast?, p.length ≤ n := by
  unfold chunks
  split
  · simp_all
  · intro p hp
    obtain ⟨i, hi⟩ : ∃ i, p = (l.drop (i * n)).take n := by
      have := List.mem_of_getLast? hp
      obtain ⟨i, _, e⟩ := List.mem_map.mp this
      exact ⟨i, e.symm⟩
    rw [hi]
    exact List.length_take_le _ _
theorem chunks_each (l : List Nat) {n : Nat} (hn : 0 < n) : ∀ p ∈ chunks l n, p.length ≤ n := by
  unfold chunks
  split
  · simp_all
  · intro p hp
    obtain ⟨i, _, e⟩ := List.mem_map.mp hp
    rw [← e]
    exact List.length_take_le _ _
theorem chunks_init (l : List Nat) {n : Nat} (hn : 0 < n) : ∀ p ∈ (chunks l n).dropLast, p.length = n := by
  unfold chunks
  split
  · simp
  · rename_i h
    intro p hp
    rw [← List.map_dropLast] at hp
    obtain ⟨i, hi, e⟩ := List.mem_map.mp hp
    have hi2 : i + 1 < (l.length + n - 1) / n := by
      obtain ⟨j, hj, ej⟩ := List.getElem_of_mem hi
      rw [List.getElem_dropLast, List.getElem_range] at ej
      rw [List.length_dropLast, List.length_range] at hj
      omega
    have : (i + 2) * n ≤ l.length + n - 1 := by
      rw [← Nat.le_div_iff_mul_le hn]
      omega
    rw [← e, List.length_take, List.length_drop]
    have e2 : (i + 2) * n = i * n + 2 * n := Nat.add_mul i 2 n
    omega
theorem chunks_ne (l : List Nat) {n : Nat} (hn : 0 < n) (hl : l ≠ []) : ∀ p ∈ chunks l n, p ≠ [] := by
  intro p hp hp0
  unfold chunks at hp
  split at hp
  · simp at hp
    exact hl (hp ▸ hp0)
  · obtain ⟨i, hi, e⟩ := List.mem_map.mp hp
    rw [List.mem_range, Nat.lt_iff_add_one_le, Nat.le_div_iff_mul_le hn, Nat.add_mul, Nat.one_mul] at hi
    have h2 : ((l.drop (i * n)).take n).length = 0 := by rw [e, hp0]; rfl
    rw [List.length_take, List.length_drop] at h2
    omega
theorem joinL_nil : ∀ ps : List (List Nat), joinL [] ps = ps.flatten
  | [] => rfl
  | [p] => by simp [joinL]
  | p :: q :: r => by
    have := joinL_nil (q :: r)
    simp only [joinL, List.nil_append, this, List.flatten_cons]
theorem join_nil (ls : List (List Nat)) : Txt.join "" (ls.map sOf) = sOf ls.flatten := by
  apply str_ext
  rw [sOf_list, join_eq]
  have := tl_join "" (ls.map sOf)
  show tl _ = _
  rw [this, List.map_map]
  have e1 : tl "" = [] := rfl
  have e2 : tl ∘ sOf = id := by
    funext l
    exact sOf_list
  rw [e1, joinL_nil, e2, List.map_id]
end Z

set_option Elab.async false
set_option linter.all false
set_option maxRecDepth 100000
set_option maxHeartbeats 4000000
/-! plain: what can be shown -/
namespace Z
open PySem PySem.Spec PyProof.Rows L2 TL
/-- small enough to be shown -/
def rp (d : PyData) : Bool := d.showable && decide (d.depth ≤ 64) && d.leavesShort 40 && decide (d.weight ≤ 300000)
theorem rp_len {d : PyData} (h : rp d = true) : d.showable = true ∧ d.depth ≤ 64 ∧ d.shown.length ≤ sizeLine := by
  simp only [rp, Bool.and_eq_true, decide_eq_true_eq] at h
  have h2 := PyData.shown_le 40 (by decide) d h.1.2
  refine ⟨h.1.1.1, h.1.1.2, ?_⟩
  rw [sizeLine_eq]
  omega
theorem weight_strs : ∀ ys : List Str, PyData.weightAll (ys.map PyData.str) = (ys.map (·.length)).sum + ys.length
  | [] => rfl
  | y :: ys => by
    have := weight_strs ys
    simp only [List.map_cons, PyData.weightAll, List.sum_cons, List.length_cons, PyData.weight, this]
    show y.cps.size + 1 + _ = y.cps.size + _ + _
    omega
theorem depth_strs : ∀ ys : List Str, PyData.depthAll (ys.map PyData.str) ≤ 1
  | [] => by simp [PyData.depthAll]
  | y :: ys => by
    have := depth_strs ys
    simp only [List.map_cons, PyData.depthAll, PyData.depth]
    omega
theorem showable_strs : ∀ ys : List Str, PyData.showableAll (ys.map PyData.str) = true
  | [] => rfl
  | y :: ys => by simp [PyData.showableAll, PyData.showable, showable_strs ys]
theorem leaves_strs : ∀ ys : List Str, (∀ y ∈ ys, ∀ c ∈ y.cps.toList, c < 4294967296) → PyData.leavesShortAll 40 (ys.map PyData.str) = true
  | [], _ => rfl
  | y :: ys, h => by
    simp only [List.map_cons, PyData.leavesShortAll, PyData.leavesShort, leaves_strs ys (fun z hz => h z (by simp [hz])), Bool.and_true, List.all_eq_true, decide_eq_true_eq]
    intro c hc
    exact h y (by simp) c hc
theorem rp_strs {ys : List Str} (hs : (ys.map (·.length)).sum + ys.length ≤ 300000) (hc : ∀ y ∈ ys, ∀ c ∈ y.cps.toList, c < 4294967296) : rp (.list (ys.map PyData.str)) = true := by
  have := depth_strs ys
  have e1 : (PyData.list (ys.map PyData.str)).depth ≤ 64 := by simp only [PyData.depth]; omega
  have e2 : (PyData.list (ys.map PyData.str)).weight ≤ 300000 := by simp only [PyData.weight, weight_strs]; omega
  have e3 : (PyData.list (ys.map PyData.str)).showable = true := by simp only [PyData.showable, showable_strs]
  have e4 : (PyData.list (ys.map PyData.str)).leavesShort 40 = true := by simp only [PyData.leavesShort, leaves_strs ys hc]
  rw [rp, e3, e4, decide_eq_true e1, decide_eq_true e2]
  rfl
theorem rp_str {y : Str} (hs : y.length ≤ 300000) (hc : ∀ c ∈ y.cps.toList, c < 4294967296) : rp (.str y) = true := by
  have e1 : (PyData.str y).depth ≤ 64 := by simp only [PyData.depth]; omega
  have e2 : (PyData.str y).weight ≤ 300000 := by simp only [PyData.weight]; exact hs
  have e3 : (PyData.str y).showable = true := by simp only [PyData.showable]
  have e4 : (PyData.str y).leavesShort 40 = true := by simp only [PyData.leavesShort, List.all_eq_true, decide_eq_true_eq]; exact fun c h => hc c h
  rw [rp, e3, e4, decide_eq_true e1, decide_eq_true e2]
  rfl
section
variable {X : Cx} {k : Nat} {W : WX} {σ : L2.St} {H : Hp} {a : Expr} {p pos : Pos} {Q : VK}
theorem e_rep (B : Blt X.mg X.base) (hg : X.A.guards = some []) (hu : X.A.units + 66 < cLine) (h : wE X a σ H fun v H1 => ∃ l d, DD X.K l H1 v d ∧ rp d = true ∧ Q (.str d.shown) H1) (hgl : Gl X "repr" := by rfl) (hs : starEach [a] X.env = [(false, eval a X.env)] := by rfl) :
    wE X (.Call (.Name "repr" p) [a] [] pos) σ H Q :=
  e_repr B hg hu (wE_mono h fun v H1 ⟨l, d, h1, h2, q⟩ => ⟨l, d, h1, (rp_len h2).1, (rp_len h2).2.1, (rp_len h2).2.2, q⟩) hgl hs
theorem vals_rev : ∀ {vs : List V} {us : List Value}, Vals vs us → Vals vs.reverse us.reverse
  | _, _, .nil => .nil
  | _, _, .cons r h => by
    rw [List.reverse_cons, List.reverse_cons]
    exact (vals_rev h).append (.cons r .nil)
end
end Z

set_option Elab.async false
set_option linter.all false
set_option maxRecDepth 100000
set_option maxHeartbeats 4000000
/-! literals of data; what stays across the making of lambdas -/
namespace Z
open PySem PySem.Spec PyProof.Rows L2 LamX
section
variable {X : Cx} {σ : L2.St} {l : List Addr} {H : Hp} {e a b : Expr} {es : List Expr}
theorem wA_mono {Q Q' : List V → Hp → Prop} (h : wA X es σ H Q) (k : ∀ v H', Q v H' → Q' v H') : wA X es σ H Q' := ⟨fun pos pins s I => thn (h.run pos pins s I) fun _ _ ⟨v, H', I', r, q⟩ => ⟨v, H', I', r, k v H' q⟩⟩
theorem DDs.mem {K : PySem.W.Frag} : ∀ {vs : List V} {ds : List PyData} {v : V}, DDs K l H vs ds → v ∈ vs → ∃ d ∈ ds, DD K l H v d
  | _, _, _, .nil, h => by simp at h
  | _, _, _, .cons h r, e => by
    rcases List.mem_cons.mp e with e | e
    · subst e
      exact ⟨_, by simp, h⟩
    · obtain ⟨d, hd, h'⟩ := DDs.mem r e
      exact ⟨d, by simp [hd], h'⟩
section
variable {K : PySem.W.Frag}
/-- e is told as the datum d, whatever is added to the heap; nothing of it lies at l -/
def Lit (K : PySem.W.Frag) (X : Cx) (l : List Addr) (σ : L2.St) (H : Hp) (e : Expr) (d : PyData) : Prop := ∀ H1, But [] H H1 → wE X e σ H1 fun v H2 => But [] H1 H2 ∧ DD K l H2 v d
def Lits (K : PySem.W.Frag) (X : Cx) (l : List Addr) (σ : L2.St) (H : Hp) (es : List Expr) (ds : List PyData) : Prop := ∀ H1, But [] H H1 → wA X es σ H1 fun vs H2 => But [] H1 H2 ∧ DDs K l H2 vs ds
/-- what stands at l is there -/
def Here (l : List Addr) (H : Hp) : Prop := ∀ q ∈ l, ∃ o, H q = some o
theorem Here.new {p : Addr} {H1 : Hp} (h : Here l H) (b : But [] H H1) (n : H1 p = none) : p ∉ l := fun z => by
  obtain ⟨o, e⟩ := h p z
  rw [b _ _ (by simp) e] at n
  cases n
theorem lit_none {j} {pos : Pos} : Lit K X l σ H (.Constant .none j pos) .none := fun _ _ => e_none ⟨But.refl, .non⟩
theorem lit_int {i : Int} {j} {pos : Pos} : Lit K X l σ H (.Constant (.int i) j pos) (.int i) := fun _ _ => e_int ⟨But.refl, .int i⟩
theorem lit_str {x : Str} {j} {pos : Pos} : Lit K X l σ H (.Constant (.str x) j pos) (.str x) := fun _ _ => e_str ⟨But.refl, .str x⟩
theorem lit_bool {b : Bool} {j} {pos : Pos} : Lit K X l σ H (.Constant (.bool b) j pos) (.bool b) := fun _ _ => e_bool ⟨But.refl, .bl b⟩
theorem lit_neg {i : Int} {j} {pos p2 : Pos} : Lit K X l σ H (.UnaryOp .USub (.Constant (.int i) j pos) p2) (.int (-i)) := fun _ _ => e_un (e_int (u_neg ⟨But.refl, .int _⟩))
theorem lit_pow {i k : Int} {j j'} {pos p2 p3 : Pos} (h : CPow i k) : Lit K X l σ H (.BinOp (.Constant (.int i) j pos) .Pow (.Constant (.int k) j' p2) p3) (.int (i ^ k.toNat)) := fun _ _ => e_bin (e_int (e_int (o_pow h ⟨But.refl, .int _⟩)))
theorem lits_nil : Lits K X l σ H [] [] := fun _ _ => a_nil ⟨But.refl, .nil⟩
theorem lits_cons {d : PyData} {ds : List PyData} (h : Lit K X l σ H e d) (r : Lits K X l σ H es ds) (hs : starEach (e :: es) X.env = (false, eval e X.env) :: starEach es X.env := by rfl) : Lits K X l σ H (e :: es) (d :: ds) := fun H1 b1 =>
  a_cons (wE_mono (h H1 b1) fun v H2 ⟨b2, h2⟩ => wA_mono (r H2 (b1.trans b2)) fun vs H3 ⟨b3, h3⟩ => ⟨b2.trans b3, .cons (h2.but b3.of) h3⟩) hs
theorem lit_lst {ds : List PyData} {pos : Pos} (hl : Here l H) (r : Lits K X l σ H es ds) (hn : ds.length ≤ 16777216 := by decide) : Lit K X l σ H (.List es pos) (.list ds) := fun H1 b1 =>
  e_lst (wA_mono (r H1 b1) fun vs H2 ⟨b2, h2⟩ => ⟨by rw [h2.length, sizeLine_eq]; exact hn, fun p hp => ⟨b2.trans (But.new hp), .lst (.inl (.inl upd_same)) (hl.new (b1.trans b2) hp) (h2.but (But.new hp))⟩⟩)
theorem lit_tup {ds : List PyData} {x1} {pos : Pos} (hl : Here l H) (r : Lits K X l σ H es ds) (hn : ds.length ≤ 16777216 := by decide) : Lit K X l σ H (.Tuple es x1 pos) (.tuple ds) := fun H1 b1 =>
  e_tup (wA_mono (r H1 b1) fun vs H2 ⟨b2, h2⟩ => ⟨by rw [h2.length, sizeLine_eq]; exact hn, fun p hp => ⟨b2.trans (But.new hp), .tup (.inl (.inl upd_same)) (hl.new (b1.trans b2) hp) (h2.but (But.new hp))⟩⟩)
theorem lit_dict0 {pos : Pos} (hl : Here l H) : Lit K X l σ H (.Dict [] [] pos) (.dict []) := fun H1 b1 =>
  eE pe_dnewK fun p hp => ⟨But.new hp, DD.dct (kvs := []) (ds := []) upd_same (hl.new b1 hp) .nil⟩
/-- a list of literals, as a list of values -/
theorem e_lits {ds : List PyData} {pos : Pos} {Q : VK} (hl : Here l H) (r : Lits K X l σ H es ds) (h : ∀ q vs H1, But [] H H1 → H1 q = some (.lst vs) → q ∉ l → DDs K l H1 vs ds → Q (.ref q) H1) (hn : ds.length ≤ 16777216 := by decide) : wE X (.List es pos) σ H Q :=
  e_lst (wA_mono (r H But.refl) fun vs H2 ⟨b2, h2⟩ => ⟨by rw [h2.length, sizeLine_eq]; exact hn, fun p hp => h p vs _ (b2.trans (But.new hp)) upd_same (hl.new b2 hp) (h2.but (But.new hp))⟩)
end
/-! data that is wholly tracked -/
theorem sql_all {K : PySem.W.Frag} {a : Addr} {xs : List V} (h : SqL [] H a xs) : SqL K H a xs := by
  rcases h with h | ⟨o, _, _, h, _⟩
  · exact .inl h
  · cases h
theorem sqt_all {K : PySem.W.Frag} {a : Addr} {xs : List V} (h : SqT [] H a xs) : SqT K H a xs := by
  rcases h with h | ⟨o, _, _, h, _⟩
  · exact .inl h
  · cases h
mutual
theorem DD.all {K : PySem.W.Frag} : ∀ {v : V} {d : PyData}, DD [] l H v d → DD K l H v d
  | _, _, .non => .non
  | _, _, .bl x => .bl x
  | _, _, .int x => .int x
  | _, _, .str x => .str x
  | _, _, .lst h n r => .lst (sql_all h) n (DDs.all r)
  | _, _, .tup h n r => .tup (sqt_all h) n (DDs.all r)
  | _, _, .dct h n r => .dct h n (DDs.all r)
theorem DDs.all {K : PySem.W.Frag} : ∀ {vs : List V} {ds : List PyData}, DDs [] l H vs ds → DDs K l H vs ds
  | _, _, .nil => .nil
  | _, _, .cons h r => .cons (DD.all h) (DDs.all r)
end
theorem sql_there {a : Addr} {xs : List V} (h : SqL [] H a xs) : ∃ o, H a = some o := by
  rcases h with (h | ⟨o, h⟩) | ⟨o, _, _, h, _⟩
  · exact ⟨_, h⟩
  · exact ⟨_, h⟩
  · cases h
theorem sqt_there {a : Addr} {xs : List V} (h : SqT [] H a xs) : ∃ o, H a = some o := by
  rcases h with (h | ⟨o, h⟩) | ⟨o, _, _, h, _⟩
  · exact ⟨_, h⟩
  · exact ⟨_, h⟩
  · cases h
theorem not_new {a t : Addr} (h : ∃ o, H a = some o) (n : a ∉ l) (ht : H t = none) : a ∉ t :: l := fun z => by
  rcases List.mem_cons.mp z with e | e
  · obtain ⟨o, h⟩ := h
    rw [e, ht] at h
    cases h
  · exact n e
mutual
theorem DD.add {t : Addr} (ht : H t = none) : ∀ {v : V} {d : PyData}, DD [] l H v d → DD [] (t :: l) H v d
  | _, _, .non => .non
  | _, _, .bl x => .bl x
  | _, _, .int x => .int x
  | _, _, .str x => .str x
  | _, _, .lst h n r => .lst h (not_new (sql_there h) n ht) (DDs.add ht r)
  | _, _, .tup h n r => .tup h (not_new (sqt_there h) n ht) (DDs.add ht r)
  | _, _, .dct h n r => .dct h (not_new ⟨_, h⟩ n ht) (DDs.add ht r)
theorem DDs.add {t : Addr} (ht : H t = none) : ∀ {vs : List V} {ds : List PyData}, DDs [] l H vs ds → DDs [] (t :: l) H vs ds
  | _, _, .nil => .nil
  | _, _, .cons h r => .cons (DD.add ht h) (DDs.add ht r)
end
end
/-! ### the weak keeping: tables may grow -/
def Ex (l : List Addr) (H H' : Hp) : Prop := ∀ q o, q ∉ l → H q = some o → (∀ ps, o ≠ .tbl ps) → H' q = some o
section
variable {l m : List Addr} {H H1 H2 : Hp}
theorem But.ex (b : But l H H1) : Ex l H H1 := fun q o n e _ => b q o n e
theorem ex_of (b : ExtN H H1) : Ex l H H1 := fun q o _ e n => b q o e n
theorem Ex.refl : Ex l H H := fun _ _ _ h _ => h
theorem Ex.trans (a : Ex l H H1) (b : Ex l H1 H2) : Ex l H H2 := fun q o n e t => b q o n (a q o n e t) t
theorem Ex.mono (a : Ex l H H1) (h : ∀ q ∈ l, q ∈ m) : Ex m H H1 := fun q o n e t => a q o (fun z => n (h q z)) e t
theorem Ex.lst (b : Ex l H H1) {q : Addr} {xs : List V} (n : q ∉ l) (h : H q = some (.lst xs)) : H1 q = some (.lst xs) := b _ _ n h fun ps z => by cases z
theorem Ex.sql {K : PySem.W.Frag} {a : Addr} {xs : List V} (b : Ex l H H1) (n : a ∉ l) (h : SqL K H a xs) : SqL K H1 a xs := by
  rcases h with (h | ⟨o, h⟩) | h
  · exact .inl (.inl (b _ _ n h fun ps z => by cases z))
  · exact .inl (.inr ⟨o, b _ _ n h fun ps z => by cases z⟩)
  · exact .inr h
theorem Ex.sqt {K : PySem.W.Frag} {a : Addr} {xs : List V} (b : Ex l H H1) (n : a ∉ l) (h : SqT K H a xs) : SqT K H1 a xs := by
  rcases h with (h | ⟨o, h⟩) | h
  · exact .inl (.inl (b _ _ n h fun ps z => by cases z))
  · exact .inl (.inr ⟨o, b _ _ n h fun ps z => by cases z⟩)
  · exact .inr h
mutual
theorem DD.ex {K : PySem.W.Frag} (b : Ex l H H1) : ∀ {v : V} {d : PyData}, DD K l H v d → DD K l H1 v d
  | _, _, .non => .non
  | _, _, .bl x => .bl x
  | _, _, .int x => .int x
  | _, _, .str x => .str x
  | _, _, .lst h n r => .lst (b.sql n h) n (DDs.ex b r)
  | _, _, .tup h n r => .tup (b.sqt n h) n (DDs.ex b r)
  | _, _, .dct h n r => .dct (b _ _ n h fun ps z => by cases z) n (DDs.ex b r)
theorem DDs.ex {K : PySem.W.Frag} (b : Ex l H H1) : ∀ {vs : List V} {ds : List PyData}, DDs K l H vs ds → DDs K l H1 vs ds
  | _, _, .nil => .nil
  | _, _, .cons h r => .cons (DD.ex b h) (DDs.ex b r)
end
/-- tables stand where only lists at l change -/
theorem tabs_but {T : List (Addr × Str)} (t : Tabs T H) (b : But l H H1) (hl : ∀ q ∈ l, ∃ xs, H q = some (.lst xs)) : Tabs T H1 := fun p hp => by
  obtain ⟨ps, h1, h2, h3⟩ := t p hp
  have n1 : p.1 ∉ l := fun z => by
    obtain ⟨xs, e⟩ := hl _ z
    rw [h1] at e
    cases e
  refine ⟨ps, b _ _ n1 h1, h2, fun pos cv hc => ?_⟩
  obtain ⟨c, e1, e2⟩ := h3 pos cv hc
  refine ⟨c, e1, b _ _ (fun z => ?_) e2⟩
  obtain ⟨xs, e⟩ := hl _ z
  rw [e2] at e
  unfold CodeO at e
  cases e
theorem tabs_new {T : List (Addr × Str)} (t : Tabs T H) (b : But [] H H1) : Tabs T H1 := tabs_but t b (by simp)
end
/-! ### texts in repr -/
theorem reprChar_ok : ∀ c, c < 128 → ((Builtin.Str.reprChar 34 c).all (fun d => decide (d < 1114112)) && (Builtin.Str.reprChar 39 c).all fun d => decide (d < 1114112)) = true := by decide +kernel
theorem repr_fold {q : Nat} (hq : q = 34 ∨ q = 39) : ∀ (l : List Nat) (acc : Array Nat), (∀ c ∈ l, c < 128) → (∀ c ∈ acc.toList, c < 1114112) → ∀ c ∈ (l.foldl (fun out c => out ++ (Builtin.Str.reprChar q c).toArray) acc).toList, c < 1114112
  | [], acc, _, h => h
  | a :: r, acc, h1, h2 => by
    rw [List.foldl_cons]
    refine repr_fold hq r _ (fun c hc => h1 c (by simp [hc])) fun c hc => ?_
    rw [Array.toList_append, List.mem_append] at hc
    rcases hc with hc | hc
    · exact h2 c hc
    · have h3 := reprChar_ok a (h1 a (by simp))
      simp only [Bool.and_eq_true, List.all_eq_true, decide_eq_true_eq] at h3
      rcases hq with rfl | rfl
      · exact h3.1 c (by simpa using hc)
      · exact h3.2 c (by simpa using hc)
theorem strOk_repr {x : Str} (h : ∀ c ∈ x.cps.toList, c < 128) : PyData.strOk (PyData.str x).shown = true := by
  rw [PyData.shown_str]
  have hq : PySem.reprQuote x = 34 ∨ PySem.reprQuote x = 39 := by
    unfold PySem.reprQuote
    split <;> simp
  have hq2 : PySem.reprQuote x < 1114112 := by rcases hq with e | e <;> omega
  have := repr_fold hq x.cps.toList #[PySem.reprQuote x] h (by simp [hq2])
  unfold PyData.strOk PySem.reprText
  rw [Array.all_eq_true']
  intro c hc
  rw [← Array.foldl_toList] at hc
  simp only [Array.mem_push] at hc
  rcases hc with hc | hc
  · have := this c (Array.mem_toList_iff.mpr hc)
    simpa using this
  · simp [hc, hq2]
end Z

set_option Elab.async false
set_option linter.all false
set_option maxRecDepth 100000
set_option maxHeartbeats 4000000
/-! what the head's facts give -/
namespace Z
open PySem PySem.Spec PyProof.Rows L2
theorem base_call {b txt : Str} {p1 p2 p3 p4 p5 : Pos} {j} (env : Env) (hl : (p2.endLine == p5.line) = true) : eval (.Call (.Attribute (.Name b p1) "__init__" p2) [.Name "self" p3, .Constant (.str txt) j p4] [] p5) env = (do
      let ov ← eval (.Name b p1) env
      standAt p2.atName
      let (f, first) ← holding [ov] (getMethod ov "__init__" (plainOf (.Name b p1) env))
      callWith p5 f first (backTo p5 (starEach [.Name "self" p3, .Constant (.str txt) j p4] env)) (backToKw p5 (keywordEach [] env))) := by
  show (do let ov ← attributeBase (.Name b p1) "__init__" env (eval (.Name b p1) env); standAt p2.atName; methodCall (.Name b p1) "__init__" p2 p5 env ov 2 (backTo p5 (starEach [.Name "self" p3, .Constant (.str txt) j p4] env)) (backToKw p5 (keywordEach [] env))) = _
  have e : attributeBase (.Name b p1) "__init__" env (eval (.Name b p1) env) = eval (.Name b p1) env := rfl
  rw [e]
  congr 1
  funext ov
  congr 1
  funext _
  exact mcall_line rfl hl
/-- the first def of a class text -/
def clsDef (s : Stmt) : Stmt := match s with
  | .ClassDef _ _ _ (b :: _) _ _ _ _ _ _ _ => b
  | s => s
section
variable {P : Program} {w : World} {K : PySem.W.Frag} {mg : Str → Option Value} {base : Heap} {h : Heap}
theorem at_mk {x : Str} {st : Stmt} {f : Addr} {oc kV doc pm cd ct : Value} {od an : Option Addr} {sl : Array (Option Value)} (X : K.In h) (G : h.Ns mainGlobals mg) (a : PySem.W.nsIn K mainGlobals x = some (some (.ref f)))
    (l : K.lookup f = some ⟨oc, od, .func (PySem.W.fnOf x x (defArgs st) (defBody st) (defScope st) .none kV doc pm an cd ct), sl⟩) (c : PySem.W.codeIn K cd x = true) (k : PySem.W.keepIn K (.ref f) = true) : At K mg x st :=
  ⟨f, _, PySem.W.mg_of X G a, fun_mk l c k⟩
theorem atc_mk {x : Str} {st : Stmt} {f cd : Addr} {oc kV doc pm ct : Value} {od an : Option Addr} {sl : Array (Option Value)} (X : K.In h) (G : h.Ns mainGlobals mg) (a : PySem.W.nsIn K mainGlobals x = some (some (.ref f)))
    (l : K.lookup f = some ⟨oc, od, .func (PySem.W.fnOf x x (defArgs st) (defBody st) (defScope st) .none kV doc pm an (.ref cd) ct), sl⟩) (c : PySem.W.codeIn K (.ref cd) x = true) (k : PySem.W.keepIn K (.ref f) = true) : AtC K mg x st cd :=
  ⟨f, oc, kV, doc, pm, ct, od, an, sl, PySem.W.mg_of X G a, k, l, c⟩
theorem base_mk {b : Str} {CB : Addr} (X : K.In h) (G : h.Ns mainGlobals mg) (a : PySem.W.nsIn K mainGlobals b = some (some (.ref CB))) (r : PySem.W.readsIn K CB (.type "type") = true)
    (s : PySem.W.specialIn K (.ref CB) "__getattribute__" = some (some (.builtin "type.__getattribute__"))) (f : PySem.W.findCls K (.ref CB) (.type "type") "__init__" = some (.val (.builtin "ValueError.__init__"))) : Base0 K mg b :=
  ⟨CB, PySem.W.mg_of X G a, r, s, f⟩
theorem oex_mk {C : Addr} {nm q : Str} {N : Addr} {bs bm : List Value} {sn : List Str} {sub : List Value} {ab : Bool} {col : Option Bool} {dd : Option Addr} {m0 m1 m2 m3 m5 : Option Value}
    (xL : K.lookup C = some (excClassObj nm q C N bs bm true sn sub ab col dd m0 m1 m2 m3 m5 "ValueError.__new__")) (hbm : PySem.HandSPX.refsVE bm = true) (sa : PySem.W.findIn K (.ref C) "__setattr__" = some (some (.builtin "object.__setattr__")))
    (eC : PySem.W.subIn K (.ref C) (.type "BaseException") = some true) (tC : PySem.W.typeIn K (.ref C) = some (.type "type")) (kC : PySem.W.keepIn K (.ref C) = true) : OexC K C :=
  ⟨⟨nm, q, N, bs, bm, sn, sub, ab, col, dd, m0, m1, m2, m3, m5, xL, hbm⟩, sa, eC, tC, kC⟩
theorem err_mk {x b f q txt : Str} {st : Stmt} {C fI : Addr} {oc kV doc pm cdv ct : Value} {od an : Option Addr} {osl : Array (Option Value)} {p1 p2 p3 p4 p5 p6 p7 p8 p9 p10 : Pos} {j} (B : Base0 K mg b) (gC : mg x = some (.ref C)) (O : OexC K C) (XF : XfC K C)
    (no : PySem.W.findIn K (.ref C) f = some none) (i1 : PySem.W.findIn K (.ref C) "__init__" = some (some (.ref fI))) (tI : PySem.W.typeIn K (.ref fI) = some (.type "function"))
    (lk : K.lookup fI = some ⟨oc, od, .func (PySem.W.fnOf "__init__" q (defArgs st) (defBody st) (defScope st) .none kV doc pm an cdv ct), osl⟩) (hcd : PySem.W.codeIn K cdv q = true)
    (S : FnScope ["self", f] ["self", f] (defScope st))
    (hb : defBody st = [.Expr (.Call (.Attribute (.Name b p1) "__init__" p2) [.Name "self" p3, .Constant (.str txt) j p4] [] p5) p6, .Assign [.Attribute (.Name "self" p7) f p8] (.Name f p9) p10])
    (hs : (defScope st).names.lookup ("self" : Str) = some .local) (hf : (defScope st).names.lookup f = some .local) (hg : (defScope st).names.lookup b = some .globalImplicit) (hl : (p2.endLine == p5.line) = true)
    (hdb : (b == ("__debug__" : Str)) = false) (hdf : (f == ("__debug__" : Str)) = false) (hdf2 : (f == ("__classdict__" : Str)) = false)
    (hbind : ∀ (kV doc pm : Value) (an : Option Addr) (cdv ct : Value) (us : List Value), us.length = (["self", f] : List Str).length → bindArgs (PySem.W.fnOf "__init__" q (defArgs st) (defBody st) (defScope st) .none kV doc pm an cdv ct) ⟨us, []⟩ = pure ((["self", f] : List Str).zip us)) : ErrOk P w K mg base x f C :=
  ⟨gC, O, no, XF, fI, _, i1, tI, init1_ok B lk hcd S hb hs hf hg hdb hdf hdf2 (fun env _ => ⟨_, base_call env hl⟩) (fun _ _ => rfl) (fun _ _ => rfl), Binds.all fun us hl => hbind kV doc pm an cdv ct us hl⟩
theorem init_mk {C fI : Addr} {q : Str} {st : Stmt} {oc kV doc pm cdv ct : Value} {od an : Option Addr} {osl : Array (Option Value)} (i1 : PySem.W.findIn K (.ref C) "__init__" = some (some (.ref fI))) (i2 : PySem.W.typeIn K (.ref fI) = some (.type "function"))
    (i3 : K.lookup fI = some ⟨oc, od, .func (PySem.W.fnOf "__init__" q (defArgs st) (defBody st) (defScope st) .none kV doc pm an cdv ct), osl⟩) (i4 : PySem.W.codeIn K cdv q = true) :
    ∃ fI oc od kV doc pm an cdv ct osl, PySem.W.findIn K (.ref C) "__init__" = some (some (.ref fI)) ∧ PySem.W.typeIn K (.ref fI) = some (.type "function") ∧ K.lookup fI = some ⟨oc, od, .func (PySem.W.fnOf "__init__" q (defArgs st) (defBody st) (defScope st) .none kV doc pm an cdv ct), osl⟩ ∧ PySem.W.codeIn K cdv q = true :=
  ⟨fI, oc, od, kV, doc, pm, an, cdv, ct, osl, i1, i2, i3, i4⟩
theorem kit_ref {A C : Addr} (h1 : PySem.W.subIn K (.ref A) (.ref C) = some true) (h2 : PySem.W.hasDictIn K C = true) (h3 : PySem.W.typeIn K (.ref C) = some (.type "type")) : PySem.W.kitOne K (.ref A) (.ref C) = some true := by
  obtain ⟨cd, hc, _⟩ := PySem.W.any_some h2
  unfold PySem.W.kitOne PySem.W.kitCls
  split
  · rfl
  · simp [hc, h3, h1]
theorem kit_type {A : Addr} {T : String} (h1 : PySem.W.subIn K (.ref A) (.type T) = some true) (h2 : PySem.W.kitMeta T = true) : PySem.W.kitOne K (.ref A) (.type T) = some true := by
  unfold PySem.W.kitOne PySem.W.kitCls
  split
  · rfl
  · simp [h2, h1]
theorem excC_of {C : Addr} (F : XfC K C) (ha : PySem.W.findIn K (.ref C) "__class__" = some (some (.builtin "object.__class__"))) (hn : PySem.W.specialIn K (.builtin "object.__class__") "__get__" = some (some (.builtin "getset_descriptor.__get__")))
    (ht : PySem.W.takesIn K (.builtin "object.__class__") = some true) (hm : PySem.W.mroIn K C (.type "object") = some true) : ExcC K C := ⟨F.ga, F.gg, F.exC, F.hdC, ha, hn, ht, hm⟩
/-- a constant of the text -/
theorem const_mk {x : Str} {v : V} {u : Value} (X : K.In h) (G : h.Ns mainGlobals mg) (a : PySem.W.nsIn K mainGlobals x = some (some u)) (r : RelV v u) : ∃ u, mg x = some u ∧ RelV v u := ⟨u, PySem.W.mg_of X G a, r⟩
/-- no def hides the built-in names -/
structure BltN (mg : Str → Option Value) : Prop where
  len : mg "len" = none
  range : mg "range" = none
  min : mg "min" = none
  max : mg "max" = none
  abs : mg "abs" = none
  int : mg "int" = none
  str : mg "str" = none
  bool : mg "bool" = none
  list : mg "list" = none
  tuple : mg "tuple" = none
  dict : mg "dict" = none
  isinstance : mg "isinstance" = none
  all : mg "all" = none
  any : mg "any" = none
  sum : mg "sum" = none
  zip : mg "zip" = none
  repr : mg "repr" = none
  divmod : mg "divmod" = none
  sorted : mg "sorted" = none
  enumerate : mg "enumerate" = none
  reversed : mg "reversed" = none
  valueError : mg "ValueError" = none
theorem BltN.at (B : BltN mg) (S : SysAt base) : Blt mg base := ⟨S, B.len, B.range, B.min, B.max, B.abs, B.int, B.str, B.bool, B.list, B.tuple, B.dict, B.isinstance, B.all, B.any, B.sum, B.zip, B.repr, B.divmod, B.sorted, B.enumerate, B.reversed, B.valueError⟩
theorem bltn_mk (X : K.In h) (G : h.Ns mainGlobals mg) (a1 : PySem.W.nsIn K mainGlobals "len" = some none) (a2 : PySem.W.nsIn K mainGlobals "range" = some none) (a3 : PySem.W.nsIn K mainGlobals "min" = some none) (a4 : PySem.W.nsIn K mainGlobals "max" = some none)
    (a5 : PySem.W.nsIn K mainGlobals "abs" = some none) (a6 : PySem.W.nsIn K mainGlobals "int" = some none) (a7 : PySem.W.nsIn K mainGlobals "str" = some none) (a8 : PySem.W.nsIn K mainGlobals "bool" = some none) (a9 : PySem.W.nsIn K mainGlobals "list" = some none)
    (a10 : PySem.W.nsIn K mainGlobals "tuple" = some none) (a11 : PySem.W.nsIn K mainGlobals "dict" = some none) (a12 : PySem.W.nsIn K mainGlobals "isinstance" = some none) (a13 : PySem.W.nsIn K mainGlobals "all" = some none) (a14 : PySem.W.nsIn K mainGlobals "any" = some none)
    (a15 : PySem.W.nsIn K mainGlobals "sum" = some none) (a16 : PySem.W.nsIn K mainGlobals "zip" = some none) (a17 : PySem.W.nsIn K mainGlobals "repr" = some none) (a18 : PySem.W.nsIn K mainGlobals "divmod" = some none) (a19 : PySem.W.nsIn K mainGlobals "sorted" = some none)
    (a20 : PySem.W.nsIn K mainGlobals "enumerate" = some none) (a21 : PySem.W.nsIn K mainGlobals "reversed" = some none) (a22 : PySem.W.nsIn K mainGlobals "ValueError" = some none) : BltN mg :=
  ⟨PySem.W.ns_none_of X G a1, PySem.W.ns_none_of X G a2, PySem.W.ns_none_of X G a3, PySem.W.ns_none_of X G a4, PySem.W.ns_none_of X G a5, PySem.W.ns_none_of X G a6, PySem.W.ns_none_of X G a7, PySem.W.ns_none_of X G a8, PySem.W.ns_none_of X G a9, PySem.W.ns_none_of X G a10,
   PySem.W.ns_none_of X G a11, PySem.W.ns_none_of X G a12, PySem.W.ns_none_of X G a13, PySem.W.ns_none_of X G a14, PySem.W.ns_none_of X G a15, PySem.W.ns_none_of X G a16, PySem.W.ns_none_of X G a17, PySem.W.ns_none_of X G a18, PySem.W.ns_none_of X G a19, PySem.W.ns_none_of X G a20,
   PySem.W.ns_none_of X G a21, PySem.W.ns_none_of X G a22⟩
end
end Z

set_option Elab.async false
set_option linter.all false
set_option maxRecDepth 100000
set_option maxHeartbeats 4000000
/-! objects of own classes, dicts, more of lists -/
namespace Z
open PySem PySem.Spec PyProof.Rows L2
theorem wK_mono {X : Cx} {kws : List Keyword} {σ : L2.St} {H : Hp} {Q Q' : List V → Hp → Prop} (h : wK X kws σ H Q) (k : ∀ v H', Q v H' → Q' v H') : wK X kws σ H Q' := ⟨fun pos pins s I => thn (h.run pos pins s I) fun _ _ ⟨v, H', I', r, q⟩ => ⟨v, H', I', r, k v H' q⟩⟩
section
variable {X : Cx} {k : Nat} {W : WX} {σ : L2.St} {H : Hp} {e a b c o i : Expr} {es : List Expr} {p p2 pos apos : Pos} {Q : VK} {x f m : Str}
theorem e_chain {op op' : CmpOp} (h : wE X a σ H fun x H1 => wE X b σ H1 fun y H2 => oW X (compareOp op) x y H2 fun z H3 => ∃ k, z = .bl k ∧ (if k = true then wE X c σ H3 fun w' H4 => oW X (compareOp op') y w' H4 Q else Q (.bl false) H3))
    (hm : lastMarks [op, op'] [b, c] = false := by with_unfolding_all rfl) : wE X (.Compare a [op, op'] [b, c] pos) σ H Q := eE (pe_chain oR oR pE pE pE hm) h
/-! ### list(x), tuple(x), + and * of lists -/
theorem e_listOf (B : Blt X.mg X.base) (h : wE X a σ H fun x H1 => ∃ q ys, x = .ref q ∧ (SqL X.K H1 q ys ∨ SqT X.K H1 q ys) ∧ ∀ l, H1 l = none → Q (.ref l) (upd H1 l (.lst ys))) (hg : Gl X "list" := by rfl) (hs : starEach [a] X.env = [(false, eval a X.env)] := by rfl) :
    wE X (.Call (.Name "list" p) [a] [] pos) σ H Q := e_Ty (T := "list") (a_cons (wE_mono h fun x H1 ⟨q, ys, e1, h1, h2⟩ => a_nil (cW_of call_list_of ⟨q, ys, by rw [e1], h1, h2⟩)) hs) B.list PyProof.Rows.boot_list hg (by decide) (by decide) hs rfl
theorem e_tupleOf (B : Blt X.mg X.base) (h : wE X a σ H fun x H1 => ∃ q ys, x = .ref q ∧ ((SqL X.K H1 q ys ∧ ∀ l, H1 l = none → Q (.ref l) (upd H1 l (.tup ys))) ∨ (SqT X.K H1 q ys ∧ Q (.ref q) H1))) (hg : Gl X "tuple" := by rfl) (hs : starEach [a] X.env = [(false, eval a X.env)] := by rfl) :
    wE X (.Call (.Name "tuple" p) [a] [] pos) σ H Q := e_Ty (T := "tuple") (a_cons (wE_mono h fun x H1 ⟨q, ys, e1, h1⟩ => a_nil (cW_of call_tuple_of ⟨q, ys, by rw [e1], h1⟩)) hs) B.tuple PyProof.Rows.boot_tuple hg (by decide) (by decide) hs rfl
theorem o_cat {q r : Addr} {xs ys : List V} (h1 : H q = some (.lst xs)) (h2 : H r = some (.lst ys)) (hn : xs.length + ys.length ≤ sizeLine) (h : ∀ p, H p = none → Q (.ref p) (upd H p (.lst (xs ++ ys)))) : oW X (binaryOp .Add) (.ref q) (.ref r) H Q :=
  oW_of op_cat ⟨q, r, xs, ys, rfl, rfl, h1, h2, hn, h⟩
/-! ### fields, properties, methods -/
theorem e_fld {r C dx : Addr} {fs : List (Str × V)} {v : V} (h : wE X e σ H fun x H1 => x = .ref r ∧ H1 r = some (.ins C dx fs) ∧ Q v H1) (c : Cls X.K C) (n : NoAttr X.K C f) (l : fs.lookup f = some v) (hb : attributeBase e f X.env (eval e X.env) = eval e X.env := by rfl) :
    wE X (.Attribute e f pos) σ H Q := eE (pe_fld pE hb) (wE_mono h fun x H1 ⟨e1, h1, q⟩ => ⟨r, C, dx, fs, v, e1, h1, c, n, l, q⟩)
theorem s_fld {D : Ends} {r C : Addr} (h : wE X e σ H fun y H1 => wE X o σ H1 fun x H2 => ∃ dx fs, x = .ref r ∧ H2 r = some (.ins C dx fs) ∧ fs.length < 1000 ∧ D.nx σ (upd H2 r (.ins C dx (putF f y fs)))) (c : Cls X.K C) (n : NoAttr X.K C f)
    (hs : swapsWith e (some (.Attribute o f p)) pos.line X.env = pure false := by rfl) : wS X (.Assign [.Attribute o f p] e pos) D σ H :=
  eS (ps_fld pE pE hs) (wE_mono h fun y H1 h1 => wE_mono h1 fun x H2 ⟨dx, fs, e1, h2, h3, q⟩ => ⟨r, C, dx, fs, e1, h2, c, n, h3, q⟩)
/-- a def of the class at C under the name m, its promise -/
structure MethOk (P : Program) (w : World) (K : PySem.W.Frag) (mg : Str → Option Value) (base : Heap) (k : Nat) (C : Addr) (m : Str) (ps : List Str) (sp : Sp) : Prop where
  ex : ∃ f fd, Meth K C m f ∧ FnOk P w K mg base (L2.CX P w) k f fd ps sp ∧ Binds K fd ps []
structure PropOk (P : Program) (w : World) (K : PySem.W.Frag) (mg : Str → Option Value) (base : Heap) (k : Nat) (C : Addr) (m : Str) (sp : Sp) : Prop where
  ex : ∃ pr f fd, PropOf K C m pr f ∧ FnOk P w K mg base (L2.CX P w) k f fd ["self"] sp ∧ Binds K fd ["self"] []
theorem passes0 {X : Cx} {W : WX} (tk : Takes X W) : Passes (L2.CX X.prog X.w) X (fun _ _ _ => False) := fun pins σ H s e s' I c => passes_call tk (fun cls d σ' H' z => z.elim) pins σ H s e s' I c
theorem passesE {X : Cx} {W : WX} {E : XK} (tk : Takes X W) (h : ∀ cls d σ H, E cls d H → W cls d σ H) : Passes (L2.CX X.prog X.w) X E := fun pins σ H s e s' I c => passes_call tk h pins σ H s e s' I c
/-- e.m, a property that raises nothing -/
theorem e_prop {sp : Sp} {r C dx : Addr} {fs : List (Str × V)} {j : Nat} (Cc : Cxt X (j + 1) W) (c : Cls X.K C) (M : PropOk X.prog X.w X.K X.mg X.base j C m sp) (h : wE X e σ H fun x H1 => x = .ref r ∧ H1 r = some (.ins C dx fs) ∧ sp [.ref r] H1 Q fun _ _ _ => False)
    (hab : attributeBase e m X.env (eval e X.env) = eval e X.env := by rfl) : wE X (.Attribute e m pos) σ H Q := by
  obtain ⟨pr, g, fd, hp, F, hb⟩ := M.ex
  exact eE (pe_prop pE c hp F Cc.room hb .nil (passes0 (X := X.nox) takesW0) hab) (wE_mono h fun x H1 ⟨e1, h1, q⟩ => ⟨r, dx, fs, e1, h1, q⟩)
theorem meth_eval {o : Expr} {m : Str} {apos pos : Pos} {es : List Expr} {env : Env} (hb : attributeBase o m env (eval o env) = eval o env) (hf : methodCallForm (es.length + 0) (backTo pos (starEach es env)) (backToKw pos (keywordEach [] env)) = true) (hl : (apos.endLine == pos.line) = true) :
    eval (.Call (.Attribute o m apos) es [] pos) env = (do
      let ov ← eval o env
      standAt apos.atName
      let (f, first) ← holding [ov] (getMethod ov m (plainOf o env))
      callWith pos f first (backTo pos (starEach es env)) (backToKw pos (keywordEach [] env))) := by
  show (do let ov ← attributeBase o m env (eval o env); standAt apos.atName; methodCall o m apos pos env ov (es.length + 0) (backTo pos (starEach es env)) (backToKw pos (keywordEach [] env))) = _
  rw [hb]
  congr 1
  funext ov
  congr 1
  funext _
  exact mcall_line hf hl
/-- o.m(), a method that raises nothing -/
theorem e_meth0 {sp : Sp} {r C dx : Addr} {fs : List (Str × V)} {j : Nat} {ps : List Str} (Cc : Cxt X j W) (c : Cls X.K C) (M : MethOk X.prog X.w X.K X.mg X.base j C m ps sp) (h : wE X o σ H fun x H1 => x = .ref r ∧ H1 r = some (.ins C dx fs) ∧ fs.lookup m = none ∧ sp [.ref r] H1 Q fun _ _ _ => False)
    (hb : attributeBase o m X.env (eval o X.env) = eval o X.env := by rfl) (hf : methodCallForm (([] : List Expr).length + 0) (backTo pos (starEach [] X.env)) (backToKw pos (keywordEach [] X.env)) = true := by rfl) (hl : (apos.endLine == pos.line) = true := by rfl) :
    wE X (.Call (.Attribute o m apos) [] [] pos) σ H Q := by
  obtain ⟨g, fd, hm, F, hbd⟩ := M.ex
  exact eE (pe_meth0 (pl := plainOf o X.env) pE c hm F Cc.room hbd .nil (passes0 Cc.tk) (meth_eval hb hf hl)) (wE_mono h fun x H1 ⟨e1, h1, n, q⟩ => by subst e1; exact ⟨r, dx, fs, rfl, h1, n, q⟩)
/-- o.m(e, ..) -/
theorem e_meth {sp : Sp} {r C dx : Addr} {fs : List (Str × V)} {j : Nat} {ps : List Str} (Cc : Cxt X j W) (c : Cls X.K C) (M : MethOk X.prog X.w X.K X.mg X.base j C m ps sp) (h : wE X o σ H fun x H1 => x = .ref r ∧ H1 r = some (.ins C dx fs) ∧ fs.lookup m = none ∧ wA X (e :: es) σ H1 fun vs H2 => sp (.ref r :: vs) H2 Q fun _ _ _ => False)
    (hb : attributeBase o m X.env (eval o X.env) = eval o X.env := by rfl) (hf : methodCallForm ((e :: es).length + 0) (backTo pos (starEach (e :: es) X.env)) (backToKw pos (keywordEach [] X.env)) = true := by rfl) (hl : (apos.endLine == pos.line) = true := by rfl)
    (hst : starEach (e :: es) X.env = (false, eval e X.env) :: starEach es X.env := by rfl) (hpl : (backTo pos (starEach es X.env)).any (·.1) = false := by rfl) :
    wE X (.Call (.Attribute o m apos) (e :: es) [] pos) σ H Q := by
  obtain ⟨g, fd, hm, F, hbd⟩ := M.ex
  exact eE (pe_meth (pl := plainOf o X.env) pE c hm F Cc.room hbd .nil (passes0 Cc.tk) pA hst hpl (meth_eval hb hf hl)) (wE_mono h fun x H1 ⟨e1, h1, n, q⟩ => by subst e1; exact ⟨r, dx, fs, rfl, h1, n, wA_mono q fun vs H2 q => by rw [List.append_nil]; exact q⟩)
/-! ### making an object -/
/-- the class at C under its name x, its __init__'s promise; ds what the defaults tell -/
structure MakeOk (P : Program) (w : World) (K : PySem.W.Frag) (mg : Str → Option Value) (base : Heap) (k : Nat) (x : Str) (C : Addr) (ps : List Str) (sp : Sp) (B : FuncData → Prop) : Prop where
  ex : ∃ f fd, mg x = some (.ref C) ∧ Mk K C f ∧ FnOk P w K mg base (L2.CX P w) k f fd ps sp ∧ B fd
theorem e_make {sp : Sp} {C : Addr} {j : Nat} {ps : List Str} {ds : List Value} {dvs : List V} {E : XK} (Cc : Cxt X (j + 1) W) (M : MakeOk X.prog X.w X.K X.mg X.base j x C ps sp fun fd => Binds X.K fd ps ds) (hd : Vals dvs ds) (hW : ∀ cls d σ H, E cls d H → W cls d σ H)
    (h : wA X (e :: es) σ H fun vs H1 => ∀ r dx, H1 r = none → H1 dx = none → dx ≠ r → sp (.ref r :: (vs ++ dvs)) (upd (upd H1 dx (.own r)) r (.ins C dx [])) (fun v H2 => v = .non ∧ Q (.ref r) H2) E) (hg : Gl X x := by rfl)
    (hdb : (x == ("__debug__" : Str)) = false := by decide) (he : starEach (e :: es) X.env = (false, eval e X.env) :: starEach es X.env := by rfl) (hpl : (backTo pos (starEach es X.env)).any (·.1) = false := by rfl) :
    wE X (.Call (.Name x p) (e :: es) [] pos) σ H Q := by
  obtain ⟨g, fd, hm, mk, F, hb⟩ := M.ex
  exact eE (pe_make mk F Cc.room hg hm hb hd (passesE Cc.tk hW) pA hdb he hpl) h
theorem e_makeK {sp : Sp} {C : Addr} {j n : Nat} {ps ks : List Str} {gf : List Value → List Value → List Value} {gV : List V → List V → List V} {kws : List Keyword} {E : XK} (Cc : Cxt X (j + 1) W) (M : MakeOk X.prog X.w X.K X.mg X.base j x C ps sp fun fd => KBn X.K fd ps (n + 1) ks gf gV) (hW : ∀ cls d σ H, E cls d H → W cls d σ H)
    (h : wA X (e :: es) σ H fun vs H1 => wK X kws σ H1 fun zs H2 => vs.length = n ∧ zs.length = ks.length ∧ ∀ r dx, H2 r = none → H2 dx = none → dx ≠ r → sp (gV (.ref r :: vs) zs) (upd (upd H2 dx (.own r)) r (.ins C dx [])) (fun v H3 => v = .non ∧ Q (.ref r) H3) E) (hg : Gl X x := by rfl)
    (hall : (backToKw pos (keywordEach kws X.env)).all (·.1.isSome) = true := by rfl) (hks : (backToKw pos (keywordEach kws X.env)).filterMap (·.1) = ks := by rfl) (hdb : (x == ("__debug__" : Str)) = false := by decide)
    (he : starEach (e :: es) X.env = (false, eval e X.env) :: starEach es X.env := by rfl) (hpl : ((backTo pos (starEach (e :: es) X.env)).any (·.1) || (backToKw pos (keywordEach kws X.env)).any (·.1.isNone)) = false := by rfl) :
    wE X (.Call (.Name x p) (e :: es) kws pos) σ H Q := by
  obtain ⟨g, fd, hm, mk, F, hb⟩ := M.ex
  exact eE (pe_makeK mk F Cc.room hg hm hb (passesE Cc.tk hW) pA pK hall hks hdb he hpl) h
theorem e_makeK0 {sp : Sp} {C : Addr} {j : Nat} {ps ks : List Str} {gf : List Value → List Value → List Value} {gV : List V → List V → List V} {kws : List Keyword} {E : XK} (Cc : Cxt X (j + 1) W) (M : MakeOk X.prog X.w X.K X.mg X.base j x C ps sp fun fd => KBn X.K fd ps 1 ks gf gV) (hW : ∀ cls d σ H, E cls d H → W cls d σ H)
    (h : wK X kws σ H fun zs H2 => zs.length = ks.length ∧ ∀ r dx, H2 r = none → H2 dx = none → dx ≠ r → sp (gV [.ref r] zs) (upd (upd H2 dx (.own r)) r (.ins C dx [])) (fun v H3 => v = .non ∧ Q (.ref r) H3) E) (hg : Gl X x := by rfl)
    (hall : (backToKw pos (keywordEach kws X.env)).all (·.1.isSome) = true := by rfl) (hks : (backToKw pos (keywordEach kws X.env)).filterMap (·.1) = ks := by rfl) (hdb : (x == ("__debug__" : Str)) = false := by decide)
    (hpl : ((backTo pos (starEach [] X.env)).any (·.1) || (backToKw pos (keywordEach kws X.env)).any (·.1.isNone)) = false := by rfl) :
    wE X (.Call (.Name x p) [] kws pos) σ H Q := by
  obtain ⟨g, fd, hm, mk, F, hb⟩ := M.ex
  exact eE (pe_makeK0 mk F Cc.room hg hm hb (passesE Cc.tk hW) pK hall hks hdb hpl) (eK pK ⟨(wK_mono h fun zs H2 ⟨h1, h2⟩ => ⟨rfl, h1, h2⟩).run⟩)
/-! ### dicts -/
theorem e_dget {r : Addr} {v : V} (C : Cxt X k W) (h : wE X o σ H fun x H1 => wE X i σ H1 fun y H2 => x = .ref r ∧ DGet H2 r y (some v) ∧ Q v H2) (hs : NoSl i := by exact fun _ _ => rfl) : wE X (.Subscript o i pos) σ H Q :=
  eE (pe_dget (by have := C.un; omega) pE pE hs) (wE_mono h fun x H1 q => wE_mono q fun y H2 ⟨e1, h1, q⟩ => ⟨r, v, e1, h1, q⟩)
theorem set_d {r : Addr} {y v : V} {H' : Hp} {R : Hp → Prop} (C : Cxt X k W) (h : DPut H r y v H') (q : R H') : sW X (.ref r) y v H R := sW_of (set_dict (by have := C.un; omega)) ⟨r, H', rfl, h, q⟩
end
end Z

set_option Elab.async false
set_option linter.all false
set_option maxRecDepth 100000
set_option maxHeartbeats 4000000
/-! own errors of two fields -/
namespace Z
open PySem PySem.Spec PyProof.Rows L2
def spInit2 (K : PySem.W.Frag) (f g : Str) : Sp := fun vs H Q _ => ∃ (a C : Addr) (v w : V), vs = [.ref a, v, w] ∧ OexC K C ∧ PySem.W.findIn K (.ref C) f = some none ∧ PySem.W.findIn K (.ref C) g = some none ∧ H a = some (exo a C none) ∧
  ∀ dx, H dx = none → dx ≠ a → Q .non (upd (upd (upd H dx (exd dx [(f, v)])) a (exo a C (some dx))) dx (exd dx [(g, w), (f, v)]))
section
variable {P : Program} {w : World} {K : PySem.W.Frag} {mg : Str → Option Value} {base : Heap}
theorem init2_ok {x b f g txt : Str} {st : Stmt} {fI : Addr} {oc kV doc pm cdv ct : Value} {od an : Option Addr} {osl : Array (Option Value)} {p1 p2 p3 p4 p5 p6 p7 p8 p9 p10 q7 q8 q9 q10 : Pos} {j} (B : Base0 K mg b)
    (lk : K.lookup fI = some ⟨oc, od, .func (PySem.W.fnOf "__init__" x (defArgs st) (defBody st) (defScope st) .none kV doc pm an cdv ct), osl⟩) (hcd : PySem.W.codeIn K cdv x = true)
    (S : FnScope ["self", f, g] ["self", f, g] (defScope st))
    (hb : defBody st = [.Expr (.Call (.Attribute (.Name b p1) "__init__" p2) [.Name "self" p3, .Constant (.str txt) j p4] [] p5) p6, .Assign [.Attribute (.Name "self" p7) f p8] (.Name f p9) p10, .Assign [.Attribute (.Name "self" q7) g q8] (.Name g q9) q10])
    (hs : (defScope st).names.lookup ("self" : Str) = some .local) (hf : (defScope st).names.lookup f = some .local) (hgl : (defScope st).names.lookup g = some .local) (hg : (defScope st).names.lookup b = some .globalImplicit) (hdb : (b == ("__debug__" : Str)) = false) (hl : (p2.endLine == p5.line) = true)
    (hdf : (f == ("__debug__" : Str)) = false) (hdf2 : (f == ("__classdict__" : Str)) = false) (hdg : (g == ("__debug__" : Str)) = false) (hdg2 : (g == ("__classdict__" : Str)) = false) :
    FnOk P w K mg base (L2.CX P w) 1 fI (PySem.W.fnOf "__init__" x (defArgs st) (defBody st) (defScope st) .none kV doc pm an cdv ct) ["self", f, g] (spInit2 K f g) := by
  refine fn_of lk hcd S (fun vs H Q E h => ?_) fun A outer s H vs Q E hr h => ⟨wB _ (defBody st), pB, ?_⟩
  · obtain ⟨a, C, v, w, rfl, _⟩ := h
    rfl
  · obtain ⟨a, C, v, w, rfl, T, hno, hno2, ha, q⟩ := h
    rw [hb]
    refine b_cons (s_expr (e_baseInit B ?_ hg hdb (base_call (envOfC x (defScope st) s.heap.objs.size fI cdv) hl)) rfl)
    refine a_cons (e_name 0 (a_cons (e_str (a_nil ⟨a, C, _, rfl, by simp, T, ha, ?_⟩))) rfl rfl (.inl hs))
    refine b_cons (eS (ps_ost (pE (e := .Name "self" p7)) pE rfl) ?_)
    refine e_name 1 ?_ rfl rfl (.inl hf) hdf hdf2
    refine e_name 0 ?_ rfl rfl (.inl hs)
    refine ⟨a, C, rfl, T, hno, .inl ⟨ha, fun dx n ne => b_cons (eS (ps_ost (pE (e := .Name "self" q7)) pE rfl) ?_)⟩⟩
    refine e_name 2 ?_ rfl rfl (.inl hgl) hdg hdg2
    refine e_name 0 ?_ rfl rfl (.inl hs)
    exact ⟨a, C, rfl, T, hno2, .inr ⟨dx, [(f, v)], upd_same, by rw [upd_ne ne, upd_same], by simp, b_nil (q dx n ne)⟩⟩
end
/-- an error class of two fields, its __init__ proved -/
structure ErrOk2 (P : Program) (w : World) (K : PySem.W.Frag) (mg : Str → Option Value) (base : Heap) (x f g : Str) (C : Addr) : Prop where
  gC : mg x = some (.ref C)
  oex : OexC K C
  no : PySem.W.findIn K (.ref C) f = some none
  no2 : PySem.W.findIn K (.ref C) g = some none
  xf : XfC K C
  ex : ∃ fI fd, PySem.W.findIn K (.ref C) "__init__" = some (some (.ref fI)) ∧ PySem.W.typeIn K (.ref fI) = some (.type "function") ∧ FnOk P w K mg base (L2.CX P w) 1 fI fd ["self", f, g] (spInit2 K f g) ∧ Binds K fd ["self", f, g] []
section
variable {X : Cx} {k : Nat} {W : WX} {σ : L2.St} {H : Hp} {x f g : Str} {e e2 : Expr} {C : Addr} {p1 p2 pos : Pos} {D : Ends}
/-- raise X(v, w) -/
theorem s_raise2 (Cc : Cxt X k W) (E : ErrOk2 X.prog X.w X.K X.mg X.base x f g C) (hr : 2 ≤ k)
    (h : wE X e σ H fun v H1 => wE X e2 σ H1 fun w H2 => ∀ d H', But [] H2 H' → H2 d = none → H' d = some (.xd [(g, w), (f, v)]) → W (.ref C) (some d) σ H')
    (hg : Gl X x := by rfl) (hdb : (x == ("__debug__" : Str)) = false := by decide) (he : starEach [e, e2] X.env = (false, eval e X.env) :: starEach [e2] X.env := by rfl) (he2 : starEach [e2] X.env = [(false, eval e2 X.env)] := by rfl) : wS X (.Raise (some (.Call (.Name x p1) [e, e2] [] p2)) none pos) D σ H := by
  obtain ⟨fI, fd, iC, tI, F, hb⟩ := E.ex
  have hx : Passes (L2.CX X.prog X.w) X (fun _ _ _ => False) := passes0 Cc.tk
  refine eS (ps_raise Cc.calm Cc.tk (pmk_oex E.oex iC tI F (Cc.room.mono hr) hb .nil hx hg E.gC pA hdb he (by rw [he2]; rfl))) ?_
  refine a_cons (wE_mono h fun v H1 q1 => a_cons (wE_mono q1 fun w H2 q => a_nil ⟨by simp, fun a ha => ?_⟩) he2) he
  refine ⟨a, C, v, w, rfl, E.oex, E.no, E.no2, upd_same, fun dx hd ne => ⟨rfl, dx, [(g, w), (f, v)], by rw [upd_ne ne.symm, upd_same], upd_same, ?_, ?_⟩⟩
  · rw [upd_ne ne] at hd
    exact hd
  · have hd' : H2 dx = none := by rw [upd_ne ne] at hd; exact hd
    refine q dx _ (fun b o _ hbo => ?_) hd' upd_same
    have nb : b ≠ a := ne_of_none hbo ha
    have nb2 : b ≠ dx := ne_of_none hbo hd'
    rw [upd_ne nb2, del_ne nb, upd_ne nb2, upd_ne nb, upd_ne nb2, upd_ne nb]
    exact hbo
end
section
variable {X : Cx} {σ : L2.St} {H : Hp} {a CE dd : Addr} {oe : Obj} {pn : List (Addr × Obj)} {e : Expr} {pos p : Pos} {f : Str} {Q : VK}
/-- e.f, any fields -/
theorem e_xfs {v : V} {fs : List (Str × V)} (T : XfC X.K CE) (hno : PySem.W.findIn X.K (.ref CE) f = some none) (hz : Zc (.ref CE) (some dd) oe) (hf : ∃ vs, oe.data = .fields vs) (hl : fs.lookup f = some v)
    (h : wE (X.suite a ((a, oe) :: pn)) e σ H fun x H1 => x = .ref a ∧ H1 dd = some (.xd fs) ∧ Q v H1) (hb : attributeBase e f X.env (eval e X.env) = eval e X.env := by rfl) :
    wE (X.suite a ((a, oe) :: pn)) (.Attribute e f pos) σ H Q :=
  eE (pe_xf T hno hz hf pE hb) (wE_mono h fun x H1 ⟨e1, e2, q⟩ => ⟨e1, rfl, dd, fs, v, rfl, e2, hl, q⟩)
end
end Z

set_option Elab.async false
set_option linter.all false
set_option maxRecDepth 100000
set_option maxHeartbeats 4000000
/-! dicts walked, dicts written out -/
namespace Z
open PySem PySem.Spec PyProof.Rows L2
/-- the i-th statement of a class text -/
def clsAt (s : Stmt) (i : Nat) : Stmt := match s with
  | .ClassDef _ _ _ b _ _ _ _ _ _ _ => b.getD i s
  | s => s
section
variable {X : Cx} {k : Nat} {W : WX} {σ : L2.St} {H : Hp} {e : Expr} {st : Stmt} {p pos apos tpos : Pos} {elts : List Expr} {kk : Nat}
theorem i_items {R : It → Hp → Prop} (h : wE X e σ H fun x H1 => ∃ d o kvs, x = .ref d ∧ H1 d = some (.frz o (.dK kvs)) ∧ R (Iti d o kvs) H1)
    (hb : attributeBase e "items" X.env (eval e X.env) = eval e X.env := by rfl) (hl : (apos.endLine == pos.line) = true := by rfl) : wI X (.Tuple elts kk tpos) (.Call (.Attribute e "items" apos) [] [] pos) σ H R := eI (pi_items pE hb hl) h
/-- a statement while the object at d is told not to change -/
theorem s_lock {D : Ends} {d : Addr} {u : HO} (hd : H d = some u) (mu : Mut (some u)) (h : ∀ od, wS X st ⟨fun σ' H' => H' d = some (.frz od u) ∧ D.nx σ' (upd H' d u), fun v H' => H' d = some (.frz od u) ∧ D.rt v (upd H' d u), fun σ' H' => H' d = some (.frz od u) ∧ D.bk σ' (upd H' d u), fun σ' H' => H' d = some (.frz od u) ∧ D.ct σ' (upd H' d u)⟩ σ (upd H d (.frz od u))) :
    wS X st D σ H := eS (ps_lock pS) ⟨d, u, hd, mu, h⟩
end
theorem but_unlock {l : List Addr} {H H' : Hp} {d : Addr} {u v : HO} (hd : H d = some u) (b : But l (upd H d v) H') : But l H (upd H' d u) := fun q o n e => by
  by_cases hq : q = d
  · rw [hq, upd_same]
    rw [hq, hd] at e
    exact e
  · rw [upd_ne hq]
    exact b q o n (by rw [upd_ne hq]; exact e)
end Z

set_option Elab.async false
set_option linter.all false
set_option maxRecDepth 100000
set_option maxHeartbeats 4000000
/-! a list or a tuple, walked -/
namespace Z
open PySem PySem.Spec PyProof.Rows L2
def items : PyData → List PyData
  | .list ds => ds
  | .tuple ds => ds
  | _ => []
def seqB (d : PyData) : Bool := isList d || isTuple d
section
variable {X : Cx} {σ : L2.St} {H : Hp} {e tg : Expr}
theorem i_dd {R : It → Hp → Prop} {x : V} {l : List Addr} {d : PyData} (hd : DD X.K l H x d) (hs : seqB d = true) (he : ∀ Q : VK, Q x H → wE X e σ H Q)
    (h : ∀ J G vs, Walk J vs.length G (YAt vs) → (∀ H', But l H H' → G H') → DDs X.K l H vs (items d) → R J H) : wI X tg e σ H R := by
  cases hd with
  | @lst a xs ds h1 n h2 => exact i_list (he _ ⟨a, rfl, ⟨xs, h1⟩, h _ _ xs walk_list (fun H' b => b.sql n h1) h2⟩)
  | @tup a xs ds h1 n h2 => exact i_tup (he _ ⟨a, rfl, ⟨xs, h1⟩, h _ _ xs walk_tup (fun H' b => b.sqt n h1) h2⟩)
  | _ => simp [seqB, isList, isTuple] at hs
/-- .. data that is wholly tracked -/
theorem i_dd0 {R : It → Hp → Prop} {x : V} {l : List Addr} {d : PyData} (hd : DD [] l H x d) (hs : seqB d = true) (he : ∀ Q : VK, Q x H → wE X e σ H Q)
    (h : ∀ J G vs, Walk J vs.length G (YAt vs) → (∀ H', But l H H' → G H') → DDs [] l H vs (items d) → R J H) : wI X tg e σ H R := by
  cases hd with
  | @lst a xs ds h1 n h2 => exact i_list (he _ ⟨a, rfl, ⟨xs, sql_all h1⟩, h _ _ xs walk_list (fun H' b => sql_all (b.sql n h1)) h2⟩)
  | @tup a xs ds h1 n h2 => exact i_tup (he _ ⟨a, rfl, ⟨xs, sqt_all h1⟩, h _ _ xs walk_tup (fun H' b => sqt_all (b.sqt n h1)) h2⟩)
  | _ => simp [seqB, isList, isTuple] at hs
end
end Z

set_option Elab.async false
set_option linter.all false
set_option maxRecDepth 100000
set_option maxHeartbeats 4000000
/-! tuples and lists are never one; extend, reverse, clear -/
namespace Z
open PySem PySem.Spec PyProof.Rows L2
/-- no tuple is a list -/
def Apart (K : PySem.W.Frag) (H : Hp) : Prop := ∀ a xs q ys, SqT K H a xs → H q = some (.lst ys) → a ≠ q
theorem apart_inv {X : Cx} {pins : List (Addr × Obj)} {σ : L2.St} {H : Hp} {s : Shared} (I : Inv X pins σ H s) : Apart X.K H := fun a xs q ys h1 h2 z => by
  subst z
  obtain ⟨its, r, ⟨o, e, c, _⟩, _⟩ := I.tuple h1
  obtain ⟨its', r', ⟨o', n', e', c', _⟩, _⟩ := I.list (.inl (.inl h2))
  rw [e] at e'
  cases e'
  rw [c] at c'
  exact absurd (Value.type.inj c') (by decide)
section
variable {X : Cx} {k : Nat} {W : WX} {σ : L2.St} {H : Hp} {e a o : Expr} {es : List Expr} {sts : List Stmt} {pos apos : Pos} {Q : VK}
theorem b_apart {D : Ends} (h : Apart X.K H → wB X sts D σ H) : wB X sts D σ H := ⟨fun pins s I => (h (apart_inv I)).run pins s I⟩
theorem e_gives (h : wE X e σ H fun v H1 => Apart X.K H1 → Q v H1) : wE X e σ H Q := ⟨fun pins s I => thn (h.run pins s I) fun _ _ ⟨v, H', I', r, q⟩ => ⟨v, H', I', r, q (apart_inv I')⟩⟩
theorem e_apart (h : Apart X.K H → wE X e σ H Q) : wE X e σ H Q := ⟨fun pins s I => (h (apart_inv I)).run pins s I⟩
end
mutual
def tupOnly : PyData → Bool
  | .tuple xs => tupOnlyAll xs
  | .list _ => false
  | .dict _ => false
  | _ => true
def tupOnlyAll : List PyData → Bool
  | [] => true
  | x :: xs => tupOnly x && tupOnlyAll xs
end
section
variable {K : PySem.W.Frag} {l : List Addr} {H : Hp}
mutual
theorem DD.avoid {q : Addr} {ys : List V} (A : Apart K H) (hq : H q = some (.lst ys)) : ∀ {v : V} {d : PyData}, DD K l H v d → tupOnly d = true → DD K (q :: l) H v d
  | _, _, .non, _ => .non
  | _, _, .bl x, _ => .bl x
  | _, _, .int x, _ => .int x
  | _, _, .str x, _ => .str x
  | _, _, .lst h n r, e => by simp [tupOnly] at e
  | _, _, .tup h n r, e => .tup h (fun z => by
      rcases List.mem_cons.mp z with z | z
      · exact A _ _ _ _ h hq z
      · exact n z) (DDs.avoid A hq r (by simpa [tupOnly] using e))
  | _, _, .dct h n r, e => by simp [tupOnly] at e
theorem DDs.avoid {q : Addr} {ys : List V} (A : Apart K H) (hq : H q = some (.lst ys)) : ∀ {vs : List V} {ds : List PyData}, DDs K l H vs ds → tupOnlyAll ds = true → DDs K (q :: l) H vs ds
  | _, _, .nil, _ => .nil
  | _, _, .cons h r, e => by
    simp only [tupOnlyAll, Bool.and_eq_true] at e
    exact .cons (DD.avoid A hq h e.1) (DDs.avoid A hq r e.2)
end
theorem tupOnlyAll_of {ds : List PyData} (h : ∀ d ∈ ds, tupOnly d = true) : tupOnlyAll ds = true := by
  induction ds with
  | nil => rfl
  | cons d ds ih => simp only [tupOnlyAll, h d (by simp), ih fun x hx => h x (by simp [hx]), Bool.and_self]
end
section
variable {X : Cx} {k : Nat} {W : WX} {σ : L2.St} {H : Hp} {e a o : Expr} {es : List Expr} {pos apos : Pos} {Q : VK}
/-- xs.extend(ys) -/
theorem e_extend (h : wE X o σ H fun x H1 => ∃ q, x = .ref q ∧ (∃ ys, H1 q = some (.lst ys)) ∧ wE X a σ H1 fun y H2 => ∃ r xs zs, y = .ref r ∧ H2 q = some (.lst xs) ∧ H2 r = some (.lst zs) ∧ xs.length + zs.length ≤ sizeLine ∧ Q .non (upd H2 q (.lst (xs ++ zs))))
    (hs : starEach [a] X.env = [(false, eval a X.env)] := by rfl) (hbase : attributeBase o "extend" X.env (eval o X.env) = eval o X.env := by rfl) (hline : (apos.endLine == pos.line) = true := by rfl)
    (hfew : ((backTo pos (starEach [a] X.env)).all (fun x => !x.1) && (backToKw pos (keywordEach [] X.env)).all (fun x => x.1.isSome) && decide (([a] : List Expr).length + ([] : List Keyword).length + (if ([] : List Keyword).isEmpty then 0 else 1) < 30)) = true := by rfl) :
    wE X (.Call (.Attribute o "extend" apos) [a] [] pos) σ H Q :=
  eE (pe_bm PySem.F.plainAttrs_list PySem.F.slot_list_extend PySem.F.type_list_extend mt_extend pE pA hbase hfew hline (by rw [hs]; rfl) rfl)
    (wE_mono h fun x H1 ⟨q, e1, ⟨ys, h0⟩, h1⟩ => ⟨by rw [e1]; exact .inl ⟨rfl, ys, .inl (.inl h0)⟩, a_cons (wE_mono h1 fun y H2 ⟨r, xs, zs, e2, h2, h3, h4, h5⟩ => a_nil ⟨q, r, xs, zs, e1, by rw [e2], h2, h3, h4, h5⟩) (by rw [hs]; rfl)⟩)
end
end Z

set_option Elab.async false
set_option linter.all false
set_option maxRecDepth 100000
set_option maxHeartbeats 4000000
/-! pairs walked, reverse, clear, lists times a number, while, == -/
namespace Z
open PySem PySem.Spec PyProof.Rows L2
theorem Apart.nil {K : PySem.W.Frag} {H : Hp} (A : Apart K H) : Apart [] H := fun a xs q ys h1 h2 => A a xs q ys (sqt_all h1) h2
theorem Here.ext {l : List Addr} {H H1 : Hp} (h : Here l H) (b : But [] H H1) : Here l H1 := fun q hq => let ⟨o, e⟩ := h q hq; ⟨o, b _ _ (by simp) e⟩
theorem Here.cons {l : List Addr} {H : Hp} {q : Addr} {o : HO} (e : H q = some o) (h : Here l H) : Here (q :: l) H := fun x hx => by
  rcases List.mem_cons.mp hx with rfl | hx
  · exact ⟨o, e⟩
  · exact h x hx
theorem Here.nil {H : Hp} : Here [] H := fun q hq => by simp at hq
/-- what was there stays, whatever became of the new -/
theorem but_late {H0 H1 H2 : Hp} {l : List Addr} (a : But [] H0 H1) (b : But l H1 H2) (n : ∀ q ∈ l, H0 q = none) : But [] H0 H2 := fun q o _ e => b q o (fun z => by rw [n q z] at e; cases e) (a q o (by simp) e)
section
variable {X : Cx} {k : Nat} {W : WX} {σ : L2.St} {H : Hp} {e a b o elt c : Expr} {es : List Expr} {p pos apos : Pos} {Q : VK} {scope : Scope}
theorem mt_pairS {i j : Nat} {y z : Str} {p p' pt : Pos} {kt} {vs : List Nat} {q : Addr} {u v : V} {R : V → Prop} (hc : X.calm = true) (hN : X.N.Nodup) (hq : SqT X.K H q [u, v])
    (h : wEb X scope elt (((wipe σ vs).set i (some u)).set j (some v)) H fun v H4 => R v ∧ But [] H H4) (hw : wipe (((wipe σ vs).set i (some u)).set j (some v)) vs = wipe σ vs := by rfl) (hi : X.N[i]? = some y := by rfl) (hj : X.N[j]? = some z := by rfl)
    (hx : Loc (relS scope X.env.scope) y := by first | exact Or.inl rfl | exact Or.inr rfl) (hf : (scope.names.lookup y == some .cell) = true ∨ (relS scope X.env.scope).names.lookup y = some .local := by first | exact .inl rfl | exact .inr rfl)
    (hx2 : Loc (relS scope X.env.scope) z := by first | exact Or.inl rfl | exact Or.inr rfl) (hf2 : (scope.names.lookup z == some .cell) = true ∨ (relS scope X.env.scope).names.lookup z = some .local := by first | exact .inl rfl | exact .inr rfl) :
    MapTurn X scope vs (.Tuple [.Name y p, .Name z p'] kt pt) elt σ (.ref q) H R := by
  intro s H0 C cl fp
  refine g_tup (gs_cons (g_name (i := i) (gs_cons (g_name (i := j) (gs_nil ⟨hw, But.refl, h⟩) hN hj hx2 hf2)) hN hi hx hf)) hc hq
theorem e_reverse (h : wE X o σ H fun x H1 => ∃ q xs, x = .ref q ∧ H1 q = some (.lst xs) ∧ Q .non (upd H1 q (.lst xs.reverse)))
    (hbase : attributeBase o "reverse" X.env (eval o X.env) = eval o X.env := by rfl) (hline : (apos.endLine == pos.line) = true := by rfl)
    : wE X (.Call (.Attribute o "reverse" apos) [] [] pos) σ H Q :=
  eE (pe_bm0 PySem.F.plainAttrs_list PySem.F.slot_list_reverse PySem.F.type_list_reverse mt_reverse pE hbase hline)
    (wE_mono h fun x H1 ⟨q, xs, e1, h0, h1⟩ => ⟨by rw [e1]; exact .inl ⟨rfl, xs, .inl (.inl h0)⟩, ⟨q, xs, e1, rfl, h0, h1⟩⟩)
theorem e_clear (h : wE X o σ H fun x H1 => ∃ q xs, x = .ref q ∧ H1 q = some (.lst xs) ∧ Q .non (upd H1 q (.lst [])))
    (hbase : attributeBase o "clear" X.env (eval o X.env) = eval o X.env := by rfl) (hline : (apos.endLine == pos.line) = true := by rfl)
    : wE X (.Call (.Attribute o "clear" apos) [] [] pos) σ H Q :=
  eE (pe_bm0 PySem.F.plainAttrs_list PySem.F.slot_list_clear PySem.F.type_list_clear mt_clear pE hbase hline)
    (wE_mono h fun x H1 ⟨q, xs, e1, h0, h1⟩ => ⟨by rw [e1]; exact .inl ⟨rfl, xs, .inl (.inl h0)⟩, ⟨q, xs, e1, rfl, h0, h1⟩⟩)
theorem o_rep {q : Addr} {xs : List V} {n : Nat} (h1 : H q = some (.lst xs)) (hz : xs.length * n ≤ sizeLine) (hn : n < 2 ^ 62) (h : ∀ p, H p = none → Q (.ref p) (upd H p (.lst (List.replicate n xs).flatten))) : oW X (binaryOp .Mult) (.ref q) (.int n) H Q :=
  oW_of op_rep ⟨q, n, xs, rfl, rfl, h1, by omega, by omega, by simpa using hz, by simpa using h⟩
/-- while: the invariant with its measure -/
theorem s_while {D : Ends} {body : List Stmt} (C : Cxt X k W) (I : Nat → L2.St → Hp → Prop) (m0 : Nat) (h0 : I m0 σ H)
    (h : ∀ m σ H, I m σ H → wT X c σ H fun b H1 => if b = true then wB X body { D with nx := fun σ' H' => ∃ m', m' < m ∧ I m' σ' H', ct := fun σ' H' => ∃ m', m' < m ∧ I m' σ' H', bk := D.nx } σ H1 else D.nx σ H1) : wS X (.While c body [] pos) D σ H := by
  refine eS (ps_while C.po pT pB) ⟨I, ⟨m0, h0⟩, fun m σ H hi => wT_mono (h m σ H hi) fun b H1 q => ?_⟩
  cases b with
  | true => exact ⟨fun σ' H' => ∃ m', m' < m ∧ I m' σ' H', fun _ _ q => q, q⟩
  | false => exact q
end
mutual
theorem eqv_same : ∀ {d : PyData}, d.hasDict = false → PyData.eqv d d = true
  | .none, _ => rfl
  | .bool b, _ => by simp [PyData.eqv]
  | .int i, _ => by simp [PyData.eqv]
  | .str x, _ => by simp [PyData.eqv]
  | .list xs, h => by rw [PyData.eqv]; exact eqvAll_same (by simpa [PyData.hasDict] using h)
  | .tuple xs, h => by rw [PyData.eqv]; exact eqvAll_same (by simpa [PyData.hasDict] using h)
  | .dict _, h => by simp [PyData.hasDict] at h
theorem eqvAll_same : ∀ {ds : List PyData}, PyData.hasDictAll ds = false → PyData.eqvAll ds ds = true
  | [], _ => rfl
  | x :: xs, h => by
    simp only [PyData.hasDictAll, Bool.or_eq_false_iff] at h
    rw [PyData.eqvAll, eqv_same h.1, eqvAll_same h.2]
    rfl
end
end Z

set_option Elab.async false
set_option linter.all false
set_option maxRecDepth 100000
set_option maxHeartbeats 4000000
/-! objects of own classes compared -/
namespace Z
open PySem PySem.Spec PyProof.Rows L2 C8
section
variable {X : Cx} {k : Nat} {W : WX} {σ : L2.St} {H : Hp} {e a b : Expr} {p pos : Pos} {Q : VK} {x : Str}
theorem but_ext {H H' : Hp} (e : Ext H H') : But [] H H' := fun q o _ h => e q o h
theorem ext_but {H H' : Hp} (e : But [] H H') : Ext H H' := fun q o h => e q o (by simp) h
/-- x == y by the own __eq__ of the class at C -/
theorem c_eqI {C : Addr} {ps : List Str} {R : Addr → Addr → Hp → Prop} {y z : V} (Cc : Cxt X k W) (M : MethOk X.prog X.w X.K X.mg X.base k C "__eq__" ps (spEq R)) (d : DIns C R y z H) (q : ∀ H', But [] H H' → Q (.bl true) H') : oW X (compareOp .Eq) y z H Q := by
  obtain ⟨f, fd, hm, F, hb⟩ := M.ex
  exact oW_of (op_eqG (rcG_ins F hm.at_ hm.fn hb (passes0 Cc.tk)) Cc.room) ⟨d, fun H' e => q H' (but_ext e)⟩
/-- isinstance(e, C), e an instance of the own class C -/
theorem e_isC {C : Addr} {pT : Pos} (B : Blt X.mg X.base) (c : InsC X.K C) (hT : X.mg x = some (.ref C)) (h : wE X a σ H fun v H1 => ∃ r dx fs, v = .ref r ∧ H1 r = some (.ins C dx fs) ∧ Q (.bl true) H1) (hgT : Gl X x := by rfl) (hdT : (x == ("__debug__" : Str)) = false := by decide) (hgl : Gl X "isinstance" := by rfl)
    (hs : starEach [a, .Name x pT] X.env = (false, eval a X.env) :: starEach [.Name x pT] X.env := by rfl) (hs2 : starEach [.Name x pT] X.env = [(false, eval (.Name x pT) X.env)] := by rfl) :
    wE X (.Call (.Name "isinstance" p) [a, .Name x pT] [] pos) σ H Q :=
  e_B (id := "isinstance") (a_cons (wE_mono h fun v H1 ⟨r, dx, fs, e1, h1, q⟩ => a_cons (e_glob (v := .ref C) (a_nil (cW_of (call_isC c) ⟨r, dx, fs, by rw [e1], h1, q⟩)) hT rfl hgT hdT) hs2) hs)
    B.isinstance PyProof.Rows.boot_isinstance hgl (by decide) (by decide) hs (by rw [hs2]; rfl)
theorem c_eqDict {d1 d2 : Addr} {kvs : List (Key × V)} (C : Cxt X k W) (h1 : H d1 = some (.dK kvs)) (h2 : H d2 = some (.dK kvs)) (nd : (kvs.map (·.1)).Nodup) (fl : ∀ p ∈ kvs, flatB p.2 = true) (q : Q (.bl true) H) : oW X (compareOp .Eq) (.ref d1) (.ref d2) H Q :=
  oW_of (op_eq_dict (by have := C.un; omega)) ⟨d1, d2, kvs, rfl, rfl, h1, h2, nd, fl, q⟩
end
theorem strOk_ascii {x : Str} (h : ∀ c ∈ x.cps.toList, c < 128) : PyData.strOk x = true := by
  simp only [PyData.strOk, Array.all_eq_true', decide_eq_true_eq]
  intro c hc
  have := h c (by simpa using hc)
  omega
end Z

set_option Elab.async false
set_option linter.all false
set_option maxRecDepth 100000
set_option maxHeartbeats 4000000
/-! names set in pairs and threes -/
namespace Z
open PySem PySem.Spec PyProof.Rows L2
section
variable {X : Cx} {k : Nat} {W : WX} {σ : L2.St} {H : Hp} {a b c : Expr} {x y z : Str} {px py pz pt pt2 pos : Pos} {kt k2}
theorem s_par {D : Ends} {i j : Nat} (C : Cxt X k W) (h : wA X [a, b] σ H fun vs H1 => ∃ v w, vs = [v, w] ∧ D.nx ((σ.set i (some v)).set j (some w)) H1) (hi : X.N[i]? = some x := by rfl) (hj : X.N[j]? = some y := by rfl) (hij : i ≠ j := by decide)
    (hx : X.env.scope.names.lookup x = some .local := by rfl) (hy : X.env.scope.names.lookup y = some .local := by rfl)
    (hw : swappedStores [.Tuple [.Name x px, .Name y py] kt pt] (.Tuple [a, b] k2 pt2) X.env = pure (some [x, y]) := by rfl)
    (hs : swapsWithSole [.Tuple [.Name x px, .Name y py] kt pt] (.Tuple [a, b] k2 pt2) pos.line X.env = pure false := by rfl) : wS X (.Assign [.Tuple [.Name x px, .Name y py] kt pt] (.Tuple [a, b] k2 pt2) pos) D σ H :=
  eS (ps_par C.calm C.nd hi hj hij hx hy pA hw hs) h
theorem s_par3 {D : Ends} {i j l : Nat} (C : Cxt X k W) (h : wA X [a, b, c] σ H fun vs H1 => ∃ u v w, vs = [u, v, w] ∧ D.nx (((σ.set i (some u)).set j (some v)).set l (some w)) H1) (hi : X.N[i]? = some x := by rfl) (hj : X.N[j]? = some y := by rfl) (hl : X.N[l]? = some z := by rfl)
    (hij : i ≠ j := by decide) (hil : i ≠ l := by decide) (hjl : j ≠ l := by decide) (hx : X.env.scope.names.lookup x = some .local := by rfl) (hy : X.env.scope.names.lookup y = some .local := by rfl) (hz : X.env.scope.names.lookup z = some .local := by rfl)
    (hw : swappedStores [.Tuple [.Name x px, .Name y py, .Name z pz] kt pt] (.Tuple [a, b, c] k2 pt2) X.env = pure (some [x, y, z]) := by rfl)
    (hs : swapsWithSole [.Tuple [.Name x px, .Name y py, .Name z pz] kt pt] (.Tuple [a, b, c] k2 pt2) pos.line X.env = pure false := by rfl) : wS X (.Assign [.Tuple [.Name x px, .Name y py, .Name z pz] kt pt] (.Tuple [a, b, c] k2 pt2) pos) D σ H :=
  eS (ps_par3 C.calm C.nd hi hj hl hij hil hjl hx hy hz pA hw hs) h
end
end Z

set_option Elab.async false
set_option linter.all false
set_option maxRecDepth 100000
set_option maxHeartbeats 4000000
/-! what the head's facts give: tuples and dicts of the text, classes -/
namespace Z
open PySem PySem.Spec PyProof.Rows L2
section
variable {w : World} {K : PySem.W.Frag} {mg : Str → Option Value} {h : Heap}
theorem sqt_mk {a : Addr} {its : Array Value} {n : Nat} {dd : Option Addr} {sl : Array (Option Value)} {xs : List V} (l : K.lookup a = some ⟨.type "tuple", dd, .seq its n, sl⟩) (v : Vals xs its.toList) (z : its.size ≤ 16777216) : ∀ H, SqT K H a xs :=
  fun H => .inr ⟨_, its, n, l, rfl, rfl, by rw [sizeLine_eq]; exact z, v⟩
theorem kdct_mk {a : Addr} {x : Str} {v : V} {u : Value} {es : Array DictEntry} {n : Nat} (l : K.lookup a = some ⟨.type "dict", none, .dict es n, #[]⟩) (kl : PySem.W.KeysLit w.params es.toList) (e : PySem.W.nsIn K a x = some (some u)) (r : RelV v u) : KDct K w a x v := ⟨es, n, u, l, kl, e, r⟩
end
end Z

set_option Elab.async false
set_option linter.all false
set_option maxRecDepth 100000
set_option maxHeartbeats 4000000
/-! enumerate of a tuple -/
namespace Z
open PySem PySem.Spec PyProof.Rows L2
open AutoSeq1 (wpAny_loadPart')
theorem meets_enumerate_new1 (t : Addr) (items : Array Value) (n : Nat) (dct : Option Addr) (sl : Array (Option Value)) :
    Meets (Builtin.«enumerate.__new__» ⟨[.type "enumerate", .ref t], []⟩) (fun _ R s => s.heap.get? t = some { cls := .type "tuple", dict := dct, data := .seq items n, slots := sl } ∧
      R (.ok (.ret (.ref (s.heap.push { cls := .type "tuple_iterator", data := .fields #[.ref t, .int 0 0] }).objs.size)))
        { s with heap := (s.heap.push { cls := .type "tuple_iterator", data := .fields #[.ref t, .int 0 0] }).push { cls := .type "enumerate", data := .fields #[.none, .bool false, .ref s.heap.objs.size, rawInt 0, .none, .none] } }) :=
  .of_wp fun prog w A R s h => by
    obtain ⟨hp, g, d, tk, os⟩ := s; obtain ⟨hl, h⟩ := h
    have hsub := sub_enumerate
    have hL : Heap.IsTuple (Shared.heap ⟨hp, g, d, tk, os⟩) t items := ⟨_, hl, rfl, n, rfl⟩
    wp_walk using wpAny_loadPart' hl
    refine wpAny_stack_any fun st => wpAny_pure ?_
    split
    · rename_i c _ _ _ _ _
      cases (c == Value.type "enumerate")
      · wp_walk using wpAny_loadPart' hl, wpAny_pyIter_tuple hL
        exact ⟨_, rfl, h⟩
      · wp_walk using wpAny_loadPart' hl, wpAny_pyIter_tuple hL
        exact ⟨_, rfl, h⟩
    · wp_walk using wpAny_loadPart' hl, wpAny_pyIter_tuple hL
      exact ⟨_, rfl, h⟩
section
variable {prog : Program} {w : World} {A : Around} {E : Value → Shared → Prop} {s : Shared}
theorem call_enumerate_tuple {t : Addr} {items : Array Value} {Q : Value → Shared → Prop} (hL : s.heap.IsTuple t items)
    (h : ∀ h', IsEnum h' (s.heap.objs.size + 1) s.heap.objs.size 0 .none → h'.IsTupleIter s.heap.objs.size t 0 → h'.objs.size = s.heap.objs.size + 2 →
      (∀ b o, s.heap.get? b = some o → h'.get? b = some o) → Q (.ref (s.heap.objs.size + 1)) { s with heap := h' }) :
    wpAny (model prog w) A (call (.type "enumerate") [.ref t]) Q E s := by
  obtain ⟨⟨c, dct, dt, sl⟩, hl, hc, n, hd⟩ := hL
  replace hc : c = .type "tuple" := hc
  replace hd : dt = .seq items n := hd
  subst hc hd
  refine callType_new F.called_enumerate (by decide) (F.typeCall_enumerate_1 _) (F.newCall_enumerate_1 _) (fun obj => F.args_object_init_2 obj _) F.entry_enumerate_new
    (meets_enumerate_new1 t items n dct sl) ⟨hl, ?_⟩
  have hz : (s.heap.push { cls := .type "tuple_iterator", data := .fields #[.ref t, .int 0 0] }).objs.size = s.heap.objs.size + 1 := Heap.size_push ..
  show _ ∧ _
  rw [hz]
  have he : IsEnum ((s.heap.push { cls := .type "tuple_iterator", data := .fields #[.ref t, .int 0 0] }).push
      { cls := .type "enumerate", data := .fields #[.none, .bool false, .ref s.heap.objs.size, rawInt 0, .none, .none] }) (s.heap.objs.size + 1) s.heap.objs.size 0 .none := by
    have := Heap.get?_push_size (s.heap.push { cls := .type "tuple_iterator", data := .fields #[.ref t, .int 0 0] })
      (o := { cls := .type "enumerate", data := .fields #[.none, .bool false, .ref s.heap.objs.size, rawInt 0, .none, .none] }) rfl
    rw [hz] at this; exact this
  refine ⟨⟨_, he, rfl⟩, h _ he ⟨_, Heap.get?_push_of_some _ (Heap.get?_push_size _ rfl), rfl, rfl⟩ (by rw [Heap.size_push, hz]) fun b o x => Heap.get?_push_of_some _ (Heap.get?_push_of_some _ x)⟩
end
theorem wpAny_pyNext_enum_endT {prog : Program} {w : World} {A : Around} {E : Value → Shared → Prop} {s : Shared} {e it t : Addr} {i : Nat} {items : Array Value} {old : Value} {Q : Option Value → Shared → Prop} (hh : A.handled = none)
    (he : IsEnum s.heap e it ((i : Nat) : Int) old) (hit : s.heap.IsTupleIter it t i) (ht : s.heap.IsTuple t items) (hx : items[i]? = none)
    (hQ : ∀ h', Heap.ExtBut it s.heap h' → Q none { s with heap := h' }) : wpAny (model prog w) A (pyNext (.ref e)) Q E s := by
  have hT : s.TypeIs (.ref e) "enumerate" := ⟨_, he, rfl⟩
  unfold pyNext
  refine wpAny_bind (wpAny_attempt (wpAny_callSpecial?_slot (name := Str.ofString "__next__") hT F.slot_enumerate_next
    (wpAny_call_entry F.slot_enumerate_next hT F.entry_enumerate_next ?_ (F.args_enumerate_next_1 _))))
  show wpAny _ _ (field (.ref e) 2 >>= _) _ _ _
  refine wpAny_bind (wpAny_field he rfl (x := .ref it) rfl ?_)
  refine wpAny_bind (wpAny_nextOf_tuple_end (show A.in1.handled = none from hh) hit ht hx fun h' x he' hx' => ?_)
  obtain ⟨o, ho, hc⟩ := hx'
  refine wpAny_bind (wpAny_isInstance (T := "StopIteration") (b := true) ⟨o, ho, hc⟩ isSubtype_stop ?_)
  exact wpAny_pure (hQ _ he')
/-- the tuple at a, its items in new pairs -/
def Itet (K : PySem.W.Frag) (a : Addr) : It :=
  ⟨fun i H => ∃ (xs : List V) (x : V), SqT K H a xs ∧ xs[i]? = some x, fun i H v H' => ∃ T x, v = .ref T ∧ H T = none ∧ H' = upd H T (.tup [.int (i : Nat), x]) ∧ ∀ xs, SqT K H a xs → xs[i]? = some x, fun i H => ∃ xs : List V, SqT K H a xs ∧ xs.length ≤ i⟩
theorem tup_ne {h : Heap} {a b : Addr} {items : Array Value} {o : Obj} (ha : IsTup h a items) (hb : h.get? b = some o) (n : ¬ o.cls = .type "tuple") : a ≠ b := fun z => by
  obtain ⟨o', e, c, _⟩ := ha
  rw [z, hb] at e
  cases e
  exact n c
theorem turn_enumT {P : Program} {w : World} {K : PySem.W.Frag} {elts : List Expr} {kk : Nat} {tpos : Pos} (a e it : Addr) :
    Turn P w K (.Tuple elts kk tpos) (Itet K a) [e, it] e (fun i h => (∃ old, IsEnum h e it ((i : Nat) : Int) old) ∧ h.IsTupleIter it a i ∧ e ≠ it) where
  mem := by simp
  obj := fun i h st b hb => by
    obtain ⟨⟨old, he⟩, ⟨o, ho, hc, hd⟩, _⟩ := st
    have e' : b = e ∨ b = it := by simpa using hb
    rcases e' with z | z
    · rw [z]; exact ⟨_, he, fun v q => nomatch q⟩
    · rw [z]; exact ⟨o, ho, fun v q => by rw [hd] at q; cases q⟩
  keep := fun i h h' st k => let ⟨⟨old, he⟩, hi, hne⟩ := st; ⟨⟨old, k e (by simp) _ he⟩, hi.at fun o q => k it (by simp) o q, hne⟩
  item := by
    intro X hP hw hK hc i pins s σ H E I hf st hg
    subst hP hw hK
    obtain ⟨⟨old, he⟩, hit, hne⟩ := st
    obtain ⟨xs, x, hq, hx⟩ := hg
    obtain ⟨its, rv, p, hz⟩ := I.tuple hq
    obtain ⟨u, hu, ru⟩ := rv.get hx
    have hel : e < s.heap.objs.size := Heap.lt_size he
    have hil : it < s.heap.objs.size := by obtain ⟨_, q, _⟩ := hit; exact Heap.lt_size q
    have nae : a ≠ e := tup_ne p he (fun z => absurd (Value.type.inj z) (by decide))
    have nai : a ≠ it := by
      obtain ⟨oi, hoi, hci, _⟩ := hit
      exact tup_ne p hoi (by rw [hci]; exact fun z => absurd (Value.type.inj z) (by decide))
    have hlt : i < its.toArray.size := by
      have := (List.getElem?_eq_some_iff.mp hu).1
      simpa using this
    refine wpAny_pyNext_enum_itemC (Draws.tuple (show X.A.in1.handled = none from I.ok.hd hc) it a nai its.toArray) he ⟨hit, p⟩ hlt hne (by simp [hne, nae.symm]) fun x' h' tk hP ho hst' hT hsz hk => ?_
    obtain ⟨hit', p'⟩ := hst'
    have hxu : x' = u := by
      have h1 : its.toArray[i]? = some x' := hP
      rw [← Array.getElem?_toList] at h1
      rw [show its.toArray.toList = its from by simp, hu] at h1
      exact (Option.some.inj h1).symm
    subst hxu
    refine ⟨_, rfl, wpAny_letOwnedTupleGo_enum (s := { s with heap := h', toks := tk + 1 }) ho fun h'' he' sb => ?_⟩
    have hT2 : h''.get? s.heap.objs.size = some { cls := .type "tuple", data := .seq #[.int i tk, x'] } := (sb.2 _ (Nat.ne_of_gt hel)).trans hT
    have new : ObjOk X.prog X.w (upd H s.heap.objs.size (.tup [.int (i : Nat), x])) h'' s.heap.objs.size (.tup [.int (i : Nat), x]) :=
      ⟨by show 2 ≤ sizeLine; decide, [.int i tk, x'], .cons ⟨_, rfl⟩ (.cons ru .nil), ⟨_, hT2, rfl, _, rfl⟩⟩
    have I1 : Inv X pins σ (upd H s.heap.objs.size (.tup [.int (i : Nat), x])) { s with heap := h'', toks := tk + 1 } :=
      I.turnedNew (ch := [e, it]) (fun b ob hb q => (sb.2 b (fun z => hb (by simp [z]))).trans (hk b ob (fun z => hb (by simp [z])) (fun z => hb (by simp [z])) q)) hf (Nat.le_refl _) new
    refine ⟨.ref s.heap.objs.size, _, I1, rfl, ⟨_, x, rfl, I.hok.fresh (Nat.le_refl _), rfl, fun ys hy => by rw [I.tuple_inj hy hq]; exact hx⟩, ⟨⟨x', ?_⟩, hit'.at fun o q => (sb.2 it (Ne.symm hne)).trans q, hne⟩, fun b hb => ?_⟩
    · have e1 : ((i + 1 : Nat) : Int) = (i : Int) + 1 := by omega
      rw [e1]; exact he'
    · have hb' : b < s.heap.objs.size := by
        have e' : b = e ∨ b = it := by simpa using hb
        rcases e' with z | z
        · rw [z]; exact hel
        · rw [z]; exact hil
      rw [upd_ne (Nat.ne_of_lt hb')]
      exact (hf b hb).1
  done := by
    intro X hP hw hK hc i pins s σ H E I hf st hg
    subst hP hw hK
    obtain ⟨⟨old, he⟩, hit, hne⟩ := st
    obtain ⟨xs, hq, hx⟩ := hg
    obtain ⟨its, rv, p, hz⟩ := I.tuple hq
    obtain ⟨f0, f1, f2, f3, f4, f5⟩ := hf it (by simp)
    have hl := rv.length
    exact wpAny_pyNext_enum_endT (I.ok.hd hc) he hit p (by simp; omega) fun h' eb => ⟨rfl, I.turned (t' := s.toks) (fun b o hb q => eb b o hb q) f0 f1 f3 f4 f5⟩
  self := fun A i s Q E st h => let ⟨⟨_, he⟩, _⟩ := st; wpAny_pyIter_enum he h
def iEnumT (K : PySem.W.Frag) (ta : TA) : TI := fun σ H R => ta σ H fun vs H1 => ∃ a xs, vs = [.ref a] ∧ SqT K H1 a xs ∧ R (Itet K a) H1
theorem pi_enumT {X : Cx} {e : Expr} {ta : TA} {p pos tpos : Pos} {elts : List Expr} {kk : Nat} (hg : Gl X "enumerate") (hm : X.mg "enumerate" = none) (ha : PA X [e] ta) (hs : starEach [e] X.env = [(false, eval e X.env)] := by rfl) :
    PI X (.Tuple elts kk tpos) (.Call (.Name "enumerate" p) [e] [] pos) (iEnumT X.K ta) := by
  refine ⟨fun pins s σ H R I h => ?_⟩
  refine Call_ (ld_blt I hg hm boot_enumerate (PyProof.Rows.callWith_type1 (thn (ha.run pos pins s σ H _ I h) fun us s1 ⟨vs, H1, I1, r1, q1⟩ => ?_) hs rfl))
  obtain ⟨a, xs, ex, hq, q⟩ := q1
  subst ex
  cases r1 with
  | cons r rr =>
    cases rr
    cases r
    obtain ⟨its, rv, p', hz⟩ := I1.tuple hq
    refine call_enumerate_tuple (show s1.heap.IsTuple a its.toArray from p') fun h' he hit hsz hk => wpAny_pyIter_enum he ?_
    have I2 : Inv X pins σ H1 { s1 with heap := h' } := I1.kept (t' := s1.toks) hk
    refine ⟨s1.heap.objs.size + 1, [s1.heap.objs.size + 1, s1.heap.objs.size], _, _, H1, rfl, I2, turn_enumT a (s1.heap.objs.size + 1) s1.heap.objs.size, ⟨⟨.none, he⟩, hit, Nat.succ_ne_self _⟩, fun b hb => ?_, q⟩
    have e' : b = s1.heap.objs.size + 1 ∨ b = s1.heap.objs.size := by simpa using hb
    have hle : s1.heap.objs.size ≤ b := by
      rcases e' with z | z
      · rw [z]; exact Nat.le_add_right _ _
      · rw [z]; exact Nat.le_refl _
    exact I1.fpOk hle (I1.hok.fresh hle)
theorem walk_enumT {K : PySem.W.Frag} {a : Addr} {xs : List V} : Walk (Itet K a) xs.length (fun H => SqT K H a xs) (YPair (fun i => some (.int (i : Nat))) (fun i => xs[i]?)) := by
  refine ⟨fun i _ hi q => ⟨xs, xs[i], q, by simp [hi]⟩, fun _ q => ⟨xs, q, Nat.le_refl _⟩, fun i H v H' _ q y => ?_⟩
  obtain ⟨T, x, h1, h2, h3, h4⟩ := y
  exact ⟨T, .int (i : Nat), x, h1, h2, h3, rfl, h4 xs q⟩
section
variable {X : Cx} {σ : L2.St} {H : Hp} {e : Expr} {elts : List Expr} {kk : Nat} {p pos tpos : Pos}
theorem i_enumT {R : It → Hp → Prop} (B : Blt X.mg X.base) (h : wE X e σ H fun v H1 => ∃ a xs, v = .ref a ∧ SqT X.K H1 a xs ∧ R (Itet X.K a) H1) (hg : Gl X "enumerate" := by rfl) (hs : starEach [e] X.env = [(false, eval e X.env)] := by rfl) :
    wI X (.Tuple elts kk tpos) (.Call (.Name "enumerate" p) [e] [] pos) σ H R :=
  eI (pi_enumT hg B.enumerate pA hs) (a_cons (wE_mono h fun v H1 ⟨a, xs, e1, h1, r⟩ => a_nil ⟨a, xs, by rw [e1], h1, r⟩) hs)
end
end Z

set_option Elab.async false
set_option linter.all false
set_option maxRecDepth 100000
set_option maxHeartbeats 4000000
/-! a lambda with one parameter, handed to a def as its second argument -/
namespace Z
open PySem PySem.Spec PyProof.Rows L2 LamX NdefX
abbrev lamF (X : Cx) (params : Arguments) (scope : Scope) (c' : Addr) : NF := ⟨"<lambda>", X.env.qual ++ "<lambda>", params, [], scope, cloFrom X.env.cells scope.names [], c'⟩
/-- the context of the lambda's body -/
abbrev lam1Cx (X : Cx) (N : List Str) (A : Around) (outer : List Env) (s : Shared) (H : Hp) (E : XK) (params : Arguments) (scope : Scope) (f c' : Addr) : Cx := ncx (L2.CX X.prog X.w) X.prog X.w X.K X.mg X.base N (lamF X params scope c') f A outer s H E
section
variable {X : Cx} {pins : List (Addr × Obj)} {σ : L2.St} {H : Hp} {s : Shared} {k : Nat} {W : WX}
theorem cells_un {fs : List Addr} {cl : List (Str × Addr)} {fr : List Str} {ws : List (Option V)} {h h' : Heap} {H H' : Hp} (C : CellsAt cl fr ws h H) (un : Un fs [] H H' h h') : CellsAt cl fr ws h' H' := by
  have kp : ∀ {c : Addr} {v : Option Value}, H c = none → h.IsCell c v → h'.IsCell c v := fun {c v} n ⟨o, ho, hd⟩ => by
    obtain ⟨sl, q⟩ := un.any ho n (by simp)
    exact ⟨_, q, hd⟩
  refine ⟨C.len, fun y c e => ?_, C.inj, fun i y e => ?_⟩
  · obtain ⟨n, v, z⟩ := C.all y c e
    refine ⟨?_, v, kp n z⟩
    obtain ⟨o, ho, _⟩ := z
    exact un.free c o ho n (by simp)
  · obtain ⟨c, hc, hv⟩ := C.has i y e
    refine ⟨c, hc, fun v ev => ?_⟩
    obtain ⟨u, r, z⟩ := hv v ev
    exact ⟨u, r, kp (C.all y c hc).1 z⟩
/-- the lambda is called -/
theorem e_act1 {Ng N fr : List Str} {js : List Nat} {i : Nat} {x a pname : Str} {st : Stmt} {g f c' : Addr} {cdg pm ctv : Value} {params : Arguments} {body arg : Expr} {scope : Scope} {E0 E : XK} {p1 p2 : Pos} {σZ : L2.St} {HZ : Hp} {Q : VK}
    (C : Cxt X (k + 2) W) (I : Inv X pins σ H s) (S : NScope N [pname] fr scope) (cp : Caps X (cloFrom X.env.cells scope.names []) fr js) (hf : s.heap.get? f = some (PySem.W.kla_obj "<lambda>" (X.env.qual ++ "<lambda>") params body scope (cloFrom X.env.cells scope.names []) pm c' ctv)) (hfn : H f = none) (hfr : f ∉ frs X.stack)
    (hbind : ∀ u : Value, bindArgs (PySem.W.kla_fn "<lambda>" (X.env.qual ++ "<lambda>") params body scope (cloFrom X.env.cells scope.names []) pm (.ref c') ctv) ⟨[u], []⟩ = pure [(pname, u)])
    {W' : WX} (tk : Takes (hX X Ng x st g cdg s H E0) W') (hW : ∀ cls d σ' H', E cls d H' → W' cls d σ' H')
    (hN : Ng[i]? = some a) (hv : Vis (defScope st) a) (hd : (a == ("__debug__" : Str)) = false) (hcd : (a == ("__classdict__" : Str)) = false)
    (hs : σZ[i]? = some (some (.ref f)))
    (h : wE (hX X Ng x st g cdg s H E0) arg σZ HZ fun v HY => HY c' = some (CodeO c' (X.env.qual ++ "<lambda>")) ∧ ∀ (A : Around) (outer : List Env) (s' : Shared), Cxt (lam1Cx X N A outer s' HY E params scope f c') k (fun cls d _ H => E cls d H) → wE (lam1Cx X N A outer s' HY E params scope f c') body (startF N [v] (js.map (slotAt σ))) HY Q)
    (he : starEach [arg] (hX X Ng x st g cdg s H E0).env = (false, eval arg (hX X Ng x st g cdg s H E0).env) :: starEach [] (hX X Ng x st g cdg s H E0).env := by rfl) :
    wE (hX X Ng x st g cdg s H E0) (.Call (.Name a p1) [arg] [] p2) σZ HZ Q := by
  refine ⟨fun pinsZ sZ IZ => ?_⟩
  refine wpAny_Call_Name_kw (thn ((pe_var (pos := p1) (i := i) hN hv hd hcd).run pinsZ sZ σZ HZ (fun v H1 => v = .ref f ∧ H1 = HZ) IZ ⟨.ref f, hs, rfl, rfl⟩) fun u s1 ⟨v, H1, I1, r1, q1⟩ => ?_)
  obtain ⟨ev, eH⟩ := q1
  subst ev
  rw [eH] at I1
  obtain rfl : u = Value.ref f := r1
  have of1 : s1.heap.get? f = some (PySem.W.kla_obj "<lambda>" (X.env.qual ++ "<lambda>") params body scope (cloFrom X.env.cells scope.names []) pm c' ctv) := I1.base.keep f _ hf hfn hfr (fun z => nomatch (show f ∈ ([] : List Addr) from z))
  refine PySem.W.callWith_F (first := []) ⟨_, _, _, _, of1⟩ (thn ((a_cons (Q := fun vs H1 => ∃ v, vs = [v] ∧ H1 c' = some (CodeO c' (X.env.qual ++ "<lambda>")) ∧ ∀ (A : Around) (outer : List Env) (s' : Shared), Cxt (lam1Cx X N A outer s' H1 E params scope f c') k (fun cls d _ H => E cls d H) → wE (lam1Cx X N A outer s' H1 E params scope f c') body (startF N [v] (js.map (slotAt σ))) H1 Q) (wE_mono h fun v HY q => a_nil ⟨v, rfl, q⟩) he).run p2 pinsZ s1 I1) fun us s2 ⟨vs, H2, I2, r, v, ev, hc, hb⟩ => ?_) he rfl
  subst ev
  obtain ⟨u, rfl, ru⟩ := vals1 r
  have of2 : s2.heap.get? f = some (PySem.W.kla_obj "<lambda>" (X.env.qual ++ "<lambda>") params body scope (cloFrom X.env.cells scope.names []) pm c' ctv) := I2.base.keep f _ hf hfn hfr (fun z => nomatch (show f ∈ ([] : List Addr) from z))
  refine ⟨⟨_, _, _, _, of2⟩, ?_⟩
  show wpAny _ _ (call (.ref f) [u]) _ _ _
  have un : Un (frs X.stack) [] H H2 s.heap s2.heap := I2.base
  have CA : CellsAt (cloFrom X.env.cells scope.names []) fr (js.map (slotAt σ)) s2.heap H2 := cells_un (cells_of I cp) un
  obtain ⟨⟨oc, ws, t, hoc, hdc, hvc⟩, _, _⟩ := I2.hok c' _ hc
  have hr : Room (k + 1) (X.A.deeper (envOfC x (defScope st) s.heap.objs.size g cdg)) := C.room.deeper _
  have rc : codeAny (model X.prog X.w) (X.A.deeper (envOfC x (defScope st) s.heap.objs.size g cdg)) (.call (.ref f) ⟨[u], []⟩) (CR (L2.CX X.prog X.w) (envOfC x (defScope st) s.heap.objs.size g cdg :: X.stack) X.prog X.w H2 s2 Q E) s2 := by
    refine PySem.W.kla_callFunE hr.depth of2 rfl S.co S.gen rfl ⟨c', oc, ws, t, rfl, hoc, hdc, hvc⟩ ?_
    rw [hbind u]
    refine wpAny_pure (wpAny_newFunctionEnv S.nocell (fun y hy => S.par y.1 (by rw [List.mem_singleton.mp hy]; simp)) (fun h₁ hns hsb => ⟨I2.nolimit.fresh _ hsb, ?_⟩) S.kind)
    show codeAny _ _ (.expr body (envF (lamF X params scope c') f s2.heap.objs.size)) _ _
    have kp : ∀ b o, s2.heap.get? b = some o → h₁.get? b = some o := fun b o e => hsb.extBut b o (Nat.ne_of_lt (Heap.lt_size e)) (Heap.get?_push_of_some _ e)
    have J : Inv (lam1Cx X N (X.A.deeper (envOfC x (defScope st) s.heap.objs.size g cdg)) (envOfC x (defScope st) s.heap.objs.size g cdg :: X.stack) s2 H2 E params scope f c') [] (startF N [v] (js.map (slotAt σ))) H2 { s2 with heap := h₁, toks := s2.toks + ([(pname, u)] : List (Str × Value)).length } :=
      inv_startN (F := lamF X params scope c') (ps := [pname]) (us := [u]) S hr.hd I2.env0 rfl (.cons ru .nil) CA hns kp
    have CL : Cxt (lam1Cx X N (X.A.deeper (envOfC x (defScope st) s.heap.objs.size g cdg)) (envOfC x (defScope st) s.heap.objs.size g cdg :: X.stack) s2 H2 E params scope f c') k (fun cls d _ H' => E cls d H') :=
      ⟨hr.deeper _, rfl, S.nd, C.blt, passes_of rfl, takes_of rfl rfl rfl rfl⟩
    refine PySem.W.kla_codeExpr (wpAny_mono ((hb _ _ s2 CL).run [] _ J) (fun v s' hq => ?_) fun e s' hq => hq)
    obtain ⟨w', H', J', rv, q⟩ := hq
    exact ⟨w', H', J'.os, J'.bare, J'.base, J'.hok, rv, q⟩
  refine wpAny_call (codeAny_mono rc fun r s' hq => ?_)
  cases r with
  | error e => exact tk e s' (XE.of_call I2 (fun cls d H' h => hW cls d _ H' h) hq)
  | ok fl =>
    cases fl with
    | ret u => exact I2.after hq
    | next => exact False.elim hq
    | brk => exact False.elim hq
    | cont => exact False.elim hq
/-- x(e0, lambda p: body) -/
theorem e_lam2 {T : List (Addr × Str)} {x a b pname : Str} {st : Stmt} {c P : Addr} {Ng N fr : List Str} {js : List Nat} {params : Arguments} {body e0 : Expr} {scope : Scope} {p lpos pos : Pos} {Q : VK}
    (C : Cxt X (k + 2) W) (D : At X.K X.mg x st) (Sg : FnScope Ng [b, a] (defScope st)) (TB : TabB X.base X.mg c P) (hcode : X.env.code = .ref c) (hmT : (P, X.env.qual ++ "<lambda>") ∈ T) (hu : ∀ p ∈ T, p.1 = P → p.2 = X.env.qual ++ "<lambda>")
    (S : NScope N [pname] fr scope) (hB : ndefB X.env.scope scope fr = true) (hjs : js.map (fun j => X.N[j]?) = fr.map some)
    (h : wE X e0 σ H fun v0 H0 => Tabs T H0 ∧ ∀ (g : Addr) (cdg : Value) (f c' : Addr) (s : Shared) (H1 : Hp), ExtN H0 H1 → Tabs T H1 → H1 c' = some (CodeO c' (X.env.qual ++ "<lambda>")) →
      Cxt (hX X Ng x st g cdg s H1 (fun cls d H' => W cls d σ H')) (k + 1) (fun cls d _ H' => W cls d σ H') →
      (∀ (E : XK) (σZ : L2.St) (HZ : Hp) (Q' : VK) (arg : Expr) (p1 p2 : Pos), (∀ cls d H', E cls d H' → W cls d σ H') → σZ[1]? = some (some (.ref f)) →
        (starEach [arg] (hX X Ng x st g cdg s H1 (fun cls d H' => W cls d σ H')).env = (false, eval arg (hX X Ng x st g cdg s H1 (fun cls d H' => W cls d σ H')).env) :: starEach [] (hX X Ng x st g cdg s H1 (fun cls d H' => W cls d σ H')).env) →
        wE (hX X Ng x st g cdg s H1 (fun cls d H' => W cls d σ H')) arg σZ HZ (fun v HY => HY c' = some (CodeO c' (X.env.qual ++ "<lambda>")) ∧ ∀ (A : Around) (outer : List Env) (s' : Shared), Cxt (lam1Cx X N A outer s' HY E params scope f c') k (fun cls d _ H => E cls d H) → wE (lam1Cx X N A outer s' HY E params scope f c') body (startF N [v] (js.map (slotAt σ))) HY Q') →
        wE (hX X Ng x st g cdg s H1 (fun cls d H' => W cls d σ H')) (.Call (.Name a p1) [arg] [] p2) σZ HZ Q') →
      wB (hX X Ng x st g cdg s H1 (fun cls d H' => W cls d σ H')) (defBody st) { nx := fun _ H' => Q .non H', rt := Q } (start Ng [v0, .ref f]) H1)
    (hN : Ng[1]? = some a := by rfl) (hv : Vis (defScope st) a := by first | exact Or.inl rfl | exact Or.inr (Or.inl rfl) | exact Or.inr (Or.inr rfl)) (hg : Gl X x := by rfl) (hdef : defaultsOf params X.env = ([], []) := by rfl)
    (hbl : ∀ (q : Str) (cl : List (Str × Addr)) (pm cv ctv u : Value), bindArgs (PySem.W.kla_fn "<lambda>" q params body scope cl pm cv ctv) ⟨[u], []⟩ = pure [(pname, u)] := by intros; rfl)
    (hbind : ∀ (kV doc pm : Value) (an : Option Addr) (cdv ct : Value) (us : List Value), us.length = ([b, a] : List Str).length → bindArgs (PySem.W.fnOf x x (defArgs st) (defBody st) (defScope st) .none kV doc pm an cdv ct) ⟨us, []⟩ = pure (([b, a] : List Str).zip us) := by exact fun _ _ _ _ _ _ us hl => match us, hl with | [_, _], _ => rfl)
    (hdb : (x == ("__debug__" : Str)) = false := by decide) (hd : (a == ("__debug__" : Str)) = false := by decide) (hcd : (a == ("__classdict__" : Str)) = false := by decide)
    (he : starEach [e0, .Lambda params body scope lpos] X.env = (false, eval e0 X.env) :: starEach [.Lambda params body scope lpos] X.env := by rfl) :
    wE X (.Call (.Name x p) [e0, .Lambda params body scope lpos] [] pos) σ H Q := by
  refine ⟨fun pins s I => ?_⟩
  obtain ⟨g, fd, hm, F⟩ := D.ex
  obtain ⟨oc, od, kV, doc, pm, an, cdg, ct, osl, rfl, lk, hcd2⟩ := F.ex
  refine wpAny_Call_Name_kw (ld_glob I hg hm ?_ hdb)
  refine PySem.W.callWith_K (h₀ := X.base) I.ok.mod.kin F.kp ?_ he (by rfl)
  rw [he]
  show wpAny _ _ (spliced ((false, eval e0 X.env) :: backTo pos (starEach [.Lambda params body scope lpos] X.env))) _ _ s
  refine Calls.spliced_cons (thn (h.run pins s I) fun u0 s0 ⟨v0, H0, I0, r0, hT, h⟩ => ?_)
  show wpAny _ _ (spliced ((false, eval (.Lambda params body scope lpos) X.env) :: backTo pos (starEach [] X.env))) _ _ s0
  have hfree : ∀ y ∈ scope.names, y.2 = .free → ∃ c, X.env.cells.lookup y.1 = some c := fun y hy e => (ndef_free hB y hy e).elim (fun z => I0.ok.has _ (.inl z)) fun z => I0.ok.has _ (.inr z)
  refine Calls.spliced_cons (lam_make2 I0 TB hcode hmT hu hT hdef hfree fun f c' pm' ctv H1 s' I1 eN T1 hf hfn hfr hco => ?_)
  refine Calls.spliced_nil ⟨I1.kIn, ?_⟩
  have cp : Caps X (cloFrom X.env.cells scope.names []) fr js := Caps.made I1.ok (ndef_free hB) (ndef_fr hB) hjs
  have rc : codeAny (model X.prog X.w) X.A (.call (.ref g) ⟨[u0, .ref f], []⟩) (CR (L2.CX X.prog X.w) X.stack X.prog X.w H1 s' Q (fun cls d H' => W cls d σ H')) s' := by
    refine run_ofS (N := Ng) (ps := [b, a]) (us := [u0, .ref f]) (vs := [v0, .ref f]) lk hcd2 Sg (C.room.mono (show k + 1 + 1 ≤ k + 2 from Nat.le_refl _)) I1.env0 (.of_eq (hbind kV doc pm an cdg ct [u0, .ref f] rfl)) (.cons r0 (.cons rfl .nil)) rfl fun hr' => ?_
    have CZ : Cxt (hX X Ng x st g cdg s' H1 (fun cls d H' => W cls d σ H')) (k + 1) (fun cls d _ H' => W cls d σ H') := ⟨hr', rfl, Sg.nd, C.blt, passes_of rfl, takes_of rfl rfl rfl rfl⟩
    refine ⟨wB _ (defBody st), pB, h g cdg f c' s' H1 eN T1 hco CZ fun E σZ HZ Q' arg p1 p2 hW hs hst hh => ?_⟩
    exact e_act1 C I1 S cp hf hfn hfr (hbl _ _ _ _ _) CZ.tk (fun cls d σ' H' z => hW cls d H' z) hN hv hd hcd hs hh hst
  refine wpAny_call (codeAny_mono rc fun r s2 hq => ?_)
  cases r with
  | error e => exact C.tk e s2 (XE.of_call I1 (fun _ _ _ z => z) hq)
  | ok fl =>
    cases fl with
    | ret u => exact I1.after hq
    | next => exact False.elim hq
    | brk => exact False.elim hq
    | cont => exact False.elim hq
end
end Z

set_option Elab.async false
set_option linter.all false
set_option maxRecDepth 100000
set_option maxHeartbeats 4000000
/-! more rules: lists of ranges, reversed slices, texts times numbers, dicts made of pairs, comprehensions of two fors -/
namespace Z
open PySem PySem.Spec PyProof.Rows L2
section
variable {X : Cx} {k : Nat} {W : WX} {σ : L2.St} {H : Hp} {e a b c o elt tg iter tg1 iter1 : Expr} {es : List Expr} {p p2 pos apos pos2 : Pos} {Q : VK} {scope : Scope}
/-- xs[::-1] -/
theorem e_rev {kk : Nat} {p1 p2 p3 pos : Pos} (h : wE X e σ H fun x H1 => ∃ a xs, x = .ref a ∧ SqL X.K H1 a xs ∧ ∀ p, H1 p = none → Q (.ref p) (upd H1 p (.lst xs.reverse))) : wE X (.Subscript e (.Slice none none (some (.UnaryOp .USub (.Constant (.int 1) kk p1) p2)) p3) pos) σ H Q := eE (pe_revL pE) h
/-- the ints from i on, n of them, by steps of d -/
def rgD (i d : Int) (n : Nat) : List V := (List.range n).map fun t => V.int (i + (t : Nat) * d)
/-- list(range(a, b, c)) -/
theorem e_listRg3 (C : Cxt X k W) (h : wA X [a, b, c] σ H fun vs H1 => ∃ (i j d : Int) (n : Nat), vs = [.int i, .int j, .int d] ∧ d ≠ 0 ∧ Builtin.Range.small i j d = true ∧ Builtin.Range.rangeSize i j d = n ∧ n ≤ 2 ^ 24 ∧ Builtin.divisionGoesByPylong (j - i) d = false ∧ ∀ q, H1 q = none → Q (.ref q) (upd H1 q (.lst (rgD i d n))))
    (hg : Gl X "list" := by rfl) (hg2 : Gl X "range" := by rfl) (na : starEach [.Call (.Name "range" p2) [a, b, c] [] pos2] X.env = (false, eval (.Call (.Name "range" p2) [a, b, c] [] pos2) X.env) :: starEach [] X.env := by rfl)
    (hs : starEach [a, b, c] X.env = (false, eval a X.env) :: starEach [b, c] X.env := by rfl) (hpl : (backTo pos2 (starEach [b, c] X.env)).any (·.1) = false := by rfl) :
    wE X (.Call (.Name "list" p) [.Call (.Name "range" p2) [a, b, c] [] pos2] [] pos) σ H Q := by
  refine ⟨fun pins s I => ?_⟩
  refine Call_ (ld_blt I hg C.blt.list PyProof.Rows.boot_list (PyProof.Rows.callWith_type1 (args_cons ?_ na) na))
  refine Call_ (ld_blt I hg2 C.blt.range PyProof.Rows.boot_range (PyProof.Rows.callWith_type1 (thn (h.run pos2 pins _ I) fun us s1 ⟨vs, H1, I1, r1, q1⟩ => ?_) hs hpl))
  obtain ⟨i, j, d, n, ex, hd, hsm, hsz, hn, hdv, q⟩ := q1
  subst ex
  obtain ⟨u1, u2, u3, rfl, ⟨t1, rfl⟩, ⟨t2, rfl⟩, ⟨t3, rfl⟩⟩ : ∃ u1 u2 u3, us = [u1, u2, u3] ∧ RelV (.int i) u1 ∧ RelV (.int j) u2 ∧ RelV (.int d) u3 := by
    cases r1 with
    | cons r1 r =>
      cases r with
      | cons r2 r =>
        cases r with
        | cons r3 r =>
          cases r
          exact ⟨_, _, _, rfl, r1, r2, r3⟩
  refine call_range_3 hd (args_nil ?_) (.inl hdv)
  have I2 : Inv X pins σ H1 { s1 with heap := s1.heap.push { cls := .type "range", data := .fields #[.int i t1, .int j t2, .int d t3] } } := I1.kept (t' := s1.toks) fun b u e => Heap.get?_push_of_some _ e
  refine call_list_range (n := n) (I2.ok.hd C.calm) (IsRange.new _ _ _ _ _ _ _) hsm hsz hn fun h' tk acc c' hk e' hi => ?_
  refine ⟨.ref _, _, I2.laid (o := .lst (rgD i d n)) hk (Nat.le_refl _) ⟨?_, acc.toList, c', ?_, ?_⟩, rfl, q _ (I2.hok.fresh (Nat.le_refl _))⟩
  · rw [rgD, List.length_map, List.length_range, sizeLine_eq]; omega
  · have e : acc.toList.length = n := by rw [Array.length_toList]; exact hi.1
    unfold rgD
    rw [← e]
    refine vals_of_get acc.toList _ fun j u hj => ?_
    obtain ⟨t, rfl⟩ := hi.2 j u (by rw [← hj, Array.getElem?_toList])
    exact ⟨t, rfl⟩
  · rw [Array.toArray_toList]; exact e'
/-- list(range(a, b)) -/
theorem e_listRg2 (C : Cxt X k W) (h : wE X a σ H fun x H1 => wE X b σ H1 fun y H2 => ∃ i j : Int, x = .int i ∧ y = .int j ∧ RgOk i j ∧ ∀ q, H2 q = none → Q (.ref q) (upd H2 q (.lst (rgV i j))))
    (hg : Gl X "list" := by rfl) (hg2 : Gl X "range" := by rfl) (na : starEach [.Call (.Name "range" p2) [a, b] [] pos2] X.env = (false, eval (.Call (.Name "range" p2) [a, b] [] pos2) X.env) :: starEach [] X.env := by rfl)
    (hs : starEach [a, b] X.env = (false, eval a X.env) :: starEach [b] X.env := by rfl) (hs2 : starEach [b] X.env = (false, eval b X.env) :: starEach [] X.env := by rfl) (hpl : (backTo pos2 (starEach [b] X.env)).any (·.1) = false := by rfl) :
    wE X (.Call (.Name "list" p) [.Call (.Name "range" p2) [a, b] [] pos2] [] pos) σ H Q :=
  eE (pe_listRg C.calm hg C.blt.list (prg_2 hg2 C.blt.range pE pE hs hs2 hpl) na) (wE_mono h fun x H1 q => wE_mono q fun y H2 ⟨i, j, e1, e2, ok, q⟩ => ⟨i, j, e1, e2, ok, q⟩)
/-- x.startswith(y) -/
theorem e_starts (h : wE X o σ H fun x H1 => ∃ s : Str, x = .str s ∧ wE X a σ H1 fun y H2 => ∃ t : Str, y = .str t ∧ Q (.bl (Txt.startswith s t)) H2)
    (hs : starEach [a] X.env = [(false, eval a X.env)] := by rfl) (hbase : attributeBase o "startswith" X.env (eval o X.env) = eval o X.env := by rfl) (hline : (apos.endLine == pos.line) = true := by rfl)
    (hfew : ((backTo pos (starEach [a] X.env)).all (fun x => !x.1) && (backToKw pos (keywordEach [] X.env)).all (fun x => x.1.isSome) && decide (([a] : List Expr).length + ([] : List Keyword).length + (if ([] : List Keyword).isEmpty then 0 else 1) < 30)) = true := by rfl) :
    wE X (.Call (.Attribute o "startswith" apos) [a] [] pos) σ H Q :=
  eE (pe_bm PySem.F.plainAttrs_str PySem.F.slot_str_startswith PySem.F.type_str_startswith mt_startswith pE pA hbase hfew hline (by rw [hs]; rfl) rfl)
    (wE_mono h fun x H1 ⟨s, e1, h1⟩ => ⟨by rw [e1]; exact rfl, a_cons (wE_mono h1 fun y H2 ⟨t, e2, q⟩ => a_nil ⟨s, t, e1, by rw [e2], q⟩) (by rw [hs]; rfl)⟩)
/-- x * n, x a text -/
theorem o_mulS {x : Str} {n : Int} (hx : x.length ≤ 16) (hlo : 0 ≤ n) (hhi : n ≤ 1048576) (q : Q (.str (Txt.mul x n)) H) : oW X (binaryOp .Mult) (.str x) (.int n) H Q := by
  refine ⟨fun pins s σ v u I rx ry => ?_⟩
  obtain ⟨t, rfl⟩ := rx
  obtain ⟨t', rfl⟩ := ry
  exact PySem.SB.mul (mulOk_of 16 1048576 hx hhi (by omega) (by decide) (by decide)) fun t2 k => ⟨.str (Txt.mul x n), H, I.tok _, ⟨_, rfl⟩, q⟩
/-- list(e.items()) -/
theorem e_listItems (C : Cxt X k W) {cpos : Pos} (h : wE X e σ H fun x H1 => ∃ (d : Addr) (kvs : List (Key × V)), x = .ref d ∧ H1 d = some (.dK kvs) ∧
      ∀ (H' : Hp) (p : Addr) (ts : List Addr), But [] H1 H' → H1 p = none → (∀ t ∈ ts, H1 t = none) → p ∉ ts → H' p = some (.lst (ts.map V.ref)) → Paired (fun (t : Addr) (q : Key × V) => H' t = some (.tup [kV q.1, q.2])) ts kvs → Q (.ref p) H')
    (hg : Gl X "list" := by rfl) (hbase : attributeBase e "items" X.env (eval e X.env) = eval e X.env := by rfl) (hline : (apos.endLine == cpos.line) = true := by rfl)
    (hs : starEach [.Call (.Attribute e "items" apos) [] [] cpos] X.env = (false, eval (.Call (.Attribute e "items" apos) [] [] cpos) X.env) :: starEach [] X.env := by rfl) :
    wE X (.Call (.Name "list" p) [.Call (.Attribute e "items" apos) [] [] cpos] [] pos) σ H Q :=
  eE (LiI.pe_listItems C.calm pE hg C.blt.list PyProof.Rows.boot_list hbase hline hs) (wE_mono h fun x H1 ⟨d, kvs, e1, e2, q⟩ => ⟨d, kvs, e1, e2, fun H' p ts b n1 n2 n3 hp hT => q H' p ts (fun q o _ e => b q o e) n1 n2 n3 hp hT⟩)
/-- dict(ps), ps a list of pairs -/
theorem e_dictP (C : Cxt X k W) (h : wE X a σ H fun x H1 => ∃ (q : Addr) (ps : List Addr) (kvs : List (Key × V)), x = .ref q ∧ SqL X.K H1 q (ps.map V.ref) ∧ Paired (fun p kv => SqT X.K H1 p [kV kv.1, kv.2]) ps kvs ∧ ∀ p, H1 p = none → Q (.ref p) (upd H1 p (.dK (mergeK [] kvs))))
    (hg : Gl X "dict" := by rfl) (hs : starEach [a] X.env = [(false, eval a X.env)] := by rfl) : wE X (.Call (.Name "dict" p) [a] [] pos) σ H Q :=
  e_Ty (T := "dict") (a_cons (wE_mono h fun x H1 ⟨q, ps, kvs, e1, h1, h2, h3⟩ => a_nil (cW_of (call_dictP C.calm) ⟨q, ps, kvs, by rw [e1], h1, h2, h3⟩)) hs) C.blt.dict (by decide +kernel) hg (by decide) (by decide) hs rfl
/-- for k in d -/
theorem i_keys {R : It → Hp → Prop} (h : wE X e σ H fun x H1 => ∃ d o kvs, x = .ref d ∧ H1 d = some (.frz o (.dK kvs)) ∧ R (Itk d o kvs) H1) : wI X tg e σ H R :=
  eI (pi_keys pE) (wE_mono h fun x H1 ⟨d, o, kvs, e1, e2, r⟩ => ⟨d, o, e1, .inl ⟨kvs, e2, r⟩⟩)
def wIb (X : Cx) (scope : Scope) (tg iter : Expr) : TI := fun σ H R => ∀ (s : Shared) (H0 : Hp) (C : Addr) (cl : List (Str × Addr)) (fp : List Addr), wI (X.blk s H0 scope (compEnvC scope cl C X.env) fp) tg iter σ H R
/-- a comprehension of two fors without tests -/
theorem e_lc2 (own : List (Str × Nat)) (vs1 : List Nat) (C : Cxt X k W)
    (h : wI X tg iter σ H fun J H1 => ∃ n G Y, Walk J n G Y ∧ ∀ D, H1 D = none → ∃ Pv : Nat → Hp → Prop, Pv 0 (upd H1 D (.lst [])) ∧ (∀ i H, i ≤ n → Pv i H → G H) ∧
      (∀ i x H H', i < n → Pv i H → Y i H x H' → wGb X scope tg x (wipe σ (own.map (·.2))) H' fun σ2 H2 => wipe σ2 (own.map (·.2)) = wipe σ (own.map (·.2)) ∧ wIb X scope tg1 iter1 σ2 H2 fun J1 H4 => ∃ n1 G1 Y1, Walk J1 n1 G1 Y1 ∧ ∃ P1 : Nat → Hp → Prop, P1 0 H4 ∧ (∀ j H, j ≤ n1 → P1 j H → G1 H) ∧
        (∀ j y H H', j < n1 → P1 j H → Y1 j H y H' → wGb X scope tg1 y (wipe σ2 vs1) H' fun σ3 H5 => wipe σ3 vs1 = wipe σ2 vs1 ∧ wEb X scope elt σ3 H5 fun z H7 => ∃ acc, H7 D = some (.lst acc) ∧ acc.length < sizeLine ∧ P1 (j + 1) (upd H7 D (.lst (acc ++ [z])))) ∧
        ∀ H, P1 n1 H → Pv (i + 1) H) ∧ ∀ H, Pv n H → Q (.ref D) H)
    (hv : ∀ i ∈ vs1, i ∈ own.map (·.2)) (ok : BlkOk X.N X.env.scope scope own := by exact blkOk_by (by first | rfl | kernel_rfl)) (hs : ∀ x, foldedSetIterable iter X.env x = pure x := by intro _; rfl) (hs1 : ∀ env x, foldedSetIterable iter1 env x = pure x := by intro _ _; rfl) :
    wE X (.ListComp elt [⟨tg, iter, [], 0⟩, ⟨tg1, iter1, [], 0⟩] scope pos) σ H Q := by
  refine eE (pe_lc2 (g := wGb X scope tg) (tt := wIfb X scope []) (te := wEb X scope elt) (wi1 := wIb X scope tg1 iter1) (g1 := wGb X scope tg1) (tt1 := wIfb X scope []) C.calm C.nd pI ok hv (fun s H C cl fp => ⟨fun pins s' σ' H' v u Q' I r hh => (hh s H C cl fp).run pins s' u I r⟩)
    (fun s H C cl fp => ⟨fun pins s' σ' H' Q' I hh => (hh s H C cl fp).run pins s' I⟩) (fun s H C cl fp => ⟨fun pins s' σ' H' Q' I hh => (hh s H C cl fp).run pins s' I⟩) (fun s H C cl fp => ⟨fun pins s' σ' H' v u Q' I r hh => (hh s H C cl fp).run pins s' u I r⟩)
    (fun s H C cl fp => ⟨fun pins s' σ' H' Q' I hh => (hh s H C cl fp).run pins s' I⟩) (fun s H C cl fp => ⟨fun pins s' σ' H' Q' I hh => (hh s H C cl fp).run pins s' I⟩) hs hs1) ?_
  refine wI_mono h fun J H1 hh => ?_
  obtain ⟨n, G, Y, w, hD⟩ := hh
  intro D hn
  obtain ⟨Pv, h0, hG, ht, hd⟩ := hD D hn
  refine ⟨fun i m H => m = n - i ∧ i ≤ n ∧ Pv i H, ⟨n, by simp, Nat.zero_le _, h0⟩, ?_⟩
  rintro i m H ⟨rfl, hi, p⟩
  have q := hG i H hi p
  by_cases hlt : i < n
  · refine .inr ⟨w.goes i H hlt q, Pv (i + 1), fun H' p' => ⟨n - (i + 1), by omega, rfl, hlt, p'⟩, fun x H' y => ?_⟩
    intro s H0 Ca cl fp
    refine ⟨fun pins s2 u I r => thn ((ht i x H H' hlt p (w.yields i H x H' hlt q y) s H0 Ca cl fp).run pins s2 u I r) fun _ s3 h3 => ?_⟩
    obtain ⟨σ2, H2, I2, e1, h3⟩ := h3
    refine ⟨σ2, H2, I2, e1, fun s H0 Ca cl fp => eIf pts_nil ?_⟩
    intro s H0 Ca cl fp
    refine wI_mono (h3 s H0 Ca cl fp) fun J1 H4 ⟨n1, G1, Y1, w1, P1, p0, g1, t1, d1⟩ => ?_
    refine ⟨fun j m H => m = n1 - j ∧ j ≤ n1 ∧ P1 j H, ⟨n1, by simp, Nat.zero_le _, p0⟩, ?_⟩
    rintro j m H5 ⟨rfl, hj, pj⟩
    have qj := g1 j H5 hj pj
    by_cases hl1 : j < n1
    · refine .inr ⟨w1.goes j H5 hl1 qj, P1 (j + 1), fun H' p' => ⟨n1 - (j + 1), by omega, rfl, hl1, p'⟩, fun x H' y => ?_⟩
      intro s H0 Ca cl fp
      refine ⟨fun pins s2 u I r => thn ((t1 j x H5 H' hl1 pj (w1.yields j H5 x H' hl1 qj y) s H0 Ca cl fp).run pins s2 u I r) fun _ s3 h3 => ?_⟩
      obtain ⟨σ3, H6, I3, e2, h3⟩ := h3
      refine ⟨σ3, H6, I3, e2, fun s H0 Ca cl fp => eIf pts_nil ?_⟩
      exact h3
    · have e : j = n1 := by omega
      subst e
      exact .inl ⟨w1.stops H5 qj, d1 H5 pj⟩
  · have e : i = n := by omega
    subst e
    exact .inl ⟨w.stops H q, hd H p⟩
end
end Z

set_option Elab.async false
set_option linter.all false
set_option maxRecDepth 100000
set_option maxHeartbeats 4000000
/-! plain: marks seen in lines -/
namespace Z
open PySem PySem.Spec PyProof.Rows L2 TL
theorem lenL (x : Str) : x.cps.toList.length = x.length := by simp; rfl
theorem cut_to (x : Str) (n : Nat) : (cutS x none (some (n : Int))).cps.toList = x.cps.toList.take n := by
  show (((x.cps.toList.drop (HT.sIx x.length 0 none)).take (HT.sIx x.length x.length (some (n : Int)) - HT.sIx x.length 0 none)).toArray).toList = _
  rw [HT.sIx_nat, HT.sIx_none, List.toList_toArray, List.drop_zero, Nat.sub_zero]
  by_cases h : n ≤ x.length
  · rw [Nat.min_eq_left h]
  · rw [Nat.min_eq_right (by omega), List.take_of_length_le (by rw [lenL]; omega), List.take_of_length_le (by rw [lenL]; omega)]
theorem cut_from (x : Str) (n : Nat) : (cutS x (some (n : Int)) none).cps.toList = x.cps.toList.drop n := by
  show (((x.cps.toList.drop (HT.sIx x.length 0 (some (n : Int)))).take (HT.sIx x.length x.length none - HT.sIx x.length 0 (some (n : Int)))).toArray).toList = _
  rw [HT.sIx_nat, HT.sIx_none, List.toList_toArray]
  by_cases h : n ≤ x.length
  · rw [Nat.min_eq_left h, List.take_of_length_le (by rw [List.length_drop, lenL]; omega)]
  · rw [Nat.min_eq_right (by omega), List.drop_of_length_le (by rw [lenL]; omega), List.drop_of_length_le (by rw [lenL]; omega)]
    simp
theorem starts_eq (x y : Str) : Txt.startswith x y = decide (x.cps.toList.take y.length = y.cps.toList) := by
  have e : PySem.Builtin.Str.subAt x y 0 = (((tl x).drop 0).take y.length == tl y) := PySem.StrLaws.subAt_eq x y 0
  rw [List.drop_zero] at e
  unfold Txt.startswith
  rw [e]
  show (decide (0 + y.length ≤ x.length) && (x.cps.toList.take y.length == y.cps.toList)) = _
  rw [Bool.eq_iff_iff]
  simp only [Bool.and_eq_true, decide_eq_true_eq, beq_iff_eq]
  refine ⟨fun h => h.2, fun h => ⟨?_, h⟩⟩
  have h2 := congrArg List.length h
  rw [List.length_take, lenL, lenL] at h2
  omega
/-- whether the mark due is seen in the line by the sight si -/
def seenP (line due si : Str) : Bool :=
  decide (line.cps.toList.take due.length = due.cps.toList) && (decide (si = "start") || decide (line = due) || (!decide (si = "whole") && (line.cps.toList.drop due.length).all fun c => decide ((⟨#[c]⟩ : Str) = si)))
theorem take_self (x : Str) : x.cps.toList.take x.length = x.cps.toList := List.take_of_length_le (by rw [lenL]; omega)
theorem drop_self (x : Str) : x.cps.toList.drop x.length = [] := List.drop_of_length_le (by rw [lenL]; omega)
theorem seen_whole (line due : Str) : seenP line due "whole" = decide (line = due) := by
  unfold seenP
  rw [show decide ((("whole" : Str)) = "start") = false from by decide, show decide ((("whole" : Str)) = "whole") = true from by decide]
  by_cases h : line = due
  · subst h
    simp [take_self]
  · simp [h]
theorem seen_start (line due : Str) : seenP line due "start" = Txt.startswith line due := by
  unfold seenP
  rw [show decide ((("start" : Str)) = "start") = true from by decide, starts_eq]
  simp
theorem all_rep (l : List Nat) (c : Nat) : (l.all fun d => decide ((⟨#[d]⟩ : Str) = ⟨#[c]⟩)) = decide (l = List.replicate l.length c) := by
  rw [Bool.eq_iff_iff, decide_eq_true_eq, List.all_eq_true, List.eq_replicate_iff]
  simp
theorem seen_sign (line due : Str) (c : Nat) : seenP line due ⟨#[c]⟩ = (Txt.startswith line due && decide (line.cps.toList.drop due.length = List.replicate (line.length - due.length) c)) := by
  have h1 : decide ((⟨#[c]⟩ : Str) = "start") = false := decide_eq_false fun h => by
    have := congrArg (fun x : Str => x.cps.size) h
    exact absurd this (by show ¬ (1 = 5); decide)
  have h2 : decide ((⟨#[c]⟩ : Str) = "whole") = false := decide_eq_false fun h => by
    have := congrArg (fun x : Str => x.cps.size) h
    exact absurd this (by show ¬ (1 = 5); decide)
  have h3 : line.length - due.length = (line.cps.toList.drop due.length).length := by rw [List.length_drop, lenL]
  unfold seenP
  rw [h1, h2, all_rep, starts_eq, h3]
  by_cases h : line = due
  · subst h
    simp [take_self, drop_self]
  · simp [h]
end Z

set_option Elab.async false
set_option linter.all false
set_option maxRecDepth 100000
set_option maxHeartbeats 4000000
namespace Z
open PySem PySem.Spec PyProof.Rows L2
theorem def_ofC {P : Program} {w : World} {K : PySem.W.Frag} {mg : Str → Option Value} {base : Heap} {k : Nat} {x : Str} {st : Stmt} {c : Addr} {N ps : List Str} {sp : Sp} (D : AtC K mg x st c) (B : Blt mg base) (S : FnScope N ps (defScope st)) (len : ∀ vs H Q E, sp vs H Q E → vs.length = ps.length)
    (body : ∀ (f : Addr) (A : Around) (outer : List Env) (s : Shared) (H : Hp) (vs : List V) (Q : VK) (E : XK), mg x = some (.ref f) → Cxt (bX P w K mg base N x st f (.ref c) A outer s H E) k (fun cls d _ H => E cls d H) → sp vs H Q E →
      wB (bX P w K mg base N x st f (.ref c) A outer s H E) (defBody st) { nx := fun _ H' => Q .non H', rt := Q } (start N vs) H) : Def P w K mg base (k + 1) x st ps sp := by
  obtain ⟨f, oc, kV, doc, pm, ct, od, an, osl, hm, kp, lk, hcd⟩ := D.ex
  exact ⟨f, kV, doc, pm, an, .ref c, ct, hm, kp, fnok_body B lk hcd S len fun A outer s H vs Q E C h => body f A outer s H vs Q E hm C h⟩
section
variable {X : Cx} {σ : L2.St} {H H0 : Hp} {e tg : Expr} {elts : List Expr} {kk : Nat} {p pos tpos : Pos}
/-- enumerate over a list or a tuple -/
theorem i_enumDD {R : It → Hp → Prop} {x : V} {l : List Addr} {d : PyData} (B : Blt X.mg X.base) (hd : DD X.K l H x d) (hs : seqB d = true) (he : ∀ Q : VK, Q x H → wE X e σ H Q)
    (h : ∀ J G vs, Walk J vs.length G (YPair (fun i => some (.int (i : Nat))) (fun i => vs[i]?)) → (∀ H', But l H H' → G H') → DDs X.K l H vs (items d) → R J H) (hg : Gl X "enumerate" := by rfl) (hs2 : starEach [e] X.env = [(false, eval e X.env)] := by rfl) :
    wI X (.Tuple elts kk tpos) (.Call (.Name "enumerate" p) [e] [] pos) σ H R := by
  cases hd with
  | @lst a xs ds h1 n h2 => exact i_enum B (he _ ⟨a, xs, rfl, h1, h _ _ xs walk_enum (fun H' b => b.sql n h1) h2⟩) hg hs2
  | @tup a xs ds h1 n h2 => exact i_enumT B (he _ ⟨a, xs, rfl, h1, h _ _ xs walk_enumT (fun H' b => b.sqt n h1) h2⟩) hg hs2
  | _ => simp [seqB, Z.isList, Z.isTuple] at hs
/-- a list or a tuple that was there earlier -/
theorem i_ddL {R : It → Hp → Prop} {x : V} {l : List Addr} {d : PyData} (hd : DD X.K l H0 x d) (hs : seqB d = true) (b : But l H0 H) (he : ∀ Q : VK, Q x H → wE X e σ H Q)
    (h : ∀ J G vs, Walk J vs.length G (YAt vs) → (∀ H', But l H0 H' → G H') → DDs X.K l H0 vs (items d) → R J H) : wI X tg e σ H R := by
  cases hd with
  | @lst a xs ds h1 n h2 => exact i_list (he _ ⟨a, rfl, ⟨xs, b.sql n h1⟩, h _ _ xs walk_list (fun H' b => b.sql n h1) h2⟩)
  | @tup a xs ds h1 n h2 => exact i_tup (he _ ⟨a, rfl, ⟨xs, b.sqt n h1⟩, h _ _ xs walk_tup (fun H' b => b.sqt n h1) h2⟩)
  | _ => simp [seqB, isList, isTuple] at hs
end
theorem dds_strs {K : PySem.W.Frag} {l : List Addr} {H : Hp} : ∀ {vs : List V} {ls : List Str}, DDs K l H vs (ls.map PyData.str) → vs = ls.map V.str
  | [], [], _ => rfl
  | _ :: _, y :: ls, h => by
    cases h with
    | cons a r =>
      cases a
      rw [dds_strs r]
      rfl
end Z

set_option Elab.async false
set_option linter.all false
set_option maxRecDepth 100000
set_option maxHeartbeats 4000000
/-! plain: what can be shown, in general -/
namespace Z
open PySem PySem.Spec PyProof.Rows L2
theorem depthAllZ {b : Nat} : ∀ {ds : List PyData}, (∀ d ∈ ds, PyData.depth d ≤ b) → PyData.depthAll ds ≤ b
  | [], _ => by simp [PyData.depthAll]
  | d :: ds, h => by
    have h2 := depthAllZ (ds := ds) fun x hx => h x (List.mem_cons_of_mem _ hx)
    have h1 := h d (by simp)
    simp only [PyData.depthAll]
    omega
theorem weightAllZ {b : Nat} : ∀ {ds : List PyData}, (∀ d ∈ ds, PyData.weight d ≤ b) → PyData.weightAll ds ≤ ds.length * (b + 1)
  | [], _ => by simp [PyData.weightAll]
  | d :: ds, h => by
    have h2 := weightAllZ (ds := ds) fun x hx => h x (List.mem_cons_of_mem _ hx)
    have h1 := h d (by simp)
    simp only [PyData.weightAll, List.length_cons, Nat.add_mul]
    omega
theorem showAllZ : ∀ {ds : List PyData}, (∀ d ∈ ds, PyData.showable d = true) → PyData.showableAll ds = true
  | [], _ => rfl
  | d :: ds, h => by
    have h2 := showAllZ (ds := ds) fun x hx => h x (List.mem_cons_of_mem _ hx)
    simp only [PyData.showableAll, h d (by simp), h2, Bool.and_self]
theorem leavesAllZ : ∀ {ds : List PyData}, (∀ d ∈ ds, PyData.leavesShort 40 d = true) → PyData.leavesShortAll 40 ds = true
  | [], _ => rfl
  | d :: ds, h => by
    have h2 := leavesAllZ (ds := ds) fun x hx => h x (List.mem_cons_of_mem _ hx)
    simp only [PyData.leavesShortAll, h d (by simp), h2, Bool.and_self]
/-- it can be shown: its depth, its weight -/
structure ShwZ (n w : Nat) (d : PyData) : Prop where
  s : d.showable = true
  l : d.leavesShort 40 = true
  dep : d.depth ≤ n
  w : d.weight ≤ w
theorem ShwZ.mono {n m w v : Nat} {d : PyData} (h : ShwZ n w d) (a : n ≤ m) (b : w ≤ v) : ShwZ m v d := ⟨h.s, h.l, Nat.le_trans h.dep a, Nat.le_trans h.w b⟩
theorem ShwZ.list {n w : Nat} {ds : List PyData} (L : Nat) (h : ∀ d ∈ ds, ShwZ n w d) (hl : ds.length ≤ L) : ShwZ (n + 1) (L * (w + 1)) (.list ds) := by
  have e1 := showAllZ fun d hd => (h d hd).s
  have e2 := leavesAllZ fun d hd => (h d hd).l
  have e3 := depthAllZ fun d hd => (h d hd).dep
  have e4 := weightAllZ fun d hd => (h d hd).w
  have e5 : ds.length * (w + 1) ≤ L * (w + 1) := Nat.mul_le_mul_right _ hl
  exact ⟨by simp only [PyData.showable, e1], by simp only [PyData.leavesShort, e2], by simp only [PyData.depth]; omega, by simp only [PyData.weight]; omega⟩
theorem ShwZ.rp {n w : Nat} {d : PyData} (h : ShwZ n w d) (hn : n ≤ 64) (hw : w ≤ 300000) : rp d = true := by
  have e1 := h.dep
  have e2 := h.w
  rw [Z.rp, h.s, h.l, decide_eq_true (show d.depth ≤ 64 by omega), decide_eq_true (show d.weight ≤ 300000 by omega)]
  rfl
theorem ShwZ.none {n w : Nat} : ShwZ n w .none := ⟨by simp only [PyData.showable], by simp only [PyData.leavesShort], by simp only [PyData.depth]; omega, by simp only [PyData.weight]; omega⟩
end Z

set_option Elab.async false
set_option linter.all false
set_option maxRecDepth 100000
set_option maxHeartbeats 4000000
/-! zip of a list and a tuple (turned from the kit's zip of two tuples), weakest readings of zip -/
namespace Z
open PySem PySem.Spec PyProof.Rows L2 RZ
open PySem.Sem (wp)
section
variable {prog : Program} {w : World} {A : Around} {E : Value → Shared → Prop} {s : Shared}
theorem zipM_next_item {z TI TO i1 i2 l1 l2 : Addr} {k1 k2 : Nat} {xs ys : Array Value} {x y a b : Value} {Q : Value → Shared → Prop} (D : ZipApart z TI TO i1 i2 l1 l2)
    (hz : IsZip s.heap z TI TO .none) (hTI : IsPair s.heap TI (.ref i1) (.ref i2)) (hTO : IsPair s.heap TO a b)
    (h1 : s.heap.IsListIter i1 l1 k1) (h2 : s.heap.IsTupleIter i2 l2 k2) (hl1 : s.heap.IsList l1 xs) (hl2 : s.heap.IsTuple l2 ys) (hx : xs[k1]? = some x) (hy : ys[k2]? = some y)
    (hQ : ∀ h', IsZip h' z TI TO (rawInt s.heap.objs.size) → IsPair h' TO x y → h'.IsListIter i1 l1 (k1 + 1) → h'.IsTupleIter i2 l2 (k2 + 1) → IsPair h' s.heap.objs.size x y → h'.objs.size = s.heap.objs.size + 1 →
      (∀ c o, c ≠ z → c ≠ TO → c ≠ i1 → c ≠ i2 → s.heap.get? c = some o → h'.get? c = some o) → Q (.ref s.heap.objs.size) { s with heap := h' }) :
    wpAny (model prog w) A (Builtin.«zip.__next__» ⟨[.ref z], []⟩) (fun fin s' => ∃ v, fin = .done (.ret v) ∧ Q v s') E s := by
  show wpAny _ _ (field (.ref z) 2 >>= _) _ _ _
  refine wpAny_bind (wpAny_field hz rfl (x := .bool false) rfl ?_)
  show wpAny _ _ (field (.ref z) 3 >>= _) _ _ _
  refine wpAny_bind (wpAny_field hz rfl (x := .ref TI) rfl ?_)
  refine wpAny_bind (wpAny_seqItems hTI rfl ?_)
  show wpAny _ _ (Builtin.SmallTypes.ownedTupleIsFree (.ref z) >>= _) _ _ _
  refine wpAny_bind ?_
  unfold Builtin.SmallTypes.ownedTupleIsFree
  refine wpAny_bind (wpAny_field hz rfl (x := .none) rfl (wpAny_pure ?_))
  simp only [if_true]
  refine wpAny_bind (wpAny_rule ?_)
  refine wpAny_bind (wpAny_field hz rfl (x := .ref TO) rfl ?_)
  refine wpAny_bind (wpAny_setField_rec hz (by simp) fun h₁ hz₁ hs₁ => ?_)
  replace hz₁ : IsZip h₁ z TI TO .ellipsis := hz₁
  refine wpAny_bind ?_
  simp only [List.zipIdx_cons, List.zipIdx_nil, List.forIn_cons, List.forIn_nil]

  refine wpAny_bind (wpAny_bind (wpAny_onRaise ?_))
  show wpAny _ _ (Builtin.SmallTypes.nextOf (.ref i1) >>= _) _ _ _
  refine wpAny_bind (wpAny_nextOf_list_item (h1.extBut hs₁.extBut D.i1z) (hl1.extBut hs₁.extBut D.l1z) hx fun h₂ h1₂ hs₂ => wpAny_pure ?_)
  have hTO₂ : IsPair h₂ TO a b := hs₂.extBut _ _ D.TOi1 (hs₁.extBut _ _ D.TOz hTO)
  refine wpAny_bind (wpAny_seqItems hTO₂ rfl ?_)
  refine wpAny_bind (wpAny_updateSeq_pair hTO₂ fun h₃ hTO₃ hs₃ => ?_)
  replace hTO₃ : IsPair h₃ TO x b := hTO₃
  refine wpAny_bind (wpAny_letGo (wpAny_pure ?_))

  refine wpAny_bind (wpAny_bind (wpAny_onRaise ?_))
  show wpAny _ _ (Builtin.SmallTypes.nextOf (.ref i2) >>= _) _ _ _
  refine wpAny_bind (nextOf_tuple_item (((h2.extBut hs₁.extBut D.i2z).extBut hs₂.extBut D.i12.symm).extBut hs₃.extBut D.TOi2.symm)
    (((hl2.extBut hs₁.extBut D.l2z).extBut hs₂.extBut D.l2i1).extBut hs₃.extBut D.l2TO) hy fun h₄ h2₄ hs₄ => wpAny_pure ?_)
  have hTO₄ : IsPair h₄ TO x b := hs₄.extBut _ _ D.TOi2 hTO₃
  refine wpAny_bind (wpAny_seqItems hTO₄ rfl ?_)
  refine wpAny_bind (wpAny_updateSeq_pair hTO₄ fun h₅ hTO₅ hs₅ => ?_)
  replace hTO₅ : IsPair h₅ TO x y := hTO₅
  refine wpAny_bind (wpAny_letGo (wpAny_pure (wpAny_pure ?_)))

  refine wpAny_bind (wpAny_seqItems hTO₅ rfl ?_)
  refine wpAny_bind (wpAny_newTuple ?_)
  have hsz : h₅.objs.size = s.heap.objs.size := by rw [hs₅.1, hs₄.1, hs₃.1, hs₂.1, hs₁.1]
  have hz₅ : IsZip h₅ z TI TO .ellipsis := hs₅.extBut _ _ D.TOz.symm (hs₄.extBut _ _ D.i2z.symm (hs₃.extBut _ _ D.TOz.symm (hs₂.extBut _ _ D.i1z.symm hz₁)))
  have hk₅ : ∀ c o, c ≠ z → c ≠ TO → c ≠ i1 → c ≠ i2 → s.heap.get? c = some o → h₅.get? c = some o := fun c o c1 c2 c3 c4 e =>
    hs₅.extBut _ _ c2 (hs₄.extBut _ _ c4 (hs₃.extBut _ _ c2 (hs₂.extBut _ _ c3 (hs₁.extBut _ _ c1 e))))
  have h1₅ : h₅.IsListIter i1 l1 (k1 + 1) := ((h1₂.extBut hs₃.extBut D.TOi1.symm).extBut hs₄.extBut D.i12).extBut hs₅.extBut D.TOi1.symm
  have h2₅ : h₅.IsTupleIter i2 l2 (k2 + 1) := h2₄.extBut hs₅.extBut D.TOi2.symm
  have hzlt : z < h₅.objs.size := Heap.lt_size hz₅
  have hTOlt : TO < h₅.objs.size := Heap.lt_size hTO₅
  have hi1lt : i1 < h₅.objs.size := by obtain ⟨_, e, _⟩ := h1₅; exact Heap.lt_size e
  have hi2lt : i2 < h₅.objs.size := by obtain ⟨_, e, _⟩ := h2₅; exact Heap.lt_size e
  show wpAny _ _ (Builtin.SmallTypes.ownedTupleHandOut (.ref z) (.ref h₅.objs.size) >>= _) _ _ _
  refine wpAny_bind ?_
  unfold Builtin.SmallTypes.ownedTupleHandOut
  have hz₆ : IsZip (h₅.push { cls := .type "tuple", data := .seq #[x, y] }) z TI TO .ellipsis := Heap.get?_push_of_some _ hz₅
  refine wpAny_bind (wpAny_setField_rec hz₆ (by simp) fun h₇ hz₇ hs₇ => ?_)
  replace hz₇ : IsZip h₇ z TI TO (rawInt h₅.objs.size) := hz₇
  refine wpAny_setField_rec hz₇ (by simp) fun h₈ hz₈ hs₈ => ?_
  replace hz₈ : IsZip h₈ z TI TO (rawInt h₅.objs.size) := hz₈
  have up : ∀ c o, c ≠ z → h₅.get? c = some o → h₈.get? c = some o := fun c o c1 e => hs₈.extBut _ _ c1 (hs₇.extBut _ _ c1 (Heap.get?_push_of_some _ e))
  have hT₈ : IsPair h₈ h₅.objs.size x y := hs₈.extBut _ _ (Nat.ne_of_gt hzlt) (hs₇.extBut _ _ (Nat.ne_of_gt hzlt) (Heap.get?_push_size _ rfl))
  have hz8 : h₈.objs.size = h₅.objs.size + 1 := by rw [hs₈.1, hs₇.1, Heap.size_push]
  rw [hsz] at hz₈ hT₈ hz8
  refine wpAny_pure ⟨_, rfl, ?_⟩
  show Q (.ref h₅.objs.size) _
  rw [hsz]
  exact hQ h₈ hz₈ (up _ _ D.TOz hTO₅) (h1₅.at fun o e => up _ o D.i1z e) (h2₅.at fun o e => up _ o D.i2z e) hT₈ hz8 fun c o c1 c2 c3 c4 e => up c o c1 (hk₅ c o c1 c2 c3 c4 e)

theorem zipM_next_end {z TI TO i1 i2 l1 l2 : Addr} {k1 k2 : Nat} {xs ys : Array Value} {a b : Value} {Q : Fin → Shared → Prop} (hh : A.handled = none) (D : ZipApart z TI TO i1 i2 l1 l2)
    (hz : IsZip s.heap z TI TO .none) (hTI : IsPair s.heap TI (.ref i1) (.ref i2)) (hTO : IsPair s.heap TO a b)
    (h1 : s.heap.IsListIter i1 l1 k1) (h2 : s.heap.IsTupleIter i2 l2 k2) (hl1 : s.heap.IsList l1 xs) (hl2 : s.heap.IsTuple l2 ys) (hend : xs[k1]? = none ∨ ys[k2]? = none)
    (hE : ∀ h' e, (∀ c o, c ≠ z → c ≠ TO → c ≠ i1 → c ≠ i2 → s.heap.get? c = some o → h'.get? c = some o) → (∃ o, h'.get? e = some o ∧ o.cls = .type "StopIteration") → E (.ref e) { s with heap := h' }) :
    wpAny (model prog w) A (Builtin.«zip.__next__» ⟨[.ref z], []⟩) Q E s := by
  show wpAny _ _ (field (.ref z) 2 >>= _) _ _ _
  refine wpAny_bind (wpAny_field hz rfl (x := .bool false) rfl ?_)
  show wpAny _ _ (field (.ref z) 3 >>= _) _ _ _
  refine wpAny_bind (wpAny_field hz rfl (x := .ref TI) rfl ?_)
  refine wpAny_bind (wpAny_seqItems hTI rfl ?_)
  show wpAny _ _ (Builtin.SmallTypes.ownedTupleIsFree (.ref z) >>= _) _ _ _
  refine wpAny_bind ?_
  unfold Builtin.SmallTypes.ownedTupleIsFree
  refine wpAny_bind (wpAny_field hz rfl (x := .none) rfl (wpAny_pure ?_))
  simp only [if_true]
  refine wpAny_bind (wpAny_rule ?_)
  refine wpAny_bind (wpAny_field hz rfl (x := .ref TO) rfl ?_)
  refine wpAny_bind (wpAny_setField_rec hz (by simp) fun h₁ hz₁ hs₁ => ?_)
  replace hz₁ : IsZip h₁ z TI TO .ellipsis := hz₁
  refine wpAny_bind ?_
  simp only [List.zipIdx_cons, List.zipIdx_nil, List.forIn_cons, List.forIn_nil]
  refine wpAny_bind (wpAny_bind (wpAny_onRaise ?_))
  show wpAny _ _ (Builtin.SmallTypes.nextOf (.ref i1) >>= _) _ _ _
  cases hx : xs[k1]? with
  | none =>
    refine wpAny_bind (wpAny_nextOf_list_end hh (h1.extBut hs₁.extBut D.i1z) (hl1.extBut hs₁.extBut D.l1z) hx fun h₂ e hs₂ he => ?_)
    obtain ⟨oe, hoe, hce⟩ := he
    have hz₂ : IsZip h₂ z TI TO .ellipsis := hs₂ _ _ D.i1z.symm hz₁
    have hez : e ≠ z := fun x => by subst x; rw [hz₂] at hoe; cases hoe; simp at hce
    refine wpAny_setField_rec hz₂ (by simp) fun h₃ _ hs₃ => hE h₃ e (fun c o c1 _ c3 _ x => hs₃.extBut _ _ c1 (hs₂ _ _ c3 (hs₁.extBut _ _ c1 x))) ⟨oe, hs₃.extBut _ _ hez hoe, hce⟩
  | some x =>
    have hy : ys[k2]? = none := by rcases hend with h | h; rw [hx] at h; cases h; exact h
    refine wpAny_bind (wpAny_nextOf_list_item (h1.extBut hs₁.extBut D.i1z) (hl1.extBut hs₁.extBut D.l1z) hx fun h₂ h1₂ hs₂ => wpAny_pure ?_)
    have hTO₂ : IsPair h₂ TO a b := hs₂.extBut _ _ D.TOi1 (hs₁.extBut _ _ D.TOz hTO)
    refine wpAny_bind (wpAny_seqItems hTO₂ rfl ?_)
    refine wpAny_bind (wpAny_updateSeq_pair hTO₂ fun h₃ hTO₃ hs₃ => ?_)
    refine wpAny_bind (wpAny_letGo (wpAny_pure ?_))
    refine wpAny_bind (wpAny_bind (wpAny_onRaise ?_))
    show wpAny _ _ (Builtin.SmallTypes.nextOf (.ref i2) >>= _) _ _ _
    refine wpAny_bind (nextOf_tuple_end hh (((h2.extBut hs₁.extBut D.i2z).extBut hs₂.extBut D.i12.symm).extBut hs₃.extBut D.TOi2.symm)
      (((hl2.extBut hs₁.extBut D.l2z).extBut hs₂.extBut D.l2i1).extBut hs₃.extBut D.l2TO) hy fun h₄ e hs₄ he => ?_)
    obtain ⟨oe, hoe, hce⟩ := he
    have hz₄ : IsZip h₄ z TI TO .ellipsis := hs₄ _ _ D.i2z.symm (hs₃.extBut _ _ D.TOz.symm (hs₂.extBut _ _ D.i1z.symm hz₁))
    have hez : e ≠ z := fun x => by subst x; rw [hz₄] at hoe; cases hoe; simp at hce
    refine wpAny_setField_rec hz₄ (by simp) fun h₅ _ hs₅ => hE h₅ e (fun c o c1 c2 c3 c4 x => hs₅.extBut _ _ c1 (hs₄ _ _ c4 (hs₃.extBut _ _ c2 (hs₂.extBut _ _ c3 (hs₁.extBut _ _ c1 x))))) ⟨oe, hs₅.extBut _ _ hez hoe, hce⟩

theorem pyNext_zipM_item {z TI TO i1 i2 l1 l2 : Addr} {k1 k2 : Nat} {xs ys : Array Value} {x y a b : Value} {Q : Option Value → Shared → Prop} (D : ZipApart z TI TO i1 i2 l1 l2)
    (hz : IsZip s.heap z TI TO .none) (hTI : IsPair s.heap TI (.ref i1) (.ref i2)) (hTO : IsPair s.heap TO a b)
    (h1 : s.heap.IsListIter i1 l1 k1) (h2 : s.heap.IsTupleIter i2 l2 k2) (hl1 : s.heap.IsList l1 xs) (hl2 : s.heap.IsTuple l2 ys) (hx : xs[k1]? = some x) (hy : ys[k2]? = some y)
    (hQ : ∀ h', IsZip h' z TI TO (rawInt s.heap.objs.size) → IsPair h' TO x y → h'.IsListIter i1 l1 (k1 + 1) → h'.IsTupleIter i2 l2 (k2 + 1) → IsPair h' s.heap.objs.size x y → h'.objs.size = s.heap.objs.size + 1 →
      (∀ c o, c ≠ z → c ≠ TO → c ≠ i1 → c ≠ i2 → s.heap.get? c = some o → h'.get? c = some o) → Q (some (.ref s.heap.objs.size)) { s with heap := h' }) :
    wpAny (model prog w) A (pyNext (.ref z)) Q E s := by
  have hT : s.TypeIs (.ref z) "zip" := ⟨_, hz, rfl⟩
  unfold pyNext
  exact wpAny_bind (wpAny_attempt (wpAny_callSpecial?_slot (name := Str.ofString "__next__") hT F.slot_zip_next
    (wpAny_call_entry F.slot_zip_next hT F.entry_zip_next
      (zipM_next_item D hz hTI hTO h1 h2 hl1 hl2 hx hy fun h' a1 a2 a3 a4 a5 a6 a7 => wpAny_pure (hQ h' a1 a2 a3 a4 a5 a6 a7)) (F.args_zip_next_1 _))))

theorem pyNext_zipM_end {z TI TO i1 i2 l1 l2 : Addr} {k1 k2 : Nat} {xs ys : Array Value} {a b : Value} {Q : Option Value → Shared → Prop} (hh : A.handled = none) (D : ZipApart z TI TO i1 i2 l1 l2)
    (hz : IsZip s.heap z TI TO .none) (hTI : IsPair s.heap TI (.ref i1) (.ref i2)) (hTO : IsPair s.heap TO a b)
    (h1 : s.heap.IsListIter i1 l1 k1) (h2 : s.heap.IsTupleIter i2 l2 k2) (hl1 : s.heap.IsList l1 xs) (hl2 : s.heap.IsTuple l2 ys) (hend : xs[k1]? = none ∨ ys[k2]? = none)
    (hQ : ∀ h', (∀ c o, c ≠ z → c ≠ TO → c ≠ i1 → c ≠ i2 → s.heap.get? c = some o → h'.get? c = some o) → Q none { s with heap := h' }) : wpAny (model prog w) A (pyNext (.ref z)) Q E s := by
  have hT : s.TypeIs (.ref z) "zip" := ⟨_, hz, rfl⟩
  unfold pyNext
  refine wpAny_bind (wpAny_attempt (wpAny_callSpecial?_slot (name := Str.ofString "__next__") hT F.slot_zip_next
    (wpAny_call_entry F.slot_zip_next hT F.entry_zip_next (zipM_next_end hh D hz hTI hTO h1 h2 hl1 hl2 hend fun h' e hk he => ?_) (F.args_zip_next_1 _))))
  obtain ⟨o, ho, hc⟩ := he
  refine wpAny_bind (wpAny_isInstance (T := "StopIteration") (b := true) ⟨o, ho, hc⟩ isSubtype_stop ?_)
  exact wpAny_pure (hQ _ hk)
end

abbrev zipMH1 (h : Heap) (l1 : Addr) : Heap := h.push { cls := .type "list_iterator", data := .fields #[.ref l1, .int 0 0] }
abbrev zipMH2 (h : Heap) (l1 l2 : Addr) : Heap := (zipMH1 h l1).push { cls := .type "tuple_iterator", data := .fields #[.ref l2, .int 0 0] }
abbrev zipMH3 (h : Heap) (l1 l2 : Addr) : Heap := (zipMH2 h l1 l2).push { cls := .type "tuple", data := .seq #[.ref h.objs.size, .ref (zipMH1 h l1).objs.size] }
abbrev zipMH4 (h : Heap) (l1 l2 : Addr) : Heap := (zipMH3 h l1 l2).push { cls := .type "tuple", data := .seq #[.none, .none] }
abbrev zipMH5 (h : Heap) (l1 l2 : Addr) : Heap := (zipMH4 h l1 l2).push { cls := .type "zip", data := .fields #[.none, .bool false, .bool false, .ref (zipMH2 h l1 l2).objs.size, .ref (zipMH3 h l1 l2).objs.size] }

theorem meets_zipM_new (l1 l2 : Addr) (xs ys : Array Value) :
    Meets (Builtin.«zip.__new__» ⟨[.type "zip", .ref l1, .ref l2], []⟩) (fun _ R s => s.heap.IsList l1 xs ∧ s.heap.IsTuple l2 ys ∧
      R (.ok (.ret (.ref (zipMH4 s.heap l1 l2).objs.size))) { s with heap := zipMH5 s.heap l1 l2 }) :=
  .of_wp fun prog w A R s h => by
    obtain ⟨hp, g, d, tk, os⟩ := s; obtain ⟨hl1, hl2, h⟩ := h
    have hsub := sub_zip
    have hL1 : Heap.IsList (Shared.heap ⟨hp, g, d, tk, os⟩) l1 xs := hl1
    have hL2 : Heap.IsTuple (Shared.heap ⟨hp.push { cls := .type "list_iterator", data := .fields #[.ref l1, .int 0 0] }, g, d, tk, os⟩) l2 ys := Heap.IsTuple.push hl2 _
    wp_walk using wpAny_pyIter_list hL1, wpAny_pyIter_tuple hL2
    exact ⟨_, rfl, h⟩

section
variable {prog : Program} {w : World} {A : Around} {E : Value → Shared → Prop} {s : Shared}

theorem call_zipM {l1 l2 : Addr} {xs ys : Array Value} {Q : Value → Shared → Prop} (hl1 : s.heap.IsList l1 xs) (hl2 : s.heap.IsTuple l2 ys)
    (h : ∀ h', IsZip h' (s.heap.objs.size + 4) (s.heap.objs.size + 2) (s.heap.objs.size + 3) .none → IsPair h' (s.heap.objs.size + 2) (.ref s.heap.objs.size) (.ref (s.heap.objs.size + 1)) →
      IsPair h' (s.heap.objs.size + 3) .none .none → h'.IsListIter s.heap.objs.size l1 0 → h'.IsTupleIter (s.heap.objs.size + 1) l2 0 → h'.objs.size = s.heap.objs.size + 5 →
      (∀ c o, s.heap.get? c = some o → h'.get? c = some o) → Q (.ref (s.heap.objs.size + 4)) { s with heap := h' }) :
    wpAny (model prog w) A (call (.type "zip") [.ref l1, .ref l2]) Q E s := by
  refine callType_new F.called_zip (by decide) (F.typeCall_zip_2 _ _) (F.newCall_zip_2 _ _) (fun obj => F.args_object_init_3 obj _ _) F.entry_zip_new
    (meets_zipM_new l1 l2 xs ys) ⟨hl1, hl2, ?_⟩
  have z1 : (zipMH1 s.heap l1).objs.size = s.heap.objs.size + 1 := Heap.size_push ..
  have z2 : (zipMH2 s.heap l1 l2).objs.size = s.heap.objs.size + 2 := by rw [Heap.size_push, z1]
  have z3 : (zipMH3 s.heap l1 l2).objs.size = s.heap.objs.size + 3 := by rw [Heap.size_push, z2]
  have z4 : (zipMH4 s.heap l1 l2).objs.size = s.heap.objs.size + 4 := by rw [Heap.size_push, z3]
  have z5 : (zipMH5 s.heap l1 l2).objs.size = s.heap.objs.size + 5 := by rw [Heap.size_push, z4]
  have g5 : (zipMH5 s.heap l1 l2).get? (zipMH4 s.heap l1 l2).objs.size = some _ := Heap.get?_push_size _ rfl
  have g4 : (zipMH5 s.heap l1 l2).get? (zipMH3 s.heap l1 l2).objs.size = some _ := Heap.get?_push_of_some _ (Heap.get?_push_size _ rfl)
  have g3 : (zipMH5 s.heap l1 l2).get? (zipMH2 s.heap l1 l2).objs.size = some _ := Heap.get?_push_of_some _ (Heap.get?_push_of_some _ (Heap.get?_push_size _ rfl))
  have g2 : (zipMH5 s.heap l1 l2).get? (zipMH1 s.heap l1).objs.size = some _ := Heap.get?_push_of_some _ (Heap.get?_push_of_some _ (Heap.get?_push_of_some _ (Heap.get?_push_size _ rfl)))
  have g1 : (zipMH5 s.heap l1 l2).get? s.heap.objs.size = some _ := Heap.get?_push_of_some _ (Heap.get?_push_of_some _ (Heap.get?_push_of_some _ (Heap.get?_push_of_some _ (Heap.get?_push_size _ rfl))))
  show _ ∧ _
  rw [z2, z3, z4] at g5
  rw [z1, z2] at g3
  rw [z3] at g4
  rw [z1] at g2
  rw [z4]
  exact ⟨⟨_, g5, rfl⟩, h _ g5 g3 g4 ⟨_, g1, rfl, rfl⟩ ⟨_, g2, rfl, rfl⟩ z5 fun c o x =>
    Heap.get?_push_of_some _ (Heap.get?_push_of_some _ (Heap.get?_push_of_some _ (Heap.get?_push_of_some _ (Heap.get?_push_of_some _ x))))⟩
end

/-- the list at a and the tuple at b as they stand at each turn, the items in new pairs -/
def ItzM (K : PySem.W.Frag) (a b : Addr) : It :=
  ⟨fun i H => ∃ (xs ys : List V) (x y : V), SqL K H a xs ∧ SqT K H b ys ∧ xs[i]? = some x ∧ ys[i]? = some y,
    fun i H v H' => ∃ T x y, v = .ref T ∧ H T = none ∧ H' = upd H T (.tup [x, y]) ∧ (∀ xs, SqL K H a xs → xs[i]? = some x) ∧ ∀ ys, SqT K H b ys → ys[i]? = some y,
    fun i H => ∃ xs ys : List V, SqL K H a xs ∧ SqT K H b ys ∧ (xs.length ≤ i ∨ ys.length ≤ i)⟩
theorem turn_zipM {P : Program} {w : World} {K : PySem.W.Frag} {elts : List Expr} {kk : Nat} {tpos : Pos} {a b z TI TO i1 i2 : Addr} (D : ZipApart z TI TO i1 i2 a b) :
    Turn P w K (.Tuple elts kk tpos) (ItzM K a b) [z, TI, TO, i1, i2] z (fun i h => IsZip h z TI TO .none ∧ IsPair h TI (.ref i1) (.ref i2) ∧ (∃ x y, IsPair h TO x y) ∧ h.IsListIter i1 a i ∧ h.IsTupleIter i2 b i) where
  mem := by simp
  obj := fun i h st c hc => by
    obtain ⟨hz, hTI, ⟨x, y, hTO⟩, ⟨o1, e1, _, d1⟩, ⟨o2, e2, _, d2⟩⟩ := st
    have e' : c = z ∨ c = TI ∨ c = TO ∨ c = i1 ∨ c = i2 := by simpa using hc
    rcases e' with q | q | q | q | q
    · rw [q]; exact ⟨_, hz, fun v q => nomatch q⟩
    · rw [q]; exact ⟨_, hTI, fun v q => nomatch q⟩
    · rw [q]; exact ⟨_, hTO, fun v q => nomatch q⟩
    · rw [q]; exact ⟨o1, e1, fun v q => by rw [d1] at q; cases q⟩
    · rw [q]; exact ⟨o2, e2, fun v q => by rw [d2] at q; cases q⟩
  keep := fun i h h' st k => by
    obtain ⟨hz, hTI, ⟨x, y, hTO⟩, h1, h2⟩ := st
    exact ⟨k z (by simp) _ hz, k TI (by simp) _ hTI, ⟨x, y, k TO (by simp) _ hTO⟩, h1.at fun o q => k i1 (by simp) o q, h2.at fun o q => k i2 (by simp) o q⟩
  item := by
    intro X hP hw hK hc i pins s σ H E I hf st hg
    subst hP hw hK
    obtain ⟨hz, hTI, ⟨x0, y0, hTO⟩, h1, h2⟩ := st
    obtain ⟨xs, ys, x, y, hqx, hqy, hx, hy⟩ := hg
    obtain ⟨its, rv, p, _⟩ := I.list hqx
    obtain ⟨its2, rv2, p2, _⟩ := I.tuple hqy
    obtain ⟨u, hu, ru⟩ := rv.get hx
    obtain ⟨u2, hu2, ru2⟩ := rv2.get hy
    have hzl : z < s.heap.objs.size := Heap.lt_size hz
    refine pyNext_zipM_item D hz hTI hTO h1 h2 p.isList p2 (x := u) (y := u2) (by simpa using hu) (by simpa using hu2) fun h' z' TO' h1' h2' hT hsz hk => ?_
    refine ⟨_, rfl, wpAny_letOwnedTupleGo_zip (s := { s with heap := h' }) z' fun h'' z'' sb => ?_⟩
    have hT2 : h''.get? s.heap.objs.size = some { cls := .type "tuple", data := .seq #[u, u2] } := (sb.2 _ (Nat.ne_of_gt hzl)).trans hT
    have new : ObjOk X.prog X.w (upd H s.heap.objs.size (.tup [x, y])) h'' s.heap.objs.size (.tup [x, y]) :=
      ⟨by show 2 ≤ sizeLine; decide, [u, u2], .cons ru (.cons ru2 .nil), ⟨_, hT2, rfl, _, rfl⟩⟩
    have I1 : Inv X pins σ (upd H s.heap.objs.size (.tup [x, y])) { s with heap := h'' } :=
      I.turnedNew (t' := s.toks) (ch := [z, TI, TO, i1, i2]) (fun c o hb q => (sb.2 c (fun q' => hb (by simp [q']))).trans (hk c o (fun q' => hb (by simp [q'])) (fun q' => hb (by simp [q'])) (fun q' => hb (by simp [q'])) (fun q' => hb (by simp [q'])) q)) hf (Nat.le_refl _) new
    refine ⟨.ref s.heap.objs.size, _, I1, rfl, ⟨_, x, y, rfl, I.hok.fresh (Nat.le_refl _), rfl, fun l hl => by rw [I.list_inj hl hqx]; exact hx, fun l hl => by rw [I.tuple_inj hl hqy]; exact hy⟩, ⟨z'', ?_, ⟨u, u2, ?_⟩, ?_, ?_⟩, fun c hcm => ?_⟩
    · exact (sb.2 _ D.TIz).trans (hk _ _ D.TIz D.TITO D.TIi1 D.TIi2 hTI)
    · exact (sb.2 _ D.TOz).trans TO'
    · exact h1'.at fun o q => (sb.2 _ D.i1z).trans q
    · exact h2'.at fun o q => (sb.2 _ D.i2z).trans q
    · have hlt : c < s.heap.objs.size := by
        have e' : c = z ∨ c = TI ∨ c = TO ∨ c = i1 ∨ c = i2 := by simpa using hcm
        rcases e' with q | q | q | q | q
        · rw [q]; exact hzl
        · rw [q]; exact Heap.lt_size hTI
        · rw [q]; exact Heap.lt_size hTO
        · rw [q]; obtain ⟨_, e1, _⟩ := h1; exact Heap.lt_size e1
        · rw [q]; obtain ⟨_, e2, _⟩ := h2; exact Heap.lt_size e2
      rw [upd_ne (Nat.ne_of_lt hlt)]
      exact (hf c hcm).1
  done := by
    intro X hP hw hK hc i pins s σ H E I hf st hg
    subst hP hw hK
    obtain ⟨hz, hTI, ⟨x0, y0, hTO⟩, h1, h2⟩ := st
    obtain ⟨xs, ys, hqx, hqy, hend⟩ := hg
    obtain ⟨its, rv, p, _⟩ := I.list hqx
    obtain ⟨its2, rv2, p2, _⟩ := I.tuple hqy
    have l1 := rv.length
    have l2 := rv2.length
    have he : its.toArray[i]? = none ∨ its2.toArray[i]? = none := by
      rcases hend with q | q
      · exact .inl (by simp; omega)
      · exact .inr (by simp; omega)
    exact pyNext_zipM_end (I.ok.hd hc) D hz hTI hTO h1 h2 p.isList p2 he fun h' hk => ⟨rfl, I.turnedL (t' := s.toks) (ch := [z, TI, TO, i1, i2]) (fun c o hb q =>
      hk c o (fun q' => hb (by simp [q'])) (fun q' => hb (by simp [q'])) (fun q' => hb (by simp [q'])) (fun q' => hb (by simp [q'])) q) hf⟩
  self := fun A i s Q E st h => wpAny_pyIter_zip st.1 h


section
variable {X : Cx} {σ : L2.St} {H : Hp} {e a b : Expr} {p pos tpos : Pos} {elts : List Expr} {kk : Nat}
/-- zip of a list and of a list or a tuple of data -/
theorem i_zipD {H0 : Hp} {R : It → Hp → Prop} (B : Blt X.mg X.base) (h : wE X a σ H fun v H1 => wE X b σ H1 fun u H2 => ∃ (q : Addr) (xs : List V) (l : List Addr) (d : PyData), v = .ref q ∧ H2 q = some (.lst xs) ∧ But l H0 H2 ∧ DD X.K l H0 u d ∧ seqB d = true ∧
      ∀ J G vs, Walk J (min xs.length vs.length) G (YPair (fun i => xs[i]?) (fun i => vs[i]?)) → (∀ H', H' q = some (.lst xs) → But l H0 H' → G H') → DDs X.K l H0 vs (items d) → R J H2) (hg : Gl X "zip" := by rfl)
    (hs : starEach [a, b] X.env = (false, eval a X.env) :: starEach [b] X.env := by rfl) (hs2 : starEach [b] X.env = [(false, eval b X.env)] := by rfl) :
    wI X (.Tuple elts kk tpos) (.Call (.Name "zip" p) [a, b] [] pos) σ H R := by
  have ha : wA X [a, b] σ H fun vs H2 => ∃ (q t : Addr) (xs ys : List V), vs = [.ref q, .ref t] ∧ ((SqL X.K H2 q xs ∧ SqL X.K H2 t ys ∧ R (Itz X.K q t) H2) ∨ (SqL X.K H2 q xs ∧ SqT X.K H2 t ys ∧ R (ItzM X.K q t) H2)) :=
    a_cons (wE_mono h fun v H1 g1 => a_cons (wE_mono g1 fun u H2 ⟨q, xs, l, d, e1, e2, e3, e4, e5, r⟩ => a_nil (by
      subst e1
      have sq : ∀ {H'}, H' q = some (.lst xs) → SqL X.K H' q xs := fun h => .inl (.inl h)
      cases e4 with
      | @lst t ys ds h1 n h2 => exact ⟨q, t, xs, ys, rfl, .inl ⟨sq e2, e3.sql n h1, r _ _ ys (walk_zip rfl) (fun H' b1 b2 => ⟨sq b1, b2.sql n h1⟩) h2⟩⟩
      | @tup t ys ds h1 n h2 =>
        refine ⟨q, t, xs, ys, rfl, .inr ⟨sq e2, e3.sqt n h1, r (ItzM X.K q t) (fun H => SqL X.K H q xs ∧ SqT X.K H t ys) ys ⟨fun i H hi q => ?_, fun H q => ⟨xs, ys, q.1, q.2, by omega⟩, fun i H v H' hi q y => ?_⟩ (fun H' b1 b2 => ⟨sq b1, b2.sqt n h1⟩) h2⟩⟩
        · exact ⟨xs, ys, xs[i]'(by omega), ys[i]'(by omega), q.1, q.2, List.getElem?_eq_getElem _, List.getElem?_eq_getElem _⟩
        · obtain ⟨T, x, z, h1, h2, h3, h4, h5⟩ := y
          exact ⟨T, x, z, h1, h2, h3, h4 xs q.1, h5 ys q.2⟩
      | _ => simp [seqB, Z.isList, Z.isTuple] at e5)) hs2) hs
  refine ⟨fun pins s I => ?_⟩
  refine Call_ (ld_blt I hg B.zip PyProof.Rows.boot_zip (PyProof.Rows.callWith_type1 (thn (ha.run pos pins _ I) fun us s1 ⟨vs, H1, I1, r1, q1⟩ => ?_) hs (by rw [hs2]; rfl)))
  obtain ⟨q, t, xs, ys, ex, q1⟩ := q1
  subst ex
  obtain ⟨u1, u2, rfl, k1, k2⟩ := vals2 r1
  cases k1
  cases k2
  have fresh5 : ∀ c, c ∈ [s1.heap.objs.size + 4, s1.heap.objs.size + 2, s1.heap.objs.size + 3, s1.heap.objs.size, s1.heap.objs.size + 1] → FpOk X pins H1 c := fun c hcm => by
    have hle : s1.heap.objs.size ≤ c := by
      simp only [List.mem_cons, List.not_mem_nil, or_false] at hcm
      omega
    exact I1.fpOk hle (I1.hok.fresh hle)
  rcases q1 with ⟨hqx, hqy, r⟩ | ⟨hqx, hqy, r⟩
  · obtain ⟨its, rv, p1, _⟩ := I1.list hqx
    obtain ⟨its2, rv2, p2, _⟩ := I1.list hqy
    refine call_zip_2 p1.isList p2.isList fun h' hz hTI hTO h1 h2 hsz hk => wpAny_pyIter_zip hz ?_
    have I2 : Inv X pins σ H1 { s1 with heap := h' } := I1.kept (t' := s1.toks) hk
    exact ⟨s1.heap.objs.size + 4, [s1.heap.objs.size + 4, s1.heap.objs.size + 2, s1.heap.objs.size + 3, s1.heap.objs.size, s1.heap.objs.size + 1], _, _, H1, rfl, I2, turn_zip (PySem.W.ktu_apart s1.heap.objs.size q t p1.lt p2.lt), ⟨hz, hTI, ⟨_, _, hTO⟩, h1, h2⟩, fresh5, r⟩
  · obtain ⟨its, rv, p1, _⟩ := I1.list hqx
    obtain ⟨its2, rv2, p2, _⟩ := I1.tuple hqy
    obtain ⟨o2, ho2, _⟩ := id p2
    refine call_zipM p1.isList (show s1.heap.IsTuple t its2.toArray from p2) fun h' hz hTI hTO h1 h2 hsz hk => wpAny_pyIter_zip hz ?_
    have I2 : Inv X pins σ H1 { s1 with heap := h' } := I1.kept (t' := s1.toks) hk
    exact ⟨s1.heap.objs.size + 4, [s1.heap.objs.size + 4, s1.heap.objs.size + 2, s1.heap.objs.size + 3, s1.heap.objs.size, s1.heap.objs.size + 1], _, _, H1, rfl, I2, turn_zipM (PySem.W.ktu_apart s1.heap.objs.size q t p1.lt (Heap.lt_size ho2)), ⟨hz, hTI, ⟨_, _, hTO⟩, h1, h2⟩, fresh5, r⟩
end
end Z

set_option Elab.async false
set_option linter.all false
set_option maxRecDepth 100000
set_option maxHeartbeats 4000000
/-! trees of lists, each list at an address of its own; a tree that grows at its right edge -/
namespace Z
open PySem PySem.Spec PyProof.Rows L2
mutual
/-- v holds the tree d of lists and texts; its lists stand at the addresses S, each once -/
inductive Bu (H : Hp) : List Addr → V → PyData → Prop
  | str (x : Str) : Bu H [] (.str x) (.str x)
  | lst {a : Addr} {xs : List V} {S : List Addr} {ds : List PyData} : H a = some (.lst xs) → Bus H S xs ds → a ∉ S → Bu H (a :: S) (.ref a) (.list ds)
inductive Bus (H : Hp) : List Addr → List V → List PyData → Prop
  | nil : Bus H [] [] []
  | cons {S T : List Addr} {v : V} {d : PyData} {vs : List V} {ds : List PyData} : Bu H S v d → Bus H T vs ds → (∀ a ∈ S, a ∉ T) → Bus H (S ++ T) (v :: vs) (d :: ds)
end
mutual
theorem Bu.dd {K : PySem.W.Frag} {l : List Addr} {H : Hp} {S : List Addr} {v : V} {d : PyData} : Bu H S v d → (∀ a ∈ S, a ∉ l) → DD K l H v d
  | .str x, _ => .str x
  | .lst h r _, n => .lst (.inl (.inl h)) (n _ (by simp)) (Bus.dd r fun a ha => n a (by simp [ha]))
theorem Bus.dd {K : PySem.W.Frag} {l : List Addr} {H : Hp} {S : List Addr} {vs : List V} {ds : List PyData} : Bus H S vs ds → (∀ a ∈ S, a ∉ l) → DDs K l H vs ds
  | .nil, _ => .nil
  | .cons h r _, n => .cons (Bu.dd h fun a ha => n a (by simp [ha])) (Bus.dd r fun a ha => n a (by simp [ha]))
end
mutual
theorem Bu.but {l : List Addr} {H H' : Hp} {S : List Addr} {v : V} {d : PyData} (b : But l H H') : Bu H S v d → (∀ a ∈ S, a ∉ l) → Bu H' S v d
  | .str x, _ => .str x
  | .lst h r m, n => .lst (b _ _ (n _ (by simp)) h) (Bus.but b r fun a ha => n a (by simp [ha])) m
theorem Bus.but {l : List Addr} {H H' : Hp} {S : List Addr} {vs : List V} {ds : List PyData} (b : But l H H') : Bus H S vs ds → (∀ a ∈ S, a ∉ l) → Bus H' S vs ds
  | .nil, _ => .nil
  | .cons h r m, n => .cons (Bu.but b h fun a ha => n a (by simp [ha])) (Bus.but b r fun a ha => n a (by simp [ha])) m
end
theorem Bus.length {H : Hp} : ∀ {S : List Addr} {vs : List V} {ds : List PyData}, Bus H S vs ds → vs.length = ds.length
  | _, _, _, .nil => rfl
  | _, _, _, .cons _ r _ => by simp [Bus.length r]
theorem Bus.append {H : Hp} : ∀ {S T : List Addr} {xs ys : List V} {ds es : List PyData}, Bus H S xs ds → Bus H T ys es → (∀ a ∈ S, a ∉ T) → Bus H (S ++ T) (xs ++ ys) (ds ++ es)
  | _, _, _, _, _, _, .nil, r, _ => r
  | _, _, _, _, _, _, .cons (S := S1) (T := T1) h h2 m, r, n => by
    rw [List.append_assoc]
    exact .cons h (Bus.append h2 r fun a ha => n a (by simp [ha])) fun a ha hb => by
      rcases List.mem_append.mp hb with q | q
      · exact m a ha q
      · exact n a (by simp [ha]) q
theorem Bu.one {H : Hp} {S : List Addr} {v : V} {d : PyData} (h : Bu H S v d) : Bus H S [v] [d] := by
  have := Bus.cons h .nil (by simp)
  rwa [List.append_nil] at this
/-! ### plain: open levels -/
abbrev Sts := List (List PyData)
/-- all levels closed -/
def fold : Sts → List PyData
  | [] => []
  | [ds] => ds
  | ds :: r :: rs => ds ++ [.list (fold (r :: rs))]
/-- the first n levels stay open -/
def closeTo : Nat → Sts → Sts
  | 0, _ => []
  | _, [] => []
  | 1, st => [fold st]
  | n + 2, ds :: r => ds :: closeTo (n + 1) r
def putLast : Sts → PyData → Sts
  | [], _ => []
  | [ds], d => [ds ++ [d]]
  | ds :: r :: rs, d => ds :: putLast (r :: rs) d
theorem len_closeTo : ∀ {n : Nat} {st : Sts}, n ≤ st.length → (closeTo n st).length = n
  | 0, _, _ => rfl
  | 1, _ :: _, _ => rfl
  | n + 2, ds :: r, h => by
    show (closeTo (n + 1) r).length + 1 = n + 2
    rw [len_closeTo (n := n + 1) (by simpa using h)]
theorem len_putLast : ∀ {st : Sts} {d : PyData}, (putLast st d).length = st.length
  | [], _ => rfl
  | [_], _ => rfl
  | _ :: r :: rs, d => by
    show (putLast (r :: rs) d).length + 1 = _
    rw [len_putLast (st := r :: rs)]
    rfl
theorem fold_few : ∀ {st : Sts} {N : Nat}, (∀ ds ∈ st, ds.length ≤ N) → (fold st).length ≤ N + 1
  | [], _, _ => by simp [fold]
  | [ds], N, h => Nat.le_succ_of_le (h ds (by simp))
  | ds :: r :: rs, N, h => by
    show (ds ++ [_]).length ≤ _
    rw [List.length_append]
    exact Nat.succ_le_succ (h ds (by simp))
theorem closeTo_few : ∀ {n : Nat} {st : Sts} {N : Nat}, (∀ ds ∈ st, ds.length ≤ N) → ∀ ds ∈ closeTo n st, ds.length ≤ N + 1
  | 0, _, _, _, ds, h => by simp [closeTo] at h
  | 1, [], _, _, ds, h => by simp [closeTo] at h
  | n + 2, [], _, _, ds, h => by simp [closeTo] at h
  | 1, a :: st, N, hN, ds, h => by
    have : ds = fold (a :: st) := by simpa [closeTo] using h
    rw [this]
    exact fold_few hN
  | n + 2, a :: r, N, hN, ds, h => by
    have h : ds ∈ a :: closeTo (n + 1) r := h
    rcases List.mem_cons.mp h with h | h
    · rw [h]; exact Nat.le_succ_of_le (hN a (by simp))
    · exact closeTo_few (n := n + 1) (fun d hd => hN d (by simp [hd])) ds h
theorem putLast_few : ∀ {st : Sts} {d : PyData} {N : Nat}, (∀ ds ∈ st, ds.length ≤ N) → ∀ ds ∈ putLast st d, ds.length ≤ N + 1
  | [], _, _, _, ds, h => by simp [putLast] at h
  | [a], d, N, hN, ds, h => by
    have : ds = a ++ [d] := by simpa [putLast] using h
    rw [this, List.length_append]
    exact Nat.succ_le_succ (hN a (by simp))
  | a :: r :: rs, d, N, hN, ds, h => by
    have h : ds ∈ a :: putLast (r :: rs) d := h
    rcases List.mem_cons.mp h with h | h
    · rw [h]; exact Nat.le_succ_of_le (hN a (by simp))
    · exact putLast_few (st := r :: rs) (fun d hd => hN d (by simp [hd])) ds h
/-- the open lists at us, each one's last but the innermost's is the next one; what is closed stands at T -/
inductive Spn (H : Hp) : List Addr → List Addr → Sts → Prop
  | one {u : Addr} {xs : List V} {S : List Addr} {ds : List PyData} : H u = some (.lst xs) → Bus H S xs ds → u ∉ S → Spn H [u] S [ds]
  | more {u u' : Addr} {us : List Addr} {xs : List V} {S T : List Addr} {ds : List PyData} {r : Sts} : H u = some (.lst (xs ++ [.ref u'])) → Bus H S xs ds → Spn H (u' :: us) T r → u ∉ S → u ∉ u' :: us → u ∉ T → (∀ a ∈ S, a ∉ u' :: us ∧ a ∉ T) →
      Spn H (u :: u' :: us) (S ++ T) (ds :: r)
theorem Spn.len {H : Hp} : ∀ {us T : List Addr} {st : Sts}, Spn H us T st → st.length = us.length
  | _, _, _, .one .. => rfl
  | _, _, _, .more _ _ r .. => by simp [Spn.len r]
theorem Spn.but {l : List Addr} {H H' : Hp} (b : But l H H') : ∀ {us T : List Addr} {st : Sts}, Spn H us T st → (∀ a ∈ us, a ∉ l) → (∀ a ∈ T, a ∉ l) → Spn H' us T st
  | _, _, _, .one h r n, h1, h2 => .one (b _ _ (h1 _ (by simp)) h) (r.but b h2) n
  | _, _, _, .more h r s n1 n2 n3 n4, h1, h2 => .more (b _ _ (h1 _ (by simp)) h) (r.but b fun a ha => h2 a (by simp [ha])) (s.but b (fun a ha => h1 a (List.mem_cons_of_mem _ ha)) fun a ha => h2 a (by simp [ha])) n1 n2 n3 n4
theorem Spn.apart {H : Hp} : ∀ {us T : List Addr} {st : Sts}, Spn H us T st → ∀ a ∈ us, a ∉ T
  | _, _, _, .one h r n, a, ha => by rw [List.mem_singleton.mp ha]; exact n
  | _, _, _, .more h r s n1 n2 n3 n4, a, ha => fun hb => by
    rcases List.mem_cons.mp ha with e | ha
    · subst e
      rcases List.mem_append.mp hb with q | q
      · exact n1 q
      · exact n3 q
    · rcases List.mem_append.mp hb with q | q
      · exact (n4 a q).1 ha
      · exact s.apart a ha q
theorem Spn.fold {H : Hp} : ∀ {u : Addr} {us T : List Addr} {st : Sts}, Spn H (u :: us) T st → ∃ xs S, H u = some (.lst xs) ∧ Bus H S xs (fold st) ∧ u ∉ S ∧ ∀ a ∈ S, a ∈ us ∨ a ∈ T
  | _, _, _, _, .one h r n => ⟨_, _, h, r, n, fun a ha => .inr ha⟩
  | _, _, _, _, .more (r := r0) h r s n1 n2 n3 n4 => by
    obtain ⟨xs', S', e1, e2, e3, e4⟩ := s.fold
    cases r0 with
    | nil => cases s
    | cons r1 rs =>
      refine ⟨_, _, h, Bus.append r (Bu.one (Bu.lst e1 e2 e3)) fun a ha hb => ?_, fun hb => ?_, fun a ha => ?_⟩
      · rcases List.mem_cons.mp hb with e | hb
        · exact (n4 a ha).1 (by simp [e])
        · rcases e4 a hb with q | q
          · exact (n4 a ha).1 (by simp [q])
          · exact (n4 a ha).2 q
      · rcases List.mem_append.mp hb with q | q
        · exact n1 q
        · rcases List.mem_cons.mp q with e | q
          · exact n2 (by simp [e])
          · rcases e4 _ q with q | q
            · exact n2 (by simp [q])
            · exact n3 q
      · rcases List.mem_append.mp ha with q | q
        · exact .inr (by simp [q])
        · rcases List.mem_cons.mp q with e | q
          · exact .inl (by simp [e])
          · rcases e4 _ q with q | q
            · exact .inl (by simp [q])
            · exact .inr (by simp [q])
theorem Spn.cut {H : Hp} : ∀ {n : Nat} {us T : List Addr} {st : Sts}, Spn H us T st → 1 ≤ n → n ≤ us.length → ∃ T', Spn H (us.take n) T' (closeTo n st) ∧ ∀ a ∈ T', a ∈ us ∨ a ∈ T
  | 0, _, _, _, _, h, _ => by omega
  | 1, u :: us, T, st, s, _, _ => by
    obtain ⟨xs, S, e1, e2, e3, e4⟩ := s.fold
    have hc : closeTo 1 st = [Z.fold st] := by
      cases st with
      | nil => cases s
      | cons a r => rfl
    rw [hc]
    exact ⟨S, .one e1 e2 e3, fun a ha => (e4 a ha).imp (fun q => List.mem_cons_of_mem _ q) id⟩
  | n + 2, u :: us, T, st, s, _, hn => by
    cases s with
    | one => simp at hn
    | @more _ u' us xs S T ds r h r0 s n1 n2 n3 n4 =>
      obtain ⟨T', s', hT⟩ := s.cut (n := n + 1) (by omega) (by simpa using hn)
      refine ⟨S ++ T', .more h r0 s' n1 (fun q => n2 ?_) (fun q => ?_) (fun a ha => ⟨fun q => (n4 a ha).1 ?_, fun q => ?_⟩), fun a ha => ?_⟩
      · exact List.mem_of_mem_take (i := n + 1) q
      · rcases hT _ q with q | q
        · exact n2 q
        · exact n3 q
      · exact List.mem_of_mem_take (i := n + 1) q
      · rcases hT _ q with q | q
        · exact (n4 a ha).1 q
        · exact (n4 a ha).2 q
      · rcases List.mem_append.mp ha with q | q
        · exact .inr (by simp [q])
        · rcases hT _ q with q | q
          · exact .inl (List.mem_cons_of_mem _ q)
          · exact .inr (by simp [q])
theorem Spn.hd {H : Hp} {us T : List Addr} {st : Sts} (s : Spn H us T st) : ∃ u r, us = u :: r := by
  cases s <;> exact ⟨_, _, rfl⟩
/-- the innermost one -/
theorem Spn.last {H : Hp} : ∀ {us T : List Addr} {st : Sts}, Spn H us T st → ∃ ini u xs ds, us = ini ++ [u] ∧ u ∉ ini ∧ u ∉ T ∧ H u = some (.lst xs) ∧ xs.length = ds.length ∧ ds ∈ st ∧
    (∀ (p : Addr) H', H' u = some (.lst (xs ++ [.ref p])) → H' p = some (.lst []) → But [u, p] H H' → p ∉ us → p ∉ T → Spn H' (us ++ [p]) T (st ++ [[]])) ∧
    ∀ x H', H' u = some (.lst (xs ++ [.str x])) → But [u] H H' → Spn H' us T (putLast st (.str x))
  | _, _, _, .one (u := u) (xs := xs) (S := S) (ds := ds) h r n => by
    refine ⟨[], u, xs, ds, rfl, by simp, n, h, r.length, by simp, fun p H' h1 h2 b np nT => ?_, fun x H' h1 b => ?_⟩
    · have e : S ++ [] = S := List.append_nil S
      have := Spn.more (u := u) (u' := p) (us := []) (xs := xs) (S := S) (T := []) (ds := ds) (r := [[]]) h1 (r.but b fun a ha hb => by
        rcases List.mem_cons.mp hb with e | hb
        · exact n (e ▸ ha)
        · exact nT (List.mem_singleton.mp hb ▸ ha)) (.one h2 .nil (by simp)) n (fun q => np (by rw [List.mem_singleton.mp q]; simp)) (by simp) (fun a ha => ⟨fun q => nT (List.mem_singleton.mp q ▸ ha), by simp⟩)
      rw [e] at this
      exact this
    · have := Bus.append (r.but b fun a ha hb => n (List.mem_singleton.mp hb ▸ ha)) (Bu.one (.str (H := H') x)) (by simp)
      rw [List.append_nil] at this
      exact .one h1 this n
  | _, _, _, .more (u := u) (u' := u') (us := us) (xs := xs) (S := S) (T := T) (ds := ds) (r := r) h r0 s n1 n2 n3 n4 => by
    obtain ⟨ini, v, ys, es, e1, e2, e3, e4, e5, e6, f1, f2⟩ := s.last
    have hv : v ∈ u' :: us := by rw [e1]; simp
    have huv : u ≠ v := fun z => n2 (z ▸ hv)
    refine ⟨u :: ini, v, ys, es, by rw [e1]; rfl, fun q => ?_, fun q => ?_, e4, e5, List.mem_cons_of_mem _ e6, fun p H' h1 h2 b np nT => ?_, fun x H' h1 b => ?_⟩
    · rcases List.mem_cons.mp q with z | q
      · exact huv z.symm
      · exact e2 q
    · rcases List.mem_append.mp q with q | q
      · exact (n4 v q).1 hv
      · exact e3 q
    · have hup : u ≠ p := fun z => np (by rw [z]; simp)
      have s' := f1 p H' h1 h2 b (fun q => np (List.mem_cons_of_mem _ q)) fun q => nT (by simp [q])
      have rr : (u' :: us) ++ [p] = u' :: (us ++ [p]) := rfl
      rw [rr] at s'
      refine .more (b _ _ (by simp [huv, hup]) h) (r0.but b fun a ha hb => ?_) s' n1 (fun q => ?_) n3 fun a ha => ⟨fun q => ?_, (n4 a ha).2⟩
      · rcases List.mem_cons.mp hb with z | hb
        · exact (n4 a ha).1 (z ▸ hv)
        · exact nT (by rw [← List.mem_singleton.mp hb]; simp [ha])
      · rcases List.mem_append.mp (show u ∈ (u' :: us) ++ [p] from q) with q | q
        · exact n2 q
        · exact hup (List.mem_singleton.mp q)
      · rcases List.mem_append.mp (show a ∈ (u' :: us) ++ [p] from q) with q | q
        · exact (n4 a ha).1 q
        · exact nT (by rw [← List.mem_singleton.mp q]; simp [ha])
    · have s' := f2 x H' h1 b
      have hp : putLast (ds :: r) (.str x) = ds :: putLast r (.str x) := by
        cases r with
        | nil => cases s
        | cons a rs => rfl
      rw [hp]
      exact .more (b _ _ (by simp [huv]) h) (r0.but b fun a ha hb => (n4 a ha).1 (List.mem_singleton.mp hb ▸ hv)) s' n1 n2 n3 n4
theorem cutV_toV (ys : List V) (n : Nat) : cutV ys none (some (n : Int)) = ys.take n := by
  unfold cutV
  rw [HT.sIx_nat, HT.sIx_none, List.drop_zero, Nat.sub_zero]
  by_cases h : n ≤ ys.length
  · rw [Nat.min_eq_left h]
  · rw [Nat.min_eq_right (by omega), List.take_of_length_le (Nat.le_refl _), List.take_of_length_le (by omega)]
theorem cutV_fromV (ys : List V) (n : Nat) : cutV ys (some (n : Int)) none = ys.drop n := by
  unfold cutV
  rw [HT.sIx_nat, HT.sIx_none]
  by_cases h : n ≤ ys.length
  · rw [Nat.min_eq_left h, List.take_of_length_le (by rw [List.length_drop]; omega)]
  · rw [Nat.min_eq_right (by omega), List.drop_of_length_le (Nat.le_refl _), List.drop_of_length_le (by omega)]
    simp
mutual
theorem Bu.there {H : Hp} {S : List Addr} {v : V} {d : PyData} : Bu H S v d → ∀ a ∈ S, ∃ xs, H a = some (.lst xs)
  | .str x, a, h => by simp at h
  | .lst h r m, a, ha => by
    rcases List.mem_cons.mp ha with e | ha
    · rw [e]; exact ⟨_, h⟩
    · exact Bus.there r a ha
theorem Bus.there {H : Hp} {S : List Addr} {vs : List V} {ds : List PyData} : Bus H S vs ds → ∀ a ∈ S, ∃ xs, H a = some (.lst xs)
  | .nil, a, h => by simp at h
  | .cons h r m, a, ha => by
    rcases List.mem_append.mp ha with q | q
    · exact Bu.there h a q
    · exact Bus.there r a q
end
theorem Spn.there {H : Hp} : ∀ {us T : List Addr} {st : Sts}, Spn H us T st → ∀ a, a ∈ us ∨ a ∈ T → ∃ xs, H a = some (.lst xs)
  | _, _, _, .one h r n, a, ha => by
    rcases ha with ha | ha
    · rw [List.mem_singleton.mp ha]; exact ⟨_, h⟩
    · exact r.there a ha
  | _, _, _, .more h r s n1 n2 n3 n4, a, ha => by
    rcases ha with ha | ha
    · rcases List.mem_cons.mp ha with e | ha
      · rw [e]; exact ⟨_, h⟩
      · exact s.there a (.inl ha)
    · rcases List.mem_append.mp ha with q | q
      · exact r.there a q
      · exact s.there a (.inr q)
/-- one level down: the last one -/
theorem Spn.down {H : Hp} : ∀ {us T : List Addr} {st : Sts}, Spn H us T st → ∀ (j : Nat) (u v : Addr), us[j]? = some u → us[j + 1]? = some v → ∃ xs, H u = some (.lst (xs ++ [.ref v]))
  | _, _, _, .one .., j, u, v, _, h => by simp at h
  | _, _, _, .more h r s n1 n2 n3 n4, 0, u, v, h1, h2 => by
    simp at h1 h2
    subst h1
    subst h2
    exact ⟨_, h⟩
  | _, _, _, .more h r s n1 n2 n3 n4, j + 1, u, v, h1, h2 => s.down j u v (by simpa using h1) (by simpa using h2)
theorem closeTo_all : ∀ {n : Nat} {st : Sts}, st.length = n → closeTo n st = st
  | 0, [], _ => rfl
  | 1, [a], _ => rfl
  | n + 2, a :: r, h => by
    show a :: closeTo (n + 1) r = a :: r
    rw [closeTo_all (by simpa using h)]
end Z

set_option Elab.async false
set_option linter.all false
set_option maxRecDepth 100000
set_option maxHeartbeats 4000000
/-! rows of texts: parts, one behind the other, many times; the new state told by what it holds -/
namespace Z
open PySem PySem.Spec PyProof.Rows L2
theorem cut_mid (ys : List V) (a b : Nat) (h : a ≤ b) : cutV ys (some (a : Int)) (some (b : Int)) = (ys.drop a).take (b - a) := by
  unfold cutV
  rw [HT.sIx_nat, HT.sIx_nat]
  by_cases ha : a ≤ ys.length
  · rw [Nat.min_eq_left ha]
    by_cases hb : b ≤ ys.length
    · rw [Nat.min_eq_left hb]
    · rw [Nat.min_eq_right (by omega), List.take_of_length_le (by rw [List.length_drop]; omega), List.take_of_length_le (by rw [List.length_drop]; omega)]
  · have e : List.drop a ys = [] := List.drop_of_length_le (by omega)
    have e2 : List.drop (min a ys.length) ys = [] := List.drop_of_length_le (by omega)
    rw [e, e2]
    simp
/-- the row ys of texts stands at q -/
def RowS (H : Hp) (q : Addr) (ys : List Str) : Prop := H q = some (.lst (ys.map V.str))
theorem RowS.new {H H' : Hp} {q : Addr} {ys : List Str} (h : RowS H q ys) (b : But [] H H') : RowS H' q ys := b _ _ (by simp) h
section
variable {X : Cx} {σ : L2.St} {H : Hp} {Q : VK} {q r : Addr} {xs ys : List Str} {a b n : Nat}
theorem rs_to {K : PySem.W.Frag} (h : RowS H q ys) (k : ∀ p H', But [] H H' → H p = none → RowS H' p (ys.take a) → Q (.ref p) H') : rSlL K (.ref q) none (some (a : Int)) H Q :=
  ⟨q, _, rfl, .inl (.inl h), fun p hp => k p _ (But.new hp) hp (by rw [cutV_toV]; unfold RowS; rw [upd_same, List.map_take])⟩
theorem rs_from {K : PySem.W.Frag} (h : RowS H q ys) (k : ∀ p H', But [] H H' → H p = none → RowS H' p (ys.drop a) → Q (.ref p) H') : rSlL K (.ref q) (some (a : Int)) none H Q :=
  ⟨q, _, rfl, .inl (.inl h), fun p hp => k p _ (But.new hp) hp (by rw [cutV_fromV]; unfold RowS; rw [upd_same, List.map_drop])⟩
theorem rs_mid {K : PySem.W.Frag} (hab : a ≤ b) (h : RowS H q ys) (k : ∀ p H', But [] H H' → H p = none → RowS H' p ((ys.drop a).take (b - a)) → Q (.ref p) H') : rSlL K (.ref q) (some (a : Int)) (some (b : Int)) H Q :=
  ⟨q, _, rfl, .inl (.inl h), fun p hp => k p _ (But.new hp) hp (by rw [cut_mid _ _ _ hab]; unfold RowS; rw [upd_same, List.map_take, List.map_drop])⟩
theorem o_catS (h1 : RowS H q xs) (h2 : RowS H r ys) (hn : xs.length + ys.length ≤ 1000000) (k : ∀ p H', But [] H H' → H p = none → RowS H' p (xs ++ ys) → Q (.ref p) H') : oW X (binaryOp .Add) (.ref q) (.ref r) H Q :=
  o_cat h1 h2 (by rw [sizeLine_eq, List.length_map, List.length_map]; omega) fun p hp => k p _ (But.new hp) hp (by unfold RowS; rw [upd_same, List.map_append])
theorem o_repS (h1 : RowS H q xs) (hn : xs.length * n ≤ 1000000) (hn2 : n ≤ 1000000) (k : ∀ p H', But [] H H' → H p = none → RowS H' p (List.replicate n xs).flatten → Q (.ref p) H') : oW X (binaryOp .Mult) (.ref q) (.int n) H Q :=
  o_rep h1 (by rw [sizeLine_eq, List.length_map]; omega) (by omega) fun p hp => k p _ (But.new hp) hp (by unfold RowS; rw [upd_same, List.map_flatten, List.map_replicate])
end
end Z

set_option Elab.async false
set_option linter.all false
set_option maxRecDepth 100000
set_option maxHeartbeats 4000000
/-! a comprehension that keeps some -/
namespace Z
open PySem PySem.Spec PyProof.Rows L2
def keepL : List Bool → List V → List V
  | b :: bs, x :: xs => if b = true then x :: keepL bs xs else keepL bs xs
  | _, _ => []
theorem keepL_snoc {b : Bool} {x : V} : ∀ {bs : List Bool} {xs : List V}, bs.length = xs.length → keepL (bs ++ [b]) (xs ++ [x]) = keepL bs xs ++ (if b = true then [x] else [])
  | [], [], _ => by cases b <;> rfl
  | c :: bs, z :: xs, h => by
    have ih := keepL_snoc (b := b) (x := x) (bs := bs) (xs := xs) (by simpa using h)
    show (if c = true then z :: keepL (bs ++ [b]) (xs ++ [x]) else keepL (bs ++ [b]) (xs ++ [x])) = (if c = true then z :: keepL bs xs else keepL bs xs) ++ _
    rw [ih]
    cases c <;> rfl
  | [], _ :: _, h => by simp at h
  | _ :: _, [], h => by simp at h
theorem keepL_len : ∀ {bs : List Bool} {xs : List V}, (keepL bs xs).length ≤ xs.length
  | [], _ => by simp [keepL]
  | _ :: _, [] => by simp [keepL]
  | b :: bs, x :: xs => by
    have := keepL_len (bs := bs) (xs := xs)
    show (if b = true then x :: keepL bs xs else keepL bs xs).length ≤ _
    cases b <;> simp <;> omega
theorem keepL_dds {K : PySem.W.Frag} {l : List Addr} {H : Hp} {f : PyData → Bool} : ∀ {xs : List V} {ds : List PyData}, DDs K l H xs ds → DDs K l H (keepL (ds.map f) xs) (ds.filter f)
  | _, _, .nil => .nil
  | _, _, .cons (v := x) (d := d) h r => by
    have ih := keepL_dds (f := f) r
    rw [List.map_cons, List.filter_cons]
    show DDs K l H (if f d = true then x :: keepL _ _ else keepL _ _) _
    cases f d with
    | true => exact .cons h ih
    | false => exact ih
section
variable {X : Cx} {k : Nat} {W : WX} {σ : L2.St} {H : Hp} {pos : Pos} {Q : VK} {iter c : Expr} {scope : Scope} {y : Str} {p p2 : Pos}
/-- the target is a name, one test -/
theorem lc_test {vs : List Nat} {i : Nat} {elt : Expr} {D : Addr} {x : V} {Nx : Hp → Prop} (hN : X.N.Nodup)
    (h : ∀ s H0 C cl fp, wT (X.blk s H0 scope (compEnvC scope cl C X.env) fp) c ((wipe σ vs).set i (some x)) H fun b H3 => if b = true then wEb X scope elt ((wipe σ vs).set i (some x)) H3 fun y H4 => ∃ acc, H4 D = some (.lst acc) ∧ acc.length < sizeLine ∧ Nx (upd H4 D (.lst (acc ++ [y]))) else Nx H3)
    (hw : wipe ((wipe σ vs).set i (some x)) vs = wipe σ vs := by rfl) (hi : X.N[i]? = some y := by rfl)
    (hx : Loc (relS scope X.env.scope) y := by first | exact Or.inl rfl | exact Or.inr rfl) (hf : (scope.names.lookup y == some .cell) = true ∨ (relS scope X.env.scope).names.lookup y = some .local := by first | exact .inl rfl | exact .inr rfl) :
    LcTurn X scope vs (.Name y p) [c] elt σ D x H Nx := by
  intro s H0 C cl fp
  refine g_name (i := i) ?_ hN hi hx hf
  exact ⟨hw, fun s H0 C cl fp => eIf (pts_one pT) (h s H0 C cl fp)⟩
/-- what is walked is kept where the test says so; nothing is changed -/
theorem lcF_core {J : It} {n : Nat} {G : Hp → Prop} {Y : Nat → Hp → V → Hp → Prop} {vs : List Nat} {elt : Expr} {i : Nat} {H1 : Hp} {xs : List V} {bs : List Bool} (hN : X.N.Nodup) (w : Walk J n G Y) (hn : xs.length = n) (hb : bs.length = n) (hz : n ≤ sizeLine) (hG : ∀ H', But [] H1 H' → G H')
    (ht : ∀ j x H2 H', j < n → But [] H1 H2 → Y j H2 x H' → H' = H2 ∧ xs[j]? = some x ∧ ∀ s H0 C cl fp, wT (X.blk s H0 scope (compEnvC scope cl C X.env) fp) c ((wipe σ vs).set i (some x)) H2 fun b H3 => bs[j]? = some b ∧ But [] H2 H3 ∧ (b = true → wEb X scope elt ((wipe σ vs).set i (some x)) H3 fun y H4 => y = x ∧ But [] H3 H4))
    {Qd : Addr → Hp → Prop} (hq : ∀ D H', But [] H1 H' → H1 D = none → H' D = some (.lst (keepL bs xs)) → Qd D H')
    (hw : ∀ x, wipe ((wipe σ vs).set i (some x)) vs = wipe σ vs := by intro _; rfl) (hi : X.N[i]? = some y := by rfl)
    (hx : Loc (relS scope X.env.scope) y := by first | exact Or.inl rfl | exact Or.inr rfl) (hf : (scope.names.lookup y == some .cell) = true ∨ (relS scope X.env.scope).names.lookup y = some .local := by first | exact .inl rfl | exact .inr rfl) : ∀ D, H1 D = none → ∃ Pv : Nat → Hp → Prop, Pv 0 (upd H1 D (.lst [])) ∧ (∀ i H, i ≤ n → Pv i H → G H) ∧
      (∀ i x H H', i < n → Pv i H → Y i H x H' → LcTurn X scope vs (.Name y p) [c] elt σ D x H' (Pv (i + 1))) ∧ ∀ H, Pv n H → Qd D H := by
  intro D hD
  refine ⟨fun j H' => But [] H1 H' ∧ H' D = some (.lst (keepL (bs.take j) (xs.take j))), ⟨But.new hD, by rw [upd_same]; rfl⟩, fun j H' _ h => hG H' h.1, ?_, fun H' h => hq D H' h.1 hD (by
    have h2 := h.2
    rw [List.take_of_length_le (by omega), List.take_of_length_le (by omega)] at h2
    exact h2)⟩
  intro j x H2 H' hj hP hY
  obtain ⟨rfl, hxj, hT⟩ := ht j x H2 H' hj hP.1 hY
  refine lc_test (i := i) hN (fun s H0 C cl fp => ⟨fun pins s2 I => thn ((hT s H0 C cl fp).run pins s2 I) fun b s3 h3 => ?_⟩) (hw x) hi hx hf
  obtain ⟨H3, I3, hbj, b3, hE⟩ := h3
  refine ⟨H3, I3, ?_⟩
  have e1 : bs.take (j + 1) = bs.take j ++ [b] := by rw [List.take_add_one, hbj]; rfl
  have e2 : xs.take (j + 1) = xs.take j ++ [x] := by rw [List.take_add_one, hxj]; rfl
  have e3 : keepL (bs.take (j + 1)) (xs.take (j + 1)) = keepL (bs.take j) (xs.take j) ++ (if b = true then [x] else []) := by
    rw [e1, e2, keepL_snoc (by rw [List.length_take, List.length_take]; omega)]
  have hD3 := b3 _ _ (by simp) hP.2
  cases b with
  | false =>
    refine ⟨hP.1.trans b3, ?_⟩
    rw [e3, hD3]
    simp
  | true =>
    show wEb X scope elt _ H3 _
    intro s H0 C cl fp
    refine wE_mono (hE rfl s H0 C cl fp) fun v H4 ⟨hv, b4⟩ => ?_
    subst hv
    have hD4 := b4 _ _ (by simp) hD3
    have hl := keepL_len (bs := bs.take j) (xs := xs.take j)
    rw [List.length_take] at hl
    refine ⟨_, hD4, by omega, fun q o _ e => ?_, by rw [upd_same, e3]; rfl⟩
    rw [upd_ne (ne_of_none e hD)]
    exact b4 _ _ (by simp) (b3 _ _ (by simp) (hP.1 _ _ (by simp) e))
/-- [x for x in xs if c] -/
theorem e_lcF (own : List (Str × Nat)) (C : Cxt X k W) (i : Nat)
    (h : wI X (.Name y p) iter σ H fun J H1 => ∃ n G Y xs bs, Walk J n G Y ∧ xs.length = n ∧ bs.length = n ∧ n ≤ sizeLine ∧ (∀ H', But [] H1 H' → G H') ∧
      (∀ j x H2 H', j < n → But [] H1 H2 → Y j H2 x H' → H' = H2 ∧ xs[j]? = some x ∧ ∀ s H0 C cl fp, wT (X.blk s H0 scope (compEnvC scope cl C X.env) fp) c ((wipe σ (own.map (·.2))).set i (some x)) H2 fun b H3 => bs[j]? = some b ∧ But [] H2 H3 ∧ (b = true → wEb X scope (.Name y p2) ((wipe σ (own.map (·.2))).set i (some x)) H3 fun y H4 => y = x ∧ But [] H3 H4)) ∧
      ∀ D H', But [] H1 H' → H1 D = none → H' D = some (.lst (keepL bs xs)) → Q (.ref D) H')
    (ok : BlkOk X.N X.env.scope scope own := by exact blkOk_by (by first | rfl | kernel_rfl)) (hs : ∀ x, foldedSetIterable iter X.env x = pure x := by intro _; rfl)
    (hw : ∀ x, wipe ((wipe σ (own.map (·.2))).set i (some x)) (own.map (·.2)) = wipe σ (own.map (·.2)) := by intro _; rfl) (hi : X.N[i]? = some y := by rfl)
    (hx : Loc (relS scope X.env.scope) y := by first | exact Or.inl rfl | exact Or.inr rfl) (hf : (scope.names.lookup y == some .cell) = true ∨ (relS scope X.env.scope).names.lookup y = some .local := by first | exact .inl rfl | exact .inr rfl) :
    wE X (.ListComp (.Name y p2) [⟨.Name y p, iter, [c], 0⟩] scope pos) σ H Q :=
  e_lc own C (wI_mono h fun J H1 ⟨n, G, Y, xs, bs, w, h1, h2, h3, h4, h5, h6⟩ => ⟨n, G, Y, w, lcF_core C.nd w h1 h2 h3 h4 h5 h6 hw hi hx hf⟩) ok hs
end
theorem op_isnotB {X : Cx} : OpR X (compareOp .IsNot) (fun x y H Q => ∃ a b : Bool, x = .bl a ∧ y = .bl b ∧ Q (.bl (!decide (a = b))) H) := by
  intro pins s σ H x y v u Q I rx ry h
  obtain ⟨a, b, rfl, rfl, q⟩ := h
  cases rx
  cases ry
  show wpAny _ _ ((isSame (Value.bool a) (Value.bool b)) >>= fun z => pure (Value.bool (!z))) _ _ s
  refine wpAny_bind (wpAny_isSame_plain rfl (wpAny_pure (fin_bl I q ?_)))
  cases a <;> cases b <;> rfl
theorem c_isnotB {X : Cx} {H : Hp} {Q : VK} {a b : Bool} (q : Q (.bl (!decide (a = b))) H) : oW X (compareOp .IsNot) (.bl a) (.bl b) H Q := oW_of op_isnotB ⟨a, b, rfl, rfl, q⟩
end Z

set_option Elab.async false
set_option linter.all false
set_option maxRecDepth 100000
set_option maxHeartbeats 4000000
/-! a, b, .. = a list; a list is not the empty one -/
namespace Z
open PySem PySem.Spec PyProof.Rows L2
def rNeNil (K : PySem.W.Frag) : R2 := fun x y H Q => ∃ (a b : Addr) (xs : List V), x = .ref a ∧ y = .ref b ∧ SqL K H a xs ∧ SqL K H b [] ∧ Q (.bl (!xs.isEmpty)) H
theorem op_neNil {X : Cx} (hu : X.A.units + 64 < cLine) : OpR X (compareOp .NotEq) (rNeNil X.K) := by
  intro pins s σ H x y v u Q I rx ry h
  obtain ⟨a, b, xs, rfl, rfl, ha, hb, q⟩ := h
  cases rx
  cases ry
  obtain ⟨its, rv, pl, hz⟩ := I.list ha
  obtain ⟨its2, rv2, pl2, hz2⟩ := I.list hb
  cases rv2
  have r : SeqAt.RcNeAt X.A s (.ref a) (.ref b) (!xs.isEmpty) := by
    cases xs with
    | nil =>
      cases rv
      exact SeqAt.RcNeAt.lists (e := fun _ => true) pl.isList pl2.isList rfl (by omega) (fun j h _ => absurd h (by simp))
    | cons y l =>
      cases rv
      exact SeqAt.RcNeAt.lists_lengths pl.isList pl2.isList (by simp) (by omega)
  exact r X.prog X.w _ _ ⟨.bl _, H, I, rfl, q⟩
section
variable {X : Cx} {k : Nat} {W : WX} {σ : L2.St} {H : Hp} {es : List Expr}
theorem c_neNil {a b : Addr} {xs : List V} {Q : VK} (C : Cxt X k W) (ha : SqL X.K H a xs) (hb : SqL X.K H b []) (q : Q (.bl (!xs.isEmpty)) H) : oW X (compareOp .NotEq) (.ref a) (.ref b) H Q :=
  oW_of (op_neNil (by have := C.un; omega)) ⟨a, b, xs, rfl, rfl, ha, hb, q⟩
theorem g_lst {k : Nat} {pos : Pos} {p : Addr} {xs : List V} {Q : L2.St → Hp → Prop} (h : wGs X es xs σ H Q) (hc : X.calm = true) (hq : SqL X.K H p xs) (hn : (assignEach es X.env).length = xs.length := by rfl)
    (hst : (assignEach es X.env).findIdx? (·.1) = none := by rfl) : wG X (.Tuple es k pos) (.ref p) σ H Q := eG (pg_lst hc pGs hn hst) ⟨p, xs, rfl, hq, rfl, h⟩
end
end Z

set_option Elab.async false
set_option linter.all false
set_option maxRecDepth 100000
set_option maxHeartbeats 4000000
/-! x != y by the own __eq__ of a class whose __ne__ is object's -/
namespace Z
open PySem PySem.Spec PyProof.Rows L2 C8
section
variable {M : Model} {prog : Program} {w : World} {A : Around} {E : Value → Shared → Prop} {s : Shared} {K : PySem.W.Frag} {x C f : Addr} {ox : Obj} {od : Option Obj} {b : Value}
theorem ifBound_objNe {args : List Value} {Q : Option Value → Shared → Prop} (X : K.In s.heap) (I : PySem.W.InstAt s.heap x ox C od) (hs : PySem.W.findIn K (.ref C) "__ne__" = some (some (.builtin "object.__ne__")))
    (h : wpAny M A (call (.builtin "object.__ne__") (.ref x :: args)) (fun v => Q (some v)) E s) : wpAny M A (callSpecialIfBound? (.ref x) "__ne__" args) Q E s := by
  simp only [callSpecialIfBound?, bindSpecialIfBound?]
  refine wpAny_holding (wpAny_bind (wpAny_bind (wpAny_bind (I.type.here ((PySem.W.looks_findIn X hs).here ?_)))))
  refine wpAny_bind (wpAny_askSetting (wpAny_ite ?_))
  have fin : wpAny M A (call (.builtin "object.__ne__") ([.ref x] ++ args) >>= fun v => pure (some v)) Q E s := wpAny_bind (wpAny_mono h (fun v s' h' => wpAny_pure h') fun _ _ h' => h')
  split
  · exact wpAny_bind (wpAny_of_eq (F.cmp_object.ne.bind _) (wpAny_pure (by exact fin)))
  · exact wpAny_tryCatch (wpAny_bind (wpAny_of_eq (F.cmp_object.ne.bind _) (wpAny_pure (by exact fin))))
theorem entry_ne {Q : Fin → Shared → Prop} (hu : A.units < cLine) (X : K.In s.heap) (I : PySem.W.InstAt s.heap x ox C od) (hs : PySem.W.findIn K (.ref C) "__eq__" = some (some (.ref f))) (hf : PySem.W.isFn K (.ref f) = true)
    (h : wpAny M A (call (.ref f) [.ref x, b]) (fun v s' => v = .bool true ∧ Q (.done (.ret (.bool false))) s') E s) : wpAny M A (Builtin.«object.__ne__» ⟨[.ref x, b], []⟩) Q E s := by
  unfold Builtin.«object.__ne__»
  repeat (first | with_reducible refine wpAny_cRoomFor hu ?_ | with_reducible refine wpAny_bind (PySem.W.ifBound_K X I hs hf (wpAny_mono h (fun v s' z => ?_) fun _ _ e => e)) | wp_step)
  obtain ⟨rfl, q⟩ := z
  exact wpAny_bind (wpAny_truthy_bool (wpAny_pure q))
theorem cmp_objNe {od' : Option Obj} {oy : Obj} {y : Addr} {Q : Value → Shared → Prop} (hu : A.units + 1 < cLine) (X : K.In s.heap) (I : PySem.W.InstAt s.heap x ox C od) (J : PySem.W.InstAt s.heap y oy C od')
    (hn : PySem.W.findIn K (.ref C) "__ne__" = some (some (.builtin "object.__ne__"))) (hm : PySem.W.mroIn K C (.type "object") = some true) (hs : PySem.W.findIn K (.ref C) "__eq__" = some (some (.ref f))) (hf : PySem.W.isFn K (.ref f) = true)
    (h : wpAny (model prog w) A.in1 (call (.ref f) [.ref x, .ref y]) (fun v s' => v = .bool true ∧ Q (.bool false) s') E s) : wpAny (model prog w) A (richCompare .NotEq (.ref x) (.ref y)) Q E s := by
  have hu0 : A.units < cLine := Nat.lt_of_succ_lt hu
  have one : wpAny (model prog w) A (tryCompare (.ref x) "__ne__" (.ref y)) (fun r s' => ∃ v, r = some v ∧ Q v s') E s := by
    unfold tryCompare
    exact wpAny_bind (ifBound_objNe X I hn (wpAny_call (codeAny_call_builtin F.cmp_object.ne.plain F.cmpEntry_ne (PySem.W.check_slot F.cmpKind_ne F.cmpSplit_ne (I.type.andThen (PySem.W.looks_mroIn X hm)) (F.cmpArgs_ne _ _) (entry_ne (A := A.in1) hu X I hs hf (wpAny_mono h (fun v s' z => ⟨z.1, wpAny_pure ⟨_, rfl, z.2⟩⟩) fun _ _ e => e))))))
  simp only [richCompare, cmpInfo_NotEq, oneThing_ref]
  refine wpAny_holding (wpAny_bind (wpAny_cRoomFor hu0 ?_))
  refine wpAny_bind (I.type.here (wpAny_bind (J.type.here ?_)))
  rw [if_neg (by simp)]
  refine wpAny_bind (wpAny_pure ?_)
  simp only [Bool.false_eq_true, if_false]
  refine wpAny_bind (wpAny_mono one (fun r s' z => ?_) fun _ _ e => e)
  obtain ⟨v, rfl, hq⟩ := z
  exact wpAny_pure hq
end
def rNeG (D : Eqv) : R2 := fun x y H Q => D x y H ∧ ∀ H', Ext H H' → Q (.bl false) H'
section
variable {X : Cx} {n : Nat}
theorem op_neG {CX : CXT} {C f : Addr} {fd : FuncData} {ps : List Str} {R : Addr → Addr → Hp → Prop} {E : XK} (F : FnOk X.prog X.w X.K X.mg X.base CX n f fd ps (spEq R)) (hs : PySem.W.findIn X.K (.ref C) "__eq__" = some (some (.ref f))) (hf : PySem.W.isFn X.K (.ref f) = true)
    (hn : PySem.W.findIn X.K (.ref C) "__ne__" = some (some (.builtin "object.__ne__"))) (hm : PySem.W.mroIn X.K C (.type "object") = some true) (hb : Binds X.K fd ps []) (hx : Passes CX X E) (hr : Room (n + 1) X.A) : OpR X (compareOp .NotEq) (rNeG (DIns C R)) := by
  intro pins s σ H x y u v Q I rx ry hq
  obtain ⟨⟨a, b, dx, dy, fs, gs, rfl, rfl, ha, hb', hR⟩, q⟩ := hq
  cases rx
  cases ry
  obtain ⟨mA, J, _⟩ := ins_get I.hok ha
  obtain ⟨mB, J', _⟩ := ins_get I.hok hb'
  obtain ⟨od, J, _⟩ := J.look
  obtain ⟨od', J', _⟩ := J'.look
  obtain ⟨m, hF⟩ := I.fr
  have sb : Sub X (n + 1) X.A := ⟨hr, rfl⟩
  have s1 : Sub X n X.A.in1 := sb.in1
  refine cmp_objNe (f := f) (by have := s1.room.units0; exact this) I.kIn J J' hn hm hs hf ?_
  have hsp : spEq R [.ref a, .ref b] H (fun v H' => v = .bl true ∧ Ext H H') E := ⟨a, b, rfl, hR, fun H' e => ⟨rfl, e⟩⟩
  have e0 : Env0 X.prog X.w X.K X.mg X.base X.A.in1 X.stack s H := by
    have e := I.env0
    exact ⟨by rw [s1.fr]; exact e.frames, e.mod, e.bs, e.bsz, e.funs, e.frf, e.hok, e.bare⟩
  have hl := F.len _ _ _ _ hsp
  have r2 : Vals [V.ref a, V.ref b] [Value.ref a, Value.ref b] := .cons rfl (.cons rfl .nil)
  refine wpAny_call (codeAny_mono (F.run X.A.in1 X.stack s H ⟨[.ref a, .ref b], []⟩ [.ref a, .ref b] [.ref a, .ref b] _ E s1.room e0 (by
    have := hb s [.ref a, .ref b] I.kIn (by simpa using hl)
    simpa using this) r2 hsp) fun r s' hq => ?_)
  cases r with
  | error e => exact hx pins σ H s e s' I hq
  | ok fl =>
    cases fl with
    | ret w =>
      obtain ⟨z, H', I', rz, ez, ex⟩ := I.after hq
      subst ez
      cases rz
      exact ⟨rfl, .bl false, H', I', rfl, q _ ex⟩
    | next => exact False.elim hq
    | brk => exact False.elim hq
    | cont => exact False.elim hq
end
section
variable {X : Cx} {k : Nat} {W : WX} {σ : L2.St} {H : Hp} {Q : VK}
/-- x != y, both alike by the own __eq__ of the class at C -/
theorem c_neI {C : Addr} {ps : List Str} {R : Addr → Addr → Hp → Prop} {y z : V} (Cc : Cxt X (k + 1) W) (M : MethOk X.prog X.w X.K X.mg X.base k C "__eq__" ps (spEq R)) (hn : PySem.W.findIn X.K (.ref C) "__ne__" = some (some (.builtin "object.__ne__"))) (hm : PySem.W.mroIn X.K C (.type "object") = some true)
    (d : DIns C R y z H) (q : ∀ H', But [] H H' → Q (.bl false) H') : oW X (compareOp .NotEq) y z H Q := by
  obtain ⟨f, fd, hmm, F, hb⟩ := M.ex
  exact oW_of (op_neG F hmm.at_ hmm.fn hn hm hb (passes0 Cc.tk) Cc.room) ⟨d, fun H' e => q H' (but_ext e)⟩
end
end Z

set_option Elab.async false
set_option linter.all false
set_option maxRecDepth 100000
set_option maxHeartbeats 4000000
/-! two lists of the same plain values are equal -/
namespace Z
open PySem PySem.Spec PyProof.Rows L2
def SameF : Eqv := fun x y _ => x = y ∧ flatB x = true
theorem mon_same : Mon SameF := fun _ _ _ _ _ d => d
theorem eqG_same {X : Cx} {n : Nat} : EqG X n SameF := by
  intro A pins s σ H x y u v sb I rx ry d
  obtain ⟨e, f⟩ := d
  subst e
  exact eqAt_same rx ry f X.prog X.w X.xe _ ⟨rfl, H, I, Ext.rfl'⟩
section
variable {X : Cx} {k : Nat} {W : WX} {σ : L2.St} {H : Hp} {Q : VK}
theorem c_eqFlat {a b : Addr} {xs : List V} (C : Cxt X (k + 1) W) (ha : H a = some (.lst xs)) (hb : H b = some (.lst xs)) (f : ∀ v ∈ xs, flatB v = true) (q : ∀ H', But [] H H' → Q (.bl true) H') : oW X (compareOp .Eq) (.ref a) (.ref b) H Q :=
  oW_of (op_eqG (n := 1) (rcG_list mon_same (eqG_same (n := 0))) (C.room.mono (by omega))) ⟨⟨a, b, xs, xs, rfl, rfl, ha, hb, rfl, fun i x y h1 h2 => ⟨Option.some.inj (h1.symm.trans h2), f x (List.mem_of_getElem? h1)⟩⟩, fun H' e => q H' (but_ext e)⟩
end
end Z

set_option Elab.async false
set_option linter.all false
set_option maxRecDepth 100000
set_option maxHeartbeats 4000000
/-! plain: what can be compared -/
namespace Z
open PySem PySem.Spec PyProof.Rows L2 TL
theorem layAllZ : ∀ {ds : List PyData}, (∀ d ∈ ds, PyData.canLay0 d = true) → PyData.canLayAll0 ds = true
  | [], _ => rfl
  | d :: ds, h => by
    have h2 := layAllZ (ds := ds) fun x hx => h x (List.mem_cons_of_mem _ hx)
    simp only [PyData.canLayAll0, h d (by simp), h2, Bool.and_self]
theorem noDictZ : ∀ {ds : List PyData}, (∀ d ∈ ds, PyData.hasDict d = false) → PyData.hasDictAll ds = false
  | [], _ => rfl
  | d :: ds, h => by
    have h2 := noDictZ (ds := ds) fun x hx => h x (List.mem_cons_of_mem _ hx)
    simp only [PyData.hasDictAll, h d (by simp), h2, Bool.or_self]
/-- good to be compared -/
structure CmpZ (n : Nat) (d : PyData) : Prop where
  lay : PyData.canLay0 d = true
  dep : d.depth ≤ n
  nod : d.hasDict = false
theorem CmpZ.mono {n m : Nat} {d : PyData} (h : CmpZ n d) (a : n ≤ m) : CmpZ m d := ⟨h.lay, Nat.le_trans h.dep a, h.nod⟩
theorem CmpZ.list {n : Nat} {ds : List PyData} (h : ∀ d ∈ ds, CmpZ n d) : CmpZ (n + 1) (.list ds) := by
  have e1 := layAllZ fun d hd => (h d hd).lay
  have e2 := depthAllZ fun d hd => (h d hd).dep
  have e3 := noDictZ fun d hd => (h d hd).nod
  exact ⟨by simp only [PyData.canLay0, e1], by simp only [PyData.depth]; omega, by simp only [PyData.hasDict, e3]⟩
theorem CmpZ.tuple {n : Nat} {ds : List PyData} (h : ∀ d ∈ ds, CmpZ n d) : CmpZ (n + 1) (.tuple ds) := by
  have e1 := layAllZ fun d hd => (h d hd).lay
  have e2 := depthAllZ fun d hd => (h d hd).dep
  have e3 := noDictZ fun d hd => (h d hd).nod
  exact ⟨by simp only [PyData.canLay0, e1], by simp only [PyData.depth]; omega, by simp only [PyData.hasDict, e3]⟩
theorem CmpZ.str {x : Str} (h : ∀ c ∈ x.cps.toList, c < 128) : CmpZ 0 (.str x) := ⟨by simp only [PyData.canLay0, strOk_ascii h], by simp only [PyData.depth]; omega, by simp only [PyData.hasDict]⟩
theorem CmpZ.int {i : Int} : CmpZ 0 (.int i) := ⟨by simp only [PyData.canLay0], by simp only [PyData.depth]; omega, by simp only [PyData.hasDict]⟩
theorem CmpZ.none : CmpZ 0 .none := ⟨by simp only [PyData.canLay0], by simp only [PyData.depth]; omega, by simp only [PyData.hasDict]⟩
theorem CmpZ.shaped {n : Nat} {d : PyData} (h : CmpZ n d) (hn : n ≤ 64) : SeqAt.shaped d = true := by
  have := h.dep
  rw [SeqAt.shaped, h.lay, decide_eq_true (by omega)]
  rfl
theorem CmpZ.same {n : Nat} {d : PyData} (h : CmpZ n d) : PyData.eqv d d = true := eqv_same h.nod
end Z

set_option Elab.async false
set_option linter.all false
set_option maxRecDepth 100000
set_option maxHeartbeats 4000000
namespace K50
open PySem PySem.Spec PyProof.Rows L2 Z
def top (i : Nat) : Stmt := PySem.Challenge.pw_frontlines_k50_readers_refused.main.body.getD i (.Pass ⟨0, 0, 0, 0⟩)
/-! ### plain -/
def known : Str := "abcdefghijklmnopqrstuvwxyz0123456789.-=>|"
def isInteger (d : PyData) : Bool := isInt d && !isBool d
def ascends : List Nat → Bool
  | a :: b :: r => decide (a < b) && ascends (b :: r)
  | _ => true
def strSigns (x : Str) : Bool := decide (2 ≤ x.length) && decide (x.length ≤ 4) && x.cps.toList.all (fun c => decide (c ∈ known.cps.toList)) && ascends x.cps.toList
def lenOk : PyData → Bool
  | .str x => decide (2 ≤ x.length) && decide (x.length ≤ 4)
  | _ => false
def areSigns : PyData → Bool
  | .str x => strSigns x
  | _ => false
/-- the constants of the text -/
structure Consts (mg : Str → Option Value) : Prop where
  known : ∃ u, mg "KNOWN_SIGNS" = some u ∧ RelV (.str known) u
  least : ∃ u, mg "LEAST_SIGNS" = some u ∧ RelV (.int 2) u
  most : ∃ u, mg "MOST_SIGNS" = some u ∧ RelV (.int 4) u
section
variable {P : Program} {w : World} {K : PySem.W.Frag} {mg : Str → Option Value} {base : Heap}
theorem known_ascii : ∀ c, c ∈ known.cps.toList → c < 128 := by decide +kernel
theorem zip_ascends : ∀ l : List Nat, ((l.zip (l.drop 1)).map fun q => decide (q.1 < q.2)).all id = ascends l
  | [] => rfl
  | [_] => rfl
  | a :: b :: r => by
    have ih := zip_ascends (b :: r)
    simp only [List.drop_succ_cons, List.drop_zero, List.zip_cons_cons, List.map_cons, List.all_cons, id_eq, ascends] at ih ⊢
    rw [← ih]
theorem lt_one {a b : Nat} : decide ((⟨#[a]⟩ : Str).cps.toList < (⟨#[b]⟩ : Str).cps.toList) = decide (a < b) := by
  rw [decide_eq_decide]
  show [a] < [b] ↔ a < b
  simp [List.cons_lt_cons_iff]
/-- one datum in, a bool out, nothing changed -/
def fits : PyData → Prop
  | .str x => x.length ≤ sizeLine
  | _ => True
def sp1 (K : PySem.W.Frag) (f : PyData → Bool) : Sp := fun vs H Q _ => ∃ v l d, vs = [v] ∧ DD K l H v d ∧ fits d ∧ ∀ H', But [] H H' → Q (.bl (f d)) H'
theorem sp1_len {f : PyData → Bool} : ∀ vs H Q E, sp1 K f vs H Q E → vs.length = (["value"] : List Str).length := fun vs H Q E ⟨v, l, d, e, _⟩ => by rw [e]; rfl
theorem sc9 : FnScope ["value"] ["value"] (defScope (top 12)) := ⟨rfl, rfl, rfl, by decide +kernel, rfl, by decide +kernel, by decide +kernel⟩
theorem d_isInteger (B : Blt mg base) (D : At K mg "is_integer" (top 12)) : Def P w K mg base 1 "is_integer" (top 12) ["value"] (sp1 K isInteger) := by
  refine def_of D B sc9 sp1_len fun f cdv A outer s H vs Q E hm C h => ?_
  obtain ⟨v, l, d, rfl, hd, hf, q⟩ := h
  refine b_cons (s_ret (e_and (e_isi B kit_int B.int PyProof.Rows.boot_int (e_name 0 ⟨l, d, hd, isInt d, rfl, ?_⟩))))
  split
  · refine e_one (e_not (e_isi B kit_bool B.bool PyProof.Rows.boot_bool (e_name 0 ⟨l, d, hd, isBool d, rfl, ?_⟩)))
    have := q H But.refl
    simpa [isInteger, *] using this
  · have := q H But.refl
    simpa [isInteger, *] using this
theorem sc10 : FnScope ["value", "sign", "one", "other"] ["value"] (defScope (top 14)) := ⟨rfl, rfl, rfl, by decide +kernel, rfl, by decide +kernel, by decide +kernel⟩
theorem d_areSigns (B : Blt mg base) (D : At K mg "are_signs" (top 14)) (T : Consts mg) : Def P w K mg base 1 "are_signs" (top 14) ["value"] (sp1 K areSigns) := by
  refine def_of D B sc10 sp1_len fun f cdv A outer s H vs Q E hm C h => ?_
  obtain ⟨v, l, d, rfl, hd, hf, q⟩ := h
  obtain ⟨uK, hK, rK⟩ := T.known
  obtain ⟨u2, h2, r2⟩ := T.least
  obtain ⟨u4, h4, r4⟩ := T.most
  have rd : ∀ {H1}, But [] H H1 → DD K l H1 v d := fun b => hd.but (b.mono (by simp))
  refine b_cons (s_ifB (!lenOk d) ?_ (fun e H1 b1 => ?_) (fun e H1 b1 => ?_))
  · refine t_boolop (w_or (t_not (t_val (e_isi B kit_str B.str PyProof.Rows.boot_str (e_name 0 ⟨l, d, hd, isStr d, rfl, ?_⟩)))))
    refine ite_b (fun e => ⟨?_, But.refl⟩) fun e => ?_
    · cases d <;> simp_all [isStr, lenOk]
    · obtain ⟨x, rfl⟩ : ∃ x, d = .str x := by cases d <;> simp [isStr] at e; exact ⟨_, rfl⟩
      cases hd
      refine w_or1 (t_not (t_chain (e_glob (e_len B (e_name 0 ?_)) h2 r2)))
      refine ⟨x.length, ⟨hf, rfl⟩, c_le ⟨_, rfl, ite_b (fun e => e_glob (c_le ⟨_, rfl, ?_, But.refl⟩) h4 r4) fun e => ⟨_, rfl, ?_, But.refl⟩⟩⟩
      · have e := of_decide_eq_true e
        rw [lenOk, show decide (2 ≤ x.length) = true from decide_eq_true (by omega), Bool.true_and, Bool.not_eq_eq_eq_not, Bool.not_not, decide_eq_decide]
        omega
      · have e := of_decide_eq_false e
        rw [lenOk, show decide (2 ≤ x.length) = false from decide_eq_false (by omega)]
        rfl
  · refine b_cons (s_ret (e_bool ?_))
    have := q H1 b1
    have no : areSigns d = false := by cases d <;> simp_all [areSigns, strSigns, lenOk]; omega
    rwa [no] at this
  · obtain ⟨x, rfl⟩ : ∃ x, d = .str x := by cases d <;> simp [lenOk] at e; exact ⟨_, rfl⟩
    cases hd
    have hx : x.length ≤ sizeLine := hf
    have hsz : x.cps.size = x.length := rfl
    refine b_nil (b_cons (s_ifB (!(x.cps.toList.all fun c => decide (c ∈ known.cps.toList))) ?_ (fun e2 H2 b2 => ?_) (fun e2 H2 b2 => ?_)))
    · refine t_not (t_val (e_all C (e_lcM [("sign", 1)] C (i_str (e_name 0 ?_)))))
      refine ⟨x, rfl, _, _, _, (x.cps.toList.map fun c => V.bl (decide (c ∈ known.cps.toList))), walk_str, by simp, hx, fun _ _ => trivial, fun i y H2 H' hi b2 hy => ?_, fun Da H' b2 hn hl => ⟨Da, x.cps.toList.map fun c => decide (c ∈ known.cps.toList), rfl, .inl (.inl (by rw [hl, List.map_map]; rfl)), _, rfl, ?_, b2⟩⟩
      · obtain ⟨rfl, c, hc, rfl⟩ := hy
        refine ⟨But.refl, mt_name (i := 1) C.nd fun s H0 Ca cl fp => e_cmp (e_name 1 (e_glob (c_inSign ⟨?_, But.refl⟩) hK rK))⟩
        simp [← Array.getElem?_toList] at hc
        simp [hc]
      · simp [Function.comp_def]
    · refine b_cons (s_ret (e_bool ?_))
      have := q H2 (b1.trans b2)
      have no : areSigns (.str x) = false := by simp only [areSigns, strSigns]; simp only [Bool.not_eq_true'] at e2; rw [e2]; simp
      rwa [no] at this
    · have hall : (x.cps.toList.all fun c => decide (c ∈ known.cps.toList)) = true := by simpa using e2
      have asc : ∀ z : Str, (∀ c ∈ z.cps.toList, c ∈ x.cps.toList) → z.cps.all (· < 128) = true := fun z hz => by
        rw [Array.all_eq_true']
        intro c hc
        have := List.all_eq_true.mp hall c (hz c (by simpa using hc))
        simpa using known_ascii c (by simpa using this)
      refine b_nil (b_cons (s_ret (e_all C (e_lcM [("one", 2), ("other", 3)] C (i_zipS B (e_name 0 ?_))))))
      refine e_slice sl_str (e_name 0 ?_)
      refine p_some (e_int ⟨1, rfl, p_none ⟨x, rfl, hx, ?_⟩⟩)
      have hcut : (cutS x (some 1) none).cps.toList = x.cps.toList.drop 1 := by
        show (((x.cps.toList.drop (HT.sIx x.length 0 (some ((1 : Nat) : Int)))).take (HT.sIx x.length x.length none - HT.sIx x.length 0 (some ((1 : Nat) : Int)))).toArray).toList = _
        have hl : x.cps.toList.length = x.length := by simp [hsz]
        rw [HT.sIx_nat, HT.sIx_none, List.toList_toArray]
        by_cases h0 : 1 ≤ x.length
        · rw [Nat.min_eq_left h0, List.take_of_length_le (by rw [List.length_drop]; omega)]
        · have h1 : x.length = 0 := by omega
          have h2 : x.cps.toList = [] := List.eq_nil_of_length_eq_zero (by omega)
          simp [h2]
      refine ⟨x, _, rfl, rfl, asc x (fun _ h => h), asc _ (fun c hc => by rw [hcut] at hc; exact List.mem_of_mem_drop hc), _, _, _, ((x.cps.toList.zip (x.cps.toList.drop 1)).map fun q => V.bl (decide (q.1 < q.2))), walk_zipS rfl, ?_, ?_, fun _ _ => trivial, fun i y H3 H' hi b3 hy => ?_, fun Da H' b3 hn hl => ?_⟩
      · rw [← Array.length_toList (xs := (cutS x (some 1) none).cps), hcut]
        simp
      · omega
      · obtain ⟨T, c, c', rfl, hT, rfl, hc, hc'⟩ := hy
        refine ⟨But.new hT, mt_pair (i := 2) (j := 3) rfl C.nd upd_same fun s H0 Ca cl fp => e_cmp (e_name 2 (e_name 3 (c_ltS ⟨?_, But.refl⟩)))⟩
        rw [← Array.getElem?_toList] at hc hc'
        rw [hcut] at hc'
        rw [List.getElem?_map, (List.getElem?_zip_eq_some (z := (c, c'))).mpr ⟨hc, hc'⟩, lt_one]
        rfl
      · refine ⟨Da, (x.cps.toList.zip (x.cps.toList.drop 1)).map fun q => decide (q.1 < q.2), rfl, .inl (.inl (by rw [hl, List.map_map]; rfl)), ?_⟩
        rw [zip_ascends]
        have := q H' (b1.trans (b2.trans b3))
        have e3 : areSigns (.str x) = ascends x.cps.toList := by
          simp only [areSigns, strSigns, hall]
          have : lenOk (.str x) = true := by simpa using e
          simp only [lenOk] at this
          rw [this]
          rfl
        rwa [e3] at this
/-! ### the refusals -/
/-- one datum is wanted: None, or the error of the class at C with it -/
def spWant (K : PySem.W.Frag) (f : PyData → Bool) (C : Addr) : Sp := fun vs H Q E => ∃ v l d, vs = [v] ∧ DD K l H v d ∧ fits d ∧ (f d = true → ∀ H', But [] H H' → Q .non H') ∧
  (f d = false → ∀ dd H', But [] H H' → H' dd = some (.xd [("value", v)]) → E (.ref C) (some dd) H')
theorem DD.fit {l : List Addr} {H : Hp} {v : V} {d : PyData} (h : DD K l H v d) (H' : Hp) (b : But [] H H') : DD K l H' v d := h.but (b.mono (by simp))
theorem sc11 : FnScope ["value"] ["value"] (defScope (top 15)) := ⟨rfl, rfl, rfl, by decide +kernel, rfl, by decide +kernel, by decide +kernel⟩
theorem d_wantSigns {CS : Addr} (B : Blt mg base) (D : At K mg "want_signs" (top 15)) (D1 : Def P w K mg base 1 "are_signs" (top 14) ["value"] (sp1 K areSigns)) (E1 : ErrOk P w K mg base "InvalidSigns" "value" CS) :
    Def P w K mg base 3 "want_signs" (top 15) ["value"] (spWant K areSigns CS) := by
  refine def_of D B sc11 (fun vs H Q E ⟨v, l, d, e, _⟩ => by rw [e]; rfl) fun f cdv A outer s H vs Q E hm C h => ?_
  obtain ⟨v, l, d, rfl, hd, hf, q1, q2⟩ := h
  refine b_cons (s_ifB (!areSigns d) ?_ (fun e H1 b1 => ?_) (fun e H1 b1 => ?_))
  · refine t_not (t_val (e_call (C.mono (by decide)) (D1.mono (Nat.le_refl _)) (a_cons (e_name 0 (a_nil ?_))) rfl (fun _ _ _ _ _ _ us hl => match us, hl with | [_], _ => rfl)))
    exact ⟨v, l, d, rfl, hd, hf, fun H' b => ⟨_, rfl, rfl, b⟩⟩
  · refine b_cons (s_raise1 C E1 (by decide) (e_name 0 fun dd H' b2 hn hx => ?_))
    exact q2 (by simpa using e) dd H' (b1.trans b2) hx
  · exact b_nil (b_nil (q1 (by simpa using e) H1 b1))
/-! ### lines -/
def isLine (g : Str) : PyData → Bool
  | .str x => x.cps.toList.all fun c => decide (c ∈ g.cps.toList)
  | _ => false
def spLine (K : PySem.W.Frag) : Sp := fun vs H Q _ => ∃ g v l d, vs = [.str g, v] ∧ DD K l H v d ∧ fits d ∧ ∀ H', But [] H H' → Q (.bl (isLine g d)) H'
theorem sc12 : FnScope ["signs", "value", "sign"] ["signs", "value"] (defScope (top 16)) := ⟨rfl, rfl, rfl, by decide +kernel, rfl, by decide +kernel, by decide +kernel⟩
theorem d_isLine (B : Blt mg base) (D : At K mg "is_line" (top 16)) : Def P w K mg base 1 "is_line" (top 16) ["signs", "value"] (spLine K) := by
  refine def_of D B sc12 (fun vs H Q E ⟨g, v, l, d, e, _⟩ => by rw [e]; rfl) fun f cdv A outer s H vs Q E hm C h => ?_
  obtain ⟨g, v, l, d, rfl, hd, hf, q⟩ := h
  refine b_cons (s_ret (e_and (e_isi B kit_str B.str PyProof.Rows.boot_str (e_name 1 ⟨l, d, hd, isStr d, rfl, ite_b (fun e => ?_) fun e => ?_⟩))))
  · obtain ⟨x, rfl⟩ : ∃ x, d = .str x := by cases d <;> simp [isStr] at e; exact ⟨_, rfl⟩
    cases hd
    refine e_one (e_all C (e_lcM [("sign", 2)] C (i_str (e_name 1 ?_))))
    refine ⟨x, rfl, _, _, _, (x.cps.toList.map fun c => V.bl (decide (c ∈ g.cps.toList))), walk_str, by simp, hf, fun _ _ => trivial, fun i y H2 H' hi b2 hy => ?_, fun Da H' b2 hn hl => ⟨Da, x.cps.toList.map fun c => decide (c ∈ g.cps.toList), rfl, .inl (.inl (by rw [hl, List.map_map]; rfl)), ?_⟩⟩
    · obtain ⟨rfl, c, hc, rfl⟩ := hy
      refine ⟨But.refl, mt_name (i := 2) C.nd fun s H0 Ca cl fp => e_cmp (e_name 2 (e_name 0 (c_inSign ⟨?_, But.refl⟩)))⟩
      simp [← Array.getElem?_toList] at hc
      simp [hc]
    · have := q H' b2
      simpa [isLine, Function.comp_def] using this
  · have := q H But.refl
    have no : isLine g d = false := by cases d <;> simp_all [isLine, isStr]
    rwa [no] at this
end
end K50

set_option Elab.async false
set_option linter.all false
set_option maxRecDepth 100000
set_option maxHeartbeats 4000000
namespace K50
open PySem PySem.Spec PyProof.Rows L2 Z
/-! ### the reader's parts -/
structure Consts2 (mg : Str → Option Value) : Prop where
  levels : ∃ u, mg "MOST_LEVELS" = some u ∧ RelV (.int 3) u
  mark : ∃ u, mg "MOST_MARK" = some u ∧ RelV (.int 12) u
  tail : ∃ u, mg "MOST_TAIL" = some u ∧ RelV (.int 3) u
def shortLine (m : Nat) (g : Str) : PyData → Bool
  | .str x => isLine g (.str x) && decide (1 ≤ x.length) && decide (x.length ≤ m)
  | _ => false
section
variable {P : Program} {w : World} {K : PySem.W.Frag} {mg : Str → Option Value} {base : Heap}
def spShort (K : PySem.W.Frag) (m : Nat) : Sp := fun vs H Q _ => ∃ g v l d, vs = [.str g, v] ∧ DD K l H v d ∧ fits d ∧ ∀ H', But [] H H' → Q (.bl (shortLine m g d)) H'
theorem scMl : FnScope ["signs", "value"] ["signs", "value"] (defScope (top 24)) := ⟨rfl, rfl, rfl, by decide +kernel, rfl, by decide +kernel, by decide +kernel⟩
theorem d_isMarkLine (B : Blt mg base) (D : At K mg "is_mark_line" (top 24)) (T : Consts2 mg) (D1 : Def P w K mg base 1 "is_line" (top 16) ["signs", "value"] (spLine K)) : Def P w K mg base 2 "is_mark_line" (top 24) ["signs", "value"] (spShort K 12) := by
  refine def_of D B scMl (fun vs H Q E ⟨g, v, l, d, e, _⟩ => by rw [e]; rfl) fun f cdv A outer s H vs Q E hm C h => ?_
  obtain ⟨g, v, l, d, rfl, hd, hf, q⟩ := h
  obtain ⟨u, hu, ru⟩ := T.mark
  refine b_cons (s_ret (e_and (e_call C D1 (a_cons (e_name 0 (a_cons (e_name 1 (a_nil ?_))))) rfl (fun _ _ _ _ _ _ us hl => match us, hl with | [_, _], _ => rfl))))
  refine ⟨g, v, l, d, rfl, hd, hf, fun H' b => ⟨_, rfl, ite_b (fun e => ?_) fun e => ?_⟩⟩
  · obtain ⟨x, rfl⟩ : ∃ x, d = .str x := by cases d <;> simp [isLine] at e; exact ⟨_, rfl⟩
    cases hd
    refine e_one (e_chain (e_int (e_len B (e_name 1 (v := .str x) ⟨x.length, ⟨hf, rfl⟩, c_le ⟨_, rfl, ite_b (fun e1 => e_glob (c_le ?_) hu ru) fun e1 => ?_⟩⟩))))
    · have := q H' b
      have e1 := of_decide_eq_true e1
      have e3 : shortLine 12 g (.str x) = decide ((x.length : Int) ≤ 12) := by
        simp only [shortLine, e, Bool.true_and]
        rw [show decide (1 ≤ x.length) = true from decide_eq_true (by omega), Bool.true_and, decide_eq_decide]
        omega
      rwa [e3] at this
    · have := q H' b
      have e1 := of_decide_eq_false e1
      have e3 : shortLine 12 g (.str x) = false := by
        simp only [shortLine, e, Bool.true_and]
        rw [show decide (1 ≤ x.length) = false from decide_eq_false (by omega), Bool.false_and]
      rwa [e3] at this
  · have := q H' b
    have e3 : shortLine 12 g d = false := by cases d <;> simp_all [shortLine]
    rwa [e3] at this
theorem scTl : FnScope ["signs", "value"] ["signs", "value"] (defScope (top 25)) := ⟨rfl, rfl, rfl, by decide +kernel, rfl, by decide +kernel, by decide +kernel⟩
theorem d_isTail (B : Blt mg base) (D : At K mg "is_tail" (top 25)) (T : Consts2 mg) (D1 : Def P w K mg base 1 "is_line" (top 16) ["signs", "value"] (spLine K)) : Def P w K mg base 2 "is_tail" (top 25) ["signs", "value"] (spShort K 3) := by
  refine def_of D B scTl (fun vs H Q E ⟨g, v, l, d, e, _⟩ => by rw [e]; rfl) fun f cdv A outer s H vs Q E hm C h => ?_
  obtain ⟨g, v, l, d, rfl, hd, hf, q⟩ := h
  obtain ⟨u, hu, ru⟩ := T.tail
  refine b_cons (s_ret (e_and (e_call C D1 (a_cons (e_name 0 (a_cons (e_name 1 (a_nil ?_))))) rfl (fun _ _ _ _ _ _ us hl => match us, hl with | [_, _], _ => rfl))))
  refine ⟨g, v, l, d, rfl, hd, hf, fun H' b => ⟨_, rfl, ite_b (fun e => ?_) fun e => ?_⟩⟩
  · obtain ⟨x, rfl⟩ : ∃ x, d = .str x := by cases d <;> simp [isLine] at e; exact ⟨_, rfl⟩
    cases hd
    refine e_one (e_chain (e_int (e_len B (e_name 1 (v := .str x) ⟨x.length, ⟨hf, rfl⟩, c_le ⟨_, rfl, ite_b (fun e1 => e_glob (c_le ?_) hu ru) fun e1 => ?_⟩⟩))))
    · have := q H' b
      have e1 := of_decide_eq_true e1
      have e3 : shortLine 3 g (.str x) = decide ((x.length : Int) ≤ 3) := by
        simp only [shortLine, e, Bool.true_and]
        rw [show decide (1 ≤ x.length) = true from decide_eq_true (by omega), Bool.true_and, decide_eq_decide]
        omega
      rwa [e3] at this
    · have := q H' b
      have e1 := of_decide_eq_false e1
      have e3 : shortLine 3 g (.str x) = false := by
        simp only [shortLine, e, Bool.true_and]
        rw [show decide (1 ≤ x.length) = false from decide_eq_false (by omega), Bool.false_and]
      rwa [e3] at this
  · have := q H' b
    have e3 : shortLine 3 g d = false := by cases d <;> simp_all [shortLine]
    rwa [e3] at this
/-- is it a list or a tuple -/
def isSeq (d : PyData) : Bool := Z.isList d || Z.isTuple d
theorem scIl : FnScope ["value"] ["value"] (defScope (top 13)) := ⟨rfl, rfl, rfl, by decide +kernel, rfl, by decide +kernel, by decide +kernel⟩
theorem d_isList (B : Blt mg base) (D : At K mg "is_list" (top 13)) : Def P w K mg base 1 "is_list" (top 13) ["value"] (sp1 K isSeq) := by
  refine def_of D B scIl sp1_len fun f cdv A outer s H vs Q E hm C h => ?_
  obtain ⟨v, l, d, rfl, hd, hf, q⟩ := h
  refine b_cons (s_ret (e_isi2 B kit_list kit_tuple B.list PyProof.Rows.boot_list B.tuple PyProof.Rows.boot_tuple (e_name 0 ⟨l, d, hd, fun H' b => ?_⟩)))
  exact q H' b
/-- want_signs, where they are signs -/
def spFine (K : PySem.W.Frag) (f : PyData → Bool) : Sp := fun vs H Q _ => ∃ v l d, vs = [v] ∧ DD K l H v d ∧ fits d ∧ f d = true ∧ ∀ H', But [] H H' → Q .non H'
theorem scWs : FnScope ["value"] ["value"] (defScope (top 15)) := ⟨rfl, rfl, rfl, by decide +kernel, rfl, by decide +kernel, by decide +kernel⟩
theorem d_fineSigns (B : Blt mg base) (D : At K mg "want_signs" (top 15)) (D1 : Def P w K mg base 1 "are_signs" (top 14) ["value"] (sp1 K areSigns)) :
    Def P w K mg base 2 "want_signs" (top 15) ["value"] (spFine K areSigns) := by
  refine def_of D B scWs (fun vs H Q E ⟨v, l, d, e, _⟩ => by rw [e]; rfl) fun f cdv A outer s H vs Q E hm C h => ?_
  obtain ⟨v, l, d, rfl, hd, hf, e1, q⟩ := h
  refine b_cons (s_ifB false ?_ (fun e => by cases e) (fun _ H1 b1 => b_nil (b_nil (q H1 b1))))
  refine t_not (t_val (e_call C D1 (a_cons (e_name 0 (a_nil ?_))) rfl (fun _ _ _ _ _ _ us hl => match us, hl with | [_], _ => rfl)))
  exact ⟨v, l, d, rfl, hd, hf, fun H' b => ⟨_, rfl, by rw [e1]; rfl, b⟩⟩
theorem flat_strs (ys : List Str) : (ys.map V.str).all flatV = true := List.all_eq_true.mpr fun x hx => by
  obtain ⟨y, _, rfl⟩ := List.mem_map.mp hx
  rfl
/-- want_marks, where they are marks, in a list -/
def marksOk (g : Str) (ms : List Str) : Prop := 1 ≤ ms.length ∧ ms.length ≤ 3 ∧ (∀ m ∈ ms, shortLine 12 g (.str m) = true) ∧ ms.Nodup
def spFineMarks (K : PySem.W.Frag) : Sp := fun vs H Q _ => ∃ g q ms, vs = [.str g, .ref q] ∧ SqL K H q (ms.map V.str) ∧ (∃ o, H q = some o) ∧ marksOk g ms ∧ ∀ H', But [] H H' → Q .non H'
theorem scWm : FnScope ["signs", "value", "position", "mark"] ["signs", "value"] (defScope (top 26)) := ⟨rfl, rfl, rfl, by decide +kernel, rfl, by decide +kernel, by decide +kernel⟩
theorem d_fineMarks (B : Blt mg base) (D : At K mg "want_marks" (top 26)) (T : Consts2 mg) (D0 : Def P w K mg base 1 "is_list" (top 13) ["value"] (sp1 K isSeq)) (D1 : Def P w K mg base 2 "is_mark_line" (top 24) ["signs", "value"] (spShort K 12)) :
    Def P w K mg base 3 "want_marks" (top 26) ["signs", "value"] (spFineMarks K) := by
  refine def_of D B scWm (fun vs H Q E ⟨_, _, _, e, _⟩ => by rw [e]; rfl) fun f cdv A outer s H vs Q E hm C h => ?_
  obtain ⟨g, q, ms, rfl, hq, ⟨o, ho⟩, ⟨n1, n3, hms, hnd⟩, hQ⟩ := h
  obtain ⟨u, hu, ru⟩ := T.levels
  refine b_cons (s_ifB false ?_ (fun e => by cases e) (fun _ H1 b1 => b_nil (b_cons (s_for C (i_enum B (e_name 1 ?_))))))
  · refine t_boolop (w_or (t_not (t_val (e_call (C.mono (by decide)) D0 (a_cons (e_name 1 (a_nil ?_))) rfl (fun _ _ _ _ _ _ us hl => match us, hl with | [_], _ => rfl)))))
    refine ⟨_, [], .list (ms.map PyData.str), rfl, .lst hq (by simp) (DDs.strs ms), trivial, fun H' b => ⟨true, rfl, ite_b (fun e => by cases e) fun _ => ?_⟩⟩
    refine w_or1 (t_not (t_chain (e_int (e_len B (e_name 1 (v := .ref q) ⟨ms.length, .inl ⟨_, b.sql (by simp) hq, by simp⟩, c_le ⟨_, rfl, ite_b (fun e => e_glob (c_le ⟨_, rfl, ?_, b⟩) hu ru) fun e => ?_⟩⟩)))))
    · rw [decide_eq_true (by omega)]
      rfl
    · have := of_decide_eq_false e
      omega
  · have hq1 : ∀ {H2}, But [] H H2 → SqL K H2 q (ms.map V.str) := fun b => b.sql (by simp) hq
    refine ⟨q, _, rfl, hq1 b1, ms.length, _, _, (by have := walk_enum (K := K) (a := q) (xs := ms.map V.str); rwa [List.length_map] at this), fun i σ H' => (∃ v1 v2, σ = [some (.str g), some (.ref q), v1, v2]) ∧ But [] H H', ⟨⟨none, none, rfl⟩, b1⟩, fun i σ H' _ h => hq1 h.2, ?_, ?_⟩
    · rintro i x σ H2 H3 hi ⟨⟨v1, v2, rfl⟩, b2⟩ ⟨t, x1, y1, rfl, ht, rfl, e1, e2⟩
      cases e1
      replace e2 : (ms.map V.str)[i]? = some y1 := e2
      rw [List.getElem?_map, Option.map_eq_some_iff] at e2
      obtain ⟨m, hmi, rfl⟩ := e2
      have hmem := List.mem_of_getElem? hmi
      have hm12 := hms m hmem
      have hlen : m.length ≤ 12 := by simp only [shortLine, Bool.and_eq_true, decide_eq_true_eq] at hm12; exact hm12.2
      refine g_tup (gs_cons (g_name (i := 2) (gs_cons (g_name (i := 3) (gs_nil ?_) C.nd)) C.nd)) rfl (.inl (.inl upd_same))
      have b3 : But [] H (upd H2 t (.tup [.int (i : Nat), .str m])) := b2.trans (But.new ht)
      refine b_cons (s_ifB false ?_ (fun e => by cases e) (fun _ H4 b4 => b_nil (b_nil ⟨⟨_, _, rfl⟩, b3.trans b4⟩)))
      refine t_boolop (w_or (t_not (t_val (e_call (C.mono (by decide)) D1 (a_cons (e_name 0 (a_cons (e_name 3 (a_nil ?_))))) rfl (fun _ _ _ _ _ _ us hl => match us, hl with | [_, _], _ => rfl)))))
      refine ⟨g, _, [], .str m, rfl, .str m, by show m.length ≤ _; rw [sizeLine_eq]; omega, fun H4 b4 => ⟨_, rfl, ite_b (fun e => by rw [hm12] at e; cases e) fun _ => ?_⟩⟩
      refine w_or1 (t_cmp (e_name 3 (v := .str m) (e_slice sl_list (e_name 1 (v := .ref q) (p_none (p_some (e_name 2 (v := .int (i : Nat)) ⟨_, rfl, q, _, rfl, hq1 (b3.trans b4), fun r hr => ?_⟩)))))))
      have hcut : cutV (ms.map V.str) none (some ((i : Nat) : Int)) = (ms.take i).map V.str := by
        unfold cutV
        rw [HT.sIx_nat, HT.sIx_none, List.length_map, List.drop_zero, Nat.sub_zero, List.map_take, Nat.min_eq_left (by omega)]
      rw [hcut]
      refine c_inL (.inl (.inl (.inl upd_same))) rfl (flat_strs _) ⟨_, rfl, ?_, b4.trans (But.new hr)⟩
      rw [Bool.eq_false_iff]
      intro e
      simp only [inV, List.any_map, List.any_eq_true, Function.comp, eqV, beq_iff_eq] at e
      obtain ⟨y, hy, rfl⟩ := e
      obtain ⟨j, hj, ej⟩ := List.getElem_of_mem hy
      rw [List.getElem_take] at ej
      rw [List.length_take] at hj
      have hi' : i < ms.length := hi
      have e3 : ms[i]? = some ms[i] := List.getElem?_eq_getElem hi'
      rw [hmi] at e3
      have e4 : ms[j] = ms[i] := ej.trans (Option.some.inj e3)
      exact List.pairwise_iff_getElem.mp hnd j i (by omega) hi' (by omega) e4
    · rintro σ H2 ⟨_, b2⟩
      exact b_nil (hQ H2 b2)
end
end K50

set_option Elab.async false
set_option linter.all false
set_option maxRecDepth 100000
set_option maxHeartbeats 4000000
namespace K50
open PySem PySem.Spec PyProof.Rows L2 Z
/-! ### cares -/
def wordsOf (nm : Str) : List Str := if nm = "order" then ["inner", "outer"] else ["refuse", "close"]
def wordOk (g nm x : Str) : Prop := if nm = "sight" then x = "whole" ∨ x = "start" ∨ ∃ c ∈ g.cps.toList, x = ⟨#[c]⟩ else x ∈ wordsOf nm
structure Words (K : PySem.W.Frag) (w : World) (mg : Str → Option Value) : Prop where
  ex : ∃ d, mg "WORDS" = some (.ref d) ∧ ∀ nm : Str, nm = "order" ∨ nm = "further" ∨ nm = "finish" → ∃ t, KDct K w d nm (.ref t) ∧ ∀ H, SqT K H t ((wordsOf nm).map V.str)
section
variable {P : Program} {w : World} {K : PySem.W.Frag} {mg : Str → Option Value} {base : Heap}
def isName (nm : Str) : Prop := nm = "sight" ∨ nm = "order" ∨ nm = "further" ∨ nm = "finish"
def spWord : Sp := fun vs H Q _ => ∃ g nm x, vs = [.str g, .str nm, .str x] ∧ isName nm ∧ wordOk g nm x ∧ ∀ H', But [] H H' → Q (.bl true) H'
theorem scWd : FnScope ["signs", "name", "value"] ["signs", "name", "value"] (defScope (top 27)) := ⟨rfl, rfl, rfl, by decide +kernel, rfl, by decide +kernel, by decide +kernel⟩
theorem d_isWord (B : Blt mg base) (D : At K mg "is_word" (top 27)) (T : Words K w mg) : Def P w K mg base 1 "is_word" (top 27) ["signs", "name", "value"] spWord := by
  refine def_of D B scWd (fun vs H Q E ⟨_, _, _, e, _⟩ => by rw [e]; rfl) fun f cdv A outer s H vs Q E hm C h => ?_
  obtain ⟨g, nm, x, rfl, hn, hw, q⟩ := h
  obtain ⟨d, hd, hT⟩ := T.ex
  refine b_cons (s_ifB false ?_ (fun e => by cases e) (fun _ H1 b1 => b_nil ?_))
  · exact t_not (t_val (e_isi B kit_str B.str PyProof.Rows.boot_str (e_name 2 (v := .str x) ⟨[], .str x, .str x, true, rfl, rfl, But.refl⟩)))
  refine b_cons (s_ifB (decide (nm = "sight")) ?_ (fun e H2 b2 => ?_) (fun e H2 b2 => ?_))
  · refine t_cmp (e_name 1 (v := .str nm) (e_str (c_eq rfl ⟨_, rfl, ?_, But.refl⟩)))
    rw [decide_eq_decide, V.str.injEq]
  · have e := of_decide_eq_true e
    subst e
    rw [wordOk, if_pos rfl] at hw
    have two : 2 ≤ sizeLine := by rw [sizeLine_eq]; exact (by decide : 2 ≤ 16777216)
    refine b_cons (s_ret (e_or (e_cmp (e_name 2 (v := .str x) (e_tup (a_cons (e_str (a_cons (e_str (a_nil ⟨two, fun t ht => ?_⟩))))))))))
    refine c_inL (.inr (.inl (.inl upd_same))) rfl rfl ⟨_, rfl, ite_b (fun e => q _ (b1.trans (b2.trans (But.new ht)))) fun e => ?_⟩
    have hin : ∃ c ∈ g.cps.toList, x = ⟨#[c]⟩ := by
      rcases hw with h | h | h
      · subst h; cases e
      · subst h; cases e
      · exact h
    obtain ⟨c, hc, rfl⟩ := hin
    refine e_one (e_and (e_cmp (e_len B (e_name 2 (v := .str ⟨#[c]⟩) ⟨1, ⟨by rw [sizeLine_eq]; exact (by decide : 1 ≤ 16777216), rfl⟩, e_int (c_eq rfl ⟨true, rfl, ite_b (fun _ => ?_) fun e => by cases e⟩)⟩))))
    refine e_one (e_cmp (e_name 2 (v := .str ⟨#[c]⟩) (e_name 0 (v := .str g) (c_inSign ?_))))
    rw [decide_eq_true hc]
    exact q _ (b1.trans (b2.trans (But.new ht)))
  · have e := of_decide_eq_false e
    have hn' : nm = "order" ∨ nm = "further" ∨ nm = "finish" := hn.resolve_left e
    rw [wordOk, if_neg e] at hw
    obtain ⟨t, kd, st⟩ := hT nm hn'
    refine b_nil (b_cons (s_ret (e_cmp (e_name 2 (v := .str x) (e_ix (e_glob (e_name 1 (v := .str nm) (iW_of ix_kdict ⟨d, nm, .ref t, rfl, rfl, kd, ?_⟩)) hd rfl))))))
    refine c_inL (.inr (st H2)) rfl (flat_strs _) ?_
    have : inV (.str x) ((wordsOf nm).map V.str) = true := by
      simp only [inV, List.any_map, List.any_eq_true, Function.comp, eqV, beq_iff_eq]
      exact ⟨x, hw, rfl⟩
    rw [this]
    exact q _ (b1.trans b2)
def spCares : Sp := fun vs H Q _ => ∃ (g : Str) (d : Addr) (kvs : List (Str × Str)), vs = [.str g, .ref d] ∧ H d = some (.dK (kvs.map fun q : Str × Str => (.inr q.1, .str q.2))) ∧ (∀ q ∈ kvs, isName q.1 ∧ wordOk g q.1 q.2) ∧ ∀ H', But [] H H' → Q .non H'
theorem scWc : FnScope ["signs", "cares", "name", "value"] ["signs", "cares"] (defScope (top 28)) := ⟨rfl, rfl, rfl, by decide +kernel, rfl, by decide +kernel, by decide +kernel⟩
theorem d_wantCares (B : Blt mg base) (D : At K mg "want_cares" (top 28)) (D1 : Def P w K mg base 1 "is_word" (top 27) ["signs", "name", "value"] spWord) : Def P w K mg base 2 "want_cares" (top 28) ["signs", "cares"] spCares := by
  refine def_of D B scWc (fun vs H Q E ⟨_, _, _, e, _⟩ => by rw [e]; rfl) fun f cdv A outer s H vs Q E hm C h => ?_
  obtain ⟨g, d, kvs, rfl, hd, hk, q⟩ := h
  refine b_cons (s_lock hd trivial fun od => s_for C (i_items (e_name 1 (v := .ref d) ⟨d, od, _, rfl, upd_same, ?_⟩)))
  refine ⟨_, _, _, walk_items, fun i σ H' => (∃ v1 v2, σ = [some (.str g), some (.ref d), v1, v2]) ∧ But [] (upd H d (.frz od (.dK (kvs.map fun q : Str × Str => (.inr q.1, .str q.2))))) H', ⟨⟨none, none, rfl⟩, But.refl⟩, fun i σ H' _ h => h.2 _ _ (by simp) upd_same, ?_, ?_⟩
  · rintro i x σ H2 H3 hi ⟨⟨v1, v2, rfl⟩, b2⟩ ⟨t, x1, y1, rfl, ht, rfl, e1, e2⟩
    replace e1 : ((kvs.map fun q : Str × Str => ((.inr q.1 : Key), V.str q.2))[i]?).map (fun kv => kV kv.1) = some x1 := e1
    replace e2 : ((kvs.map fun q : Str × Str => ((.inr q.1 : Key), V.str q.2))[i]?).map Prod.snd = some y1 := e2
    have hi' : i < kvs.length := by simpa using hi
    rw [List.getElem?_map, List.getElem?_eq_getElem hi'] at e1 e2
    cases e1
    cases e2
    obtain ⟨hn, hw⟩ := hk kvs[i] (List.getElem_mem hi')
    refine g_tup (gs_cons (g_name (i := 2) (gs_cons (g_name (i := 3) (gs_nil ?_) C.nd)) C.nd)) rfl (.inl (.inl upd_same))
    refine b_cons (s_ifB false ?_ (fun e => by cases e) (fun _ H4 b4 => b_nil (b_nil ⟨⟨_, _, rfl⟩, b2.trans ((But.new ht).trans b4)⟩)))
    refine t_not (t_val (e_call C D1 (a_cons (e_name 0 (a_cons (e_name 2 (a_cons (e_name 3 (a_nil ?_))))))) rfl (fun _ _ _ _ _ _ us hl => match us, hl with | [_, _, _], _ => rfl)))
    exact ⟨g, _, _, rfl, hn, hw, fun H' b => ⟨true, rfl, rfl, b⟩⟩
  · rintro σ H2 ⟨_, b2⟩
    exact ⟨b2 _ _ (by simp) upd_same, b_nil (q _ (but_unlock hd b2))⟩
end
end K50

set_option Elab.async false
set_option linter.all false
set_option maxRecDepth 100000
set_option maxHeartbeats 4000000
namespace K50
open PySem PySem.Spec PyProof.Rows L2 Z
/-! ### the refusals -/
section
variable {P : Program} {w : World} {K : PySem.W.Frag} {mg : Str → Option Value} {base : Heap}
/-! ### a word of a care -/
def wordB (g nm : Str) : PyData → Bool
  | .str x => if nm = "sight" then decide (x = "whole") || decide (x = "start") || (decide (x.length = 1) && x.cps.toList.all fun c => decide (c ∈ g.cps.toList)) else decide (x ∈ wordsOf nm)
  | _ => false
def spWordB (K : PySem.W.Frag) : Sp := fun vs H Q _ => ∃ g nm v l d, vs = [.str g, .str nm, v] ∧ DD K l H v d ∧ fits d ∧ isName nm ∧ ∀ H', But [] H H' → Q (.bl (wordB g nm d)) H'
theorem scWdB : FnScope ["signs", "name", "value"] ["signs", "name", "value"] (defScope (top 27)) := ⟨rfl, rfl, rfl, by decide +kernel, rfl, by decide +kernel, by decide +kernel⟩
theorem one_sign {x : Str} (h : x.length = 1) : ∃ c, x = ⟨#[c]⟩ := by
  obtain ⟨⟨l⟩⟩ := x
  match l, h with
  | [c], _ => exact ⟨c, rfl⟩
theorem d_isWordB (B : Blt mg base) (D : At K mg "is_word" (top 27)) (T : Words K w mg) : Def P w K mg base 1 "is_word" (top 27) ["signs", "name", "value"] (spWordB K) := by
  refine def_of D B scWdB (fun vs H Q E ⟨_, _, _, _, _, e, _⟩ => by rw [e]; rfl) fun f cdv A outer s H vs Q E hm C h => ?_
  obtain ⟨g, nm, v, l, d, rfl, hdd, hfit, hn, q⟩ := h
  obtain ⟨d0, hd, hT⟩ := T.ex
  refine b_cons (s_ifB (!isStr d) ?_ (fun e H1 b1 => ?_) (fun e H1 b1 => b_nil ?_))
  · exact t_not (t_val (e_isi B kit_str B.str PyProof.Rows.boot_str (e_name 2 (v := v) ⟨l, d, hdd, isStr d, rfl, rfl, But.refl⟩)))
  · refine b_cons (s_ret (e_bool ?_))
    have : wordB g nm d = false := by cases d <;> first | rfl | simp [isStr] at e
    have := q H1 b1
    rwa [‹wordB g nm d = false›] at this
  obtain ⟨x, rfl⟩ : ∃ x, d = .str x := by cases d <;> first | exact ⟨_, rfl⟩ | simp [isStr] at e
  cases hdd
  have hx : x.length ≤ sizeLine := hfit
  refine b_cons (s_ifB (decide (nm = "sight")) ?_ (fun e H2 b2 => ?_) (fun e H2 b2 => ?_))
  · refine t_cmp (e_name 1 (v := .str nm) (e_str (c_eq rfl ⟨_, rfl, ?_, But.refl⟩)))
    rw [decide_eq_decide, V.str.injEq]
  · have e := of_decide_eq_true e
    subst e
    have two : 2 ≤ sizeLine := by rw [sizeLine_eq]; exact (by decide : 2 ≤ 16777216)
    have hw : wordB g "sight" (.str x) = (decide (x = "whole") || decide (x = "start") || (decide (x.length = 1) && x.cps.toList.all fun c => decide (c ∈ g.cps.toList))) := by
      rw [wordB, if_pos rfl]
    rw [hw] at q
    refine b_cons (s_ret (e_or (e_cmp (e_name 2 (v := .str x) (e_tup (a_cons (e_str (a_cons (e_str (a_nil ⟨two, fun t ht => ?_⟩))))))))))
    have bt : But [] H (upd H2 t (.tup [.str "whole", .str "start"])) := b1.trans (b2.trans (But.new ht))
    have hin : inV (.str x) [.str "whole", .str "start"] = (decide (x = "whole") || decide (x = "start")) := by
      rw [Bool.eq_iff_iff]
      simp [inV, eqV]
      constructor
      · rintro (h | h) <;> simp [← h]
      · rintro (h | h) <;> simp [h]
    refine c_inL (.inr (.inl (.inl upd_same))) rfl rfl ⟨_, rfl, ite_b (fun e => ?_) fun e => ?_⟩
    · rw [hin] at e
      rw [e, Bool.true_or] at q
      exact q _ bt
    · rw [hin] at e
      rw [e, Bool.false_or] at q
      refine e_one (e_and (e_cmp (e_len B (e_name 2 (v := .str x) ⟨x.length, ⟨hx, rfl⟩, e_int (c_eq rfl ⟨decide (x.length = 1), ?_, ite_b (fun e1 => ?_) fun e1 => ?_⟩)⟩))))
      · rw [V.bl.injEq, decide_eq_decide, V.int.injEq]
        omega
      · obtain ⟨c, rfl⟩ := one_sign (of_decide_eq_true e1)
        refine e_one (e_cmp (e_name 2 (v := .str ⟨#[c]⟩) (e_name 0 (v := .str g) (c_inSign ?_))))
        have := q _ bt
        simpa [e1] using this
      · rw [e1, Bool.false_and] at q
        exact q _ bt
  · have e := of_decide_eq_false e
    have hn' : nm = "order" ∨ nm = "further" ∨ nm = "finish" := hn.resolve_left e
    obtain ⟨t, kd, st⟩ := hT nm hn'
    have hw : wordB g nm (.str x) = decide (x ∈ wordsOf nm) := by rw [wordB, if_neg e]
    rw [hw] at q
    refine b_nil (b_cons (s_ret (e_cmp (e_name 2 (v := .str x) (e_ix (e_glob (e_name 1 (v := .str nm) (iW_of ix_kdict ⟨d0, nm, .ref t, rfl, rfl, kd, ?_⟩)) hd rfl))))))
    refine c_inL (.inr (st H2)) rfl (flat_strs _) ?_
    have : inV (.str x) ((wordsOf nm).map V.str) = decide (x ∈ wordsOf nm) := by
      rw [Bool.eq_iff_iff]
      simp only [inV, List.any_map, List.any_eq_true, Function.comp, eqV, beq_iff_eq, decide_eq_true_eq]
      constructor
      · rintro ⟨y, hy, hyx⟩
        cases hyx
        exact hy
      · exact fun hy => ⟨x, hy, rfl⟩
    rw [this]
    exact q _ (b1.trans b2)
end
end K50

set_option Elab.async false
set_option linter.all false
set_option maxRecDepth 100000
set_option maxHeartbeats 4000000
namespace K50
open PySem PySem.Spec PyProof.Rows L2 Z
/-! ### the cares wanted -/
abbrev Care := Str × V × PyData
def badCare (g : Str) (kvs : List Care) : Option Care := kvs.find? fun q => !wordB g q.1 q.2.2
section
variable {P : Program} {w : World} {K : PySem.W.Frag} {mg : Str → Option Value} {base : Heap}
def spCaresB (K : PySem.W.Frag) (CC : Addr) : Sp := fun vs H Q E => ∃ (g : Str) (d : Addr) (kvs : List Care), vs = [.str g, .ref d] ∧ H d = some (.dK (kvs.map fun q : Care => (.inr q.1, q.2.1))) ∧ (∀ q ∈ kvs, isName q.1 ∧ fits q.2.2 ∧ ∃ l, d ∉ l ∧ DD K (d :: l) H q.2.1 q.2.2) ∧
  (badCare g kvs = none → ∀ H', But [] H H' → Q .non H') ∧ (∀ q, badCare g kvs = some q → ∀ dd H', But [d] H H' → H' dd = some (.xd [("value", q.2.1), ("name", .str q.1)]) → E (.ref CC) (some dd) H')
theorem scWcB : FnScope ["signs", "cares", "name", "value"] ["signs", "cares"] (defScope (top 28)) := ⟨rfl, rfl, rfl, by decide +kernel, rfl, by decide +kernel, by decide +kernel⟩
theorem find_first {α : Type} {p : α → Bool} : ∀ {l : List α} {i : Nat} {x : α}, (∀ y ∈ l.take i, p y = false) → l[i]? = some x → p x = true → l.find? p = some x
  | [], i, x, _, h, _ => by simp at h
  | a :: l, 0, x, _, h, hp => by
    simp at h
    subst h
    simp [hp]
  | a :: l, i + 1, x, h0, h, hp => by
    have ha : p a = false := h0 a (by simp)
    rw [List.find?_cons, ha]
    exact find_first (i := i) (fun y hy => h0 y (by simp [hy])) (by simpa using h) hp
theorem d_wantCaresB {CC : Addr} (B : Blt mg base) (D : At K mg "want_cares" (top 28)) (D1 : Def P w K mg base 1 "is_word" (top 27) ["signs", "name", "value"] (spWordB K)) (E2 : ErrOk2 P w K mg base "InvalidCare" "name" "value" CC) :
    Def P w K mg base 3 "want_cares" (top 28) ["signs", "cares"] (spCaresB K CC) := by
  refine def_of D B scWcB (fun vs H Q E ⟨_, _, _, e, _⟩ => by rw [e]; rfl) fun f cdv A outer s H vs Q E hm C h => ?_
  obtain ⟨g, d, kvs, rfl, hd, hk, q, qE⟩ := h
  refine b_cons (s_lock hd trivial fun od => s_for C (i_items (e_name 1 (v := .ref d) ⟨d, od, _, rfl, upd_same, ?_⟩)))
  have bL : But [d] H (upd H d (.frz od (.dK (kvs.map fun q : Care => ((.inr q.1 : Key), q.2.1))))) := But.at (by simp)
  refine ⟨_, _, _, walk_items, fun i σ H' => (∃ v1 v2, σ = [some (.str g), some (.ref d), v1, v2]) ∧ But [] (upd H d (.frz od (.dK (kvs.map fun q : Care => (.inr q.1, q.2.1))))) H' ∧ ∀ y ∈ kvs.take i, (!wordB g y.1 y.2.2) = false, ⟨⟨none, none, rfl⟩, But.refl, by simp⟩, fun i σ H' _ h => h.2.1 _ _ (by simp) upd_same, ?_, ?_⟩
  · rintro i x σ H2 H3 hi ⟨⟨v1, v2, rfl⟩, b2, hbef⟩ ⟨t, x1, y1, rfl, ht, rfl, e1, e2⟩
    replace e1 : ((kvs.map fun q : Care => ((.inr q.1 : Key), q.2.1))[i]?).map (fun kv => kV kv.1) = some x1 := e1
    replace e2 : ((kvs.map fun q : Care => ((.inr q.1 : Key), q.2.1))[i]?).map Prod.snd = some y1 := e2
    have hi' : i < kvs.length := by simpa using hi
    rw [List.getElem?_map, List.getElem?_eq_getElem hi'] at e1 e2
    cases e1
    cases e2
    obtain ⟨hn, hft, l, hdl, hdd⟩ := hk kvs[i] (List.getElem_mem hi')
    have bt := But.new (l := []) (o := .tup [.str kvs[i].1, kvs[i].2.1]) ht
    have b3 : But [d] H (upd H2 t (.tup [.str kvs[i].1, kvs[i].2.1])) := bL.trans (b2.trans bt).of
    refine g_tup (gs_cons (g_name (i := 2) (gs_cons (g_name (i := 3) (gs_nil ?_) C.nd)) C.nd)) rfl (.inl (.inl upd_same))
    refine b_cons (s_ifB (!wordB g kvs[i].1 kvs[i].2.2) ?_ (fun e H4 b4 => ?_) (fun e H4 b4 => b_nil (b_nil ⟨⟨_, _, rfl⟩, b2.trans (bt.trans b4), ?_⟩)))
    · refine t_not (t_val (e_call (C.mono (by decide)) D1 (a_cons (e_name 0 (a_cons (e_name 2 (a_cons (e_name 3 (a_nil ?_))))))) rfl (fun _ _ _ _ _ _ us hl => match us, hl with | [_, _, _], _ => rfl)))
      exact ⟨g, _, _, _, _, rfl, hdd.but (b3.mono (by simp)), hft, hn, fun H' b => ⟨_, rfl, rfl, b⟩⟩
    · refine b_cons (s_raise2 C E2 (by decide) (e_name 2 (e_name 3 fun dd H' b hnn hx => ?_)))
      exact qE kvs[i] (find_first hbef (List.getElem?_eq_getElem hi') e) dd H' (b3.trans (b4.trans b).of) hx
    · intro y hy
      rw [List.take_add_one, List.getElem?_eq_getElem hi'] at hy
      rcases List.mem_append.mp hy with h | h
      · exact hbef y h
      · have : y = kvs[i] := by simpa using h
        rw [this]
        exact e
  · rintro σ H2 ⟨_, b2, hbef⟩
    refine ⟨b2 _ _ (by simp) upd_same, b_nil (q ?_ _ (but_unlock hd b2))⟩
    rw [List.length_map, List.take_length] at hbef
    unfold badCare
    rw [List.find?_eq_none]
    exact fun y hy => by rw [hbef y hy]; simp
end
end K50

set_option Elab.async false
set_option linter.all false
set_option maxRecDepth 100000
set_option maxHeartbeats 800000
namespace K50
open PySem PySem.Spec PyProof.Rows L2 Z
/-! ### the marks wanted -/
def sameS : PyData → PyData → Bool
  | .str a, .str b => decide (a = b)
  | _, _ => false
def fineAt (g : Str) (pre : List PyData) (d : PyData) : Bool := shortLine 12 g d && !(pre.any (sameS d))
/-- the first that is no mark, or stands ahead -/
def firstBad (g : Str) : List PyData → List PyData → Option Nat
  | _, [] => none
  | pre, d :: r => if fineAt g pre d = true then firstBad g (pre ++ [d]) r else some pre.length
/-- why they are no marks: None as a whole, or the first one that is wrong -/
def badMarks (g : Str) (d : PyData) : Option PyData :=
  if seqB d = true ∧ 1 ≤ (items d).length ∧ (items d).length ≤ 3 then (firstBad g [] (items d)).map fun n => .int (n : Nat) else some .none
def lenD : PyData → Nat
  | .list ds => ds.length
  | .tuple ds => ds.length
  | _ => 0
theorem dds_take {K : PySem.W.Frag} {l : List Addr} {H : Hp} : ∀ (i : Nat) {xs : List V} {ds : List PyData}, DDs K l H xs ds → DDs K l H (xs.take i) (ds.take i)
  | 0, _, _, _ => .nil
  | _ + 1, _, _, .nil => .nil
  | i + 1, _, _, .cons h r => .cons h (dds_take i r)
theorem short_str {m : Nat} {g : Str} {d : PyData} (h : shortLine m g d = true) : ∃ x, d = .str x ∧ x.length ≤ m := by
  cases d <;> simp [shortLine] at h
  exact ⟨_, rfl, h.2⟩
section
variable {P : Program} {w : World} {K : PySem.W.Frag} {mg : Str → Option Value} {base : Heap}
def spMarksB (K : PySem.W.Frag) (CM : Addr) : Sp := fun vs H Q E => ∃ (g : Str) (v : V) (l : List Addr) (d : PyData), vs = [.str g, v] ∧ DD K l H v d ∧ fits d ∧ (∀ x ∈ items d, fits x) ∧ (seqB d = true → (items d).length ≤ 1000) ∧
  (badMarks g d = none → ∀ H', But [] H H' → Q .non H') ∧ (∀ f, badMarks g d = some f → ∀ dd u H', But [] H H' → H' dd = some (.xd [("position", u)]) → DD K [] H' u f → E (.ref CM) (some dd) H')
theorem scWmB : FnScope ["signs", "value", "position", "mark"] ["signs", "value"] (defScope (top 26)) := ⟨rfl, rfl, rfl, by decide +kernel, rfl, by decide +kernel, by decide +kernel⟩
theorem firstBad_step {g : Str} : ∀ {ds pre : List PyData} {i : Nat}, (∀ j d, j < i → ds[j]? = some d → firstBad g (pre ++ ds.take j) (ds.drop j) = firstBad g (pre ++ ds.take (j + 1)) (ds.drop (j + 1))) → i ≤ ds.length → firstBad g pre ds = firstBad g (pre ++ ds.take i) (ds.drop i)
  | ds, pre, 0, _, _ => by simp
  | ds, pre, i + 1, h, hi => by
    rw [firstBad_step (i := i) (fun j d hj => h j d (by omega)) (by omega)]
    exact h i ds[i] (by omega) (List.getElem?_eq_getElem (by omega))
theorem d_wantMarksB {CM : Addr} (B : Blt mg base) (D : At K mg "want_marks" (top 26)) (T : Consts2 mg) (D0 : Def P w K mg base 1 "is_list" (top 13) ["value"] (sp1 K isSeq)) (D1 : Def P w K mg base 2 "is_mark_line" (top 24) ["signs", "value"] (spShort K 12)) (E1 : ErrOk P w K mg base "InvalidMarks" "position" CM) :
    Def P w K mg base 3 "want_marks" (top 26) ["signs", "value"] (spMarksB K CM) := by
  refine def_of D B scWmB (fun vs H Q E ⟨_, _, _, _, e, _⟩ => by rw [e]; rfl) fun f cdv A outer s H vs Q E hm C h => ?_
  obtain ⟨g, v, l, d, rfl, hd, hfit, hfits, hlen, hQ, hE⟩ := h
  obtain ⟨u, hu, ru⟩ := T.levels
  have sq : isSeq d = seqB d := rfl
  refine b_cons (s_ifB (!(seqB d && decide (1 ≤ (items d).length) && decide ((items d).length ≤ 3))) ?_ (fun e H1 b1 => ?_) (fun e H1 b1 => b_nil ?_))
  · refine t_boolop (w_or (t_not (t_val (e_call (C.mono (by decide)) D0 (a_cons (e_name 1 (v := v) (a_nil ?_))) rfl (fun _ _ _ _ _ _ us hl => match us, hl with | [_], _ => rfl)))))
    refine ⟨v, l, d, rfl, hd, hfit, fun H' b => ⟨_, rfl, ite_b (fun e => ?_) fun e => ?_⟩⟩
    · rw [sq] at e
      have e : seqB d = false := by simpa using e
      exact ⟨by rw [e]; rfl, b⟩
    · rw [sq] at e
      have e : seqB d = true := by simpa using e
      have hlv : LenV K v H' (items d).length := by
        cases hd with
        | @lst a xs ds h1 n h2 => exact .inl ⟨xs, (b.mono (by simp)).sql n h1, h2.length.symm⟩
        | @tup a xs ds h1 n h2 => exact .inr ⟨xs, (b.mono (by simp)).sqt n h1, h2.length.symm⟩
        | _ => simp [seqB, Z.isList, Z.isTuple] at e
      refine w_or1 (t_not (t_chain (e_int (e_len B (e_name 1 (v := v) ⟨(items d).length, hlv, c_le ⟨_, rfl, ite_b (fun e2 => e_glob (c_le ⟨_, rfl, ?_, b⟩) hu ru) fun e2 => ⟨_, rfl, ?_, b⟩⟩⟩)))))
      · have e2 := of_decide_eq_true e2
        rw [e, decide_eq_true (show 1 ≤ (items d).length by omega), Bool.true_and, Bool.true_and]
        congr 1
        rw [decide_eq_decide]
        omega
      · have e2 := of_decide_eq_false e2
        rw [e, decide_eq_false (show ¬ 1 ≤ (items d).length by omega)]
        rfl
  · have hbad : badMarks g d = some .none := by
      unfold badMarks
      rw [if_neg]
      intro z
      rw [z.1, decide_eq_true z.2.1, decide_eq_true z.2.2] at e
      cases e
    exact b_cons (s_raise1 C E1 (by decide) (e_none fun dd H' b2 hn hx => hE _ hbad dd .non H' (b1.trans b2) hx .non))
  have e1 : seqB d = true ∧ 1 ≤ (items d).length ∧ (items d).length ≤ 3 := by
    simp only [Bool.not_eq_false', Bool.and_eq_true, decide_eq_true_eq] at e
    exact ⟨e.1.1, e.1.2, e.2⟩
  have hbm : badMarks g d = (firstBad g [] (items d)).map fun n => .int (n : Nat) := by
    unfold badMarks
    rw [if_pos e1]
  have hd1 : DD K l H1 v d := hd.but (b1.mono (by simp))
  refine b_cons (s_for C (i_enumDD B hd1 e1.1 (fun Q h => e_name 1 (v := v) h) fun J Gw vs W hG hvs => ?_))
  have hvl := hvs.length
  refine ⟨_, _, _, W, fun i σ H' => (∃ v2 v3, σ = [some (.str g), some v, v2, v3]) ∧ But [] H1 H' ∧ ∃ ys : List Str, (items d).take i = ys.map .str ∧ vs.take i = ys.map V.str ∧ firstBad g [] (items d) = firstBad g ((items d).take i) ((items d).drop i), ⟨⟨none, none, rfl⟩, But.refl, [], rfl, rfl, rfl⟩, fun i σ H' _ h => hG H' (h.2.1.mono (by simp)), ?_, ?_⟩
  · rintro i x σ H2 H3 hi ⟨⟨v2, v3, rfl⟩, b2, ys, hys, hvy, hfb⟩ ⟨t, x1, y1, rfl, ht, rfl, e2, e3⟩
    cases e2
    replace e3 : vs[i]? = some y1 := e3
    obtain ⟨dx, hdx, hD⟩ := hvs.get e3
    have hlt : i < (items d).length := by omega
    have hdrop : (items d).drop i = dx :: (items d).drop (i + 1) := by
      rw [List.drop_eq_getElem_cons hlt]
      congr 1
      have := List.getElem?_eq_getElem hlt
      rw [hdx] at this
      exact (Option.some.inj this).symm
    have hpl : ((items d).take i).length = i := by rw [List.length_take]; omega
    have bt : But [] H2 (upd H2 t (.tup [.int (i : Nat), y1])) := But.new ht
    refine g_tup (gs_cons (g_name (i := 2) (gs_cons (g_name (i := 3) (gs_nil ?_) C.nd)) C.nd)) rfl (.inl (.inl upd_same))
    generalize upd H2 t (.tup [.int (i : Nat), y1]) = H3 at bt ⊢
    have b13 := b2.trans bt
    have fx : fits dx := hfits dx (List.mem_of_getElem? hdx)
    have hrec : firstBad g ((items d).take i) ((items d).drop i) = if fineAt g ((items d).take i) dx = true then firstBad g ((items d).take i ++ [dx]) ((items d).drop (i + 1)) else some i := by
      rw [hdrop, firstBad, hpl]
    have htk : (items d).take (i + 1) = (items d).take i ++ [dx] := by rw [List.take_add_one, hdx]; rfl
    refine b_cons (s_ifB (!fineAt g ((items d).take i) dx) ?_ (fun e4 H4 b4 => ?_) (fun e4 H4 b4 => b_nil (b_nil ⟨⟨_, _, rfl⟩, b13.trans b4, ?_⟩)))
    · refine t_boolop (w_or (t_not (t_val (e_call (C.mono (by decide)) D1 (a_cons (e_name 0 (a_cons (e_name 3 (v := y1) (a_nil ?_))))) rfl (fun _ _ _ _ _ _ us hl => match us, hl with | [_, _], _ => rfl)))))
      refine ⟨g, y1, l, dx, rfl, hD.but (b13.mono (by simp)), fx, fun H4 b4 => ⟨_, rfl, ite_b (fun e5 => ?_) fun e5 => ?_⟩⟩
      · have e5 : shortLine 12 g dx = false := by simpa using e5
        exact ⟨by rw [fineAt, e5]; rfl, b4⟩
      · have e5 : shortLine 12 g dx = true := by simpa using e5
        obtain ⟨x, rfl, hx12⟩ := short_str e5
        cases hD
        have hany : (((items d).take i).any (sameS (.str x))) = inV (.str x) (ys.map V.str) := by
          rw [hys, Bool.eq_iff_iff]
          simp only [inV, List.any_map, List.any_eq_true, Function.comp, eqV, sameS, beq_iff_eq, decide_eq_true_eq, V.str.injEq]
          exact ⟨fun ⟨y, h1, h2⟩ => ⟨y, h1, h2.symm⟩, fun ⟨y, h1, h2⟩ => ⟨y, h1, h2.symm⟩⟩
        have b14 := b13.trans b4
        have fin : ∀ p H5, But [] H4 H5 → H5 p = some (.lst (ys.map V.str)) ∨ H5 p = some (.tup (ys.map V.str)) → oW (bX P w K mg base ["signs", "value", "position", "mark"] "want_marks" (top 26) f cdv A outer s H E) (compareOp .In) (.str x) (.ref p) H5 fun v' H' => ∃ b, v' = .bl b ∧ b = !fineAt g ((items d).take i) (.str x) ∧ But [] H3 H' := fun p H5 b5 hp => by
          refine c_inL (hp.imp (fun h => .inl (.inl h)) (fun h => .inl (.inl h))) rfl (flat_strs _) ⟨_, rfl, ?_, b4.trans b5⟩
          rw [fineAt, e5, hany]
          cases inV (V.str x) (ys.map V.str) <;> rfl
        cases hd1 with
        | @lst a xs ds h1 n h2 =>
          have hxy : xs.take i = ys.map V.str := dds_strs (by have := dds_take i h2; rwa [show ds.take i = ys.map PyData.str from hys] at this)
          refine w_or1 (t_cmp (e_name 3 (v := .str x) (e_slice sl_list (e_name 1 (v := .ref a) (p_none (p_some (e_name 2 (v := .int (i : Nat)) ⟨_, rfl, a, _, rfl, (b14.mono (by simp)).sql n h1, fun r hr => ?_⟩)))))))
          rw [cutV_toV, hxy]
          exact fin r _ (But.new hr) (.inl upd_same)
        | @tup a xs ds h1 n h2 =>
          have hxy : xs.take i = ys.map V.str := dds_strs (by have := dds_take i h2; rwa [show ds.take i = ys.map PyData.str from hys] at this)
          refine w_or1 (t_cmp (e_name 3 (v := .str x) (e_slice sl_tup (e_name 1 (v := .ref a) (p_none (p_some (e_name 2 (v := .int (i : Nat)) ⟨_, rfl, a, _, rfl, (b14.mono (by simp)).sqt n h1, (fun z => by have z2 := z.2; rw [HT.sIx_nat] at z2; have := h2.length; have hlt' : i < ds.length := hlt; omega), fun r hr => ?_⟩)))))))
          rw [cutV_toV, hxy]
          exact fin r _ (But.new hr) (.inr upd_same)
        | _ => simp [seqB, Z.isList, Z.isTuple] at e1
    · have hb : badMarks g d = some (.int (i : Nat)) := by
        rw [hbm, hfb, hrec, if_neg (by simp at e4; rw [e4]; decide)]
        rfl
      exact b_cons (s_raise1 C E1 (by decide) (e_name 2 (v := .int (i : Nat)) fun dd H' b5 hn hx => hE _ hb dd _ H' (b1.trans (b13.trans (b4.trans b5))) hx (.int _)))
    · have e4 : fineAt g ((items d).take i) dx = true := by simpa using e4
      have e6 : shortLine 12 g dx = true := by unfold fineAt at e4; rw [Bool.and_eq_true] at e4; exact e4.1
      obtain ⟨x, rfl, hx12⟩ := short_str e6
      cases hD
      refine ⟨ys ++ [x], by rw [htk, hys, List.map_append]; rfl, by rw [List.take_add_one, e3, hvy, List.map_append]; rfl, ?_⟩
      rw [hfb, hrec, htk, if_pos e4]
  · rintro σ H2 ⟨_, b2, ys, hys, hvy, hfb⟩
    refine b_nil (hQ ?_ H2 (b1.trans b2))
    rw [hbm, hfb, hvl, List.drop_of_length_le (Nat.le_refl _)]
    simp [firstBad]
end
end K50

set_option Elab.async false
set_option linter.all false
set_option maxRecDepth 100000
set_option maxHeartbeats 4000000
namespace K50
open PySem PySem.Spec PyProof.Rows L2 Z
/-! ### the reader -/
/-- what a reader holds -/
structure RData where
  g : Str
  ms : List Str
  t : Str
  si : Str
  od : Str
  fu : Str
  fi : Str
structure RData.Ok (R : RData) : Prop where
  g : strSigns R.g = true
  ms : marksOk R.g R.ms
  t : shortLine 3 R.g (.str R.t) = true
  si : wordOk R.g "sight" R.si
  od : wordOk R.g "order" R.od
  fu : wordOk R.g "further" R.fu
  fi : wordOk R.g "finish" R.fi
def RData.cares (R : RData) : List (Str × Str) := [("sight", R.si), ("order", R.od), ("further", R.fu), ("finish", R.fi)]
def RData.kvs (R : RData) : List (Key × V) := R.cares.map fun q => (.inr q.1, .str q.2)
def RData.fields (R : RData) (ml cd : Addr) : List (Str × V) := [("own_signs", .str R.g), ("own_marks", .ref ml), ("own_tail", .str R.t), ("own_cares", .ref cd)]
/-- a reader at r -/
structure IsReader (CR : Addr) (R : RData) (H : Hp) (r : Addr) : Prop where
  ex : ∃ dx ml cd, H r = some (.ins CR dx (R.fields ml cd)) ∧ H ml = some (.lst (R.ms.map V.str)) ∧ H cd = some (.dK R.kvs)
theorem IsReader.but {CR : Addr} {R : RData} {l : List Addr} {H H' : Hp} {r : Addr} (h : IsReader CR R H r) (b : But l H H') (hl : ∀ q ∈ l, ∃ xs, H q = some (.lst xs) ∧ xs ≠ R.ms.map V.str) : IsReader CR R H' r := by
  obtain ⟨dx, ml, cd, h1, h2, h3⟩ := h.ex
  have n : ∀ {q o}, H q = some o → (∀ xs, o ≠ .lst xs) → q ∉ l := fun {q o} e no hm => by
    obtain ⟨xs, e2, _⟩ := hl q hm
    rw [e] at e2
    cases e2
    exact no _ rfl
  refine ⟨dx, ml, cd, b _ _ (n h1 fun xs z => by cases z) h1, b _ _ (fun hm => ?_) h2, b _ _ (n h3 fun xs z => by cases z) h3⟩
  obtain ⟨xs, e2, ne⟩ := hl ml hm
  rw [h2] at e2
  cases e2
  exact ne rfl
structure ClsR (K : PySem.W.Frag) (CR : Addr) : Prop where
  c : Cls K CR
  n1 : NoAttr K CR "own_signs"
  n2 : NoAttr K CR "own_marks"
  n3 : NoAttr K CR "own_tail"
  n4 : NoAttr K CR "own_cares"
section
variable {P : Program} {w : World} {K : PySem.W.Frag} {mg : Str → Option Value} {base : Heap}
def rPs : List Str := ["self", "signs", "marks", "tail", "sight", "order", "further", "finish"]
def spInit (K : PySem.W.Frag) (CR : Addr) : Sp := fun vs H Q _ => ∃ (r dx q : Addr) (R : RData), vs = [.ref r, .str R.g, .ref q, .str R.t, .str R.si, .str R.od, .str R.fu, .str R.fi] ∧ R.Ok ∧ H r = some (.ins CR dx []) ∧ H q = some (.lst (R.ms.map V.str)) ∧
  ∀ H', But [r] H H' → IsReader CR R H' r → Q .non H'
theorem scIn : FnScope ["self", "signs", "marks", "tail", "sight", "order", "further", "finish", "cares"] rPs (defScope (clsAt (top 33) 0)) := ⟨rfl, rfl, rfl, by decide +kernel, rfl, by decide +kernel, by decide +kernel⟩
theorem d_init {CR f : Addr} {oc dV kV doc pm cdv ct : Value} {od an : Option Addr} {osl : Array (Option Value)} (B : Blt mg base) (CL : ClsR K CR)
    (lk : K.lookup f = some ⟨oc, od, .func (PySem.W.fnOf "__init__" "Reader.__init__" (defArgs (clsAt (top 33) 0)) (defBody (clsAt (top 33) 0)) (defScope (clsAt (top 33) 0)) dV kV doc pm an cdv ct), osl⟩) (hcd : PySem.W.codeIn K cdv "Reader.__init__" = true)
    (D1 : Def P w K mg base 2 "want_signs" (top 15) ["value"] (spFine K areSigns)) (D2 : Def P w K mg base 3 "want_marks" (top 26) ["signs", "value"] (spFineMarks K)) (D3 : Def P w K mg base 2 "is_tail" (top 25) ["signs", "value"] (spShort K 3))
    (D4 : Def P w K mg base 2 "want_cares" (top 28) ["signs", "cares"] spCares) :
    FnOk P w K mg base (L2.CX P w) 4 f (PySem.W.fnOf "__init__" "Reader.__init__" (defArgs (clsAt (top 33) 0)) (defBody (clsAt (top 33) 0)) (defScope (clsAt (top 33) 0)) dV kV doc pm an cdv ct) rPs (spInit K CR) := by
  refine fnok_body B lk hcd scIn (fun vs H Q E ⟨_, _, _, _, e, _⟩ => by rw [e]; rfl) fun A outer s H vs Q E C h => ?_
  obtain ⟨r, dx, q, R, rfl, ok, hr, hq, hQ⟩ := h
  have gl := ok.g
  have fg : fits (.str R.g) := by
    simp only [strSigns, Bool.and_eq_true, decide_eq_true_eq] at gl
    show R.g.length ≤ _
    rw [sizeLine_eq]
    omega
  have ft : fits (.str R.t) := by
    have := ok.t
    simp only [shortLine, Bool.and_eq_true, decide_eq_true_eq] at this
    show R.t.length ≤ _
    rw [sizeLine_eq]
    omega
  have hrq : r ≠ q := fun z => by rw [z, hq] at hr; cases hr
  refine b_cons (s_expr (e_call (C.mono (by decide)) D1 (a_cons (e_name 1 (a_nil ?_))) rfl (fun _ _ _ _ _ _ us hl => match us, hl with | [_], _ => rfl)))
  refine ⟨_, [], .str R.g, rfl, .str R.g, fg, gl, fun H1 b1 => ?_⟩
  refine b_cons (s_expr (e_call C D2 (a_cons (e_name 1 (a_cons (e_name 2 (a_nil ?_))))) rfl (fun _ _ _ _ _ _ us hl => match us, hl with | [_, _], _ => rfl)))
  refine ⟨R.g, q, R.ms, rfl, .inl (.inl (b1 _ _ (by simp) hq)), ⟨_, b1 _ _ (by simp) hq⟩, ok.ms, fun H2 b2 => ?_⟩
  refine b_cons (s_ifB false ?_ (fun e => by cases e) (fun _ H3 b3 => b_nil ?_))
  · refine t_not (t_val (e_call (C.mono (by decide)) D3 (a_cons (e_name 1 (a_cons (e_name 3 (a_nil ?_))))) rfl (fun _ _ _ _ _ _ us hl => match us, hl with | [_, _], _ => rfl)))
    exact ⟨R.g, _, [], .str R.t, rfl, .str R.t, ft, fun H' b => ⟨_, rfl, by rw [ok.t]; rfl, b⟩⟩
  have b03 : But [] H H3 := b1.trans (b2.trans b3)
  refine b_cons (s_set (i := 8) (eE (pe_disp (pps_cons pE pE (pps_cons pE pE (pps_cons pE pE (pps_cons pE pE pps_nil)))) rfl rfl (by simp) (by decide)) ?_) C.nd)
  intro cd hcd'
  refine e_str (e_name 4 (e_str (e_name 5 (e_str (e_name 6 (e_str (e_name 7 ?_)))))))
  refine ⟨upd_same, R.kvs, rfl, by show 4 ≤ 15; decide, ?_⟩
  have em : mergeK [] R.kvs = R.kvs := rfl
  have eH : upd (upd H3 cd (.dK [])) cd (.dK (mergeK [] R.kvs)) = upd H3 cd (.dK R.kvs) := by
    rw [em]
    funext a
    by_cases ha : a = cd
    · rw [ha, upd_same, upd_same]
    · rw [upd_ne ha, upd_ne ha, upd_ne ha]
  rw [eH]
  refine b_cons (s_expr (e_call (C.mono (by decide)) D4 (a_cons (e_name 1 (a_cons (e_name 8 (a_nil ?_))))) rfl (fun _ _ _ _ _ _ us hl => match us, hl with | [_, _], _ => rfl)))
  refine ⟨R.g, cd, R.cares, rfl, upd_same, ?_, fun H4 b4 => ?_⟩
  · intro x hx
    simp only [RData.cares, List.mem_cons, List.not_mem_nil, or_false] at hx
    rcases hx with rfl | rfl | rfl | rfl
    · exact ⟨.inl rfl, ok.si⟩
    · exact ⟨.inr (.inl rfl), ok.od⟩
    · exact ⟨.inr (.inr (.inl rfl)), ok.fu⟩
    · exact ⟨.inr (.inr (.inr rfl)), ok.fi⟩
  have bn : But [] H3 (upd H3 cd (.dK R.kvs)) := But.new hcd'
  have hr4 : H4 r = some (.ins CR dx []) := b4 _ _ (by simp) (bn _ _ (by simp) (b03 _ _ (by simp) hr))
  have hq4 : H4 q = some (.lst (R.ms.map V.str)) := b4 _ _ (by simp) (bn _ _ (by simp) (b03 _ _ (by simp) hq))
  have hc4 : H4 cd = some (.dK R.kvs) := b4 _ _ (by simp) upd_same
  have b04 : But [] H H4 := b03.trans (bn.trans b4)
  have nrc : r ≠ cd := fun z => by rw [z, hc4] at hr4; cases hr4
  refine b_cons (s_fld (e_name 1 (e_name 0 ⟨dx, [], rfl, hr4, (by decide : 0 < 1000), ?_⟩)) CL.c CL.n1)
  refine b_cons (s_fld (e_listOf B (e_name 2 (v := .ref q) ⟨q, _, rfl, .inl (.inl (.inl (by rw [upd_ne hrq.symm]; exact hq4))), fun ml hml => e_name 0 ⟨dx, [("own_signs", .str R.g)], rfl, ?_, by simp, ?_⟩⟩)) CL.c CL.n2)
  · rw [upd_ne (ne_of_none upd_same hml), upd_same]
    rfl
  have nrm : r ≠ ml := ne_of_none upd_same hml
  have hml4 : H4 ml = none := by rw [upd_ne nrm.symm] at hml; exact hml
  have ncm : cd ≠ ml := ne_of_none hc4 hml4
  refine b_cons (s_fld (e_name 3 (e_name 0 ⟨dx, [("own_signs", .str R.g), ("own_marks", .ref ml)], rfl, upd_same, by simp, ?_⟩)) CL.c CL.n3)
  refine b_cons (s_fld (e_name 8 (e_name 0 ⟨dx, [("own_signs", .str R.g), ("own_marks", .ref ml), ("own_tail", .str R.t)], rfl, upd_same, by simp, ?_⟩)) CL.c CL.n4)
  refine b_nil (hQ _ ?_ ⟨dx, ml, cd, upd_same, ?_, ?_⟩)
  · refine b04.of.trans (fun a o na e => ?_)
    have nar : a ≠ r := by simpa using na
    have nam : a ≠ ml := ne_of_none e hml4
    rw [upd_ne nar, upd_ne nar, upd_ne nar, upd_ne nam, upd_ne nar]
    exact e
  · rw [upd_ne nrm.symm, upd_ne nrm.symm, upd_ne nrm.symm, upd_same]
  · rw [upd_ne nrc.symm, upd_ne nrc.symm, upd_ne nrc.symm, upd_ne ncm, upd_ne nrc.symm]
    exact hc4
end
end K50

set_option Elab.async false
set_option linter.all false
set_option maxRecDepth 100000
set_option maxHeartbeats 1600000
namespace K50
open PySem PySem.Spec PyProof.Rows L2 Z
/-! ### a reader made, or refused -/
theorem firstBad_none {g : Str} : ∀ {ds pre : List PyData}, firstBad g pre ds = none → ∃ ys : List Str, ds = ys.map .str ∧ (∀ y ∈ ys, shortLine 12 g (.str y) = true) ∧ ys.Nodup ∧ ∀ y ∈ ys, pre.any (sameS (.str y)) = false
  | [], _, _ => ⟨[], rfl, fun _ h => by simp at h, List.nodup_nil, fun _ h => by simp at h⟩
  | d :: r, pre, h => by
    rw [firstBad] at h
    split at h
    · rename_i hf
      obtain ⟨ys, e1, e2, e3, e4⟩ := firstBad_none h
      unfold fineAt at hf
      rw [Bool.and_eq_true] at hf
      obtain ⟨x, rfl, _⟩ := short_str hf.1
      have hp : pre.any (sameS (.str x)) = false := by simpa using hf.2
      refine ⟨x :: ys, by rw [e1]; rfl, fun y hy => ?_, List.nodup_cons.mpr ⟨fun hx => ?_, e3⟩, fun y hy => ?_⟩
      · rcases List.mem_cons.mp hy with rfl | hy
        · exact hf.1
        · exact e2 y hy
      · have := e4 x hx
        rw [List.any_append] at this
        simp [sameS] at this
      · rcases List.mem_cons.mp hy with rfl | hy
        · exact hp
        · have := e4 y hy
          rw [List.any_append, Bool.or_eq_false_iff] at this
          exact this.1
    · cases h
theorem marks_none {g : Str} {d : PyData} (h : badMarks g d = none) : seqB d = true ∧ ∃ ms : List Str, items d = ms.map .str ∧ marksOk g ms := by
  unfold badMarks at h
  split at h
  · rename_i hc
    obtain ⟨ms, e1, e2, e3, _⟩ := firstBad_none (Option.map_eq_none_iff.mp h)
    have hl := hc.2
    rw [e1, List.length_map] at hl
    exact ⟨hc.1, ms, e1, hl.1, hl.2, e2, e3⟩
  · cases h
theorem word_of {g nm : Str} {d : PyData} (h : wordB g nm d = true) : ∃ x, d = .str x ∧ wordOk g nm x := by
  obtain ⟨x, rfl⟩ : ∃ x, d = .str x := by cases d <;> first | exact ⟨_, rfl⟩ | simp [wordB] at h
  refine ⟨x, rfl, ?_⟩
  unfold wordOk
  by_cases e : nm = "sight"
  · rw [wordB, if_pos e] at h
    rw [if_pos e]
    simp only [Bool.or_eq_true, Bool.and_eq_true, decide_eq_true_eq, List.all_eq_true] at h
    rcases h with (h | h) | h
    · exact .inl h
    · exact .inr (.inl h)
    · obtain ⟨c, rfl⟩ := one_sign h.1
      exact .inr (.inr ⟨c, h.2 c (by simp), rfl⟩)
  · rw [wordB, if_neg e] at h
    rw [if_neg e]
    exact of_decide_eq_true h
abbrev caresOf (w1 w2 w3 w4 : V) (e1 e2 e3 e4 : PyData) : List Care := [("sight", w1, e1), ("order", w2, e2), ("further", w3, e3), ("finish", w4, e4)]
section
variable {P : Program} {w : World} {K : PySem.W.Frag} {mg : Str → Option Value} {base : Heap}
def spInitR (K : PySem.W.Frag) (CR CS CM CT CC : Addr) : Sp := fun vs H Q E => ∃ (r dx : Addr) (v1 v2 v3 w1 w2 w3 w4 : V) (l1 l3 : List Addr) (d1 d2 d3 e1 e2 e3 e4 : PyData), vs = [.ref r, v1, v2, v3, w1, w2, w3, w4] ∧ H r = some (.ins CR dx []) ∧
  DD K l1 H v1 d1 ∧ fits d1 ∧ DD [] [r] H v2 d2 ∧ fits d2 ∧ (∀ x ∈ items d2, fits x) ∧ (items d2).length ≤ 1000 ∧ DD K l3 H v3 d3 ∧ fits d3 ∧ (∀ q ∈ caresOf w1 w2 w3 w4 e1 e2 e3 e4, fits q.2.2 ∧ DD [] [] H q.2.1 q.2.2) ∧
  (areSigns d1 = false → ∀ dd H', But [] H H' → H' dd = some (.xd [("value", v1)]) → E (.ref CS) (some dd) H') ∧
  ∀ g, d1 = .str g → areSigns d1 = true →
    (∀ f, badMarks g d2 = some f → ∀ dd u H', But [] H H' → H' dd = some (.xd [("position", u)]) → DD K [] H' u f → E (.ref CM) (some dd) H') ∧
    (badMarks g d2 = none → shortLine 3 g d3 = false → ∀ dd H', But [] H H' → H' dd = some (.xd [("value", v3)]) → E (.ref CT) (some dd) H') ∧
    (badMarks g d2 = none → shortLine 3 g d3 = true → ∀ q, badCare g (caresOf w1 w2 w3 w4 e1 e2 e3 e4) = some q → ∀ dd H', But [] H H' → H' dd = some (.xd [("value", q.2.1), ("name", .str q.1)]) → E (.ref CC) (some dd) H') ∧
    (badMarks g d2 = none → shortLine 3 g d3 = true → badCare g (caresOf w1 w2 w3 w4 e1 e2 e3 e4) = none → ∀ R : RData, R.g = g → items d2 = R.ms.map .str → d3 = .str R.t → [e1, e2, e3, e4] = [.str R.si, .str R.od, .str R.fu, .str R.fi] → R.Ok → ∀ H', But [r] H H' → IsReader CR R H' r → Q .non H')
theorem d_initR {CR CS CM CT CC f : Addr} {oc dV kV doc pm cdv ct : Value} {od an : Option Addr} {osl : Array (Option Value)} (B : Blt mg base) (CL : ClsR K CR)
    (lk : K.lookup f = some ⟨oc, od, .func (PySem.W.fnOf "__init__" "Reader.__init__" (defArgs (clsAt (top 33) 0)) (defBody (clsAt (top 33) 0)) (defScope (clsAt (top 33) 0)) dV kV doc pm an cdv ct), osl⟩) (hcd : PySem.W.codeIn K cdv "Reader.__init__" = true)
    (D1 : Def P w K mg base 3 "want_signs" (top 15) ["value"] (spWant K areSigns CS)) (D2 : Def P w K mg base 3 "want_marks" (top 26) ["signs", "value"] (spMarksB K CM)) (D3 : Def P w K mg base 2 "is_tail" (top 25) ["signs", "value"] (spShort K 3)) (ET : ErrOk P w K mg base "InvalidTail" "value" CT)
    (D4 : Def P w K mg base 3 "want_cares" (top 28) ["signs", "cares"] (spCaresB K CC)) :
    FnOk P w K mg base (L2.CX P w) 4 f (PySem.W.fnOf "__init__" "Reader.__init__" (defArgs (clsAt (top 33) 0)) (defBody (clsAt (top 33) 0)) (defScope (clsAt (top 33) 0)) dV kV doc pm an cdv ct) rPs (spInitR K CR CS CM CT CC) := by
  refine fnok_body B lk hcd scIn (fun vs H Q E ⟨_, _, _, _, _, _, _, _, _, _, _, _, _, _, _, _, _, _, e, _⟩ => by rw [e]; rfl) fun A outer s H vs Q E C h => ?_
  obtain ⟨r, dx, v1, v2, v3, w1, w2, w3, w4, l1, l3, d1, d2, d3, e1, e2, e3, e4, rfl, hr, hd1, f1, hd2, f2, f2s, f2l, hd3, f3, hw, hE1, hE⟩ := h
  refine b_cons (s_expr (e_call C D1 (a_cons (e_name 1 (v := v1) (a_nil ?_))) rfl (fun _ _ _ _ _ _ us hl => match us, hl with | [_], _ => rfl)))
  refine ⟨v1, l1, d1, rfl, hd1, f1, fun ok1 H1 b1 => ?_, fun no1 dd H' b hx => hE1 no1 dd H' b hx⟩
  obtain ⟨g, rfl⟩ : ∃ g, d1 = .str g := by cases d1 <;> first | exact ⟨_, rfl⟩ | simp [areSigns] at ok1
  cases hd1
  obtain ⟨hE2, hE3, hE4, hQ⟩ := hE g rfl ok1
  refine b_cons (s_expr (e_call C D2 (a_cons (e_name 1 (v := .str g) (a_cons (e_name 2 (v := v2) (a_nil ?_))))) rfl (fun _ _ _ _ _ _ us hl => match us, hl with | [_, _], _ => rfl)))
  refine ⟨g, v2, [r], d2, rfl, (hd2.but (b1.mono (by simp))).all, f2, f2s, fun _ => f2l, fun okm H2 b2 => ?_, fun f hf dd u H' b hx hu => hE2 f hf dd u H' (b1.trans b) hx hu⟩
  have b02 := b1.trans b2
  refine b_cons (s_ifB (!shortLine 3 g d3) ?_ (fun e H3 b3 => ?_) (fun e H3 b3 => b_nil ?_))
  · refine t_not (t_val (e_call (C.mono (by decide)) D3 (a_cons (e_name 1 (v := .str g) (a_cons (e_name 3 (v := v3) (a_nil ?_))))) rfl (fun _ _ _ _ _ _ us hl => match us, hl with | [_, _], _ => rfl)))
    exact ⟨g, v3, l3, d3, rfl, hd3.but (b02.mono (by simp)), f3, fun H' b => ⟨_, rfl, rfl, b⟩⟩
  · exact b_cons (s_raise1 C ET (by decide) (e_name 3 (v := v3) fun dd H' b hn hx => hE3 okm (by simpa using e) dd H' (b02.trans (b3.trans b)) hx))
  have oks : shortLine 3 g d3 = true := by simpa using e
  have b03 := b02.trans b3
  refine b_cons (s_set (i := 8) (eE (pe_disp (pps_cons pE pE (pps_cons pE pE (pps_cons pE pE (pps_cons pE pE pps_nil)))) rfl rfl (by simp) (by decide)) ?_) C.nd)
  intro cd hcd'
  refine e_str (e_name 4 (v := w1) (e_str (e_name 5 (v := w2) (e_str (e_name 6 (v := w3) (e_str (e_name 7 (v := w4) ?_)))))))
  refine ⟨upd_same, (caresOf w1 w2 w3 w4 e1 e2 e3 e4).map fun q : Care => ((.inr q.1 : Key), q.2.1), rfl, by show 4 ≤ 15; decide, ?_⟩
  have em : mergeK [] ((caresOf w1 w2 w3 w4 e1 e2 e3 e4).map fun q : Care => ((.inr q.1 : Key), q.2.1)) = (caresOf w1 w2 w3 w4 e1 e2 e3 e4).map fun q : Care => ((.inr q.1 : Key), q.2.1) := rfl
  have eH : upd (upd H3 cd (.dK [])) cd (.dK (mergeK [] ((caresOf w1 w2 w3 w4 e1 e2 e3 e4).map fun q : Care => ((.inr q.1 : Key), q.2.1)))) = upd H3 cd (.dK ((caresOf w1 w2 w3 w4 e1 e2 e3 e4).map fun q : Care => ((.inr q.1 : Key), q.2.1))) := by
    rw [em]
    funext a
    by_cases ha : a = cd
    · rw [ha, upd_same, upd_same]
    · rw [upd_ne ha, upd_ne ha, upd_ne ha]
  rw [eH]
  have bn : But [] H3 (upd H3 cd (.dK ((caresOf w1 w2 w3 w4 e1 e2 e3 e4).map fun q : Care => ((.inr q.1 : Key), q.2.1)))) := But.new hcd'
  have hcd0 : H cd = none := b03.free hcd'
  have hdk : upd H3 cd (.dK ((caresOf w1 w2 w3 w4 e1 e2 e3 e4).map fun q : Care => ((.inr q.1 : Key), q.2.1))) cd = some (.dK ((caresOf w1 w2 w3 w4 e1 e2 e3 e4).map fun q : Care => ((.inr q.1 : Key), q.2.1))) := upd_same
  generalize upd H3 cd (.dK ((caresOf w1 w2 w3 w4 e1 e2 e3 e4).map fun q : Care => ((.inr q.1 : Key), q.2.1))) = HC at bn hdk ⊢
  refine b_cons (s_expr (e_call C D4 (a_cons (e_name 1 (v := .str g) (a_cons (e_name 8 (v := .ref cd) (a_nil ?_))))) rfl (fun _ _ _ _ _ _ us hl => match us, hl with | [_, _], _ => rfl)))
  refine ⟨g, cd, caresOf w1 w2 w3 w4 e1 e2 e3 e4, rfl, hdk, fun q hq => ⟨?_, (hw q hq).1, [], by simp, (((hw q hq).2.but b03).add hcd' |>.but (bn.mono (by simp))).all⟩, fun okc H4 b4 => ?_, fun q hq dd H' b hx => hE4 okm oks q hq dd H' (but_late (b03.trans bn) b fun z hz => by rw [List.mem_singleton.mp hz]; exact hcd0) hx⟩
  · simp only [caresOf, List.mem_cons, List.not_mem_nil, or_false] at hq
    rcases hq with rfl | rfl | rfl | rfl
    · exact .inl rfl
    · exact .inr (.inl rfl)
    · exact .inr (.inr (.inl rfl))
    · exact .inr (.inr (.inr rfl))
  -- all is right: the fields
  obtain ⟨hsq2, ms, hms, hmok⟩ := marks_none okm
  obtain ⟨t, rfl, _⟩ := short_str oks
  have wok : ∀ q ∈ caresOf w1 w2 w3 w4 e1 e2 e3 e4, wordB g q.1 q.2.2 = true := fun q hq => by
    unfold badCare at okc
    rw [List.find?_eq_none] at okc
    simpa using okc q hq
  obtain ⟨x1, rfl, o1⟩ := word_of (wok ("sight", w1, e1) (by simp [caresOf]))
  obtain ⟨x2, rfl, o2⟩ := word_of (wok ("order", w2, e2) (by simp [caresOf]))
  obtain ⟨x3, rfl, o3⟩ := word_of (wok ("further", w3, e3) (by simp [caresOf]))
  obtain ⟨x4, rfl, o4⟩ := word_of (wok ("finish", w4, e4) (by simp [caresOf]))
  have u1 : w1 = .str x1 := by have := (hw ("sight", w1, .str x1) (by simp [caresOf])).2; cases this; rfl
  have u2 : w2 = .str x2 := by have := (hw ("order", w2, .str x2) (by simp [caresOf])).2; cases this; rfl
  have u3 : w3 = .str x3 := by have := (hw ("further", w3, .str x3) (by simp [caresOf])).2; cases this; rfl
  have u4 : w4 = .str x4 := by have := (hw ("finish", w4, .str x4) (by simp [caresOf])).2; cases this; rfl
  subst u1 u2 u3 u4
  have u5 : v3 = .str t := by cases hd3; rfl
  subst u5
  have hQ2 := hQ okm oks okc ⟨g, ms, t, x1, x2, x3, x4⟩ rfl hms rfl rfl ⟨ok1, hmok, oks, o1, o2, o3, o4⟩
  have b04 : But [] H H4 := b03.trans (bn.trans b4)
  have hr4 : H4 r = some (.ins CR dx []) := b04 _ _ (by simp) hr
  have hc4 : H4 cd = some (.dK (RData.mk g ms t x1 x2 x3 x4).kvs) := b4 _ _ (by simp) hdk
  have nrc : r ≠ cd := fun z => by rw [z, hc4] at hr4; cases hr4
  have hl : ∃ a, v2 = .ref a ∧ a ∉ [r] ∧ (SqL [] H a (ms.map V.str) ∨ SqT [] H a (ms.map V.str)) := by
    cases hd2 with
    | @lst a xs ds h1 n h2 => exact ⟨a, rfl, n, .inl (by rw [← dds_strs (show DDs [] [r] H xs (ms.map PyData.str) from hms ▸ h2)]; exact h1)⟩
    | @tup a xs ds h1 n h2 => exact ⟨a, rfl, n, .inr (by rw [← dds_strs (show DDs [] [r] H xs (ms.map PyData.str) from hms ▸ h2)]; exact h1)⟩
    | _ => simp [seqB, Z.isList, Z.isTuple] at hsq2
  obtain ⟨a, rfl, na, hla⟩ := hl
  refine b_cons (s_fld (e_name 1 (v := .str g) (e_name 0 ⟨dx, [], rfl, hr4, (by decide : 0 < 1000), ?_⟩)) CL.c CL.n1)
  have bF : But [r] H (upd H4 r (.ins CR dx (([] : List (Str × V)) ++ [(("own_signs" : Str), V.str g)]))) := b04.of.trans (But.at (by simp))
  refine b_cons (s_fld (e_listOf B (e_name 2 (v := .ref a) ⟨a, ms.map V.str, rfl, hla.imp (fun h => sql_all (bF.sql na h)) (fun h => sqt_all (bF.sqt na h)), fun ml hml => e_name 0 ⟨dx, [("own_signs", .str g)], rfl, ?_, by simp, ?_⟩⟩)) CL.c CL.n2)
  · rw [upd_ne (ne_of_none upd_same hml), upd_same]
    rfl
  have nrm : r ≠ ml := ne_of_none upd_same hml
  have hml4 : H4 ml = none := by rw [upd_ne nrm.symm] at hml; exact hml
  have ncm : cd ≠ ml := ne_of_none hc4 hml4
  refine b_cons (s_fld (e_name 3 (v := .str t) (e_name 0 ⟨dx, [("own_signs", .str g), ("own_marks", .ref ml)], rfl, upd_same, by simp, ?_⟩)) CL.c CL.n3)
  refine b_cons (s_fld (e_name 8 (v := .ref cd) (e_name 0 ⟨dx, [("own_signs", .str g), ("own_marks", .ref ml), ("own_tail", .str t)], rfl, upd_same, by simp, ?_⟩)) CL.c CL.n4)
  refine b_nil (hQ2 _ ?_ ⟨dx, ml, cd, upd_same, ?_, ?_⟩)
  · refine b04.of.trans (fun a o na e => ?_)
    have nar : a ≠ r := by simpa using na
    have nam : a ≠ ml := ne_of_none e hml4
    rw [upd_ne nar, upd_ne nar, upd_ne nar, upd_ne nam, upd_ne nar]
    exact e
  · rw [upd_ne nrm.symm, upd_ne nrm.symm, upd_ne nrm.symm, upd_same]
  · rw [upd_ne nrc.symm, upd_ne nrc.symm, upd_ne nrc.symm, upd_ne ncm, upd_ne nrc.symm]
    exact hc4
end
end K50

set_option Elab.async false
set_option linter.all false
set_option maxRecDepth 100000
set_option maxHeartbeats 4000000
namespace K50
open PySem PySem.Spec PyProof.Rows L2 Z
/-! ### what is drawn -/
def Pot (H : Hp) (p : Addr) : Prop := ∃ a b : Int, H p = some (.lst [.int a, .int b]) ∧ 0 ≤ b ∧ b < 2 ^ 31
theorem Pot.new {H H' : Hp} {p : Addr} (h : Pot H p) (b : But [] H H') : Pot H' p := let ⟨x, y, e, r⟩ := h; ⟨x, y, b _ _ (by simp) e, r⟩
theorem Pot.here {H : Hp} {p : Addr} (h : Pot H p) : Here [p] H := let ⟨x, y, e, r⟩ := h; fun q hq => by rw [List.mem_singleton.mp hq]; exact ⟨_, e⟩
theorem Pot.there {H : Hp} {p q : Addr} (h : Pot H p) (hq : H q = none) : q ≠ p := fun z => by
  obtain ⟨x, y, e, r⟩ := h
  rw [z, e] at hq
  cases hq
section
variable {P : Program} {w : World} {K : PySem.W.Frag} {mg : Str → Option Value} {base : Heap}
def spPotMk (K : PySem.W.Frag) : Sp := fun vs H Q _ => ∃ (q : Addr) (ns : List Int) (k : Nat), vs = [.ref q, .int k] ∧ SqL K H q (ns.map V.int) ∧ k ≤ 100 ∧ ns.length ≤ 1000 ∧ ∀ p H', But [] H H' → H p = none → Pot H' p → Q (.ref p) H'
theorem scPot : FnScope ["script", "k", "cell"] ["script", "k"] (defScope (top 35)) := ⟨rfl, rfl, rfl, by decide +kernel, rfl, by decide +kernel, by decide +kernel⟩
theorem d_pot (B : Blt mg base) (D : At K mg "_law_pot" (top 35)) : Def P w K mg base 1 "_law_pot" (top 35) ["script", "k"] (spPotMk K) := by
  refine def_of D B scPot (fun vs H Q E ⟨_, _, _, e, _⟩ => by rw [e]; rfl) fun f cdv A outer s H vs Q E hm C h => ?_
  obtain ⟨q, ns, k, rfl, hq, hk, hn, hQ⟩ := h
  have hq' : ∀ {H1}, But [] H H1 → SqL K H1 q (ns.map V.int) := fun b => b.sql (by simp) hq
  have fin : ∀ (j : Int) (H1 : Hp), But [] H H1 → wB (bX P w K mg base ["script", "k", "cell"] "_law_pot" (top 35) f cdv A outer s H E) ((defBody (top 35)).drop 2) { nx := fun _ H' => Q .non H', rt := Q } [some (.ref q), some (.int k), some (.int j)] H1 := fun j H1 b1 => by
    refine b_cons (s_ret (e_lst (a_cons (e_max2 C (e_int (e_bin (e_name 2 (e_bin (e_int (e_int ?_))))))))))
    refine o_pow ⟨by decide, by decide, by decide⟩ (o_sub ⟨_, _, rfl, rfl, ?_⟩)
    have m1 := Int.emod_nonneg j (show (2147483549 : Int) ≠ 0 by decide)
    have m2 := Int.emod_lt_of_pos j (show (0 : Int) < 2147483549 by decide)
    refine a_cons (e_bin (e_bin (e_int1 B (e_bin (e_bin (e_bin (e_bin (e_int1 B (e_name 2 ⟨j, rfl, e_int (o_mod (by decide) (e_int (o_mul (.inl ⟨by omega, by omega⟩) ?_)))⟩))))))))) 
    refine e_bin (e_int (e_name 1 (o_mul (.inl ⟨by decide, by omega⟩) (o_add (e_int (o_add ⟨_, rfl, e_int (o_mod (by decide) (e_int (o_add (a_nil ⟨?_, fun p hp => ?_⟩))))⟩))))))
    · rw [sizeLine_eq]; exact (by decide : 2 ≤ 16777216)
    · have x1 := Int.emod_nonneg (j % 2147483549 * 48271 + 7927 * (k : Int) + 61) (show (2147483587 : Int) ≠ 0 by decide)
      have x2 := Int.emod_lt_of_pos (j % 2147483549 * 48271 + 7927 * (k : Int) + 61) (show (0 : Int) < 2147483587 by decide)
      exact hQ p _ (b1.trans (But.new hp)) (b1.free hp) ⟨_, _, upd_same, by omega, by omega⟩
  refine b_cons (s_set (i := 2) (e_bin (e_bin (e_int (e_name 1 ?_)))) C.nd)
  refine o_mul (.inl ⟨by decide, by decide⟩) (e_int (o_add ?_))
  refine b_cons (s_ifB (decide (k < ns.length)) ?_ (fun e H1 b1 => ?_) (fun e H1 b1 => ?_))
  · refine t_cmp (e_name 1 (e_len B (e_name 0 ?_)))
    refine ⟨ns.length, .inl ⟨_, hq, by simp⟩, c_lt ⟨_, rfl, ?_, But.refl⟩⟩
    rw [decide_eq_decide]; omega
  · have hlt : k < ns.length := of_decide_eq_true e
    refine b_cons (s_set (i := 2) (e_abs B (e_ix (e_name 0 (e_name 1 (ix_l (hq' b1) (v := .int ns[k]) ?_ ⟨_, rfl, b_nil (fin _ H1 b1)⟩))))) C.nd)
    exact atI_nat (by simp [hlt])
  · exact b_nil (fin _ H1 b1)
def spDraw : Sp := fun vs H Q _ => ∃ (p : Addr) (n : Int), vs = [.ref p, .int n] ∧ Pot H p ∧ 0 < n ∧ n < 1073741824 ∧ ∀ (r : Int) H', 0 ≤ r → r < n → But [p] H H' → Pot H' p → Q (.int r) H'
theorem scDraw : FnScope ["pot", "top", "digit"] ["pot", "top"] (defScope (top 36)) := ⟨rfl, rfl, rfl, by decide +kernel, rfl, by decide +kernel, by decide +kernel⟩
theorem d_draw (B : Blt mg base) (D : At K mg "_law_draw" (top 36)) : Def P w K mg base 1 "_law_draw" (top 36) ["pot", "top"] spDraw := by
  refine def_of D B scDraw (fun vs H Q E ⟨_, _, e, _⟩ => by rw [e]; rfl) fun f cdv A outer s H vs Q E hm C h => ?_
  obtain ⟨p, n, rfl, ⟨a, b, hp, b0, b1⟩, n0, n1, hQ⟩ := h
  have sq : SqL K H p [.int a, .int b] := .inl (.inl hp)
  refine b_cons (s_ifB (decide (0 < a)) ?_ (fun e H1 b1 => ?_) (fun e H1 b1 => ?_))
  · refine t_cmp (e_ix (e_name 0 (e_int (ix_l sq (v := .int a) rfl (e_int (c_gt ⟨_, rfl, rfl, But.refl⟩))))))
  · have hp1 := b1 _ _ (by simp) hp
    refine b_cons (s_asg (e_divmod B (e_ix (e_name 0 (e_int (ix_l (.inl (.inl hp1)) (v := .int a) rfl (e_name 1 ?_)))))))
    refine ⟨a, n, rfl, rfl, ⟨n0, n1⟩, fun t ht => ?_⟩
    have hpt : p ≠ t := ne_of_none hp1 ht
    refine g_tup (gs_cons (g_sub (e_name 0 (e_int (set_l (j := 0) (by rw [upd_ne hpt]; exact hp1) rfl ?_))))) rfl (.inl (.inl upd_same))
    refine gs_cons (g_name (i := 2) (gs_nil (b_cons (s_ret (e_name 2 ?_)))) C.nd)
    refine hQ _ _ (Int.emod_nonneg _ (by omega)) (Int.emod_lt_of_pos _ n0) ((b1.of.trans (But.new ht)).trans (But.at (by simp))) ⟨_, _, upd_same, b0, by assumption⟩
  · have hp1 := b1 _ _ (by simp) hp
    refine b_nil (b_cons (s_asg (e_bin (e_int1 B (e_bin (e_bin (e_ix (e_name 0 (e_int (ix_l (.inl (.inl hp1)) (v := .int b) rfl (e_int ?_)))))))))))
    refine o_mul (.inr ⟨by decide, by decide⟩) (e_int (o_add ⟨_, rfl, e_int (o_mod (by decide) (g_sub (e_name 0 (e_int (set_l (j := 1) hp1 rfl ?_)))))⟩))
    have x1 := Int.emod_nonneg (b * 40699 + 30013) (show (2147483587 : Int) ≠ 0 by decide)
    have x2 := Int.emod_lt_of_pos (b * 40699 + 30013) (show (0 : Int) < 2147483587 by decide)
    generalize (b * 40699 + 30013) % 2147483587 = b' at x1 x2 ⊢
    refine b_cons (s_ret (e_bin (e_int1 B (e_bin (e_bin (e_int1 B (e_bin (e_ix (e_name 0 (e_int (ix_l (.inl (.inl upd_same)) (v := .int b') rfl (e_ix (e_name 0 (e_int (ix_l (.inl (.inl upd_same)) (v := .int b') rfl ?_)))))))))))))))
    refine o_mul (.inl ⟨by omega, by omega⟩) ⟨_, rfl, e_int (o_mod (by decide) (e_int (o_div ⟨by decide, by decide⟩ ⟨_, rfl, e_name 1 (o_mod n0 ?_)⟩)))⟩
    exact hQ _ _ (Int.emod_nonneg _ (by omega)) (Int.emod_lt_of_pos _ n0) (b1.of.trans (But.at (by simp))) ⟨_, _, upd_same, by omega, by omega⟩
end
end K50

set_option Elab.async false
set_option linter.all false
set_option maxRecDepth 100000
set_option maxHeartbeats 4000000
namespace K50
open PySem PySem.Spec PyProof.Rows L2 Z
theorem strSigns_len {g : Str} (h : strSigns g = true) : g.length ≤ 4 ∧ 2 ≤ g.length := by
  simp only [strSigns, Bool.and_eq_true, decide_eq_true_eq] at h
  exact ⟨h.1.1.2, h.1.1.1⟩
section
variable {P : Program} {w : World} {K : PySem.W.Frag} {mg : Str → Option Value} {base : Heap}
def spPick (K : PySem.W.Frag) : Sp := fun vs H Q _ => ∃ p, Pot H p ∧
  ((∃ q xs, vs = [.ref p, .ref q] ∧ q ≠ p ∧ SqL K H q xs ∧ 0 < xs.length ∧ xs.length < 1000000 ∧ ∀ v ∈ xs, ∀ H', But [p] H H' → Pot H' p → Q v H') ∨
   (∃ z : Str, vs = [.ref p, .str z] ∧ 0 < z.length ∧ z.length < 1000000 ∧ ∀ c ∈ z.cps.toList, ∀ H', But [p] H H' → Pot H' p → Q (.str ⟨#[c]⟩) H'))
theorem scPick : FnScope ["pot", "some"] ["pot", "some"] (defScope (top 37)) := ⟨rfl, rfl, rfl, by decide +kernel, rfl, by decide +kernel, by decide +kernel⟩
theorem d_pick (B : Blt mg base) (D : At K mg "_law_pick" (top 37)) (D1 : Def P w K mg base 1 "_law_draw" (top 36) ["pot", "top"] spDraw) : Def P w K mg base 2 "_law_pick" (top 37) ["pot", "some"] (spPick K) := by
  refine def_of D B scPick (fun vs H Q E ⟨_, _, h⟩ => by rcases h with ⟨_, _, e, _⟩ | ⟨_, e, _⟩ <;> (rw [e]; rfl)) fun f cdv A outer s H vs Q E hm C h => ?_
  obtain ⟨p, hp, ⟨q, xs, rfl, hqp, hq, x0, x1, hQ⟩ | ⟨z, rfl, x0, x1, hQ⟩⟩ := h
  · refine b_cons (s_ret (e_ix (e_name 1 (e_call C D1 (a_cons (e_name 0 (a_cons (e_len B (e_name 1 ?_))))) rfl (fun _ _ _ _ _ _ us hl => match us, hl with | [_, _], _ => rfl)))))
    refine ⟨xs.length, .inl ⟨xs, hq, rfl⟩, a_nil ⟨p, xs.length, rfl, hp, by omega, by omega, fun r H' r0 r1 b hp' => ?_⟩⟩
    obtain ⟨j, rfl⟩ := Int.eq_ofNat_of_zero_le r0
    have hj : j < xs.length := by omega
    exact ix_l (b.sql (by simpa using hqp) hq) (atI_nat (List.getElem?_eq_getElem hj)) (hQ _ (List.getElem_mem hj) H' b hp')
  · refine b_cons (s_ret (e_ix (e_name 1 (e_call C D1 (a_cons (e_name 0 (a_cons (e_len B (e_name 1 ?_))))) rfl (fun _ _ _ _ _ _ us hl => match us, hl with | [_, _], _ => rfl)))))
    have hz : z.length ≤ sizeLine := by rw [sizeLine_eq]; omega
    refine ⟨z.length, ⟨hz, rfl⟩, a_nil ⟨p, z.length, rfl, hp, by omega, by omega, fun r H' r0 r1 b hp' => ?_⟩⟩
    obtain ⟨j, rfl⟩ := Int.eq_ofNat_of_zero_le r0
    have hj : j < z.cps.toList.length := by have : z.cps.toList.length = z.length := by simp; rfl
                                            omega
    exact ix_s hz (atI_nat (List.getElem?_eq_getElem hj)) (hQ _ (List.getElem_mem hj) H' b hp')
/-- a text of the signs -/
def spTxt : Sp := fun vs H Q _ => ∃ (p : Addr) (g : Str) (lo n : Nat), vs = [.ref p, .str g, .int lo, .int n] ∧ Pot H p ∧ strSigns g = true ∧ lo ≤ n ∧ n ≤ 100 ∧ ∀ (y : Str) H', isLine g (.str y) = true → lo ≤ y.length → y.length ≤ n → But [p] H H' → Pot H' p → Q (.str y) H'
theorem scTxt : FnScope ["pot", "alphabet", "least", "top", "turn"] ["pot", "alphabet", "least", "top"] (defScope (top 38)) := ⟨rfl, rfl, rfl, by decide +kernel, rfl, by decide +kernel, by decide +kernel⟩
theorem d_txt (B : Blt mg base) (D : At K mg "_law_text" (top 38)) (D0 : Def P w K mg base 1 "_law_draw" (top 36) ["pot", "top"] spDraw) (D1 : Def P w K mg base 2 "_law_pick" (top 37) ["pot", "some"] (spPick K)) :
    Def P w K mg base 3 "_law_text" (top 38) ["pot", "alphabet", "least", "top"] spTxt := by
  refine def_of D B scTxt (fun vs H Q E ⟨_, _, _, _, e, _⟩ => by rw [e]; rfl) fun f cdv A outer s H vs Q E hm C h => ?_
  obtain ⟨p, g, lo, n, rfl, hp, hg, hlo, hn, hQ⟩ := h
  have gl := strSigns_len hg
  refine b_cons (s_ret (e_join (e_str ⟨"", rfl, e_lc [("turn", 4)] C (i_range1 B (e_bin (e_name 2 (v := .int (lo : Nat)) (e_call (C.mono (by decide)) D0 (a_cons (e_name 0 (a_cons (e_bin (e_bin (e_name 3 (v := .int (n : Nat)) (e_name 2 (v := .int (lo : Nat)) (o_sub (e_int (o_add (a_nil ?_))))))))))) rfl (fun _ _ _ _ _ _ us hl => match us, hl with | [_, _], _ => rfl)))))⟩)))
  refine ⟨p, (n : Int) - lo + 1, rfl, hp, by omega, by omega, fun r H1 r0 r1 b1 hp1 => o_add ?_⟩
  obtain ⟨m0, rfl⟩ := Int.eq_ofNat_of_zero_le r0
  obtain ⟨m, hm0⟩ : ∃ m, m = lo + m0 := ⟨_, rfl⟩
  have hmi : ((lo : Nat) : Int) + (m0 : Int) = ((m : Nat) : Int) := by omega
  rw [hmi]
  refine ⟨m, rfl, by omega, by omega, m, _, _, walk_range, fun Dl hDl => ?_⟩
  have nDp : Dl ≠ p := hp1.there hDl
  refine ⟨fun i H' => But [p] H1 H' ∧ Pot H' p ∧ ∃ ys : List Nat, ys.length = i ∧ (∀ c ∈ ys, c ∈ g.cps.toList) ∧ H' Dl = some (.lst (ys.map fun c => .str ⟨#[c]⟩)), ⟨But.new hDl, hp1.new (But.new hDl), [], rfl, fun c hc => by simp at hc, upd_same⟩, fun _ _ _ _ => trivial, ?_, ?_⟩
  · rintro i x H5 H' hi ⟨b5, hp5, ys, hy, hyg, hD5⟩ ⟨rfl, rfl⟩
    refine lc_plain (i := 4) C.nd fun s H0 Ca cl fp => ?_
    refine e_call (C.blk _ _ _ _ _) D1 (a_cons (e_name 0 (a_cons (e_name 1 (a_nil ?_))))) rfl (fun _ _ _ _ _ _ us hl => match us, hl with | [_, _], _ => rfl)
    refine ⟨p, hp5, .inr ⟨g, rfl, by omega, by omega, fun c hc H6 b6 hp6 => ?_⟩⟩
    refine ⟨_, b6 _ _ (by simpa using nDp) hD5, by rw [sizeLine_eq, List.length_map]; omega, fun q o nq e => ?_, ?_, ys ++ [c], by simp [hy], ?_, ?_⟩
    · have nqD : q ≠ Dl := ne_of_none e hDl
      rw [upd_ne nqD]
      exact b6 _ _ nq (b5 _ _ nq e)
    · obtain ⟨a, b, e, r⟩ := hp6
      exact ⟨a, b, by rw [upd_ne nDp.symm]; exact e, r⟩
    · intro c' hc'
      rcases List.mem_append.mp hc' with h | h
      · exact hyg c' h
      · rw [List.mem_singleton.mp h]; exact hc
    · rw [upd_same]; simp
  · rintro H5 ⟨b5, hp5, ys, hy, hyg, hD5⟩
    have e1 : (ys.map fun c => (⟨#[c]⟩ : Str)) = (ys.map fun c => [c]).map sOf := by rw [List.map_map]; rfl
    refine ⟨Dl, ys.map fun c => (⟨#[c]⟩ : Str), rfl, .inl (.inl (.inl (by rw [hD5, List.map_map]; rfl))), ?_, ?_⟩
    · have e2 : ((ys.map fun c => (⟨#[c]⟩ : Str)).map (·.length)).sum = ys.length := by
        clear hy hyg hD5 e1
        induction ys with
        | nil => rfl
        | cons c r ih => simp only [List.map_cons, List.sum_cons, ih, List.length_cons]; show 1 + r.length = _; omega
      rw [e2]
      show ys.length + _ * 0 ≤ _
      omega
    rw [e1, Z.join_nil]
    have e3 : (ys.map fun c => [c]).flatten = ys := by
      clear hy hyg hD5 e1
      induction ys with
      | nil => rfl
      | cons c r ih => simp only [List.map_cons, List.flatten_cons, ih, List.cons_append, List.nil_append]
    rw [e3]
    refine hQ (sOf ys) H5 ?_ (by rw [sOf_len]; omega) (by rw [sOf_len]; omega) (b1.trans b5) hp5
    simp only [isLine, List.all_eq_true, decide_eq_true_eq, sOf_list]
    exact hyg
end
end K50

set_option Elab.async false
set_option linter.all false
set_option maxRecDepth 100000
set_option maxHeartbeats 1600000
namespace K50
open PySem PySem.Spec PyProof.Rows L2 Z LamX
/-! ### signs, right ones and odd ones -/
def oddA : List PyData := [.none, .int 5, .bool true, .str "", .str "a", .str "ba", .str "aa", .str "0123a", .str "a b", .str "A-", .str "-_", .str "ab<", .list [.str "-", .str "a"], .tuple [.str "a", .str "b"], .dict [], .int (10 ^ 29)]
def setsA : List Str := ["->a", "ab", ".|", "-.=|", "019z", "=>"]
theorem sets_ok : ∀ g ∈ setsA, strSigns g = true := by decide +kernel
theorem odd_no : ∀ d ∈ oddA, areSigns d = false := by
  intro d hd
  simp only [oddA, List.mem_cons, List.not_mem_nil, or_false] at hd
  rcases hd with rfl | rfl | rfl | rfl | rfl | rfl | rfl | rfl | rfl | rfl | rfl | rfl | rfl | rfl | rfl | rfl <;> first | rfl | decide +kernel
section
variable {P : Program} {w : World} {K : PySem.W.Frag} {mg : Str → Option Value} {base : Heap}
def spAlph : Sp := fun vs H Q _ => ∃ p, vs = [.ref p] ∧ Pot H p ∧ ∀ t v (d : PyData) (ok : Bool) H', H' t = some (.tup [v, .bl ok]) → DD [] [p] H' v d → But [p] H H' → Pot H' p → (ok = true → ∃ g, d = .str g ∧ strSigns g = true) → (ok = false → d ∈ oddA) → Q (.ref t) H'
theorem scAl : FnScope ["pot", "odd"] ["pot"] (defScope (top 39)) := ⟨rfl, rfl, rfl, by decide +kernel, rfl, by decide +kernel, by decide +kernel⟩
theorem d_alph (B : Blt mg base) (D : At K mg "_law_alphabet" (top 39)) (D0 : Def P w K mg base 1 "_law_draw" (top 36) ["pot", "top"] spDraw) (D1 : Def P w K mg base 2 "_law_pick" (top 37) ["pot", "some"] (spPick K)) : Def P w K mg base 3 "_law_alphabet" (top 39) ["pot"] spAlph := by
  refine def_of D B scAl (fun vs H Q E ⟨_, e, _⟩ => by rw [e]; rfl) fun f cdv A outer s H vs Q E hm C h => ?_
  obtain ⟨p, rfl, hp, hQ⟩ := h
  have two : 2 ≤ sizeLine := by rw [sizeLine_eq]; exact (by decide : 2 ≤ 16777216)
  refine b_cons (s_set (i := 1) (e_lits (K := []) (l := [p]) (ds := oddA) hp.here (lits_cons lit_none (lits_cons lit_int (lits_cons lit_bool (lits_cons lit_str (lits_cons lit_str (lits_cons lit_str (lits_cons lit_str (lits_cons lit_str (lits_cons lit_str (lits_cons lit_str (lits_cons lit_str (lits_cons lit_str (lits_cons (lit_lst hp.here (lits_cons lit_str (lits_cons lit_str lits_nil))) (lits_cons (lit_tup hp.here (lits_cons lit_str (lits_cons lit_str lits_nil))) (lits_cons (lit_dict0 hp.here) (lits_cons (lit_pow ⟨by decide, by decide, by decide⟩) lits_nil)))))))))))))))) fun q xs H1 b1 hq hql hds => ?_) C.nd)
  have hp1 := hp.new b1
  have nqp : q ≠ p := by simpa using hql
  refine b_cons (s_if (t_cmp (e_call (C.mono (by decide)) D0 (a_cons (e_name 0 (v := .ref p) (a_cons (e_int (a_nil ?_))))) rfl (fun _ _ _ _ _ _ us hl => match us, hl with | [_, _], _ => rfl))))
  refine ⟨p, 7, rfl, hp1, by decide, by decide, fun r H2 r0 r1 b2 hp2 => e_int (c_eq rfl ⟨_, rfl, ite_b (fun e => ?_) fun e => b_nil ?_⟩)⟩
  · -- an odd one
    refine b_cons (s_ret (e_tup (a_cons (e_call C D1 (a_cons (e_name 0 (v := .ref p) (a_cons (e_name 1 (v := .ref q) (a_nil ?_))))) rfl (fun _ _ _ _ _ _ us hl => match us, hl with | [_, _], _ => rfl)))))
    refine ⟨p, hp2, .inl ⟨q, xs, rfl, nqp, .inl (.inl (b2 _ _ (by simpa using nqp) hq)), by rw [hds.length]; decide, by rw [hds.length]; decide, fun v hv H3 b3 hp3 => a_cons (e_bool (a_nil ⟨two, fun t ht => ?_⟩))⟩⟩
    obtain ⟨d, hd, hdd⟩ := hds.mem hv
    have bt : But [] H3 (upd H3 t (.tup [v, .bl false])) := But.new ht
    exact hQ t v d false _ upd_same (((hdd.but b2).but b3).but (bt.mono (by simp))) (b1.of.trans (b2.trans (b3.trans bt.of))) (hp3.new bt) (fun z => by cases z) fun _ => hd
  · -- a right one
    refine b_cons (s_ret (e_tup (a_cons (e_call C D1 (a_cons (e_name 0 (v := .ref p) (a_cons (e_lits (K := []) (l := [p]) (ds := setsA.map .str) hp2.here (lits_cons lit_str (lits_cons lit_str (lits_cons lit_str (lits_cons lit_str (lits_cons lit_str (lits_cons lit_str lits_nil)))))) fun q2 ys H3 b3 hq2 hq2l hds2 => a_nil ?_)))) rfl (fun _ _ _ _ _ _ us hl => match us, hl with | [_, _], _ => rfl)))))
    have nq2 : q2 ≠ p := by simpa using hq2l
    refine ⟨p, hp2.new b3, .inl ⟨q2, ys, rfl, nq2, .inl (.inl hq2), by rw [hds2.length]; decide, by rw [hds2.length]; decide, fun v hv H4 b4 hp4 => a_cons (e_bool (a_nil ⟨two, fun t ht => ?_⟩))⟩⟩
    obtain ⟨d, hd, hdd⟩ := hds2.mem hv
    obtain ⟨g, hg, rfl⟩ := List.mem_map.mp hd
    have bt : But [] H4 (upd H4 t (.tup [v, .bl true])) := But.new ht
    exact hQ t v (.str g) true _ upd_same ((hdd.but b4).but (bt.mono (by simp))) (b1.of.trans (b2.trans (b3.of.trans (b4.trans bt.of)))) (hp4.new bt) (fun _ => ⟨g, rfl, sets_ok g hg⟩) (fun z => by cases z)
end
end K50

set_option Elab.async false
set_option linter.all false
set_option maxRecDepth 100000
set_option maxHeartbeats 1600000
namespace K50
open PySem PySem.Spec PyProof.Rows L2 Z LamX
/-! ### odd texts -/
abbrev odd10 (f : Str) (n : Nat) : List PyData := [.none, .int 0, .bool true, .str "", .str "B", .str (f ++ "#"), .str (Txt.mul f ((n : Int) + 1)), .list [.str f], .tuple [.str f], .dict []]
abbrev odd3 (f l : Str) (n : Nat) : List PyData := [.int (10 ^ 29), .str (Txt.mul l ((n : Int) + 5)), .str (f ++ " ")]
def oddT (f l : Str) (n : Nat) : List PyData := odd10 f n ++ odd3 f l n
section
variable {P : Program} {w : World} {K : PySem.W.Frag} {mg : Str → Option Value} {base : Heap}
def spOddT (K : PySem.W.Frag) : Sp := fun vs H Q _ => ∃ (p : Addr) (g : Str) (n c0 cl : Nat) (r : List Nat), vs = [.ref p, .str g, .int n] ∧ Pot H p ∧ g.cps.toList = c0 :: r ∧ (∃ ini, g.cps.toList = ini ++ [cl]) ∧ n ≤ 100 ∧ g.length ≤ 10 ∧
  ∀ v d H', d ∈ oddT ⟨#[c0]⟩ ⟨#[cl]⟩ n → DD [] [p] H' v d → But [p] H H' → Pot H' p → Q v H'
theorem scOt2 : FnScope ["pot", "alphabet", "top", "odd"] ["pot", "alphabet", "top"] (defScope (top 40)) := ⟨rfl, rfl, rfl, by decide +kernel, rfl, by decide +kernel, by decide +kernel⟩
theorem d_oddT (B : Blt mg base) (D : At K mg "_law_odd_text" (top 40)) (D1 : Def P w K mg base 2 "_law_pick" (top 37) ["pot", "some"] (spPick K)) : Def P w K mg base 3 "_law_odd_text" (top 40) ["pot", "alphabet", "top"] (spOddT K) := by
  refine def_of D B scOt2 (fun vs H Q E ⟨_, _, _, _, _, _, e, _⟩ => by rw [e]; rfl) fun f cdv A outer s H vs Q E hm C h => ?_
  obtain ⟨p, g, n, c0, cl, r, rfl, hp, hg, ⟨ini, hgl⟩, hn, hgn, hQ⟩ := h
  have sg : g.length ≤ sizeLine := by rw [sizeLine_eq]; omega
  have z2 : ∀ a b : Nat, a ≤ 10 → b ≤ 10 → a + b ≤ sizeLine := fun a b h1 h2 => by rw [sizeLine_eq]; omega
  have one : ∀ c : Nat, (⟨#[c]⟩ : Str).length = 1 := fun c => rfl
  have a0 : atI g.cps.toList 0 = some c0 := atI_nat (j := 0) (by rw [hg]; rfl)
  have al : atI g.cps.toList (-1) = some cl := by rw [hgl]; exact atI_last _ _
  refine b_cons (s_set (i := 3) (e_lits (K := []) (l := [p]) (ds := odd10 ⟨#[c0]⟩ n) hp.here (lits_cons lit_none (lits_cons lit_int (lits_cons lit_bool (lits_cons lit_str (lits_cons lit_str (lits_cons (fun H1 b1 => e_bin (e_ix (e_name 1 (v := .str g) (e_int (ix_s sg a0 (e_str (o_adds (z2 1 1 (by decide) (by decide)) ⟨But.refl, .str _⟩))))))) (lits_cons (fun H1 b1 => e_bin (e_ix (e_name 1 (v := .str g) (e_int (ix_s sg a0 (e_bin (e_name 2 (v := .int (n : Nat)) (e_int (o_add (o_mulS (by rw [one]; decide) (by omega) (by omega) ⟨But.refl, .str _⟩)))))))))) (lits_cons (lit_lst (ds := [.str ⟨#[c0]⟩]) hp.here (lits_cons (fun H1 b1 => e_ix (e_name 1 (v := .str g) (e_int (ix_s sg a0 ⟨But.refl, .str _⟩)))) lits_nil) (by show 1 ≤ 16777216; decide)) (lits_cons (lit_tup (ds := [.str ⟨#[c0]⟩]) hp.here (lits_cons (fun H1 b1 => e_ix (e_name 1 (v := .str g) (e_int (ix_s sg a0 ⟨But.refl, .str _⟩)))) lits_nil) (by show 1 ≤ 16777216; decide)) (lits_cons (lit_dict0 hp.here) lits_nil)))))))))) (fun q xs H1 b1 hq hql hds => ?_) (by show 10 ≤ 16777216; decide)) C.nd)
  have hp1 := hp.new b1
  have nqp : q ≠ p := by simpa using hql
  refine b_cons (s_ret (e_call C D1 (a_cons (e_name 0 (v := .ref p) (a_cons (e_bin (e_name 3 (v := .ref q) (e_lits (K := []) (l := [p]) (ds := odd3 ⟨#[c0]⟩ ⟨#[cl]⟩ n) hp1.here (lits_cons (lit_pow ⟨by decide, by decide, by decide⟩) (lits_cons (fun H1 b1 => e_bin (e_ix (e_name 1 (v := .str g) (e_un (e_int (u_neg (ix_s sg al (e_bin (e_name 2 (v := .int (n : Nat)) (e_int (o_add (o_mulS (by rw [one]; decide) (by omega) (by omega) ⟨But.refl, .str _⟩)))))))))))) (lits_cons (fun H1 b1 => e_bin (e_ix (e_name 1 (v := .str g) (e_int (ix_s sg a0 (e_str (o_adds (z2 1 1 (by decide) (by decide)) ⟨But.refl, .str _⟩))))))) lits_nil))) (fun q2 ys H2 b2 hq2 hq2l hds2 => ?_) (by show 3 ≤ 16777216; decide))))))) rfl (fun _ _ _ _ _ _ us hl => match us, hl with | [_, _], _ => rfl)))
  have lx : xs.length = 10 := hds.length
  have ly : ys.length = 3 := hds2.length
  refine o_cat (b2 _ _ (by simp) hq) hq2 (by rw [lx, ly, sizeLine_eq]; decide) fun q3 hq3 => a_nil ?_
  have b3 : But [] H2 (upd H2 q3 (.lst (xs ++ ys))) := But.new hq3
  have lxy : (xs ++ ys).length = 13 := by rw [List.length_append, lx, ly]
  refine ⟨p, (hp1.new b2).new b3, .inl ⟨q3, xs ++ ys, rfl, (hp1.new b2).there hq3, .inl (.inl upd_same), by rw [lxy]; decide, by rw [lxy]; decide, fun v hv H4 b4 hp4 => ?_⟩⟩
  obtain ⟨d, hd, hdd⟩ := (DDs.append ((hds.but (b2.mono (by simp))).but (b3.mono (by simp))) (hds2.but (b3.mono (by simp)))).mem hv
  exact hQ v d H4 hd (hdd.but b4) ((b1.trans (b2.trans b3)).of.trans b4) hp4
end
end K50

set_option Elab.async false
set_option linter.all false
set_option maxRecDepth 100000
set_option maxHeartbeats 1600000
namespace K50
open PySem PySem.Spec PyProof.Rows L2 Z LamX
/-! ### a care, a right one or an odd one -/
def oddC : List PyData := [.none, .bool true, .bool false, .int 0, .str "", .str "Whole", .str "inner ", .str "refus", .str "inside", .list [.str "whole"], .tuple [.str "inner"], .dict [], .str "wholes"]
section
variable {P : Program} {w : World} {K : PySem.W.Frag} {mg : Str → Option Value} {base : Heap}
theorem Here.go {l : List Addr} {H H' : Hp} {p : Addr} (h : Here l H) (b : But [p] H H') (hp : Pot H' p) : Here l H' := fun q hq => by
  by_cases e : q = p
  · obtain ⟨x, y, z, _⟩ := hp
    rw [e]
    exact ⟨_, z⟩
  · obtain ⟨o, ho⟩ := h q hq
    exact ⟨o, b q o (by simpa using e) ho⟩
def spCare : Sp := fun vs H Q _ => ∃ (p q : Addr) (ws : List Str) (l : List Addr), vs = [.ref p, .ref q] ∧ Pot H p ∧ p ∈ l ∧ Here l H ∧ q ≠ p ∧ H q = some (.lst (ws.map V.str)) ∧ 0 < ws.length ∧ ws.length ≤ 10 ∧
  ∀ t v (d : PyData) (ok : Bool) H', H' t = some (.tup [v, .bl ok]) → t ∉ l → DD [] l H' v d → But [p] H H' → Pot H' p → (ok = true → ∃ x ∈ ws, d = .str x) → (ok = false → d ∈ oddC) → Q (.ref t) H'
theorem scCa : FnScope ["pot", "words", "odd"] ["pot", "words"] (defScope (top 42)) := ⟨rfl, rfl, rfl, by decide +kernel, rfl, by decide +kernel, by decide +kernel⟩
theorem d_care (B : Blt mg base) (D : At K mg "_law_care" (top 42)) (D0 : Def P w K mg base 1 "_law_draw" (top 36) ["pot", "top"] spDraw) (D1 : Def P w K mg base 2 "_law_pick" (top 37) ["pot", "some"] (spPick K)) : Def P w K mg base 3 "_law_care" (top 42) ["pot", "words"] spCare := by
  refine def_of D B scCa (fun vs H Q E ⟨_, _, _, _, e, _⟩ => by rw [e]; rfl) fun f cdv A outer s H vs Q E hm C h => ?_
  obtain ⟨p, qw, ws, l, rfl, hp, hpl, hh, nqw, hqw, w0, w10, hQ⟩ := h
  have two : 2 ≤ sizeLine := by rw [sizeLine_eq]; exact (by decide : 2 ≤ 16777216)
  have nw1 : qw ∉ [p] := by simpa using nqw
  refine b_cons (s_set (i := 2) (e_lits (K := []) (l := l) (ds := oddC) hh (lits_cons lit_none (lits_cons lit_bool (lits_cons lit_bool (lits_cons lit_int (lits_cons lit_str (lits_cons lit_str (lits_cons lit_str (lits_cons lit_str (lits_cons lit_str (lits_cons (lit_lst hh (lits_cons lit_str lits_nil)) (lits_cons (lit_tup hh (lits_cons lit_str lits_nil)) (lits_cons (lit_dict0 hh) (lits_cons lit_str lits_nil))))))))))))) fun q xs H1 b1 hq hql hds => ?_) C.nd)
  have hp1 := hp.new b1
  have nqp : q ≠ p := fun z => hql (z ▸ hpl)
  have up : ∀ {H1 H2 : Hp}, But [p] H1 H2 → But l H1 H2 := fun b => b.mono fun z hz => by rw [List.mem_singleton.mp hz]; exact hpl
  refine b_cons (s_if (t_cmp (e_call (C.mono (by decide)) D0 (a_cons (e_name 0 (v := .ref p) (a_cons (e_int (a_nil ?_))))) rfl (fun _ _ _ _ _ _ us hl => match us, hl with | [_, _], _ => rfl))))
  refine ⟨p, 9, rfl, hp1, by decide, by decide, fun r H2 r0 r1 b2 hp2 => e_int (c_eq rfl ⟨_, rfl, ite_b (fun e => ?_) fun e => b_nil ?_⟩)⟩
  · refine b_cons (s_ret (e_tup (a_cons (e_call C D1 (a_cons (e_name 0 (v := .ref p) (a_cons (e_name 2 (v := .ref q) (a_nil ?_))))) rfl (fun _ _ _ _ _ _ us hl => match us, hl with | [_, _], _ => rfl)))))
    refine ⟨p, hp2, .inl ⟨q, xs, rfl, nqp, .inl (.inl (b2 _ _ (by simpa using nqp) hq)), by rw [hds.length]; decide, by rw [hds.length]; decide, fun v hv H3 b3 hp3 => a_cons (e_bool (a_nil ⟨two, fun t ht => ?_⟩))⟩⟩
    obtain ⟨d, hd, hdd⟩ := hds.mem hv
    have bt : But [] H3 (upd H3 t (.tup [v, .bl false])) := But.new ht
    have hh3 := Here.go hh (b1.of.trans (b2.trans b3)) hp3
    exact hQ t v d false _ upd_same (fun z => by obtain ⟨o, ho⟩ := hh3 t z; rw [ht] at ho; cases ho) (((hdd.but (up b2)).but (up b3)).but (bt.mono (by simp))) (b1.of.trans (b2.trans (b3.trans bt.of))) (hp3.new bt) (fun z => by cases z) fun _ => hd
  · refine b_cons (s_ret (e_tup (a_cons (e_call C D1 (a_cons (e_name 0 (v := .ref p) (a_cons (e_name 1 (v := .ref qw) (a_nil ?_))))) rfl (fun _ _ _ _ _ _ us hl => match us, hl with | [_, _], _ => rfl)))))
    refine ⟨p, hp2, .inl ⟨qw, ws.map V.str, rfl, nqw, .inl (.inl (b2 _ _ nw1 (b1 _ _ (by simp) hqw))), by rw [List.length_map]; exact w0, by rw [List.length_map]; omega, fun v hv H4 b4 hp4 => a_cons (e_bool (a_nil ⟨two, fun t ht => ?_⟩))⟩⟩
    obtain ⟨x, hx, rfl⟩ := List.mem_map.mp hv
    have bt : But [] H4 (upd H4 t (.tup [.str x, .bl true])) := But.new ht
    have hh4 := Here.go hh (b1.of.trans (b2.trans b4)) hp4
    exact hQ t (.str x) (.str x) true _ upd_same (fun z => by obtain ⟨o, ho⟩ := hh4 t z; rw [ht] at ho; cases ho) (.str x) (b1.of.trans (b2.trans (b4.trans bt.of))) (hp4.new bt) (fun _ => ⟨x, hx, rfl⟩) (fun z => by cases z)
end
end K50

set_option Elab.async false
set_option linter.all false
set_option maxRecDepth 100000
set_option maxHeartbeats 1600000
namespace K50
open PySem PySem.Spec PyProof.Rows L2 Z LamX
/-! ### what is due -/
/-- what was drawn, and whether it is right -/
structure Drawn (H : Hp) (t : Addr) (v : V) (d : PyData) (ok : Bool) : Prop where
  at_ : H t = some (.tup [v, .bl ok])
  dd : DD [] [] H v d
theorem Drawn.new {H H' : Hp} {t : Addr} {v : V} {d : PyData} {ok : Bool} (h : Drawn H t v d ok) (b : But [] H H') : Drawn H' t v d ok := ⟨b _ _ (by simp) h.at_, h.dd.but b⟩
abbrev Care4 := Str × Addr × V × PyData × Bool
def nm4 (n : Nat) : Str := ["sight", "order", "further", "finish"].getD n ""
def dueC : List Care4 → List PyData
  | [] => []
  | (nm, _, _, e, ok) :: r => if ok = false then [.str "care", .str nm, e, .bool true] else dueC r
def dueL (d1 : PyData) (ok1 : Bool) (at_ : Option Int) (d3 : PyData) (ok3 : Bool) (cs : List Care4) : List PyData :=
  if ok1 = false then [.str "signs", d1, .bool true]
  else if at_ ≠ some (-1) then [.str "marks", (match at_ with | some i => .int i | none => .none), .bool true]
  else if ok3 = false then [.str "tail", d3, .bool true]
  else dueC cs
def atV : Option Int → V | some i => .int i | none => .non
def atD : Option Int → PyData | some i => .int i | none => .none
section
variable {P : Program} {w : World} {K : PySem.W.Frag} {mg : Str → Option Value} {base : Heap}
def spDueR : Sp := fun vs H Q _ => ∃ (t1 tL t3 cd c1 c2 c3 c4 : Addr) (v1 vL v3 w1 w2 w3 w4 : V) (d1 d3 e1 e2 e3 e4 : PyData) (ok1 ok3 k1 k2 k3 k4 : Bool) (at_ : Option Int), vs = [.ref t1, .ref tL, .ref t3, .ref cd] ∧ Drawn H t1 v1 d1 ok1 ∧ H tL = some (.tup [vL, atV at_]) ∧ Drawn H t3 v3 d3 ok3 ∧
  H cd = some (.dK [(.inr "sight", .ref c1), (.inr "order", .ref c2), (.inr "further", .ref c3), (.inr "finish", .ref c4)]) ∧ Drawn H c1 w1 e1 k1 ∧ Drawn H c2 w2 e2 k2 ∧ Drawn H c3 w3 e3 k3 ∧ Drawn H c4 w4 e4 k4 ∧
  ∀ q us H', But [] H H' → H q = none → H' q = some (.lst us) → DDs [] [] H' us (dueL d1 ok1 at_ d3 ok3 [("sight", c1, w1, e1, k1), ("order", c2, w2, e2, k2), ("further", c3, w3, e3, k3), ("finish", c4, w4, e4, k4)]) → Q (.ref q) H'
theorem scDr : FnScope ["alphabet", "labels", "ending", "cares", "label"] ["alphabet", "labels", "ending", "cares"] (defScope (top 44)) := ⟨rfl, rfl, rfl, by decide +kernel, rfl, by decide +kernel, by decide +kernel⟩
theorem d_dueR (B : Blt mg base) (D : At K mg "_law_due" (top 44)) : Def P w K mg base 1 "_law_due" (top 44) ["alphabet", "labels", "ending", "cares"] spDueR := by
  refine def_of D B scDr (fun vs H Q E ⟨_, _, _, _, _, _, _, _, _, _, _, _, _, _, _, _, _, _, _, _, _, _, _, _, _, _, _, _, e, _⟩ => by rw [e]; rfl) fun f cdv A outer s H vs Q E hm C h => ?_
  obtain ⟨t1, tL, t3, cd, c1, c2, c3, c4, v1, vL, v3, w1, w2, w3, w4, d1, d3, e1, e2, e3, e4, ok1, ok3, k1, k2, k3, k4, at_, rfl, h1, hL, h3, hcd, g1, g2, g3, g4, hQ⟩ := h
  have sz : ∀ n, n ≤ 16777216 → n ≤ sizeLine := fun n hn => by rw [sizeLine_eq]; exact hn
  refine b_cons (s_ifB (!ok1) ?_ (fun e H1 b1 => ?_) (fun e H1 b1 => b_nil ?_))
  · exact t_not (t_val (e_ix (e_name 0 (v := .ref t1) (e_int (ix_t (.inl (.inl h1.at_)) (v := .bl ok1) rfl ⟨ok1, rfl, rfl, But.refl⟩)))))
  · have e : ok1 = false := by simpa using e
    have h1' := h1.new b1
    refine b_cons (s_ret (e_lst (a_cons (e_str (a_cons (e_ix (e_name 0 (v := .ref t1) (e_int (ix_t (.inl (.inl h1'.at_)) (v := v1) rfl (a_cons (e_bool (a_nil ⟨sz 3 (by decide), fun q hq => ?_⟩))))))))))))
    have bq := But.new (l := []) (o := .lst [.str "signs", v1, .bl true]) hq
    refine hQ q _ _ (b1.trans bq) (b1.free hq) upd_same ?_
    unfold dueL
    rw [if_pos e]
    exact .cons (.str _) (.cons (h1'.dd.but bq) (.cons (.bl _) .nil))
  have e0 : ¬ ok1 = false := by simpa using e
  have hL1 := b1 _ _ (by simp) hL
  refine b_cons (s_ifB (!decide (atV at_ = .int (-1))) ?_ (fun e H2 b2 => ?_) (fun e H2 b2 => b_nil ?_))
  · exact t_cmp (e_ix (e_name 1 (v := .ref tL) (e_int (ix_t (.inl (.inl hL1)) (v := atV at_) rfl (e_un (e_int (u_neg (c_ne (by cases at_ <;> rfl) ⟨_, rfl, rfl, But.refl⟩))))))))
  · have ne : at_ ≠ some (-1) := fun z => by rw [z] at e; cases e
    have b12 := b1.trans b2
    have hL2 := b12 _ _ (by simp) hL
    refine b_cons (s_ret (e_lst (a_cons (e_str (a_cons (e_ix (e_name 1 (v := .ref tL) (e_int (ix_t (.inl (.inl hL2)) (v := atV at_) rfl (a_cons (e_bool (a_nil ⟨sz 3 (by decide), fun q hq => ?_⟩))))))))))))
    have bq := But.new (l := []) (o := .lst [.str "marks", atV at_, .bl true]) hq
    refine hQ q _ _ (b12.trans bq) (b12.free hq) upd_same ?_
    unfold dueL
    rw [if_neg e0, if_pos ne]
    refine .cons (.str _) (.cons ?_ (.cons (.bl _) .nil))
    cases at_
    · exact .non
    · exact .int _
  have eat : ¬ at_ ≠ some (-1) := fun z => by
    cases at_ with
    | none => simp [atV] at e
    | some i =>
      simp only [atV, Bool.not_eq_false', decide_eq_true_eq, V.int.injEq] at e
      exact z (by rw [e])
  have b12 := b1.trans b2
  have h32 := h3.new b12
  refine b_cons (s_ifB (!ok3) ?_ (fun e H3 b3 => ?_) (fun e H3 b3 => b_nil ?_))
  · exact t_not (t_val (e_ix (e_name 2 (v := .ref t3) (e_int (ix_t (.inl (.inl h32.at_)) (v := .bl ok3) rfl ⟨ok3, rfl, rfl, But.refl⟩)))))
  · have e : ok3 = false := by simpa using e
    have h3' := h32.new b3
    have b13 := b12.trans b3
    refine b_cons (s_ret (e_lst (a_cons (e_str (a_cons (e_ix (e_name 2 (v := .ref t3) (e_int (ix_t (.inl (.inl h3'.at_)) (v := v3) rfl (a_cons (e_bool (a_nil ⟨sz 3 (by decide), fun q hq => ?_⟩))))))))))))
    have bq := But.new (l := []) (o := .lst [.str "tail", v3, .bl true]) hq
    refine hQ q _ _ (b13.trans bq) (b13.free hq) upd_same ?_
    unfold dueL
    rw [if_neg e0, if_neg eat, if_pos e]
    exact .cons (.str _) (.cons (h3'.dd.but bq) (.cons (.bl _) .nil))
  have e3' : ¬ ok3 = false := by simpa using e
  have b13 := b12.trans b3
  have hQ3 : ∀ q us H', But [] H H' → H q = none → H' q = some (.lst us) → DDs [] [] H' us (dueC [("sight", c1, w1, e1, k1), ("order", c2, w2, e2, k2), ("further", c3, w3, e3, k3), ("finish", c4, w4, e4, k4)]) → Q (.ref q) H' := fun q us H' b hn hq hd => hQ q us H' b hn hq (by unfold dueL; rw [if_neg e0, if_neg eat, if_neg e3']; exact hd)
  clear hQ
  have hcd3 := b13 _ _ (by simp) hcd
  have f1 := g1.new b13
  have f2 := g2.new b13
  have f3 := g3.new b13
  have f4 := g4.new b13
  refine b_cons (s_for C (i_list (e_lst (a_cons (e_str (a_cons (e_str (a_cons (e_str (a_cons (e_str (a_nil ⟨sz 4 (by decide), fun L hL => ?_⟩))))))))))))
  have bL : But [] H3 (upd H3 L (.lst [.str "sight", .str "order", .str "further", .str "finish"])) := But.new hL
  have hLL : upd H3 L (.lst [.str "sight", .str "order", .str "further", .str "finish"]) L = some (.lst [.str "sight", .str "order", .str "further", .str "finish"]) := upd_same
  generalize upd H3 L (.lst [.str "sight", .str "order", .str "further", .str "finish"]) = HL at bL hLL ⊢
  refine ⟨L, rfl, ⟨_, .inl (.inl hLL)⟩, _, _, _, walk_list (xs := [.str "sight", .str "order", .str "further", .str "finish"]), fun i σ H' => (∃ v4, σ = [some (.ref t1), some (.ref tL), some (.ref t3), some (.ref cd), v4]) ∧ But [] HL H' ∧ dueC [("sight", c1, w1, e1, k1), ("order", c2, w2, e2, k2), ("further", c3, w3, e3, k3), ("finish", c4, w4, e4, k4)] = dueC (([("sight", c1, w1, e1, k1), ("order", c2, w2, e2, k2), ("further", c3, w3, e3, k3), ("finish", c4, w4, e4, k4)] : List Care4).drop i),
    ⟨⟨none, rfl⟩, But.refl, rfl⟩, fun i σ H' _ h => .inl (.inl (h.2.1 _ _ (by simp) hLL)), ?_, ?_⟩
  · rintro i x σ H5 H6 hi ⟨⟨v4, rfl⟩, b5, hdu⟩ ⟨rfl, hx⟩
    obtain ⟨nm, c, w, e, k, rfl, hval, hdr, hdc⟩ : ∃ (nm : Str) (c : Addr) (w : V) (e : PyData) (k : Bool), x = .str nm ∧ valV ([(.inr "sight", .ref c1), (.inr "order", .ref c2), (.inr "further", .ref c3), (.inr "finish", .ref c4)] : List (Key × V)) (Sum.inr nm : Key) = some (.ref c) ∧ Drawn H3 c w e k ∧
        dueC (([("sight", c1, w1, e1, k1), ("order", c2, w2, e2, k2), ("further", c3, w3, e3, k3), ("finish", c4, w4, e4, k4)] : List Care4).drop i) = (if k = false then [.str "care", .str nm, e, .bool true] else dueC (([("sight", c1, w1, e1, k1), ("order", c2, w2, e2, k2), ("further", c3, w3, e3, k3), ("finish", c4, w4, e4, k4)] : List Care4).drop (i + 1))) := by
      match i, hi, hx with
      | 0, _, hx => cases hx; exact ⟨_, c1, w1, e1, k1, rfl, rfl, f1, rfl⟩
      | 1, _, hx => cases hx; exact ⟨_, c2, w2, e2, k2, rfl, rfl, f2, rfl⟩
      | 2, _, hx => cases hx; exact ⟨_, c3, w3, e3, k3, rfl, rfl, f3, rfl⟩
      | 3, _, hx => cases hx; exact ⟨_, c4, w4, e4, k4, rfl, rfl, f4, rfl⟩
      | n + 4, h, _ => exact absurd h (by show ¬ n + 4 < 4; omega)
    refine g_name (i := 4) ?_ C.nd
    have b35 := bL.trans b5
    have hd5 := hdr.new b35
    have hget : DGet H6 cd (.str nm) (some (.ref c)) := by rw [← hval]; exact DGet.k (k := .inr nm) (b35 _ _ (by simp) hcd3)
    refine b_cons (s_ifB (!k) ?_ (fun ek H7 b7 => ?_) (fun ek H7 b7 => b_nil (b_nil ⟨⟨_, rfl⟩, b5.trans b7, ?_⟩)))
    · exact t_not (t_val (e_ix (e_dget C (e_name 3 (v := .ref cd) (e_name 4 (v := .str nm) ⟨rfl, hget, e_int (ix_t (.inl (.inl hd5.at_)) (v := .bl k) rfl ⟨k, rfl, rfl, But.refl⟩)⟩)))))
    · have ek : k = false := by simpa using ek
      have hd7 := hd5.new b7
      have hget7 : DGet H7 cd (.str nm) (some (.ref c)) := by rw [← hval]; exact DGet.k (k := .inr nm) ((b35.trans b7) _ _ (by simp) hcd3)
      refine b_cons (s_ret (e_lst (a_cons (e_str (a_cons (e_name 4 (v := .str nm) (a_cons (e_ix (e_dget C (e_name 3 (v := .ref cd) (e_name 4 (v := .str nm) ⟨rfl, hget7, e_int (ix_t (.inl (.inl hd7.at_)) (v := w) rfl (a_cons (e_bool (a_nil ⟨sz 4 (by decide), fun q hq => ?_⟩))))⟩)))))))))))
      have bq := But.new (l := []) (o := .lst [.str "care", .str nm, w, .bl true]) hq
      have b17 := b13.trans (b35.trans b7)
      refine hQ3 q _ _ (b17.trans bq) (b17.free hq) upd_same ?_
      rw [hdu, hdc, if_pos ek]
      exact .cons (.str _) (.cons (.str _) (.cons (hd7.dd.but bq) (.cons (.bl _) .nil)))
    · have ek : ¬ k = false := by simpa using ek
      rw [hdu, hdc, if_neg ek]
  · rintro σ H5 ⟨⟨v4, rfl⟩, b5, hdu⟩
    refine b_cons (s_ret (e_lst (a_nil ⟨sz 0 (by decide), fun q hq => ?_⟩)))
    have b15 := b13.trans (bL.trans b5)
    have bq := But.new (l := []) (o := .lst []) hq
    refine hQ3 q _ _ (b15.trans bq) (b15.free hq) upd_same ?_
    rw [hdu]
    exact .nil
end
end K50

set_option Elab.async false
set_option linter.all false
set_option maxRecDepth 100000
set_option maxHeartbeats 4000000
namespace K50
open PySem PySem.Spec PyProof.Rows L2 Z
section
variable {P : Program} {w : World} {K : PySem.W.Frag} {mg : Str → Option Value} {base : Heap} {CR : Addr}
def spGet (CR : Addr) (f : RData → V) : Sp := fun vs H Q _ => ∃ r R, vs = [.ref r] ∧ IsReader CR R H r ∧ Q (f R) H
theorem scG1 : FnScope ["self"] ["self"] (defScope (clsAt (top 33) 1)) := ⟨rfl, rfl, rfl, by decide +kernel, rfl, by decide +kernel, by decide +kernel⟩
theorem scG2 : FnScope ["self"] ["self"] (defScope (clsAt (top 33) 2)) := ⟨rfl, rfl, rfl, by decide +kernel, rfl, by decide +kernel, by decide +kernel⟩
theorem scG3 : FnScope ["self"] ["self"] (defScope (clsAt (top 33) 3)) := ⟨rfl, rfl, rfl, by decide +kernel, rfl, by decide +kernel, by decide +kernel⟩
/-- what the head tells of a property -/
structure PropAt (K : PySem.W.Frag) (CR : Addr) (m q : Str) (st : Stmt) : Prop where
  ex : ∃ (pr f : Addr) (oc doc pm cdv ct : Value) (od an : Option Addr) (osl : Array (Option Value)), PropOf K CR m pr f ∧ K.lookup f = some ⟨oc, od, .func (PySem.W.fnOf m q (defArgs st) (defBody st) (defScope st) .none .none doc pm an cdv ct), osl⟩ ∧ PySem.W.codeIn K cdv q = true
structure MethAt (K : PySem.W.Frag) (CR : Addr) (m q : Str) (st : Stmt) : Prop where
  ex : ∃ (f : Addr) (oc doc pm cdv ct : Value) (od an : Option Addr) (osl : Array (Option Value)), Meth K CR m f ∧ K.lookup f = some ⟨oc, od, .func (PySem.W.fnOf m q (defArgs st) (defBody st) (defScope st) .none .none doc pm an cdv ct), osl⟩ ∧ PySem.W.codeIn K cdv q = true
theorem bind1 {m q : Str} {st : Stmt} {dV kV doc pm cdv ct : Value} {an : Option Addr} (h : ∀ us : List Value, us.length = (["self"] : List Str).length → bindArgs (PySem.W.fnOf m q (defArgs st) (defBody st) (defScope st) dV kV doc pm an cdv ct) ⟨us, []⟩ = pure ((["self"] : List Str).zip us)) :
    Binds K (PySem.W.fnOf m q (defArgs st) (defBody st) (defScope st) dV kV doc pm an cdv ct) ["self"] [] := Binds.all h
theorem d_signs (B : Blt mg base) (CL : ClsR K CR) (D : PropAt K CR "signs" "Reader.signs" (clsAt (top 33) 1)) : PropOk P w K mg base 1 CR "signs" (spGet CR fun R => .str R.g) := by
  obtain ⟨pr, f, oc, doc, pm, cdv, ct, od, an, osl, hp, lk, hcd⟩ := D.ex
  refine ⟨pr, f, _, hp, fnok_body B lk hcd scG1 (fun vs H Q E ⟨_, _, e, _⟩ => by rw [e]; rfl) fun A outer s H vs Q E C h => ?_, bind1 fun us hl => match us, hl with | [_], _ => rfl⟩
  obtain ⟨r, R, rfl, hr, q⟩ := h
  obtain ⟨dx, ml, cd, h1, h2, h3⟩ := hr.ex
  exact b_cons (s_ret (e_fld (e_name 0 ⟨rfl, h1, q⟩) CL.c CL.n1 rfl))
theorem d_tail (B : Blt mg base) (CL : ClsR K CR) (D : PropAt K CR "tail" "Reader.tail" (clsAt (top 33) 2)) : PropOk P w K mg base 1 CR "tail" (spGet CR fun R => .str R.t) := by
  obtain ⟨pr, f, oc, doc, pm, cdv, ct, od, an, osl, hp, lk, hcd⟩ := D.ex
  refine ⟨pr, f, _, hp, fnok_body B lk hcd scG2 (fun vs H Q E ⟨_, _, e, _⟩ => by rw [e]; rfl) fun A outer s H vs Q E C h => ?_, bind1 fun us hl => match us, hl with | [_], _ => rfl⟩
  obtain ⟨r, R, rfl, hr, q⟩ := h
  obtain ⟨dx, ml, cd, h1, h2, h3⟩ := hr.ex
  exact b_cons (s_ret (e_fld (e_name 0 ⟨rfl, h1, q⟩) CL.c CL.n3 rfl))
theorem d_depth (B : Blt mg base) (CL : ClsR K CR) (D : PropAt K CR "depth" "Reader.depth" (clsAt (top 33) 3)) : PropOk P w K mg base 1 CR "depth" (spGet CR fun R => .int (R.ms.length : Nat)) := by
  obtain ⟨pr, f, oc, doc, pm, cdv, ct, od, an, osl, hp, lk, hcd⟩ := D.ex
  refine ⟨pr, f, _, hp, fnok_body B lk hcd scG3 (fun vs H Q E ⟨_, _, e, _⟩ => by rw [e]; rfl) fun A outer s H vs Q E C h => ?_, bind1 fun us hl => match us, hl with | [_], _ => rfl⟩
  obtain ⟨r, R, rfl, hr, q⟩ := h
  obtain ⟨dx, ml, cd, h1, h2, h3⟩ := hr.ex
  exact b_cons (s_ret (e_len B (e_fld (v := .ref ml) (e_name 0 ⟨rfl, h1, R.ms.length, .inl ⟨_, .inl (.inl h2), by simp⟩, q⟩) CL.c CL.n2 rfl)))
end
end K50

set_option Elab.async false
set_option linter.all false
set_option maxRecDepth 100000
set_option maxHeartbeats 1600000
namespace K50
open PySem PySem.Spec PyProof.Rows L2 Z LamX
/-! ### what a reader tells -/
section
variable {P : Program} {w : World} {K : PySem.W.Frag} {mg : Str → Option Value} {base : Heap} {CR : Addr}
theorem scG4 : FnScope ["self"] ["self"] (defScope (clsAt (top 33) 4)) := ⟨rfl, rfl, rfl, by decide +kernel, rfl, by decide +kernel, by decide +kernel⟩
theorem scG5 : FnScope ["self"] ["self"] (defScope (clsAt (top 33) 5)) := ⟨rfl, rfl, rfl, by decide +kernel, rfl, by decide +kernel, by decide +kernel⟩
theorem scG6 : FnScope ["self"] ["self"] (defScope (clsAt (top 33) 6)) := ⟨rfl, rfl, rfl, by decide +kernel, rfl, by decide +kernel, by decide +kernel⟩
theorem scG7 : FnScope ["self"] ["self"] (defScope (clsAt (top 33) 7)) := ⟨rfl, rfl, rfl, by decide +kernel, rfl, by decide +kernel, by decide +kernel⟩
theorem d_sight (B : Blt mg base) (CL : ClsR K CR) (D : PropAt K CR "sight" "Reader.sight" (clsAt (top 33) 4)) : PropOk P w K mg base 1 CR "sight" (spGet CR fun R => .str R.si) := by
  obtain ⟨pr, f, oc, doc, pm, cdv, ct, od, an, osl, hp, lk, hcd⟩ := D.ex
  refine ⟨pr, f, _, hp, fnok_body B lk hcd scG4 (fun vs H Q E ⟨_, _, e, _⟩ => by rw [e]; rfl) fun A outer s H vs Q E C h => ?_, bind1 fun us hl => match us, hl with | [_], _ => rfl⟩
  obtain ⟨r, R, rfl, hr, q⟩ := h
  obtain ⟨dx, ml, cd, h1, h2, h3⟩ := hr.ex
  exact b_cons (s_ret (e_dget C (e_fld (v := .ref cd) (e_name 0 ⟨rfl, h1, e_str ⟨rfl, DGet.k (k := .inr "sight") h3, q⟩⟩) CL.c CL.n4 rfl)))
theorem d_order (B : Blt mg base) (CL : ClsR K CR) (D : PropAt K CR "order" "Reader.order" (clsAt (top 33) 5)) : PropOk P w K mg base 1 CR "order" (spGet CR fun R => .str R.od) := by
  obtain ⟨pr, f, oc, doc, pm, cdv, ct, od, an, osl, hp, lk, hcd⟩ := D.ex
  refine ⟨pr, f, _, hp, fnok_body B lk hcd scG5 (fun vs H Q E ⟨_, _, e, _⟩ => by rw [e]; rfl) fun A outer s H vs Q E C h => ?_, bind1 fun us hl => match us, hl with | [_], _ => rfl⟩
  obtain ⟨r, R, rfl, hr, q⟩ := h
  obtain ⟨dx, ml, cd, h1, h2, h3⟩ := hr.ex
  exact b_cons (s_ret (e_dget C (e_fld (v := .ref cd) (e_name 0 ⟨rfl, h1, e_str ⟨rfl, DGet.k (k := .inr "order") h3, q⟩⟩) CL.c CL.n4 rfl)))
theorem d_further (B : Blt mg base) (CL : ClsR K CR) (D : PropAt K CR "further" "Reader.further" (clsAt (top 33) 6)) : PropOk P w K mg base 1 CR "further" (spGet CR fun R => .str R.fu) := by
  obtain ⟨pr, f, oc, doc, pm, cdv, ct, od, an, osl, hp, lk, hcd⟩ := D.ex
  refine ⟨pr, f, _, hp, fnok_body B lk hcd scG6 (fun vs H Q E ⟨_, _, e, _⟩ => by rw [e]; rfl) fun A outer s H vs Q E C h => ?_, bind1 fun us hl => match us, hl with | [_], _ => rfl⟩
  obtain ⟨r, R, rfl, hr, q⟩ := h
  obtain ⟨dx, ml, cd, h1, h2, h3⟩ := hr.ex
  exact b_cons (s_ret (e_dget C (e_fld (v := .ref cd) (e_name 0 ⟨rfl, h1, e_str ⟨rfl, DGet.k (k := .inr "further") h3, q⟩⟩) CL.c CL.n4 rfl)))
theorem d_finish (B : Blt mg base) (CL : ClsR K CR) (D : PropAt K CR "finish" "Reader.finish" (clsAt (top 33) 7)) : PropOk P w K mg base 1 CR "finish" (spGet CR fun R => .str R.fi) := by
  obtain ⟨pr, f, oc, doc, pm, cdv, ct, od, an, osl, hp, lk, hcd⟩ := D.ex
  refine ⟨pr, f, _, hp, fnok_body B lk hcd scG7 (fun vs H Q E ⟨_, _, e, _⟩ => by rw [e]; rfl) fun A outer s H vs Q E C h => ?_, bind1 fun us hl => match us, hl with | [_], _ => rfl⟩
  obtain ⟨r, R, rfl, hr, q⟩ := h
  obtain ⟨dx, ml, cd, h1, h2, h3⟩ := hr.ex
  exact b_cons (s_ret (e_dget C (e_fld (v := .ref cd) (e_name 0 ⟨rfl, h1, e_str ⟨rfl, DGet.k (k := .inr "finish") h3, q⟩⟩) CL.c CL.n4 rfl)))
def spMarksOf (CR : Addr) : Sp := fun vs H Q _ => ∃ r R, vs = [.ref r] ∧ IsReader CR R H r ∧ ∀ q H', But [] H H' → H q = none → H' q = some (.lst (R.ms.map V.str)) → Q (.ref q) H'
theorem scMk : FnScope ["self"] ["self"] (defScope (clsAt (top 33) 8)) := ⟨rfl, rfl, rfl, by decide +kernel, rfl, by decide +kernel, by decide +kernel⟩
theorem d_marksOf (B : Blt mg base) (CL : ClsR K CR) (D : MethAt K CR "marks" "Reader.marks" (clsAt (top 33) 8)) : MethOk P w K mg base 1 CR "marks" ["self"] (spMarksOf CR) := by
  obtain ⟨f, oc, doc, pm, cdv, ct, od, an, osl, hp, lk, hcd⟩ := D.ex
  refine ⟨f, _, hp, fnok_body B lk hcd scMk (fun vs H Q E ⟨_, _, e, _⟩ => by rw [e]; rfl) fun A outer s H vs Q E C h => ?_, Binds.all fun us hl => match us, hl with | [_], _ => rfl⟩
  obtain ⟨r, R, rfl, hr, q⟩ := h
  obtain ⟨dx, ml, cd, h1, h2, h3⟩ := hr.ex
  refine b_cons (s_ret (e_listOf B (e_fld (v := .ref ml) (e_name 0 ⟨rfl, h1, ⟨ml, _, rfl, .inl (.inl (.inl h2)), fun p hp => q p _ (But.new hp) hp upd_same⟩⟩) CL.c CL.n2 rfl)))
end
end K50

set_option Elab.async false
set_option linter.all false
set_option maxRecDepth 100000
set_option maxHeartbeats 1600000
namespace K50
open PySem PySem.Spec PyProof.Rows L2 Z LamX
/-! ### a reader compared with what it was made of -/
def eightD (R : RData) : PyData := .list [.str R.g, .list (R.ms.map .str), .str R.t, .int (R.ms.length : Nat), .str R.si, .str R.od, .str R.fu, .str R.fi]
section
variable {P : Program} {w : World} {K : PySem.W.Frag} {mg : Str → Option Value} {base : Heap} {CR : Addr}
def spIs (CR : Addr) : Sp := fun vs H Q _ => ∃ (r : Addr) (R : RData) (v2 : V) (d2 : PyData) (cd c1 c2 c3 c4 : Addr) (k1 k2 k3 k4 : Bool), vs = [.ref r, .str R.g, v2, .str R.t, .ref cd] ∧ IsReader CR R H r ∧ R.Ok ∧ rp (eightD R) = true ∧ DD [] [] H v2 d2 ∧ seqB d2 = true ∧ items d2 = R.ms.map .str ∧
  H cd = some (.dK [(.inr "sight", .ref c1), (.inr "order", .ref c2), (.inr "further", .ref c3), (.inr "finish", .ref c4)]) ∧ H c1 = some (.tup [.str R.si, .bl k1]) ∧ H c2 = some (.tup [.str R.od, .bl k2]) ∧ H c3 = some (.tup [.str R.fu, .bl k3]) ∧ H c4 = some (.tup [.str R.fi, .bl k4]) ∧
  ∀ H', But [] H H' → Q (.bl true) H'
theorem scIs : FnScope ["made", "alphabet", "labels", "ending", "cares", "told", "due"] ["made", "alphabet", "labels", "ending", "cares"] (defScope (top 45)) := ⟨rfl, rfl, rfl, by decide +kernel, rfl, by decide +kernel, by decide +kernel⟩
theorem d_is (B : Blt mg base) (CL : ClsR K CR) (D : At K mg "_law_is" (top 45)) (gS : PropOk P w K mg base 1 CR "signs" (spGet CR fun R => .str R.g)) (gM : MethOk P w K mg base 1 CR "marks" ["self"] (spMarksOf CR)) (gT : PropOk P w K mg base 1 CR "tail" (spGet CR fun R => .str R.t)) (gD : PropOk P w K mg base 1 CR "depth" (spGet CR fun R => .int (R.ms.length : Nat)))
    (gSi : PropOk P w K mg base 1 CR "sight" (spGet CR fun R => .str R.si)) (gO : PropOk P w K mg base 1 CR "order" (spGet CR fun R => .str R.od)) (gFu : PropOk P w K mg base 1 CR "further" (spGet CR fun R => .str R.fu)) (gFi : PropOk P w K mg base 1 CR "finish" (spGet CR fun R => .str R.fi)) :
    DefG P w K mg base 3 "_law_is" (top 45) ["made", "alphabet", "labels", "ending", "cares"] (spIs CR) := by
  refine defG_of D B scIs (fun vs H Q E ⟨_, _, _, _, _, _, _, _, _, _, _, _, _, e, _⟩ => by rw [e]; rfl) fun f cdv A outer s H vs Q E hm C g h => ?_
  obtain ⟨r, R, v2, d2, cd, c1, c2, c3, c4, k1, k2, k3, k4, rfl, hr, ok, hrp, hd2, hsq, hit, hcd, g1, g2, g3, g4, hQ⟩ := h
  have sz : ∀ n, n ≤ 16777216 → n ≤ sizeLine := fun n hn => by rw [sizeLine_eq]; exact hn
  obtain ⟨dx, ml, cd0, h1, _, _⟩ := hr.ex
  refine b_cons (s_set (i := 5) (e_lst (a_cons (e_prop (C.mono (by decide)) CL.c gS (e_name 0 (v := .ref r) ⟨rfl, h1, r, R, rfl, hr, ?_⟩)))) C.nd)
  refine a_cons (e_meth0 (C.mono (by decide)) CL.c gM (e_name 0 (v := .ref r) ⟨rfl, h1, rfl, r, R, rfl, hr, fun mq H1 b1 hmn hmq => ?_⟩))
  have hr1 := hr.but b1 (by simp)
  have h11 := b1 _ _ (by simp) h1
  refine a_cons (e_prop (C.mono (by decide)) CL.c gT (e_name 0 (v := .ref r) ⟨rfl, h11, r, R, rfl, hr1, ?_⟩))
  refine a_cons (e_prop (C.mono (by decide)) CL.c gD (e_name 0 (v := .ref r) ⟨rfl, h11, r, R, rfl, hr1, ?_⟩))
  refine a_cons (e_prop (C.mono (by decide)) CL.c gSi (e_name 0 (v := .ref r) ⟨rfl, h11, r, R, rfl, hr1, ?_⟩))
  refine a_cons (e_prop (C.mono (by decide)) CL.c gO (e_name 0 (v := .ref r) ⟨rfl, h11, r, R, rfl, hr1, ?_⟩))
  refine a_cons (e_prop (C.mono (by decide)) CL.c gFu (e_name 0 (v := .ref r) ⟨rfl, h11, r, R, rfl, hr1, ?_⟩))
  refine a_cons (e_prop (C.mono (by decide)) CL.c gFi (e_name 0 (v := .ref r) ⟨rfl, h11, r, R, rfl, hr1, a_nil ⟨sz 8 (by decide), fun tq htq => ?_⟩⟩))
  have bt : But [] H1 (upd H1 tq (.lst [.str R.g, .ref mq, .str R.t, .int (R.ms.length : Nat), .str R.si, .str R.od, .str R.fu, .str R.fi])) := But.new htq
  have ddt : DD K [] (upd H1 tq (.lst [.str R.g, .ref mq, .str R.t, .int (R.ms.length : Nat), .str R.si, .str R.od, .str R.fu, .str R.fi])) (.ref tq) (eightD R) := .lst (.inl (.inl upd_same)) (by simp) (.cons (.str _) (.cons (.lst (.inl (.inl (bt _ _ (by simp) hmq))) (by simp) (DDs.strs _)) (.cons (.str _) (.cons (.int _) (.cons (.str _) (.cons (.str _) (.cons (.str _) (.cons (.str _) .nil))))))))
  generalize upd H1 tq (.lst [.str R.g, .ref mq, .str R.t, .int (R.ms.length : Nat), .str R.si, .str R.od, .str R.fu, .str R.fi]) = H2 at bt ddt ⊢
  have b02 := b1.trans bt
  -- due
  have hl : ∃ a, v2 = .ref a ∧ (SqL [] H a (R.ms.map V.str) ∨ SqT [] H a (R.ms.map V.str)) := by
    cases hd2 with
    | @lst a xs ds q1 n q2 => exact ⟨a, rfl, .inl (by rw [← dds_strs (show DDs [] [] H xs (R.ms.map PyData.str) from hit ▸ q2)]; exact q1)⟩
    | @tup a xs ds q1 n q2 => exact ⟨a, rfl, .inr (by rw [← dds_strs (show DDs [] [] H xs (R.ms.map PyData.str) from hit ▸ q2)]; exact q1)⟩
    | _ => simp [seqB, Z.isList, Z.isTuple] at hsq
  obtain ⟨a, rfl, hla⟩ := hl
  have sqa : ∀ {H'}, But [] H H' → SqL K H' a (R.ms.map V.str) ∨ SqT K H' a (R.ms.map V.str) := fun b => hla.imp (fun h => sql_all (b.sql (by simp) h)) (fun h => sqt_all (b.sqt (by simp) h))
  have hlen : ∀ {H'}, But [] H H' → LenV K (.ref a) H' R.ms.length := fun b => (sqa b).elim (fun h => .inl ⟨_, h, by simp⟩) fun h => .inr ⟨_, h, by simp⟩
  refine b_cons (s_set (i := 6) (e_lst (a_cons (e_name 1 (v := .str R.g) (a_cons (e_listOf B (e_name 2 (v := .ref a) ⟨a, _, rfl, sqa b02, fun lq hlq => ?_⟩)))))) C.nd)
  have bl : But [] H2 (upd H2 lq (.lst (R.ms.map V.str))) := But.new hlq
  have hlq3 : upd H2 lq (.lst (R.ms.map V.str)) lq = some (.lst (R.ms.map V.str)) := upd_same
  generalize upd H2 lq (.lst (R.ms.map V.str)) = H3 at bl hlq3 ⊢
  refine a_cons (e_name 3 (v := .str R.t) (a_cons (e_len B (e_name 2 (v := .ref a) ⟨R.ms.length, hlen (b02.trans bl), a_nil ⟨sz 4 (by decide), fun dq hdq => ?_⟩⟩))))
  have bd : But [] H3 (upd H3 dq (.lst [.str R.g, .ref lq, .str R.t, .int (R.ms.length : Nat)])) := But.new hdq
  have hdq4 : upd H3 dq (.lst [.str R.g, .ref lq, .str R.t, .int (R.ms.length : Nat)]) dq = some (.lst [.str R.g, .ref lq, .str R.t, .int (R.ms.length : Nat)]) := upd_same
  generalize upd H3 dq (.lst [.str R.g, .ref lq, .str R.t, .int (R.ms.length : Nat)]) = H4 at bd hdq4 ⊢
  have b04 := b02.trans (bl.trans bd)
  have hcd4 := b04 _ _ (by simp) hcd
  have get : ∀ (k : Str) (v : V), valV ([(.inr "sight", .ref c1), (.inr "order", .ref c2), (.inr "further", .ref c3), (.inr "finish", .ref c4)] : List (Key × V)) (Sum.inr k : Key) = some v → DGet H4 cd (.str k) (some v) := fun k v e => by rw [← e]; exact DGet.k (k := .inr k) hcd4
  refine b_cons (s_set (i := 6) (e_bin (e_name 6 (v := .ref dq) (e_lst (a_cons (e_ix (e_dget C (e_name 4 (v := .ref cd) (e_str ⟨rfl, get _ (.ref c1) rfl, e_int (ix_t (.inl (.inl (b04 _ _ (by simp) g1))) (v := .str R.si) rfl ?_)⟩)))))))) C.nd)
  refine a_cons (e_ix (e_dget C (e_name 4 (v := .ref cd) (e_str ⟨rfl, get _ (.ref c2) rfl, e_int (ix_t (.inl (.inl (b04 _ _ (by simp) g2))) (v := .str R.od) rfl ?_)⟩))))
  refine a_cons (e_ix (e_dget C (e_name 4 (v := .ref cd) (e_str ⟨rfl, get _ (.ref c3) rfl, e_int (ix_t (.inl (.inl (b04 _ _ (by simp) g3))) (v := .str R.fu) rfl ?_)⟩))))
  refine a_cons (e_ix (e_dget C (e_name 4 (v := .ref cd) (e_str ⟨rfl, get _ (.ref c4) rfl, e_int (ix_t (.inl (.inl (b04 _ _ (by simp) g4))) (v := .str R.fi) rfl (a_nil ⟨sz 4 (by decide), fun eq heq => ?_⟩))⟩))))
  have be : But [] H4 (upd H4 eq (.lst [.str R.si, .str R.od, .str R.fu, .str R.fi])) := But.new heq
  refine o_cat (be _ _ (by simp) hdq4) upd_same (sz 8 (by decide)) fun fq hfq => ?_
  have bf := But.new (l := []) (o := .lst ([.str R.g, .ref lq, .str R.t, .int (R.ms.length : Nat)] ++ [.str R.si, .str R.od, .str R.fu, .str R.fi])) hfq
  have b26 := bl.trans (bd.trans (be.trans bf))
  have ddf : DD K [] _ (.ref fq) (eightD R) := .lst (.inl (.inl (upd_same (H := upd H4 eq (.lst [.str R.si, .str R.od, .str R.fu, .str R.fi])) (a := fq) (o := .lst ([.str R.g, .ref lq, .str R.t, .int (R.ms.length : Nat)] ++ [.str R.si, .str R.od, .str R.fu, .str R.fi]))))) (by simp) (.cons (.str _) (.cons (.lst (.inl (.inl ((bd.trans (be.trans bf)) _ _ (by simp) hlq3))) (by simp) (DDs.strs _)) (.cons (.str _) (.cons (.int _) (.cons (.str _) (.cons (.str _) (.cons (.str _) (.cons (.str _) .nil))))))))
  refine b_cons (s_ret (e_cmp (e_rep B g C.un (e_name 5 (v := .ref tq) ⟨[], _, ddt.but b26, hrp, e_rep B g C.un (e_name 6 (v := .ref fq) ⟨[], _, ddf, hrp, c_eq rfl ?_⟩)⟩))))
  have e : decide (V.str (eightD R).shown = V.str (eightD R).shown) = true := decide_eq_true rfl
  rw [e]
  exact hQ _ (b02.trans b26)
end
end K50

set_option Elab.async false
set_option linter.all false
set_option maxRecDepth 100000
set_option maxHeartbeats 1600000
namespace K50
open PySem PySem.Spec PyProof.Rows L2 Z LamX
theorem boot_VE : bootBuiltins "ValueError" = some (.type "ValueError") := by decide +kernel
/-- the error classes: LineError at CE, the four over it -/
structure Errs (K : PySem.W.Frag) (mg : Str → Option Value) (CE CS CM CT CC : Addr) : Prop where
  gE : mg "LineError" = some (.ref CE)
  gS : mg "InvalidSigns" = some (.ref CS)
  gM : mg "InvalidMarks" = some (.ref CM)
  gT : mg "InvalidTail" = some (.ref CT)
  gC : mg "InvalidCare" = some (.ref CC)
  SS : PySem.W.exmOne K (.ref CS) (.ref CS) = some true
  MS : PySem.W.exmOne K (.ref CM) (.ref CS) = some false
  MM : PySem.W.exmOne K (.ref CM) (.ref CM) = some true
  TS : PySem.W.exmOne K (.ref CT) (.ref CS) = some false
  TM : PySem.W.exmOne K (.ref CT) (.ref CM) = some false
  TT : PySem.W.exmOne K (.ref CT) (.ref CT) = some true
  DS : PySem.W.exmOne K (.ref CC) (.ref CS) = some false
  DM : PySem.W.exmOne K (.ref CC) (.ref CM) = some false
  DT : PySem.W.exmOne K (.ref CC) (.ref CT) = some false
  DD : PySem.W.exmOne K (.ref CC) (.ref CC) = some true
  kS : PySem.W.kitOne K (.ref CS) (.ref CE) = some true
  kM : PySem.W.kitOne K (.ref CM) (.ref CE) = some true
  kT : PySem.W.kitOne K (.ref CT) (.ref CE) = some true
  kC : PySem.W.kitOne K (.ref CC) (.ref CE) = some true
  vS : PySem.W.kitOne K (.ref CS) (.type "ValueError") = some true
  vM : PySem.W.kitOne K (.ref CM) (.type "ValueError") = some true
  vT : PySem.W.kitOne K (.ref CT) (.type "ValueError") = some true
  vC : PySem.W.kitOne K (.ref CC) (.type "ValueError") = some true
  xS : ExcC K CS
  xM : ExcC K CM
  xT : ExcC K CT
  xC : ExcC K CC
  nS : PySem.W.findIn K (.ref CS) "value" = some none
  nM : PySem.W.findIn K (.ref CM) "position" = some none
  nT : PySem.W.findIn K (.ref CT) "value" = some none
  nC : PySem.W.findIn K (.ref CC) "name" = some none
  nC2 : PySem.W.findIn K (.ref CC) "value" = some none
  fS : XfC K CS
  fM : XfC K CM
  fT : XfC K CT
  fC : XfC K CC
/-- what an error is told as -/
def ETold (CS CM CT CC : Addr) (Q : VK) : XK := fun cls dd H2 => ∃ a, dd = some a ∧
  ((cls = .ref CS ∧ ∃ v, H2 a = some (.xd [("value", v)]) ∧ ∀ p H3, But [] H2 H3 → H2 p = none → H3 p = some (.lst [.str "signs", v, .bl true]) → Q (.ref p) H3) ∨
   (cls = .ref CM ∧ ∃ v, H2 a = some (.xd [("position", v)]) ∧ ∀ p H3, But [] H2 H3 → H2 p = none → H3 p = some (.lst [.str "marks", v, .bl true]) → Q (.ref p) H3) ∨
   (cls = .ref CT ∧ ∃ v, H2 a = some (.xd [("value", v)]) ∧ ∀ p H3, But [] H2 H3 → H2 p = none → H3 p = some (.lst [.str "tail", v, .bl true]) → Q (.ref p) H3) ∨
   (cls = .ref CC ∧ ∃ n v, H2 a = some (.xd [("value", v), ("name", n)]) ∧ ∀ p H3, But [] H2 H3 → H2 p = none → H3 p = some (.lst [.str "care", n, v, .bl true]) → Q (.ref p) H3))
theorem scTold : FnScope ["deed", "told", "e"] ["deed"] (defScope (top 43)) := ⟨rfl, rfl, rfl, by decide +kernel, rfl, by decide +kernel, by decide +kernel⟩
section
variable {X : Cx} {k : Nat} {W : WX} {σ : L2.St} {H : Hp} {Q : VK}
theorem e_told {CE CS CM CT CC : Addr} {T : List (Addr × Str)} {c P : Addr} {params : Arguments} {body : Expr} {scope : Scope} {p lpos pos : Pos} (C : Cxt X (k + 2) W) (D : At X.K X.mg "_law_told" (top 43)) (ER : Errs X.K X.mg CE CS CM CT CC) (TB : TabB X.base X.mg c P) (hcode : X.env.code = .ref c)
    (hmT : (P, X.env.qual ++ "<lambda>") ∈ T) (hu : ∀ p ∈ T, p.1 = P → p.2 = X.env.qual ++ "<lambda>") (L : LamS X.env.scope scope) (hT : Tabs T H)
    (h : ∀ H1, ExtN H H1 → Tabs T H1 → ∀ (f c' : Addr) (A : Around) (outer : List Env) (s' : Shared) (H' : Hp), Cxt (lamCx X A outer s' H' (ETold CS CM CT CC Q) scope f c') k (fun cls d _ H => ETold CS CM CT CC Q cls d H) →
      wE (lamCx X A outer s' H' (ETold CS CM CT CC Q) scope f c') body σ H1 fun v H2 => ∀ q H3, But [] H2 H3 → H2 q = none → H3 q = some (.lst [.str "made", v]) → Q (.ref q) H3)
    (hg : Gl X "_law_told" := by rfl) (hdef : defaultsOf params X.env = ([], []) := by rfl)
    (hbl : ∀ (q : Str) (cl : List (Str × Addr)) (pm cv ctv : Value), bindArgs (PySem.W.kla_fn "<lambda>" q params body scope cl pm cv ctv) ⟨[], []⟩ = pure [] := by intros; rfl) :
    wE X (.Call (.Name "_law_told" p) [.Lambda params body scope lpos] [] pos) σ H Q := by
  refine e_lam C D scTold TB hcode hmT hu L hT (fun g cdg f c' s H1 eN T1 hco CZ gd act => ?_) rfl (.inl rfl) hg hdef hbl
  have z3 : 3 ≤ sizeLine := by rw [sizeLine_eq]; exact (by decide : 3 ≤ 16777216)
  have z4 : 4 ≤ sizeLine := by rw [sizeLine_eq]; exact (by decide : 4 ≤ 16777216)
  refine b_cons (s_set (i := 1) (e_lst (a_cons (e_str (a_nil ⟨by rw [sizeLine_eq]; exact (by decide : 1 ≤ 16777216), fun q hq => ?_⟩)))) CZ.nd)
  have eN2 : ExtN H (upd H1 q (.lst [.str "else"])) := eN.trans (ExtN.of fun b o e => by rw [upd_ne (ne_of_none e hq)]; exact e)
  have T2 : Tabs T (upd H1 q (.lst [.str "else"])) := T1.ext fun b o e => by rw [upd_ne (ne_of_none e hq)]; exact e
  have hco2 : upd H1 q (.lst [.str "else"]) c' = some (CodeO c' (X.env.qual ++ "<lambda>")) := by rw [upd_ne (ne_of_none hco hq)]; exact hco
  refine b_cons (s_try CZ (.cons (c := .ref CS) (i := 2) ⟨rfl, by decide, .inl ER.gS⟩ rfl rfl (.cons (c := .ref CM) (i := 2) ⟨rfl, by decide, .inl ER.gM⟩ rfl rfl (.cons (c := .ref CT) (i := 2) ⟨rfl, by decide, .inl ER.gT⟩ rfl rfl (.cons (c := .ref CC) (i := 2) ⟨rfl, by decide, .inl ER.gC⟩ rfl rfl .nil)))) fun pn xe Ct => ?_)
  refine b_cons (s_set (i := 1) (e_lst (a_cons (e_str (a_cons (act _ pn xe (ETold CS CM CT CC Q) _ _ _ _ _ Ct.tk (fun cls dd H' hE => ?_) rfl hco2 (fun A outer s' H' Cl _ => wE_mono (h _ eN2 T2 f c' A outer s' H' Cl) fun v H2 hv => a_nil ⟨by rw [sizeLine_eq]; exact (by decide : 2 ≤ 16777216), fun q2 hn => ?_⟩)))))) Ct.nd)
  · obtain ⟨a, rfl, ⟨rfl, v, ha, hQ⟩ | ⟨rfl, v, ha, hQ⟩ | ⟨rfl, v, ha, hQ⟩ | ⟨rfl, n, v, ha, hQ⟩⟩ := hE
    · refine ⟨true, ER.SS, fun _ a1 oe pn hz hf na => ?_, fun e => by cases e⟩
      refine b_cons (s_set (i := 1) (e_lst (a_cons (e_str (a_cons (e_xf ER.fS ER.nS hz hf (e_name 2 ⟨rfl, ha, a_cons ?_⟩)))))) CZ.nd)
      refine e_and (e_B (id := "isinstance") (a_cons (e_name 2 (a_cons (e_glob (a_nil (c_isX (c := .ref CE) ER.xS hz hf (fun u r => r) ER.kS ha ⟨true, rfl, e_one (e_B (id := "isinstance") (a_cons (e_name 2 (a_cons (e_blt (v := .ty "ValueError") (a_nil (c_isX (c := .ty "ValueError") ER.xS hz hf (fun u r => r) ER.vS ha ?_)) CZ.blt.valueError boot_VE rfl)))) CZ.blt.isinstance PyProof.Rows.boot_isinstance)⟩)) ER.gE rfl)))) CZ.blt.isinstance PyProof.Rows.boot_isinstance)
      exact a_nil ⟨z3, fun q2 hn => b_nil (b_cons (s_ret (e_name 1 (hQ q2 _ (But.new hn) hn upd_same))))⟩
    · refine ⟨false, ER.MS, fun e => (by cases e), fun _ => ⟨true, ER.MM, fun _ a1 oe pn hz hf na => ?_, fun e => by cases e⟩⟩
      refine b_cons (s_set (i := 1) (e_lst (a_cons (e_str (a_cons (e_xf ER.fM ER.nM hz hf (e_name 2 ⟨rfl, ha, a_cons ?_⟩)))))) CZ.nd)
      refine e_and (e_B (id := "isinstance") (a_cons (e_name 2 (a_cons (e_glob (a_nil (c_isX (c := .ref CE) ER.xM hz hf (fun u r => r) ER.kM ha ⟨true, rfl, e_one (e_B (id := "isinstance") (a_cons (e_name 2 (a_cons (e_blt (v := .ty "ValueError") (a_nil (c_isX (c := .ty "ValueError") ER.xM hz hf (fun u r => r) ER.vM ha ?_)) CZ.blt.valueError boot_VE rfl)))) CZ.blt.isinstance PyProof.Rows.boot_isinstance)⟩)) ER.gE rfl)))) CZ.blt.isinstance PyProof.Rows.boot_isinstance)
      exact a_nil ⟨z3, fun q2 hn => b_nil (b_cons (s_ret (e_name 1 (hQ q2 _ (But.new hn) hn upd_same))))⟩
    · refine ⟨false, ER.TS, fun e => (by cases e), fun _ => ⟨false, ER.TM, fun e => (by cases e), fun _ => ⟨true, ER.TT, fun _ a1 oe pn hz hf na => ?_, fun e => by cases e⟩⟩⟩
      refine b_cons (s_set (i := 1) (e_lst (a_cons (e_str (a_cons (e_xf ER.fT ER.nT hz hf (e_name 2 ⟨rfl, ha, a_cons ?_⟩)))))) CZ.nd)
      refine e_and (e_B (id := "isinstance") (a_cons (e_name 2 (a_cons (e_glob (a_nil (c_isX (c := .ref CE) ER.xT hz hf (fun u r => r) ER.kT ha ⟨true, rfl, e_one (e_B (id := "isinstance") (a_cons (e_name 2 (a_cons (e_blt (v := .ty "ValueError") (a_nil (c_isX (c := .ty "ValueError") ER.xT hz hf (fun u r => r) ER.vT ha ?_)) CZ.blt.valueError boot_VE rfl)))) CZ.blt.isinstance PyProof.Rows.boot_isinstance)⟩)) ER.gE rfl)))) CZ.blt.isinstance PyProof.Rows.boot_isinstance)
      exact a_nil ⟨z3, fun q2 hn => b_nil (b_cons (s_ret (e_name 1 (hQ q2 _ (But.new hn) hn upd_same))))⟩
    · refine ⟨false, ER.DS, fun e => (by cases e), fun _ => ⟨false, ER.DM, fun e => (by cases e), fun _ => ⟨false, ER.DT, fun e => (by cases e), fun _ => ⟨true, ER.DD, fun _ a1 oe pn hz hf na => ?_, fun e => by cases e⟩⟩⟩⟩
      refine b_cons (s_set (i := 1) (e_lst (a_cons (e_str (a_cons (e_xfs (v := n) ER.fC ER.nC hz hf rfl (e_name 2 ⟨rfl, ha, a_cons (e_xfs (v := v) ER.fC ER.nC2 hz hf rfl (e_name 2 ⟨rfl, ha, a_cons ?_⟩))⟩)))))) CZ.nd)
      refine e_and (e_B (id := "isinstance") (a_cons (e_name 2 (a_cons (e_glob (a_nil (c_isX (c := .ref CE) ER.xC hz hf (fun u r => r) ER.kC ha ⟨true, rfl, e_one (e_B (id := "isinstance") (a_cons (e_name 2 (a_cons (e_blt (v := .ty "ValueError") (a_nil (c_isX (c := .ty "ValueError") ER.xC hz hf (fun u r => r) ER.vC ha ?_)) CZ.blt.valueError boot_VE rfl)))) CZ.blt.isinstance PyProof.Rows.boot_isinstance)⟩)) ER.gE rfl)))) CZ.blt.isinstance PyProof.Rows.boot_isinstance)
      exact a_nil ⟨z4, fun q2 hn => b_nil (b_cons (s_ret (e_name 1 (hQ q2 _ (But.new hn) hn upd_same))))⟩
  · exact b_nil (b_cons (s_ret (e_name 1 (hv q2 _ (But.new hn) hn upd_same))))
end
end K50

set_option Elab.async false
set_option linter.all false
set_option maxRecDepth 100000
set_option maxHeartbeats 1600000
namespace K50
open PySem PySem.Spec PyProof.Rows L2 Z LamX
/-! ### labels: where they are wrong -/
theorem any_str {y : Str} : ∀ {ys : List Str}, (ys.map PyData.str).any (sameS (.str y)) = decide (y ∈ ys)
  | [] => rfl
  | z :: ys => by
    rw [List.map_cons, List.any_cons, any_str (ys := ys)]
    by_cases e : y = z
    · simp [sameS, e]
    · simp [sameS, e]
theorem firstBad_app {g : Str} : ∀ {ys pre : List Str} {r : List PyData}, (∀ y ∈ ys, shortLine 12 g (.str y) = true) → (pre ++ ys).Nodup → firstBad g (pre.map .str) (ys.map .str ++ r) = firstBad g ((pre ++ ys).map .str) r
  | [], pre, r, _, _ => by simp
  | y :: ys, pre, r, h, n => by
    have hy : y ∉ pre := fun hm => by
      have := (List.nodup_append.mp n).2.2
      exact (this y hm y (by simp)) rfl
    rw [List.map_cons, List.cons_append, firstBad]
    rw [if_pos (by unfold fineAt; rw [h y (by simp), any_str, decide_eq_false hy]; rfl)]
    have e : pre.map PyData.str ++ [PyData.str y] = (pre ++ [y]).map PyData.str := by simp
    rw [e, firstBad_app (ys := ys) (pre := pre ++ [y]) (fun z hz => h z (by simp [hz])) (by simpa using n)]
    simp
theorem fb_fine {g : Str} {ys : List Str} (h : ∀ y ∈ ys, shortLine 12 g (.str y) = true) (n : ys.Nodup) : firstBad g [] (ys.map .str) = none := by
  have := firstBad_app (g := g) (ys := ys) (pre := []) (r := []) h (by simpa using n)
  simpa [firstBad] using this
/-- one that is no mark, at the first place that is wrong -/
theorem fb_odd {g : Str} {ys : List Str} {d : PyData} {r : List PyData} (h : ∀ y ∈ ys, shortLine 12 g (.str y) = true) (n : ys.Nodup) (hd : shortLine 12 g d = false) : firstBad g [] (ys.map .str ++ d :: r) = some ys.length := by
  have := firstBad_app (g := g) (ys := ys) (pre := []) (r := d :: r) h (by simpa using n)
  rw [show firstBad g [] (ys.map PyData.str ++ d :: r) = _ from this, firstBad, if_neg (by unfold fineAt; rw [hd]; simp)]
  simp
/-- one that stands ahead -/
theorem fb_twice {g : Str} {ys : List Str} {y : Str} {r : List PyData} (h : ∀ y ∈ ys, shortLine 12 g (.str y) = true) (n : ys.Nodup) (hy : y ∈ ys) : firstBad g [] (ys.map .str ++ .str y :: r) = some ys.length := by
  have := firstBad_app (g := g) (ys := ys) (pre := []) (r := .str y :: r) h (by simpa using n)
  rw [show firstBad g [] (ys.map PyData.str ++ .str y :: r) = _ from this, firstBad, if_neg (by unfold fineAt; rw [List.nil_append, any_str, decide_eq_true hy]; simp)]
  simp
/-- the fresh mark: the first of fresh and fresh with a letter that was not found -/
def nearL (g : Str) (y : Str) : List Str := y :: g.cps.toList.map fun c => y ++ ⟨#[c]⟩
theorem badM_list {g : Str} {ds : List PyData} (h1 : 1 ≤ ds.length) (h3 : ds.length ≤ 3) : badMarks g (.list ds) = (firstBad g [] ds).map fun n => .int (n : Nat) := by
  unfold badMarks
  rw [if_pos ⟨rfl, h1, h3⟩]
  rfl
theorem badM_tup {g : Str} {ds : List PyData} (h1 : 1 ≤ ds.length) (h3 : ds.length ≤ 3) : badMarks g (.tuple ds) = (firstBad g [] ds).map fun n => .int (n : Nat) := by
  unfold badMarks
  rw [if_pos ⟨rfl, h1, h3⟩]
  rfl
/-- what stands for no marks at all -/
def oddM (c : Str) : List PyData := [.list [], .tuple [], .none, .str "ab", .int 5, .bool true, .dict [], .dict [(.str c, .int 1)], .list [.str (Txt.mul c 7), .str (Txt.mul c 8), .str (Txt.mul c 9), .str (Txt.mul c 10)]]
theorem oddM_no {g c : Str} : ∀ d ∈ oddM c, badMarks g d = some .none := by
  intro d hd
  simp only [oddM, List.mem_cons, List.not_mem_nil, or_false] at hd
  rcases hd with rfl | rfl | rfl | rfl | rfl | rfl | rfl | rfl | rfl <;> (unfold badMarks; rw [if_neg]; simp [seqB, items])
/-- why labels are wrong, as the law tells it -/
def atOf (g : Str) (d : PyData) : Option Int := match badMarks g d with | none => some (-1) | some (.int i) => some i | _ => none
theorem at_fine {g : Str} {ys : List Str} (h : ∀ y ∈ ys, shortLine 12 g (.str y) = true) (n : ys.Nodup) (h1 : 1 ≤ ys.length) (h3 : ys.length ≤ 3) : atOf g (.list (ys.map .str)) = some (-1) ∧ atOf g (.tuple (ys.map .str)) = some (-1) := by
  unfold atOf
  rw [badM_list (by simpa using h1) (by simpa using h3), badM_tup (by simpa using h1) (by simpa using h3), fb_fine h n]
  exact ⟨rfl, rfl⟩
theorem at_odd {g : Str} {ys : List Str} {d : PyData} {r : List PyData} (h : ∀ y ∈ ys, shortLine 12 g (.str y) = true) (n : ys.Nodup) (hd : shortLine 12 g d = false) (h3 : ys.length + r.length ≤ 2) : atOf g (.list (ys.map .str ++ d :: r)) = some (ys.length : Nat) := by
  unfold atOf
  rw [badM_list (by simp; omega) (by simp; omega), fb_odd h n hd]
  rfl
theorem at_twice {g : Str} {ys : List Str} {y : Str} (h : ∀ y ∈ ys, shortLine 12 g (.str y) = true) (n : ys.Nodup) (hy : y ∈ ys) (h3 : ys.length ≤ 2) : atOf g (.list (ys.map .str ++ [.str y])) = some (ys.length : Nat) := by
  unfold atOf
  rw [badM_list (by simp) (by simp; omega), fb_twice h n hy]
  rfl
theorem at_none {g c : Str} {d : PyData} (hd : d ∈ oddM c) : atOf g d = none := by
  unfold atOf
  rw [oddM_no d hd]
end K50

set_option Elab.async false
set_option linter.all false
set_option maxRecDepth 100000
set_option maxHeartbeats 1600000
namespace K50
open PySem PySem.Spec PyProof.Rows L2 Z LamX
/-! ### a fresh label -/
theorem near_shape {g y : Str} (hy : isLine g (.str y) = true) (h1 : 1 ≤ y.length) (h11 : y.length ≤ 11) : ∀ z ∈ nearL g y, shortLine 12 g (.str z) = true := by
  intro z hz
  rcases List.mem_cons.mp hz with rfl | hz
  · simp [shortLine, hy, h1]
    omega
  · obtain ⟨c, hc, rfl⟩ := List.mem_map.mp hz
    have e : (y ++ (⟨#[c]⟩ : Str)).cps.toList = y.cps.toList ++ [c] := by show (y.cps ++ #[c]).toList = _; simp
    have el : (y ++ (⟨#[c]⟩ : Str)).length = y.length + 1 := by show (y.cps ++ #[c]).size = _; simp [Str.length]
    have hl : isLine g (.str (y ++ (⟨#[c]⟩ : Str))) = true := by
      unfold isLine at hy ⊢
      simp only [e, List.all_append, hy, List.all_cons, List.all_nil, Bool.and_true, Bool.true_and]
      exact decide_eq_true hc
    simp only [shortLine, hl, el, Bool.true_and, Bool.and_eq_true, decide_eq_true_eq]
    omega
theorem near_two {g y : Str} (hg : 2 ≤ g.length) (hn : g.cps.toList.Nodup) : (nearL g y).Nodup ∧ 3 ≤ (nearL g y).length := by
  have el : ∀ c : Nat, (y ++ (⟨#[c]⟩ : Str)).length = y.length + 1 := fun c => by show (y.cps ++ #[c]).size = _; simp [Str.length]
  refine ⟨List.nodup_cons.mpr ⟨fun h => ?_, ?_⟩, ?_⟩
  · obtain ⟨c, _, hc⟩ := List.mem_map.mp h
    have := congrArg Str.length hc
    rw [el] at this
    omega
  · refine List.pairwise_map.mpr (hn.imp fun {a b} ne h => ne ?_)
    have e : ∀ c : Nat, (y ++ (⟨#[c]⟩ : Str)).cps.toList = y.cps.toList ++ [c] := fun c => by show (y.cps ++ #[c]).toList = _; simp
    have h2 := congrArg (fun s : Str => s.cps.toList) h
    simp only [e] at h2
    simpa using h2
  · unfold nearL
    rw [List.length_cons, List.length_map]
    have : g.cps.toList.length = g.length := by simp [Str.length]
    omega
theorem sub_len : ∀ {xs ys : List Str}, xs.Nodup → (∀ z ∈ xs, z ∈ ys) → xs.length ≤ ys.length
  | [], _, _, _ => Nat.zero_le _
  | x :: xs, ys, h, hs => by
    obtain ⟨h1, h2⟩ := List.nodup_cons.mp h
    have hm : x ∈ ys := hs x (by simp)
    have := sub_len (ys := ys.erase x) h2 fun z hz => (List.mem_erase_of_ne (fun e : z = x => h1 (by rw [← e]; exact hz))).mpr (hs z (by simp [hz]))
    rw [List.length_erase_of_mem hm] at this
    have := List.length_pos_of_mem hm
    rw [List.length_cons]
    omega
/-- among more different ones than were found there is a fresh one -/
theorem fresh_ex {xs ys : List Str} (hx : xs.Nodup) (hl : ys.length < xs.length) : ∃ z ∈ xs, z ∉ ys := by
  refine Classical.byContradiction fun hc => ?_
  have hs : ∀ z ∈ xs, z ∈ ys := fun z hz => Classical.byContradiction fun hn => hc ⟨z, hz, hn⟩
  have := sub_len hx hs
  omega
theorem keepL_filter {f : Str → Bool} : ∀ {xs : List Str}, keepL (xs.map f) (xs.map V.str) = (xs.filter f).map V.str
  | [] => rfl
  | x :: xs => by
    rw [List.map_cons, List.map_cons, List.filter_cons]
    show (if f x = true then V.str x :: keepL _ _ else keepL _ _) = _
    rw [keepL_filter (xs := xs)]
    cases f x <;> rfl
theorem fresh_one {xs ys : List Str} (hx : xs.Nodup) (hl : ys.length < xs.length) : ∃ z r, keepL (xs.map fun z => !decide (z ∈ ys)) (xs.map V.str) = .str z :: r ∧ z ∈ xs ∧ z ∉ ys := by
  obtain ⟨z, hz, hn⟩ := fresh_ex hx hl
  rw [keepL_filter]
  match hf : xs.filter (fun z => !decide (z ∈ ys)) with
  | [] =>
    have : z ∈ xs.filter (fun z => !decide (z ∈ ys)) := List.mem_filter.mpr ⟨hz, by simpa using hn⟩
    rw [hf] at this
    cases this
  | a :: r =>
    have ha : a ∈ xs.filter (fun z => !decide (z ∈ ys)) := by rw [hf]; simp
    obtain ⟨h1, h2⟩ := List.mem_filter.mp ha
    exact ⟨a, r.map .str, rfl, h1, by simpa using h2⟩
end K50

set_option Elab.async false
set_option linter.all false
set_option maxRecDepth 100000
set_option maxHeartbeats 1600000
namespace K50
open PySem PySem.Spec PyProof.Rows L2 Z LamX
/-! ### odd texts are no short lines -/
theorem odd_short {g : Str} (gs : strSigns g = true) {c0 cl n : Nat} : ∀ d ∈ oddT ⟨#[c0]⟩ ⟨#[cl]⟩ n, shortLine n g d = false := by
  intro d hd
  have has : ∀ (x : Str) (c : Nat), c ∈ x.cps.toList → c ∉ known.cps.toList → shortLine n g (.str x) = false := fun x c hc hn => by
    simp only [strSigns, Bool.and_eq_true, List.all_eq_true, decide_eq_true_eq] at gs
    have : isLine g (.str x) = false := by
      rw [Bool.eq_false_iff]
      intro h
      simp only [isLine, List.all_eq_true, decide_eq_true_eq] at h
      exact hn (gs.1.2 c (h c hc))
    simp only [shortLine, this, Bool.false_and]
  have long : ∀ x : Str, n < x.length → shortLine n g (.str x) = false := fun x hx => by
    simp only [shortLine, decide_eq_false (show ¬ x.length ≤ n by omega), Bool.and_false]
  have app : ∀ (c : Nat) (y : Str), (⟨#[c]⟩ ++ y : Str).cps.toList = c :: y.cps.toList := fun c y => by
    rw [show (⟨#[c]⟩ ++ y : Str).cps.toList = (⟨#[c]⟩ : Str).cps.toList ++ y.cps.toList from TL.tl_append _ _]
    rfl
  have ml : ∀ (c : Nat) (k : Int), (Txt.mul ⟨#[c]⟩ k).length = k.toNat := fun c k => by
    have : (Txt.mul ⟨#[c]⟩ k).cps.toList.length = (Txt.mul ⟨#[c]⟩ k).length := by simp; rfl
    rw [← this, mul_one_list, List.length_replicate]
  simp only [oddT, odd10, odd3, List.mem_append, List.mem_cons, List.not_mem_nil, or_false] at hd
  rcases hd with (rfl | rfl | rfl | rfl | rfl | rfl | rfl | rfl | rfl | rfl) | rfl | rfl | rfl
  · rfl
  · rfl
  · rfl
  · simp only [shortLine, show ("" : Str).length = 0 from rfl]
    simp
  · exact has "B" 66 (by decide) (by decide)
  · exact has _ 35 (by rw [app]; exact List.mem_cons_of_mem _ (by decide)) (by decide)
  · exact long _ (by rw [ml]; omega)
  · rfl
  · rfl
  · rfl
  · rfl
  · exact long _ (by rw [ml]; omega)
  · exact has _ 32 (by rw [app]; exact List.mem_cons_of_mem _ (by decide)) (by decide)
end K50

set_option Elab.async false
set_option linter.all false
set_option maxRecDepth 100000
set_option maxHeartbeats 1600000
namespace K50
open PySem PySem.Spec PyProof.Rows L2 Z LamX
/-! ### what is drawn can be shown and passed -/
theorem shw_str {x : Str} {w : Nat} (h : ∀ c ∈ x.cps.toList, c < 128) (hl : x.length ≤ w) : ShwZ 0 w (.str x) := by
  refine ⟨by simp only [PyData.showable], ?_, by simp only [PyData.depth]; omega, by simp only [PyData.weight]; exact hl⟩
  simp only [PyData.leavesShort, List.all_eq_true, decide_eq_true_eq]
  intro c hc
  have := h c hc
  omega
theorem shw_tuple {n w : Nat} {ds : List PyData} (L : Nat) (h : ∀ d ∈ ds, ShwZ n w d) (hl : ds.length ≤ L) : ShwZ (n + 1) (L * (w + 1)) (.tuple ds) := by
  have q := ShwZ.list L h hl
  exact ⟨by have := q.s; simp only [PyData.showable] at this ⊢; exact this, by have := q.l; simp only [PyData.leavesShort] at this ⊢; exact this, by have := q.dep; simp only [PyData.depth] at this ⊢; exact this, by have := q.w; simp only [PyData.weight] at this ⊢; exact this⟩
def fitsB : PyData → Bool
  | .str x => decide (x.length ≤ 1000)
  | _ => true
theorem fits_of {d : PyData} (h : fitsB d = true) : fits d := by
  cases d <;> first | trivial | skip
  simp only [fitsB, decide_eq_true_eq] at h
  show _ ≤ sizeLine
  rw [sizeLine_eq]
  omega
def fineB (n w : Nat) (d : PyData) : Bool := d.showable && d.leavesShort 40 && decide (d.depth ≤ n) && decide (d.weight ≤ w) && fitsB d && (items d).all fitsB && decide ((items d).length ≤ 1000)
structure Fine (n w : Nat) (d : PyData) : Prop where
  shw : ShwZ n w d
  f : fits d
  fs : ∀ x ∈ items d, fits x
  len : (items d).length ≤ 1000
theorem fine_of {n w : Nat} {d : PyData} (h : fineB n w d = true) : Fine n w d := by
  simp only [fineB, Bool.and_eq_true, decide_eq_true_eq, List.all_eq_true] at h
  obtain ⟨⟨⟨⟨⟨⟨h1, h2⟩, h3⟩, h4⟩, h5⟩, h6⟩, h7⟩ := h
  exact ⟨⟨h1, h2, h3, h4⟩, fits_of h5, fun x hx => fits_of (h6 x hx), h7⟩
theorem Fine.mono {n m w v : Nat} {d : PyData} (h : Fine n w d) (a : n ≤ m) (b : w ≤ v) : Fine m v d := ⟨h.shw.mono a b, h.f, h.fs, h.len⟩
theorem fine_A : ∀ d ∈ oddA, Fine 2 700 d := by
  have h : ∀ d ∈ oddA, fineB 2 700 d = true := by decide +kernel
  exact fun d hd => fine_of (h d hd)
theorem fine_C : ∀ d ∈ oddC, Fine 2 700 d := by
  have h : ∀ d ∈ oddC, fineB 2 700 d = true := by decide +kernel
  exact fun d hd => fine_of (h d hd)
theorem fine_M {c : Nat} (hc : c ∈ known.cps.toList) : ∀ d ∈ oddM ⟨#[c]⟩, Fine 2 700 d := by
  have h : ∀ c ∈ known.cps.toList, ∀ d ∈ oddM ⟨#[c]⟩, fineB 2 700 d = true := by decide +kernel
  exact fun d hd => fine_of (h c hc d hd)
theorem fine_T {c0 cl n : Nat} (h0 : c0 ∈ known.cps.toList) (h1 : cl ∈ known.cps.toList) (hn : n = 12 ∨ n = 3) : ∀ d ∈ oddT ⟨#[c0]⟩ ⟨#[cl]⟩ n, Fine 1 200 d := by
  have a : ∀ n ∈ [12, 3], ∀ c ∈ known.cps.toList, ∀ d ∈ odd10 ⟨#[c]⟩ n, fineB 1 200 d = true := by decide +kernel
  have b : ∀ n ∈ [12, 3], ∀ c ∈ known.cps.toList, fineB 1 200 (.str (Txt.mul ⟨#[c]⟩ ((n : Nat) + 5))) = true := by decide +kernel
  have e : ∀ c ∈ known.cps.toList, fineB 1 200 (.str (⟨#[c]⟩ ++ " ")) = true := by decide +kernel
  have hn' : n ∈ [12, 3] := by rcases hn with rfl | rfl <;> simp
  intro d hd
  rcases List.mem_append.mp hd with hd | hd
  · exact fine_of (a n hn' c0 h0 d hd)
  · simp only [odd3, List.mem_cons, List.not_mem_nil, or_false] at hd
    rcases hd with rfl | rfl | rfl
    · exact fine_of (by decide +kernel)
    · exact fine_of (b n hn' cl h1)
    · exact fine_of (e c0 h0)
theorem known_small : ∀ c ∈ known.cps.toList, c < 128 := by decide +kernel
theorem sign_known {g : Str} (gs : strSigns g = true) {c : Nat} (hc : c ∈ g.cps.toList) : c ∈ known.cps.toList := by
  simp only [strSigns, Bool.and_eq_true, List.all_eq_true, decide_eq_true_eq] at gs
  exact gs.1.2 c hc
theorem line_small {g x : Str} (gs : strSigns g = true) (h : isLine g (.str x) = true) : ∀ c ∈ x.cps.toList, c < 128 := by
  simp only [isLine, List.all_eq_true, decide_eq_true_eq] at h
  exact fun c hc => known_small c (sign_known gs (h c hc))
theorem fine_line {g x : Str} (gs : strSigns g = true) (h : isLine g (.str x) = true) (hl : x.length ≤ 20) : Fine 0 20 (.str x) :=
  ⟨shw_str (line_small gs h) hl, by show _ ≤ sizeLine; rw [sizeLine_eq]; omega, fun y hy => by simp [items] at hy, by simp [items]⟩
theorem fine_list {ds : List PyData} (h : ∀ d ∈ ds, Fine 1 200 d) (hl : ds.length ≤ 3) : Fine 2 700 (.list ds) :=
  ⟨(ShwZ.list 3 (fun d hd => (h d hd).shw) hl).mono (by decide) (by decide), trivial, fun d hd => (h d hd).f, by show ds.length ≤ _; omega⟩
theorem fine_tuple {ds : List PyData} (h : ∀ d ∈ ds, Fine 1 200 d) (hl : ds.length ≤ 3) : Fine 2 700 (.tuple ds) :=
  ⟨(shw_tuple 3 (fun d hd => (h d hd).shw) hl).mono (by decide) (by decide), trivial, fun d hd => (h d hd).f, by show ds.length ≤ _; omega⟩
theorem fine_strs {g : Str} {ms : List Str} (gs : strSigns g = true) (h : ∀ y ∈ ms, shortLine 12 g (.str y) = true) : ∀ d ∈ ms.map PyData.str, Fine 1 200 d := fun d hd => by
  obtain ⟨y, hy, rfl⟩ := List.mem_map.mp hd
  have q := h y hy
  simp only [shortLine, Bool.and_eq_true, decide_eq_true_eq] at q
  exact (fine_line gs q.1.1 (by omega)).mono (by decide) (by decide)
end K50

set_option Elab.async false
set_option linter.all false
set_option maxRecDepth 100000
set_option maxHeartbeats 1600000
namespace K50
open PySem PySem.Spec PyProof.Rows L2 Z LamX
/-! ### labels -/
theorem inV_strs {z : Str} {ms : List Str} : inV (.str z) (ms.map V.str) = decide (z ∈ ms) := by
  rw [Bool.eq_iff_iff]
  simp only [inV, List.any_map, List.any_eq_true, Function.comp, eqV, beq_iff_eq, decide_eq_true_eq]
  exact ⟨fun ⟨y, hy, e⟩ => e ▸ hy, fun h => ⟨z, h, rfl⟩⟩
theorem ascends_lt : ∀ {l : List Nat} {a : Nat}, ascends (a :: l) = true → ∀ x ∈ l, a < x
  | [], _, _, x, hx => by simp at hx
  | b :: r, a, h, x, hx => by
    simp only [ascends, Bool.and_eq_true, decide_eq_true_eq] at h
    rcases List.mem_cons.mp hx with rfl | hx
    · exact h.1
    · exact Nat.lt_trans h.1 (ascends_lt h.2 x hx)
theorem ascends_tail {a : Nat} {l : List Nat} (h : ascends (a :: l) = true) : ascends l = true := by
  cases l with
  | nil => rfl
  | cons b r => simp only [ascends, Bool.and_eq_true] at h; exact h.2
theorem ascends_nodup : ∀ {l : List Nat}, ascends l = true → l.Nodup
  | [], _ => List.nodup_nil
  | a :: r, h => List.nodup_cons.mpr ⟨fun hm => Nat.lt_irrefl _ (ascends_lt h a hm), ascends_nodup (ascends_tail h)⟩
theorem signs_nodup {g : Str} (h : strSigns g = true) : g.cps.toList.Nodup := by
  unfold strSigns at h
  simp only [Bool.and_eq_true] at h
  exact ascends_nodup h.2
section
variable {P : Program} {w : World} {K : PySem.W.Frag} {mg : Str → Option Value} {base : Heap}
def spLabs : Sp := fun vs H Q _ => ∃ (p : Addr) (g : Str), vs = [.ref p, .str g] ∧ Pot H p ∧ strSigns g = true ∧ ∀ t v (d : PyData) H', H' t = some (.tup [v, atV (atOf g d)]) → DD [] [p] H' v d → Fine 2 700 d → But [p] H H' → Pot H' p → Q (.ref t) H'
theorem scLa : FnScope ["pot", "alphabet", "found", "turn", "fresh", "near", "way", "at", "spare", "letter", "label"] ["pot", "alphabet"] (defScope (top 41)) := ⟨rfl, rfl, rfl, by decide +kernel, rfl, by decide +kernel, by decide +kernel⟩
theorem d_labs (B : Blt mg base) (D : At K mg "_law_labels" (top 41)) (D0 : Def P w K mg base 1 "_law_draw" (top 36) ["pot", "top"] spDraw) (D1 : Def P w K mg base 2 "_law_pick" (top 37) ["pot", "some"] (spPick K))
    (D2 : Def P w K mg base 3 "_law_text" (top 38) ["pot", "alphabet", "least", "top"] spTxt) (D3 : Def P w K mg base 3 "_law_odd_text" (top 40) ["pot", "alphabet", "top"] (spOddT K)) : Def P w K mg base 4 "_law_labels" (top 41) ["pot", "alphabet"] spLabs := by
  refine def_of D B scLa (fun vs H Q E ⟨_, _, e, _⟩ => by rw [e]; rfl) fun f cdv A outer s H vs Q E hm C h => ?_
  obtain ⟨p, g, rfl, hp, gs, hQ⟩ := h
  have gl := strSigns_len gs
  have sz : ∀ n, n ≤ 16777216 → n ≤ sizeLine := fun n hn => by rw [sizeLine_eq]; exact hn
  refine b_cons (s_set (i := 2) (e_lst (a_nil ⟨sz 0 (by decide), fun ml hml => ?_⟩)) C.nd)
  have bml : But [] H (upd H ml (.lst [])) := But.new hml
  have nmp : ml ≠ p := hp.there hml
  refine b_cons (s_for C (i_range1 B (e_bin (e_int (e_call (C.mono (by decide)) D0 (a_cons (e_name 0 (a_cons (e_int (a_nil ?_))))) rfl (fun _ _ _ _ _ _ us hl => match us, hl with | [_, _], _ => rfl))))))
  refine ⟨p, 3, rfl, hp.new bml, by decide, by decide, fun r H3 r0 r1 b3 hp3 => o_add ⟨_, rfl, by omega, by omega, ?_⟩⟩
  obtain ⟨n, rfl⟩ := Int.eq_ofNat_of_zero_le r0
  have npl : ml ∉ [p] := by simpa using nmp
  have hml3 : H3 ml = some (.lst []) := b3 _ _ npl upd_same
  have b23 : But [p] H H3 := bml.of.trans b3
  refine ⟨_, _, _, walk_range, fun i σ H' => (∃ v3 v4 v5, σ = [some (.ref p), some (.str g), some (.ref ml), v3, v4, v5, none, none, none, none, none]) ∧ But [p] H H' ∧ Pot H' p ∧ ∃ ms : List Str, H' ml = some (.lst (ms.map V.str)) ∧ ms.length = i ∧ ms.Nodup ∧ ∀ x ∈ ms, shortLine 12 g (.str x) = true,
    ⟨⟨none, none, none, rfl⟩, b23, hp3, [], hml3, rfl, List.nodup_nil, fun x hx => by simp at hx⟩, fun _ _ _ _ _ => trivial, ?_, ?_⟩
  · rintro i x σ H4 H' hi ⟨⟨v3, v4, v5, rfl⟩, b4, hp4, ms, hml4, hlen, hnd, hms⟩ ⟨rfl, rfl⟩
    refine g_name (i := 3) ?_ C.nd
    refine b_cons (s_set (i := 4) (e_call C D2 (a_cons (e_name 0 (a_cons (e_name 1 (a_cons (e_int (a_cons (e_call (C.mono (by decide)) D1 (a_cons (e_name 0 (a_cons (e_lits (K := []) (l := [p]) (ds := [.int 1, .int 2, .int 11]) hp4.here (lits_cons lit_int (lits_cons lit_int (lits_cons lit_int lits_nil))) (fun q vs H5 b5 hq hqp hd => a_nil ?_))))) rfl (fun _ _ _ _ _ _ us hl => match us, hl with | [_, _], _ => rfl))))))))) rfl (fun _ _ _ _ _ _ us hl => match us, hl with | [_, _, _, _], _ => rfl)) C.nd)
    refine ⟨p, hp4.new b5, .inl ⟨q, vs, rfl, by simpa using hqp, .inl (.inl hq), by rw [hd.length]; decide, by rw [hd.length]; decide, fun v hv H6 b6 hp6 => ?_⟩⟩
    obtain ⟨k, rfl, k1, k11⟩ : ∃ k : Nat, v = .int k ∧ 1 ≤ k ∧ k ≤ 11 := by
      obtain ⟨d, hdm, hD⟩ := DDs.mem hd hv
      simp only [List.mem_cons, List.not_mem_nil, or_false] at hdm
      rcases hdm with rfl | rfl | rfl
      · cases hD; exact ⟨1, rfl, by decide, by decide⟩
      · cases hD; exact ⟨2, rfl, by decide, by decide⟩
      · cases hD; exact ⟨11, rfl, by decide, by decide⟩
    refine a_nil ⟨p, g, 1, k, rfl, hp6, gs, k1, by omega, fun y H7 hy y1 yk b7 hp7 => ?_⟩
    have b47 := b5.of.trans (b6.trans b7)
    have hml7 := b47 _ _ npl hml4
    have sg : g.length ≤ sizeLine := sz _ (by omega)
    refine b_cons (s_set (i := 5) (e_bin (e_lst (a_cons (e_name 4 (v := .str y) (a_nil ⟨sz 1 (by decide), fun q1 hq1 => e_lcM [("letter", 9)] C (i_str (e_name 1 (v := .str g) ?_))⟩))))) C.nd)
    refine ⟨g, rfl, _, _, _, g.cps.toList.map fun c => V.str (y ++ ⟨#[c]⟩), walk_str, by simp, sg, fun _ _ => trivial, fun j x2 H8 H9 hj b8 hy2 => ?_, fun Da H9 b9 hn9 hl9 => ?_⟩
    · obtain ⟨rfl, c, hc, rfl⟩ := hy2
      refine ⟨But.refl, mt_name (i := 9) C.nd fun s H0 Ca cl fp => e_bin (e_name 4 (v := .str y) (e_name 9 (v := .str ⟨#[c]⟩) (o_adds (by show y.length + 1 ≤ _; exact sz _ (by omega)) ⟨?_, But.refl⟩)))⟩
      rw [List.getElem?_map, Array.getElem?_toList, hc]
      rfl
    have hq9 : H9 q1 = some (.lst [.str y]) := b9 _ _ (by simp) upd_same
    have b79 : But [] H7 H9 := (But.new hq1).trans b9
    have gN : g.cps.toList.length = g.length := by simp [Str.length]
    refine o_cat hq9 hl9 (by rw [List.length_map, gN]; exact sz _ (by simp; omega)) fun qn hqn => ?_
    have bn := But.new (l := []) (o := .lst ([V.str y] ++ g.cps.toList.map fun c => V.str (y ++ ⟨#[c]⟩))) hqn
    have hqN : upd H9 qn (.lst ([V.str y] ++ g.cps.toList.map fun c => V.str (y ++ ⟨#[c]⟩))) qn = some (.lst ((nearL g y).map V.str)) := by rw [upd_same]; simp [nearL]
    generalize upd H9 qn (.lst ([V.str y] ++ g.cps.toList.map fun c => V.str (y ++ ⟨#[c]⟩))) = H10 at bn hqN ⊢
    have b7A := b79.trans bn
    have hmlA := b7A _ _ (by simp) hml7
    have hn2 := near_two (y := y) gl.2 (signs_nodup gs)
    have hns := near_shape hy y1 (by omega)
    have nl5 : (nearL g y).length ≤ 5 := by unfold nearL; rw [List.length_cons, List.length_map, gN]; omega
    generalize nearL g y = near at hqN hn2 hns nl5
    refine b_cons (s_expr (e_append (e_name 2 (v := .ref ml) ⟨ml, rfl, ⟨_, hmlA⟩, e_ix (e_lcF [("label", 10)] C 10 (i_list (e_name 5 (v := .ref qn) ⟨qn, rfl, ⟨near.map V.str, .inl (.inl hqN)⟩, ?_⟩)))⟩)))
    refine ⟨_, _, _, near.map V.str, near.map fun z => !decide (z ∈ ms), walk_list (xs := near.map V.str), rfl, by simp, sz _ (by rw [List.length_map]; omega), fun H' b => .inl (.inl (b _ _ (by simp) hqN)), fun j x HA HB hj bA hy2 => ?_, fun DD1 HC bC hDn hD1 => ?_⟩
    · obtain ⟨rfl, hx⟩ := hy2
      have hx0 := hx
      rw [List.getElem?_map, Option.map_eq_some_iff] at hx
      obtain ⟨z, hz, rfl⟩ := hx
      refine ⟨rfl, hx0, fun s H0 C' cl fp => t_cmp (e_name 10 (v := .str z) (e_name 2 (v := .ref ml) (c_notInL (.inl (.inl (.inl (bA _ _ (by simp) hmlA)))) rfl (flat_strs _) ⟨_, rfl, ?_, But.refl, fun _ => fun s H0 C' cl fp => e_name 10 (v := .str z) ⟨rfl, But.refl⟩⟩)))⟩
      rw [List.getElem?_map, hz, inV_strs]
      rfl
    · obtain ⟨z, rz, ek, hz, hzn⟩ := fresh_one (xs := near) (ys := ms) hn2.1 (by omega)
      rw [ek] at hD1
      refine e_int (ix_l (.inl (.inl hD1)) (v := .str z) (atI_nat (j := 0) rfl) ⟨_, bC _ _ (by simp) hmlA, by rw [List.length_map]; exact Nat.lt_of_lt_of_le (by omega : ms.length < 4) (sz 4 (by decide)), ?_⟩)
      refine b_nil ⟨⟨_, _, _, rfl⟩, ?_, ?_, ms ++ [z], by rw [upd_same]; simp, by simp [hlen], ?_, ?_⟩
      · intro q o nq e
        rw [upd_ne (ne_of_none e hml)]
        exact bC _ _ (by simp) (b7A _ _ (by simp) (b47 _ _ nq (b4 _ _ nq e)))
      · obtain ⟨a, b, e, r⟩ := (hp7.new b7A).new bC
        exact ⟨a, b, by rw [upd_ne nmp.symm]; exact e, r⟩
      · rw [List.nodup_append]
        exact ⟨hnd, by simp, fun a ha b hb hab => by rw [List.mem_singleton.mp hb] at hab; exact hzn (hab ▸ ha)⟩
      · intro x hx
        rcases List.mem_append.mp hx with hx | hx
        · exact hms x hx
        · rw [List.mem_singleton.mp hx]; exact hns z hz
  · rintro σ H4 ⟨⟨v3, v4, v5, rfl⟩, b4, hp4, ms, hml4, hlen, hnd, hms⟩
    have m1 : 1 ≤ ms.length := by omega
    have m3 : ms.length ≤ 3 := by omega
    clear hlen
    refine b_cons (s_par (i := 6) (j := 7) C (a_cons (e_call (C.mono (by decide)) D0 (a_cons (e_name 0 (v := .ref p) (a_cons (e_int (a_nil ?_))))) rfl (fun _ _ _ _ _ _ us hl => match us, hl with | [_, _], _ => rfl))))
    refine ⟨p, 12, rfl, hp4, by decide, by decide, fun way H5 w0 w1 b5 hp5 => ?_⟩
    refine a_cons (e_call (C.mono (by decide)) D0 (a_cons (e_name 0 (v := .ref p) (a_cons (e_len B (e_name 2 (v := .ref ml) ⟨ms.length, .inl ⟨_, .inl (.inl (b5 _ _ npl hml4)), by simp⟩, a_nil ?_⟩))))) rfl (fun _ _ _ _ _ _ us hl => match us, hl with | [_, _], _ => rfl))
    refine ⟨p, ms.length, rfl, hp5, by omega, by omega, fun at_ H6 a0 a1 b6 hp6 => a_nil ⟨_, _, rfl, ?_⟩⟩
    obtain ⟨a, rfl⟩ := Int.eq_ofNat_of_zero_le a0
    have ha : a < ms.length := by omega
    have b46 := b4.trans (b5.trans b6)
    have hml6 := b6 _ _ npl (b5 _ _ npl hml4)
    have szm : ms.length + 1 ≤ sizeLine := Nat.le_trans (by omega : ms.length + 1 ≤ 4) (sz 4 (by decide))
    refine b_cons (s_ifB (decide (way = 0)) (t_cmp (e_name 6 (v := .int way) (e_int (c_eq rfl ⟨_, rfl, by rw [decide_eq_decide, V.int.injEq], But.refl⟩)))) (fun e H7 b7 => ?_) (fun e H7 b7 => b_nil ?_))
    · have hml7 : RowS H7 ml ms := b7 _ _ (by simp) hml6
      have hp7 := hp6.new b7
      have tl : (ms.take a).length = a := by rw [List.length_take]; omega
      have dl : (ms.drop (a + 1)).length + (a + 1) = ms.length := by rw [List.length_drop]; omega
      have e1a : ((a : Nat) : Int) + 1 = ((a + 1 : Nat) : Int) := by omega
      refine b_cons (s_ret (e_tup (a_cons (e_bin (e_bin (e_slice sl_list (e_name 2 (v := .ref ml) (p_none (p_some (e_name 7 (v := .int (a : Nat)) ⟨_, rfl, rs_to hml7 fun s1 H8 b8 n8 r8 => ?_⟩))))))))))
      have n1p : s1 ∉ [p] := by simpa using hp7.there n8
      have hgl : ∃ c0 r, g.cps.toList = c0 :: r := by
        match hh : g.cps.toList with
        | [] => have : g.cps.toList.length = g.length := by simp; rfl
                rw [hh] at this; simp at this; omega
        | c :: r => exact ⟨c, r, rfl⟩
      obtain ⟨c0, rg, hg0⟩ := hgl
      have hgz : ∃ cl ini, g.cps.toList = ini ++ [cl] := by
        rcases List.eq_nil_or_concat g.cps.toList with h | ⟨i, x, h⟩
        · rw [hg0] at h; cases h
        · exact ⟨x, i, by rw [h]; simp⟩
      obtain ⟨cl, ini, hgz⟩ := hgz
      refine e_lst (a_cons (e_call (C.mono (by decide)) D3 (a_cons (e_name 0 (v := .ref p) (a_cons (e_name 1 (v := .str g) (a_cons (e_int (a_nil ?_))))))) rfl (fun _ _ _ _ _ _ us hl => match us, hl with | [_, _, _], _ => rfl)))
      refine ⟨p, g, 12, c0, cl, rg, rfl, hp7.new b8, hg0, ⟨ini, hgz⟩, by decide, by omega, fun v d H9 hd hdd b9 hp9 => a_nil ⟨sz 1 (by decide), fun s2 hs2 => ?_⟩⟩
      have hsh := odd_short gs d hd
      have r9 : H9 s1 = some (.lst ((ms.take a).map V.str)) := b9 _ _ n1p r8
      have c2 : But [] H9 (upd H9 s2 (.lst [v])) := But.new hs2
      have npl2 : ml ∉ [p] := npl
      have hml9 : RowS H9 ml ms := b9 _ _ npl2 (b8 _ _ (by simp) hml7)
      refine o_cat (c2 _ _ (by simp) r9) upd_same (sz _ (by rw [List.length_map, tl]; show a + 1 ≤ _; omega)) fun s3 hs3 => ?_
      have c3 : But [] (upd H9 s2 (.lst [v])) (upd (upd H9 s2 (.lst [v])) s3 (.lst ((ms.take a).map V.str ++ [v]))) := But.new hs3
      have e3 : upd (upd H9 s2 (.lst [v])) s3 (.lst ((ms.take a).map V.str ++ [v])) s3 = some (.lst ((ms.take a).map V.str ++ [v])) := upd_same
      have c23 := c2.trans c3
      generalize upd (upd H9 s2 (.lst [v])) s3 (.lst ((ms.take a).map V.str ++ [v])) = HA at c23 e3 ⊢
      refine e_slice sl_list (e_name 2 (v := .ref ml) (p_some (e_bin (e_name 7 (v := .int (a : Nat)) (e_int (o_add ⟨_, rfl, p_none ?_⟩))))))
      rw [e1a]
      refine rs_from (hml9.new c23) fun s4 HB bB n4 r4 => o_cat (bB _ _ (by simp) e3) r4 (sz _ (by rw [List.length_append, List.length_map, List.length_map, tl]; show a + 1 + _ ≤ _; omega)) fun q2 hq2 => ?_
      have cq : But [] HB (upd HB q2 (.lst (((ms.take a).map V.str ++ [v]) ++ (ms.drop (a + 1)).map V.str))) := But.new hq2
      refine a_cons (e_name 7 (v := .int (a : Nat)) (a_nil ⟨sz 2 (by decide), fun t ht => ?_⟩))
      have ct : But [] _ (upd (upd HB q2 (.lst (((ms.take a).map V.str ++ [v]) ++ (ms.drop (a + 1)).map V.str))) t (.tup [.ref q2, .int (a : Nat)])) := But.new ht
      have c9 : But [] H9 _ := c23.trans (bB.trans (cq.trans ct))
      have nq2 : q2 ≠ p := (hp9.new (c23.trans bB)).there hq2
      have eq : (((ms.take a).map PyData.str ++ [d]) ++ (ms.drop (a + 1)).map PyData.str) = (ms.take a).map PyData.str ++ d :: (ms.drop (a + 1)).map PyData.str := by rw [List.append_assoc]; rfl
      have fnO : Fine 2 700 (.list (((ms.take a).map PyData.str ++ [d]) ++ (ms.drop (a + 1)).map PyData.str)) := fine_list (fun x hx => by
        rcases List.mem_append.mp hx with hx | hx
        · rcases List.mem_append.mp hx with hx | hx
          · exact fine_strs gs (fun y hy => hms y (List.mem_of_mem_take hy)) x hx
          · rw [List.mem_singleton.mp hx]; exact fine_T (sign_known gs (by rw [hg0]; simp)) (sign_known gs (by rw [hgz]; simp)) (.inl rfl) d hd
        · exact fine_strs gs (fun y hy => hms y (List.mem_of_mem_drop hy)) x hx) (by rw [List.length_append, List.length_append, List.length_map, List.length_map, tl]; show a + 1 + _ ≤ 3; omega)
      refine hQ t (.ref q2) (.list (((ms.take a).map PyData.str ++ [d]) ++ (ms.drop (a + 1)).map PyData.str)) _ ?_ (.lst (.inl (.inl (ct _ _ (by simp) upd_same))) (by simpa using nq2) (DDs.append (DDs.append (DDs.strs _) (.cons (hdd.but c9.of) .nil)) (DDs.strs _))) fnO (b46.trans (b7.of.trans (b8.of.trans (b9.trans c9.of)))) (hp9.new c9)
      rw [eq, at_odd (ys := ms.take a) (fun y hy => hms y (List.mem_of_mem_take hy)) (List.Nodup.sublist (List.take_sublist _ _) hnd) hsh (by rw [tl, List.length_map]; omega), tl]
      exact upd_same
    have hml7 := b7 _ _ (by simp) hml6
    have hp7 := hp6.new b7
    have b47 := b46.trans b7.of
    refine b_cons (s_ifB (decide (way = 1 ∧ ms.length < 3)) ?_ (fun e1 H8 b8 => ?_) (fun e1 H8 b8 => b_nil ?_))
    · refine t_boolop (w_and (t_cmp (e_name 6 (v := .int way) (e_int (c_eq rfl ⟨_, rfl, ?_⟩)))))
      rw [show decide (V.int way = V.int 1) = decide (way = 1) by rw [decide_eq_decide, V.int.injEq]]
      refine ite_b (fun e6 => ?_) fun e6 => ?_
      · refine w_and1 (t_cmp (e_len B (e_name 2 (v := .ref ml) ⟨ms.length, .inl ⟨_, .inl (.inl hml7), by simp⟩, e_int (c_lt ⟨_, rfl, ?_, But.refl⟩)⟩)))
        have := of_decide_eq_true e6
        rw [decide_eq_decide]
        omega
      · have := of_decide_eq_false e6
        exact ⟨(decide_eq_false (fun h => this h.1)).symm, But.refl⟩
    · have e2 := of_decide_eq_true e1
      have hml8 := b8 _ _ (by simp) hml7
      have hg : (ms.map V.str)[a]? = some (.str ms[a]) := by rw [List.getElem?_map, List.getElem?_eq_getElem ha]; rfl
      refine b_cons (s_ret (e_tup (a_cons (e_bin (e_name 2 (v := .ref ml) (e_lst (a_cons (e_ix (e_name 2 (v := .ref ml) (e_name 7 (v := .int (a : Nat)) (ix_l (.inl (.inl hml8)) (v := .str ms[a]) (atI_nat hg) (a_nil ⟨sz 1 (by decide), fun q1 hq1 => ?_⟩))))))))))))
      have c1 := But.new (l := []) (o := .lst [V.str ms[a]]) hq1
      refine o_cat (c1 _ _ (by simp) hml8) upd_same (by rw [List.length_map]; exact szm) fun q2 hq2 => ?_
      have c2 := But.new (l := []) (o := .lst (ms.map V.str ++ [V.str ms[a]])) hq2
      refine a_cons (e_len B (e_name 2 (v := .ref ml) ⟨ms.length, .inl ⟨_, .inl (.inl (c2 _ _ (by simp) (c1 _ _ (by simp) hml8))), by simp⟩, a_nil ⟨sz 2 (by decide), fun t ht => ?_⟩⟩))
      have c3 := But.new (l := []) (o := .tup [.ref q2, .int (ms.length : Nat)]) ht
      have c := b8.trans (c1.trans (c2.trans c3))
      have nq2 : q2 ≠ p := (((hp7.new b8).new c1)).there hq2
      have fnT : Fine 2 700 (.list (ms.map .str ++ [.str ms[a]])) := fine_list (fun x hx => by
        rcases List.mem_append.mp hx with hx | hx
        · exact fine_strs gs hms x hx
        · exact fine_strs gs hms x (by rw [List.mem_singleton.mp hx]; exact List.mem_map.mpr ⟨_, List.getElem_mem ha, rfl⟩)) (by rw [List.length_append, List.length_map]; show _ + 1 ≤ 3; omega)
      refine hQ t (.ref q2) (.list (ms.map .str ++ [.str ms[a]])) _ ?_ (.lst (.inl (.inl (c3 _ _ (by simp) upd_same))) (by simpa using nq2) (DDs.append (DDs.strs _) (.cons (.str _) .nil))) fnT (b47.trans c.of) (hp7.new c)
      rw [at_twice hms hnd (List.getElem_mem ha) (by omega)]
      exact upd_same
    have hml8 : RowS H8 ml ms := b8 _ _ (by simp) hml7
    have hp8 := hp7.new b8
    have b48 := b47.trans b8.of
    refine b_cons (s_ifB (decide (way = 2)) (t_cmp (e_name 6 (v := .int way) (e_int (c_eq rfl ⟨_, rfl, by rw [decide_eq_decide, V.int.injEq], But.refl⟩)))) (fun e2 H9 b9 => ?_) (fun e2 H9 b9 => b_nil ?_))
    · have hgl : ∃ c0 r, g.cps.toList = c0 :: r := by
        match hh : g.cps.toList with
        | [] => have : g.cps.toList.length = g.length := by simp; rfl
                rw [hh] at this; simp at this; omega
        | c :: r => exact ⟨c, r, rfl⟩
      obtain ⟨c0, rg, hg0⟩ := hgl
      have sg : g.length ≤ sizeLine := sz _ (by omega)
      have a0' : atI g.cps.toList 0 = some c0 := atI_nat (j := 0) (by rw [hg0]; rfl)
      have hp9 := hp8.new b9
      refine b_cons (s_set (i := 8) (e_lits (K := []) (l := [p]) (ds := [.str (Txt.mul ⟨#[c0]⟩ 7), .str (Txt.mul ⟨#[c0]⟩ 8), .str (Txt.mul ⟨#[c0]⟩ 9), .str (Txt.mul ⟨#[c0]⟩ 10)]) hp9.here (lits_cons (fun H1 b1 => e_bin (e_ix (e_name 1 (v := .str g) (e_int (ix_s sg a0' (e_int (o_mulS (by show 1 ≤ 16; decide) (by decide) (by decide) ⟨But.refl, .str _⟩))))))) (lits_cons (fun H1 b1 => e_bin (e_ix (e_name 1 (v := .str g) (e_int (ix_s sg a0' (e_int (o_mulS (by show 1 ≤ 16; decide) (by decide) (by decide) ⟨But.refl, .str _⟩))))))) (lits_cons (fun H1 b1 => e_bin (e_ix (e_name 1 (v := .str g) (e_int (ix_s sg a0' (e_int (o_mulS (by show 1 ≤ 16; decide) (by decide) (by decide) ⟨But.refl, .str _⟩))))))) (lits_cons (fun H1 b1 => e_bin (e_ix (e_name 1 (v := .str g) (e_int (ix_s sg a0' (e_int (o_mulS (by show 1 ≤ 16; decide) (by decide) (by decide) ⟨But.refl, .str _⟩))))))) lits_nil)))) (fun qs xs H10 b10 hqs nqs hds => ?_) (by show 4 ≤ 16777216; decide)) C.nd)
      have hp10 := hp9.new b10
      have ddS : DD [] [p] H10 (.ref qs) (.list [.str (Txt.mul ⟨#[c0]⟩ 7), .str (Txt.mul ⟨#[c0]⟩ 8), .str (Txt.mul ⟨#[c0]⟩ 9), .str (Txt.mul ⟨#[c0]⟩ 10)]) := .lst (.inl (.inl hqs)) nqs hds
      refine b_cons (s_ret (e_tup (a_cons (e_call (C.mono (by decide)) D1 (a_cons (e_name 0 (v := .ref p) (a_cons (e_lits (K := []) (l := [p]) (ds := oddM ⟨#[c0]⟩) hp10.here (lits_cons (lit_lst hp10.here lits_nil) (lits_cons (lit_tup hp10.here lits_nil) (lits_cons lit_none (lits_cons lit_str (lits_cons lit_int (lits_cons lit_bool (lits_cons (lit_dict0 hp10.here) (lits_cons (fun H1 b1 => eE (pe_disp (pps_cons pE pE pps_nil) rfl rfl (by simp) (by decide)) (fun cd hcd => e_ix (e_name 1 (v := .str g) (e_int (ix_s sg a0' (e_int ⟨upd_same, [((.inr ⟨#[c0]⟩ : Key), V.int 1)], rfl, by show 1 ≤ 15; decide, ?_⟩)))))) (lits_cons (fun H1 b1 => e_name 8 (v := .ref qs) ⟨But.refl, ddS.but b1.of⟩) lits_nil))))))))) (fun q ys H11 b11 hq nq hd => a_nil ?_) (by show 9 ≤ 16777216; decide))))) rfl (fun _ _ _ _ _ _ us hl => match us, hl with | [_, _], _ => rfl)))))
      · have e0 : upd (upd H1 cd (.dK [])) cd (.dK (mergeK [] [((.inr ⟨#[c0]⟩ : Key), V.int 1)])) = upd H1 cd (.dK [((.inr ⟨#[c0]⟩ : Key), V.int 1)]) := by
          rw [show mergeK [] [((.inr ⟨#[c0]⟩ : Key), V.int 1)] = [((.inr ⟨#[c0]⟩ : Key), V.int 1)] from rfl]
          funext z
          by_cases hz : z = cd
          · rw [hz, upd_same, upd_same]
          · rw [upd_ne hz, upd_ne hz, upd_ne hz]
        rw [e0]
        exact ⟨But.new hcd, .dct (kvs := [((.inr ⟨#[c0]⟩ : Key), V.int 1)]) (ds := [.int 1]) upd_same (hp10.here.new b1 hcd) (.cons (.int _) .nil)⟩
      have hp11 := hp10.new b11
      refine ⟨p, hp11, .inl ⟨q, ys, rfl, by simpa using nq, .inl (.inl hq), by rw [hd.length]; show 0 < 9; decide, by rw [hd.length]; show 9 < 1000000; decide, fun v hv H12 b12 hp12 => a_cons (e_none (a_nil ⟨sz 2 (by decide), fun t ht => ?_⟩))⟩⟩
      obtain ⟨d, hdm, hD⟩ := DDs.mem (hd.but b12) hv
      have ct := But.new (l := []) (o := .tup [v, .non]) ht
      refine hQ t v d _ ?_ (hD.but ct.of) (fine_M (sign_known gs (by rw [hg0]; simp)) d hdm) (b48.trans (b9.of.trans (b10.of.trans (b11.of.trans (b12.trans ct.of))))) (hp12.new ct)
      rw [at_none hdm]
      exact upd_same
    · have hml9 : RowS H9 ml ms := hml8.new b9
      have hp9 := hp8.new b9
      have fine := at_fine hms hnd m1 m3
      refine b_cons (s_ret (e_tup (a_cons (e_if (t_cmp (e_name 6 (v := .int way) (e_int (c_eq rfl ⟨_, rfl, ite_b (fun e3 => ?_) fun e3 => ?_⟩))))))))
      · refine e_tupleOf B (e_name 2 (v := .ref ml) ⟨ml, _, rfl, .inl ⟨.inl (.inl hml9), fun q hq => a_cons (e_un (e_int (u_neg (a_nil ⟨sz 2 (by decide), fun t ht => ?_⟩))))⟩⟩)
        have c1 := But.new (l := []) (o := .tup (ms.map V.str)) hq
        have ct := But.new (l := []) (o := .tup [.ref q, .int (-1)]) ht
        refine hQ t (.ref q) (.tuple (ms.map .str)) _ ?_ (.tup (.inl (.inl (ct _ _ (by simp) upd_same))) (by simpa using hp9.there hq) (DDs.strs _)) (fine_tuple (fine_strs gs hms) (by rw [List.length_map]; exact m3)) (b48.trans (b9.trans (c1.trans ct)).of) (hp9.new (c1.trans ct))
        rw [fine.2]
        exact upd_same
      · refine e_name 2 (v := .ref ml) (a_cons (e_un (e_int (u_neg (a_nil ⟨sz 2 (by decide), fun t ht => ?_⟩)))))
        have ct := But.new (l := []) (o := .tup [.ref ml, .int (-1)]) ht
        refine hQ t (.ref ml) (.list (ms.map .str)) _ ?_ (.lst (.inl (.inl (ct _ _ (by simp) hml9))) npl (DDs.strs _)) (fine_list (fine_strs gs hms) (by rw [List.length_map]; exact m3)) (b48.trans (b9.trans ct).of) (hp9.new ct)
        rw [fine.1]
        exact upd_same
end
end K50

set_option Elab.async false
set_option linter.all false
set_option maxRecDepth 100000
set_option maxHeartbeats 1600000
namespace K50
open PySem PySem.Spec PyProof.Rows L2 Z LamX
/-! ### a reader asked for, and what is told of it -/
/-- what was drawn for one reader -/
structure Dr where
  d1 : PyData
  dL : PyData
  d3 : PyData
  e1 : PyData
  e2 : PyData
  e3 : PyData
  e4 : PyData
  v1 : V
  vL : V
  v3 : V
  w1 : V
  w2 : V
  w3 : V
  w4 : V
  ok1 : Bool
  ok3 : Bool
  k1 : Bool
  k2 : Bool
  k3 : Bool
  k4 : Bool
  g : Str
structure Dr.Ok (X : Dr) : Prop where
  gs : strSigns X.g = true
  s1 : X.ok1 = true → X.d1 = .str X.g
  s0 : X.ok1 = false → areSigns X.d1 = false
  o3 : X.ok3 = shortLine 3 X.g X.d3
  c1 : X.k1 = wordB X.g "sight" X.e1
  c2 : X.k2 = wordB X.g "order" X.e2
  c3 : X.k3 = wordB X.g "further" X.e3
  c4 : X.k4 = wordB X.g "finish" X.e4
  f1 : Fine 2 700 X.d1
  fL : Fine 2 700 X.dL
  f3 : Fine 2 700 X.d3
  g1 : Fine 2 700 X.e1
  g2 : Fine 2 700 X.e2
  g3 : Fine 2 700 X.e3
  g4 : Fine 2 700 X.e4
structure Dr.At (X : Dr) (l : List Addr) (H : Hp) : Prop where
  d1 : DD [] l H X.v1 X.d1
  dL : DD [] l H X.vL X.dL
  d3 : DD [] l H X.v3 X.d3
  e1 : DD [] l H X.w1 X.e1
  e2 : DD [] l H X.w2 X.e2
  e3 : DD [] l H X.w3 X.e3
  e4 : DD [] l H X.w4 X.e4
theorem Dr.At.but {X : Dr} {l : List Addr} {H H' : Hp} (h : X.At l H) (b : But l H H') : X.At l H' := ⟨h.d1.but b, h.dL.but b, h.d3.but b, h.e1.but b, h.e2.but b, h.e3.but b, h.e4.but b⟩
theorem Dr.At.ex {X : Dr} {l : List Addr} {H H' : Hp} (h : X.At l H) (b : Ex l H H') : X.At l H' := ⟨h.d1.ex b, h.dL.ex b, h.d3.ex b, h.e1.ex b, h.e2.ex b, h.e3.ex b, h.e4.ex b⟩
theorem Dr.At.add {X : Dr} {l : List Addr} {H : Hp} {t : Addr} (h : X.At l H) (n : H t = none) : X.At (t :: l) H := ⟨h.d1.add n, h.dL.add n, h.d3.add n, h.e1.add n, h.e2.add n, h.e3.add n, h.e4.add n⟩
theorem Dr.At.less {X : Dr} {l m : List Addr} {H : Hp} (h : X.At l H) (b : ∀ q ∈ m, q ∈ l) : X.At m H := ⟨h.d1.less b, h.dL.less b, h.d3.less b, h.e1.less b, h.e2.less b, h.e3.less b, h.e4.less b⟩
def Dr.at_ (X : Dr) : Option Int := atOf X.g X.dL
def Dr.due (X : Dr) : List PyData := dueL X.d1 X.ok1 X.at_ X.d3 X.ok3 [("sight", 0, X.w1, X.e1, X.k1), ("order", 0, X.w2, X.e2, X.k2), ("further", 0, X.w3, X.e3, X.k3), ("finish", 0, X.w4, X.e4, X.k4)]
structure Made (X : Dr) (R : RData) : Prop where
  ok : R.Ok
  g : R.g = X.g
  ms : items X.dL = R.ms.map .str
  sq : seqB X.dL = true
  t : X.d3 = .str R.t
  c : [X.e1, X.e2, X.e3, X.e4] = [.str R.si, .str R.od, .str R.fu, .str R.fi]
theorem Made.one {X : Dr} {R S : RData} (h : Made X R) (k : Made X S) : R = S := by
  have hg := h.g.trans k.g.symm
  have hm : R.ms = S.ms := by
    have := h.ms.symm.trans k.ms
    have inj : Function.Injective (PyData.str) := fun a b e => PyData.str.inj e
    exact (List.map_inj_right inj).mp this
  have ht := PyData.str.inj (h.t.symm.trans k.t)
  have hc := h.c.symm.trans k.c
  simp only [List.cons.injEq, PyData.str.injEq, and_true] at hc
  cases R
  cases S
  simp only at hg hm ht hc
  obtain ⟨c1, c2, c3, c4⟩ := hc
  subst hg hm ht c1 c2 c3 c4
  rfl
theorem IsReader.ext {CR : Addr} {R : RData} {H H' : Hp} {r : Addr} (h : IsReader CR R H r) (b : Ex [] H H') : IsReader CR R H' r := let ⟨dx, ml, cd, h1, h2, h3⟩ := h.ex; ⟨dx, ml, cd, b _ _ (by simp) h1 (fun _ z => by cases z), b _ _ (by simp) h2 (fun _ z => by cases z), b _ _ (by simp) h3 (fun _ z => by cases z)⟩
/-- what is told of it -/
structure ToldR (K : PySem.W.Frag) (CR : Addr) (X : Dr) (l : List Addr) (H : Hp) (q : Addr) : Prop where
  yes : X.due ≠ [] → ∃ us, H q = some (.lst us) ∧ DDs K l H us X.due
  no : X.due = [] → ∃ r R, H q = some (.lst [.str "made", .ref r]) ∧ IsReader CR R H r ∧ Made X R
theorem ToldR.ex {K : PySem.W.Frag} {CR : Addr} {X : Dr} {l : List Addr} {H H' : Hp} {q : Addr} (h : ToldR K CR X l H q) (b : Ex [] H H') : ToldR K CR X l H' q :=
  ⟨fun e => let ⟨us, h1, h2⟩ := h.yes e; ⟨us, b.lst (by simp) h1, h2.ex (b.mono (by simp))⟩, fun e => let ⟨r, R, h1, h2, h3⟩ := h.no e; ⟨r, R, b.lst (by simp) h1, h2.ext b, h3⟩⟩
theorem ToldR.less {K : PySem.W.Frag} {CR : Addr} {X : Dr} {l m : List Addr} {H : Hp} {q : Addr} (h : ToldR K CR X l H q) (b : ∀ q ∈ m, q ∈ l) : ToldR K CR X m H q :=
  ⟨fun e => let ⟨us, h1, h2⟩ := h.yes e; ⟨us, h1, h2.less b⟩, h.no⟩
theorem ToldR.set {K : PySem.W.Frag} {CR : Addr} {X : Dr} {H : Hp} {q tq q1 : Addr} {xs : List V} (h : ToldR K CR X [tq] H q) (n : q ≠ tq) (ht : H tq = some (.lst [.ref q1])) : ToldR K CR X [tq] (upd H tq (.lst xs)) q := by
  have b : But [tq] H (L2.upd H tq (.lst xs)) := But.at (by simp)
  refine ⟨fun e => ?_, fun e => ?_⟩
  · obtain ⟨us, h1, h2⟩ := h.yes e
    exact ⟨us, by rw [upd_ne n]; exact h1, h2.but b⟩
  · obtain ⟨r, R, h1, h2, h3⟩ := h.no e
    refine ⟨r, R, by rw [upd_ne n]; exact h1, h2.but b (fun z hz => ⟨[.ref q1], by rw [List.mem_singleton.mp hz]; exact ht, fun e2 => ?_⟩), h3⟩
    have m := h3.ok.ms.1
    cases hm : R.ms with
    | nil => rw [hm] at m; simp at m
    | cons y l => rw [hm] at e2; simp at e2
theorem badM_form {g : Str} {d f : PyData} (h : badMarks g d = some f) : (f = .none ∧ atOf g d = none) ∨ ∃ n : Nat, f = .int n ∧ atOf g d = some (n : Nat) := by
  unfold atOf
  rw [h]
  unfold badMarks at h
  split at h
  · cases hf : firstBad g [] (items d) with
    | none => rw [hf] at h; cases h
    | some n => rw [hf] at h; cases h; exact .inr ⟨n, rfl, rfl⟩
  · cases h
    exact .inl ⟨rfl, rfl⟩
theorem atOf_good {g : Str} {d : PyData} (h : badMarks g d = none) : atOf g d = some (-1) := by
  unfold atOf
  rw [h]
theorem due_signs {X : Dr} (h : X.ok1 = false) : X.due = [.str "signs", X.d1, .bool true] := by
  unfold Dr.due dueL
  rw [if_pos h]
theorem due_marks {X : Dr} (h : X.ok1 = true) {f : PyData} (hf : badMarks X.g X.dL = some f) : X.due = [.str "marks", f, .bool true] := by
  unfold Dr.due dueL Dr.at_
  rw [if_neg (by rw [h]; simp)]
  rcases badM_form hf with ⟨rfl, e⟩ | ⟨n, rfl, e⟩
  · rw [e, if_pos (by simp)]
  · rw [e, if_pos (by simp)]
    try rfl
theorem due_tail {X : Dr} (h : X.ok1 = true) (hf : badMarks X.g X.dL = none) (h3 : X.ok3 = false) : X.due = [.str "tail", X.d3, .bool true] := by
  unfold Dr.due dueL Dr.at_
  rw [if_neg (by rw [h]; simp), atOf_good hf, if_neg (by simp), if_pos h3]
theorem due_care {X : Dr} (ok : X.Ok) (h : X.ok1 = true) (hf : badMarks X.g X.dL = none) (h3 : X.ok3 = true) :
    X.due = (match badCare X.g (caresOf X.w1 X.w2 X.w3 X.w4 X.e1 X.e2 X.e3 X.e4) with | none => [] | some q => [.str "care", .str q.1, q.2.2, .bool true]) := by
  unfold Dr.due dueL Dr.at_
  rw [if_neg (by rw [h]; simp), atOf_good hf, if_neg (by simp), if_neg (by rw [h3]; simp)]
  simp only [dueC, badCare, caresOf, List.find?]
  rw [ok.c1, ok.c2, ok.c3, ok.c4]
  cases wordB X.g "sight" X.e1 <;> cases wordB X.g "order" X.e2 <;> cases wordB X.g "further" X.e3 <;> cases wordB X.g "finish" X.e4 <;> rfl
section
variable {P : Program} {w : World} {K : PySem.W.Frag} {mg : Str → Option Value} {base : Heap}
theorem init_told {CR CS CM CT CC : Addr} {X : Dr} (ok : X.Ok) {H2 : Hp} {r dx : Addr} {l : List Addr} {Q : VK} (hA : X.At l H2) (hr : H2 r = none) (hdx : H2 dx = none) (nd : dx ≠ r) (k : ∀ q H', But [] H2 H' → H2 q = none → ToldR K CR X l H' q → Q (.ref q) H') :
    spInitR K CR CS CM CT CC [.ref r, X.v1, X.vL, X.v3, X.w1, X.w2, X.w3, X.w4] (upd (upd H2 dx (.own r)) r (.ins CR dx [])) (fun v H3 => v = .non ∧ ∀ q H4, But [] H3 H4 → H3 q = none → H4 q = some (.lst [.str "made", .ref r]) → Q (.ref q) H4) (ETold CS CM CT CC Q) := by
  have bn : But [] H2 (upd (upd H2 dx (.own r)) r (.ins CR dx [])) := (But.new hdx).trans (But.new (by rw [upd_ne nd.symm]; exact hr))
  have hA2 := hA.but bn.of
  have hA0 := hA2.less (m := []) (by simp)
  have ddL : DD [] [r] (upd (upd H2 dx (.own r)) r (.ins CR dx [])) X.vL X.dL := ((hA.dL.less (m := []) (by simp)).add hr).but bn.of
  have hir : upd (upd H2 dx (.own r)) r (.ins CR dx []) r = some (.ins CR dx []) := upd_same
  generalize upd (upd H2 dx (.own r)) r (.ins CR dx []) = Hn at bn hA2 hA0 ddL hir ⊢
  refine ⟨r, dx, X.v1, X.vL, X.v3, X.w1, X.w2, X.w3, X.w4, l, l, X.d1, X.dL, X.d3, X.e1, X.e2, X.e3, X.e4, rfl, hir, hA2.d1.all, ok.f1.f, ddL, ok.fL.f, ok.fL.fs, ok.fL.len, hA2.d3.all, ok.f3.f, fun q hq => ?_, fun no1 dd H' b hx => ?_, fun g eg as1 => ?_⟩
  · simp only [caresOf, List.mem_cons, List.not_mem_nil, or_false] at hq
    rcases hq with rfl | rfl | rfl | rfl
    · exact ⟨ok.g1.f, hA0.e1⟩
    · exact ⟨ok.g2.f, hA0.e2⟩
    · exact ⟨ok.g3.f, hA0.e3⟩
    · exact ⟨ok.g4.f, hA0.e4⟩
  · have e : X.ok1 = false := by
      cases h : X.ok1 with
      | false => rfl
      | true =>
        rw [ok.s1 h] at no1
        exact absurd ok.gs (by rw [show strSigns X.g = areSigns (.str X.g) from rfl, no1]; simp)
    have hd := due_signs e
    refine ⟨dd, rfl, .inl ⟨rfl, X.v1, hx, fun p H3 b3 hn hp => k p H3 (bn.trans (b.trans b3)) (bn.free (b.free hn)) ⟨fun _ => ⟨_, hp, ?_⟩, fun z => by rw [hd] at z; cases z⟩⟩⟩
    rw [hd]
    exact .cons (.str _) (.cons (hA2.d1.but (b.trans b3).of).all (.cons (.bl _) .nil))
  · have e : X.ok1 = true := by
      cases h : X.ok1 with
      | true => rfl
      | false => rw [ok.s0 h] at as1; cases as1
    have egx : g = X.g := by
      rw [ok.s1 e] at eg
      exact (PyData.str.inj eg).symm
    subst egx
    refine ⟨fun f hf dd u H' b hx hu => ?_, fun okm no3 dd H' b hx => ?_, fun okm ok3 q hq dd H' b hx => ?_, fun okm ok3 okc R h1 h2 h3 h4 h5 H' b hR => ⟨rfl, fun q H4 b4 hn hq => ?_⟩⟩
    · have hd := due_marks e hf
      refine ⟨dd, rfl, .inr (.inl ⟨rfl, u, hx, fun p H3 b3 hn hp => k p H3 (bn.trans (b.trans b3)) (bn.free (b.free hn)) ⟨fun _ => ⟨_, hp, ?_⟩, fun z => by rw [hd] at z; cases z⟩⟩)⟩
      rw [hd]
      refine .cons (.str _) (.cons ?_ (.cons (.bl _) .nil))
      rcases badM_form hf with ⟨e0, _⟩ | ⟨n0, e0, _⟩ <;> (subst e0; cases hu; constructor)
    · have hd := due_tail e okm (ok.o3.trans no3)
      refine ⟨dd, rfl, .inr (.inr (.inl ⟨rfl, X.v3, hx, fun p H3 b3 hn hp => k p H3 (bn.trans (b.trans b3)) (bn.free (b.free hn)) ⟨fun _ => ⟨_, hp, ?_⟩, fun z => by rw [hd] at z; cases z⟩⟩))⟩
      rw [hd]
      exact .cons (.str _) (.cons (hA2.d3.but (b.trans b3).of).all (.cons (.bl _) .nil))
    · have hd := due_care ok e okm (ok.o3.trans ok3)
      rw [hq] at hd
      have hqd : DD [] l Hn q.2.1 q.2.2 := by
        have := List.mem_of_find?_eq_some hq
        simp only [caresOf, List.mem_cons, List.not_mem_nil, or_false] at this
        rcases this with rfl | rfl | rfl | rfl
        · exact hA2.e1
        · exact hA2.e2
        · exact hA2.e3
        · exact hA2.e4
      refine ⟨dd, rfl, .inr (.inr (.inr ⟨rfl, .str q.1, q.2.1, hx, fun p H3 b3 hn hp => k p H3 (bn.trans (b.trans b3)) (bn.free (b.free hn)) ⟨fun _ => ⟨_, hp, ?_⟩, fun z => by rw [hd] at z; cases z⟩⟩))⟩
      rw [hd]
      exact .cons (.str _) (.cons (.str _) (.cons (hqd.but (b.trans b3).of).all (.cons (.bl _) .nil)))
    · have hd := due_care ok e okm (ok.o3.trans ok3)
      rw [okc] at hd
      have b2 : But [] H2 H' := but_late bn b fun z hz => by rw [List.mem_singleton.mp hz]; exact hr
      refine k q H4 (b2.trans b4) (b2.free hn) ⟨fun z => absurd hd z, fun _ => ⟨r, R, hq, hR.but b4 (by simp), h5, h1, h2, (marks_none okm).1, h3, h4⟩⟩
end
end K50

set_option Elab.async false
set_option linter.all false
set_option maxRecDepth 100000
set_option maxHeartbeats 1600000
namespace K50
open PySem PySem.Spec PyProof.Rows L2 Z LamX NdefX
/-! ### what is drawn, plainly -/
theorem firstBad_lt {g : Str} : ∀ {ds pre : List PyData} {n : Nat}, firstBad g pre ds = some n → n < pre.length + ds.length
  | [], _, _, h => by cases h
  | d :: r, pre, n, h => by
    unfold firstBad at h
    split at h
    · have := firstBad_lt h
      simp only [List.length_append, List.length_cons, List.length_nil] at this ⊢
      omega
    · cases h
      simp only [List.length_cons]
      omega
theorem at_small (g : Str) (d : PyData) : atOf g d = none ∨ ∃ i : Int, atOf g d = some i ∧ (i = -1 ∨ i = 0 ∨ i = 1 ∨ i = 2) := by
  unfold atOf
  cases hb : badMarks g d with
  | none => exact .inr ⟨-1, rfl, .inl rfl⟩
  | some f =>
    unfold badMarks at hb
    split at hb
    · rename_i h
      cases hf : firstBad g [] (items d) with
      | none => rw [hf] at hb; cases hb
      | some n =>
        rw [hf] at hb
        cases hb
        have := firstBad_lt hf
        simp only [List.length_nil] at this
        exact .inr ⟨(n : Nat), rfl, by omega⟩
    · cases hb
      exact .inl rfl
theorem shw_at (g : Str) (d : PyData) : ShwZ 0 700 (atD (atOf g d)) := by
  rcases at_small g d with e | ⟨i, e, rfl | rfl | rfl | rfl⟩ <;> rw [e]
  · exact ⟨by decide +kernel, by decide +kernel, by decide +kernel, by decide +kernel⟩
  · exact ⟨by decide +kernel, by decide +kernel, by decide +kernel, by decide +kernel⟩
  · exact ⟨by decide +kernel, by decide +kernel, by decide +kernel, by decide +kernel⟩
  · exact ⟨by decide +kernel, by decide +kernel, by decide +kernel, by decide +kernel⟩
  · exact ⟨by decide +kernel, by decide +kernel, by decide +kernel, by decide +kernel⟩
theorem shw_bool {b : Bool} : ShwZ 0 700 (.bool b) := by cases b <;> exact ⟨by decide +kernel, by decide +kernel, by decide +kernel, by decide +kernel⟩
theorem dd_at {g : Str} {d : PyData} {K : PySem.W.Frag} {l : List Addr} {H : Hp} : DD K l H (atV (atOf g d)) (atD (atOf g d)) := by
  cases atOf g d with
  | none => exact .non
  | some i => exact .int i
def keptD (X : Dr) : PyData := .list [.tuple [X.d1, .bool X.ok1], .tuple [X.dL, atD X.at_], .tuple [X.d3, .bool X.ok3]]
theorem kept_rp {X : Dr} (ok : X.Ok) : rp (keptD X) = true := by
  have two : ∀ {a b : PyData}, ShwZ 2 700 a → ShwZ 2 700 b → ShwZ 3 1402 (.tuple [a, b]) := fun {a b} ha hb => shw_tuple (ds := [a, b]) 2 (fun d hd => by
    simp only [List.mem_cons, List.not_mem_nil, or_false] at hd
    rcases hd with rfl | rfl
    · exact ha
    · exact hb) (by simp)
  refine (ShwZ.list (n := 3) (w := 1402) (ds := [.tuple [X.d1, .bool X.ok1], .tuple [X.dL, atD X.at_], .tuple [X.d3, .bool X.ok3]]) 3 (fun d hd => ?_) (by simp)).rp (by decide) (by decide)
  simp only [List.mem_cons, List.not_mem_nil, or_false] at hd
  rcases hd with rfl | rfl | rfl
  · exact two ok.f1.shw (shw_bool.mono (by decide) (Nat.le_refl _))
  · exact two ok.fL.shw ((shw_at _ _).mono (by decide) (Nat.le_refl _))
  · exact two ok.f3.shw (shw_bool.mono (by decide) (Nat.le_refl _))
theorem shw_lit {x : Str} (h : (x.cps.toList.all fun c => decide (c < 128)) = true) (hl : x.length ≤ 700) : ShwZ 0 700 (.str x) := shw_str (fun c hc => by simpa using List.all_eq_true.mp h c hc) hl
theorem due_all {X : Dr} (ok : X.Ok) : (∀ d ∈ X.due, ShwZ 2 700 d) ∧ X.due.length ≤ 4 := by
  have s1 : ShwZ 2 700 (.str "signs") := (shw_lit (by decide +kernel) (by decide)).mono (by decide) (Nat.le_refl _)
  have s2 : ShwZ 2 700 (.str "marks") := (shw_lit (by decide +kernel) (by decide)).mono (by decide) (Nat.le_refl _)
  have s3 : ShwZ 2 700 (.str "tail") := (shw_lit (by decide +kernel) (by decide)).mono (by decide) (Nat.le_refl _)
  have s4 : ShwZ 2 700 (.str "care") := (shw_lit (by decide +kernel) (by decide)).mono (by decide) (Nat.le_refl _)
  have t1 : ShwZ 2 700 (.str "sight") := (shw_lit (by decide +kernel) (by decide)).mono (by decide) (Nat.le_refl _)
  have t2 : ShwZ 2 700 (.str "order") := (shw_lit (by decide +kernel) (by decide)).mono (by decide) (Nat.le_refl _)
  have t3 : ShwZ 2 700 (.str "further") := (shw_lit (by decide +kernel) (by decide)).mono (by decide) (Nat.le_refl _)
  have t4 : ShwZ 2 700 (.str "finish") := (shw_lit (by decide +kernel) (by decide)).mono (by decide) (Nat.le_refl _)
  have sb : ShwZ 2 700 (.bool true) := shw_bool.mono (by decide) (Nat.le_refl _)
  have sn : ∀ q ∈ caresOf X.w1 X.w2 X.w3 X.w4 X.e1 X.e2 X.e3 X.e4, ShwZ 2 700 (.str q.1) ∧ ShwZ 2 700 q.2.2 := fun q hq => by
    simp only [caresOf, List.mem_cons, List.not_mem_nil, or_false] at hq
    rcases hq with rfl | rfl | rfl | rfl
    · exact ⟨t1, ok.g1.shw⟩
    · exact ⟨t2, ok.g2.shw⟩
    · exact ⟨t3, ok.g3.shw⟩
    · exact ⟨t4, ok.g4.shw⟩
  have in3 : ∀ {a b c : PyData}, ShwZ 2 700 a → ShwZ 2 700 b → ShwZ 2 700 c → (∀ d ∈ [a, b, c], ShwZ 2 700 d) ∧ [a, b, c].length ≤ 4 := fun h1 h2 h3 => ⟨fun d hd => by
    simp only [List.mem_cons, List.not_mem_nil, or_false] at hd
    rcases hd with rfl | rfl | rfl
    · exact h1
    · exact h2
    · exact h3, by simp⟩
  cases h1 : X.ok1 with
  | false =>
    rw [due_signs h1]
    exact in3 s1 ok.f1.shw sb
  | true =>
    cases hm : badMarks X.g X.dL with
    | some f =>
      rw [due_marks h1 hm]
      refine in3 s2 ?_ sb
      have := shw_at X.g X.dL
      rcases badM_form hm with ⟨rfl, e⟩ | ⟨n, rfl, e⟩
      · rw [e] at this; exact this.mono (by decide) (Nat.le_refl _)
      · rw [e] at this; exact this.mono (by decide) (Nat.le_refl _)
    | none =>
      cases h3 : X.ok3 with
      | false =>
        rw [due_tail h1 hm h3]
        exact in3 s3 ok.f3.shw sb
      | true =>
        rw [due_care ok h1 hm h3]
        cases hc : badCare X.g (caresOf X.w1 X.w2 X.w3 X.w4 X.e1 X.e2 X.e3 X.e4) with
        | none => exact ⟨fun d hd => by simp at hd, by simp⟩
        | some q =>
          obtain ⟨a, b⟩ := sn q (List.mem_of_find?_eq_some hc)
          refine ⟨fun d hd => ?_, by simp⟩
          simp only [List.mem_cons, List.not_mem_nil, or_false] at hd
          rcases hd with rfl | rfl | rfl | rfl
          · exact s4
          · exact a
          · exact b
          · exact sb
theorem due_rp {X : Dr} (ok : X.Ok) : rp (.list X.due) = true := ((due_all ok).elim fun a b => ShwZ.list 4 a b).rp (by decide) (by decide)
/-! words -/
theorem care_oddS : ∀ nm ∈ (["sight", "order", "further", "finish"] : List Str), ∀ d ∈ oddC, (match d with | .str x => decide (x ≠ "whole") && decide (x ≠ "start") && decide (x.length ≠ 1) && decide (x ∉ wordsOf nm) | _ => true) = true := by decide +kernel
theorem care_no {g nm : Str} (hn : nm ∈ (["sight", "order", "further", "finish"] : List Str)) {d : PyData} (hd : d ∈ oddC) : wordB g nm d = false := by
  have h := care_oddS nm hn d hd
  cases d with
  | str x =>
    simp only [Bool.and_eq_true, decide_eq_true_eq, ne_eq] at h
    obtain ⟨⟨⟨h1, h2⟩, h3⟩, h4⟩ := h
    by_cases e : nm = "sight"
    · rw [wordB, if_pos e, decide_eq_false h1, decide_eq_false h2, decide_eq_false h3]; rfl
    · rw [wordB, if_neg e, decide_eq_false h4]
  | _ => rfl
theorem care_sight {g x : Str} {c0 cl : Nat} (h0 : c0 ∈ g.cps.toList) (hl : cl ∈ g.cps.toList) (h : x ∈ (["whole", "start", ⟨#[c0]⟩, ⟨#[cl]⟩] : List Str)) : wordB g "sight" (.str x) = true := by
  rw [wordB, if_pos rfl]
  simp only [List.mem_cons, List.not_mem_nil, or_false] at h
  rcases h with rfl | rfl | rfl | rfl
  · rfl
  · rfl
  · simp [Str.length]; exact .inr (by simpa using h0)
  · simp [Str.length]; exact .inr (by simpa using hl)
theorem care_word {g nm x : Str} (hn : nm ≠ "sight") (h : x ∈ wordsOf nm) : wordB g nm (.str x) = true := by
  rw [wordB, if_neg hn, decide_eq_true h]
theorem care_k {g nm : Str} {ws : List Str} {d : PyData} {ok : Bool} (hn : nm ∈ (["sight", "order", "further", "finish"] : List Str)) (hw : ∀ x ∈ ws, wordB g nm (.str x) = true) (h1 : ok = true → ∃ x ∈ ws, d = .str x) (h0 : ok = false → d ∈ oddC) : ok = wordB g nm d := by
  cases ok with
  | true => obtain ⟨x, hx, rfl⟩ := h1 rfl; rw [hw x hx]
  | false => rw [care_no hn (h0 rfl)]
theorem care_fine {ws : List Str} {d : PyData} {ok : Bool} (hw : ∀ x ∈ ws, (∀ c ∈ x.cps.toList, c < 128) ∧ x.length ≤ 20) (h1 : ok = true → ∃ x ∈ ws, d = .str x) (h0 : ok = false → d ∈ oddC) : Fine 2 700 d := by
  cases ok with
  | true =>
    obtain ⟨x, hx, rfl⟩ := h1 rfl
    obtain ⟨a, b⟩ := hw x hx
    exact ⟨(shw_str a b).mono (by decide) (by decide), (by show x.length ≤ _; rw [sizeLine_eq]; omega), fun y hy => by simp [items] at hy, by simp [items]⟩
  | false => exact fine_C d (h0 rfl)
/-! ### readers made -/
def rKs : List Str := ["sight", "order", "further", "finish"]
def rKs7 : List Str := ["finish", "further", "order", "sight", "tail", "marks", "signs"]
abbrev rKws : List (Str × V) := [("sight", .str "whole"), ("order", .str "inner"), ("further", .str "refuse"), ("finish", .str "refuse")]
section
variable {P : Program} {w : World} {K : PySem.W.Frag} {mg : Str → Option Value} {base : Heap} {CR CS CM CT CC : Addr}
theorem kbn_init {kV doc pm cdv ct : Value} {an : Option Addr} : KBn K (PySem.W.fnOf "__init__" "Reader.__init__" (defArgs (clsAt (top 33) 0)) (defBody (clsAt (top 33) 0)) (defScope (clsAt (top 33) 0)) .none kV doc pm an cdv ct) rPs 4 rKs (fun us ws => us ++ ws) (fun vs zs => vs ++ zs) :=
  ⟨fun s us ws X l1 l2 => .of_eq (match us, ws, l1, l2 with | [_, _, _, _], [_, _, _, _], _, _ => rfl), fun r1 r2 => r1.append r2⟩
theorem kbn_init7 {kV doc pm cdv ct : Value} {an : Option Addr} : KBn K (PySem.W.fnOf "__init__" "Reader.__init__" (defArgs (clsAt (top 33) 0)) (defBody (clsAt (top 33) 0)) (defScope (clsAt (top 33) 0)) .none kV doc pm an cdv ct) rPs 1 rKs7 (fun us ws => us ++ ws.reverse) (fun vs zs => vs ++ zs.reverse) :=
  ⟨fun s us ws X l1 l2 => .of_eq (match us, ws, l1, l2 with | [_], [_, _, _, _, _, _, _], _, _ => rfl), fun r1 r2 => r1.append (vals_rev r2)⟩
abbrev InitD (K : PySem.W.Frag) (f : Addr) (fd : FuncData) : Prop := FunD K "__init__" "Reader.__init__" (defArgs (clsAt (top 33) 0)) (defBody (clsAt (top 33) 0)) (defScope (clsAt (top 33) 0)) [] rKws f fd
theorem init_binds {f : Addr} {fd : FuncData} (F : InitD K f fd) : ∃ ds, Vals (rKws.map (·.2)) ds ∧ Binds K fd rPs ds := by
  refine FunD.binds0 F 4 (by simp) rfl fun D doc pm an cdv ct us ks h1 h2 => ?_
  match us, ks, h1, h2 with
  | [a, b, c, d], [k1, k2, k3, k4], _, _ =>
    refine ⟨_, _, _, _, _, _, rfl, rfl, ?_⟩
    refine ⟨_, _, _, _, _, _, rfl, rfl, ?_⟩
    refine ⟨_, _, _, _, _, _, rfl, rfl, ?_⟩
    refine ⟨_, _, _, _, _, _, rfl, rfl, ?_⟩
    rfl
structure RdR (P : Program) (w : World) (K : PySem.W.Frag) (mg : Str → Option Value) (base : Heap) (CR CS CM CT CC : Addr) : Prop where
  pos : MakeOk P w K mg base 4 "Reader" CR rPs (spInitR K CR CS CM CT CC) fun fd => KBn K fd rPs 4 rKs (fun us ws => us ++ ws) (fun vs zs => vs ++ zs)
  key : MakeOk P w K mg base 4 "Reader" CR rPs (spInitR K CR CS CM CT CC) fun fd => KBn K fd rPs 1 rKs7 (fun us ws => us ++ ws.reverse) (fun vs zs => vs ++ zs.reverse)
  pla : ∃ ds, Vals (rKws.map (·.2)) ds ∧ MakeOk P w K mg base 4 "Reader" CR rPs (spInitR K CR CS CM CT CC) fun fd => Binds K fd rPs ds
end
end K50

set_option Elab.async false
set_option linter.all false
set_option maxRecDepth 100000
set_option maxHeartbeats 4000000
namespace K50
open PySem PySem.Spec PyProof.Rows L2 Z
/-! ### plain: signs are ASCII -/
theorem strSigns_ascii {g : Str} (h : strSigns g = true) : ∀ c ∈ g.cps.toList, c < 128 := by
  simp only [strSigns, Bool.and_eq_true, List.all_eq_true, decide_eq_true_eq] at h
  exact fun c hc => known_ascii c (h.1.2 c hc)
theorem isLine_ascii {g x : Str} (hg : strSigns g = true) (h : isLine g (.str x) = true) : ∀ c ∈ x.cps.toList, c < 128 := by
  simp only [isLine, List.all_eq_true, decide_eq_true_eq] at h
  exact fun c hc => strSigns_ascii hg c (h c hc)
theorem lay_strs : ∀ {ys : List Str}, (∀ y ∈ ys, ∀ c ∈ y.cps.toList, c < 128) → PyData.canLayAll0 (ys.map PyData.str) = true
  | [], _ => rfl
  | y :: ys, h => by
    simp only [List.map_cons, PyData.canLayAll0, PyData.canLay0, strOk_ascii (h y (by simp)), lay_strs (ys := ys) (fun z hz => h z (List.mem_cons_of_mem _ hz)), Bool.and_self]
theorem shaped_strs {ys : List Str} (h : ∀ y ∈ ys, ∀ c ∈ y.cps.toList, c < 128) : SeqAt.shaped (.list (ys.map PyData.str)) = true := by
  have := depth_strs ys
  have e1 : (PyData.list (ys.map PyData.str)).depth ≤ 64 := by simp only [PyData.depth]; omega
  have e2 : (PyData.list (ys.map PyData.str)).canLay0 = true := by simp only [PyData.canLay0, lay_strs h]
  rw [SeqAt.shaped, e2, decide_eq_true e1]
  rfl
theorem noDict_strs : ∀ ys : List Str, PyData.hasDictAll (ys.map PyData.str) = false
  | [] => rfl
  | y :: ys => by simp only [List.map_cons, PyData.hasDictAll, PyData.hasDict, noDict_strs ys, Bool.or_self]
theorem marks_ascii {R : RData} (ok : R.Ok) : ∀ y ∈ R.ms, ∀ c ∈ y.cps.toList, c < 128 := fun y hy => by
  have := ok.ms.2.2.1 y hy
  simp only [shortLine, Bool.and_eq_true] at this
  exact isLine_ascii ok.g this.1.1
end K50

set_option Elab.async false
set_option linter.all false
set_option maxRecDepth 100000
set_option maxHeartbeats 4000000
namespace K50
open PySem PySem.Spec PyProof.Rows L2 Z
/-! ### readers compared -/
section
variable {P : Program} {w : World} {K : PySem.W.Frag} {mg : Str → Option Value} {base : Heap} {CR : Addr}
def SameR (CR : Addr) : Addr → Addr → Hp → Prop := fun a b H => ∃ R : RData, R.Ok ∧ IsReader CR R H a ∧ IsReader CR R H b
theorem scEq : FnScope ["self", "other"] ["self", "other"] (defScope (clsAt (top 33) 19)) := ⟨rfl, rfl, rfl, by decide +kernel, rfl, by decide +kernel, by decide +kernel⟩
theorem d_eq (B : Blt mg base) (CL : ClsR K CR) (IC : C8.InsC K CR) (gR : mg "Reader" = some (.ref CR)) (D : MethAt K CR "__eq__" "Reader.__eq__" (clsAt (top 33) 19)) : MethOk P w K mg base 1 CR "__eq__" ["self", "other"] (spEq (SameR CR)) := by
  obtain ⟨f, oc, doc, pm, cdv, ct, od, an, osl, hp, lk, hcd⟩ := D.ex
  refine ⟨f, _, hp, fnok_body B lk hcd scEq (fun vs H Q E ⟨_, _, e, _⟩ => by rw [e]; rfl) fun A outer s H vs Q E C h => ?_, Binds.all fun us hl => match us, hl with | [_, _], _ => rfl⟩
  obtain ⟨a, b, rfl, ⟨R, ok, ha, hb⟩, q⟩ := h
  obtain ⟨dx, ml, cd, h1, h2, h3⟩ := ha.ex
  obtain ⟨dy, mk, ce, g1, g2, g3⟩ := hb.ex
  have sh := shaped_strs (marks_ascii ok)
  refine b_cons (s_ifB false ?_ (fun e => by cases e) (fun _ H1 b1 => b_nil ?_))
  · refine t_boolop (w_or (t_not (t_val (e_isC B IC gR (e_name 1 ⟨b, dy, _, rfl, g1, true, rfl, ite_b (fun e => by cases e) fun _ => ?_⟩)))))
    refine w_or (t_cmp (e_fld (v := .str R.g) (e_name 0 ⟨rfl, h1, e_fld (v := .str R.g) (e_name 1 ⟨rfl, g1, c_ne rfl ⟨false, ?_, ite_b (fun e => by cases e) fun _ => ?_⟩⟩) CL.c CL.n1 rfl⟩) CL.c CL.n1 rfl))
    · simp
    · refine w_or1 (t_cmp (e_fld (v := .ref ml) (e_name 0 ⟨rfl, h1, e_fld (v := .ref mk) (e_name 1 ⟨rfl, g1, c_neD C (l := []) (m := []) (d := .list (R.ms.map .str)) (f := .list (R.ms.map .str)) (.lst (.inl (.inl h2)) (by simp) (DDs.strs _)) (.lst (.inl (.inl g2)) (by simp) (DDs.strs _)) sh sh ⟨false, ?_, rfl, But.refl⟩⟩) CL.c CL.n2 rfl⟩) CL.c CL.n2 rfl))
      rw [eqv_same (by simp only [PyData.hasDict]; exact noDict_strs _)]
      rfl
  have k1 := b1 _ _ (by simp) h1
  have k2 := b1 _ _ (by simp) g1
  refine b_cons (s_ret (e_and (e_cmp (e_fld (v := .str R.t) (e_name 0 ⟨rfl, k1, e_fld (v := .str R.t) (e_name 1 ⟨rfl, k2, c_eq rfl ⟨true, ?_, ite_b (fun _ => ?_) fun e => by cases e⟩⟩) CL.c CL.n3 rfl⟩) CL.c CL.n3 rfl))))
  · simp
  · refine e_one (e_cmp (e_fld (v := .ref cd) (e_name 0 ⟨rfl, k1, e_fld (v := .ref ce) (e_name 1 ⟨rfl, k2, c_eqDict C (b1 _ _ (by simp) h3) (b1 _ _ (by simp) g3) ?_ ?_ (q _ (ext_but b1))⟩) CL.c CL.n4 rfl⟩) CL.c CL.n4 rfl))
    · show ([.inr "sight", .inr "order", .inr "further", .inr "finish"] : List Key).Nodup
      decide
    · intro p hp
      obtain ⟨x, _, rfl⟩ := List.mem_map.mp hp
      rfl
end
end K50

set_option Elab.async false
set_option linter.all false
set_option maxRecDepth 100000
set_option maxHeartbeats 4000000
namespace K50
open PySem PySem.Spec PyProof.Rows L2 Z LamX
/-! ### the end of _law_right: two readers told, held against what is due -/
abbrev NR : List Str := ["pot", "alphabet", "letters", "labels", "ending", "cares", "due", "kept", "way_seen", "way_asked", "way_far", "way_done", "told", "plain", "usual", "label", "one_told"]
theorem scRi : FnScope NR ["pot"] (defScope (top 46)) := ⟨rfl, rfl, rfl, by decide +kernel, rfl, by decide +kernel, by decide +kernel⟩
def lamQ : Str := ("_law_right" ++ ".<locals>.") ++ "<lambda>"
abbrev tabsR (Pt : Addr) : List (Addr × Str) := [(Pt, lamQ)]
theorem dd_str {K : PySem.W.Frag} {l : List Addr} {H : Hp} {v : V} {x : Str} (h : DD K l H v (.str x)) : v = .str x := by cases h; rfl
theorem dds_len {K : PySem.W.Frag} {l : List Addr} {H : Hp} {us : List V} {ds : List PyData} (h : DDs K l H us ds) : us.isEmpty = ds.isEmpty := by cases h <;> rfl
theorem shw_len {n : Nat} (h : n ≤ 3) : ShwZ 0 700 (.int (n : Nat)) := by
  match n, h with
  | 0, _ => exact ⟨by decide +kernel, by decide +kernel, by decide +kernel, by decide +kernel⟩
  | 1, _ => exact ⟨by decide +kernel, by decide +kernel, by decide +kernel, by decide +kernel⟩
  | 2, _ => exact ⟨by decide +kernel, by decide +kernel, by decide +kernel, by decide +kernel⟩
  | 3, _ => exact ⟨by decide +kernel, by decide +kernel, by decide +kernel, by decide +kernel⟩
theorem words_small : ∀ nm ∈ (["order", "further", "finish"] : List Str), ∀ x ∈ wordsOf nm, (x.cps.toList.all fun c => decide (c < 128)) = true ∧ x.length ≤ 20 := by decide +kernel
theorem word_shw {g nm x : Str} (gs : strSigns g = true) (hn : nm ∈ (["sight", "order", "further", "finish"] : List Str)) (h : wordOk g nm x) : ShwZ 2 700 (.str x) := by
  have mk : (∀ c ∈ x.cps.toList, c < 128) → x.length ≤ 20 → ShwZ 2 700 (.str x) := fun a b => (shw_str a b).mono (by decide) (by decide)
  by_cases e : nm = "sight"
  · rw [wordOk, if_pos e] at h
    rcases h with rfl | rfl | ⟨c, hc, rfl⟩
    · exact mk (by decide +kernel) (by decide)
    · exact mk (by decide +kernel) (by decide)
    · exact mk (fun d hd => by simp at hd; subst hd; exact known_small _ (sign_known gs hc)) (by simp [Str.length])
  · rw [wordOk, if_neg e] at h
    have hm : nm ∈ (["order", "further", "finish"] : List Str) := by
      simp only [List.mem_cons, List.not_mem_nil, or_false] at hn ⊢
      rcases hn with h | h | h | h
      · exact absurd h e
      · exact .inl h
      · exact .inr (.inl h)
      · exact .inr (.inr h)
    obtain ⟨a, b⟩ := words_small nm hm x h
    exact mk (fun c hc => by simpa using List.all_eq_true.mp a c hc) b
theorem eight_rp {R : RData} (ok : R.Ok) : rp (eightD R) = true := by
  have gl := strSigns_len ok.g
  refine (ShwZ.list (n := 2) (w := 700) (ds := [.str R.g, .list (R.ms.map .str), .str R.t, .int (R.ms.length : Nat), .str R.si, .str R.od, .str R.fu, .str R.fi]) 8 (fun d hd => ?_) (by simp)).rp (by decide) (by decide)
  simp only [List.mem_cons, List.not_mem_nil, or_false] at hd
  rcases hd with rfl | rfl | rfl | rfl | rfl | rfl | rfl | rfl
  · exact (shw_str (w := 20) (fun c hc => known_small _ (sign_known ok.g hc)) (by omega)).mono (by decide) (by decide)
  · exact (fine_list (fine_strs ok.g ok.ms.2.2.1) (by rw [List.length_map]; exact ok.ms.2.1)).shw
  · have q := ok.t
    simp only [shortLine, Bool.and_eq_true, decide_eq_true_eq] at q
    exact (fine_line ok.g q.1.1 (by omega)).shw.mono (by decide) (by decide)
  · exact (shw_len ok.ms.2.1).mono (by decide) (Nat.le_refl _)
  · exact word_shw ok.g (by simp) ok.si
  · exact word_shw ok.g (by simp) ok.od
  · exact word_shw ok.g (by simp) ok.fu
  · exact word_shw ok.g (by simp) ok.fi
theorem due_nil {X : Dr} (ok : X.Ok) (h : X.due = []) : X.ok1 = true ∧ badMarks X.g X.dL = none ∧ X.ok3 = true := by
  cases h1 : X.ok1 with
  | false => rw [due_signs h1] at h; cases h
  | true =>
    cases hm : badMarks X.g X.dL with
    | some f => rw [due_marks h1 hm] at h; cases h
    | none =>
      cases h3 : X.ok3 with
      | false => rw [due_tail h1 hm h3] at h; cases h
      | true => exact ⟨rfl, rfl, rfl⟩
theorem usual_ok (g : Str) : badCare g (caresOf (.str "whole") (.str "inner") (.str "refuse") (.str "refuse") (.str "whole") (.str "inner") (.str "refuse") (.str "refuse")) = none := by
  have h1 : wordB g "sight" (.str "whole") = true := by rw [wordB, if_pos rfl]; simp
  have h2 : wordB g "order" (.str "inner") = true := care_word (by decide) (by decide)
  have h3 : wordB g "further" (.str "refuse") = true := care_word (by decide) (by decide)
  have h4 : wordB g "finish" (.str "refuse") = true := care_word (by decide) (by decide)
  simp only [badCare, caresOf, List.find?, h1, h2, h3, h4, Bool.not_true]
section
variable {P : Program} {w : World} {K : PySem.W.Frag} {mg : Str → Option Value} {base : Heap}
theorem init_plain {CR CS CM CT CC : Addr} {X : Dr} (ok : X.Ok) {H2 : Hp} {r dx : Addr} {Q : Hp → Prop} (hA : X.At [] H2) (hd : X.due = []) (hr : H2 r = none) (hdx : H2 dx = none) (nd : dx ≠ r)
    (k : ∀ (R : RData) H', But [] H2 H' → IsReader CR R H' r → R.Ok → R.g = X.g → items X.dL = R.ms.map .str → X.d3 = .str R.t → R.si = "whole" → R.od = "inner" → R.fu = "refuse" → R.fi = "refuse" → Q H') :
    spInitR K CR CS CM CT CC [.ref r, X.v1, X.vL, X.v3, .str "whole", .str "inner", .str "refuse", .str "refuse"] (upd (upd H2 dx (.own r)) r (.ins CR dx [])) (fun v H3 => v = .non ∧ Q H3) (fun _ _ _ => False) := by
  obtain ⟨e1, e2, e3⟩ := due_nil ok hd
  have bn : But [] H2 (upd (upd H2 dx (.own r)) r (.ins CR dx [])) := (But.new hdx).trans (But.new (by rw [upd_ne nd.symm]; exact hr))
  have hA2 := hA.but bn
  have ddL : DD [] [r] (upd (upd H2 dx (.own r)) r (.ins CR dx [])) X.vL X.dL := (hA.dL.add hr).but bn.of
  have hir : upd (upd H2 dx (.own r)) r (.ins CR dx []) r = some (.ins CR dx []) := upd_same
  have fw : ∀ {x : Str}, x.length ≤ 20 → fits (.str x) := fun {x} h => by show x.length ≤ _; rw [sizeLine_eq]; omega
  refine ⟨r, dx, X.v1, X.vL, X.v3, .str "whole", .str "inner", .str "refuse", .str "refuse", [], [], X.d1, X.dL, X.d3, .str "whole", .str "inner", .str "refuse", .str "refuse", rfl, hir, hA2.d1.all, ok.f1.f, ddL, ok.fL.f, ok.fL.fs, ok.fL.len, hA2.d3.all, ok.f3.f, fun q hq => ?_, fun no1 dd H' b hx => ?_, fun g eg as1 => ?_⟩
  · simp only [caresOf, List.mem_cons, List.not_mem_nil, or_false] at hq
    rcases hq with rfl | rfl | rfl | rfl
    · exact ⟨fw (by decide), .str _⟩
    · exact ⟨fw (by decide), .str _⟩
    · exact ⟨fw (by decide), .str _⟩
    · exact ⟨fw (by decide), .str _⟩
  · rw [ok.s1 e1] at no1
    exact absurd ok.gs (by rw [show strSigns X.g = areSigns (.str X.g) from rfl, no1]; simp)
  · have egx : g = X.g := by
      rw [ok.s1 e1] at eg
      exact (PyData.str.inj eg).symm
    subst egx
    have o3 := ok.o3
    rw [e3] at o3
    refine ⟨fun f hf => ?_, fun okm no3 => ?_, fun okm ok3 q hq => ?_, fun okm ok3 okc R h1 h2 h3 h4 h5 H' b hR => ⟨rfl, ?_⟩⟩
    · rw [e2] at hf; cases hf
    · rw [← o3] at no3; cases no3
    · rw [usual_ok] at hq; cases hq
    · simp only [List.cons.injEq, PyData.str.injEq, and_true] at h4
      have b2 : But [] H2 H' := but_late bn b fun z hz => by rw [List.mem_singleton.mp hz]; exact hr
      exact k R H' b2 hR h5 h1 h2 h3 h4.1.symm h4.2.1.symm h4.2.2.1.symm h4.2.2.2.symm
/-- what stands when all is drawn -/
structure S10 (X : Dr) (Pt : Addr) (t1 tL t3 cd c1 c2 c3 c4 dq : Addr) (H : Hp) : Prop where
  tab : Tabs (tabsR Pt) H
  a1 : H t1 = some (.tup [X.v1, .bl X.ok1])
  aL : H tL = some (.tup [X.vL, atV X.at_])
  a3 : H t3 = some (.tup [X.v3, .bl X.ok3])
  at_ : X.At [] H
  cd : H cd = some (.dK [(.inr "sight", .ref c1), (.inr "order", .ref c2), (.inr "further", .ref c3), (.inr "finish", .ref c4)])
  c1 : H c1 = some (.tup [X.w1, .bl X.k1])
  c2 : H c2 = some (.tup [X.w2, .bl X.k2])
  c3 : H c3 = some (.tup [X.w3, .bl X.k3])
  c4 : H c4 = some (.tup [X.w4, .bl X.k4])
  due : ∃ us, H dq = some (.lst us) ∧ DDs [] [] H us X.due
theorem S10.ex {X : Dr} {Pt t1 tL t3 cd c1 c2 c3 c4 dq : Addr} {H H' : Hp} (S : S10 X Pt t1 tL t3 cd c1 c2 c3 c4 dq H) (b : Ex [] H H') (t : Tabs (tabsR Pt) H') : S10 X Pt t1 tL t3 cd c1 c2 c3 c4 dq H' := by
  have g : ∀ {q o}, H q = some o → (∀ ps, o ≠ .tbl ps) → H' q = some o := fun {q o} e n => b q o (by simp) e n
  obtain ⟨us, h1, h2⟩ := S.due
  exact ⟨t, g S.a1 (fun _ z => by cases z), g S.aL (fun _ z => by cases z), g S.a3 (fun _ z => by cases z), S.at_.ex b, g S.cd (fun _ z => by cases z), g S.c1 (fun _ z => by cases z), g S.c2 (fun _ z => by cases z), g S.c3 (fun _ z => by cases z), g S.c4 (fun _ z => by cases z), us, g h1 (fun _ z => by cases z), h2.ex b⟩
theorem S10.new {X : Dr} {Pt t1 tL t3 cd c1 c2 c3 c4 dq : Addr} {H H' : Hp} (S : S10 X Pt t1 tL t3 cd c1 c2 c3 c4 dq H) (b : But [] H H') : S10 X Pt t1 tL t3 cd c1 c2 c3 c4 dq H' := S.ex b.ex (tabs_new S.tab b)
end
end K50

set_option Elab.async false
set_option linter.all false
set_option maxRecDepth 100000
set_option maxHeartbeats 4000000
namespace K50
open PySem PySem.Spec PyProof.Rows L2 Z LamX
section
variable {P : Program} {w : World} {K : PySem.W.Frag} {mg : Str → Option Value} {base : Heap}
theorem right_C {CE CS CM CT CC CR c Pt : Addr} {X : Dr} {f : Addr} {A : Around} {outer : List Env} {s : Shared} {H0 H : Hp} {E : XK} {Q : VK} {p t1 tL t3 cd c1 c2 c3 c4 dq : Addr} (B : Blt mg base) (CL : ClsR K CR) (DT : At K mg "_law_told" (top 43)) (ER : Errs K mg CE CS CM CT CC) (TB : TabB base mg c Pt)
    (RD : RdR P w K mg base CR CS CM CT CC) (EQ : MethOk P w K mg base 1 CR "__eq__" ["self", "other"] (spEq (SameR CR))) (hne : PySem.W.findIn K (.ref CR) "__ne__" = some (some (.builtin "object.__ne__"))) (hmr : PySem.W.mroIn K CR (.type "object") = some true)
    (DI : DefG P w K mg base 3 "_law_is" (top 45) ["made", "alphabet", "labels", "ending", "cares"] (spIs CR))
    (C : Cxt (bX P w K mg base NR "_law_right" (top 46) f (.ref c) A outer s H0 E) 7 (fun cls d _ H => E cls d H)) (g : Gd (bX P w K mg base NR "_law_right" (top 46) f (.ref c) A outer s H0 E))
    (ok : X.Ok) (S : S10 X Pt t1 tL t3 cd c1 c2 c3 c4 dq H) (hQ : ∀ H', Ex [] H H' → Tabs (tabsR Pt) H' → Q (.bl true) H') :
    wB (bX P w K mg base NR "_law_right" (top 46) f (.ref c) A outer s H0 E) ((defBody (top 46)).drop 10) { nx := fun _ H' => Q .non H', rt := Q }
      [some (.ref p), some (.ref t1), some (.str X.g), some (.ref tL), some (.ref t3), some (.ref cd), some (.ref dq), some (.str (keptD X).shown), some X.w1, some X.w2, some X.w3, some X.w4, none, none, none, none, none] H := by
  have sz : ∀ n, n ≤ 16777216 → n ≤ sizeLine := fun n hn => by rw [sizeLine_eq]; exact hn
  -- told by place
  refine b_cons (s_set (i := 12) (e_lst (a_cons (e_told (k := 5) C DT ER TB rfl (List.mem_singleton.mpr rfl) (fun q hq _ => by rw [List.mem_singleton.mp hq]) (lamS_by rfl) S.tab fun H7 eN T7 f' c' A' outer' s' Hs CXl => ?_))) C.nd)
  have S7 := S.ex (ex_of eN) T7
  refine e_makeK (gf := fun us ws => us ++ ws) (gV := fun vs zs => vs ++ zs) (ks := rKs) (n := 3) CXl RD.pos (fun _ _ _ _ z => z) ?_
  refine a_cons (e_ix (e_name 1 (v := .ref t1) (e_int (ix_t (.inl (.inl S7.a1)) (v := X.v1) rfl ?_))))
  refine a_cons (e_ix (e_name 3 (v := .ref tL) (e_int (ix_t (.inl (.inl S7.aL)) (v := X.vL) rfl ?_))))
  refine a_cons (e_ix (e_name 4 (v := .ref t3) (e_int (ix_t (.inl (.inl S7.a3)) (v := X.v3) rfl (a_nil ?_)))))
  refine k_cons (e_name 8 (v := X.w1) (k_cons (e_name 9 (v := X.w2) (k_cons (e_name 10 (v := X.w3) (k_cons (e_name 11 (v := X.w4) (k_nil ⟨rfl, rfl, fun r dx hr hdx nd => ?_⟩))))))))
  refine init_told ok S7.at_ hr hdx nd fun q1 HA bA n1 to1 => a_nil ⟨sz 1 (by decide), fun tq htq => ?_⟩
  have SA := S7.new bA
  have xA : Ex [] H HA := (ex_of eN).trans bA.ex
  have b8 : But [] HA (upd HA tq (.lst [.ref q1])) := But.new htq
  have htq8 : upd HA tq (.lst [.ref q1]) tq = some (.lst [.ref q1]) := upd_same
  have X8 : X.At [tq] (upd HA tq (.lst [.ref q1])) := (SA.at_.add htq).but b8.of
  have S8 := SA.new b8
  have to18 := to1.ex b8.ex
  have n1t : q1 ≠ tq := by
    by_cases e : X.due = []
    · obtain ⟨_, _, h1, _⟩ := to1.no e; exact ne_of_none h1 htq
    · obtain ⟨_, h1, _⟩ := to1.yes e; exact ne_of_none h1 htq
  have k8 : ∀ q o, HA q = some o → q ≠ tq := fun q o e => ne_of_none e htq
  generalize upd HA tq (.lst [.ref q1]) = H8 at b8 htq8 X8 S8 to18 ⊢
  clear S7 T7 eN hr hdx nd n1
  -- told by names
  refine b_cons (s_expr (e_append (e_name 12 (v := .ref tq) ⟨tq, rfl, ⟨_, htq8⟩, e_told (k := 5) C DT ER TB rfl (List.mem_singleton.mpr rfl) (fun q hq _ => by rw [List.mem_singleton.mp hq]) (lamS_by rfl) S8.tab fun H9 eN T9 f' c' A' outer' s' Hs CXl => ?_⟩)))
  have S9 := S8.ex (ex_of eN) T9
  refine e_makeK0 (gf := fun us ws => us ++ ws.reverse) (gV := fun vs zs => vs ++ zs.reverse) (ks := rKs7) CXl RD.key (fun _ _ _ _ z => z) ?_
  refine k_cons (e_name 11 (v := X.w4) (k_cons (e_name 10 (v := X.w3) (k_cons (e_name 9 (v := X.w2) (k_cons (e_name 8 (v := X.w1) ?_)))))))
  refine k_cons (e_ix (e_name 4 (v := .ref t3) (e_int (ix_t (.inl (.inl S9.a3)) (v := X.v3) rfl ?_))))
  refine k_cons (e_ix (e_name 3 (v := .ref tL) (e_int (ix_t (.inl (.inl S9.aL)) (v := X.vL) rfl ?_))))
  refine k_cons (e_ix (e_name 1 (v := .ref t1) (e_int (ix_t (.inl (.inl S9.a1)) (v := X.v1) rfl (k_nil ⟨rfl, fun r dx hr hdx nd => ?_⟩)))))
  refine init_told ok (X8.ex (ex_of eN)) hr hdx nd fun q2 HB bB n2 to2 => ?_
  have xB : Ex [] H8 HB := (ex_of eN).trans bB.ex
  have htqB := xB.lst (by simp) htq8
  have TB' : Tabs (tabsR Pt) HB := tabs_new T9 bB
  have n2t : q2 ≠ tq := fun z => by
    have := (ex_of (l := []) eN).lst (by simp) htq8
    rw [← z, n2] at this
    cases this
  refine ⟨_, htqB, by rw [sizeLine_eq]; exact (by decide : 1 < 16777216), ?_⟩
  have bt : But [tq] HB (upd HB tq (.lst ([.ref q1] ++ [.ref q2]))) := But.at (by simp)
  have xAB : Ex [] HA (upd HB tq (.lst ([.ref q1] ++ [.ref q2]))) := fun q o _ e n => by rw [upd_ne (k8 q o e)]; exact (b8.ex.trans xB) q o (by simp) e n
  have TC : Tabs (tabsR Pt) (upd HB tq (.lst ([.ref q1] ++ [.ref q2]))) := tabs_but TB' bt (fun q hq => ⟨[.ref q1], by rw [List.mem_singleton.mp hq]; exact htqB⟩)
  have to2C := (to2.set (xs := [.ref q1] ++ [.ref q2]) n2t htqB).less (m := []) (by simp)
  have to1C := to1.ex xAB
  have SC := SA.ex xAB TC
  have htC : upd HB tq (.lst ([.ref q1] ++ [.ref q2])) tq = some (.lst [.ref q1, .ref q2]) := upd_same
  have xC := xA.trans xAB
  generalize upd HB tq (.lst ([.ref q1] ++ [.ref q2])) = HC at SC htC xC to1C to2C TC ⊢
  clear S9 T9 eN hr hdx nd n2 bB to2 xB htqB TB' bt xAB SA S8 X8 htq8 to18 b8 bA to1 k8 n1t n2t S xA
  -- kept
  refine b_cons (s_ifB false ?_ (fun e => by cases e) (fun _ HD bD => b_nil ?_))
  · refine t_cmp (e_rep B g C.un (e_lst (a_cons (e_name 1 (v := .ref t1) (a_cons (e_name 3 (v := .ref tL) (a_cons (e_name 4 (v := .ref t3) (a_nil ⟨sz 3 (by decide), fun q hq => ?_⟩)))))))))
    have bq : But [] HC (upd HC q (.lst [.ref t1, .ref tL, .ref t3])) := But.new hq
    have Sq := SC.new bq
    refine ⟨[], keptD X, .lst (.inl (.inl upd_same)) (by simp) (.cons (.tup (.inl (.inl Sq.a1)) (by simp) (.cons Sq.at_.d1.all (.cons (.bl _) .nil))) (.cons (.tup (.inl (.inl Sq.aL)) (by simp) (.cons Sq.at_.dL.all (.cons dd_at .nil))) (.cons (.tup (.inl (.inl Sq.a3)) (by simp) (.cons Sq.at_.d3.all (.cons (.bl _) .nil))) .nil))), kept_rp ok, ?_⟩
    exact e_name 7 (v := .str (keptD X).shown) (c_ne rfl ⟨false, by simp, rfl, bq⟩)
  have SD := SC.new bD
  have htD := bD _ _ (by simp) htC
  have to1D := to1C.ex bD.ex
  have to2D := to2C.ex bD.ex
  have xD := xC.trans bD.ex
  clear SC htC to1C to2C TC xC bD
  -- due
  obtain ⟨us, hdq, hus⟩ := SD.due
  refine b_cons (s_ifB (!X.due.isEmpty) ?_ (fun e HE bE => ?_) (fun e HE bE => b_nil ?_))
  · refine t_cmp (e_name 6 (v := .ref dq) (e_lst (a_nil ⟨sz 0 (by decide), fun q hq => c_neNil C (xs := us) (.inl (.inl ((But.new hq : But [] HD _) _ _ (by simp) hdq))) (.inl (.inl upd_same)) ⟨_, rfl, by rw [dds_len hus], But.new hq⟩⟩)))
  · have dn : X.due ≠ [] := by intro z; rw [z] at e; cases e
    have hrp := due_rp ok
    obtain ⟨us1, h1, hd1⟩ := (to1D.ex bE.ex).yes dn
    obtain ⟨us2, h2, hd2⟩ := (to2D.ex bE.ex).yes dn
    have htE := bE _ _ (by simp) htD
    refine b_cons (s_ret (e_cmp (e_lcM [("one_told", 16)] C (i_list (e_name 12 (v := .ref tq) ⟨tq, rfl, ⟨_, .inl (.inl htE)⟩, _, _, _, [.str (PyData.list X.due).shown, .str (PyData.list X.due).shown], walk_list (xs := [.ref q1, .ref q2]), rfl, sz 2 (by decide), fun H' b => .inl (.inl (b _ _ (by simp) htE)), fun i x H2 H' hi b2 hy => ?_, fun D1 HF bF nD hD1 => ?_⟩)))))
    · obtain ⟨rfl, hx⟩ := hy
      match i, hi, hx with
      | 0, _, hx =>
        cases hx
        exact ⟨But.refl, mt_name (i := 16) C.nd fun s H0 Ca cl fp => e_rep B g C.un (e_name 16 (v := .ref q1) ⟨[], .list X.due, .lst (.inl (.inl (b2 _ _ (by simp) h1))) (by simp) (hd1.but b2), hrp, rfl, But.refl⟩)⟩
      | 1, _, hx =>
        cases hx
        exact ⟨But.refl, mt_name (i := 16) C.nd fun s H0 Ca cl fp => e_rep B g C.un (e_name 16 (v := .ref q2) ⟨[], .list X.due, .lst (.inl (.inl (b2 _ _ (by simp) h2))) (by simp) (hd2.but b2), hrp, rfl, But.refl⟩)⟩
    · have SF := (SD.new bE).new bF
      refine e_bin (e_lst (a_cons (e_rep B g C.un (e_name 6 (v := .ref dq) ⟨[], .list X.due, .lst (.inl (.inl (bF _ _ (by simp) (bE _ _ (by simp) hdq)))) (by simp) ((hus.but bE).but bF).all, hrp, a_nil ⟨sz 1 (by decide), fun lq hlq => e_int (o_rep (n := 2) upd_same (sz 2 (by decide)) (by decide) fun mq hmq => ?_)⟩⟩))))
      have bl : But [] HF (upd HF lq (.lst [.str (PyData.list X.due).shown])) := But.new hlq
      have bm := bl.trans (But.new (o := .lst (List.replicate 2 [V.str (PyData.list X.due).shown]).flatten) hmq)
      refine c_eqFlat (k := 6) C (bm _ _ (by simp) hD1) upd_same (fun v hv => ?_) fun H' b => hQ H' (xD.trans (bE.trans (bF.trans (bm.trans b))).ex) (tabs_new SF.tab (bm.trans b))
      simp only [List.mem_cons, List.not_mem_nil, or_false] at hv
      rcases hv with rfl | rfl <;> rfl
  have dn : X.due = [] := by cases hd : X.due with
    | nil => rfl
    | cons a l => rw [hd] at e; cases e
  obtain ⟨e1, e2, e3⟩ := due_nil ok dn
  obtain ⟨r1, R, h1, hr1, m1⟩ := (to1D.ex bE.ex).no dn
  obtain ⟨r2, R2, h2, hr2, m2⟩ := (to2D.ex bE.ex).no dn
  obtain rfl := m1.one m2
  have SE := SD.new bE
  have htE := bE _ _ (by simp) htD
  have xE := xD.trans bE.ex
  clear SD htD to1D to2D xD hdq hus bE m2
  have v1e : X.v1 = .str R.g := by
    have := SE.at_.d1
    rw [ok.s1 e1] at this
    rw [m1.g]
    exact dd_str this
  have v3e : X.v3 = .str R.t := by
    have := SE.at_.d3
    rw [m1.t] at this
    exact dd_str this
  have ce := m1.c
  simp only [List.cons.injEq, and_true] at ce
  obtain ⟨ce1, ce2, ce3, ce4⟩ := ce
  have w1e : X.w1 = .str R.si := by have := SE.at_.e1; rw [ce1] at this; exact dd_str this
  have w2e : X.w2 = .str R.od := by have := SE.at_.e2; rw [ce2] at this; exact dd_str this
  have w3e : X.w3 = .str R.fu := by have := SE.at_.e3; rw [ce3] at this; exact dd_str this
  have w4e : X.w4 = .str R.fi := by have := SE.at_.e4; rw [ce4] at this; exact dd_str this
  -- made, and alike
  have shm : SeqAt.shaped (.list [.str "made", .str "made"]) = true := by decide +kernel
  refine b_cons (s_ifB false ?_ (fun e => by cases e) (fun _ HG bG => b_nil ?_))
  · refine t_boolop (w_or (t_cmp (e_lcM [("one_told", 16)] C (i_list (e_name 12 (v := .ref tq) ⟨tq, rfl, ⟨_, .inl (.inl htE)⟩, _, _, _, [.str "made", .str "made"], walk_list (xs := [.ref q1, .ref q2]), rfl, sz 2 (by decide), fun H' b => .inl (.inl (b _ _ (by simp) htE)), fun i x H2 H' hi b2 hy => ?_, fun D1 HF bF nD hD1 => ?_⟩)))))
    · obtain ⟨rfl, hx⟩ := hy
      match i, hi, hx with
      | 0, _, hx =>
        cases hx
        exact ⟨But.refl, mt_name (i := 16) C.nd fun s H0 Ca cl fp => e_ix (e_name 16 (v := .ref q1) (e_int (ix_l (.inl (.inl (b2 _ _ (by simp) h1))) (v := .str "made") rfl ⟨rfl, But.refl⟩)))⟩
      | 1, _, hx =>
        cases hx
        exact ⟨But.refl, mt_name (i := 16) C.nd fun s H0 Ca cl fp => e_ix (e_name 16 (v := .ref q2) (e_int (ix_l (.inl (.inl (b2 _ _ (by simp) h2))) (v := .str "made") rfl ⟨rfl, But.refl⟩)))⟩
    · refine e_lst (a_cons (e_str (a_cons (e_str (a_nil ⟨sz 2 (by decide), fun mq hmq => ?_⟩)))))
      have bm : But [] HF (upd HF mq (.lst [.str "made", .str "made"])) := But.new hmq
      refine c_neD C (l := []) (m := []) (d := .list [.str "made", .str "made"]) (f := .list [.str "made", .str "made"]) (.lst (.inl (.inl (bm _ _ (by simp) hD1))) (by simp) (.cons (.str _) (.cons (.str _) .nil))) (.lst (.inl (.inl upd_same)) (by simp) (.cons (.str _) (.cons (.str _) .nil))) shm shm ⟨false, by decide +kernel, ite_b (fun e => by cases e) fun _ => ?_⟩
      have bN := bF.trans bm
      have htN := bN _ _ (by simp) htE
      have g1 := bN _ _ (by simp) h1
      have g2 := bN _ _ (by simp) h2
      have i1 := hr1.but bN (by simp)
      have i2 := hr2.but bN (by simp)
      obtain ⟨dx, ml, cdx, j1, _, _⟩ := i1.ex
      obtain ⟨dy, mk, cdy, j2, _, _⟩ := i2.ex
      refine w_or1 (t_cmp (e_ix (e_ix (e_name 12 (v := .ref tq) (e_int (ix_l (.inl (.inl htN)) (v := .ref q1) rfl (e_int (ix_l (.inl (.inl g1)) (v := .ref r1) rfl ?_))))))))
      refine e_ix (e_ix (e_name 12 (v := .ref tq) (e_int (ix_l (.inl (.inl htN)) (v := .ref q2) rfl (e_int (ix_l (.inl (.inl g2)) (v := .ref r2) rfl ?_))))))
      exact c_neI (C.mono (by decide)) EQ hne hmr ⟨r1, r2, dx, dy, _, _, rfl, rfl, j1, j2, R, m1.ok, i1, i2⟩ fun H' b => ⟨false, rfl, rfl, bN.trans b⟩
  have SG := SE.new bG
  have htG := bG _ _ (by simp) htE
  have k1 := bG _ _ (by simp) h1
  have k2 := bG _ _ (by simp) h2
  have i1 := hr1.but bG (by simp)
  have i2 := hr2.but bG (by simp)
  have xG := xE.trans bG.ex
  clear SE htE h1 h2 hr1 hr2 xE bG
  -- each of them is this one
  refine b_cons (s_ifB false ?_ (fun e => by cases e) (fun _ HJ bJ => b_nil ?_))
  · refine t_not (t_val (e_all C (e_lcM [("one_told", 16)] C (i_list (e_name 12 (v := .ref tq) ⟨tq, rfl, ⟨_, .inl (.inl htG)⟩, _, _, _, [.bl true, .bl true], walk_list (xs := [.ref q1, .ref q2]), rfl, sz 2 (by decide), fun H' b => .inl (.inl (b _ _ (by simp) htG)), fun i x H2 H' hi b2 hy => ?_, fun D1 HF bF nD hD1 => ⟨D1, [true, true], rfl, .inl (.inl hD1), true, rfl, rfl, bF⟩⟩)))))
    · obtain ⟨rfl, hx⟩ := hy
      have S2 := SG.new b2
      have a1 := S2.a1
      have a3 := S2.a3
      have d1 := S2.c1
      have d2 := S2.c2
      have d3 := S2.c3
      have d4 := S2.c4
      rw [v1e] at a1
      rw [v3e] at a3
      rw [w1e] at d1
      rw [w2e] at d2
      rw [w3e] at d3
      rw [w4e] at d4
      match i, hi, hx with
      | 0, _, hx =>
        cases hx
        refine ⟨But.refl, mt_name (i := 16) C.nd fun s H0 Ca cl fp => ?_⟩
        refine e_callG ((C.mono (by decide)).blk _ _ _ _ _) g DI (a_cons (e_ix (e_name 16 (v := .ref q1) (e_int (ix_l (.inl (.inl (b2 _ _ (by simp) k1))) (v := .ref r1) rfl ?_))))) rfl (fun _ _ _ _ _ _ us hl => match us, hl with | [_, _, _, _, _], _ => rfl)
        refine a_cons (e_ix (e_name 1 (v := .ref t1) (e_int (ix_t (.inl (.inl a1)) (v := .str R.g) rfl ?_))))
        refine a_cons (e_ix (e_name 3 (v := .ref tL) (e_int (ix_t (.inl (.inl S2.aL)) (v := X.vL) rfl ?_))))
        refine a_cons (e_ix (e_name 4 (v := .ref t3) (e_int (ix_t (.inl (.inl a3)) (v := .str R.t) rfl (a_cons (e_name 5 (v := .ref cd) (a_nil ?_)))))))
        exact ⟨r1, R, X.vL, X.dL, cd, c1, c2, c3, c4, X.k1, X.k2, X.k3, X.k4, rfl, i1.but b2 (by simp), m1.ok, eight_rp m1.ok, S2.at_.dL, m1.sq, m1.ms, S2.cd, d1, d2, d3, d4, fun H' b => ⟨rfl, b⟩⟩
      | 1, _, hx =>
        cases hx
        refine ⟨But.refl, mt_name (i := 16) C.nd fun s H0 Ca cl fp => ?_⟩
        refine e_callG ((C.mono (by decide)).blk _ _ _ _ _) g DI (a_cons (e_ix (e_name 16 (v := .ref q2) (e_int (ix_l (.inl (.inl (b2 _ _ (by simp) k2))) (v := .ref r2) rfl ?_))))) rfl (fun _ _ _ _ _ _ us hl => match us, hl with | [_, _, _, _, _], _ => rfl)
        refine a_cons (e_ix (e_name 1 (v := .ref t1) (e_int (ix_t (.inl (.inl a1)) (v := .str R.g) rfl ?_))))
        refine a_cons (e_ix (e_name 3 (v := .ref tL) (e_int (ix_t (.inl (.inl S2.aL)) (v := X.vL) rfl ?_))))
        refine a_cons (e_ix (e_name 4 (v := .ref t3) (e_int (ix_t (.inl (.inl a3)) (v := .str R.t) rfl (a_cons (e_name 5 (v := .ref cd) (a_nil ?_)))))))
        exact ⟨r2, R, X.vL, X.dL, cd, c1, c2, c3, c4, X.k1, X.k2, X.k3, X.k4, rfl, i2.but b2 (by simp), m1.ok, eight_rp m1.ok, S2.at_.dL, m1.sq, m1.ms, S2.cd, d1, d2, d3, d4, fun H' b => ⟨rfl, b⟩⟩
  have SJ := SG.new bJ
  have xJ := xG.trans bJ.ex
  clear SG htG k1 k2 i1 i2 xG bJ
  -- a plain one
  obtain ⟨ds, vds, M0⟩ := RD.pla
  refine b_cons (s_set (i := 13) (e_make (E := fun _ _ _ => False) (C.mono (by decide)) M0 vds (fun _ _ _ _ z => z.elim) ?_) C.nd)
  refine a_cons (e_ix (e_name 1 (v := .ref t1) (e_int (ix_t (.inl (.inl SJ.a1)) (v := X.v1) rfl ?_))))
  refine a_cons (e_ix (e_name 3 (v := .ref tL) (e_int (ix_t (.inl (.inl SJ.aL)) (v := X.vL) rfl ?_))))
  refine a_cons (e_ix (e_name 4 (v := .ref t3) (e_int (ix_t (.inl (.inl SJ.a3)) (v := X.v3) rfl (a_nil fun r dx hr hdx nd => ?_)))))
  refine init_plain ok SJ.at_ dn hr hdx nd fun R3 HK bK hR3 ok3 g3 it3 d3e s3 o3 f3 n3 => ?_
  have SK := SJ.new bK
  have xK := xJ.trans bK.ex
  clear SJ xJ bK hr hdx nd
  refine b_cons (s_set (i := 14) (eE (pe_disp (pps_cons pE pE (pps_cons pE pE (pps_cons pE pE pps_nil))) rfl rfl (by simp) (by decide)) ?_) C.nd)
  intro ud hud
  have b0 : But [] HK (upd HK ud (.dK [])) := But.new hud
  refine e_str (e_tup (a_cons (e_str (a_cons (e_bool (a_nil ⟨sz 2 (by decide), fun u1 hu1 => ?_⟩))))))
  have b1 := But.new (l := []) (o := .tup [.str "whole", .bl true]) hu1
  refine e_str (e_tup (a_cons (e_str (a_cons (e_bool (a_nil ⟨sz 2 (by decide), fun u2 hu2 => ?_⟩))))))
  have b2 := But.new (l := []) (o := .tup [.str "inner", .bl true]) hu2
  refine e_str (e_tup (a_cons (e_str (a_cons (e_bool (a_nil ⟨sz 2 (by decide), fun u3 hu3 => ?_⟩))))))
  have b3 := But.new (l := []) (o := .tup [.str "refuse", .bl true]) hu3
  have z0 := (b1.trans (b2.trans b3)) _ _ (by simp) (upd_same (H := HK) (a := ud) (o := .dK []))
  have z1 := (b2.trans b3) _ _ (by simp) (upd_same (a := u1) (o := .tup [.str "whole", .bl true]))
  have z2 := b3 _ _ (by simp) (upd_same (a := u2) (o := .tup [.str "inner", .bl true]))
  have z3 : upd (upd (upd (upd HK ud (.dK [])) u1 (.tup [.str "whole", .bl true])) u2 (.tup [.str "inner", .bl true])) u3 (.tup [.str "refuse", .bl true]) u3 = some (.tup [.str "refuse", .bl true]) := upd_same
  have bL := b0.trans (b1.trans (b2.trans b3))
  generalize upd (upd (upd (upd HK ud (.dK [])) u1 (.tup [.str "whole", .bl true])) u2 (.tup [.str "inner", .bl true])) u3 (.tup [.str "refuse", .bl true]) = HL at z0 z1 z2 z3 bL ⊢
  refine ⟨z0, [(.inr "sight", .ref u1), (.inr "order", .ref u2), (.inr "further", .ref u3)], rfl, by show 3 ≤ 15; decide, ?_⟩
  rw [show mergeK [] [((.inr "sight" : Key), V.ref u1), (.inr "order", .ref u2), (.inr "further", .ref u3)] = [((.inr "sight" : Key), V.ref u1), (.inr "order", .ref u2), (.inr "further", .ref u3)] from rfl]
  have ne_ : ∀ {q xs}, HL q = some (.tup xs) → q ≠ ud := fun {q xs} e z => by rw [z, z0] at e; cases e
  have hM : upd HL ud (.dK [((.inr "sight" : Key), V.ref u1), (.inr "order", .ref u2), (.inr "further", .ref u3)]) ud = some (.dK [((.inr "sight" : Key), V.ref u1), (.inr "order", .ref u2), (.inr "further", .ref u3)]) := upd_same
  have y1 : upd HL ud (.dK [((.inr "sight" : Key), V.ref u1), (.inr "order", .ref u2), (.inr "further", .ref u3)]) u1 = some (.tup [.str "whole", .bl true]) := by rw [upd_ne (ne_ z1)]; exact z1
  have y2 : upd HL ud (.dK [((.inr "sight" : Key), V.ref u1), (.inr "order", .ref u2), (.inr "further", .ref u3)]) u2 = some (.tup [.str "inner", .bl true]) := by rw [upd_ne (ne_ z2)]; exact z2
  have y3 : upd HL ud (.dK [((.inr "sight" : Key), V.ref u1), (.inr "order", .ref u2), (.inr "further", .ref u3)]) u3 = some (.tup [.str "refuse", .bl true]) := by rw [upd_ne (ne_ z3)]; exact z3
  have bM : But [] HK (upd HL ud (.dK [((.inr "sight" : Key), V.ref u1), (.inr "order", .ref u2), (.inr "further", .ref u3)])) := but_late bL (But.at (l := [ud]) (by simp)) fun q hq => by rw [List.mem_singleton.mp hq]; exact hud
  generalize upd HL ud (.dK [((.inr "sight" : Key), V.ref u1), (.inr "order", .ref u2), (.inr "further", .ref u3)]) = HM at hM y1 y2 y3 bM ⊢
  clear z0 z1 z2 z3 b0 b1 b2 b3 bL hu1 hu2 hu3 ne_
  refine b_cons (s_asg (e_tup (a_cons (e_str (a_cons (e_bool (a_nil ⟨sz 2 (by decide), fun u4 hu4 => ?_⟩)))))))
  have b4 : But [] HM (upd HM u4 (.tup [.str "refuse", .bl true])) := But.new hu4
  have y4 : upd HM u4 (.tup [.str "refuse", .bl true]) u4 = some (.tup [.str "refuse", .bl true]) := upd_same
  have hM4 := b4 _ _ (by simp) hM
  have y14 := b4 _ _ (by simp) y1
  have y24 := b4 _ _ (by simp) y2
  have y34 := b4 _ _ (by simp) y3
  generalize upd HM u4 (.tup [.str "refuse", .bl true]) = HN at b4 y4 hM4 y14 y24 y34 ⊢
  refine g_sub (e_name 14 (v := .ref ud) (e_str (set_d C (DPut.k (k := .inr "finish") hM4 (by rw [sizeLine_eq]; exact (by decide : 3 < 16777216))) ?_)))
  rw [show putK [((.inr "sight" : Key), V.ref u1), (.inr "order", .ref u2), (.inr "further", .ref u3)] (.inr "finish") (.ref u4) = [((.inr "sight" : Key), V.ref u1), (.inr "order", .ref u2), (.inr "further", .ref u3), (.inr "finish", .ref u4)] from rfl]
  have ne_ : ∀ {q xs}, HN q = some (.tup xs) → q ≠ ud := fun {q xs} e z => by rw [z, hM4] at e; cases e
  have hO : upd HN ud (.dK [((.inr "sight" : Key), V.ref u1), (.inr "order", .ref u2), (.inr "further", .ref u3), (.inr "finish", .ref u4)]) ud = some (.dK [((.inr "sight" : Key), V.ref u1), (.inr "order", .ref u2), (.inr "further", .ref u3), (.inr "finish", .ref u4)]) := upd_same
  have v1 : upd HN ud (.dK [((.inr "sight" : Key), V.ref u1), (.inr "order", .ref u2), (.inr "further", .ref u3), (.inr "finish", .ref u4)]) u1 = some (.tup [.str R3.si, .bl true]) := by rw [upd_ne (ne_ y14), s3]; exact y14
  have v2 : upd HN ud (.dK [((.inr "sight" : Key), V.ref u1), (.inr "order", .ref u2), (.inr "further", .ref u3), (.inr "finish", .ref u4)]) u2 = some (.tup [.str R3.od, .bl true]) := by rw [upd_ne (ne_ y24), o3]; exact y24
  have v3 : upd HN ud (.dK [((.inr "sight" : Key), V.ref u1), (.inr "order", .ref u2), (.inr "further", .ref u3), (.inr "finish", .ref u4)]) u3 = some (.tup [.str R3.fu, .bl true]) := by rw [upd_ne (ne_ y34), f3]; exact y34
  have v4 : upd HN ud (.dK [((.inr "sight" : Key), V.ref u1), (.inr "order", .ref u2), (.inr "further", .ref u3), (.inr "finish", .ref u4)]) u4 = some (.tup [.str R3.fi, .bl true]) := by rw [upd_ne (ne_ y4), n3]; exact y4
  have bO : But [] HK (upd HN ud (.dK [((.inr "sight" : Key), V.ref u1), (.inr "order", .ref u2), (.inr "further", .ref u3), (.inr "finish", .ref u4)])) := but_late (bM.trans b4) (But.at (l := [ud]) (by simp)) fun q hq => by rw [List.mem_singleton.mp hq]; exact hud
  generalize upd HN ud (.dK [((.inr "sight" : Key), V.ref u1), (.inr "order", .ref u2), (.inr "further", .ref u3), (.inr "finish", .ref u4)]) = HO' at hO v1 v2 v3 v4 bO ⊢
  have SO := SK.new bO
  have a1 := SO.a1
  have a3 := SO.a3
  rw [v1e, m1.g, ← g3] at a1
  rw [show X.v3 = .str R3.t by have := SO.at_.d3; rw [d3e] at this; exact dd_str this] at a3
  refine b_cons (s_ret (e_callG (C.mono (by decide)) g DI (a_cons (e_name 13 (v := .ref r) (a_cons (e_ix (e_name 1 (v := .ref t1) (e_int (ix_t (.inl (.inl a1)) (v := .str R3.g) rfl ?_))))))) rfl (fun _ _ _ _ _ _ us hl => match us, hl with | [_, _, _, _, _], _ => rfl)))
  refine a_cons (e_ix (e_name 3 (v := .ref tL) (e_int (ix_t (.inl (.inl SO.aL)) (v := X.vL) rfl ?_))))
  refine a_cons (e_ix (e_name 4 (v := .ref t3) (e_int (ix_t (.inl (.inl a3)) (v := .str R3.t) rfl (a_cons (e_name 14 (v := .ref ud) (a_nil ?_)))))))
  exact ⟨r, R3, X.vL, X.dL, ud, u1, u2, u3, u4, true, true, true, true, rfl, hR3.but bO (by simp), ok3, eight_rp ok3, SO.at_.dL, m1.sq, it3, hO, v1, v2, v3, v4, fun H' b => hQ H' (xK.trans (bO.trans b).ex) (tabs_new SO.tab b)⟩
end
end K50

set_option Elab.async false
set_option linter.all false
set_option maxRecDepth 100000
set_option maxHeartbeats 4000000
namespace K50
open PySem PySem.Spec PyProof.Rows L2 Z LamX
/-! ### what is drawn for _law_right -/
structure DP (l : List Addr) (H : Hp) (t : Addr) (v b : V) (d : PyData) : Prop where
  at_ : H t = some (.tup [v, b])
  ne : t ∉ l
  dd : DD [] l H v d
theorem DP.go {l : List Addr} {H H' : Hp} {t : Addr} {v b : V} {d : PyData} (h : DP l H t v b d) (bt : But l H H') : DP l H' t v b d := ⟨bt _ _ h.ne h.at_, h.ne, h.dd.but bt⟩
theorem DP.add {l : List Addr} {H : Hp} {t q : Addr} {v b : V} {d : PyData} (h : DP l H t v b d) (n : H q = none) : DP (q :: l) H t v b d := ⟨h.at_, fun z => by
  rcases List.mem_cons.mp z with z | z
  · rw [← z, h.at_] at n; cases n
  · exact h.ne z, h.dd.add n⟩
theorem DP.out {l : List Addr} {H : Hp} {t : Addr} {v b : V} {d : PyData} (h : DP l H t v b d) : DD [] [] H v d := h.dd.less (by simp)
theorem Pot.neT {H : Hp} {p t : Addr} {xs : List V} (h : Pot H p) (e : H t = some (.tup xs)) : t ≠ p := fun z => by
  obtain ⟨a, b, e2, _⟩ := h
  rw [z, e2] at e
  cases e
theorem Pot.neD {H : Hp} {p t : Addr} {xs : List (Key × V)} (h : Pot H p) (e : H t = some (.dK xs)) : t ≠ p := fun z => by
  obtain ⟨a, b, e2, _⟩ := h
  rw [z, e2] at e
  cases e
theorem Pot.lsts {H : Hp} {p : Addr} (h : Pot H p) : ∀ q ∈ [p], ∃ xs, H q = some (.lst xs) := fun q hq => by
  obtain ⟨a, b, e, _⟩ := h
  rw [List.mem_singleton.mp hq]
  exact ⟨_, e⟩
theorem odd_fine {g : Str} (gs : strSigns g = true) {c0 cl : Nat} (h0 : c0 ∈ g.cps.toList) (hl : cl ∈ g.cps.toList) {d : PyData} (hd : d ∈ oddT ⟨#[c0]⟩ ⟨#[cl]⟩ 3) : Fine 2 700 d := (fine_T (sign_known gs h0) (sign_known gs hl) (.inr rfl) d hd).mono (by decide) (by decide)
theorem sights_small {g : Str} (gs : strSigns g = true) {c0 cl : Nat} (h0 : c0 ∈ g.cps.toList) (hl : cl ∈ g.cps.toList) : ∀ x ∈ (["whole", "start", ⟨#[c0]⟩, ⟨#[cl]⟩] : List Str), (∀ c ∈ x.cps.toList, c < 128) ∧ x.length ≤ 20 := fun x hx => by
  simp only [List.mem_cons, List.not_mem_nil, or_false] at hx
  rcases hx with rfl | rfl | rfl | rfl
  · exact ⟨by decide +kernel, by decide⟩
  · exact ⟨by decide +kernel, by decide⟩
  · exact ⟨fun d hd => by simp at hd; subst hd; exact known_small _ (sign_known gs h0), by simp [Str.length]⟩
  · exact ⟨fun d hd => by simp at hd; subst hd; exact known_small _ (sign_known gs hl), by simp [Str.length]⟩
theorem words2 {g nm : Str} {a b : Str} (hn : nm ≠ "sight") (ha : a ∈ wordsOf nm) (hb : b ∈ wordsOf nm) : ∀ x ∈ ([a, b] : List Str), wordB g nm (.str x) = true := fun x hx => by
  simp only [List.mem_cons, List.not_mem_nil, or_false] at hx
  rcases hx with rfl | rfl
  · exact care_word hn ha
  · exact care_word hn hb
theorem small2 : ∀ x ∈ (["inner", "outer", "refuse", "close"] : List Str), (x.cps.toList.all fun c => decide (c < 128)) = true ∧ x.length ≤ 20 := by decide +kernel
theorem small3 {ws : List Str} (h : ∀ x ∈ ws, x ∈ (["inner", "outer", "refuse", "close"] : List Str)) : ∀ x ∈ ws, (∀ c ∈ x.cps.toList, c < 128) ∧ x.length ≤ 20 := fun x hx => ⟨fun c hc => by simpa using List.all_eq_true.mp (small2 x (h x hx)).1 c hc, (small2 x (h x hx)).2⟩
section
variable {P : Program} {w : World} {K : PySem.W.Frag} {mg : Str → Option Value} {base : Heap}
def spRi50 (Pt : Addr) : Sp := fun vs H Q _ => ∃ p, vs = [.ref p] ∧ Pot H p ∧ Tabs (tabsR Pt) H ∧ ∀ H', Ex [p] H H' → Tabs (tabsR Pt) H' → Q (.bl true) H'
abbrev X10 (d1 dL d3 e1 e2 e3 e4 : PyData) (v1 vL v3 w1 w2 w3 w4 : V) (ok1 ok3 k1 k2 k3 k4 : Bool) (g : Str) := S10 ⟨d1, dL, d3, e1, e2, e3, e4, v1, vL, v3, w1, w2, w3, w4, ok1, ok3, k1, k2, k3, k4, g⟩
theorem d_right {CE CS CM CT CC CR c Pt : Addr} (B : Blt mg base) (CL : ClsR K CR) (D : AtC K mg "_law_right" (top 46) c) (DT : At K mg "_law_told" (top 43)) (ER : Errs K mg CE CS CM CT CC) (TB : TabB base mg c Pt)
    (RD : RdR P w K mg base CR CS CM CT CC) (EQ : MethOk P w K mg base 1 CR "__eq__" ["self", "other"] (spEq (SameR CR))) (hne : PySem.W.findIn K (.ref CR) "__ne__" = some (some (.builtin "object.__ne__"))) (hmr : PySem.W.mroIn K CR (.type "object") = some true)
    (DI : DefG P w K mg base 3 "_law_is" (top 45) ["made", "alphabet", "labels", "ending", "cares"] (spIs CR))
    (D0 : Def P w K mg base 1 "_law_draw" (top 36) ["pot", "top"] spDraw) (D1 : Def P w K mg base 3 "_law_alphabet" (top 39) ["pot"] spAlph) (D2 : Def P w K mg base 4 "_law_labels" (top 41) ["pot", "alphabet"] spLabs)
    (D3 : Def P w K mg base 3 "_law_text" (top 38) ["pot", "alphabet", "least", "top"] spTxt) (D3o : Def P w K mg base 3 "_law_odd_text" (top 40) ["pot", "alphabet", "top"] (spOddT K))
    (D4 : Def P w K mg base 3 "_law_care" (top 42) ["pot", "words"] spCare) (D5 : Def P w K mg base 1 "_law_due" (top 44) ["alphabet", "labels", "ending", "cares"] spDueR) :
    DefG P w K mg base 8 "_law_right" (top 46) ["pot"] (spRi50 Pt) := by
  refine defG_ofC D B scRi (fun vs H Q E ⟨_, e, _⟩ => by rw [e]; rfl) fun f A outer s H vs Q E hm C gd h => ?_
  obtain ⟨p, rfl, hp, T0, hQ⟩ := h
  have sz : ∀ n, n ≤ 16777216 → n ≤ sizeLine := fun n hn => by rw [sizeLine_eq]; exact hn
  -- the alphabet
  refine b_cons (s_set (i := 1) (e_call (C.mono (by decide)) D1 (a_cons (e_name 0 (v := .ref p) (a_nil ?_))) rfl (fun _ _ _ _ _ _ us hl => match us, hl with | [_], _ => rfl)) C.nd)
  refine ⟨p, rfl, hp, fun t1 v1 d1 ok1 H1 ht1 hd1 b1 hp1 hy1 hn1 => ?_⟩
  have P1 : DP [p] H1 t1 v1 (.bl ok1) d1 := ⟨ht1, by simpa using hp1.neT ht1, hd1⟩
  refine b_cons (s_set (i := 2) (wE_mono (Q := fun v H' => ∃ g : Str, v = .str g ∧ strSigns g = true ∧ (ok1 = true → d1 = .str g) ∧ H' = H1) ?_ fun v H' ⟨g, e, gs, hg, eH⟩ => ?_) C.nd)
  · refine e_if (t_val (e_ix (e_name 1 (v := .ref t1) (e_int (ix_t (.inl (.inl P1.at_)) (v := .bl ok1) rfl ⟨ok1, rfl, ?_⟩)))))
    cases ok1 with
    | true =>
      obtain ⟨g, rfl, gs⟩ := hy1 rfl
      rw [if_pos rfl]
      exact e_ix (e_name 1 (v := .ref t1) (e_int (ix_t (.inl (.inl P1.at_)) (v := v1) rfl ⟨g, dd_str hd1, gs, fun _ => rfl, rfl⟩)))
    | false =>
      rw [if_neg (by simp)]
      exact e_str ⟨"ab", rfl, by decide +kernel, fun e => (by cases e), rfl⟩
  subst e eH
  have gl := strSigns_len gs
  have sg : g.length ≤ sizeLine := sz _ (by omega)
  have f1 : Fine 2 700 d1 := by
    cases hk : ok1 with
    | true => rw [hg hk]; exact ⟨(shw_str (w := 20) (fun c hc => known_small _ (sign_known gs hc)) (by omega)).mono (by decide) (by decide), sg, fun y hy => by simp [items] at hy, by simp [items]⟩
    | false => exact fine_A d1 (hn1 hk)
  have s0 : ok1 = false → areSigns d1 = false := fun e => odd_no d1 (hn1 e)
  obtain ⟨c0, r0, hg0⟩ : ∃ c0 r, g.cps.toList = c0 :: r := by
    match hh : g.cps.toList with
    | [] => have : g.cps.toList.length = g.length := by simp; rfl
            rw [hh] at this; simp at this; omega
    | c :: r => exact ⟨c, r, rfl⟩
  obtain ⟨cl, ini, hgl⟩ : ∃ cl ini, g.cps.toList = ini ++ [cl] := by
    rcases List.eq_nil_or_concat g.cps.toList with h | ⟨i, x, h⟩
    · rw [hg0] at h; cases h
    · exact ⟨x, i, by rw [h]; simp⟩
  have m0 : c0 ∈ g.cps.toList := by rw [hg0]; simp
  have ml : cl ∈ g.cps.toList := by rw [hgl]; simp
  have a0 : atI g.cps.toList 0 = some c0 := atI_nat (j := 0) (by rw [hg0]; rfl)
  have al : atI g.cps.toList (-1) = some cl := by rw [hgl]; exact atI_last _ _
  -- the labels
  refine b_cons (s_set (i := 3) (e_call (C.mono (by decide)) D2 (a_cons (e_name 0 (v := .ref p) (a_cons (e_name 2 (v := .str g) (a_nil ?_))))) rfl (fun _ _ _ _ _ _ us hl => match us, hl with | [_, _], _ => rfl)) C.nd)
  refine ⟨p, g, rfl, hp1, gs, fun tL vL dL H2 htL hdL fL b2 hp2 => ?_⟩
  have P2 : DP [p] H2 tL vL (atV (atOf g dL)) dL := ⟨htL, by simpa using hp2.neT htL, hdL⟩
  replace P1 := P1.go b2
  have b02 := b1.trans b2
  clear ht1 hd1 b1 htL hdL b2 hp1 hy1 hn1
  have fin : ∀ (t3 : Addr) (v3 : V) (d3 : PyData) (ok3 : Bool) (H5 : Hp), DP [p] H5 t3 v3 (.bl ok3) d3 → But [p] H2 H5 → Pot H5 p → Fine 2 700 d3 → ok3 = shortLine 3 g d3 →
      wB (bX P w K mg base NR "_law_right" (top 46) f (.ref c) A outer s H E) ((defBody (top 46)).drop 5) { nx := fun _ H' => Q .non H', rt := Q }
        [some (.ref p), some (.ref t1), some (.str g), some (.ref tL), some (.ref t3), none, none, none, none, none, none, none, none, none, none, none, none] H5 := fun t3 v3 d3 ok3 H5 P3 b5 hp5 f3 o3 => by
    have A1 := P1.go b5
    have A2 := P2.go b5
    -- the first care
    refine b_cons (s_set (i := 5) (eE (pe_disp (pps_cons pE pE pps_nil) rfl rfl (by simp) (by decide)) ?_) C.nd)
    intro cd hcd
    have np : cd ≠ p := hp5.there hcd
    have kc : ∀ q o, H5 q = some o → q ≠ cd := fun q o e => ne_of_none e hcd
    have bc : But [] H5 (upd H5 cd (.dK [])) := But.new hcd
    have hc : upd H5 cd (.dK []) cd = some (.dK []) := upd_same
    have grow : ∀ {H6 : Hp} {l : List (Key × V)}, But [p] H5 H6 → Pot H6 p → But [p] H5 (upd H6 cd (.dK l)) ∧ Pot (upd H6 cd (.dK l)) p ∧ But [cd, p] H6 (upd H6 cd (.dK l)) ∧ Here [cd, p] (upd H6 cd (.dK l)) := fun {H6 l} b hp => by
      have hp' : Pot (upd H6 cd (.dK l)) p := by
        obtain ⟨x, y, e, r⟩ := hp
        exact ⟨x, y, by rw [upd_ne np.symm]; exact e, r⟩
      refine ⟨fun q o n e => by rw [upd_ne (kc q o e)]; exact b q o n e, hp', But.at (by simp), fun q hq => ?_⟩
      rcases List.mem_cons.mp hq with e | e
      · rw [e]; exact ⟨_, upd_same⟩
      · rw [List.mem_singleton.mp e]; exact hp'.lsts p (by simp) |>.elim fun xs z => ⟨_, z⟩
    replace A1 := (A1.add hcd).go bc.of
    replace A2 := (A2.add hcd).go bc.of
    have A3 := (P3.add hcd).go bc.of
    have hp6 := hp5.new bc
    have hh6 : Here [cd, p] (upd H5 cd (.dK [])) := (grow (H6 := H5) (l := []) (fun _ _ _ e => e) hp5).2.2.2
    have b56 : But [p] H5 (upd H5 cd (.dK [])) := bc.of
    have up : ∀ {H1 H2 : Hp}, But [p] H1 H2 → But [cd, p] H1 H2 := fun b => b.mono fun z hz => by rw [List.mem_singleton.mp hz]; simp
    generalize upd H5 cd (.dK []) = H6 at bc hc A1 A2 A3 hp6 hh6 b56 ⊢
    refine e_str (e_call (C.mono (by decide)) D4 (a_cons (e_name 0 (v := .ref p) (a_cons (e_lst (a_cons (e_str (a_cons (e_str (a_cons (e_ix (e_name 2 (v := .str g) (e_int (ix_s sg a0 ?_))))))))))))) rfl (fun _ _ _ _ _ _ us hl => match us, hl with | [_, _], _ => rfl))
    refine a_cons (e_ix (e_name 2 (v := .str g) (e_un (e_int (u_neg (ix_s sg al (a_nil ⟨sz 4 (by decide), fun q hq => a_nil ?_⟩)))))))
    have bq : But [] H6 (upd H6 q (.lst (([("whole" : Str), "start", ⟨#[c0]⟩, ⟨#[cl]⟩]).map V.str))) := But.new hq
    have hqn := hp6.there hq
    refine ⟨p, q, ["whole", "start", ⟨#[c0]⟩, ⟨#[cl]⟩], [cd, p], rfl, hp6.new bq, by simp, fun z hz => (hh6 z hz).elim fun o e => ⟨o, bq _ _ (by simp) e⟩, hqn, upd_same, by simp, by simp, fun c1 w1 e1 k1 H7 hc1 nc1 hd1 b7 hp7 hy1 hn1 => ?_⟩
    have ek1 := care_k (g := g) (nm := "sight") (by simp) (fun x hx => care_sight m0 ml hx) hy1 hn1
    have ge1 := care_fine (sights_small gs m0 ml) hy1 hn1
    have b67 : But [p] H6 H7 := bq.of.trans b7
    have hc7 := b67 _ _ (by simpa using np) hc
    have B1 : DP [cd, p] H7 c1 w1 (.bl k1) e1 := ⟨hc1, nc1, hd1⟩
    replace A1 := A1.go (up b67)
    replace A2 := A2.go (up b67)
    replace A3 := A3.go (up b67)
    have b57 := b56.trans b67
    clear hc1 nc1 hd1 hy1 hn1 bq hq hqn b7 b67 b56 hh6 hp6 hc bc
    refine ⟨hc7, [(.inr "sight", .ref c1)], rfl, by show 1 ≤ 15; decide, ?_⟩
    rw [show mergeK [] [((.inr "sight" : Key), V.ref c1)] = [((.inr "sight" : Key), V.ref c1)] from rfl]
    obtain ⟨b58, hp8, b78, hh8⟩ := grow (l := [((.inr "sight" : Key), V.ref c1)]) b57 hp7
    have hc8 : upd H7 cd (.dK [((.inr "sight" : Key), V.ref c1)]) cd = some (.dK [((.inr "sight" : Key), V.ref c1)]) := upd_same
    replace A1 := A1.go b78
    replace A2 := A2.go b78
    replace A3 := A3.go b78
    replace B1 := B1.go b78
    generalize upd H7 cd (.dK [((.inr "sight" : Key), V.ref c1)]) = H8 at b58 hp8 b78 hh8 hc8 A1 A2 A3 B1 ⊢
    clear hc7 hp7 b57 b78
    -- the second care
    refine b_cons (s_asg (e_call (C.mono (by decide)) D4 (a_cons (e_name 0 (v := .ref p) (a_cons (e_lst (a_cons (e_str (a_cons (e_str (a_nil ⟨sz 2 (by decide), fun q hq => a_nil ?_⟩))))))))) rfl (fun _ _ _ _ _ _ us hl => match us, hl with | [_, _], _ => rfl)))
    have bq : But [] H8 (upd H8 q (.lst (([("inner" : Str), "outer"]).map V.str))) := But.new hq
    have hqn := hp8.there hq
    refine ⟨p, q, ["inner", "outer"], [cd, p], rfl, hp8.new bq, by simp, fun z hz => (hh8 z hz).elim fun o e => ⟨o, bq _ _ (by simp) e⟩, hqn, upd_same, by simp, by simp, fun c2 w2 e2 k2 H9 hc2 nc2 hd2 b9 hp9 hy2 hn2 => ?_⟩
    have ek2 := care_k (g := g) (nm := "order") (by simp) (words2 (by decide) (by decide) (by decide)) hy2 hn2
    have ge2 := care_fine (small3 (by decide)) hy2 hn2
    have b89 : But [p] H8 H9 := bq.of.trans b9
    have hc9 := b89 _ _ (by simpa using np) hc8
    have B2 : DP [cd, p] H9 c2 w2 (.bl k2) e2 := ⟨hc2, nc2, hd2⟩
    replace A1 := A1.go (up b89)
    replace A2 := A2.go (up b89)
    replace A3 := A3.go (up b89)
    replace B1 := B1.go (up b89)
    refine g_sub (e_name 5 (v := .ref cd) (e_str (set_d C (DPut.k (k := .inr "order") hc9 (by rw [sizeLine_eq]; exact (by decide : 1 < 16777216))) ?_)))
    rw [show putK [((.inr "sight" : Key), V.ref c1)] (.inr "order") (.ref c2) = [((.inr "sight" : Key), V.ref c1), (.inr "order", .ref c2)] from rfl]
    obtain ⟨b5A, hpA, b9A, hhA⟩ := grow (l := [((.inr "sight" : Key), V.ref c1), (.inr "order", .ref c2)]) (b58.trans b89) hp9
    have hcA : upd H9 cd (.dK [((.inr "sight" : Key), V.ref c1), (.inr "order", .ref c2)]) cd = some (.dK [((.inr "sight" : Key), V.ref c1), (.inr "order", .ref c2)]) := upd_same
    replace A1 := A1.go b9A
    replace A2 := A2.go b9A
    replace A3 := A3.go b9A
    replace B1 := B1.go b9A
    replace B2 := B2.go b9A
    generalize upd H9 cd (.dK [((.inr "sight" : Key), V.ref c1), (.inr "order", .ref c2)]) = HA at b5A hpA b9A hhA hcA A1 A2 A3 B1 B2 ⊢
    clear hc2 nc2 hd2 hy2 hn2 bq hq hqn b9 b89 hc9 hp9 b9A b58 hp8 hh8 hc8
    -- the third and the fourth
    refine b_cons (s_asg (e_tup (a_cons (e_call (C.mono (by decide)) D4 (a_cons (e_name 0 (v := .ref p) (a_cons (e_lst (a_cons (e_str (a_cons (e_str (a_nil ⟨sz 2 (by decide), fun q hq => a_nil ?_⟩))))))))) rfl (fun _ _ _ _ _ _ us hl => match us, hl with | [_, _], _ => rfl)))))
    have bq : But [] HA (upd HA q (.lst (([("refuse" : Str), "close"]).map V.str))) := But.new hq
    have hqn := hpA.there hq
    refine ⟨p, q, ["refuse", "close"], [cd, p], rfl, hpA.new bq, by simp, fun z hz => (hhA z hz).elim fun o e => ⟨o, bq _ _ (by simp) e⟩, hqn, upd_same, by simp, by simp, fun c3 w3 e3 k3 HB hc3 nc3 hd3 bB hpB hy3 hn3 => ?_⟩
    have ek3 := care_k (g := g) (nm := "further") (by simp) (words2 (by decide) (by decide) (by decide)) hy3 hn3
    have ge3 := care_fine (small3 (by decide)) hy3 hn3
    have bAB : But [p] HA HB := bq.of.trans bB
    have hcB := bAB _ _ (by simpa using np) hcA
    have B3 : DP [cd, p] HB c3 w3 (.bl k3) e3 := ⟨hc3, nc3, hd3⟩
    replace A1 := A1.go (up bAB)
    replace A2 := A2.go (up bAB)
    replace A3 := A3.go (up bAB)
    replace B1 := B1.go (up bAB)
    replace B2 := B2.go (up bAB)
    have hhB := Here.go hhA bAB hpB
    have b5B := b5A.trans bAB
    clear hc3 nc3 hd3 hy3 hn3 bq hq hqn bB bAB hhA hpA b5A hcA
    refine a_cons (e_call (C.mono (by decide)) D4 (a_cons (e_name 0 (v := .ref p) (a_cons (e_lst (a_cons (e_str (a_cons (e_str (a_nil ⟨sz 2 (by decide), fun q hq => a_nil ?_⟩))))))))) rfl (fun _ _ _ _ _ _ us hl => match us, hl with | [_, _], _ => rfl))
    have bq : But [] HB (upd HB q (.lst (([("refuse" : Str), "close"]).map V.str))) := But.new hq
    have hqn := hpB.there hq
    refine ⟨p, q, ["refuse", "close"], [cd, p], rfl, hpB.new bq, by simp, fun z hz => (hhB z hz).elim fun o e => ⟨o, bq _ _ (by simp) e⟩, hqn, upd_same, by simp, by simp, fun c4 w4 e4 k4 HC hc4 nc4 hd4 bC hpC hy4 hn4 => a_nil ⟨sz 2 (by decide), fun tt htt => ?_⟩⟩
    have ek4 := care_k (g := g) (nm := "finish") (by simp) (words2 (by decide) (by decide) (by decide)) hy4 hn4
    have ge4 := care_fine (small3 (by decide)) hy4 hn4
    have bt : But [] HC (upd HC tt (.tup [.ref c3, .ref c4])) := But.new htt
    have htt' : upd HC tt (.tup [.ref c3, .ref c4]) tt = some (.tup [.ref c3, .ref c4]) := upd_same
    have bBD : But [p] HB (upd HC tt (.tup [.ref c3, .ref c4])) := bq.of.trans (bC.trans bt.of)
    have hcD := bBD _ _ (by simpa using np) hcB
    have hpD := hpC.new bt
    have B4 : DP [cd, p] (upd HC tt (.tup [.ref c3, .ref c4])) c4 w4 (.bl k4) e4 := DP.go ⟨hc4, nc4, hd4⟩ bt.of
    replace A1 := A1.go (up bBD)
    replace A2 := A2.go (up bBD)
    replace A3 := A3.go (up bBD)
    replace B1 := B1.go (up bBD)
    replace B2 := B2.go (up bBD)
    replace B3 := B3.go (up bBD)
    have b5D := b5B.trans bBD
    generalize upd HC tt (.tup [.ref c3, .ref c4]) = HD at htt' hcD hpD b5D A1 A2 A3 B1 B2 B3 B4 ⊢
    refine g_tup (gs_cons (g_sub (e_name 5 (v := .ref cd) (e_str (set_d C (DPut.k (k := .inr "further") hcD (by rw [sizeLine_eq]; exact (by decide : 2 < 16777216))) ?_))))) rfl (.inl (.inl htt'))
    rw [show putK [((.inr "sight" : Key), V.ref c1), (.inr "order", .ref c2)] (.inr "further") (.ref c3) = [((.inr "sight" : Key), V.ref c1), (.inr "order", .ref c2), (.inr "further", .ref c3)] from rfl]
    obtain ⟨b5E, hpE, bDE, hhE⟩ := grow (l := [((.inr "sight" : Key), V.ref c1), (.inr "order", .ref c2), (.inr "further", .ref c3)]) b5D hpD
    have hcE : upd HD cd (.dK [((.inr "sight" : Key), V.ref c1), (.inr "order", .ref c2), (.inr "further", .ref c3)]) cd = some (.dK [((.inr "sight" : Key), V.ref c1), (.inr "order", .ref c2), (.inr "further", .ref c3)]) := upd_same
    replace A1 := A1.go bDE
    replace A2 := A2.go bDE
    replace A3 := A3.go bDE
    replace B1 := B1.go bDE
    replace B2 := B2.go bDE
    replace B3 := B3.go bDE
    replace B4 := B4.go bDE
    generalize upd HD cd (.dK [((.inr "sight" : Key), V.ref c1), (.inr "order", .ref c2), (.inr "further", .ref c3)]) = HE at b5E hpE bDE hhE hcE A1 A2 A3 B1 B2 B3 B4 ⊢
    clear hc4 nc4 hd4 hy4 hn4 bq hq hqn bC hhB hpB b5B hcB bt bBD hcD hpD b5D htt' bDE htt
    refine gs_cons (g_sub (e_name 5 (v := .ref cd) (e_str (set_d C (DPut.k (k := .inr "finish") hcE (by rw [sizeLine_eq]; exact (by decide : 3 < 16777216))) (gs_nil ?_)))))
    rw [show putK [((.inr "sight" : Key), V.ref c1), (.inr "order", .ref c2), (.inr "further", .ref c3)] (.inr "finish") (.ref c4) = [((.inr "sight" : Key), V.ref c1), (.inr "order", .ref c2), (.inr "further", .ref c3), (.inr "finish", .ref c4)] from rfl]
    obtain ⟨b5F, hpF, bEF, hhF⟩ := grow (l := [((.inr "sight" : Key), V.ref c1), (.inr "order", .ref c2), (.inr "further", .ref c3), (.inr "finish", .ref c4)]) b5E hpE
    have hcF : upd HE cd (.dK [((.inr "sight" : Key), V.ref c1), (.inr "order", .ref c2), (.inr "further", .ref c3), (.inr "finish", .ref c4)]) cd = some (.dK [((.inr "sight" : Key), V.ref c1), (.inr "order", .ref c2), (.inr "further", .ref c3), (.inr "finish", .ref c4)]) := upd_same
    replace A1 := A1.go bEF
    replace A2 := A2.go bEF
    replace A3 := A3.go bEF
    replace B1 := B1.go bEF
    replace B2 := B2.go bEF
    replace B3 := B3.go bEF
    replace B4 := B4.go bEF
    generalize upd HE cd (.dK [((.inr "sight" : Key), V.ref c1), (.inr "order", .ref c2), (.inr "further", .ref c3), (.inr "finish", .ref c4)]) = HF at b5F hpF bEF hhF hcF A1 A2 A3 B1 B2 B3 B4 ⊢
    have bF : But [p] H HF := b02.trans (b5.trans b5F)
    have TF : Tabs (tabsR Pt) HF := tabs_but T0 bF hp.lsts
    clear b5E hpE bEF hhE hcE grow hhF up kc
    have okX : Dr.Ok ⟨d1, dL, d3, e1, e2, e3, e4, v1, vL, v3, w1, w2, w3, w4, ok1, ok3, k1, k2, k3, k4, g⟩ := ⟨gs, hg, s0, o3, ek1, ek2, ek3, ek4, f1, fL, f3, ge1, ge2, ge3, ge4⟩
    -- what is due
    refine b_cons (s_par (i := 6) (j := 7) C (a_cons (e_call (C.mono (by decide)) D5 (a_cons (e_name 1 (v := .ref t1) (a_cons (e_name 3 (v := .ref tL) (a_cons (e_name 4 (v := .ref t3) (a_cons (e_name 5 (v := .ref cd) (a_nil ?_)))))))) ) rfl (fun _ _ _ _ _ _ us hl => match us, hl with | [_, _, _, _], _ => rfl))))
    refine ⟨t1, tL, t3, cd, c1, c2, c3, c4, v1, vL, v3, w1, w2, w3, w4, d1, d3, e1, e2, e3, e4, ok1, ok3, k1, k2, k3, k4, atOf g dL, rfl, ⟨A1.at_, A1.out⟩, A2.at_, ⟨A3.at_, A3.out⟩, hcF, ⟨B1.at_, B1.out⟩, ⟨B2.at_, B2.out⟩, ⟨B3.at_, B3.out⟩, ⟨B4.at_, B4.out⟩, fun dq us HG bG nq hdq hus => ?_⟩
    have SF : X10 d1 dL d3 e1 e2 e3 e4 v1 vL v3 w1 w2 w3 w4 ok1 ok3 k1 k2 k3 k4 g Pt t1 tL t3 cd c1 c2 c3 c4 dq HG := ⟨tabs_new TF bG, bG _ _ (by simp) A1.at_, bG _ _ (by simp) A2.at_, bG _ _ (by simp) A3.at_, Dr.At.but (X := ⟨d1, dL, d3, e1, e2, e3, e4, v1, vL, v3, w1, w2, w3, w4, ok1, ok3, k1, k2, k3, k4, g⟩) ⟨A1.out, A2.out, A3.out, B1.out, B2.out, B3.out, B4.out⟩ bG, bG _ _ (by simp) hcF, bG _ _ (by simp) B1.at_, bG _ _ (by simp) B2.at_, bG _ _ (by simp) B3.at_, bG _ _ (by simp) B4.at_, us, hdq, hus⟩
    have xG : Ex [p] H HG := bF.ex.trans bG.of.ex
    clear A1 A2 A3 B1 B2 B3 B4 hcF bG nq hdq hus TF bF b5F hpF
    refine a_cons (e_rep B gd C.un (e_lst (a_cons (e_name 1 (v := .ref t1) (a_cons (e_name 3 (v := .ref tL) (a_cons (e_name 4 (v := .ref t3) (a_nil ⟨sz 3 (by decide), fun q hq => ?_⟩)))))))))
    have bq : But [] HG (upd HG q (.lst [.ref t1, .ref tL, .ref t3])) := But.new hq
    have Sq := S10.new SF bq
    refine ⟨[], keptD ⟨d1, dL, d3, e1, e2, e3, e4, v1, vL, v3, w1, w2, w3, w4, ok1, ok3, k1, k2, k3, k4, g⟩, .lst (.inl (.inl upd_same)) (by simp) (.cons (.tup (.inl (.inl Sq.a1)) (by simp) (.cons Sq.at_.d1.all (.cons (.bl _) .nil))) (.cons (.tup (.inl (.inl Sq.aL)) (by simp) (.cons Sq.at_.dL.all (.cons dd_at .nil))) (.cons (.tup (.inl (.inl Sq.a3)) (by simp) (.cons Sq.at_.d3.all (.cons (.bl _) .nil))) .nil))), kept_rp okX, a_nil ⟨_, _, rfl, ?_⟩⟩
    have xq := xG.trans bq.of.ex
    generalize upd HG q (.lst [.ref t1, .ref tL, .ref t3]) = HI at Sq xq ⊢
    clear SF xG bq hq
    -- the four ways
    refine b_cons (s_asg (e_lcM [("label", 15)] C (i_list (e_lst (a_cons (e_str (a_cons (e_str (a_cons (e_str (a_cons (e_str (a_nil ⟨sz 4 (by decide), fun lq hlq => ?_⟩)))))))))))))
    have bl : But [] HI (upd HI lq (.lst [.str "sight", .str "order", .str "further", .str "finish"])) := But.new hlq
    have hl : upd HI lq (.lst [.str "sight", .str "order", .str "further", .str "finish"]) lq = some (.lst [.str "sight", .str "order", .str "further", .str "finish"]) := upd_same
    refine ⟨lq, rfl, ⟨_, .inl (.inl hl)⟩, _, _, _, [w1, w2, w3, w4], walk_list (xs := [.str "sight", .str "order", .str "further", .str "finish"]), rfl, sz 4 (by decide), fun H' b => .inl (.inl (b _ _ (by simp) hl)), fun i x H2 H' hi b2 hy => ?_, fun D1 HJ bJ nD hD1 => ?_⟩
    · obtain ⟨rfl, hx⟩ := hy
      have S2 := S10.new Sq (bl.trans b2)
      have get : ∀ (k : Str) (v : V), valV ([((.inr "sight" : Key), V.ref c1), (.inr "order", .ref c2), (.inr "further", .ref c3), (.inr "finish", .ref c4)] : List (Key × V)) (Sum.inr k : Key) = some v → DGet H' cd (.str k) (some v) := fun k v e => by rw [← e]; exact DGet.k (k := .inr k) S2.cd
      match i, hi, hx with
      | 0, _, hx =>
        cases hx
        exact ⟨But.refl, mt_name (i := 15) C.nd fun s H0 Ca cl fp => e_ix (e_dget (C.blk _ _ _ _ _) (e_name 5 (v := .ref cd) (e_name 15 (v := .str "sight") ⟨rfl, get "sight" (.ref c1) rfl, e_int (ix_t (.inl (.inl S2.c1)) (v := w1) rfl ⟨rfl, But.refl⟩)⟩)))⟩
      | 1, _, hx =>
        cases hx
        exact ⟨But.refl, mt_name (i := 15) C.nd fun s H0 Ca cl fp => e_ix (e_dget (C.blk _ _ _ _ _) (e_name 5 (v := .ref cd) (e_name 15 (v := .str "order") ⟨rfl, get "order" (.ref c2) rfl, e_int (ix_t (.inl (.inl S2.c2)) (v := w2) rfl ⟨rfl, But.refl⟩)⟩)))⟩
      | 2, _, hx =>
        cases hx
        exact ⟨But.refl, mt_name (i := 15) C.nd fun s H0 Ca cl fp => e_ix (e_dget (C.blk _ _ _ _ _) (e_name 5 (v := .ref cd) (e_name 15 (v := .str "further") ⟨rfl, get "further" (.ref c3) rfl, e_int (ix_t (.inl (.inl S2.c3)) (v := w3) rfl ⟨rfl, But.refl⟩)⟩)))⟩
      | 3, _, hx =>
        cases hx
        exact ⟨But.refl, mt_name (i := 15) C.nd fun s H0 Ca cl fp => e_ix (e_dget (C.blk _ _ _ _ _) (e_name 5 (v := .ref cd) (e_name 15 (v := .str "finish") ⟨rfl, get "finish" (.ref c4) rfl, e_int (ix_t (.inl (.inl S2.c4)) (v := w4) rfl ⟨rfl, But.refl⟩)⟩)))⟩
    · have bIJ := bl.trans bJ
      have SJ := S10.new Sq bIJ
      have xJ := xq.trans bIJ.of.ex
      refine g_lst (gs_cons (g_name (i := 8) (gs_cons (g_name (i := 9) (gs_cons (g_name (i := 10) (gs_cons (g_name (i := 11) (gs_nil ?_) C.nd)) C.nd)) C.nd)) C.nd)) rfl (.inl (.inl hD1))
      exact right_C B CL DT ER TB RD EQ hne hmr DI C gd okX SJ fun H' x t => hQ H' (xJ.trans (x.mono (by simp))) t
  -- the ending
  refine b_cons (s_set (i := 4) (e_tup (a_cons (e_call (C.mono (by decide)) D3 (a_cons (e_name 0 (v := .ref p) (a_cons (e_name 2 (v := .str g) (a_cons (e_int (a_cons (e_int (a_nil ?_))))))))) rfl (fun _ _ _ _ _ _ us hl => match us, hl with | [_, _, _, _], _ => rfl)))) C.nd)
  refine ⟨p, g, 1, 3, rfl, hp2, gs, by decide, by decide, fun y H3 hy y1 y3 b3 hp3 => a_cons (e_bool (a_nil ⟨sz 2 (by decide), fun t3 ht3 => ?_⟩))⟩
  have b4 : But [] H3 (upd H3 t3 (.tup [.str y, .bl true])) := But.new ht3
  have ht4 : upd H3 t3 (.tup [.str y, .bl true]) t3 = some (.tup [.str y, .bl true]) := upd_same
  generalize upd H3 t3 (.tup [.str y, .bl true]) = H4 at b4 ht4 ⊢
  have hp4 := hp3.new b4
  have b24 := b3.trans b4.of
  refine b_cons (s_if (t_cmp (e_call (C.mono (by decide)) D0 (a_cons (e_name 0 (v := .ref p) (a_cons (e_int (a_nil ?_))))) rfl (fun _ _ _ _ _ _ us hl => match us, hl with | [_, _], _ => rfl))))
  refine ⟨p, 9, rfl, hp4, by decide, by decide, fun rr H5 z0 z9 b5 hp5 => e_int (c_eq rfl ⟨_, rfl, ite_b (fun e => ?_) fun e => b_nil ?_⟩)⟩
  · refine b_cons (s_set (i := 4) (e_tup (a_cons (e_call (C.mono (by decide)) D3o (a_cons (e_name 0 (v := .ref p) (a_cons (e_name 2 (v := .str g) (a_cons (e_int (a_nil ?_))))))) rfl (fun _ _ _ _ _ _ us hl => match us, hl with | [_, _, _], _ => rfl)))) C.nd)
    refine ⟨p, g, 3, c0, cl, r0, rfl, hp5, hg0, ⟨ini, hgl⟩, by decide, by omega, fun v3 d3 H6 hd3 hD3 b6 hp6 => a_cons (e_bool (a_nil ⟨sz 2 (by decide), fun t6 ht6 => b_nil ?_⟩))⟩
    have b7 : But [] H6 (upd H6 t6 (.tup [v3, .bl false])) := But.new ht6
    exact fin t6 v3 d3 false _ ⟨upd_same, by simpa using hp6.there ht6, hD3.but b7.of⟩ (b24.trans (b5.trans (b6.trans b7.of))) (hp6.new b7) (odd_fine gs m0 ml hd3) (odd_short gs d3 hd3).symm
  · exact fin t3 (.str y) (.str y) true _ ⟨b5 _ _ (by simpa using hp4.neT ht4) ht4, by simpa using hp4.neT ht4, .str _⟩ (b24.trans b5) hp5 ((fine_line gs hy (by omega)).mono (by decide) (by decide)) (by simp only [shortLine, hy, y1, y3, decide_true, Bool.and_self])
end
end K50

set_option Elab.async false
set_option linter.all false
set_option maxRecDepth 100000
set_option maxHeartbeats 4000000
namespace K50
open PySem PySem.Spec PyProof.Rows L2 Z LamX NdefX
/-! ### the law, and what the head tells -/
theorem ex_late2 {l : List Addr} {H H1 H2 : Hp} (a : Ex [] H H1) (b : Ex l H1 H2) (n : ∀ q ∈ l, H q = none) : Ex [] H H2 := fun q o _ e h => b q o (fun z => by rw [n q z] at e; cases e) (a q o (by simp) e h) h
section
variable {P : Program} {w : World} {K : PySem.W.Frag} {mg : Str → Option Value} {base : Heap}
def spLaw50 (K : PySem.W.Frag) (Pt : Addr) : Sp := fun vs H Q _ => ∃ (a : Addr) (ns : List Int), vs = [.ref a] ∧ SqL K H a (ns.map V.int) ∧ ns.length ≤ 63 ∧ Tabs (tabsR Pt) H ∧ ∀ H', Q (.bl true) H'
theorem scLw : FnScope ["script", "k"] ["script"] (defScope (top 47)) := ⟨rfl, rfl, rfl, by decide +kernel, rfl, by decide +kernel, by decide +kernel⟩
theorem d_law50 {Pt : Addr} (B : Blt mg base) (D : At K mg "law" (top 47)) (D1 : Def P w K mg base 1 "_law_pot" (top 35) ["script", "k"] (spPotMk K)) (D2 : DefG P w K mg base 8 "_law_right" (top 46) ["pot"] (spRi50 Pt)) :
    DefG P w K mg base 9 "law" (top 47) ["script"] (spLaw50 K Pt) := by
  refine defG_of D B scLw (fun vs H Q E ⟨_, _, e, _⟩ => by rw [e]; rfl) fun f cdv A outer s H vs Q E hm C g h => ?_
  obtain ⟨a, ns, rfl, ha, hn, hT, hQ⟩ := h
  refine b_cons (s_ret (e_all C (e_lc [("k", 1)] C (i_range1 B (e_max2 C (e_int (e_min2 C (e_int (e_len B (e_name 0 ?_))))))))))
  refine ⟨ns.length, .inl ⟨_, ha, by simp⟩, _, _, rfl, rfl, _, _, rfl, rfl, ?_⟩
  have hj : ∃ j : Nat, j ≤ 5 ∧ (if (if ((ns.length : Nat) : Int) < 5 then ((ns.length : Nat) : Int) else 5) > 1 then (if ((ns.length : Nat) : Int) < 5 then ((ns.length : Nat) : Int) else 5) else 1) = (j : Int) := by
    by_cases h4 : ((ns.length : Nat) : Int) < 5
    · rw [if_pos h4]
      by_cases h1 : ((ns.length : Nat) : Int) > 1
      · rw [if_pos h1]
        exact ⟨ns.length, by omega, rfl⟩
      · rw [if_neg h1]
        exact ⟨1, by decide, rfl⟩
    · rw [if_neg h4]
      exact ⟨5, by decide, rfl⟩
  obtain ⟨j, j4, ej⟩ := hj
  refine ⟨_, rfl, ?_⟩
  rw [ej]
  refine ⟨by omega, by omega, j, _, _, walk_range, fun Dl hDl => ⟨fun i H' => Ex [] H H' ∧ Tabs (tabsR Pt) H' ∧ H' Dl = some (.lst (List.replicate i (.bl true))), ⟨(But.new hDl).ex, tabs_new hT (But.new hDl), upd_same⟩, fun _ _ _ _ => trivial, ?_, ?_⟩⟩
  · rintro i x H3 H' hi ⟨x3, T3, hD3⟩ ⟨rfl, rfl⟩
    refine lc_plain (i := 1) C.nd fun s H0 Ca cl fp => e_callG (C.blk _ _ _ _ _) g D2 (a_cons (e_call ((C.mono (by decide)).blk _ _ _ _ _) D1 (a_cons (e_name 0 (v := .ref a) (a_cons (e_name 1 (a_nil ?_))))) rfl (fun _ _ _ _ _ _ us hl => match us, hl with | [_, _], _ => rfl))) rfl (fun _ _ _ _ _ _ us hl => match us, hl with | [_], _ => rfl)
    refine ⟨a, ns, i, by simp, x3.sql (by simp) ha, by omega, by omega, fun p H4 b4 hpn hp4 => a_nil ⟨p, rfl, hp4, tabs_new T3 b4, fun H5 x5 T5 => ?_⟩⟩
    have x35 : Ex [] H' H5 := ex_late2 b4.ex x5 fun q hq => by rw [List.mem_singleton.mp hq]; exact hpn
    have hD5 := x35.lst (by simp) hD3
    refine ⟨_, hD5, by rw [List.length_replicate, sizeLine_eq]; omega, fun q o _ e h => ?_, tabs_but T5 (But.at (l := [Dl]) (by simp)) (fun q hq => ⟨List.replicate i (.bl true), by rw [List.mem_singleton.mp hq]; exact hD5⟩), ?_⟩
    · rw [upd_ne (ne_of_none e hDl)]
      exact (x3.trans x35) q o (by simp) e h
    · rw [upd_same, ← List.replicate_succ']
  · rintro H3 ⟨x3, T3, hD3⟩
    refine ⟨Dl, List.replicate j true, rfl, .inl (.inl (by rw [hD3, List.map_replicate])), ?_⟩
    have : (List.replicate j true).all id = true := by simp
    rw [this]
    exact hQ _
end
structure InitAt (K : PySem.W.Frag) (CR : Addr) : Prop where
  ex : ∃ (f : Addr) (oc kV doc pm cdv ct : Value) (od an : Option Addr) (osl : Array (Option Value)), Mk K CR f ∧ K.lookup f = some ⟨oc, od, .func (PySem.W.fnOf "__init__" "Reader.__init__" (defArgs (clsAt (top 33) 0)) (defBody (clsAt (top 33) 0)) (defScope (clsAt (top 33) 0)) .none kV doc pm an cdv ct), osl⟩ ∧ PySem.W.codeIn K cdv "Reader.__init__" = true ∧ KwdV K kV rKws ∧ PySem.W.keepIn K (.ref f) = true
theorem prop_mk {K : PySem.W.Frag} {CR pr f : Addr} {m q : Str} {st : Stmt} {oc doc pm cdv ct : Value} {od an : Option Addr} {osl : Array (Option Value)} {rest : List Value} (a1 : PySem.W.findIn K (.ref CR) m = some (some (.ref pr))) (a2 : PySem.W.specialIn K (.ref pr) "__get__" = some (some (.builtin "property.__get__")))
    (a3 : PySem.W.takesIn K (.ref pr) = some true) (a4 : PySem.W.recIn K pr "property" = some (.ref f :: rest)) (a5 : K.lookup f = some ⟨oc, od, .func (PySem.W.fnOf m q (defArgs st) (defBody st) (defScope st) .none .none doc pm an cdv ct), osl⟩) (a6 : PySem.W.codeIn K cdv q = true) : PropAt K CR m q st :=
  ⟨pr, f, oc, doc, pm, cdv, ct, od, an, osl, ⟨a1, a2, a3, _, a4⟩, a5, a6⟩
theorem meth_mk {K : PySem.W.Frag} {CR f : Addr} {m q : Str} {st : Stmt} {oc doc pm cdv ct : Value} {od an : Option Addr} {osl : Array (Option Value)} (a1 : PySem.W.findIn K (.ref CR) m = some (some (.ref f))) (a2 : PySem.W.isFn K (.ref f) = true)
    (a3 : PySem.W.keepIn K (.ref f) = true) (a5 : K.lookup f = some ⟨oc, od, .func (PySem.W.fnOf m q (defArgs st) (defBody st) (defScope st) .none .none doc pm an cdv ct), osl⟩) (a6 : PySem.W.codeIn K cdv q = true) : MethAt K CR m q st :=
  ⟨f, oc, doc, pm, cdv, ct, od, an, osl, ⟨a1, a2, a3⟩, a5, a6⟩
theorem initAt_mk {K : PySem.W.Frag} {CR f D : Addr} {oc doc pm cdv ct u1 u2 u3 u4 : Value} {od an : Option Addr} {osl : Array (Option Value)} (a1 : PySem.W.makesIn K CR = true) (a2 : PySem.W.findIn K (.ref CR) "__init__" = some (some (.ref f))) (a3 : PySem.W.isFn K (.ref f) = true) (a4 : PySem.W.keepIn K (.ref CR) = true)
    (a5 : K.lookup f = some ⟨oc, od, .func (PySem.W.fnOf "__init__" "Reader.__init__" (defArgs (clsAt (top 33) 0)) (defBody (clsAt (top 33) 0)) (defScope (clsAt (top 33) 0)) .none (.ref D) doc pm an cdv ct), osl⟩) (a6 : PySem.W.codeIn K cdv "Reader.__init__" = true) (a7 : PySem.W.keepIn K (.ref f) = true)
    (b1 : PySem.W.nsIn K D "sight" = some (some u1)) (b2 : PySem.W.nsIn K D "order" = some (some u2)) (b3 : PySem.W.nsIn K D "further" = some (some u3)) (b4 : PySem.W.nsIn K D "finish" = some (some u4))
    (c1 : RelV (.str "whole") u1) (c2 : RelV (.str "inner") u2) (c3 : RelV (.str "refuse") u3) (c4 : RelV (.str "refuse") u4) : InitAt K CR :=
  ⟨f, oc, .ref D, doc, pm, cdv, ct, od, an, osl, ⟨a1, a2, a3, a4⟩, a5, a6, .inr ⟨D, rfl, fun q hq => by
    simp only [List.mem_cons, List.not_mem_nil, or_false] at hq
    rcases hq with rfl | rfl | rfl | rfl
    · exact ⟨_, b1, c1⟩
    · exact ⟨_, b2, c2⟩
    · exact ⟨_, b3, c3⟩
    · exact ⟨_, b4, c4⟩⟩, a7⟩
theorem words_mk {K : PySem.W.Frag} {w : World} {mg : Str → Option Value} {d t1 t2 t3 : Addr} (g : mg "WORDS" = some (.ref d)) (k1 : KDct K w d "order" (.ref t1)) (k2 : KDct K w d "further" (.ref t2)) (k3 : KDct K w d "finish" (.ref t3))
    (s1 : ∀ H, SqT K H t1 [.str "inner", .str "outer"]) (s2 : ∀ H, SqT K H t2 [.str "refuse", .str "close"]) (s3 : ∀ H, SqT K H t3 [.str "refuse", .str "close"]) : Words K w mg :=
  ⟨d, g, fun nm h => by
    rcases h with rfl | rfl | rfl
    · exact ⟨t1, k1, s1⟩
    · exact ⟨t2, k2, s2⟩
    · exact ⟨t3, k3, s3⟩⟩
def IAt (K : PySem.W.Frag) (C : Addr) (q : Str) (st : Stmt) : Prop := ∃ fI oc od kV doc pm an cdv ct osl, PySem.W.findIn K (.ref C) "__init__" = some (some (.ref fI)) ∧ PySem.W.typeIn K (.ref fI) = some (.type "function") ∧ K.lookup fI = some ⟨oc, od, .func (PySem.W.fnOf "__init__" q (defArgs st) (defBody st) (defScope st) .none kV doc pm an cdv ct), osl⟩ ∧ PySem.W.codeIn K cdv q = true
structure Facts (K : PySem.W.Frag) (w : World) (mg : Str → Option Value) (CR CE CS CM CT CC c : Addr) : Prop where
  B : BltN mg
  T : Consts mg
  T2 : Consts2 mg
  Wd : Words K w mg
  B0 : Base0 K mg "LineError"
  ER : Errs K mg CE CS CM CT CC
  oS : OexC K CS
  oM : OexC K CM
  oT : OexC K CT
  oC : OexC K CC
  iS : IAt K CS "InvalidSigns.__init__" (clsAt (top 3) 0)
  iM : IAt K CM "InvalidMarks.__init__" (clsAt (top 4) 0)
  iT : IAt K CT "InvalidTail.__init__" (clsAt (top 5) 0)
  iC : IAt K CC "InvalidCare.__init__" (clsAt (top 6) 0)
  CL : ClsR K CR
  IC : C8.InsC K CR
  hne : PySem.W.findIn K (.ref CR) "__ne__" = some (some (.builtin "object.__ne__"))
  gR : mg "Reader" = some (.ref CR)
  iR : InitAt K CR
  p_signs : PropAt K CR "signs" "Reader.signs" (clsAt (top 33) 1)
  p_tail : PropAt K CR "tail" "Reader.tail" (clsAt (top 33) 2)
  p_depth : PropAt K CR "depth" "Reader.depth" (clsAt (top 33) 3)
  p_sight : PropAt K CR "sight" "Reader.sight" (clsAt (top 33) 4)
  p_order : PropAt K CR "order" "Reader.order" (clsAt (top 33) 5)
  p_further : PropAt K CR "further" "Reader.further" (clsAt (top 33) 6)
  p_finish : PropAt K CR "finish" "Reader.finish" (clsAt (top 33) 7)
  mM : MethAt K CR "marks" "Reader.marks" (clsAt (top 33) 8)
  mE : MethAt K CR "__eq__" "Reader.__eq__" (clsAt (top 33) 19)
  aR : AtC K mg "_law_right" (top 46) c
  a_are_signs : At K mg "are_signs" (top 14)
  a_want_signs : At K mg "want_signs" (top 15)
  a_is_line : At K mg "is_line" (top 16)
  a_is_mark_line : At K mg "is_mark_line" (top 24)
  a_is_tail : At K mg "is_tail" (top 25)
  a_is_list : At K mg "is_list" (top 13)
  a_want_marks : At K mg "want_marks" (top 26)
  a_is_word : At K mg "is_word" (top 27)
  a_want_cares : At K mg "want_cares" (top 28)
  a_pot : At K mg "_law_pot" (top 35)
  a_draw : At K mg "_law_draw" (top 36)
  a_pick : At K mg "_law_pick" (top 37)
  a_text : At K mg "_law_text" (top 38)
  a_alph : At K mg "_law_alphabet" (top 39)
  a_oddt : At K mg "_law_odd_text" (top 40)
  a_labs : At K mg "_law_labels" (top 41)
  a_care : At K mg "_law_care" (top 42)
  a_told : At K mg "_law_told" (top 43)
  a_due : At K mg "_law_due" (top 44)
  a_is : At K mg "_law_is" (top 45)
  a_law : At K mg "law" (top 47)
theorem law_def {P : Program} {w : World} {K : PySem.W.Frag} {mg : Str → Option Value} {base : Heap} {CR CE CS CM CT CC c Pt : Addr} (F : Facts K w mg CR CE CS CM CT CC c) (S : SysAt base) (TB : TabB base mg c Pt) : DefG P w K mg base 9 "law" (top 47) ["script"] (spLaw50 K Pt) := by
  have B := F.B.at S
  have scS : FnScope ["self", "value"] ["self", "value"] (defScope (clsAt (top 3) 0)) := ⟨rfl, rfl, rfl, by decide +kernel, rfl, by decide +kernel, by decide +kernel⟩
  have scM : FnScope ["self", "position"] ["self", "position"] (defScope (clsAt (top 4) 0)) := ⟨rfl, rfl, rfl, by decide +kernel, rfl, by decide +kernel, by decide +kernel⟩
  have scT : FnScope ["self", "value"] ["self", "value"] (defScope (clsAt (top 5) 0)) := ⟨rfl, rfl, rfl, by decide +kernel, rfl, by decide +kernel, by decide +kernel⟩
  have scC : FnScope ["self", "name", "value"] ["self", "name", "value"] (defScope (clsAt (top 6) 0)) := ⟨rfl, rfl, rfl, by decide +kernel, rfl, by decide +kernel, by decide +kernel⟩
  obtain ⟨_, _, _, _, _, _, _, _, _, _, s1, s2, s3, s4⟩ := F.iS
  obtain ⟨_, _, _, _, _, _, _, _, _, _, m1, m2, m3, m4⟩ := F.iM
  obtain ⟨_, _, _, _, _, _, _, _, _, _, t1, t2, t3, t4⟩ := F.iT
  obtain ⟨_, _, _, _, _, _, _, _, _, _, c1, c2, c3, c4⟩ := F.iC
  have ES : ErrOk P w K mg base "InvalidSigns" "value" CS := err_mk F.B0 F.ER.gS F.oS F.ER.fS F.ER.nS s1 s2 s3 s4 scS rfl rfl rfl rfl rfl (by decide) (by decide) (by decide) fun _ _ _ _ _ _ us hl => match us, hl with | [_, _], _ => rfl
  have EM : ErrOk P w K mg base "InvalidMarks" "position" CM := err_mk F.B0 F.ER.gM F.oM F.ER.fM F.ER.nM m1 m2 m3 m4 scM rfl rfl rfl rfl rfl (by decide) (by decide) (by decide) fun _ _ _ _ _ _ us hl => match us, hl with | [_, _], _ => rfl
  have ET : ErrOk P w K mg base "InvalidTail" "value" CT := err_mk F.B0 F.ER.gT F.oT F.ER.fT F.ER.nT t1 t2 t3 t4 scT rfl rfl rfl rfl rfl (by decide) (by decide) (by decide) fun _ _ _ _ _ _ us hl => match us, hl with | [_, _], _ => rfl
  have EC : ErrOk2 P w K mg base "InvalidCare" "name" "value" CC := ⟨F.ER.gC, F.oC, F.ER.nC, F.ER.nC2, F.ER.fC, _, _, c1, c2, init2_ok F.B0 c3 c4 scC rfl rfl rfl rfl rfl (by decide) rfl (by decide) (by decide) (by decide) (by decide), Binds.all fun us hl => match us, hl with | [_, _, _], _ => rfl⟩
  have areSigns : Def P w K mg base 1 "are_signs" (top 14) ["value"] (sp1 K areSigns) := d_areSigns B F.a_are_signs F.T
  have isLine : Def P w K mg base 1 "is_line" (top 16) ["signs", "value"] (spLine K) := d_isLine B F.a_is_line
  have isMark := d_isMarkLine B F.a_is_mark_line F.T2 isLine
  have isTail := d_isTail B F.a_is_tail F.T2 isLine
  have isList : Def P w K mg base 1 "is_list" (top 13) ["value"] (sp1 K isSeq) := d_isList B F.a_is_list
  have wantS := d_wantSigns B F.a_want_signs areSigns ES
  have wantM := d_wantMarksB B F.a_want_marks F.T2 isList isMark EM
  have isWord : Def P w K mg base 1 "is_word" (top 27) ["signs", "name", "value"] (spWordB K) := d_isWordB B F.a_is_word F.Wd
  have wantC := d_wantCaresB B F.a_want_cares isWord EC
  obtain ⟨fi, oc, kV, doc, pm, cdv, ct, od, an, osl, mk, lk, hcd, kw, kpf⟩ := F.iR.ex
  obtain ⟨ds, hds, bds⟩ := init_binds (K := K) (f := fi) ⟨⟨oc, od, .none, kV, doc, pm, an, cdv, ct, osl, rfl, lk, hcd, .inl ⟨rfl, rfl⟩, kw⟩, kpf⟩
  have ini := d_initR (P := P) (w := w) B F.CL lk hcd wantS wantM isTail ET wantC
  have RD : RdR P w K mg base CR CS CM CT CC := ⟨⟨fi, _, F.gR, mk, ini, kbn_init⟩, ⟨fi, _, F.gR, mk, ini, kbn_init7⟩, ds, hds, ⟨fi, _, F.gR, mk, ini, bds⟩⟩
  have gS : PropOk P w K mg base 1 CR "signs" (spGet CR fun R => .str R.g) := d_signs B F.CL F.p_signs
  have gT : PropOk P w K mg base 1 CR "tail" (spGet CR fun R => .str R.t) := d_tail B F.CL F.p_tail
  have gD : PropOk P w K mg base 1 CR "depth" (spGet CR fun R => .int (R.ms.length : Nat)) := d_depth B F.CL F.p_depth
  have gSi : PropOk P w K mg base 1 CR "sight" (spGet CR fun R => .str R.si) := d_sight B F.CL F.p_sight
  have gO : PropOk P w K mg base 1 CR "order" (spGet CR fun R => .str R.od) := d_order B F.CL F.p_order
  have gFu : PropOk P w K mg base 1 CR "further" (spGet CR fun R => .str R.fu) := d_further B F.CL F.p_further
  have gFi : PropOk P w K mg base 1 CR "finish" (spGet CR fun R => .str R.fi) := d_finish B F.CL F.p_finish
  have gM : MethOk P w K mg base 1 CR "marks" ["self"] (spMarksOf CR) := d_marksOf B F.CL F.mM
  have eq := d_eq (P := P) (w := w) B F.CL F.IC F.gR F.mE
  have is := d_is B F.CL F.a_is gS gM gT gD gSi gO gFu gFi
  have pot : Def P w K mg base 1 "_law_pot" (top 35) ["script", "k"] (spPotMk K) := d_pot B F.a_pot
  have draw : Def P w K mg base 1 "_law_draw" (top 36) ["pot", "top"] spDraw := d_draw B F.a_draw
  have pick := d_pick B F.a_pick draw
  have txt := d_txt B F.a_text draw pick
  have alph := d_alph B F.a_alph draw pick
  have oddt := d_oddT B F.a_oddt pick
  have labs := d_labs B F.a_labs draw pick txt oddt
  have care := d_care B F.a_care draw pick
  have due : Def P w K mg base 1 "_law_due" (top 44) ["alphabet", "labels", "ending", "cares"] spDueR := d_dueR B F.a_due
  have right := d_right B F.CL F.aR F.a_told F.ER TB RD eq F.hne F.IC.hm is draw alph labs txt oddt care due
  exact d_law50 B F.a_law pot right
/-- the law's promise at the head's heap -/
theorem law_at {l : PySem.W.OpenLaw} {w : World} {K : PySem.W.Frag} {mg : Str → Option Value} {h : Heap} {fa CR CE CS CM CT CC c Pt : Addr} (F : Facts K w mg CR CE CS CM CT CC c) (hfa : mg "law" = some (.ref fa)) (hT : h.get? Pt = some { cls := .none, data := .fields #[] }) (nT : K.lookup Pt = none) (hC : PySem.W.CodeHd h c Pt) :
    LawG l w K 9 63 "script" mg fa h := by
  refine ⟨[(c, Pt)], spLaw50 K Pt, fun p hp => ?_, fun p hp => ?_, fun p hp => ?_, fun H a ns hn hb hT hS => ?_, fun base KB G S hTB => ?_⟩
  · rw [List.mem_singleton.mp hp]; exact hT
  · rw [List.mem_singleton.mp hp]; exact nT
  · rw [List.mem_singleton.mp hp]; exact hC
  · refine ⟨a, ns, rfl, hS, hn, fun p hp => ?_, fun _ => rfl⟩
    rw [List.mem_singleton.mp hp]
    exact TabS.nil (hT (c, Pt) (by simp))
  · obtain ⟨f2, kV2, doc2, pm2, an2, cdv2, ct2, hm2, kp2, G2⟩ := (law_def (P := l.prog) (w := w) F S (hTB (c, Pt) (by simp))).ex
    have e2 := hfa.symm.trans hm2
    cases e2
    exact ⟨_, fun s u => .of_eq rfl, G2⟩
end K50

set_option Elab.async false
set_option linter.all false
open PySem PySem.W PyProof.Rows
set_option maxRecDepth 100000 in
set_option maxHeartbeats 0 in
theorem PySem.Challenge.cw_frontlines_k50_readers_refused_holds : PySem.Challenge.rw_frontlines_k50_readers_refused.Holds := by
  w_on; o_law
  refine HH.top (by assumption) (by rfl) (by rfl) (by rfl) ?hw ?hc
  (case hw => w_witness2)
  k_fill
  refine Z.walk_G (n := 63) (k := 9) (x := "script") rfl (by decide) rfl ⟨rfl, by decide, by decide⟩ (fun w h Y => PySem.W.km_in_of Y) (by first | rfl | kernel_rfl) ?F
  intro w mg fa h Y KX G hmg
  have tabs := PySem.W.km_tabs_of Y

  have B : Z.BltN mg := by
    refine' Z.bltn_mk KX G ?a1 ?a2 ?a3 ?a4 ?a5 ?a6 ?a7 ?a8 ?a9 ?a10 ?a11 ?a12 ?a13 ?a14 ?a15 ?a16 ?a17 ?a18 ?a19 ?a20 ?a21 ?a22 <;> k_is
  have T : K50.Consts mg := by
    refine' ⟨Z.const_mk KX G ?tc1 ?tr1, Z.const_mk KX G ?tc2 ?tr2, Z.const_mk KX G ?tc3 ?tr3⟩
    (case tc1 => k_is); (case tc2 => k_is); (case tc3 => k_is)
    all_goals exact ⟨_, rfl⟩
  have T2 : K50.Consts2 mg := by
    refine' ⟨Z.const_mk KX G ?uc1 ?ur1, Z.const_mk KX G ?uc2 ?ur2, Z.const_mk KX G ?uc3 ?ur3⟩
    (case uc1 => k_is); (case uc2 => k_is); (case uc3 => k_is)
    all_goals exact ⟨_, rfl⟩

  refine' K50.law_at (Pt := 465) ⟨B, T, T2, K50.words_mk (W.mg_of KX G ?wg1) (Z.kdct_mk ?wl1 ?wk1 ?wn1 rfl) (Z.kdct_mk ?wl2 ?wk2 ?wn2 rfl) (Z.kdct_mk ?wl3 ?wk3 ?wn3 rfl) (Z.sqt_mk ?wl4 ?wv4 ?wz4) (Z.sqt_mk ?wl5 ?wv5 ?wz5) (Z.sqt_mk ?wl6 ?wv6 ?wz6), Z.base_mk KX G ?ba1 ?ba2 ?ba3 ?ba4,
      { gE := W.mg_of KX G ?gE_1,
        gS := W.mg_of KX G ?gS_1,
        gM := W.mg_of KX G ?gM_1,
        gT := W.mg_of KX G ?gT_1,
        gC := W.mg_of KX G ?gC_1,
        SS := W.exm_ref ?eSS_1 ?eSS_2 ?eSS_3 ?eSS_4,
        MS := W.exm_ref ?eMS_1 ?eMS_2 ?eMS_3 ?eMS_4,
        MM := W.exm_ref ?eMM_1 ?eMM_2 ?eMM_3 ?eMM_4,
        TS := W.exm_ref ?eTS_1 ?eTS_2 ?eTS_3 ?eTS_4,
        TM := W.exm_ref ?eTM_1 ?eTM_2 ?eTM_3 ?eTM_4,
        TT := W.exm_ref ?eTT_1 ?eTT_2 ?eTT_3 ?eTT_4,
        DS := W.exm_ref ?eDS_1 ?eDS_2 ?eDS_3 ?eDS_4,
        DM := W.exm_ref ?eDM_1 ?eDM_2 ?eDM_3 ?eDM_4,
        DT := W.exm_ref ?eDT_1 ?eDT_2 ?eDT_3 ?eDT_4,
        DD := W.exm_ref ?eDD_1 ?eDD_2 ?eDD_3 ?eDD_4,
        kS := Z.kit_ref ?kS_1 ?kS_2 ?kS_3,
        vS := Z.kit_type ?vS_1 (by decide +kernel),
        xS := ⟨?xS_1, ?xS_2, ?xS_3, ?xS_4, ?xS_5, ?xS_6, ?xS_7, ?xS_8⟩,
        fS := ⟨?fS_1, ?fS_2, ?fS_3, ?fS_4⟩,
        nS := ?nS_1,
        kM := Z.kit_ref ?kM_1 ?kM_2 ?kM_3,
        vM := Z.kit_type ?vM_1 (by decide +kernel),
        xM := ⟨?xM_1, ?xM_2, ?xM_3, ?xM_4, ?xM_5, ?xM_6, ?xM_7, ?xM_8⟩,
        fM := ⟨?fM_1, ?fM_2, ?fM_3, ?fM_4⟩,
        nM := ?nM_1,
        kT := Z.kit_ref ?kT_1 ?kT_2 ?kT_3,
        vT := Z.kit_type ?vT_1 (by decide +kernel),
        xT := ⟨?xT_1, ?xT_2, ?xT_3, ?xT_4, ?xT_5, ?xT_6, ?xT_7, ?xT_8⟩,
        fT := ⟨?fT_1, ?fT_2, ?fT_3, ?fT_4⟩,
        nT := ?nT_1,
        kC := Z.kit_ref ?kC_1 ?kC_2 ?kC_3,
        vC := Z.kit_type ?vC_1 (by decide +kernel),
        xC := ⟨?xC_1, ?xC_2, ?xC_3, ?xC_4, ?xC_5, ?xC_6, ?xC_7, ?xC_8⟩,
        fC := ⟨?fC_1, ?fC_2, ?fC_3, ?fC_4⟩,
        nC := ?nC_1,
        nC2 := ?nC2_1 },
      Z.oex_mk ?oS_1 (?oS_2) ?oS_3 ?oS_4 ?oS_5 ?oS_6,
      Z.oex_mk ?oM_1 (?oM_2) ?oM_3 ?oM_4 ?oM_5 ?oM_6,
      Z.oex_mk ?oT_1 (?oT_2) ?oT_3 ?oT_4 ?oT_5 ?oT_6,
      Z.oex_mk ?oC_1 (?oC_2) ?oC_3 ?oC_4 ?oC_5 ?oC_6,
      Z.init_mk ?iS_1 ?iS_2 ?iS_3 ?iS_4,
      Z.init_mk ?iM_1 ?iM_2 ?iM_3 ?iM_4,
      Z.init_mk ?iT_1 ?iT_2 ?iT_3 ?iT_4,
      Z.init_mk ?iC_1 ?iC_2 ?iC_3 ?iC_4,
      ⟨⟨?cl1, ?cl2, ?cl3, ?cl4⟩, ?na1, ?na2, ?na3, ?na4⟩, ⟨⟨?ic1, ?ic2, ?ic3, ?ic4⟩, ?ih1, ?ih2, ?ih3, ?ih4, Z.kit_ref ?ik1 ?ik2 ?ik3⟩, ?hne1, W.mg_of KX G ?gR, K50.initAt_mk ?in1 ?in2 ?in3 ?in4 ?in5 ?in6 ?in7 ?in8 ?in9 ?in10 ?in11 ?icc1 ?icc2 ?icc3 ?icc4,
      K50.prop_mk ?pa1 ?pa2 ?pa3 ?pa4 ?pa5 ?pa6,
      K50.prop_mk ?pb1 ?pb2 ?pb3 ?pb4 ?pb5 ?pb6,
      K50.prop_mk ?pc1 ?pc2 ?pc3 ?pc4 ?pc5 ?pc6,
      K50.prop_mk ?pd1 ?pd2 ?pd3 ?pd4 ?pd5 ?pd6,
      K50.prop_mk ?pe1 ?pe2 ?pe3 ?pe4 ?pe5 ?pe6,
      K50.prop_mk ?pf1 ?pf2 ?pf3 ?pf4 ?pf5 ?pf6,
      K50.prop_mk ?pg1 ?pg2 ?pg3 ?pg4 ?pg5 ?pg6,
      K50.meth_mk ?mf1 ?mf2 ?mf3 ?mf4 ?mf5, K50.meth_mk ?me1 ?me2 ?me3 ?me4 ?me5, Z.atc_mk KX G ?am1 ?am2 ?am3 ?am4,
      Z.at_mk KX G ?d_are_signs_1 ?d_are_signs_2 ?d_are_signs_3 ?d_are_signs_4,
      Z.at_mk KX G ?d_want_signs_1 ?d_want_signs_2 ?d_want_signs_3 ?d_want_signs_4,
      Z.at_mk KX G ?d_is_line_1 ?d_is_line_2 ?d_is_line_3 ?d_is_line_4,
      Z.at_mk KX G ?d_is_mark_line_1 ?d_is_mark_line_2 ?d_is_mark_line_3 ?d_is_mark_line_4,
      Z.at_mk KX G ?d_is_tail_1 ?d_is_tail_2 ?d_is_tail_3 ?d_is_tail_4,
      Z.at_mk KX G ?d_is_list_1 ?d_is_list_2 ?d_is_list_3 ?d_is_list_4,
      Z.at_mk KX G ?d_want_marks_1 ?d_want_marks_2 ?d_want_marks_3 ?d_want_marks_4,
      Z.at_mk KX G ?d_is_word_1 ?d_is_word_2 ?d_is_word_3 ?d_is_word_4,
      Z.at_mk KX G ?d_want_cares_1 ?d_want_cares_2 ?d_want_cares_3 ?d_want_cares_4,
      Z.at_mk KX G ?d_law_pot_1 ?d_law_pot_2 ?d_law_pot_3 ?d_law_pot_4,
      Z.at_mk KX G ?d_law_draw_1 ?d_law_draw_2 ?d_law_draw_3 ?d_law_draw_4,
      Z.at_mk KX G ?d_law_pick_1 ?d_law_pick_2 ?d_law_pick_3 ?d_law_pick_4,
      Z.at_mk KX G ?d_law_text_1 ?d_law_text_2 ?d_law_text_3 ?d_law_text_4,
      Z.at_mk KX G ?d_law_alphabet_1 ?d_law_alphabet_2 ?d_law_alphabet_3 ?d_law_alphabet_4,
      Z.at_mk KX G ?d_law_odd_text_1 ?d_law_odd_text_2 ?d_law_odd_text_3 ?d_law_odd_text_4,
      Z.at_mk KX G ?d_law_labels_1 ?d_law_labels_2 ?d_law_labels_3 ?d_law_labels_4,
      Z.at_mk KX G ?d_law_care_1 ?d_law_care_2 ?d_law_care_3 ?d_law_care_4,
      Z.at_mk KX G ?d_law_told_1 ?d_law_told_2 ?d_law_told_3 ?d_law_told_4,
      Z.at_mk KX G ?d_law_due_1 ?d_law_due_2 ?d_law_due_3 ?d_law_due_4,
      Z.at_mk KX G ?d_law_is_1 ?d_law_is_2 ?d_law_is_3 ?d_law_is_4,
      Z.at_mk KX G ?d_law_1 ?d_law_2 ?d_law_3 ?d_law_4⟩ hmg (tabs 465 (by simp)) ?nT (W.codeHd_of_K KX ?hC)
  (case gR => k_is)
  (case wg1 => k_is)
  (case wl1 => k_is)
  (case wl2 => k_is)
  (case wl3 => k_is)
  (case wn1 => k_is)
  (case wn2 => k_is)
  (case wn3 => k_is)
  (case wl4 => k_is)
  (case wl5 => k_is)
  (case wl6 => k_is)
  (case wk1 => exact ⟨⟨_, _, rfl, rfl⟩, ⟨_, _, rfl, rfl⟩, ⟨_, _, rfl, rfl⟩, trivial⟩)
  (case wk2 => exact ⟨⟨_, _, rfl, rfl⟩, ⟨_, _, rfl, rfl⟩, ⟨_, _, rfl, rfl⟩, trivial⟩)
  (case wk3 => exact ⟨⟨_, _, rfl, rfl⟩, ⟨_, _, rfl, rfl⟩, ⟨_, _, rfl, rfl⟩, trivial⟩)
  (case wv4 => exact .cons ⟨_, rfl⟩ (.cons ⟨_, rfl⟩ .nil))
  (case wv5 => exact .cons ⟨_, rfl⟩ (.cons ⟨_, rfl⟩ .nil))
  (case wv6 => exact .cons ⟨_, rfl⟩ (.cons ⟨_, rfl⟩ .nil))
  (case wz4 => decide)
  (case wz5 => decide)
  (case wz6 => decide)
  (case ba1 => k_is)
  (case ba2 => k_is)
  (case ba3 => k_is)
  (case ba4 => k_is)
  (case gE_1 => k_is)
  (case gS_1 => k_is)
  (case gM_1 => k_is)
  (case gT_1 => k_is)
  (case gC_1 => k_is)
  (case eSS_1 => k_is)
  (case eSS_2 => k_is)
  (case eSS_3 => k_is)
  (case eSS_4 => k_is)
  (case eMS_1 => k_is)
  (case eMS_2 => k_is)
  (case eMS_3 => k_is)
  (case eMS_4 => k_is)
  (case eMM_1 => k_is)
  (case eMM_2 => k_is)
  (case eMM_3 => k_is)
  (case eMM_4 => k_is)
  (case eTS_1 => k_is)
  (case eTS_2 => k_is)
  (case eTS_3 => k_is)
  (case eTS_4 => k_is)
  (case eTM_1 => k_is)
  (case eTM_2 => k_is)
  (case eTM_3 => k_is)
  (case eTM_4 => k_is)
  (case eTT_1 => k_is)
  (case eTT_2 => k_is)
  (case eTT_3 => k_is)
  (case eTT_4 => k_is)
  (case eDS_1 => k_is)
  (case eDS_2 => k_is)
  (case eDS_3 => k_is)
  (case eDS_4 => k_is)
  (case eDM_1 => k_is)
  (case eDM_2 => k_is)
  (case eDM_3 => k_is)
  (case eDM_4 => k_is)
  (case eDT_1 => k_is)
  (case eDT_2 => k_is)
  (case eDT_3 => k_is)
  (case eDT_4 => k_is)
  (case eDD_1 => k_is)
  (case eDD_2 => k_is)
  (case eDD_3 => k_is)
  (case eDD_4 => k_is)
  (case kS_1 => k_is)
  (case kS_2 => k_is)
  (case kS_3 => k_is)
  (case vS_1 => k_is)
  (case xS_1 => k_is)
  (case xS_2 => k_is)
  (case xS_3 => k_is)
  (case xS_4 => k_is)
  (case xS_5 => k_is)
  (case xS_6 => k_is)
  (case xS_7 => k_is)
  (case xS_8 => k_is)
  (case fS_1 => k_is)
  (case fS_2 => k_is)
  (case fS_3 => k_is)
  (case fS_4 => k_is)
  (case nS_1 => k_is)
  (case kM_1 => k_is)
  (case kM_2 => k_is)
  (case kM_3 => k_is)
  (case vM_1 => k_is)
  (case xM_1 => k_is)
  (case xM_2 => k_is)
  (case xM_3 => k_is)
  (case xM_4 => k_is)
  (case xM_5 => k_is)
  (case xM_6 => k_is)
  (case xM_7 => k_is)
  (case xM_8 => k_is)
  (case fM_1 => k_is)
  (case fM_2 => k_is)
  (case fM_3 => k_is)
  (case fM_4 => k_is)
  (case nM_1 => k_is)
  (case kT_1 => k_is)
  (case kT_2 => k_is)
  (case kT_3 => k_is)
  (case vT_1 => k_is)
  (case xT_1 => k_is)
  (case xT_2 => k_is)
  (case xT_3 => k_is)
  (case xT_4 => k_is)
  (case xT_5 => k_is)
  (case xT_6 => k_is)
  (case xT_7 => k_is)
  (case xT_8 => k_is)
  (case fT_1 => k_is)
  (case fT_2 => k_is)
  (case fT_3 => k_is)
  (case fT_4 => k_is)
  (case nT_1 => k_is)
  (case kC_1 => k_is)
  (case kC_2 => k_is)
  (case kC_3 => k_is)
  (case vC_1 => k_is)
  (case xC_1 => k_is)
  (case xC_2 => k_is)
  (case xC_3 => k_is)
  (case xC_4 => k_is)
  (case xC_5 => k_is)
  (case xC_6 => k_is)
  (case xC_7 => k_is)
  (case xC_8 => k_is)
  (case fC_1 => k_is)
  (case fC_2 => k_is)
  (case fC_3 => k_is)
  (case fC_4 => k_is)
  (case nC_1 => k_is)
  (case nC2_1 => k_is)
  (case oS_1 => k_is)
  (case oS_3 => k_is)
  (case oS_4 => k_is)
  (case oS_5 => k_is)
  (case oS_6 => k_is)
  (case oM_1 => k_is)
  (case oM_3 => k_is)
  (case oM_4 => k_is)
  (case oM_5 => k_is)
  (case oM_6 => k_is)
  (case oT_1 => k_is)
  (case oT_3 => k_is)
  (case oT_4 => k_is)
  (case oT_5 => k_is)
  (case oT_6 => k_is)
  (case oC_1 => k_is)
  (case oC_3 => k_is)
  (case oC_4 => k_is)
  (case oC_5 => k_is)
  (case oC_6 => k_is)
  (case iS_1 => k_is)
  (case iS_2 => k_is)
  (case iS_3 => k_is)
  (case iS_4 => k_is)
  (case iM_1 => k_is)
  (case iM_2 => k_is)
  (case iM_3 => k_is)
  (case iM_4 => k_is)
  (case iT_1 => k_is)
  (case iT_2 => k_is)
  (case iT_3 => k_is)
  (case iT_4 => k_is)
  (case iC_1 => k_is)
  (case iC_2 => k_is)
  (case iC_3 => k_is)
  (case iC_4 => k_is)
  (case cl1 => k_is)
  (case cl2 => k_is)
  (case cl3 => k_is)
  (case cl4 => k_is)
  (case na1 => unfold L2.NoAttr; k_is)
  (case na2 => unfold L2.NoAttr; k_is)
  (case na3 => unfold L2.NoAttr; k_is)
  (case na4 => unfold L2.NoAttr; k_is)
  (case ic1 => k_is)
  (case ic2 => k_is)
  (case ic3 => k_is)
  (case ic4 => k_is)
  (case ih1 => k_is)
  (case ih2 => k_is)
  (case ih3 => k_is)
  (case ih4 => k_is)
  (case ik1 => k_is)
  (case ik2 => k_is)
  (case ik3 => k_is)
  (case hne1 => k_is)
  (case in1 => k_is)
  (case in2 => k_is)
  (case in3 => k_is)
  (case in4 => k_is)
  (case in5 => k_is)
  (case in6 => k_is)
  (case in7 => k_is)
  (case in8 => k_is)
  (case in9 => k_is)
  (case in10 => k_is)
  (case in11 => k_is)
  (case pa1 => k_is)
  (case pa2 => k_is)
  (case pa3 => k_is)
  (case pa4 => k_is)
  (case pa5 => k_is)
  (case pa6 => k_is)
  (case pb1 => k_is)
  (case pb2 => k_is)
  (case pb3 => k_is)
  (case pb4 => k_is)
  (case pb5 => k_is)
  (case pb6 => k_is)
  (case pc1 => k_is)
  (case pc2 => k_is)
  (case pc3 => k_is)
  (case pc4 => k_is)
  (case pc5 => k_is)
  (case pc6 => k_is)
  (case pd1 => k_is)
  (case pd2 => k_is)
  (case pd3 => k_is)
  (case pd4 => k_is)
  (case pd5 => k_is)
  (case pd6 => k_is)
  (case pe1 => k_is)
  (case pe2 => k_is)
  (case pe3 => k_is)
  (case pe4 => k_is)
  (case pe5 => k_is)
  (case pe6 => k_is)
  (case pf1 => k_is)
  (case pf2 => k_is)
  (case pf3 => k_is)
  (case pf4 => k_is)
  (case pf5 => k_is)
  (case pf6 => k_is)
  (case pg1 => k_is)
  (case pg2 => k_is)
  (case pg3 => k_is)
  (case pg4 => k_is)
  (case pg5 => k_is)
  (case pg6 => k_is)
  (case mf1 => k_is)
  (case mf2 => k_is)
  (case mf3 => k_is)
  (case mf4 => k_is)
  (case mf5 => k_is)
  (case me1 => k_is)
  (case me2 => k_is)
  (case me3 => k_is)
  (case me4 => k_is)
  (case me5 => k_is)
  (case am1 => k_is)
  (case am2 => k_is)
  (case am3 => k_is)
  (case am4 => k_is)
  (case d_are_signs_1 => k_is)
  (case d_are_signs_2 => k_is)
  (case d_are_signs_3 => k_is)
  (case d_are_signs_4 => k_is)
  (case d_want_signs_1 => k_is)
  (case d_want_signs_2 => k_is)
  (case d_want_signs_3 => k_is)
  (case d_want_signs_4 => k_is)
  (case d_is_line_1 => k_is)
  (case d_is_line_2 => k_is)
  (case d_is_line_3 => k_is)
  (case d_is_line_4 => k_is)
  (case d_is_mark_line_1 => k_is)
  (case d_is_mark_line_2 => k_is)
  (case d_is_mark_line_3 => k_is)
  (case d_is_mark_line_4 => k_is)
  (case d_is_tail_1 => k_is)
  (case d_is_tail_2 => k_is)
  (case d_is_tail_3 => k_is)
  (case d_is_tail_4 => k_is)
  (case d_is_list_1 => k_is)
  (case d_is_list_2 => k_is)
  (case d_is_list_3 => k_is)
  (case d_is_list_4 => k_is)
  (case d_want_marks_1 => k_is)
  (case d_want_marks_2 => k_is)
  (case d_want_marks_3 => k_is)
  (case d_want_marks_4 => k_is)
  (case d_is_word_1 => k_is)
  (case d_is_word_2 => k_is)
  (case d_is_word_3 => k_is)
  (case d_is_word_4 => k_is)
  (case d_want_cares_1 => k_is)
  (case d_want_cares_2 => k_is)
  (case d_want_cares_3 => k_is)
  (case d_want_cares_4 => k_is)
  (case d_law_pot_1 => k_is)
  (case d_law_pot_2 => k_is)
  (case d_law_pot_3 => k_is)
  (case d_law_pot_4 => k_is)
  (case d_law_draw_1 => k_is)
  (case d_law_draw_2 => k_is)
  (case d_law_draw_3 => k_is)
  (case d_law_draw_4 => k_is)
  (case d_law_pick_1 => k_is)
  (case d_law_pick_2 => k_is)
  (case d_law_pick_3 => k_is)
  (case d_law_pick_4 => k_is)
  (case d_law_text_1 => k_is)
  (case d_law_text_2 => k_is)
  (case d_law_text_3 => k_is)
  (case d_law_text_4 => k_is)
  (case d_law_alphabet_1 => k_is)
  (case d_law_alphabet_2 => k_is)
  (case d_law_alphabet_3 => k_is)
  (case d_law_alphabet_4 => k_is)
  (case d_law_odd_text_1 => k_is)
  (case d_law_odd_text_2 => k_is)
  (case d_law_odd_text_3 => k_is)
  (case d_law_odd_text_4 => k_is)
  (case d_law_labels_1 => k_is)
  (case d_law_labels_2 => k_is)
  (case d_law_labels_3 => k_is)
  (case d_law_labels_4 => k_is)
  (case d_law_care_1 => k_is)
  (case d_law_care_2 => k_is)
  (case d_law_care_3 => k_is)
  (case d_law_care_4 => k_is)
  (case d_law_told_1 => k_is)
  (case d_law_told_2 => k_is)
  (case d_law_told_3 => k_is)
  (case d_law_told_4 => k_is)
  (case d_law_due_1 => k_is)
  (case d_law_due_2 => k_is)
  (case d_law_due_3 => k_is)
  (case d_law_due_4 => k_is)
  (case d_law_is_1 => k_is)
  (case d_law_is_2 => k_is)
  (case d_law_is_3 => k_is)
  (case d_law_is_4 => k_is)
  (case d_law_1 => k_is)
  (case d_law_2 => k_is)
  (case d_law_3 => k_is)
  (case d_law_4 => k_is)
  (case oS_2 => decide +kernel)
  (case oM_2 => decide +kernel)
  (case oT_2 => decide +kernel)
  (case oC_2 => decide +kernel)
  (case icc1 => exact ⟨_, rfl⟩)
  (case icc2 => exact ⟨_, rfl⟩)
  (case icc3 => exact ⟨_, rfl⟩)
  (case icc4 => exact ⟨_, rfl⟩)
  (case hC => first | rfl | kernel_rfl)
  (case nT => first | rfl | kernel_rfl)
#print axioms PySem.Challenge.cw_frontlines_k50_readers_refused_holds

