import PyProof.Rows.All
import Wide.All
import OpenK.AllK
import Wide.FinOn
import KE.OsRunLaw
import PySem.Challenge.RW_frontlines_k14_least_lines
import HandS.ForMost
import HandS.ForExc
import HandS.TryMany
import HandS.ExcInit
import HandS.ExcField
import HandS.IsInst
import HandS.Lambda
import HandS.Nested
import HandS.EndTab
import HandS.Walk
import HandS.Zip
import HandS.ExcIs
import KE.KExcIs
import HandS.HeadWalk
import PyProof.Draws
import HandS.Text
import HandS.Dict
import HandS.MakeKwOnly
import HandS.Property
import HandS.Small
import HandS.OwnEq
import HandS.More
import HandS.NoneIn
import HandS.Codes
import HandS.Style
import KE.GoesEnum
import HandS.Conv
import HandS.ListItems
import HandS.StrMore
import PyProof.Rows.StrMul
import PyProof.Rows.Range3
import PyProof.Rows.StrJoinRep
import HandS.TryOnly
import PyProof.NeData
import PyProof.DictUpdate
import PyProof.DictDisplay
import HandS.FStr
import PyProof.ListStr
import PyProof.SliceStr2
import PyProof.ReprRoads
import KE.KRevSl
import HandS.Star
import KE.KCallOwn
import PyProof.EqKinds
import HandS.DictComp
import HandS.SetKeys
import HandS.SetBool
import HandS.TupLen
import PyProof.DictMoreH
import HandS.TupAny
import HandS.Defaults
import HandS.Replace
import PyProof.StrLawsIn
import HandS.MakeKw
import OpenK.KMeth
import HandS.ClsMeth
import KE.KDictZip
import HandS.DictTup
import KE.KDictDisplayH
import HandS.Deep
set_option Elab.async false
set_option linter.all false
set_option maxRecDepth 100000
/-! the head by the kernel's own run, once for each answer of the world's one row -/
namespace ZH
open PySem PySem.W PySem.Calls PyProof.Rows HeadRun
theorem left_by {p q : Program} {loose : List PySem.Str} {Xt : Shared → Bool} {H : Hook} {ob : SharedT → H.α} {N M : Nat} (row : String) (ho : ∀ s : SharedT, ob s = H.obs s.abs)
    (e : opening p = plainProg p.main.scope.names) (hN : Nat.ble 600 N = true) (f : ∀ s, fenceModules? p s = some s) (le : Nat.ble M N = true)
    (run : ∀ (b : Bool) (w : World) (os : OsState), (endF (stepQ (denQ tabQ) p (w.withFollow row b)) M p (w.withFollow row b) os).map (fun s => (looksF p (boot_heap (w.withFollow row b).params) s.abs, seenQ q loose (importedModules p.main.body) Xt s.abs, ob s)) = some (true, openGood q loose, H.val (w.withFollow row b))) :
    LeftO p q loose Xt H.obs H.val N true :=
  left_one (M := M) e hN f le fun w os => by
    have z := run (w.params.followText row) w os
    rw [World.withFollow_self] at z
    have eo : ob = fun s => H.obs s.abs := funext ho
    rw [eo] at z
    simp only [endQ_eq, seenQ_eq]
    exact z
theorem obs_k {K : Params → Frag} {as : List Addr} {ek : ∀ P, as = (K P).map (·.1)} (s : SharedT) : (as.map (getT s) : List (Option Obj)) = Hook.obs (kHook K as ek) s.abs :=
  List.map_congr_left fun a _ => getT_eq s a
theorem obs_km {K : Params → Frag} {as ts : List Addr} {ek : ∀ P, as = (K P).map (·.1)} (s : SharedT) : ((as.map (getT s), ts.map (getT s)) : List (Option Obj) × List (Option Obj)) = Hook.obs (kmHook K as ek ts) s.abs :=
  Prod.ext (List.map_congr_left fun a _ => getT_eq s a) (List.map_congr_left fun a _ => getT_eq s a)
theorem left_k {p q : Program} {loose : List PySem.Str} {Xt : Shared → Bool} {K : Params → Frag} {as : List Addr} {ek : ∀ P, as = (K P).map (·.1)} {N M : Nat} (row : String)
    (e : opening p = plainProg p.main.scope.names) (hN : Nat.ble 600 N = true) (f : ∀ s, fenceModules? p s = some s) (le : Nat.ble M N = true)
    (run : ∀ (b : Bool) (w : World) (os : OsState), (endF (stepQ (denQ tabQ) p (w.withFollow row b)) M p (w.withFollow row b) os).map (fun s => (looksF p (boot_heap (w.withFollow row b).params) s.abs, seenQ q loose (importedModules p.main.body) Xt s.abs, as.map (getT s))) = some (true, openGood q loose, (K (w.withFollow row b).params).map fun x => some x.2)) :
    LeftO p q loose Xt (Hook.obs (kHook K as ek)) (Hook.val (kHook K as ek)) N true :=
  left_by (H := kHook K as ek) (ob := fun s => as.map (getT s)) row obs_k e hN f le run
theorem left_km {p q : Program} {loose : List PySem.Str} {Xt : Shared → Bool} {K : Params → Frag} {as ts : List Addr} {ek : ∀ P, as = (K P).map (·.1)} {N M : Nat} (row : String)
    (e : opening p = plainProg p.main.scope.names) (hN : Nat.ble 600 N = true) (f : ∀ s, fenceModules? p s = some s) (le : Nat.ble M N = true)
    (run : ∀ (b : Bool) (w : World) (os : OsState), (endF (stepQ (denQ tabQ) p (w.withFollow row b)) M p (w.withFollow row b) os).map (fun s => (looksF p (boot_heap (w.withFollow row b).params) s.abs, seenQ q loose (importedModules p.main.body) Xt s.abs, (as.map (getT s), ts.map (getT s)))) = some (true, openGood q loose, ((K (w.withFollow row b).params).map fun x => some x.2, ts.map fun _ => some (tabObj #[])))) :
    LeftO p q loose Xt (Hook.obs (kmHook K as ek ts)) (Hook.val (kmHook K as ek ts)) N true :=
  left_by (H := kmHook K as ek ts) (ob := fun s => (as.map (getT s), ts.map (getT s))) row obs_km e hN f le run
theorem left_km2 {p q : Program} {loose : List PySem.Str} {Xt : Shared → Bool} {K : Params → Frag} {as ts : List Addr} {ek : ∀ P, as = (K P).map (·.1)} {N M : Nat} (row : String)
    (e : opening p = plainProg p.main.scope.names) (hN : Nat.ble 600 N = true) (f : ∀ s, fenceModules? p s = some s) (le : Nat.ble M N = true)
    (run0 : ∀ (w : World) (os : OsState), (endF (stepQ (denQ tabQ) p (w.withFollow row false)) M p (w.withFollow row false) os).map (fun s => (looksF p (boot_heap (w.withFollow row false).params) s.abs, seenQ q loose (importedModules p.main.body) Xt s.abs, (as.map (getT s), ts.map (getT s)))) = some (true, openGood q loose, ((K (w.withFollow row false).params).map fun x => some x.2, ts.map fun _ => some (tabObj #[]))))
    (run1 : ∀ (w : World) (os : OsState), (endF (stepQ (denQ tabQ) p (w.withFollow row true)) M p (w.withFollow row true) os).map (fun s => (looksF p (boot_heap (w.withFollow row true).params) s.abs, seenQ q loose (importedModules p.main.body) Xt s.abs, (as.map (getT s), ts.map (getT s)))) = some (true, openGood q loose, ((K (w.withFollow row true).params).map fun x => some x.2, ts.map fun _ => some (tabObj #[])))) :
    LeftO p q loose Xt (Hook.obs (kmHook K as ek ts)) (Hook.val (kmHook K as ek ts)) N true :=
  left_km row e hN f le fun b => by cases b <;> assumption
theorem left_k2 {p q : Program} {loose : List PySem.Str} {Xt : Shared → Bool} {K : Params → Frag} {as : List Addr} {ek : ∀ P, as = (K P).map (·.1)} {N M : Nat} (row : String)
    (e : opening p = plainProg p.main.scope.names) (hN : Nat.ble 600 N = true) (f : ∀ s, fenceModules? p s = some s) (le : Nat.ble M N = true)
    (run0 : ∀ (w : World) (os : OsState), (endF (stepQ (denQ tabQ) p (w.withFollow row false)) M p (w.withFollow row false) os).map (fun s => (looksF p (boot_heap (w.withFollow row false).params) s.abs, seenQ q loose (importedModules p.main.body) Xt s.abs, as.map (getT s))) = some (true, openGood q loose, (K (w.withFollow row false).params).map fun x => some x.2))
    (run1 : ∀ (w : World) (os : OsState), (endF (stepQ (denQ tabQ) p (w.withFollow row true)) M p (w.withFollow row true) os).map (fun s => (looksF p (boot_heap (w.withFollow row true).params) s.abs, seenQ q loose (importedModules p.main.body) Xt s.abs, as.map (getT s))) = some (true, openGood q loose, (K (w.withFollow row true).params).map fun x => some x.2)) :
    LeftO p q loose Xt (Hook.obs (kHook K as ek)) (Hook.val (kHook K as ek)) N true :=
  left_k row e hN f le fun b => by cases b <;> assumption
end ZH

set_option Elab.async false
set_option linter.all false
set_option maxRecDepth 100000
set_option maxHeartbeats 0
noncomputable section
namespace HH
open PySem PySem.W PySem.Calls PyProof.Rows HeadRun
/-- the view: the law alone -/
def vw : Program := { PySem.Challenge.pw_frontlines_k14_least_lines with main := { (PySem.Challenge.pw_frontlines_k14_least_lines).main with body := (PySem.Challenge.pw_frontlines_k14_least_lines).main.body.drop 65 } }
def lse : List PySem.Str := [PySem.Str.ofString "_wall", PySem.Str.ofString "__name__", PySem.Str.ofString "LineError", PySem.Str.ofString "InvalidSigns", PySem.Str.ofString "InvalidRows", PySem.Str.ofString "InvalidEnds", PySem.Str.ofString "InvalidCount", PySem.Str.ofString "StateError", PySem.Str.ofString "OtherSigns", PySem.Str.ofString "LimitError", PySem.Str.ofString "TooMany", PySem.Str.ofString "KNOWN_SIGNS", PySem.Str.ofString "LEAST_SIGNS", PySem.Str.ofString "MOST_SIGNS", PySem.Str.ofString "is_integer", PySem.Str.ofString "is_count", PySem.Str.ofString "is_list", PySem.Str.ofString "are_signs", PySem.Str.ofString "want_signs", PySem.Str.ofString "is_line", PySem.Str.ofString "want_count", PySem.Str.ofString "want_same_signs", PySem.Str.ofString "FEW", PySem.Str.ofString "is_state", PySem.Str.ofString "is_row", PySem.Str.ofString "want_rows", PySem.Str.ofString "want_ends", PySem.Str.ofString "reached", PySem.Str.ofString "numbered", PySem.Str.ofString "ways_back", PySem.Str.ofString "least_sizes", PySem.Str.ofString "first_marks", PySem.Str.ofString "class_numbers", PySem.Str.ofString "least_parts", PySem.Str.ofString "marked", PySem.Str.ofString "ends_of", PySem.Str.ofString "MOST", PySem.Str.ofString "EITHER", PySem.Str.ofString "BOTH", PySem.Str.ofString "FIRST", PySem.Str.ofString "want_few", PySem.Str.ofString "want_few_states", PySem.Str.ofString "least_machine", PySem.Str.ofString "end_of", PySem.Str.ofString "is_wanted", PySem.Str.ofString "joined", PySem.Str.ofString "joined_few", PySem.Str.ofString "first_pair_line", PySem.Str.ofString "Machine", PySem.Str.ofString "_law_pot", PySem.Str.ofString "_law_draw", PySem.Str.ofString "_law_pick", PySem.Str.ofString "_law_alpha", PySem.Str.ofString "_law_model", PySem.Str.ofString "_law_first", PySem.Str.ofString "_law_pair_right", PySem.Str.ofString "_law_second", PySem.Str.ofString "_law_far", PySem.Str.ofString "_law_fronted", PySem.Str.ofString "_law_moved", PySem.Str.ofString "_law_right"]
abbrev rr : OpenRow := OpenLaw.row PySem.Challenge.rw_frontlines_k14_least_lines
abbrev xt : Shared → Bool := fun s => xlAt vw [] s && recOk rr.toRowW.records s
section
local macro_rules
  | `(tactic| o_head $H) => `(tactic| (have hk := $H; assumption))
/-- lays what the walks read of the heap -/
theorem lay (h : rr.Holds) : rr.Holds := by
  k_head
end
def as : List Addr := [2, 3, 15, 17, 18, 20, 21, 22, 29, 30, 31, 32, 35, 42, 44, 45, 47, 48, 49, 50, 51, 54, 61, 63, 64, 66, 67, 68, 69, 70, 73, 80, 82, 83, 85, 86, 87, 88, 89, 92, 99, 101, 102, 104, 105, 106, 107, 108, 111, 118, 119, 120, 121, 124, 131, 133, 134, 136, 137, 138, 139, 140, 143, 150, 151, 152, 153, 156, 163, 165, 166, 168, 169, 170, 171, 172, 175, 177, 178, 180, 181, 182, 184, 185, 187, 188, 189, 191, 192, 194, 195, 196, 199, 200, 201, 203, 204, 206, 207, 208, 211, 212, 213, 215, 216, 218, 219, 220, 222, 223, 225, 226, 227, 229, 230, 232, 233, 234, 237, 238, 239, 241, 242, 244, 245, 246, 248, 249, 251, 252, 253, 255, 256, 258, 259, 260, 262, 263, 265, 266, 267, 269, 270, 272, 273, 274, 276, 277, 279, 280, 281, 284, 285, 286, 289, 290, 291, 294, 295, 296, 299, 300, 301, 304, 305, 306, 308, 309, 311, 312, 313, 315, 316, 318, 319, 320, 322, 323, 325, 326, 327, 329, 330, 332, 333, 334, 336, 337, 339, 340, 341, 344, 345, 346, 348, 349, 351, 352, 353, 355, 356, 358, 359, 367, 368, 370, 371, 373, 374, 375, 377, 378, 380, 381, 382, 383, 384, 385, 387, 388, 390, 391, 392, 393, 394, 395, 397, 398, 400, 401, 402, 403, 404, 405, 407, 408, 410, 411, 412, 413, 414, 415, 417, 418, 420, 421, 422, 423, 424, 425, 427, 428, 430, 431, 432, 433, 434, 435, 438, 439, 440, 441, 442, 443, 445, 446, 448, 449, 450, 451, 453, 454, 456, 457, 458, 459, 461, 462, 464, 465, 466, 468, 469, 471, 472, 473, 475, 476, 478, 479, 480, 482, 483, 485, 486, 487, 489, 490, 492, 493, 494, 496, 497, 499, 500, 501, 504, 505, 506, 508, 509, 511, 512, 513, 515, 516, 518, 519, 520, 522, 523, 525, 526, 527, 529, 530, 532, 533, 534, 536, 537, 539, 540, 541, 543, 544, 546, 547, 548, 550, 551, 553, 554, 555, 557, 558, 560, 561, 562, 564, 565, 567, 568, 569, 570, 571, 572, 573, 576, 578, 579, 581, 582, 583, 585, 586, 588, 589, 597, 599, 600, 602, 603, 604, 607, 608, 609, 611, 612, 614, 615, 616, 618, 619, 621, 622, 623, 626, 627, 628, 631, 632, 633, 636, 637, 638, 640, 641, 643, 644, 645, 647, 648, 650, 651, 652, 655, 656]
theorem ek : ∀ P, as = (HH.lay.heap_1 P).map (·.1) := fun P => by kernel_rfl
theorem run0 : ∀ (w : World) (os : OsState), (endF (stepQ (denQ tabQ) PySem.Challenge.pw_frontlines_k14_least_lines (w.withFollow "special-get-raises" false)) 30000 PySem.Challenge.pw_frontlines_k14_least_lines (w.withFollow "special-get-raises" false) os).map (fun s => (looksF PySem.Challenge.pw_frontlines_k14_least_lines (boot_heap (w.withFollow "special-get-raises" false).params) s.abs, seenQ vw lse (importedModules (PySem.Challenge.pw_frontlines_k14_least_lines).main.body) xt s.abs, (as.map (getT s), ([521, 514, 507] : List Addr).map (getT s)))) = some (true, openGood vw lse, (((HH.lay.heap_1 (w.withFollow "special-get-raises" false).params).map fun x => some x.2), ([521, 514, 507] : List Addr).map fun _ => some (tabObj #[]))) := by
  intro w os
  kernel_rfl
theorem run1 : ∀ (w : World) (os : OsState), (endF (stepQ (denQ tabQ) PySem.Challenge.pw_frontlines_k14_least_lines (w.withFollow "special-get-raises" true)) 30000 PySem.Challenge.pw_frontlines_k14_least_lines (w.withFollow "special-get-raises" true) os).map (fun s => (looksF PySem.Challenge.pw_frontlines_k14_least_lines (boot_heap (w.withFollow "special-get-raises" true).params) s.abs, seenQ vw lse (importedModules (PySem.Challenge.pw_frontlines_k14_least_lines).main.body) xt s.abs, (as.map (getT s), ([521, 514, 507] : List Addr).map (getT s)))) = some (true, openGood vw lse, (((HH.lay.heap_1 (w.withFollow "special-get-raises" true).params).map fun x => some x.2), ([521, 514, 507] : List Addr).map fun _ => some (tabObj #[]))) := by
  intro w os
  kernel_rfl
theorem left : LeftO rr.prog vw lse xt (Hook.obs (kmHook HH.lay.heap_1 as ek [521, 514, 507])) (Hook.val (kmHook HH.lay.heap_1 as ek [521, 514, 507])) 30600 true :=
  ZH.left_km2 (M := 30000) "special-get-raises" (by kernel_rfl) (by rfl) (fun s => by kernel_rfl) (by rfl) run0 run1
theorem top (said : rr.wellSaid = true) {d : DefRec} {kwd : List (PySem.Str × PySem.Expr)} (h1 : defOf vw rr.name = some (d, kwd)) (h2 : rr.prog.theDef rr.name = some (d.params, d.body, d.scope)) (h3 : kwWritten? d.params.kwonlyargs d.params.kw_defaults = some kwd) (hw : rr.toRowW.promised)
    (call : WalkO vw lse (XL vw []) (Hook.says (kmHook HH.lay.heap_1 as ek [521, 514, 507])) rr.toRowW d kwd fun f vs => PySem.call f vs) : rr.Holds :=
  holds_open (r := rr) (q := vw) (loose := lse) (Xt := xt) (XP := XL vw []) (Yf := Hook.obs (kmHook HH.lay.heap_1 as ek [521, 514, 507])) (Ya := Hook.val (kmHook HH.lay.heap_1 as ek [521, 514, 507])) (YP := Hook.says (kmHook HH.lay.heap_1 as ek [521, 514, 507])) (N := 30600) left (Hook.of (kmHook HH.lay.heap_1 as ek [521, 514, 507])) (Hook.keeps (kmHook HH.lay.heap_1 as ek [521, 514, 507])) (fun s e => xl_of s (Bool.and_eq_true_iff.mp e).1) XL.keeps h1 h2 h3 (fun s e => recFacts_of (Bool.and_eq_true_iff.mp e).2) (by rfl) said (by decide +kernel) ⟨rfl, rfl, rfl, rfl, rfl, by decide +kernel⟩ hw call
end HH
end

set_option Elab.async false
set_option linter.all false
set_option maxRecDepth 100000
set_option maxHeartbeats 4000000
/-! The weakest readings: each judgement of the hand layer turned into a predicate of the goal, so that a body is gone through from left to right. -/
namespace Z
open PySem PySem.Spec PyProof.Rows L2


/-! ### the judgements -/
structure wE (X : Cx) (e : Expr) (σ : L2.St) (H : Hp) (Q : VK) : Prop where
  run : ∀ pins s, Inv X pins σ H s → wpAny (model X.prog X.w) X.A (eval e X.env) (EP X pins σ Q) X.xe s
structure wT (X : Cx) (e : Expr) (σ : L2.St) (H : Hp) (Q : Bool → Hp → Prop) : Prop where
  run : ∀ pins s, Inv X pins σ H s → wpAny (model X.prog X.w) X.A (isTrue e X.env (eval e X.env)) (TP X pins σ Q) X.xe s
structure wW (X : Cx) (e : Expr) (σ : L2.St) (H : Hp) (Q : Bool → Hp → Prop) : Prop where
  run : ∀ whole pins s, Inv X pins σ H s → wpAny (model X.prog X.w) X.A (isTrue e X.env whole) (TP X pins σ Q) X.xe s
structure wA (X : Cx) (es : List Expr) (σ : L2.St) (H : Hp) (Q : List V → Hp → Prop) : Prop where
  run : ∀ pos pins s, Inv X pins σ H s → wpAny (model X.prog X.w) X.A (spliced (backTo pos (starEach es X.env))) (AP X pins σ Q) X.xe s
structure wK (X : Cx) (kws : List Keyword) (σ : L2.St) (H : Hp) (Q : List V → Hp → Prop) : Prop where
  run : ∀ pos pins s, Inv X pins σ H s → wpAny (model X.prog X.w) X.A (evalAll ((backToKw pos (keywordEach kws X.env)).map (·.2))) (AP X pins σ Q) X.xe s
structure wS (X : Cx) (st : Stmt) (D : Ends) (σ : L2.St) (H : Hp) : Prop where
  run : ∀ pins s, Inv X pins σ H s → wpAny (model X.prog X.w) X.A (exec st X.env) (SP X pins D) X.xe s
structure wB (X : Cx) (sts : List Stmt) (D : Ends) (σ : L2.St) (H : Hp) : Prop where
  run : ∀ pins s, Inv X pins σ H s → wpAny (model X.prog X.w) X.A (execs sts X.env) (SP X pins D) X.xe s
structure wG (X : Cx) (tg : Expr) (v : V) (σ : L2.St) (H : Hp) (Q : L2.St → Hp → Prop) : Prop where
  run : ∀ pins s u, Inv X pins σ H s → RelV v u → wpAny (model X.prog X.w) X.A (assign tg X.env u) (fun _ s' => ∃ σ' H', Inv X pins σ' H' s' ∧ Q σ' H') X.xe s
structure wGs (X : Cx) (ts : List Expr) (vs : List V) (σ : L2.St) (H : Hp) (Q : L2.St → Hp → Prop) : Prop where
  run : ∀ pins s us, Inv X pins σ H s → Vals vs us → wpAny (model X.prog X.w) X.A (assignInOrder ((assignEach ts X.env).map (·.2)) us) (fun _ s' => ∃ σ' H', Inv X pins σ' H' s' ∧ Q σ' H') X.xe s
structure wI (X : Cx) (tg iter : Expr) (σ : L2.St) (H : Hp) (R : It → Hp → Prop) : Prop where
  run : ∀ pins s, Inv X pins σ H s → wpAny (model X.prog X.w) X.A (eval iter X.env) (fun v s1 => wpAny (model X.prog X.w) X.A (pyIter v) (PIE X pins σ tg R) X.xe s1) X.xe s
structure wIf (X : Cx) (ifs : List Expr) (σ : L2.St) (H : Hp) (Q : Bool → Hp → Prop) : Prop where
  run : ∀ pins s, Inv X pins σ H s →
    wpAny (model X.prog X.w) X.A (forIn ifs true fun c r => if r = true then do let ok ← isTrue c X.env (eval c X.env); pure (ForInStep.yield ok) else pure (ForInStep.yield r)) (TP X pins σ Q) X.xe s

section
variable {X : Cx} {e a b c : Expr} {es : List Expr} {st : Stmt} {sts : List Stmt} {σ : L2.St} {H : Hp}
theorem pE : PE X e (wE X e) := ⟨fun pins s _ _ _ I h => h.run pins s I⟩
theorem pT : PT X e (wT X e) := ⟨fun pins s _ _ _ I h => h.run pins s I⟩
theorem pW : PW X e (wW X e) := ⟨fun wh pins s _ _ _ I h => h.run wh pins s I⟩
theorem pA : PA X es (wA X es) := ⟨fun pos pins s _ _ _ I h => h.run pos pins s I⟩
theorem pK {kws : List Keyword} : PK X kws (wK X kws) := ⟨fun pos pins s _ _ _ I h => h.run pos pins s I⟩
theorem pS : PS X st (wS X st) := ⟨fun pins s _ _ _ I h => h.run pins s I⟩
theorem pB : PSs X sts (wB X sts) := ⟨fun pins s _ _ _ I h => h.run pins s I⟩
theorem pG : PG X e (wG X e) := ⟨fun pins s _ _ _ u _ I r h => h.run pins s u I r⟩
theorem pGs : PGs X es (wGs X es) := ⟨fun pins s _ _ _ us _ I r h => h.run pins s us I r⟩
theorem pI {tg iter : Expr} : PI X tg iter (wI X tg iter) := ⟨fun pins s _ _ _ I h => h.run pins s I⟩
theorem pIf : PTs X es (wIf X es) := ⟨fun pins s _ _ _ I h => h.run pins s I⟩
theorem eE {t : TE} {Q : VK} (p : PE X e t) (h : t σ H Q) : wE X e σ H Q := ⟨fun pins s I => p.run pins s σ H Q I h⟩
theorem eT {t : TT} {Q : Bool → Hp → Prop} (p : PT X e t) (h : t σ H Q) : wT X e σ H Q := ⟨fun pins s I => p.run pins s σ H Q I h⟩
theorem eW {t : TT} {Q : Bool → Hp → Prop} (p : PW X e t) (h : t σ H Q) : wW X e σ H Q := ⟨fun wh pins s I => p.run wh pins s σ H Q I h⟩
theorem eA {t : TA} {Q : List V → Hp → Prop} (p : PA X es t) (h : t σ H Q) : wA X es σ H Q := ⟨fun pos pins s I => p.run pos pins s σ H Q I h⟩
theorem eK {kws : List Keyword} {t : TA} {Q : List V → Hp → Prop} (p : PK X kws t) (h : t σ H Q) : wK X kws σ H Q := ⟨fun pos pins s I => p.run pos pins s σ H Q I h⟩
theorem eS {t : TS} {D : Ends} (p : PS X st t) (h : t D σ H) : wS X st D σ H := ⟨fun pins s I => p.run pins s σ H D I h⟩
theorem eB {t : TS} {D : Ends} (p : PSs X sts t) (h : t D σ H) : wB X sts D σ H := ⟨fun pins s I => p.run pins s σ H D I h⟩
theorem eG {t : TG} {v : V} {Q : L2.St → Hp → Prop} (p : PG X e t) (h : t v σ H Q) : wG X e v σ H Q := ⟨fun pins s u I r => p.run pins s σ H v u Q I r h⟩
theorem eGs {t : TGs} {vs : List V} {Q : L2.St → Hp → Prop} (p : PGs X es t) (h : t vs σ H Q) : wGs X es vs σ H Q := ⟨fun pins s us I r => p.run pins s σ H vs us Q I r h⟩
theorem eI {tg iter : Expr} {t : TI} {R : It → Hp → Prop} (p : PI X tg iter t) (h : t σ H R) : wI X tg iter σ H R := ⟨fun pins s I => p.run pins s σ H R I h⟩
theorem eIf {t : TT} {Q : Bool → Hp → Prop} (p : PTs X es t) (h : t σ H Q) : wIf X es σ H Q := ⟨fun pins s I => p.run pins s σ H Q I h⟩

theorem wE_mono {Q Q' : VK} (h : wE X e σ H Q) (k : ∀ v H', Q v H' → Q' v H') : wE X e σ H Q' := ⟨fun pins s I => thn (h.run pins s I) fun _ _ ⟨v, H', I', r, q⟩ => ⟨v, H', I', r, k v H' q⟩⟩
theorem wT_mono {Q Q' : Bool → Hp → Prop} (h : wT X e σ H Q) (k : ∀ v H', Q v H' → Q' v H') : wT X e σ H Q' := ⟨fun pins s I => thn (h.run pins s I) fun b _ ⟨H', I', q⟩ => ⟨H', I', k b H' q⟩⟩

/-! ### statements -/
theorem b_nil {D : Ends} (h : D.nx σ H) : wB X [] D σ H := eB pss_nil h
theorem b_cons {D : Ends} (h : wS X st { D with nx := wB X sts D } σ H) : wB X (st :: sts) D σ H := eB (pss_cons pS pB) h
theorem s_pass {D : Ends} {pos : Pos} (h : D.nx σ H) : wS X (.Pass pos) D σ H := eS ps_pass h
theorem s_break {D : Ends} {pos : Pos} (h : D.bk σ H) : wS X (.Break pos) D σ H := eS ps_break h
theorem s_continue {D : Ends} {pos : Pos} (h : D.ct σ H) : wS X (.Continue pos) D σ H := eS ps_continue h
theorem s_if {D : Ends} {c : Expr} {u v : List Stmt} {pos : Pos} (h : wT X c σ H fun b H1 => if b = true then wB X u D σ H1 else wB X v D σ H1) : wS X (.If c u v pos) D σ H := eS (ps_if pT pB pB) h
theorem s_ret {D : Ends} {pos : Pos} (h : wE X e σ H D.rt) : wS X (.Return (some e) pos) D σ H := eS (ps_ret pE) h
theorem s_retN {D : Ends} {pos : Pos} (h : D.rt .non H) : wS X (.Return none pos) D σ H := eS ps_retN h
theorem s_expr {D : Ends} {pos : Pos} (h : wE X e σ H fun _ H1 => D.nx σ H1) (hs : swapsWith e none pos.line X.env = pure false := by rfl) : wS X (.Expr e pos) D σ H := eS (ps_expr pE hs) h
/-- name = value -/
theorem s_set {D : Ends} {i : Nat} {x : Str} {pos pos' : Pos} (h : wE X e σ H fun v H1 => D.nx (σ.set i (some v)) H1) (hN : X.N.Nodup) (hi : X.N[i]? = some x := by rfl) (hx : Loc X.env.scope x := by first | exact Or.inl rfl | exact Or.inr rfl)
    (hs : swapsWith e (some (.Name x pos')) pos.line X.env = pure false := by rfl) (hf : X.fn x = true ∨ X.env.scope.names.lookup x = some .local := by first | exact .inl rfl | exact .inr rfl) : wS X (.Assign [.Name x pos'] e pos) D σ H := eS (ps_set hN hi hx pE hs hf) h
theorem s_asg {D : Ends} {tg : Expr} {pos : Pos} (h : wE X e σ H fun v H1 => wG X tg v σ H1 D.nx) (hs : swapsWithSole [tg] e pos.line X.env = pure false := by rfl) (hw : swappedStores [tg] e X.env = pure none := by rfl)
    (h1 : (assignEach [tg] X.env).map (·.2) = [assign tg X.env] := by rfl) : wS X (.Assign [tg] e pos) D σ H := eS (ps_asg pE pG hs hw h1) h
theorem g_name {i : Nat} {x : Str} {pos : Pos} {v : V} {Q : L2.St → Hp → Prop} (h : Q (σ.set i (some v)) H) (hN : X.N.Nodup) (hi : X.N[i]? = some x := by rfl) (hx : Loc X.env.scope x := by first | exact Or.inl rfl | exact Or.inr rfl)
    (hf : X.fn x = true ∨ X.env.scope.names.lookup x = some .local := by first | exact .inl rfl | exact .inr rfl) : wG X (.Name x pos) v σ H Q := eG (pg_name hN hi hx hf) h
theorem gs_nil {Q : L2.St → Hp → Prop} (h : Q σ H) : wGs X [] [] σ H Q := eGs pgs_nil ⟨rfl, h⟩
theorem gs_cons {v : V} {vs : List V} {Q : L2.St → Hp → Prop} (h : wG X e v σ H fun σ' H' => wGs X es vs σ' H' Q) (hs : (assignEach (e :: es) X.env).map (·.2) = assign e X.env :: (assignEach es X.env).map (·.2) := by rfl) :
    wGs X (e :: es) (v :: vs) σ H Q := eGs (pgs_cons pG pGs hs) ⟨v, vs, rfl, h⟩
theorem g_tup {k : Nat} {pos : Pos} {p : Addr} {xs : List V} {Q : L2.St → Hp → Prop} (h : wGs X es xs σ H Q) (hc : X.calm = true) (hq : SqT X.K H p xs) (hn : (assignEach es X.env).length = xs.length := by rfl)
    (hst : (assignEach es X.env).findIdx? (·.1) = none := by rfl) : wG X (.Tuple es k pos) (.ref p) σ H Q := eG (pg_tup hc pGs hn hst) ⟨p, xs, rfl, hq, rfl, h⟩
/-- o[i] = v -/
structure sW (X : Cx) (o i v : V) (H : Hp) (Q : Hp → Prop) : Prop where
  run : ∀ pins s σ ov iv u, Inv X pins σ H s → RelV o ov → RelV i iv → RelV v u → wpAny (model X.prog X.w) X.A (setItem ov iv u) (fun _ s' => ∃ H', Inv X pins σ H' s' ∧ Q H') X.xe s
theorem g_sub {o i : Expr} {pos : Pos} {v : V} {Q : L2.St → Hp → Prop} (h : wE X o σ H fun ov H1 => wE X i σ H1 fun iv H2 => sW X ov iv v H2 fun H3 => Q σ H3)
    (ha : ∀ v, assign (.Subscript o i pos) X.env v = (do
      let ov ← holding [v] (eval o X.env)
      let iv ← holding [v, ov] (eval i X.env)
      standAt pos
      holding [v, ov, iv] (setItem ov iv v)
      release [v, ov, iv] []) := by intro _; rfl) : wG X (.Subscript o i pos) v σ H Q :=
  eG (pg_sub pE pE (t := sW X) (fun pins s σ H o i v ov iv u Q I r1 r2 r3 h => h.run pins s σ ov iv u I r1 r2 r3) ha) h
theorem sW_of {t : TSet} {o i v : V} {Q : Hp → Prop} (p : PSet X t) (h : t o i v H Q) : sW X o i v H Q := ⟨fun pins s σ ov iv u I r1 r2 r3 => p pins s σ H o i v ov iv u Q I r1 r2 r3 h⟩

/-! ### expressions -/
theorem e_name (i : Nat) {x : Str} {pos : Pos} {v : V} {Q : VK} (h : Q v H) (hs : σ[i]? = some (some v) := by rfl) (hN : X.N[i]? = some x := by rfl) (hv : Vis X.env.scope x := by first | exact Or.inl rfl | exact Or.inr (Or.inl rfl) | exact Or.inr (Or.inr rfl))
    (hd : (x == ("__debug__" : Str)) = false := by decide) (hcd : (x == ("__classdict__" : Str)) = false := by decide) : wE X (.Name x pos) σ H Q := eE (pe_var hN hv hd hcd) ⟨v, hs, h⟩
theorem e_glob {x : Str} {pos : Pos} {v : V} {u : Value} {Q : VK} (h : Q v H) (hm : X.mg x = some u) (r : RelV v u) (hg : Gl X x := by rfl) (hd : (x == ("__debug__" : Str)) = false := by decide) : wE X (.Name x pos) σ H Q := eE (pe_glob hg hm r hd) h
theorem e_blt {x : Str} {pos : Pos} {v : V} {u : Value} {Q : VK} (h : Q v H) (hm : X.mg x = none) (hv : bootBuiltins x = some u) (r : RelV v u) (hg : Gl X x := by rfl) (hn : x ≠ "__name__" := by decide) (hd : (x == ("__debug__" : Str)) = false := by decide) :
    wE X (.Name x pos) σ H Q := eE (pe_bltn hg hm hv r hn hd) h
theorem e_int {i : Int} {j} {pos : Pos} {Q : VK} (h : Q (.int i) H) : wE X (.Constant (.int i) j pos) σ H Q := eE pe_int h
theorem e_str {x : Str} {j} {pos : Pos} {Q : VK} (h : Q (.str x) H) : wE X (.Constant (.str x) j pos) σ H Q := eE pe_str h
theorem e_bool {b : Bool} {j} {pos : Pos} {Q : VK} (h : Q (.bl b) H) : wE X (.Constant (.bool b) j pos) σ H Q := eE pe_bl h
theorem e_none {j} {pos : Pos} {Q : VK} (h : Q .non H) : wE X (.Constant .none j pos) σ H Q := eE pe_non h
/-- an operation on two values -/
structure oW (X : Cx) (f : Value → Value → Sem Value) (x y : V) (H : Hp) (Q : VK) : Prop where
  run : ∀ pins s σ v u, Inv X pins σ H s → RelV x v → RelV y u → wpAny (model X.prog X.w) X.A (f v u) (EP X pins σ Q) X.xe s
theorem oR {f : Value → Value → Sem Value} : OpR X f (oW X f) := fun pins s σ _ _ _ v u _ I rx ry h => h.run pins s σ v u I rx ry
theorem oW_of {f : Value → Value → Sem Value} {r : R2} {x y : V} {Q : VK} (p : OpR X f r) (h : r x y H Q) : oW X f x y H Q := ⟨fun pins s σ v u I rx ry => p pins s σ H x y v u Q I rx ry h⟩
structure uW (X : Cx) (f : Value → Sem Value) (x : V) (H : Hp) (Q : VK) : Prop where
  run : ∀ pins s σ v, Inv X pins σ H s → RelV x v → wpAny (model X.prog X.w) X.A (f v) (EP X pins σ Q) X.xe s
theorem uW_of {f : Value → Sem Value} {r : V → Hp → VK → Prop} {x : V} {Q : VK} (p : UnR X f r) (h : r x H Q) : uW X f x H Q := ⟨fun pins s σ v I rx => p pins s σ H x v Q I rx h⟩
theorem e_bin {op : Operator} {pos : Pos} {Q : VK} (h : wE X a σ H fun x H1 => wE X b σ H1 fun y H2 => oW X (binaryOp op) x y H2 Q) : wE X (.BinOp a op b pos) σ H Q := eE (pe_op oR pE pE) h
theorem e_un {op : UnaryOp} {pos : Pos} {Q : VK} (h : wE X a σ H fun x H1 => uW X (unaryOp op) x H1 Q) : wE X (.UnaryOp op a pos) σ H Q := eE (pe_un (r := uW X (unaryOp op)) (fun pins s σ _ _ v _ I rx h => h.run pins s σ v I rx) pE) h
theorem e_cmp {op : CmpOp} {pos : Pos} {Q : VK} (h : wE X a σ H fun x H1 => wE X b σ H1 fun y H2 => oW X (compareOp op) x y H2 Q) (hm : behindInMarks op b = false := by first | exact nomark _ | rfl) :
    wE X (.Compare a [op] [b] pos) σ H Q := eE (pe_cmpR oR pE pE hm) h
theorem t_cmp {op : CmpOp} {pos : Pos} {Q : Bool → Hp → Prop} (h : wE X a σ H fun x H1 => wE X b σ H1 fun y H2 => oW X (compareOp op) x y H2 fun v H3 => ∃ k, v = .bl k ∧ Q k H3) (hm : behindInMarks op b = false := by first | exact nomark _ | rfl) :
    wT X (.Compare a [op] [b] pos) σ H Q := eT (pt_cmpR oR pE pE hm) h
theorem t_chain {op op' : CmpOp} {pos : Pos} {Q : Bool → Hp → Prop} (h : wE X a σ H fun x H1 => wE X b σ H1 fun y H2 => oW X (compareOp op) x y H2 fun z H3 => ∃ k, z = .bl k ∧
      (if k = true then wE X c σ H3 fun w' H4 => oW X (compareOp op') y w' H4 (fun v H5 => ∃ k, v = .bl k ∧ Q k H5) else ∃ k, V.bl false = .bl k ∧ Q k H3)) (hm : lastMarks [op, op'] [b, c] = false := by with_unfolding_all rfl) :
    wT X (.Compare a [op, op'] [b, c] pos) σ H Q := eT (pt_chain oR oR pE pE pE hm) h
theorem t_not {pos : Pos} {Q : Bool → Hp → Prop} (h : wT X a σ H fun c H1 => Q (!c) H1) : wT X (.UnaryOp .Not a pos) σ H Q := eT (pt_not pT) h
theorem e_not {pos : Pos} {Q : VK} (h : wE X a σ H fun x H1 => ∃ c, x = .bl c ∧ Q (.bl (!c)) H1) : wE X (.UnaryOp .Not a pos) σ H Q := eE (pe_not pE) h
theorem t_boolop {op} {pos : Pos} {Q : Bool → Hp → Prop} (h : wW X (.BoolOp op es pos) σ H Q) : wT X (.BoolOp op es pos) σ H Q := eT pW.pt h
theorem w_and1 {pos : Pos} {Q : Bool → Hp → Prop} (h : wT X a σ H Q) : wW X (.BoolOp .And [a] pos) σ H Q := eW (pw_and1 pT) h
theorem w_or1 {pos : Pos} {Q : Bool → Hp → Prop} (h : wT X a σ H Q) : wW X (.BoolOp .Or [a] pos) σ H Q := eW (pw_or1 pT) h
theorem w_and {rest : List Expr} {pos : Pos} {Q : Bool → Hp → Prop} (h : wT X a σ H fun c H1 => if c = true then wW X (.BoolOp .And (b :: rest) pos) σ H1 Q else Q false H1) : wW X (.BoolOp .And (a :: b :: rest) pos) σ H Q := eW (pw_and pT pW) h
theorem w_or {rest : List Expr} {pos : Pos} {Q : Bool → Hp → Prop} (h : wT X a σ H fun c H1 => if c = true then Q true H1 else wW X (.BoolOp .Or (b :: rest) pos) σ H1 Q) : wW X (.BoolOp .Or (a :: b :: rest) pos) σ H Q := eW (pw_or pT pW) h
theorem e_one {op} {pos : Pos} {Q : VK} (h : wE X a σ H Q) : wE X (.BoolOp op [a] pos) σ H Q := eE (pe_one pE) h
theorem e_and {rest : List Expr} {pos : Pos} {Q : VK} (h : wE X a σ H fun x H1 => ∃ c, x = .bl c ∧ if c = true then wE X (.BoolOp .And (b :: rest) pos) σ H1 Q else Q (.bl false) H1) : wE X (.BoolOp .And (a :: b :: rest) pos) σ H Q := eE (pe_and pE pE) h
theorem e_or {rest : List Expr} {pos : Pos} {Q : VK} (h : wE X a σ H fun x H1 => ∃ c, x = .bl c ∧ if c = true then Q (.bl true) H1 else wE X (.BoolOp .Or (b :: rest) pos) σ H1 Q) : wE X (.BoolOp .Or (a :: b :: rest) pos) σ H Q := eE (pe_or pE pE) h
theorem e_if {pos : Pos} {Q : VK} (h : wT X c σ H fun k H1 => if k = true then wE X a σ H1 Q else wE X b σ H1 Q) : wE X (.IfExp c a b pos) σ H Q := eE (pe_ifExp pT pE pE) h
/-- an expression whose value is a bool, as a test -/
theorem t_val {Q : Bool → Hp → Prop} (h : wE X e σ H fun x H1 => ∃ c, x = .bl c ∧ Q c H1) (he : ∀ whole, isTrue e X.env whole = (do let v ← whole; standAt e.pos; holding [v] (truthy v)) := by intro _; rfl) : wT X e σ H Q := eT (pt_val pE he) h
theorem t_truth {Q : Bool → Hp → Prop} (h : wE X e σ H fun x H1 => ∃ k, TruV X.K x H1 k ∧ Q k H1) (he : ∀ whole, isTrue e X.env whole = (do let v ← whole; standAt e.pos; holding [v] (truthy v)) := by intro _; rfl) : wT X e σ H Q := eT (pt_truth pE he) h
theorem a_nil {Q : List V → Hp → Prop} (h : Q [] H) : wA X [] σ H Q := eA pa_nil h
theorem a_cons {Q : List V → Hp → Prop} (h : wE X e σ H fun x H1 => wA X es σ H1 fun xs H2 => Q (x :: xs) H2) (hs : starEach (e :: es) X.env = (false, eval e X.env) :: starEach es X.env := by rfl) : wA X (e :: es) σ H Q := eA (pa_cons pE pA hs) h
theorem k_nil {Q : List V → Hp → Prop} (h : Q [] H) : wK X [] σ H Q := eK pk_nil h
theorem k_cons {nm : Option Str} {kpos : Pos} {kws : List Keyword} {Q : List V → Hp → Prop} (h : wE X e σ H fun x H1 => wK X kws σ H1 fun xs H2 => Q (x :: xs) H2) : wK X (⟨nm, e, kpos⟩ :: kws) σ H Q := eK (pk_cons pE pK) h
theorem e_tup {x1} {pos : Pos} {Q : VK} (h : wA X es σ H fun xs H1 => xs.length ≤ sizeLine ∧ ∀ p, H1 p = none → Q (.ref p) (upd H1 p (.tup xs))) : wE X (.Tuple es x1 pos) σ H Q := eE (pe_tup pA) h
theorem e_lst {pos : Pos} {Q : VK} (h : wA X es σ H fun xs H1 => xs.length ≤ sizeLine ∧ ∀ p, H1 p = none → Q (.ref p) (upd H1 p (.lst xs))) : wE X (.List es pos) σ H Q := eE (pe_lst pA) h
end
end Z

set_option Elab.async false
set_option linter.all false
set_option maxRecDepth 100000
set_option maxHeartbeats 4000000
namespace Z
open PySem PySem.Spec PyProof.Rows L2

/-- the built-in names that no def of the text hides -/
structure Blt (mg : Str → Option Value) (base : Heap) : Prop where
  sys : ∃ o es ep, base.get? sysModules = some o ∧ o.data = .dict es ep
  len : mg "len" = none
  range : mg "range" = none
  min : mg "min" = none
  max : mg "max" = none
  abs : mg "abs" = none
  int : mg "int" = none
  str : mg "str" = none
  bool : mg "bool" = none
  list : mg "list" = none
  tuple : mg "tuple" = none
  dict : mg "dict" = none
  isinstance : mg "isinstance" = none
  all : mg "all" = none
  any : mg "any" = none
  sum : mg "sum" = none
  zip : mg "zip" = none
  repr : mg "repr" = none
  divmod : mg "divmod" = none
  sorted : mg "sorted" = none
  enumerate : mg "enumerate" = none
  reversed : mg "reversed" = none
  valueError : mg "ValueError" = none

/-- where a body runs: the room, what a raised error is wished to meet -/
structure Cxt (X : Cx) (k : Nat) (W : WX) : Prop where
  room : Room k X.A
  calm : X.calm = true
  nd : X.N.Nodup
  blt : Blt X.mg X.base
  po : PassesOwn (model X.prog X.w) X.A X.env X.xe
  tk : Takes X W
abbrev W0 : WX := fun _ _ _ _ => False
theorem takesW0 {X : Cx} : Takes X W0 := fun _ _ ⟨_, _, _, _, _, _, _, _, _, _, _, _, _, _, _, _, z⟩ => z.elim
theorem Cxt.mono {X : Cx} {j k : Nat} {W : WX} (C : Cxt X k W) (h : j ≤ k) : Cxt X j W := ⟨C.room.mono h, C.calm, C.nd, C.blt, C.po, C.tk⟩
theorem Cxt.blk {X : Cx} {k : Nat} {W : WX} (C : Cxt X k W) (s : Shared) (H : Hp) (scope : Scope) (cenv : Env) (fp : List Addr) : Cxt (X.blk s H scope cenv fp) k W0 :=
  ⟨C.room, C.calm, C.nd, C.blt, PassesOwn.never, takesW0⟩
/-- no guard of repr stands -/
abbrev Gd (X : Cx) : Prop := X.A.guards = some []

/-! ### a def's promise, where no guard of repr stands -/
structure GFn (P : Program) (w : World) (K : PySem.W.Frag) (mg : Str → Option Value) (base : Heap) (k : Nat) (f : Addr) (fd : FuncData) (ps : List Str) (sp : Sp) : Prop where
  len : ∀ vs H Q E, sp vs H Q E → vs.length = ps.length
  run : ∀ (A : Around) (outer : List Env) (s : Shared) (H : Hp) (args : Args) (us : List Value) (vs : List V) (Q : VK) (E : XK), Room k A → A.guards = some [] → Env0 P w K mg base A outer s H → BindsTo s fd args (ps.zip us) → Vals vs us → sp vs H Q E →
    codeAny (model P w) A (.call (.ref f) args) (CR (L2.CX P w) outer P w H s Q E) s
/-- a def of the text under its name: its promise in every place -/
structure Def (P : Program) (w : World) (K : PySem.W.Frag) (mg : Str → Option Value) (base : Heap) (k : Nat) (x : Str) (st : Stmt) (ps : List Str) (sp : Sp) : Prop where
  ex : ∃ (f : Addr) (kV doc pm : Value) (an : Option Addr) (cdv ct : Value), mg x = some (.ref f) ∧ PySem.W.keepIn K (.ref f) = true ∧
    FnOk P w K mg base (L2.CX P w) k f (PySem.W.fnOf x x (defArgs st) (defBody st) (defScope st) .none kV doc pm an cdv ct) ps sp
/-- .. its promise where no guard of repr stands -/
structure DefG (P : Program) (w : World) (K : PySem.W.Frag) (mg : Str → Option Value) (base : Heap) (k : Nat) (x : Str) (st : Stmt) (ps : List Str) (sp : Sp) : Prop where
  ex : ∃ (f : Addr) (kV doc pm : Value) (an : Option Addr) (cdv ct : Value), mg x = some (.ref f) ∧ PySem.W.keepIn K (.ref f) = true ∧
    GFn P w K mg base k f (PySem.W.fnOf x x (defArgs st) (defBody st) (defScope st) .none kV doc pm an cdv ct) ps sp
/-- what the head tells of it -/
structure At (K : PySem.W.Frag) (mg : Str → Option Value) (x : Str) (st : Stmt) : Prop where
  ex : ∃ (f : Addr) (fd : FuncData), mg x = some (.ref f) ∧ Fun K x x st f fd

section
variable {P : Program} {w : World} {K : PySem.W.Frag} {mg : Str → Option Value} {base : Heap}
theorem gfn_of {k : Nat} {f : Addr} {fd : FuncData} {ps : List Str} {sp : Sp} (F : FnOk P w K mg base (L2.CX P w) k f fd ps sp) : GFn P w K mg base k f fd ps sp := ⟨F.len, fun A outer s H args us vs Q E hr _ => F.run A outer s H args us vs Q E hr⟩
theorem Def.g {k : Nat} {x : Str} {st : Stmt} {ps : List Str} {sp : Sp} (D : Def P w K mg base k x st ps sp) : DefG P w K mg base k x st ps sp := by
  obtain ⟨f, kV, doc, pm, an, cdv, ct, h1, h2, h3⟩ := D.ex
  exact ⟨f, kV, doc, pm, an, cdv, ct, h1, h2, gfn_of h3⟩
theorem Def.mono {j k : Nat} {x : Str} {st : Stmt} {ps : List Str} {sp : Sp} (D : Def P w K mg base j x st ps sp) (h : j ≤ k) : Def P w K mg base k x st ps sp := by
  obtain ⟨f, kV, doc, pm, an, cdv, ct, h1, h2, h3⟩ := D.ex
  exact ⟨f, kV, doc, pm, an, cdv, ct, h1, h2, h3.mono h⟩
theorem DefG.mono {j k : Nat} {x : Str} {st : Stmt} {ps : List Str} {sp : Sp} (D : DefG P w K mg base j x st ps sp) (h : j ≤ k) : DefG P w K mg base k x st ps sp := by
  obtain ⟨f, kV, doc, pm, an, cdv, ct, h1, h2, h3⟩ := D.ex
  exact ⟨f, kV, doc, pm, an, cdv, ct, h1, h2, h3.len, fun A outer s H args us vs Q E hr => h3.run A outer s H args us vs Q E (hr.mono h)⟩
/-- the body's context -/
abbrev bX (P : Program) (w : World) (K : PySem.W.Frag) (mg : Str → Option Value) (base : Heap) (N : List Str) (x : Str) (st : Stmt) (f : Addr) (cdv : Value) (A : Around) (outer : List Env) (s : Shared) (H : Hp) (E : XK) : Cx :=
  cxOf (L2.CX P w) P w K mg base N x (defScope st) f cdv A outer s H E
/-- THE RULE for a function object: x0 its name, x its qualified name -/
theorem fnok_body {k : Nat} {x0 x : Str} {st : Stmt} {f : Addr} {oc dV kV doc pm cdv ct : Value} {od an : Option Addr} {osl : Array (Option Value)} {N ps : List Str} {sp : Sp} (B : Blt mg base)
    (lk : K.lookup f = some ⟨oc, od, .func (PySem.W.fnOf x0 x (defArgs st) (defBody st) (defScope st) dV kV doc pm an cdv ct), osl⟩) (hcd : PySem.W.codeIn K cdv x = true)
    (S : FnScope N ps (defScope st)) (len : ∀ vs H Q E, sp vs H Q E → vs.length = ps.length)
    (body : ∀ (A : Around) (outer : List Env) (s : Shared) (H : Hp) (vs : List V) (Q : VK) (E : XK), Cxt (bX P w K mg base N x st f cdv A outer s H E) k (fun cls d _ H => E cls d H) → sp vs H Q E →
      wB (bX P w K mg base N x st f cdv A outer s H E) (defBody st) { nx := fun _ H' => Q .non H', rt := Q } (start N vs) H) :
    FnOk P w K mg base (L2.CX P w) (k + 1) f (PySem.W.fnOf x0 x (defArgs st) (defBody st) (defScope st) dV kV doc pm an cdv ct) ps sp :=
  ⟨len, fun A outer s H args us vs Q E hr e0 hb r hsp => LamX.run_ofS lk hcd S hr e0 hb r (len _ _ _ _ hsp) fun hr' => ⟨wB _ (defBody st), pB, body A outer s H vs Q E ⟨hr', rfl, S.nd, B, passes_of rfl, takes_of rfl rfl rfl rfl⟩ hsp⟩⟩
theorem gfn_body {k : Nat} {x0 x : Str} {st : Stmt} {f : Addr} {oc dV kV doc pm cdv ct : Value} {od an : Option Addr} {osl : Array (Option Value)} {N ps : List Str} {sp : Sp} (B : Blt mg base)
    (lk : K.lookup f = some ⟨oc, od, .func (PySem.W.fnOf x0 x (defArgs st) (defBody st) (defScope st) dV kV doc pm an cdv ct), osl⟩) (hcd : PySem.W.codeIn K cdv x = true)
    (S : FnScope N ps (defScope st)) (len : ∀ vs H Q E, sp vs H Q E → vs.length = ps.length)
    (body : ∀ (A : Around) (outer : List Env) (s : Shared) (H : Hp) (vs : List V) (Q : VK) (E : XK), Cxt (bX P w K mg base N x st f cdv A outer s H E) k (fun cls d _ H => E cls d H) → Gd (bX P w K mg base N x st f cdv A outer s H E) → sp vs H Q E →
      wB (bX P w K mg base N x st f cdv A outer s H E) (defBody st) { nx := fun _ H' => Q .non H', rt := Q } (start N vs) H) :
    GFn P w K mg base (k + 1) f (PySem.W.fnOf x0 x (defArgs st) (defBody st) (defScope st) dV kV doc pm an cdv ct) ps sp :=
  ⟨len, fun A outer s H args us vs Q E hr hg e0 hb r hsp => LamX.run_ofS lk hcd S hr e0 hb r (len _ _ _ _ hsp) fun hr' => ⟨wB _ (defBody st), pB, body A outer s H vs Q E ⟨hr', rfl, S.nd, B, passes_of rfl, takes_of rfl rfl rfl rfl⟩ hg hsp⟩⟩
/-- THE RULE for a def -/
theorem def_of {k : Nat} {x : Str} {st : Stmt} {N ps : List Str} {sp : Sp} (D : At K mg x st) (B : Blt mg base) (S : FnScope N ps (defScope st)) (len : ∀ vs H Q E, sp vs H Q E → vs.length = ps.length)
    (body : ∀ (f : Addr) (cdv : Value) (A : Around) (outer : List Env) (s : Shared) (H : Hp) (vs : List V) (Q : VK) (E : XK), mg x = some (.ref f) → Cxt (bX P w K mg base N x st f cdv A outer s H E) k (fun cls d _ H => E cls d H) → sp vs H Q E →
      wB (bX P w K mg base N x st f cdv A outer s H E) (defBody st) { nx := fun _ H' => Q .non H', rt := Q } (start N vs) H) : Def P w K mg base (k + 1) x st ps sp := by
  obtain ⟨f, fd, hm, F⟩ := D.ex
  obtain ⟨oc, od, kV, doc, pm, an, cdv, ct, osl, rfl, lk, hcd⟩ := F.ex
  exact ⟨f, kV, doc, pm, an, cdv, ct, hm, F.kp, fnok_body B lk hcd S len fun A outer s H vs Q E C h => body f cdv A outer s H vs Q E hm C h⟩
theorem defG_of {k : Nat} {x : Str} {st : Stmt} {N ps : List Str} {sp : Sp} (D : At K mg x st) (B : Blt mg base) (S : FnScope N ps (defScope st)) (len : ∀ vs H Q E, sp vs H Q E → vs.length = ps.length)
    (body : ∀ (f : Addr) (cdv : Value) (A : Around) (outer : List Env) (s : Shared) (H : Hp) (vs : List V) (Q : VK) (E : XK), mg x = some (.ref f) → Cxt (bX P w K mg base N x st f cdv A outer s H E) k (fun cls d _ H => E cls d H) → Gd (bX P w K mg base N x st f cdv A outer s H E) → sp vs H Q E →
      wB (bX P w K mg base N x st f cdv A outer s H E) (defBody st) { nx := fun _ H' => Q .non H', rt := Q } (start N vs) H) : DefG P w K mg base (k + 1) x st ps sp := by
  obtain ⟨f, fd, hm, F⟩ := D.ex
  obtain ⟨oc, od, kV, doc, pm, an, cdv, ct, osl, rfl, lk, hcd⟩ := F.ex
  exact ⟨f, kV, doc, pm, an, cdv, ct, hm, F.kp, gfn_body B lk hcd S len fun A outer s H vs Q E C g h => body f cdv A outer s H vs Q E hm C g h⟩
end

/-! ### calls of the text's defs -/
section
variable {X : Cx} {k : Nat} {W : WX} {σ : L2.St} {H : Hp} {x : Str} {st : Stmt} {ps : List Str} {sp : Sp} {e : Expr} {es : List Expr} {p pos : Pos} {Q : VK}
theorem ran {f : Addr} {fd : FuncData} {us : List Value} {kw : List (Str × Value)} {us' : List Value} {vs' : List V} {pins : List (Addr × Obj)} {s : Shared} (C : Cxt X k W) (F : FnOk X.prog X.w X.K X.mg X.base (L2.CX X.prog X.w) k f fd ps sp)
    (hb : BindsTo s fd ⟨us, kw⟩ (ps.zip us')) (I : Inv X pins σ H s) (r : Vals vs' us') (h : sp vs' H Q (fun cls d H' => W cls d σ H')) : wpAny (model X.prog X.w) X.A (call (.ref f) us kw) (EP X pins σ Q) X.xe s := by
  refine wpAny_call (codeAny_mono (F.run X.A X.stack s H ⟨us, kw⟩ us' vs' Q _ C.room I.env0 hb r h) fun r s' hq => ?_)
  cases r with
  | error e => exact C.tk e s' (XE.of_call I (fun _ _ _ z => z) hq)
  | ok fl =>
    cases fl with
    | ret u => exact I.after hq
    | next => exact False.elim hq
    | brk => exact False.elim hq
    | cont => exact False.elim hq
theorem e_call (C : Cxt X k W) (D : Def X.prog X.w X.K X.mg X.base k x st ps sp)
    (h : wA X (e :: es) σ H fun vs H1 => sp vs H1 Q (fun cls d H' => W cls d σ H')) (hg : Gl X x := by rfl)
    (hbind : ∀ (kV doc pm : Value) (an : Option Addr) (cdv ct : Value) (us : List Value), us.length = ps.length → bindArgs (PySem.W.fnOf x x (defArgs st) (defBody st) (defScope st) .none kV doc pm an cdv ct) ⟨us, []⟩ = pure (ps.zip us))
    (hdb : (x == ("__debug__" : Str)) = false := by decide) (he : starEach (e :: es) X.env = (false, eval e X.env) :: starEach es X.env := by rfl) (hpl : (backTo pos (starEach es X.env)).any (·.1) = false := by rfl) :
    wE X (.Call (.Name x p) (e :: es) [] pos) σ H Q := by
  obtain ⟨f, kV, doc, pm, an, cdv, ct, hm, hk, F⟩ := D.ex
  refine ⟨fun pins s I => ?_⟩
  refine wpAny_Call_Name_kw (ld_glob I hg hm ?_ hdb)
  refine PySem.W.callWith_K (h₀ := X.base) I.ok.mod.kin hk (thn (h.run pos pins s I) fun us s1 ⟨vs, H1, I1, r, q⟩ => ⟨I1.kIn, ?_⟩) he hpl
  exact ran C F (.of_eq (hbind kV doc pm an cdv ct us (r.length.symm.trans (F.len _ _ _ _ q)))) I1 r q
theorem e_call0 (C : Cxt X k W) (D : Def X.prog X.w X.K X.mg X.base k x st [] sp) (h : sp [] H Q (fun cls d H' => W cls d σ H')) (hg : Gl X x := by rfl)
    (hbind : ∀ (kV doc pm : Value) (an : Option Addr) (cdv ct : Value), bindArgs (PySem.W.fnOf x x (defArgs st) (defBody st) (defScope st) .none kV doc pm an cdv ct) ⟨[], []⟩ = pure [] := by intros; rfl)
    (hdb : (x == ("__debug__" : Str)) = false := by decide) : wE X (.Call (.Name x p) [] [] pos) σ H Q := by
  obtain ⟨f, kV, doc, pm, an, cdv, ct, hm, hk, F⟩ := D.ex
  refine ⟨fun pins s I => ?_⟩
  refine wpAny_Call_Name_kw (ld_glob I hg hm ?_ hdb)
  exact PySem.W.callWith_K0 I.kIn hk (ran (us := []) (us' := []) C F (.of_eq (hbind kV doc pm an cdv ct)) I .nil h)
/-- f(k = a, ..), nothing by its place -/
theorem e_callK0 {kws : List Keyword} {ks : List Str} {g : {α : Type} → List α → List α} (C : Cxt X k W) (D : Def X.prog X.w X.K X.mg X.base k x st ps sp)
    (h : wK X kws σ H fun zs H1 => sp (g zs) H1 Q (fun cls d H' => W cls d σ H')) (hrel : ∀ {vs : List V} {us : List Value}, Vals vs us → Vals (g vs) (g us)) (hg : Gl X x := by rfl)
    (hbind : ∀ (kV doc pm : Value) (an : Option Addr) (cdv ct : Value) (us : List Value), (g us).length = ps.length → bindArgs (PySem.W.fnOf x x (defArgs st) (defBody st) (defScope st) .none kV doc pm an cdv ct) ⟨[], ks.zip us⟩ = pure (ps.zip (g us)))
    (hall : (backToKw pos (keywordEach kws X.env)).all (·.1.isSome) = true := by rfl) (hks : (backToKw pos (keywordEach kws X.env)).filterMap (·.1) = ks := by rfl)
    (hdb : (x == ("__debug__" : Str)) = false := by decide)
    (hpl : ((backTo pos (starEach [] X.env)).any (·.1) || (backToKw pos (keywordEach kws X.env)).any (·.1.isNone)) = false := by rfl) : wE X (.Call (.Name x p) [] kws pos) σ H Q := by
  obtain ⟨f, kV, doc, pm, an, cdv, ct, hm, hk, F⟩ := D.ex
  refine ⟨fun pins s I => ?_⟩
  refine wpAny_Call_Name_kw (ld_glob I hg hm ?_ hdb)
  refine PySem.W.callWith_KW0 (h₀ := X.base) I.ok.mod.kin hk hall (thn (h.run pos pins s I) fun us s1 ⟨vs, H1, I1, r, q⟩ => ⟨I1.kIn, ?_⟩) hpl
  rw [hks]
  have r2 := hrel r
  exact ran (us := []) C F (.of_eq (hbind kV doc pm an cdv ct us (r2.length.symm.trans (F.len _ _ _ _ q)))) I1 r2 q
theorem ranG {f : Addr} {fd : FuncData} {us : List Value} {kw : List (Str × Value)} {us' : List Value} {vs' : List V} {pins : List (Addr × Obj)} {s : Shared} (C : Cxt X k W) (g : Gd X) (F : GFn X.prog X.w X.K X.mg X.base k f fd ps sp)
    (hb : BindsTo s fd ⟨us, kw⟩ (ps.zip us')) (I : Inv X pins σ H s) (r : Vals vs' us') (h : sp vs' H Q (fun cls d H' => W cls d σ H')) : wpAny (model X.prog X.w) X.A (call (.ref f) us kw) (EP X pins σ Q) X.xe s := by
  refine wpAny_call (codeAny_mono (F.run X.A X.stack s H ⟨us, kw⟩ us' vs' Q _ C.room g I.env0 hb r h) fun r s' hq => ?_)
  cases r with
  | error e => exact C.tk e s' (XE.of_call I (fun _ _ _ z => z) hq)
  | ok fl =>
    cases fl with
    | ret u => exact I.after hq
    | next => exact False.elim hq
    | brk => exact False.elim hq
    | cont => exact False.elim hq
theorem e_callG (C : Cxt X k W) (hgd : Gd X) (D : DefG X.prog X.w X.K X.mg X.base k x st ps sp)
    (h : wA X (e :: es) σ H fun vs H1 => sp vs H1 Q (fun cls d H' => W cls d σ H')) (hg : Gl X x := by rfl)
    (hbind : ∀ (kV doc pm : Value) (an : Option Addr) (cdv ct : Value) (us : List Value), us.length = ps.length → bindArgs (PySem.W.fnOf x x (defArgs st) (defBody st) (defScope st) .none kV doc pm an cdv ct) ⟨us, []⟩ = pure (ps.zip us))
    (hdb : (x == ("__debug__" : Str)) = false := by decide) (he : starEach (e :: es) X.env = (false, eval e X.env) :: starEach es X.env := by rfl) (hpl : (backTo pos (starEach es X.env)).any (·.1) = false := by rfl) :
    wE X (.Call (.Name x p) (e :: es) [] pos) σ H Q := by
  obtain ⟨f, kV, doc, pm, an, cdv, ct, hm, hk, F⟩ := D.ex
  refine ⟨fun pins s I => ?_⟩
  refine wpAny_Call_Name_kw (ld_glob I hg hm ?_ hdb)
  refine PySem.W.callWith_K (h₀ := X.base) I.ok.mod.kin hk (thn (h.run pos pins s I) fun us s1 ⟨vs, H1, I1, r, q⟩ => ⟨I1.kIn, ?_⟩) he hpl
  exact ranG C hgd F (.of_eq (hbind kV doc pm an cdv ct us (r.length.symm.trans (F.len _ _ _ _ q)))) I1 r q
theorem e_callG0 (C : Cxt X k W) (hgd : Gd X) (D : DefG X.prog X.w X.K X.mg X.base k x st [] sp) (h : sp [] H Q (fun cls d H' => W cls d σ H')) (hg : Gl X x := by rfl)
    (hbind : ∀ (kV doc pm : Value) (an : Option Addr) (cdv ct : Value), bindArgs (PySem.W.fnOf x x (defArgs st) (defBody st) (defScope st) .none kV doc pm an cdv ct) ⟨[], []⟩ = pure [] := by intros; rfl)
    (hdb : (x == ("__debug__" : Str)) = false := by decide) : wE X (.Call (.Name x p) [] [] pos) σ H Q := by
  obtain ⟨f, kV, doc, pm, an, cdv, ct, hm, hk, F⟩ := D.ex
  refine ⟨fun pins s I => ?_⟩
  refine wpAny_Call_Name_kw (ld_glob I hg hm ?_ hdb)
  exact PySem.W.callWith_K0 I.kIn hk (ranG (us := []) (us' := []) C hgd F (.of_eq (hbind kV doc pm an cdv ct)) I .nil h)
/-- f(k = a, ..), nothing by its place -/
theorem e_callGK0 {kws : List Keyword} {ks : List Str} {g : {α : Type} → List α → List α} (C : Cxt X k W) (hgd : Gd X) (D : DefG X.prog X.w X.K X.mg X.base k x st ps sp)
    (h : wK X kws σ H fun zs H1 => sp (g zs) H1 Q (fun cls d H' => W cls d σ H')) (hrel : ∀ {vs : List V} {us : List Value}, Vals vs us → Vals (g vs) (g us)) (hg : Gl X x := by rfl)
    (hbind : ∀ (kV doc pm : Value) (an : Option Addr) (cdv ct : Value) (us : List Value), (g us).length = ps.length → bindArgs (PySem.W.fnOf x x (defArgs st) (defBody st) (defScope st) .none kV doc pm an cdv ct) ⟨[], ks.zip us⟩ = pure (ps.zip (g us)))
    (hall : (backToKw pos (keywordEach kws X.env)).all (·.1.isSome) = true := by rfl) (hks : (backToKw pos (keywordEach kws X.env)).filterMap (·.1) = ks := by rfl)
    (hdb : (x == ("__debug__" : Str)) = false := by decide)
    (hpl : ((backTo pos (starEach [] X.env)).any (·.1) || (backToKw pos (keywordEach kws X.env)).any (·.1.isNone)) = false := by rfl) : wE X (.Call (.Name x p) [] kws pos) σ H Q := by
  obtain ⟨f, kV, doc, pm, an, cdv, ct, hm, hk, F⟩ := D.ex
  refine ⟨fun pins s I => ?_⟩
  refine wpAny_Call_Name_kw (ld_glob I hg hm ?_ hdb)
  refine PySem.W.callWith_KW0 (h₀ := X.base) I.ok.mod.kin hk hall (thn (h.run pos pins s I) fun us s1 ⟨vs, H1, I1, r, q⟩ => ⟨I1.kIn, ?_⟩) hpl
  rw [hks]
  have r2 := hrel r
  exact ranG (us := []) C hgd F (.of_eq (hbind kV doc pm an cdv ct us (r2.length.symm.trans (F.len _ _ _ _ q)))) I1 r2 q
end

/-! ### loops -/
section
variable {X : Cx} {k : Nat} {W : WX} {σ : L2.St} {H : Hp} {e a b c : Expr} {es : List Expr} {p pos : Pos}
theorem s_for {D : Ends} {tg iter : Expr} {body : List Stmt} (C : Cxt X k W)
    (h : wI X tg iter σ H fun J H1 => ∃ n G Y, Walk J n G Y ∧ ∃ Pv : Nat → L2.St → Hp → Prop, Pv 0 σ H1 ∧ (∀ i σ H, i ≤ n → Pv i σ H → G H) ∧
      (∀ i x σ H H', i < n → Pv i σ H → Y i H x H' → wG X tg x σ H' fun σ2 H2 => wB X body { D with nx := Pv (i + 1), ct := Pv (i + 1), bk := D.nx } σ2 H2) ∧ ∀ σ H, Pv n σ H → D.nx σ H)
    (hs : ∀ x, foldedSetIterable iter X.env x = pure x := by intro _; rfl) : wS X (.For tg iter body [] pos) D σ H := by
  refine eS (ps_for C.po C.calm pI pG pB hs) ⟨fun pins s I => ?_⟩
  refine wpAny_mono (h.run pins s I) (fun v s1 hv => ?_) fun _ _ z => z
  refine wpAny_mono hv (fun it s2 hi => ?_) fun _ _ z => z
  obtain ⟨itv, fp, tn, J, H', e1, I1, T, t0, f1, n, G, Y, w, Pv, h0, hG, hs, hd⟩ := hi
  exact ⟨itv, fp, tn, J, H', e1, I1, T, t0, f1, for_it w Pv h0 hG hs hd⟩
theorem wI_mono {tg iter : Expr} {R R' : It → Hp → Prop} (h : wI X tg iter σ H R) (k : ∀ J H', R J H' → R' J H') : wI X tg iter σ H R' := ⟨fun pins s I =>
  thn (h.run pins s I) fun v s1 hv => thn hv fun it s2 ⟨itv, fp, tn, J, H', e1, I1, T, t0, f1, r⟩ => ⟨itv, fp, tn, J, H', e1, I1, T, t0, f1, k J H' r⟩⟩
/-- the readings within a comprehension's block, whatever its context -/
def wEb (X : Cx) (scope : Scope) (e : Expr) : TE := fun σ H Q => ∀ (s : Shared) (H0 : Hp) (C : Addr) (cl : List (Str × Addr)) (fp : List Addr), wE (X.blk s H0 scope (compEnvC scope cl C X.env) fp) e σ H Q
def wGb (X : Cx) (scope : Scope) (e : Expr) : TG := fun v σ H Q => ∀ (s : Shared) (H0 : Hp) (C : Addr) (cl : List (Str × Addr)) (fp : List Addr), wG (X.blk s H0 scope (compEnvC scope cl C X.env) fp) e v σ H Q
def wIfb (X : Cx) (scope : Scope) (es : List Expr) : TT := fun σ H Q => ∀ (s : Shared) (H0 : Hp) (C : Addr) (cl : List (Str × Addr)) (fp : List Addr), wIf (X.blk s H0 scope (compEnvC scope cl C X.env) fp) es σ H Q
/-- one turn of a comprehension: x the item, D the list under way -/
def LcTurn (X : Cx) (scope : Scope) (vs : List Nat) (tg : Expr) (ifs : List Expr) (elt : Expr) (σ : L2.St) (D : Addr) (x : V) (H : Hp) (Nx : Hp → Prop) : Prop :=
  wGb X scope tg x (wipe σ vs) H fun σ2 H2 => wipe σ2 vs = wipe σ vs ∧ wIfb X scope ifs σ2 H2 fun b H3 =>
    if b = true then wEb X scope elt σ2 H3 fun y H4 => ∃ acc, H4 D = some (.lst acc) ∧ acc.length < sizeLine ∧ Nx (upd H4 D (.lst (acc ++ [y]))) else Nx H3
theorem e_lc {Q : VK} {elt tg iter : Expr} {ifs : List Expr} {scope : Scope} (own : List (Str × Nat)) (C : Cxt X k W)
    (h : wI X tg iter σ H fun J H1 => ∃ n G Y, Walk J n G Y ∧ ∀ D, H1 D = none → ∃ Pv : Nat → Hp → Prop, Pv 0 (upd H1 D (.lst [])) ∧ (∀ i H, i ≤ n → Pv i H → G H) ∧
      (∀ i x H H', i < n → Pv i H → Y i H x H' → LcTurn X scope (own.map (·.2)) tg ifs elt σ D x H' (Pv (i + 1))) ∧ ∀ H, Pv n H → Q (.ref D) H)
    (ok : BlkOk X.N X.env.scope scope own := by exact blkOk_by (by first | rfl | kernel_rfl)) (hs : ∀ x, foldedSetIterable iter X.env x = pure x := by intro _; rfl) :
    wE X (.ListComp elt [⟨tg, iter, ifs, 0⟩] scope pos) σ H Q := by
  refine eE (pe_lc (g := wGb X scope tg) (tt := wIfb X scope ifs) (te := wEb X scope elt) C.calm C.nd pI ok (fun s H C cl fp => ⟨fun pins s' σ' H' v u Q' I r hh => (hh s H C cl fp).run pins s' u I r⟩)
    (fun s H C cl fp => ⟨fun pins s' σ' H' Q' I hh => (hh s H C cl fp).run pins s' I⟩) (fun s H C cl fp => ⟨fun pins s' σ' H' Q' I hh => (hh s H C cl fp).run pins s' I⟩) hs) ?_
  refine wI_mono h fun J H1 hh => ?_
  obtain ⟨n, G, Y, w, hD⟩ := hh
  intro D hn
  obtain ⟨Pv, h0, hG, ht, hd⟩ := hD D hn
  exact lc_it w Pv h0 hG ht hd
theorem s_setLc {D : Ends} {i : Nat} {y : Str} {py spos : Pos} {elt tg iter : Expr} {ifs : List Expr} {scope : Scope} (own : List (Str × Nat)) (C : Cxt X k W)
    (h : wI X tg iter σ H fun J H1 => ∃ n G Y, Walk J n G Y ∧ ∀ L, H1 L = none → ∃ Pv : Nat → Hp → Prop, Pv 0 (upd H1 L (.lst [])) ∧ (∀ i H, i ≤ n → Pv i H → G H) ∧
      (∀ i x H H', i < n → Pv i H → Y i H x H' → LcTurn X scope (own.map (·.2)) tg ifs elt σ L x H' (Pv (i + 1))) ∧ ∀ H, Pv n H → D.nx (σ.set i (some (.ref L))) H)
    (hi : X.N[i]? = some y := by rfl) (hyl : X.env.scope.names.lookup y = some .local := by rfl)
    (hsw : swapsWith (.ListComp elt [⟨tg, iter, ifs, 0⟩] scope pos) (some (.Name y py)) spos.line X.env = pure true := by exact sw_true rfl rfl rfl (by first | rfl | kernel_rfl))
    (ok : BlkOk X.N X.env.scope scope own := by exact blkOk_by (by first | rfl | kernel_rfl)) (hs : ∀ x, foldedSetIterable iter X.env x = pure x := by intro _; rfl) :
    wS X (.Assign [.Name y py] (.ListComp elt [⟨tg, iter, ifs, 0⟩] scope pos) spos) D σ H := by
  refine eS (ps_setLc (g := wGb X scope tg) (tt := wIfb X scope ifs) (te := wEb X scope elt) C.calm C.nd hi hyl hsw pI ok (fun s H C cl fp => ⟨fun pins s' σ' H' v u Q' I r hh => (hh s H C cl fp).run pins s' u I r⟩)
    (fun s H C cl fp => ⟨fun pins s' σ' H' Q' I hh => (hh s H C cl fp).run pins s' I⟩) (fun s H C cl fp => ⟨fun pins s' σ' H' Q' I hh => (hh s H C cl fp).run pins s' I⟩) hs) ?_
  refine wI_mono h fun J H1 hh => ?_
  obtain ⟨n, G, Y, w, hD⟩ := hh
  intro L hn
  obtain ⟨Pv, h0, hG, ht, hd⟩ := hD L hn
  exact lc_it w Pv h0 hG ht hd
/-- a block without tests, its target a name -/
theorem lc_plain {scope : Scope} {vs : List Nat} {i : Nat} {y : Str} {elt : Expr} {D : Addr} {x : V} {Nx : Hp → Prop} (hN : X.N.Nodup)
    (h : wEb X scope elt ((wipe σ vs).set i (some x)) H fun y H4 => ∃ acc, H4 D = some (.lst acc) ∧ acc.length < sizeLine ∧ Nx (upd H4 D (.lst (acc ++ [y])))) (hw : wipe ((wipe σ vs).set i (some x)) vs = wipe σ vs := by rfl) (hi : X.N[i]? = some y := by rfl)
    (hx : Loc (relS scope X.env.scope) y := by first | exact Or.inl rfl | exact Or.inr rfl) (hf : (scope.names.lookup y == some .cell) = true ∨ (relS scope X.env.scope).names.lookup y = some .local := by first | exact .inl rfl | exact .inr rfl) :
    LcTurn X scope vs (.Name y p) [] elt σ D x H Nx := by
  intro s H0 C cl fp
  refine g_name (i := i) ?_ hN hi hx hf
  refine ⟨hw, fun s H0 C cl fp => eIf pts_nil ?_⟩
  exact h

/-! ### what is walked -/
theorem i_list {tg : Expr} {R : It → Hp → Prop} (h : wE X e σ H fun x H1 => ∃ a, x = .ref a ∧ (∃ xs, SqL X.K H1 a xs) ∧ R (Itl X.K a) H1) : wI X tg e σ H R := eI (pi_list pE) h
theorem i_tup {tg : Expr} {R : It → Hp → Prop} (h : wE X e σ H fun x H1 => ∃ a, x = .ref a ∧ (∃ xs, SqT X.K H1 a xs) ∧ R (Itt X.K a) H1) : wI X tg e σ H R := eI (pi_tup pE) h
theorem i_str {tg : Expr} {R : It → Hp → Prop} (h : wE X e σ H fun v H1 => ∃ x, v = .str x ∧ R (Its x) H1) : wI X tg e σ H R := eI (pi_str pE) h
theorem i_range1 {tg : Expr} {R : It → Hp → Prop} (B : Blt X.mg X.base) (h : wE X a σ H fun v H1 => ∃ j : Int, v = .int j ∧ -(2 ^ 62) ≤ j ∧ j < 2 ^ 62 ∧ R (Itr 0 j.toNat) H1) (hg : Gl X "range" := by rfl)
    (hs : starEach [a] X.env = [(false, eval a X.env)] := by rfl) : wI X tg (.Call (.Name "range" p) [a] [] pos) σ H R :=
  eI (pi_range1 hg B.range pA hs) (a_cons (wE_mono h fun v H1 ⟨j, e1, h1, h2, r⟩ => a_nil ⟨j, by rw [e1], h1, h2, r⟩) hs)
theorem i_range2 {tg : Expr} {R : It → Hp → Prop} (B : Blt X.mg X.base) (h : wE X a σ H fun v H1 => wE X b σ H1 fun u H2 => ∃ i j : Int, v = .int i ∧ u = .int j ∧ (-(2 ^ 62) ≤ i ∧ i < 2 ^ 62 ∧ -(2 ^ 62) ≤ j ∧ j < 2 ^ 62) ∧ R (Itr i (j - i).toNat) H2) (hg : Gl X "range" := by rfl)
    (hs : starEach [a, b] X.env = [(false, eval a X.env), (false, eval b X.env)] := by rfl) (hs2 : starEach [b] X.env = [(false, eval b X.env)] := by rfl) : wI X tg (.Call (.Name "range" p) [a, b] [] pos) σ H R :=
  eI (pi_range2 hg B.range pA hs hs2) (a_cons (wE_mono h fun v H1 q => a_cons (wE_mono q fun u H2 ⟨i, j, e1, e2, h1, r⟩ => a_nil ⟨i, j, by rw [e1, e2], h1, r⟩) hs2) (by rw [hs, hs2]))
theorem i_range3 {tg : Expr} {R : It → Hp → Prop} (B : Blt X.mg X.base) (h : wA X [a, b, c] σ H fun vs H1 => ∃ (i j c : Int) (n : Nat), vs = [.int i, .int j, .int c] ∧ RgC i j c n ∧ R (Itc i c n) H1) (hg : Gl X "range" := by rfl)
    (hs : starEach [a, b, c] X.env = (false, eval a X.env) :: starEach [b, c] X.env := by rfl) (hpl : (backTo pos (starEach [b, c] X.env)).any (·.1) = false := by rfl) : wI X tg (.Call (.Name "range" p) [a, b, c] [] pos) σ H R := eI (pi_range3 hg B.range pA hs hpl) h
theorem i_enum {R : It → Hp → Prop} {elts : List Expr} {kk : Nat} {tpos : Pos} (B : Blt X.mg X.base) (h : wE X e σ H fun v H1 => ∃ a xs, v = .ref a ∧ SqL X.K H1 a xs ∧ R (Ite X.K a) H1) (hg : Gl X "enumerate" := by rfl) (hs : starEach [e] X.env = [(false, eval e X.env)] := by rfl) :
    wI X (.Tuple elts kk tpos) (.Call (.Name "enumerate" p) [e] [] pos) σ H R :=
  eI (pi_enum hg B.enumerate pA hs) (a_cons (wE_mono h fun v H1 ⟨a, xs, e1, h1, r⟩ => a_nil ⟨a, xs, by rw [e1], h1, r⟩) hs)
end

/-! ### built-ins -/
structure cW (X : Cx) (f : Value) (xs : List V) (H : Hp) (Q : VK) : Prop where
  run : ∀ pins s σ us, Inv X pins σ H s → Vals xs us → wpAny (model X.prog X.w) X.A (call f us) (EP X pins σ Q) X.xe s
theorem cR {X : Cx} {f : Value} : CallR X f (cW X f) := fun pins s σ _ _ us _ I r h => h.run pins s σ us I r
theorem cW_of {X : Cx} {f : Value} {r : List V → Hp → VK → Prop} {xs : List V} {H : Hp} {Q : VK} (p : CallR X f r) (h : r xs H Q) : cW X f xs H Q := ⟨fun pins s σ us I rv => p pins s σ H xs us Q I rv h⟩
section
variable {X : Cx} {k : Nat} {W : WX} {σ : L2.St} {H : Hp} {x : Str} {e a b : Expr} {es : List Expr} {p pos : Pos} {Q : VK}
theorem e_B {id : String} (h : wA X (e :: es) σ H fun vs H1 => cW X (.builtin id) vs H1 Q) (hm : X.mg x = none) (hv : bootBuiltins x = some (.builtin id)) (hg : Gl X x := by rfl) (hn : x ≠ "__name__" := by decide) (hdb : (x == ("__debug__" : Str)) = false := by decide)
    (he : starEach (e :: es) X.env = (false, eval e X.env) :: starEach es X.env := by rfl) (hpl : (backTo pos (starEach es X.env)).any (·.1) = false := by rfl) : wE X (.Call (.Name x p) (e :: es) [] pos) σ H Q := eE (pe_callB cR hg hm hv pA hn hdb he hpl) h
theorem e_Ty {T : String} (h : wA X (e :: es) σ H fun vs H1 => cW X (.type T) vs H1 Q) (hm : X.mg x = none) (hv : bootBuiltins x = some (.type T)) (hg : Gl X x := by rfl) (hn : x ≠ "__name__" := by decide) (hdb : (x == ("__debug__" : Str)) = false := by decide)
    (he : starEach (e :: es) X.env = (false, eval e X.env) :: starEach es X.env := by rfl) (hpl : (backTo pos (starEach es X.env)).any (·.1) = false := by rfl) : wE X (.Call (.Name x p) (e :: es) [] pos) σ H Q := eE (pe_callTy cR hg hm hv pA hn hdb he hpl) h
theorem e_len (B : Blt X.mg X.base) (h : wE X a σ H fun x H1 => ∃ n, LenV X.K x H1 n ∧ Q (.int n) H1) (hg : Gl X "len" := by rfl) (hs : starEach [a] X.env = [(false, eval a X.env)] := by rfl) : wE X (.Call (.Name "len" p) [a] [] pos) σ H Q :=
  e_B (id := "len") (a_cons (wE_mono h fun x H1 ⟨n, l, q⟩ => a_nil (cW_of call_len ⟨x, n, rfl, l, q⟩)) hs) B.len PySem.boot_len hg (by decide) (by decide) hs rfl
theorem e_abs (B : Blt X.mg X.base) (h : wE X a σ H fun x H1 => ∃ i, x = .int i ∧ Q (.int (if i < 0 then -i else i)) H1) (hg : Gl X "abs" := by rfl) (hs : starEach [a] X.env = [(false, eval a X.env)] := by rfl) : wE X (.Call (.Name "abs" p) [a] [] pos) σ H Q :=
  e_B (id := "abs") (a_cons (wE_mono h fun x H1 ⟨n, l, q⟩ => a_nil (cW_of call_abs ⟨n, by rw [l], q⟩)) hs) B.abs PyProof.Rows.boot_abs hg (by decide) (by decide) hs rfl
theorem e_int1 (B : Blt X.mg X.base) (h : wE X a σ H fun x H1 => ∃ i, x = .int i ∧ Q (.int i) H1) (hg : Gl X "int" := by rfl) (hs : starEach [a] X.env = [(false, eval a X.env)] := by rfl) : wE X (.Call (.Name "int" p) [a] [] pos) σ H Q :=
  e_Ty (T := "int") (a_cons (wE_mono h fun x H1 ⟨n, l, q⟩ => a_nil (cW_of call_int1 (.inl ⟨n, by rw [l], q⟩))) hs) B.int PyProof.Rows.boot_int hg (by decide) (by decide) hs rfl
theorem e_max2 (C : Cxt X k W) (h : wE X a σ H fun x H1 => wE X b σ H1 fun y H2 => ∃ i j, x = .int i ∧ y = .int j ∧ Q (.int (if j > i then j else i)) H2) (hg : Gl X "max" := by rfl) (hs : starEach [a, b] X.env = (false, eval a X.env) :: starEach [b] X.env := by rfl)
    (hs2 : starEach [b] X.env = [(false, eval b X.env)] := by rfl) : wE X (.Call (.Name "max" p) [a, b] [] pos) σ H Q :=
  e_B (id := "max") (a_cons (wE_mono h fun x H1 q => a_cons (wE_mono q fun y H2 ⟨i, j, e1, e2, q⟩ => a_nil (cW_of (call_max2 C.calm) ⟨i, j, by rw [e1, e2], q⟩)) hs2) hs) C.blt.max PyProof.Rows.boot_max hg (by decide) (by decide) hs (by rw [hs2]; rfl)
theorem e_min2 (C : Cxt X k W) (h : wE X a σ H fun x H1 => wE X b σ H1 fun y H2 => ∃ i j, x = .int i ∧ y = .int j ∧ Q (.int (if j < i then j else i)) H2) (hg : Gl X "min" := by rfl) (hs : starEach [a, b] X.env = (false, eval a X.env) :: starEach [b] X.env := by rfl)
    (hs2 : starEach [b] X.env = [(false, eval b X.env)] := by rfl) : wE X (.Call (.Name "min" p) [a, b] [] pos) σ H Q :=
  e_B (id := "min") (a_cons (wE_mono h fun x H1 q => a_cons (wE_mono q fun y H2 ⟨i, j, e1, e2, q⟩ => a_nil (cW_of (call_min2 C.calm) ⟨i, j, by rw [e1, e2], q⟩)) hs2) hs) C.blt.min PyProof.Rows.boot_min hg (by decide) (by decide) hs (by rw [hs2]; rfl)
theorem e_divmod (B : Blt X.mg X.base) (h : wE X a σ H fun x H1 => wE X b σ H1 fun y H2 => ∃ i j, x = .int i ∧ y = .int j ∧ CDiv i j ∧ ∀ p, H2 p = none → Q (.ref p) (upd H2 p (.tup [.int (i / j), .int (i % j)]))) (hg : Gl X "divmod" := by rfl)
    (hs : starEach [a, b] X.env = (false, eval a X.env) :: starEach [b] X.env := by rfl) (hs2 : starEach [b] X.env = [(false, eval b X.env)] := by rfl) : wE X (.Call (.Name "divmod" p) [a, b] [] pos) σ H Q :=
  e_B (id := "divmod") (a_cons (wE_mono h fun x H1 q => a_cons (wE_mono q fun y H2 ⟨i, j, e1, e2, q⟩ => a_nil (cW_of call_divmod ⟨i, j, by rw [e1, e2], q⟩)) hs2) hs) B.divmod PyProof.Rows.boot_divmod hg (by decide) (by decide) hs (by rw [hs2]; rfl)
theorem e_all (C : Cxt X k W) (h : wE X a σ H fun x H1 => ∃ (q : Addr) (bs : List Bool), x = .ref q ∧ SqL X.K H1 q (bs.map V.bl) ∧ Q (.bl (bs.all id)) H1) (hg : Gl X "all" := by rfl) (hs : starEach [a] X.env = [(false, eval a X.env)] := by rfl) : wE X (.Call (.Name "all" p) [a] [] pos) σ H Q :=
  e_B (id := "all") (a_cons (wE_mono h fun x H1 ⟨n, bs, e1, l, q⟩ => a_nil (cW_of (cr_all C.calm) ⟨n, bs, by rw [e1], l, q⟩)) hs) C.blt.all PyProof.Rows.boot_all hg (by decide) (by decide) hs rfl
theorem e_any (C : Cxt X k W) (h : wE X a σ H fun x H1 => ∃ (q : Addr) (bs : List Bool), x = .ref q ∧ SqL X.K H1 q (bs.map V.bl) ∧ Q (.bl (bs.any id)) H1) (hg : Gl X "any" := by rfl) (hs : starEach [a] X.env = [(false, eval a X.env)] := by rfl) : wE X (.Call (.Name "any" p) [a] [] pos) σ H Q :=
  e_B (id := "any") (a_cons (wE_mono h fun x H1 ⟨n, bs, e1, l, q⟩ => a_nil (cW_of (cr_any C.calm) ⟨n, bs, by rw [e1], l, q⟩)) hs) C.blt.any PyProof.Rows.boot_any hg (by decide) (by decide) hs rfl

/-! ### subscripts, slices, methods -/
/-- v[i], by values -/
structure iW (X : Cx) (x y : V) (H : Hp) (Q : VK) : Prop where
  run : ∀ (value slice : Expr) pins s σ v u, Inv X pins σ H s → RelV x v → RelV y u → subscripted slice false v u = operate [v, u] (getItem v u) → wpAny (model X.prog X.w) X.A (subscriptTail value slice v u) (EP X pins σ Q) X.xe s
theorem e_ix (h : wE X a σ H fun x H1 => wE X b σ H1 fun y H2 => iW X x y H2 Q) (hs : PlainIx b := by exact fun _ _ => rfl) : wE X (.Subscript a b pos) σ H Q :=
  eE (pe_ix (r := iW X) (fun value slice pins s σ _ _ _ v u _ I rx ry h he => h.run value slice pins s σ v u I rx ry he) pE pE hs) h
theorem iW_of {r : R2} {x y : V} (p : IxR X r) (h : r x y H Q) : iW X x y H Q := ⟨fun value slice pins s σ v u I rx ry he => p value slice pins s σ H x y v u Q I rx ry h he⟩
theorem ix_l {q : Addr} {xs : List V} {i : Int} {v : V} (hq : SqL X.K H q xs) (ha : atI xs i = some v) (h : Q v H) : iW X (.ref q) (.int i) H Q := iW_of ix_list ⟨q, xs, i, v, rfl, rfl, hq, ha, h⟩
theorem ix_t {q : Addr} {xs : List V} {i : Int} {v : V} (hq : SqT X.K H q xs) (ha : atI xs i = some v) (h : Q v H) : iW X (.ref q) (.int i) H Q := iW_of ix_tup ⟨q, xs, i, v, rfl, rfl, hq, ha, h⟩
theorem ix_s {z : Str} {i : Int} {c : Nat} (hz : z.length ≤ sizeLine) (ha : atI z.cps.toList i = some c) (h : Q (.str ⟨#[c]⟩) H) : iW X (.str z) (.int i) H Q := iW_of ix_str ⟨z, i, c, rfl, rfl, hz, ha, h⟩
theorem set_l {q : Addr} {xs : List V} {i : Int} {j : Nat} {v : V} {R : Hp → Prop} (hq : H q = some (.lst xs)) (hj : ixN xs.length i = some j) (h : R (upd H q (.lst (xs.set j v)))) : sW X (.ref q) (.int i) v H R := sW_of set_list ⟨q, xs, i, j, rfl, rfl, hq, hj, h⟩
end
end Z

set_option Elab.async false
set_option linter.all false
set_option maxRecDepth 100000
set_option maxHeartbeats 4000000
/-! Data: what a value holds as a whole; none of its lists and dicts among l (those that may change) -/
namespace Z
open PySem PySem.Spec PyProof.Rows L2

/-- all but what stands at l is as it was -/
def But (l : List Addr) (H H' : Hp) : Prop := ∀ q o, q ∉ l → H q = some o → H' q = some o
theorem But.refl {l : List Addr} {H : Hp} : But l H H := fun _ _ _ h => h
theorem But.trans {l : List Addr} {H H1 H2 : Hp} (a : But l H H1) (b : But l H1 H2) : But l H H2 := fun q o n h => b q o n (a q o n h)
theorem But.new {l : List Addr} {H : Hp} {p : Addr} {o : HO} (h : H p = none) : But l H (upd H p o) := fun q u _ e => by rw [upd_ne (ne_of_none e h)]; exact e
theorem But.at {l : List Addr} {H : Hp} {p : Addr} {o : HO} (h : p ∈ l) : But l H (upd H p o) := fun q u n e => by
  have : q ≠ p := fun z => n (z ▸ h)
  rw [upd_ne this]; exact e
theorem But.mono {l m : List Addr} {H H' : Hp} (a : But l H H') (h : ∀ q ∈ l, q ∈ m) : But m H H' := fun q o n e => a q o (fun z => n (h q z)) e
theorem But.of {H H' : Hp} {l : List Addr} (a : But [] H H') : But l H H' := a.mono fun _ h => nomatch h
theorem But.free {H H' : Hp} (a : But [] H H') {p : Addr} (h : H' p = none) : H p = none := by
  cases e : H p with
  | none => rfl
  | some o => rw [a p o (by simp) e] at h; cases h
theorem But.freeL {l : List Addr} {H H' : Hp} (a : But l H H') {p : Addr} (n : p ∉ l) (h : H' p = none) : H p = none := by
  cases e : H p with
  | none => rfl
  | some o => rw [a p o n e] at h; cases h
theorem But.sql {K : PySem.W.Frag} {l : List Addr} {H H' : Hp} {a : Addr} {xs : List V} (b : But l H H') (n : a ∉ l) (h : SqL K H a xs) : SqL K H' a xs := by
  rcases h with (h | ⟨o, h⟩) | h
  · exact .inl (.inl (b _ _ n h))
  · exact .inl (.inr ⟨o, b _ _ n h⟩)
  · exact .inr h
theorem But.sqt {K : PySem.W.Frag} {l : List Addr} {H H' : Hp} {a : Addr} {xs : List V} (b : But l H H') (n : a ∉ l) (h : SqT K H a xs) : SqT K H' a xs := by
  rcases h with (h | ⟨o, h⟩) | h
  · exact .inl (.inl (b _ _ n h))
  · exact .inl (.inr ⟨o, b _ _ n h⟩)
  · exact .inr h

def keyD : Key → PyData
  | .inl i => .int i
  | .inr x => .str x
mutual
inductive DD (K : PySem.W.Frag) (l : List Addr) (H : Hp) : V → PyData → Prop
  | non : DD K l H .non .none
  | bl (b : Bool) : DD K l H (.bl b) (.bool b)
  | int (i : Int) : DD K l H (.int i) (.int i)
  | str (x : Str) : DD K l H (.str x) (.str x)
  | lst {a : Addr} {xs : List V} {ds : List PyData} : SqL K H a xs → a ∉ l → DDs K l H xs ds → DD K l H (.ref a) (.list ds)
  | tup {a : Addr} {xs : List V} {ds : List PyData} : SqT K H a xs → a ∉ l → DDs K l H xs ds → DD K l H (.ref a) (.tuple ds)
  | dct {a : Addr} {kvs : List (Key × V)} {ds : List PyData} : H a = some (.dK kvs) → a ∉ l → DDs K l H (kvs.map (·.2)) ds → DD K l H (.ref a) (.dict ((kvs.map fun q => keyD q.1).zip ds))
inductive DDs (K : PySem.W.Frag) (l : List Addr) (H : Hp) : List V → List PyData → Prop
  | nil : DDs K l H [] []
  | cons {v : V} {vs : List V} {d : PyData} {ds : List PyData} : DD K l H v d → DDs K l H vs ds → DDs K l H (v :: vs) (d :: ds)
end
section
variable {K : PySem.W.Frag} {l m : List Addr} {H H' : Hp}
mutual
theorem DD.but (b : But l H H') : ∀ {v : V} {d : PyData}, DD K l H v d → DD K l H' v d
  | _, _, .non => .non
  | _, _, .bl x => .bl x
  | _, _, .int x => .int x
  | _, _, .str x => .str x
  | _, _, .lst h n r => .lst (b.sql n h) n (DDs.but b r)
  | _, _, .tup h n r => .tup (b.sqt n h) n (DDs.but b r)
  | _, _, .dct h n r => .dct (b _ _ n h) n (DDs.but b r)
theorem DDs.but (b : But l H H') : ∀ {vs : List V} {ds : List PyData}, DDs K l H vs ds → DDs K l H' vs ds
  | _, _, .nil => .nil
  | _, _, .cons h r => .cons (DD.but b h) (DDs.but b r)
end
mutual
theorem DD.less (b : ∀ q ∈ m, q ∈ l) : ∀ {v : V} {d : PyData}, DD K l H v d → DD K m H v d
  | _, _, .non => .non
  | _, _, .bl x => .bl x
  | _, _, .int x => .int x
  | _, _, .str x => .str x
  | _, _, .lst h n r => .lst h (fun z => n (b _ z)) (DDs.less b r)
  | _, _, .tup h n r => .tup h (fun z => n (b _ z)) (DDs.less b r)
  | _, _, .dct h n r => .dct h (fun z => n (b _ z)) (DDs.less b r)
theorem DDs.less (b : ∀ q ∈ m, q ∈ l) : ∀ {vs : List V} {ds : List PyData}, DDs K l H vs ds → DDs K m H vs ds
  | _, _, .nil => .nil
  | _, _, .cons h r => .cons (DD.less b h) (DDs.less b r)
end
theorem DDs.length : ∀ {vs : List V} {ds : List PyData}, DDs K l H vs ds → vs.length = ds.length
  | _, _, .nil => rfl
  | _, _, .cons _ r => congrArg Nat.succ (DDs.length r)
theorem DDs.get : ∀ {vs : List V} {ds : List PyData} {i : Nat} {v : V}, DDs K l H vs ds → vs[i]? = some v → ∃ d, ds[i]? = some d ∧ DD K l H v d
  | _, _, _, _, .nil, h => by simp at h
  | _, _, 0, _, .cons h _, e => by simp at e; subst e; exact ⟨_, rfl, h⟩
  | _, _, i + 1, _, .cons _ r, e => by
    obtain ⟨d, h1, h2⟩ := DDs.get (i := i) r (by simpa using e)
    exact ⟨d, by simpa using h1, h2⟩
theorem DDs.strs : ∀ ys : List Str, DDs K l H (ys.map V.str) (ys.map PyData.str)
  | [] => .nil
  | y :: ys => .cons (.str y) (DDs.strs ys)
theorem DDs.append : ∀ {vs ws : List V} {ds es : List PyData}, DDs K l H vs ds → DDs K l H ws es → DDs K l H (vs ++ ws) (ds ++ es)
  | _, _, _, _, .nil, s => s
  | _, _, _, _, .cons h r, s => .cons h (DDs.append r s)
mutual
theorem DD.dp : ∀ {v : V} {d : PyData}, DD K l H v d → d.hasDict = false → Dp K H v d
  | _, _, .non, _ => .non
  | _, _, .bl x, _ => .bl x
  | _, _, .int x, _ => .int x
  | _, _, .str x, _ => .str x
  | _, _, .lst h n r, e => .lst h (DDs.dp r (by simpa [PyData.hasDict] using e))
  | _, _, .tup h n r, e => .tup h (DDs.dp r (by simpa [PyData.hasDict] using e))
  | _, _, .dct h n r, e => by simp [PyData.hasDict] at e
theorem DDs.dp : ∀ {vs : List V} {ds : List PyData}, DDs K l H vs ds → PyData.hasDictAll ds = false → DpAll K H vs ds
  | _, _, .nil, _ => .nil
  | _, _, .cons h r, e => by
    simp only [PyData.hasDictAll, Bool.or_eq_false_iff] at e
    exact .cons (DD.dp h e.1) (DDs.dp r e.2)
end
end

/-! ### what is read of it -/
theorem keyD_reads {h : Heap} {k : Key} {v : Value} (e : keyIs k v = true) : Reads h v (keyD k) [] := by
  rcases keyIs_shape e with ⟨i, t, rfl, rfl⟩ | ⟨x, t, rfl, rfl⟩
  · exact .int i t
  · exact .str x t
section
variable {X : Cx} {pins : List (Addr × Obj)} {σ : L2.St} {l : List Addr} {H : Hp} {s : Shared}
/-- at sysModules there is no list and no tracked dict -/
abbrev SysFree (X : Cx) : Prop := ∃ o es ep, X.base.get? sysModules = some o ∧ o.data = .dict es ep
theorem sys_noL (Y : SysFree X) (I : Inv X pins σ H s) {a : Addr} {xs : List V} (h : SqL X.K H a xs) : a ≠ sysModules := fun z => by
  subst z
  obtain ⟨o, es, ep, h1, h2⟩ := Y
  obtain ⟨its, rv, ⟨o', n, ho, hc, _, hd⟩, _⟩ := I.list h
  rw [(I.bs _ _ h1).1] at ho
  cases ho
  rw [h2] at hd
  cases hd
theorem sys_noD (Y : SysFree X) (I : Inv X pins σ H s) {a : Addr} {u : HO} (h : H a = some u) : a ≠ sysModules := fun z => by
  subst z
  obtain ⟨o, es, ep, h1, h2⟩ := Y
  rw [(I.bs _ _ h1).2] at h
  cases h
theorem readsAll_keys {P : Program} {w : World} (h : Heap) : ∀ {kvs : List (Key × V)} {vs : List (Key × Value)} {es : List DictEntry}, KV kvs vs → Pairs (mixKind P w) es vs → ReadsAll h (es.map (·.key)) (kvs.map fun q => keyD q.1) []
  | _, _, _, .nil, .nil => .nil
  | _, _, _, .cons r1 r, .cons e1 e2 e => by
    have q := readsAll_keys h r e
    have k1 := keyD_reads (h := h) (show keyIs _ _ = true from e1)
    rw [← r1.1] at k1
    exact ReadsAll.cons k1 q
theorem pairs_vals {P : Program} {w : World} : ∀ {es : List DictEntry} {vs : List (Key × Value)}, Pairs (mixKind P w) es vs → es.map (·.val) = vs.map (·.2)
  | _, _, .nil => rfl
  | _, _, .cons _ e2 e => by rw [List.map_cons, List.map_cons, e2, pairs_vals e]
theorem vals_of {kvs : List (Key × V)} {vs : List (Key × Value)} (r : KV kvs vs) : Vals (kvs.map (·.2)) (vs.map (·.2)) := by
  induction r with
  | nil => exact .nil
  | cons h _ ih => exact .cons h.2 ih
mutual
theorem DD.reads (Y : SysFree X) (I : Inv X pins σ H s) : ∀ {v : V} {d : PyData} {u : Value}, DD X.K l H v d → RelV v u → ∃ as, Reads s.heap u d as ∧ sysModules ∉ as
  | _, _, _, .non, r => by cases r; exact ⟨_, Reads.none, by simp⟩
  | _, _, _, .bl b, r => by cases r; exact ⟨_, Reads.bool b, by simp⟩
  | _, _, _, .int i, r => by obtain ⟨t, rfl⟩ := r; exact ⟨_, Reads.int i t, by simp⟩
  | _, _, _, .str x, r => by obtain ⟨t, rfl⟩ := r; exact ⟨_, Reads.str x t, by simp⟩
  | _, _, _, .lst h n ha, r => by
    cases r
    have ne := sys_noL Y I h
    obtain ⟨its, rv, ⟨o, n, ho, hc, _, hd⟩, _⟩ := I.list h
    obtain ⟨as, hr, na⟩ := DDs.reads Y I ha rv
    exact ⟨_, Reads.list ho hc hd hr, by simp [na, Ne.symm ne]⟩
  | _, _, _, .tup h n ha, r => by
    cases r
    obtain ⟨its, rv, ⟨o, ho, hc, n, hd⟩, _⟩ := I.tuple h
    obtain ⟨as, hr, na⟩ := DDs.reads Y I ha rv
    exact ⟨_, Reads.tuple ho hc hd hr, na⟩
  | _, _, _, .dct (a := a) (kvs := kvs) (ds := ds) h n ha, r => by
    cases r
    have ne := sys_noD Y I h
    obtain ⟨_, _, vs, rk, o, es, ep, ho, hx, hd, _, hp, _⟩ := I.hok a _ h
    have hv := pairs_vals hp
    obtain ⟨as, hr, na⟩ := DDs.reads Y I ha (vals_of rk)
    have hl := DDs.length ha
    refine ⟨_, Reads.dict (as := []) (bs := as) ho hx.1 hd ?_ ?_, by simp [na, Ne.symm ne]⟩
    · rw [List.map_fst_zip (by simpa using Nat.le_of_eq hl)]
      exact readsAll_keys _ rk hp
    · rw [List.map_snd_zip (by simpa using Nat.le_of_eq hl.symm), hv]
      exact hr
theorem DDs.reads (Y : SysFree X) (I : Inv X pins σ H s) : ∀ {vs : List V} {ds : List PyData} {us : List Value}, DDs X.K l H vs ds → Vals vs us → ∃ as, ReadsAll s.heap us ds as ∧ sysModules ∉ as
  | _, _, _, .nil, .nil => ⟨_, ReadsAll.nil, by simp⟩
  | _, _, _, .cons h r, .cons r1 r2 => by
    obtain ⟨as, q1, n1⟩ := DD.reads Y I h r1
    obtain ⟨bs, q2, n2⟩ := DDs.reads Y I r r2
    exact ⟨_, ReadsAll.cons q1 q2, by simp [n1, n2]⟩
end
/-! ### repr -/
theorem call_reprD (Y : SysFree X) (hg : X.A.guards = some []) (hu : X.A.units + 66 < cLine) : CallR X (.builtin "repr") (fun xs H Q => ∃ v l d, xs = [v] ∧ DD X.K l H v d ∧ d.showable = true ∧ d.depth ≤ 64 ∧ d.shown.length ≤ sizeLine ∧ Q (.str d.shown) H) := by
  intro pins s σ H xs us Q I r h
  obtain ⟨v, l, d, rfl, hd, hs, hdp, hz, q⟩ := h
  obtain ⟨u, rfl, r1⟩ := vals1 r
  have fin : ∀ {h' : Heap} {t tk}, (∀ b o, s.heap.get? b = some o → h'.get? b = some o) → EP X pins σ Q (.str d.shown t) { s with heap := h', toks := tk } := fun k => ⟨.str d.shown, H, I.kept k, ⟨_, rfl⟩, q⟩
  cases hd with
  | non =>
    cases r1
    rw [PyData.shown_none] at fin
    exact PySem.P.repr_of_none (fin fun _ _ e => e)
  | bl b =>
    cases r1
    rw [PyData.shown_bool] at fin
    refine PySem.P.repr_of_bool ?_
    have := fin (t := s.toks) (tk := s.toks + 1) (h' := s.heap) fun _ _ e => e
    cases b <;> exact this
  | int i =>
    obtain ⟨t, rfl⟩ := r1
    rw [PyData.shown_int] at fin
    exact PySem.P.repr_of_int (by simpa [PyData.showable] using hs) (fin fun _ _ e => e)
  | str x =>
    obtain ⟨t, rfl⟩ := r1
    rw [PyData.shown_str] at fin hz
    exact PySem.P.repr_of_str (fin fun _ _ e => e) hz
  | @lst a xs ds h1 h2 h3 =>
    obtain rfl : u = Value.ref a := r1
    obtain ⟨as, hr, na⟩ := DD.reads Y I (.lst h1 h2 h3) (u := .ref a) rfl
    exact repr_of_reads' hr hs (fun _ => na) hg (by omega) (fun _ _ e => e) (fun h' u tk k => fin k) hz
  | @tup a xs ds h1 h2 h3 =>
    obtain rfl : u = Value.ref a := r1
    obtain ⟨as, hr, na⟩ := DD.reads Y I (.tup h1 h2 h3) (u := .ref a) rfl
    exact repr_of_reads' hr hs (fun _ => na) hg (by omega) (fun _ _ e => e) (fun h' u tk k => fin k) hz
  | @dct a kvs ds h1 h2 h3 =>
    obtain rfl : u = Value.ref a := r1
    obtain ⟨as, hr, na⟩ := DD.reads Y I (.dct h1 h2 h3) (u := .ref a) rfl
    exact repr_of_reads' hr hs (fun _ => na) hg (by omega) (fun _ _ e => e) (fun h' u tk k => fin k) hz
end
end Z

set_option Elab.async false
set_option linter.all false
set_option maxRecDepth 100000
set_option maxHeartbeats 4000000
namespace Z
open PySem PySem.Spec PyProof.Rows L2

/-! ### repr, isinstance, == of data -/
section
variable {X : Cx} {k : Nat} {W : WX} {σ : L2.St} {H : Hp} {x : Str} {e a b : Expr} {es : List Expr} {p pos : Pos} {Q : VK}
theorem e_repr (B : Blt X.mg X.base) (hg : X.A.guards = some []) (hu : X.A.units + 66 < cLine)
    (h : wE X a σ H fun v H1 => ∃ l d, DD X.K l H1 v d ∧ d.showable = true ∧ d.depth ≤ 64 ∧ d.shown.length ≤ sizeLine ∧ Q (.str d.shown) H1) (hgl : Gl X "repr" := by rfl) (hs : starEach [a] X.env = [(false, eval a X.env)] := by rfl) :
    wE X (.Call (.Name "repr" p) [a] [] pos) σ H Q :=
  e_B (id := "repr") (a_cons (wE_mono h fun v H1 ⟨l, d, h1, h2, h3, h4, q⟩ => a_nil (cW_of (call_reprD B.sys hg hu) ⟨v, l, d, rfl, h1, h2, h3, h4, q⟩)) hs) B.repr PyProof.Rows.boot_repr hgl (by decide) (by decide) hs rfl
theorem Cxt.un (C : Cxt X k W) : X.A.units + 66 < cLine := by have := C.room.un; omega
/-- the name of a data's type -/
def tyD : PyData → String
  | .none => "NoneType" | .bool _ => "bool" | .int _ => "int" | .str _ => "str" | .list _ => "list" | .tuple _ => "tuple" | .dict _ => "dict"
theorem DD.tyx {K : PySem.W.Frag} {l : List Addr} {v : V} {d : PyData} (h : DD K l H v d) : TyX K H v (.type (tyD d)) := by
  cases h with
  | non => exact .base .non
  | bl b => exact .base (.bl b)
  | int i => exact .base (.int i)
  | str x => exact .base (.str x)
  | lst h1 h2 h3 =>
    rcases h1 with (h1 | ⟨o, h1⟩) | ⟨o, its, n, h1, h4, _⟩
    · exact .base (.lst h1)
    · exact .base (.frz h1)
    · exact .kList h1 h4
  | tup h1 h2 h3 =>
    rcases h1 with (h1 | ⟨o, h1⟩) | ⟨o, its, n, h1, h4, _⟩
    · exact .base (.tup h1)
    · exact .fTuple h1
    · exact .kTuple h1 h4
  | dct h1 h2 h3 => exact .base (.dK h1)
def isInt : PyData → Bool | .int _ => true | .bool _ => true | _ => false
def isBool : PyData → Bool | .bool _ => true | _ => false
def isStr : PyData → Bool | .str _ => true | _ => false
def isList : PyData → Bool | .list _ => true | _ => false
def isTuple : PyData → Bool | .tuple _ => true | _ => false
def isDict : PyData → Bool | .dict _ => true | _ => false
theorem kit_int : ∀ d : PyData, kitB (tyD d) "int" = some (isInt d)
  | .none => (by decide +kernel : kitB "NoneType" "int" = some false)
  | .bool _ => (by decide +kernel : kitB "bool" "int" = some true)
  | .int _ => (by decide +kernel : kitB "int" "int" = some true)
  | .str _ => (by decide +kernel : kitB "str" "int" = some false)
  | .list _ => (by decide +kernel : kitB "list" "int" = some false)
  | .tuple _ => (by decide +kernel : kitB "tuple" "int" = some false)
  | .dict _ => (by decide +kernel : kitB "dict" "int" = some false)
theorem kit_bool : ∀ d : PyData, kitB (tyD d) "bool" = some (isBool d)
  | .none => (by decide +kernel : kitB "NoneType" "bool" = some false)
  | .bool _ => (by decide +kernel : kitB "bool" "bool" = some true)
  | .int _ => (by decide +kernel : kitB "int" "bool" = some false)
  | .str _ => (by decide +kernel : kitB "str" "bool" = some false)
  | .list _ => (by decide +kernel : kitB "list" "bool" = some false)
  | .tuple _ => (by decide +kernel : kitB "tuple" "bool" = some false)
  | .dict _ => (by decide +kernel : kitB "dict" "bool" = some false)
theorem kit_str : ∀ d : PyData, kitB (tyD d) "str" = some (isStr d)
  | .none => (by decide +kernel : kitB "NoneType" "str" = some false)
  | .bool _ => (by decide +kernel : kitB "bool" "str" = some false)
  | .int _ => (by decide +kernel : kitB "int" "str" = some false)
  | .str _ => (by decide +kernel : kitB "str" "str" = some true)
  | .list _ => (by decide +kernel : kitB "list" "str" = some false)
  | .tuple _ => (by decide +kernel : kitB "tuple" "str" = some false)
  | .dict _ => (by decide +kernel : kitB "dict" "str" = some false)
theorem kit_list : ∀ d : PyData, kitB (tyD d) "list" = some (isList d)
  | .none => (by decide +kernel : kitB "NoneType" "list" = some false)
  | .bool _ => (by decide +kernel : kitB "bool" "list" = some false)
  | .int _ => (by decide +kernel : kitB "int" "list" = some false)
  | .str _ => (by decide +kernel : kitB "str" "list" = some false)
  | .list _ => (by decide +kernel : kitB "list" "list" = some true)
  | .tuple _ => (by decide +kernel : kitB "tuple" "list" = some false)
  | .dict _ => (by decide +kernel : kitB "dict" "list" = some false)
theorem kit_tuple : ∀ d : PyData, kitB (tyD d) "tuple" = some (isTuple d)
  | .none => (by decide +kernel : kitB "NoneType" "tuple" = some false)
  | .bool _ => (by decide +kernel : kitB "bool" "tuple" = some false)
  | .int _ => (by decide +kernel : kitB "int" "tuple" = some false)
  | .str _ => (by decide +kernel : kitB "str" "tuple" = some false)
  | .list _ => (by decide +kernel : kitB "list" "tuple" = some false)
  | .tuple _ => (by decide +kernel : kitB "tuple" "tuple" = some true)
  | .dict _ => (by decide +kernel : kitB "dict" "tuple" = some false)
theorem kit_dict : ∀ d : PyData, kitB (tyD d) "dict" = some (isDict d)
  | .none => (by decide +kernel : kitB "NoneType" "dict" = some false)
  | .bool _ => (by decide +kernel : kitB "bool" "dict" = some false)
  | .int _ => (by decide +kernel : kitB "int" "dict" = some false)
  | .str _ => (by decide +kernel : kitB "str" "dict" = some false)
  | .list _ => (by decide +kernel : kitB "list" "dict" = some false)
  | .tuple _ => (by decide +kernel : kitB "tuple" "dict" = some false)
  | .dict _ => (by decide +kernel : kitB "dict" "dict" = some true)
/-- isinstance(a, T), T a built-in type -/
theorem e_isi {T : Str} {n : String} {r : PyData → Bool} (B : Blt X.mg X.base) (hk : ∀ d, kitB (tyD d) n = some (r d)) (hT : X.mg T = none) (hv : bootBuiltins T = some (.type n))
    (h : wE X a σ H fun v H1 => ∃ l d, DD X.K l H1 v d ∧ Q (.bl (r d)) H1) {pT : Pos} (hgT : Gl X T := by rfl) (hnT : T ≠ "__name__" := by decide) (hdT : (T == ("__debug__" : Str)) = false := by decide) (hgl : Gl X "isinstance" := by rfl)
    (hs : starEach [a, .Name T pT] X.env = (false, eval a X.env) :: starEach [.Name T pT] X.env := by rfl) (hs2 : starEach [.Name T pT] X.env = [(false, eval (.Name T pT) X.env)] := by rfl) :
    wE X (.Call (.Name "isinstance" p) [a, .Name T pT] [] pos) σ H Q :=
  e_B (id := "isinstance") (a_cons (wE_mono h fun v H1 ⟨l, d, h1, q⟩ => a_cons (e_blt (v := .ty n) (a_nil (cW_of call_isi ⟨v, .ty n, _, _, r d, rfl, .ty n, h1.tyx, kit_ty (hk d), q⟩)) hT hv rfl hgT hnT hdT) hs2) hs)
    B.isinstance PyProof.Rows.boot_isinstance hgl (by decide) (by decide) hs (by rw [hs2]; rfl)
/-- isinstance(a, (T, U)), two built-in types -/
theorem e_isi2 {T U : Str} {n m : String} {r : PyData → Bool} {r' : PyData → Bool} (B : Blt X.mg X.base) (hk : ∀ d, kitB (tyD d) n = some (r d)) (hk' : ∀ d, kitB (tyD d) m = some (r' d)) (hT : X.mg T = none) (hv : bootBuiltins T = some (.type n)) (hU : X.mg U = none) (hv' : bootBuiltins U = some (.type m))
    {pT pU pt : Pos} {kt} (h : wE X a σ H fun v H1 => ∃ l d, DD X.K l H1 v d ∧ ∀ H2, But [] H1 H2 → Q (.bl (r d || r' d)) H2) (hgT : Gl X T := by rfl) (hnT : T ≠ "__name__" := by decide) (hdT : (T == ("__debug__" : Str)) = false := by decide) (hgU : Gl X U := by rfl) (hnU : U ≠ "__name__" := by decide) (hdU : (U == ("__debug__" : Str)) = false := by decide) (hgl : Gl X "isinstance" := by rfl)
    (hs : starEach [a, .Tuple [.Name T pT, .Name U pU] kt pt] X.env = (false, eval a X.env) :: starEach [.Tuple [.Name T pT, .Name U pU] kt pt] X.env := by rfl) (hs2 : starEach [.Tuple [.Name T pT, .Name U pU] kt pt] X.env = [(false, eval (.Tuple [.Name T pT, .Name U pU] kt pt) X.env)] := by rfl)
    (hs3 : starEach [.Name T pT, .Name U pU] X.env = (false, eval (.Name T pT) X.env) :: starEach [.Name U pU] X.env := by rfl) (hs4 : starEach [.Name U pU] X.env = [(false, eval (.Name U pU) X.env)] := by rfl) :
    wE X (.Call (.Name "isinstance" p) [a, .Tuple [.Name T pT, .Name U pU] kt pt] [] pos) σ H Q := by
  refine e_B (id := "isinstance") (a_cons (wE_mono h fun v H1 ⟨l, d, h1, q⟩ => a_cons (e_tup (a_cons (e_blt (v := .ty n) (a_cons (e_blt (v := .ty m) (a_nil ⟨by show 2 ≤ sizeLine; decide, fun t ht => ?_⟩) hU hv' rfl hgU hnU hdU) hs4) hT hv rfl hgT hnT hdT) hs3)) hs2) hs)
    B.isinstance PyProof.Rows.boot_isinstance hgl (by decide) (by decide) hs (by rw [hs2]; rfl)
  refine a_nil (cW_of call_isiT ⟨v, t, [.ty n, .ty m], _, [.type n, .type m], r d || r' d, rfl, upd_same, .cons (.ty n) (.cons (.ty m) .nil), (h1.but (But.new ht)).tyx, ?_, q _ (But.new ht)⟩)
  refine kitAny_cons (kit_ty (hk d)) (fun e1 => ?_) fun e1 => by rw [e1]; rfl
  rw [e1, Bool.false_or]
  exact kitAny_cons (kit_ty (hk' d)) (fun e2 => by rw [e2]; rfl) fun e2 => e2
/-- a == b, a != b: data without dicts, as the library tells it -/
theorem c_eqD {y z : V} {l m : List Addr} {d f : PyData} (C : Cxt X k W) (h1 : DD X.K l H y d) (h2 : DD X.K m H z f) (n1 : SeqAt.shaped d = true) (n2 : SeqAt.shaped f = true) (q : Q (.bl (PyData.eqv d f)) H) : oW X (compareOp .Eq) y z H Q :=
  oW_of (op_eqD C.room.units) ⟨d, f, h1.dp (PyData.hasDict_of_canLay d (SeqAt.canLay_of_shaped n1)), h2.dp (PyData.hasDict_of_canLay f (SeqAt.canLay_of_shaped n2)), n1, n2, q⟩
theorem c_neD {y z : V} {l m : List Addr} {d f : PyData} (C : Cxt X k W) (h1 : DD X.K l H y d) (h2 : DD X.K m H z f) (n1 : SeqAt.shaped d = true) (n2 : SeqAt.shaped f = true) (q : Q (.bl (!PyData.eqv d f)) H) : oW X (compareOp .NotEq) y z H Q :=
  oW_of (op_neD C.room.units) ⟨d, f, h1.dp (PyData.hasDict_of_canLay d (SeqAt.canLay_of_shaped n1)), h2.dp (PyData.hasDict_of_canLay f (SeqAt.canLay_of_shaped n2)), n1, n2, q⟩
end

/-! ### own errors over LineError: one field -/
/-- what the head tells of an error class: it stands at C under the name x -/
structure Err1 (K : PySem.W.Frag) (mg : Str → Option Value) (x f : Str) (C : Addr) (st : Stmt) : Prop where
  gC : mg x = some (.ref C)
  oex : OexC K C
  init : ∃ fI oc od kV doc pm an cdv ct osl, PySem.W.findIn K (.ref C) "__init__" = some (some (.ref fI)) ∧ PySem.W.typeIn K (.ref fI) = some (.type "function") ∧
    K.lookup fI = some ⟨oc, od, .func (PySem.W.fnOf "__init__" (x ++ ".__init__") (defArgs st) (defBody st) (defScope st) .none kV doc pm an cdv ct), osl⟩ ∧ PySem.W.codeIn K cdv (x ++ ".__init__") = true
  no : PySem.W.findIn K (.ref C) f = some none
  xf : XfC K C
  kc : PySem.W.typeIn K (.ref C) = some (.type "type")
/-- the base class LineError, whose __init__ is ValueError's -/
structure Base0 (K : PySem.W.Frag) (mg : Str → Option Value) (b : Str) : Prop where
  ex : ∃ CB, mg b = some (.ref CB) ∧ PySem.W.readsIn K CB (.type "type") = true ∧ PySem.W.specialIn K (.ref CB) "__getattribute__" = some (some (.builtin "type.__getattribute__")) ∧
    PySem.W.findCls K (.ref CB) (.type "type") "__init__" = some (.val (.builtin "ValueError.__init__"))
section
variable {X : Cx} {σ : L2.St} {H : Hp} {Q : VK} {e : Expr} {es : List Expr} {p1 p2 pos : Pos} {b : Str}
theorem e_baseInit {pl : Sem Bool} (B : Base0 X.K X.mg b) (h : wA X (e :: es) σ H fun vs H1 => ∃ (a C : Addr) (ws : List V), vs = .ref a :: ws ∧ ws.length ≤ 1000 ∧ OexC X.K C ∧ H1 a = some (exo a C none) ∧ Q .non H1) (hg : Gl X b) (hdb : (b == ("__debug__" : Str)) = false)
    (hc : eval (.Call (.Attribute (.Name b p1) "__init__" p2) (e :: es) [] pos) X.env = (do
      let ov ← eval (.Name b p1) X.env
      standAt p2.atName
      let (f, first) ← holding [ov] (getMethod ov "__init__" pl)
      callWith pos f first (backTo pos (starEach (e :: es) X.env)) (backToKw pos (keywordEach [] X.env))))
    (he : starEach (e :: es) X.env = (false, eval e X.env) :: starEach es X.env := by rfl) (hpl : (backTo pos (starEach es X.env)).any (·.1) = false := by rfl) :
    wE X (.Call (.Attribute (.Name b p1) "__init__" p2) (e :: es) [] pos) σ H Q := by
  obtain ⟨CB, hm, rd, ga, fc⟩ := B.ex
  refine ⟨fun pins s I => ?_⟩
  refine PySem.W.methodCall_KW (ld_glob I hg hm ?_ hdb) hc
  refine PySem.W.method_cls I.kIn ga (PySem.W.cls_value I.kIn rd fc rfl ?_)
  show wpAny _ _ (callWith pos (Value.builtin "ValueError.__init__") [] (backTo pos (starEach (e :: es) X.env)) []) _ _ _
  refine PyProof.Rows.callWith_method1 (thn (h.run pos pins _ (I.tok _)) fun us s1 ⟨vs, H1, I1, r1, a, C, ws, ev, hl, T, ea, q⟩ => ?_) he hpl
  subst ev
  cases r1 with
  | @cons _ u0 _ ur ra rw' =>
    obtain rfl : u0 = Value.ref a := ra
    have hlen : ur.length ≤ sizeLine := by
      rw [← Paired.length rw', sizeLine_eq]
      omega
    exact oinit_ok T I1 ea hlen fun s' J => ⟨.non, H1, J, rfl, q⟩
end
/-- what an error's __init__ promises -/
def spInit1 (K : PySem.W.Frag) (f : Str) : Sp := fun vs H Q _ => ∃ (a C : Addr) (v : V), vs = [.ref a, v] ∧ OexC K C ∧ PySem.W.findIn K (.ref C) f = some none ∧ H a = some (exo a C none) ∧
  ∀ dx, H dx = none → dx ≠ a → Q .non (upd (upd H dx (exd dx [(f, v)])) a (exo a C (some dx)))
section
variable {P : Program} {w : World} {K : PySem.W.Frag} {mg : Str → Option Value} {base : Heap}
theorem init1_ok {x b f txt : Str} {st : Stmt} {fI : Addr} {oc kV doc pm cdv ct : Value} {od an : Option Addr} {osl : Array (Option Value)} {p1 p2 p3 p4 p5 p6 p7 p8 p9 p10 : Pos} {j : Nat} (B : Base0 K mg b)
    (lk : K.lookup fI = some ⟨oc, od, .func (PySem.W.fnOf "__init__" x (defArgs st) (defBody st) (defScope st) .none kV doc pm an cdv ct), osl⟩) (hcd : PySem.W.codeIn K cdv x = true)
    (S : FnScope ["self", f] ["self", f] (defScope st))
    (hb : defBody st = [.Expr (.Call (.Attribute (.Name b p1) "__init__" p2) [.Name "self" p3, .Constant (.str txt) j p4] [] p5) p6, .Assign [.Attribute (.Name "self" p7) f p8] (.Name f p9) p10])
    (hs : (defScope st).names.lookup ("self" : Str) = some .local) (hf : (defScope st).names.lookup f = some .local) (hg : (defScope st).names.lookup b = some .globalImplicit) (hdb : (b == ("__debug__" : Str)) = false) (hdf : (f == ("__debug__" : Str)) = false) (hdf2 : (f == ("__classdict__" : Str)) = false)
    (hc : ∀ env : Env, env.scope = defScope st → ∃ pl, eval (.Call (.Attribute (.Name b p1) "__init__" p2) [.Name "self" p3, .Constant (.str txt) j p4] [] p5) env = (do
      let ov ← eval (.Name b p1) env
      standAt p2.atName
      let (f, first) ← holding [ov] (getMethod ov "__init__" pl)
      callWith p5 f first (backTo p5 (starEach [.Name "self" p3, .Constant (.str txt) j p4] env)) (backToKw p5 (keywordEach [] env))))
    (hsw : ∀ env : Env, env.scope = defScope st → swapsWith (.Name f p9) (some (.Attribute (.Name "self" p7) f p8)) p10.line env = pure false)
    (hsw2 : ∀ env : Env, env.scope = defScope st → swapsWith (.Call (.Attribute (.Name b p1) "__init__" p2) [.Name "self" p3, .Constant (.str txt) j p4] [] p5) none p6.line env = pure false) :
    FnOk P w K mg base (L2.CX P w) 1 fI (PySem.W.fnOf "__init__" x (defArgs st) (defBody st) (defScope st) .none kV doc pm an cdv ct) ["self", f] (spInit1 K f) := by
  refine fn_of lk hcd S (fun vs H Q E h => ?_) fun A outer s H vs Q E hr h => ⟨wB _ (defBody st), pB, ?_⟩
  · obtain ⟨a, C, v, rfl, _⟩ := h
    rfl
  · obtain ⟨a, C, v, rfl, T, hno, ha, q⟩ := h
    rw [hb]
    obtain ⟨pl, hcc⟩ := hc (envOfC x (defScope st) s.heap.objs.size fI cdv) rfl
    refine b_cons (s_expr (e_baseInit (pl := pl) B ?_ hg hdb hcc) (hsw2 _ rfl))
    refine a_cons (e_name 0 (a_cons (e_str (a_nil ⟨a, C, _, rfl, by simp, T, ha, ?_⟩))) rfl rfl (.inl hs))
    refine b_cons (eS (ps_ost (pE (e := .Name "self" p7)) pE (hsw _ rfl)) ?_)
    refine e_name 1 ?_ rfl rfl (.inl hf) hdf hdf2
    refine e_name 0 ?_ rfl rfl (.inl hs)
    exact ⟨a, C, rfl, T, hno, .inl ⟨ha, fun dx n ne => b_nil (q dx n ne)⟩⟩
end
end Z

set_option Elab.async false
set_option linter.all false
set_option maxRecDepth 100000
set_option maxHeartbeats 4000000
/-! raise and try with own errors of one field -/
namespace Z
open PySem PySem.Spec PyProof.Rows L2

/-- an error class of one field, its __init__ proved -/
structure ErrOk (P : Program) (w : World) (K : PySem.W.Frag) (mg : Str → Option Value) (base : Heap) (x f : Str) (C : Addr) : Prop where
  gC : mg x = some (.ref C)
  oex : OexC K C
  no : PySem.W.findIn K (.ref C) f = some none
  xf : XfC K C
  ex : ∃ fI fd, PySem.W.findIn K (.ref C) "__init__" = some (some (.ref fI)) ∧ PySem.W.typeIn K (.ref fI) = some (.type "function") ∧ FnOk P w K mg base (L2.CX P w) 1 fI fd ["self", f] (spInit1 K f) ∧ Binds K fd ["self", f] []
section
variable {X : Cx} {k : Nat} {W : WX} {σ : L2.St} {H : Hp} {x f : Str} {e : Expr} {C : Addr} {p1 p2 pos : Pos} {D : Ends}
/-- raise X(v) -/
theorem s_raise1 (Cc : Cxt X k W) (E : ErrOk X.prog X.w X.K X.mg X.base x f C) (hr : 2 ≤ k)
    (h : wE X e σ H fun v H1 => ∀ d H', But [] H1 H' → H1 d = none → H' d = some (.xd [(f, v)]) → W (.ref C) (some d) σ H')
    (hg : Gl X x := by rfl) (hdb : (x == ("__debug__" : Str)) = false := by decide) (he : starEach [e] X.env = [(false, eval e X.env)] := by rfl) : wS X (.Raise (some (.Call (.Name x p1) [e] [] p2)) none pos) D σ H := by
  obtain ⟨fI, fd, iC, tI, F, hb⟩ := E.ex
  have hx : Passes (L2.CX X.prog X.w) X (fun _ _ _ => False) := fun pins σ H s e s' I c => passes_call Cc.tk (fun cls d σ' H' z => z.elim) pins σ H s e s' I c
  refine eS (ps_raise Cc.calm Cc.tk (pmk_oex E.oex iC tI F (Cc.room.mono hr) hb .nil hx hg E.gC pA hdb he rfl)) ?_
  refine a_cons (wE_mono h fun v H1 q => a_nil ⟨by simp, fun a ha => ?_⟩) he
  refine ⟨a, C, v, rfl, E.oex, E.no, upd_same, fun dx hd ne => ⟨rfl, dx, [(f, v)], upd_same, by rw [upd_ne ne, upd_same], ?_, ?_⟩⟩
  · rw [upd_ne ne] at hd
    exact hd
  · have hd' : H1 dx = none := by rw [upd_ne ne] at hd; exact hd
    refine q dx _ (fun b o _ hbo => ?_) hd' upd_same
    have nb : b ≠ a := ne_of_none hbo ha
    have nb2 : b ≠ dx := ne_of_none hbo hd'
    rw [upd_ne nb2, del_ne nb, upd_ne nb, upd_ne nb2, upd_ne nb]
    exact hbo
end

/-! ### several clauses, each with its name -/
abbrev Cl := Value × Nat × List Stmt
def wHd (X : Cx) (Wout : WX) (D : Ends) : List Cl → WX
  | [] => Wout
  | (c, i, sts) :: r => fun cls d σ H => ∃ b, PySem.W.exmOne X.K cls c = some b ∧
      (b = true → ∀ (a : Addr) (oe : Obj) (pn : List (Addr × Obj)), Zc cls d oe → (∃ vs, oe.data = .fields vs) → H a = none →
        wB (X.suite a ((a, oe) :: pn)) sts { nx := fun σ' H' => D.nx (σ'.set i none) H', rt := D.rt, bk := fun σ' H' => D.bk (σ'.set i none) H', ct := fun σ' H' => D.ct (σ'.set i none) H' } (σ.set i (some (.ref a))) H) ∧
      (b = false → wHd X Wout D r cls d σ H)
inductive HdsAs (X : Cx) : List ExceptHandler → List Cl → Prop
  | nil : HdsAs X [] []
  | cons {x n : Str} {c : Value} {i : Nat} {b₀ : Stmt} {suite : List Stmt} {np pos' : Pos} {hds : List ExceptHandler} {l : List Cl} (hc : Names X x c) (hi : X.N[i]? = some n) (hln : X.env.kindOf n = some .local) (r : HdsAs X hds l) :
      HdsAs X (.ExceptHandler (some (.Name x np)) (some n) (b₀ :: suite) pos' :: hds) ((c, i, b₀ :: suite) :: l)
section
variable {X : Cx} {k : Nat} {W : WX} {σ : L2.St} {H : Hp} {body : List Stmt} {h₀ : ExceptHandler} {hds : List ExceptHandler} {l : List Cl} {pos : Pos} {D : Ends}
theorem s_try (C : Cxt X k W) (hh : HdsAs X (h₀ :: hds) l) (h : ∀ pn xe, Cxt (X.tr pn xe) k (wHd X W D l) → wB (X.tr pn xe) body D σ H) (hs : X.stack = X.env :: X.outer := by rfl) (hf : X.env.frame = some X.env.locals := by rfl) : wS X (.Try body (h₀ :: hds) [] [] pos) D σ H := by
  refine ⟨fun pins s I => ?_⟩
  have ok := I.ok
  have hfr : X.A.frames = some (X.env :: X.outer) := by rw [ok.frames, hs]
  refine wpAny_Try_except ?_
  refine wpAny_mono ((h (X.pn ++ pins) (fun e s₁ => wpAny (model X.prog X.w) X.A (noteFrame e X.env) (fun _ s₂ => wpAny (model X.prog X.w) X.A (setFlight e none) (fun _ s₃ =>
    wpAny (model X.prog X.w) X.A (handleBy e X.env (h₀ :: hds)) (SP X pins D) X.xe s₃) X.xe s₂) X.xe s₁) ⟨C.room, C.calm, C.nd, C.blt, PassesOwn.looking, fun u s' xx => ?_⟩).run [] s (I.toTry _)) (fun f s1 hsp => ?_) (fun e s1 he => he)
  · obtain ⟨a, B, sI, pins', σ', H', cls, d, rfl, J', nb, up, sky, na, os, ag, w⟩ := xx
    have J : Inv X pins σ' H' sI := J'.ofTry ok
    have sky' : Sky B (X.env :: X.outer) a (Zc cls d) X.env.locals s'.heap := by rw [← hs]; exact sky
    show wpAny (model X.prog X.w) X.A (noteFrame (.ref a) X.env) _ _ _
    refine Sky.land Zc.steady hfr hf sky' fun h3 fl3 up3 => ?_
    have J3 : Inv X pins σ' H' { s' with heap := h3 } := J.landed nb fl3.1 (up.trans up3) os ag
    obtain ⟨oe3, vs3, he3, hz3, hd3⟩ := fl3.there
    have notFr : ∀ {h : Heap} {o : Obj} {vs : Array Value}, h.FunFrames B (X.env :: X.outer) → h.get? a = some o → o.data = .fields vs → a ∉ frs (X.env :: X.outer) := fun {h o vs} ff e dd hm => by
      obtain ⟨_, o', e', hnf⟩ := ff.mem hm
      rw [e] at e'; cases e'
      exact hnf _ dd
    have nfr := notFr fl3.2.2.1 he3 hd3
    have nL : a ≠ X.env.locals := fun z => nfr (List.mem_filterMap.mpr ⟨X.env, List.mem_cons_self, by rw [hf, z]⟩)
    have nF : a ∉ X.fs := fun hm => by
      obtain ⟨e, he, q⟩ := List.mem_filterMap.mp hm
      exact nfr (List.mem_filterMap.mpr ⟨e, List.mem_cons_of_mem _ he, q⟩)
    have S3 := J3.suite he3 hd3 na nL nF
    have go : ∀ {hds' : List ExceptHandler} {l' : List Cl}, HdsAs X hds' l' → wHd X W D l' cls d σ' H' →
        wpAny (model X.prog X.w) X.A (handleBy (.ref a) X.env hds') (SP X pins D) X.xe { s' with heap := h3 } := by
      intro hds' l' hk
      induction hk with
      | nil =>
        intro w
        refine wpAny_handleBy_nil ?_
        obtain ⟨k1, k2, k3, oe, vs, T, oT, ts', he, hz, hd, h1, hr⟩ := id fl3
        unfold PySem.passOn
        refine wpAny_bind (wpAny_field he hd h1 ?_)
        rw [if_neg (show ¬ ((Value.ref T == Value.none) = true) from by simp)]
        have fin : wpAny (model X.prog X.w) X.A (setFlight (.ref a) X.env.frame) (fun _ s4 => wpAny (model X.prog X.w) X.A (throw (.ref a) : Sem Flow) (SP X pins D) X.xe s4) X.xe { s' with heap := h3 } := by
          rw [hf]
          refine HandSPX.setFlight_upZ fl3 fun h4 hh4 up4 => wpAny_throw (C.tk _ _ ?_)
          exact ⟨a, B, sI, pins, σ', H', cls, d, rfl, J, nb, (up.trans up3).trans up4, .inr (.inr (by rw [hs]; exact hh4)), na, os, ag, w⟩
        first
          | exact wpAny_bind (wpAny_pure (wpAny_bind fin))
          | exact wpAny_bind fin
      | @cons x n c i b₀ suite np pos' hds2 l2 hc hi hln r ih =>
        intro w
        obtain ⟨b, hb1, hyes, hno⟩ := w
        refine wpAny_handleBy_cons (codeAny_handlers_test ?_) (by intro q; cases q)
        have LT : PySem.W.Looks (model X.prog X.w) h3 (typeOf (.ref a)) cls := fun A Q E s k q => wpAny_typeOf_ref (k _ _ he3) (by rw [hz3.1]; exact q)
        have LM := PySem.W.exm_one (M := model X.prog X.w) (J3.kIn) LT hb1
        have test : ∀ {Q : Value → Shared → Prop} {E : Value → Shared → Prop}, Q c { s' with heap := h3 } → wpAny (model X.prog X.w) (X.A.mark (some (.ref a))) (eval (.Name x np) X.env) Q E { s' with heap := h3 } := fun {Q E} q => by
          obtain ⟨hg, hdbg, hm | ⟨hm, hv, hnn⟩⟩ := hc
          · exact ld_glob (X := X.suite a ((a, oe3) :: (X.pn ++ pins))) S3 hg hm q hdbg
          · exact ld_blt (X := X.suite a ((a, oe3) :: (X.pn ++ pins))) S3 hg hm hv q hnn hdbg
        refine test (LM.here ?_)
        cases b with
        | true =>
          refine codeAny_handlers_suite_as ?_
          refine HandSPX.lands_againZ fl3 fun h4 fl4 up4 => ?_
          have J4 : Inv X pins σ' H' { s' with heap := h4 } := J.landed nb fl4.1 ((up.trans up3).trans up4) os ag
          obtain ⟨oe4, vs4, he4, hz4, hd4⟩ := fl4.there
          have S4 := J4.suite he4 hd4 na nL nF
          have hloc : Loc X.env.scope n := .inl hln
          refine store_ok (X := X.suite a ((a, oe4) :: (X.pn ++ pins))) (v := .ref a) S4 C.nd hi hloc rfl (fun s5 S5 => ?_) (.inr hln)
          refine wpAny_mono ((hyes rfl a oe4 (X.pn ++ pins) hz4 ⟨_, hd4⟩ na).run [] s5 S5) (fun f s6 hsp => ?_) (fun _ _ z => False.elim z)
          have end_ : ∀ {σ6 : L2.St} {H6 : Hp} {Q : Shared → Prop}, Inv (X.suite a ((a, oe4) :: (X.pn ++ pins))) [] σ6 H6 s6 → (∀ s7, Inv X pins (σ6.set i none) H6 s7 → Q s7) →
              wpAny (model X.prog X.w) X.A (do bindName X.env n .none; unbindBehindTheSuite X.env n pos') (fun _ s7 => Q s7) X.xe s6 := fun {σ6 H6 Q} S6 hq => gone_ok (S6.unsuite ok) C.nd hi hln hq
          cases f with
          | next =>
            obtain ⟨σ6, H6, S6, q6⟩ := hsp
            exact end_ S6 fun s7 J7 => ⟨_, _, J7, q6⟩
          | brk =>
            obtain ⟨σ6, H6, S6, q6⟩ := hsp
            exact end_ S6 fun s7 J7 => ⟨_, _, J7, q6⟩
          | cont =>
            obtain ⟨σ6, H6, S6, q6⟩ := hsp
            exact end_ S6 fun s7 J7 => ⟨_, _, J7, q6⟩
          | ret u =>
            obtain ⟨v6, σ6, H6, S6, r6, q6⟩ := hsp
            exact end_ S6 fun s7 J7 => ⟨_, _, _, J7, r6, q6⟩
        | false =>
          show wpAny _ X.A (handleBy (.ref a) X.env hds2) _ _ _
          exact ih (hno rfl)
    exact go hh w
  · cases f with
    | next =>
      obtain ⟨σ', H', J', q⟩ := hsp
      exact wpAny_execs_nil ⟨σ', H', J'.ofTry ok, q⟩
    | brk =>
      obtain ⟨σ', H', J', q⟩ := hsp
      exact ⟨σ', H', J'.ofTry ok, q⟩
    | cont =>
      obtain ⟨σ', H', J', q⟩ := hsp
      exact ⟨σ', H', J'.ofTry ok, q⟩
    | ret u =>
      obtain ⟨v, σ', H', J', r, q⟩ := hsp
      exact ⟨v, σ', H', J'.ofTry ok, r, q⟩
end

/-! ### within a suite -/
section
variable {X : Cx} {σ : L2.St} {H : Hp} {a CE dd : Addr} {oe : Obj} {pn : List (Addr × Obj)} {e : Expr} {pos p : Pos} {f : Str} {Q : VK}
/-- e.f -/
theorem e_xf {v : V} (T : XfC X.K CE) (hno : PySem.W.findIn X.K (.ref CE) f = some none) (hz : Zc (.ref CE) (some dd) oe) (hf : ∃ vs, oe.data = .fields vs)
    (h : wE (X.suite a ((a, oe) :: pn)) e σ H fun x H1 => x = .ref a ∧ H1 dd = some (.xd [(f, v)]) ∧ Q v H1) (hb : attributeBase e f X.env (eval e X.env) = eval e X.env := by rfl) :
    wE (X.suite a ((a, oe) :: pn)) (.Attribute e f pos) σ H Q := by
  refine ⟨fun pins s I => ?_⟩
  refine attr_of hb (thn (h.run pins s I) fun u s1 hh => ?_)
  obtain ⟨x, H1, I1, rx, ex, ea, q⟩ := hh
  subst ex
  obtain rfl : u = Value.ref a := rx
  obtain ⟨ha, _⟩ := I1.pin (a, oe) (List.mem_append_left _ List.mem_cons_self)
  obtain ⟨vs, hd⟩ := hf
  obtain ⟨mA, hns, hr⟩ := (show ObjOk X.prog X.w H1 s1.heap dd (.xd [(f, v)]) from I1.hok dd _ ea)
  obtain ⟨od, ho, hl⟩ := lookIn_ns hns
  obtain ⟨u, hu, ru⟩ := RelO.some_of (v := v) (o := mA f) (by have := hr f; simpa using this)
  have J : PySem.W.InstAt s1.heap a oe CE (some od) := ⟨ha, hz.1, by unfold PySem.W.notCls; rw [hd] <;> rfl, by rw [hz.2]; exact ho⟩
  exact HandSPX.exc_get I1.kIn J T.ga T.gg T.exC (PySem.W.findObj_own T.hdC hno rfl (by rw [hl, hu])) (handed_of ru) ⟨v, H1, I1.tok _, ru, q⟩
/-- isinstance(e, c) of the caught error, whose fields are kept in dd -/
theorem c_isX {c : V} {cv : Value} {b : Bool} {fs : List (Str × V)} (T : ExcC X.K CE) (hz : Zc (.ref CE) (some dd) oe) (hf : ∃ vs, oe.data = .fields vs) (hcv : ∀ u, RelV c u → u = cv) (e1 : PySem.W.kitOne X.K (.ref CE) cv = some b) (hx : H dd = some (.xd fs)) (q : Q (.bl b) H) :
    cW (X.suite a ((a, oe) :: pn)) (.builtin "isinstance") [.ref a, c] H Q := by
  refine ⟨fun pins s σ us I r => ?_⟩
  cases r with
  | cons rx rr =>
    cases rr with
    | cons rt rr =>
      cases rr
      cases rx
      have ec := hcv _ rt
      subst ec
      obtain ⟨hget, _⟩ := I.pin (a, oe) (List.mem_append.mpr (.inl List.mem_cons_self))
      obtain ⟨vs, hv⟩ := hf
      obtain ⟨mA, hns, hr⟩ := (show ObjOk X.prog X.w H s.heap dd (.xd fs) from I.hok dd _ hx)
      obtain ⟨od, ho, hl⟩ := lookIn_ns hns
      have J : PySem.W.InstAt s.heap a oe CE (some od) := ⟨hget, hz.1, by unfold PySem.W.notCls; rw [hv] <;> rfl, by rw [hz.2]; exact ho⟩
      exact PySem.W.kia_one (PySem.W.kitx_exc (by obtain ⟨cd, hc, _⟩ := PySem.W.any_some T.hd; rw [hc]; rfl) T.hg T.hk T.hs T.ha T.hn T.ht T.hm) I.kIn J e1 (fun z => nomatch z) fun tk => ⟨.bl b, H, I.kept (t' := tk) fun _ _ z => z, rfl, q⟩
end
end Z

set_option Elab.async false
set_option linter.all false
set_option maxRecDepth 100000
set_option maxHeartbeats 4000000
/-! a lambda without parameters handed to a def that calls it -/
namespace Z
open PySem PySem.Spec PyProof.Rows L2 LamX
section
variable {X : Cx} {pins : List (Addr × Obj)} {σ : L2.St} {H : Hp} {s : Shared} {k : Nat} {W : WX}
theorem Cxt.lam {A : Around} {outer : List Env} {E : XK} {scope : Scope} {f c' : Addr} (C : Cxt X k W) {j : Nat} (hr : Room j (A.deeper (lamEnv X scope s.heap.objs.size f c'))) :
    Cxt (lamCx X A outer s H E scope f c') j (fun cls d _ H' => E cls d H') :=
  ⟨hr, rfl, C.nd, C.blt, passes_of rfl, takes_of rfl rfl rfl rfl⟩
/-- the context of the def that got the lambda -/
abbrev hX (X : Cx) (N : List Str) (x : Str) (st : Stmt) (g : Addr) (cdg : Value) (s : Shared) (H : Hp) (E : XK) : Cx := bX X.prog X.w X.K X.mg X.base N x st g cdg X.A X.stack s H E
/-- the lambda is called -/
theorem e_act {Ng : List Str} {x a : Str} {st : Stmt} {g f c' : Addr} {cdg pm ctv : Value} {params : Arguments} {body : Expr} {scope : Scope} {pn : List (Addr × Obj)} {xe : Value → Shared → Prop} {W' : WX} {E0 E : XK} {p1 p2 : Pos} {σZ : L2.St} {HZ : Hp} {Q : VK}
    (C : Cxt X (k + 2) W) (I : Inv X pins σ H s) (L : LamS X.env.scope scope) (hf : s.heap.get? f = some (PySem.W.kla_obj "<lambda>" (X.env.qual ++ "<lambda>") params body scope (cloFrom X.env.cells scope.names []) pm c' ctv)) (hfn : H f = none) (hfr : f ∉ frs X.stack)
    (hbind : bindArgs (PySem.W.kla_fn "<lambda>" (X.env.qual ++ "<lambda>") params body scope (cloFrom X.env.cells scope.names []) pm (.ref c') ctv) ⟨[], []⟩ = pure [])
    (tk : Takes ((hX X Ng x st g cdg s H E0).tr pn xe) W') (hW : ∀ cls d H', E cls d H' → W' cls d σZ H')
    (hN : Ng[0]? = some a) (hv : Vis (defScope st) a) (hd : (a == ("__debug__" : Str)) = false) (hcd : (a == ("__classdict__" : Str)) = false)
    (hs : σZ[0]? = some (some (.ref f))) (hc : HZ c' = some (CodeO c' (X.env.qual ++ "<lambda>")))
    (h : ∀ (A : Around) (outer : List Env) (s' : Shared) (H' : Hp), Cxt (lamCx X A outer s' H' E scope f c') k (fun cls d _ H => E cls d H) → (Gd X → Gd (lamCx X A outer s' H' E scope f c')) → wE (lamCx X A outer s' H' E scope f c') body σ HZ Q) :
    wE ((hX X Ng x st g cdg s H E0).tr pn xe) (.Call (.Name a p1) [] [] p2) σZ HZ Q := by
  refine ⟨fun pinsZ sZ IZ => ?_⟩
  refine wpAny_Call_Name_kw (thn ((pe_var (pos := p1) (i := 0) hN hv hd hcd).run pinsZ sZ σZ HZ (fun v H1 => v = .ref f ∧ H1 = HZ) IZ ⟨.ref f, hs, rfl, rfl⟩) fun u s1 ⟨v, H1, I1, r1, q1⟩ => ?_)
  obtain ⟨ev, eH⟩ := q1
  subst ev
  rw [eH] at I1
  obtain rfl : u = Value.ref f := r1
  have of1 : s1.heap.get? f = some (PySem.W.kla_obj "<lambda>" (X.env.qual ++ "<lambda>") params body scope (cloFrom X.env.cells scope.names []) pm c' ctv) := I1.base.keep f _ hf hfn hfr (fun z => nomatch (show f ∈ ([] : List Addr) from z))
  refine PySem.W.callWith_F0 ⟨_, _, _, _, of1⟩ ?_
  have un : Un (frs X.stack) [] H HZ s.heap s1.heap := I1.base
  obtain ⟨⟨oc, vs, t, hoc, hdc, hvc⟩, _, _⟩ := I1.hok c' _ hc
  have hr : Room (k + 1) (X.A.deeper (envOfC x (defScope st) s.heap.objs.size g cdg)) := C.room.deeper _
  have rc : codeAny (model X.prog X.w) (X.A.deeper (envOfC x (defScope st) s.heap.objs.size g cdg)) (.call (.ref f) ⟨[], []⟩) (CR (L2.CX X.prog X.w) (envOfC x (defScope st) s.heap.objs.size g cdg :: X.stack) X.prog X.w HZ s1 Q E) s1 := by
    refine PySem.W.kla_callFunE hr.depth of1 rfl L.co L.gen rfl ⟨c', oc, vs, t, rfl, hoc, hdc, hvc⟩ ?_
    rw [hbind]
    refine wpAny_pure (wpAny_newFunctionEnv (fun y hy => (L.own y hy).2) (fun y hy => absurd hy (by simp)) (fun h₁ hns hsb => ⟨I1.nolimit.fresh _ hsb, ?_⟩) L.kind)
    show codeAny _ _ (.expr body (lamEnv X scope s1.heap.objs.size f c')) _ _
    have kp : ∀ b o, s1.heap.get? b = some o → h₁.get? b = some o := fun b o e => hsb.extBut b o (Nat.ne_of_lt (Heap.lt_size e)) (Heap.get?_push_of_some _ e)
    have J : Inv (lamCx X (X.A.deeper (envOfC x (defScope st) s.heap.objs.size g cdg)) (envOfC x (defScope st) s.heap.objs.size g cdg :: X.stack) s1 HZ E scope f c') [] σ HZ { s1 with heap := h₁, toks := s1.toks + ([] : List (Str × Value)).length } :=
      lam_start2 I L I1.env0 hr.hd un hns kp
    have CL : Cxt (lamCx X (X.A.deeper (envOfC x (defScope st) s.heap.objs.size g cdg)) (envOfC x (defScope st) s.heap.objs.size g cdg :: X.stack) s1 HZ E scope f c') k (fun cls d _ H' => E cls d H') := C.lam (hr.deeper _)
    refine PySem.W.kla_codeExpr (wpAny_mono ((h _ _ s1 HZ CL fun g => g).run [] _ J) (fun v s' hq => ?_) fun e s' hq => hq)
    obtain ⟨w', H', J', rv, q⟩ := hq
    exact ⟨w', H', J'.os, J'.bare, J'.base, J'.hok, rv, q⟩
  refine wpAny_call (codeAny_mono rc fun r s' hq => ?_)
  cases r with
  | error e => exact tk e s' (XE.of_call I1 (fun cls d H' h => hW cls d H' h) hq)
  | ok fl =>
    cases fl with
    | ret u => exact I1.after hq
    | next => exact False.elim hq
    | brk => exact False.elim hq
    | cont => exact False.elim hq
/-- x(lambda: body) -/
theorem e_lam {T : List (Addr × Str)} {x a : Str} {st : Stmt} {c P : Addr} {Ng : List Str} {params : Arguments} {body : Expr} {scope : Scope} {p lpos pos : Pos} {Q : VK}
    (C : Cxt X (k + 2) W) (D : At X.K X.mg x st) (S : FnScope Ng [a] (defScope st)) (TB : TabB X.base X.mg c P) (hcode : X.env.code = .ref c) (hmT : (P, X.env.qual ++ "<lambda>") ∈ T) (hu : ∀ p ∈ T, p.1 = P → p.2 = X.env.qual ++ "<lambda>")
    (L : LamS X.env.scope scope) (hT : Tabs T H)
    (h : ∀ (g : Addr) (cdg : Value) (f c' : Addr) (s : Shared) (H1 : Hp), ExtN H H1 → Tabs T H1 → H1 c' = some (CodeO c' (X.env.qual ++ "<lambda>")) →
      Cxt (hX X Ng x st g cdg s H1 (fun cls d H' => W cls d σ H')) (k + 1) (fun cls d _ H' => W cls d σ H') → (Gd X → Gd (hX X Ng x st g cdg s H1 (fun cls d H' => W cls d σ H'))) →
      (∀ (W' : WX) (pn : List (Addr × Obj)) (xe : Value → Shared → Prop) (E : XK) (σZ : L2.St) (HZ : Hp) (Q' : VK) (p1 p2 : Pos), Takes ((hX X Ng x st g cdg s H1 (fun cls d H' => W cls d σ H')).tr pn xe) W' → (∀ cls d H', E cls d H' → W' cls d σZ H') →
        σZ[0]? = some (some (.ref f)) → HZ c' = some (CodeO c' (X.env.qual ++ "<lambda>")) →
        (∀ (A : Around) (outer : List Env) (s' : Shared) (H' : Hp), Cxt (lamCx X A outer s' H' E scope f c') k (fun cls d _ H => E cls d H) → (Gd X → Gd (lamCx X A outer s' H' E scope f c')) → wE (lamCx X A outer s' H' E scope f c') body σ HZ Q') →
        wE ((hX X Ng x st g cdg s H1 (fun cls d H' => W cls d σ H')).tr pn xe) (.Call (.Name a p1) [] [] p2) σZ HZ Q') →
      wB (hX X Ng x st g cdg s H1 (fun cls d H' => W cls d σ H')) (defBody st) { nx := fun _ H' => Q .non H', rt := Q } (start Ng [.ref f]) H1)
    (hN : Ng[0]? = some a := by rfl) (hv : Vis (defScope st) a := by first | exact Or.inl rfl | exact Or.inr (Or.inl rfl) | exact Or.inr (Or.inr rfl)) (hg : Gl X x := by rfl) (hdef : defaultsOf params X.env = ([], []) := by rfl)
    (hbl : ∀ (q : Str) (cl : List (Str × Addr)) (pm cv ctv : Value), bindArgs (PySem.W.kla_fn "<lambda>" q params body scope cl pm cv ctv) ⟨[], []⟩ = pure [] := by intros; rfl)
    (hbind : ∀ (kV doc pm : Value) (an : Option Addr) (cdv ct : Value) (us : List Value), us.length = ([a] : List Str).length → bindArgs (PySem.W.fnOf x x (defArgs st) (defBody st) (defScope st) .none kV doc pm an cdv ct) ⟨us, []⟩ = pure (([a] : List Str).zip us) := by exact fun _ _ _ _ _ _ us hl => match us, hl with | [_], _ => rfl)
    (hdb : (x == ("__debug__" : Str)) = false := by decide) (hd : (a == ("__debug__" : Str)) = false := by decide) (hcd : (a == ("__classdict__" : Str)) = false := by decide) :
    wE X (.Call (.Name x p) [.Lambda params body scope lpos] [] pos) σ H Q := by
  refine ⟨fun pins s I => ?_⟩
  obtain ⟨g, fd, hm, F⟩ := D.ex
  obtain ⟨oc, od, kV, doc, pm, an, cdg, ct, osl, rfl, lk, hcd2⟩ := F.ex
  refine wpAny_Call_Name_kw (ld_glob I hg hm ?_ hdb)
  refine PySem.W.callWith_K (h₀ := X.base) I.ok.mod.kin F.kp ?_ (by rfl) (by rfl)
  show wpAny _ _ (spliced ((false, eval (.Lambda params body scope lpos) X.env) :: backTo pos (starEach [] X.env))) _ _ s
  refine Calls.spliced_cons (lam_make2 I TB hcode hmT hu hT hdef (L.has I.ok) fun f c' pm' ctv H1 s' I1 eN T1 hf hfn hfr hco => ?_)
  refine Calls.spliced_nil ⟨I1.kIn, ?_⟩
  have rc : codeAny (model X.prog X.w) X.A (.call (.ref g) ⟨[.ref f], []⟩) (CR (L2.CX X.prog X.w) X.stack X.prog X.w H1 s' Q (fun cls d H' => W cls d σ H')) s' := by
    refine run_ofS (N := Ng) (ps := [a]) (us := [.ref f]) (vs := [.ref f]) lk hcd2 S (C.room.mono (show k + 1 + 1 ≤ k + 2 from Nat.le_refl _)) I1.env0 (.of_eq (hbind kV doc pm an cdg ct [.ref f] rfl)) (.cons rfl .nil) rfl fun hr' => ?_
    have CZ : Cxt (hX X Ng x st g cdg s' H1 (fun cls d H' => W cls d σ H')) (k + 1) (fun cls d _ H' => W cls d σ H') := ⟨hr', rfl, S.nd, C.blt, passes_of rfl, takes_of rfl rfl rfl rfl⟩
    refine ⟨wB _ (defBody st), pB, h g cdg f c' s' H1 eN T1 hco CZ (fun g => g) fun W' pn xe E σZ HZ Q' p1 p2 tk hW hs hc hh => ?_⟩
    exact e_act C I1 L hf hfn hfr (hbl _ _ _ _ _) tk hW hN hv hd hcd hs hc hh
  refine wpAny_call (codeAny_mono rc fun r s2 hq => ?_)
  cases r with
  | error e => exact C.tk e s2 (XE.of_call I1 (fun _ _ _ z => z) hq)
  | ok fl =>
    cases fl with
    | ret u => exact I1.after hq
    | next => exact False.elim hq
    | brk => exact False.elim hq
    | cont => exact False.elim hq
end
end Z

set_option Elab.async false
set_option linter.all false
set_option maxRecDepth 100000
set_option maxHeartbeats 4000000
/-! the law's own call, where the defs keep GFn; tables of code objects -/
namespace Z
open PySem PySem.Spec PyProof.Rows L2 LamX

/-- a def whose code object is known -/
structure AtC (K : PySem.W.Frag) (mg : Str → Option Value) (x : Str) (st : Stmt) (c : Addr) : Prop where
  ex : ∃ (f : Addr) (oc kV doc pm ct : Value) (od an : Option Addr) (osl : Array (Option Value)), mg x = some (.ref f) ∧ PySem.W.keepIn K (.ref f) = true ∧
    K.lookup f = some ⟨oc, od, .func (PySem.W.fnOf x x (defArgs st) (defBody st) (defScope st) .none kV doc pm an (.ref c) ct), osl⟩ ∧ PySem.W.codeIn K (.ref c) x = true
theorem defG_ofC {P : Program} {w : World} {K : PySem.W.Frag} {mg : Str → Option Value} {base : Heap} {k : Nat} {x : Str} {st : Stmt} {c : Addr} {N ps : List Str} {sp : Sp} (D : AtC K mg x st c) (B : Blt mg base) (S : FnScope N ps (defScope st)) (len : ∀ vs H Q E, sp vs H Q E → vs.length = ps.length)
    (body : ∀ (f : Addr) (A : Around) (outer : List Env) (s : Shared) (H : Hp) (vs : List V) (Q : VK) (E : XK), mg x = some (.ref f) → Cxt (bX P w K mg base N x st f (.ref c) A outer s H E) k (fun cls d _ H => E cls d H) → Gd (bX P w K mg base N x st f (.ref c) A outer s H E) → sp vs H Q E →
      wB (bX P w K mg base N x st f (.ref c) A outer s H E) (defBody st) { nx := fun _ H' => Q .non H', rt := Q } (start N vs) H) : DefG P w K mg base (k + 1) x st ps sp := by
  obtain ⟨f, oc, kV, doc, pm, ct, od, an, osl, hm, kp, lk, hcd⟩ := D.ex
  exact ⟨f, kV, doc, pm, an, .ref c, ct, hm, kp, gfn_body B lk hcd S len fun A outer s H vs Q E C g h => body f A outer s H vs Q E hm C g h⟩

/-- the data at sysModules is a dict -/
def SysAt (base : Heap) : Prop := ∃ o es ep, base.get? sysModules = some o ∧ o.data = .dict es ep
theorem law_callG {P : Program} {w : World} {K : PySem.W.Frag} {mg mb : Str → Option Value} {k : Nat} {fa a : Addr} {cs : List (Addr × Addr)} {x : Str} {sp : Sp} {s₁ : Shared} {vs : List Value} {ns : List Int}
    (KX : K.In s₁.heap) (hns : s₁.heap.Ns mainGlobals mg) (hb : s₁.heap.Ns builtinsNs mb) (hbb : ∀ x : Str, x ≠ "__name__" → mb x = bootBuiltins x) (hlim : s₁.heap.NoLimit) (hsy : ∃ mm, s₁.heap.Ns sysModules mm) (hg : s₁.gens = #[])
    (hT : ∀ p ∈ cs, s₁.heap.get? p.2 = some { cls := .none, data := .fields #[] }) (nT : ∀ p ∈ cs, K.lookup p.2 = none) (C : ∀ p ∈ cs, PySem.W.CodeHd s₁.heap p.1 p.2)
    (hbm : ∃ (bm : Addr) (ob : Obj), mg "__builtins__" = some (.ref bm) ∧ bm ≠ builtinsNs ∧ s₁.heap.get? bm = some ob ∧ ob.cls = .type "module" ∧ ob.dict = some builtinsNs ∧ ob.data = .plain)
    (ha : s₁.heap.get? a = some { cls := .type "list", data := .seq vs.toArray }) (hi : IntsAre vs ns) (hl : ns.length ≤ sizeLine) (hr : Room k callerA)
    (F : ∀ base : Heap, K.In base → base.Ns mainGlobals mg → SysAt base → (∀ p ∈ cs, TabB base mg p.1 p.2) → ∃ fd, (∀ (s : Shared) (u : Value), BindsTo s fd ⟨[u], []⟩ [(x, u)]) ∧ GFn P w K mg base k fa fd [x] sp)
    (hsp : ∀ H : Hp, (∀ p ∈ cs, H p.2 = some (.tbl #[])) → SqL K H a (ns.map V.int) → sp [.ref a] H (fun v _ => v = .bl true) fun _ _ _ => False) :
    codeAny (model P w) callerA (.call (.ref fa) ⟨[.ref a], []⟩) (fun r s' => r = .ok (.ret (.bool true)) ∧ OldK s₁.heap s'.heap ∧ s'.os = s₁.os ∧ AllBare s'.gens) s₁ := by
  have rv := vals_ints hi
  have lenV := hi.length
  have isT : ∀ b : Addr, b ∈ cs.map (·.2) → s₁.heap.get? b = some { cls := .none, data := .fields #[] } := fun b hb => by
    obtain ⟨p, hp, e⟩ := List.mem_map.mp hb
    rw [← e]
    exact hT p hp
  have aT : a ∉ cs.map (·.2) := fun z => by
    have q := isT a z
    rw [ha] at q
    have z' : Data.seq vs.toArray _ = Data.fields #[] := congrArg Obj.data (Option.some.inj q)
    cases z'
  have memT : ∀ p ∈ cs, p.2 ∈ cs.map (·.2) := fun p hp => List.mem_map.mpr ⟨p, hp, rfl⟩
  -- what is tracked at the start: the tables, and the script where the text does not hold it
  let H : Hp := fun b => if b ∈ cs.map (·.2) then some (.tbl #[]) else if b = a ∧ K.lookup a = none then some (.frz { cls := .type "list", data := .seq vs.toArray } (.lst (ns.map V.int))) else none
  have HT : ∀ b, b ∈ cs.map (·.2) → H b = some (.tbl #[]) := fun b hb => if_pos hb
  have HA : K.lookup a = none → H a = some (.frz { cls := .type "list", data := .seq vs.toArray } (.lst (ns.map V.int))) := fun e => (if_neg aT).trans (if_pos ⟨rfl, e⟩)
  have Hcase : ∀ b u, H b = some u → (b ∈ cs.map (·.2) ∧ u = .tbl #[]) ∨ (b = a ∧ K.lookup a = none ∧ u = .frz { cls := .type "list", data := .seq vs.toArray } (.lst (ns.map V.int))) := fun b u e => by
    by_cases h1 : b ∈ cs.map (·.2)
    · rw [HT b h1] at e
      cases e
      exact .inl ⟨h1, rfl⟩
    · have e1 : H b = _ := if_neg h1
      rw [e1] at e
      by_cases h2 : b = a ∧ K.lookup a = none
      · rw [if_pos h2] at e
        cases e
        exact .inr ⟨h2.1, h2.2, rfl⟩
      · rw [if_neg h2] at e
        cases e
  have hok : HOk P w H s₁.heap := fun b u e => by
    rcases Hcase b u e with ⟨h1, rfl⟩ | ⟨rfl, h2, rfl⟩
    · exact isT b h1
    · exact ⟨ha, by rw [List.length_map]; exact hl, vs, _, rv, ha⟩
  have hS : SqL K H a (ns.map V.int) := by
    cases hk : K.lookup a with
    | none => exact .inl (.inr ⟨_, HA hk⟩)
    | some o =>
      have e := KX a o hk
      rw [ha] at e
      cases e
      exact .inr ⟨_, vs.toArray, _, hk, rfl, rfl, rfl, by rw [List.size_toArray, lenV]; exact hl, by simpa using rv⟩
  have base_of : ∀ {b : Addr} {o : Obj}, s₁.heap.get? b = some o → H b = none → (hidT s₁.heap H).get? b = some o := fun e n => hidT_get e n
  have noD : ∀ {b : Addr} {o : Obj}, s₁.heap.get? b = some o → (∀ vs n, o.data ≠ .seq vs n) → o.data ≠ .fields #[] → H b = none := fun {b o} e h1 h2 => by
    cases q : H b with
    | none => rfl
    | some u =>
      rcases Hcase b u q with ⟨e', _⟩ | ⟨e', _⟩
      · rw [isT b e'] at e
        cases e
        exact (h2 rfl).elim
      · rw [e', ha] at e
        cases e
        exact (h1 _ _ rfl).elim
  have noA : ∀ {b : Addr} {o : Obj} {es : Array DictEntry} {ep : Nat}, s₁.heap.get? b = some o → o.data = .dict es ep → H b = none := fun {b o es ep} e d => by
    refine noD e (fun vs n z => ?_) fun z => ?_
    · rw [d] at z
      cases z
    · rw [d] at z
      cases z
  have nsK : ∀ {b : Addr} {m : Str → Option Value}, s₁.heap.Ns b m → (hidT s₁.heap H).Ns b m := fun {b m} ⟨o, es, ep, e, d, r⟩ => ⟨o, es, ep, base_of e (noA e d), d, r⟩
  have hKb : K.In (hidT s₁.heap H) := fun b o e => base_of (KX b o e) (by
    cases q : H b with
    | none => rfl
    | some u =>
      rcases Hcase b u q with ⟨e', _⟩ | ⟨e', hk, _⟩
      · obtain ⟨p, hp, ep⟩ := List.mem_map.mp e'
        rw [← ep, nT p hp] at e
        cases e
      · rw [e', hk] at e
        cases e)
  have hM : L2.Mod K mg (hidT s₁.heap H) := ⟨hKb, nsK hns, ⟨mb, nsK hb, hbb⟩, let ⟨mc, h1, h2⟩ := hlim; ⟨mc, nsK h1, h2⟩⟩
  have hSys : SysAt (hidT s₁.heap H) := by
    obtain ⟨mm, hm⟩ := hsy
    obtain ⟨o, es, ep, e, d, _⟩ := nsK hm
    exact ⟨o, es, ep, e, d⟩
  have TB : ∀ p ∈ cs, TabB (hidT s₁.heap H) mg p.1 p.2 := fun p hp => by
    have hTp := hT p hp
    refine ⟨?_, ?_, fun z => ?_⟩
    · obtain ⟨o, us, file, tf, flags, tg, inF, text, tt, e1, r1, r2, r3, r4, r5, r6, r7, r8, hne⟩ := C p hp
      refine ⟨o, us, file, tf, flags, tg, inF, text, tt, base_of e1 (noD e1 (fun vs n z => ?_) fun z => ?_), r1, r2, r3, r4, r5, r6, r7, r8, hne⟩
      · rw [r2] at z
        cases z
      · rw [r2] at z
        cases z
        simp at r3
    · obtain ⟨bm, ob, b1, b2, b3, b4, b5, b6⟩ := hbm
      have nG : bm ≠ mainGlobals := fun q => by
        obtain ⟨o, es, ep, e, hd, _⟩ := hns
        rw [q, e] at b3
        cases b3
        rw [hd] at b6
        cases b6
      have nP : bm ≠ p.2 := fun q => by
        rw [q, hTp] at b3
        cases b3
        cases b6
      refine ⟨bm, ob, b1, b2, nG, nP, base_of b3 (noD b3 (fun vs n z => ?_) fun z => ?_), b4, b5, b6⟩
      · rw [b6] at z
        cases z
      · rw [b6] at z
        cases z
    · obtain ⟨o, es, ep, e, hd, _⟩ := hns
      rw [z, hTp] at e
      cases e
      cases hd
  have e0 : Env0 P w K mg (hidT s₁.heap H) callerA [] s₁ H := ⟨rfl, hM, fun b o e => of_hidT e, Nat.le_of_eq (hidT_size _ _), trivial, fun b hb => absurd (show b ∈ ([] : List Addr) from hb) (by simp), hok, .of_eq hg⟩
  obtain ⟨fd, hbind, hF⟩ := F _ hKb (nsK hns) hSys TB
  refine codeAny_mono (hF.run callerA [] s₁ H ⟨[.ref a], []⟩ [.ref a] [.ref a] _ _ hr rfl e0 (hbind s₁ (.ref a)) (.cons rfl .nil) (hsp H (fun p hp => HT _ (memT p hp)) hS)) fun r s' h => ?_
  cases r with
  | error e =>
    obtain ⟨_, _, _, _, _, _, _, _, _, _, _, _, z⟩ := h
    exact z.elim
  | ok fl =>
    cases fl with
    | next => exact False.elim h
    | brk => exact False.elim h
    | cont => exact False.elim h
    | ret u =>
      obtain ⟨v, H', os, bare, un, hok', r', q⟩ := h
      have q' : v = .bl true := q
      subst q'
      obtain rfl : u = Value.bool true := r'
      have key : ∀ b o, b ∉ cs.map (·.2) → s₁.heap.get? b = some o → s'.heap.get? b = some o := fun b o nb e => by
        cases q : H b with
        | none => exact un.keep b o e q (by intro z; exact absurd (show b ∈ ([] : List Addr) from z) (by simp)) (by simp)
        | some u =>
          rcases Hcase b u q with ⟨z, _⟩ | ⟨_, _, z⟩
          · exact absurd z nb
          · rw [z] at q
            have z2 := un.frzs b _ _ q
            obtain ⟨e1, _⟩ := hok b _ q
            obtain ⟨e2, _⟩ := hok' b _ z2
            rw [e] at e1; cases e1
            exact e2
      have grown : ∀ p ∈ cs, ∃ more : Array Value, s'.heap.get? p.2 = some { cls := .none, data := .fields more } := fun p hp => by
        obtain ⟨more, z⟩ := un.tbls p.2 #[] (HT _ (memT p hp))
        exact ⟨_, hok' p.2 _ z⟩
      refine ⟨rfl, ⟨fun b o e => ?_, fun b o e => ?_⟩, os, bare⟩
      · by_cases hb : b ∈ cs.map (·.2)
        · obtain ⟨p, hp, ep⟩ := List.mem_map.mp hb
          obtain ⟨more, hm⟩ := grown p hp
          rw [← ep] at e ⊢
          rw [hT p hp] at e
          cases e
          exact .inr (.inl ⟨((C p hp).tab (hT p hp)).isCodeTable, rfl, #[], more, rfl, by rw [Array.empty_append]; exact hm⟩)
        · exact .inl (key b o hb e)
      · by_cases hb : b ∈ cs.map (·.2)
        · obtain ⟨p, hp, ep⟩ := List.mem_map.mp hb
          obtain ⟨more, hm⟩ := grown p hp
          rw [← ep]
          exact ⟨_, hm⟩
        · exact ⟨o, key b o hb e⟩
/-- what is known of the law's promise at the head's heap h -/
def LawG (l : PySem.W.OpenLaw) (w : World) (K : PySem.W.Frag) (k n : Nat) (x : Str) (mg : Str → Option Value) (fa : Addr) (h : Heap) : Prop :=
  ∃ (cs : List (Addr × Addr)) (sp : Sp), (∀ p ∈ cs, h.get? p.2 = some { cls := .none, data := .fields #[] }) ∧ (∀ p ∈ cs, K.lookup p.2 = none) ∧ (∀ p ∈ cs, PySem.W.CodeHd h p.1 p.2) ∧
    (∀ (H : Hp) (a : Addr) (ns : List Int), ns.length ≤ n → (∀ z ∈ ns, Builtin.Int.intBits z ≤ 1048576) → (∀ p ∈ cs, H p.2 = some (.tbl #[])) → SqL K H a (ns.map V.int) → sp [.ref a] H (fun v _ => v = .bl true) fun _ _ _ => False) ∧
    ∀ base : Heap, K.In base → base.Ns mainGlobals mg → SysAt base → (∀ p ∈ cs, TabB base mg p.1 p.2) → ∃ fd, (∀ (s : Shared) (u : Value), BindsTo s fd ⟨[u], []⟩ [(x, u)]) ∧ GFn l.prog w K mg base k fa fd [x] sp
theorem walk_G {l : PySem.W.OpenLaw} {n k : Nat} {q : Program} {loose : List Str} {XP : (Str → Option Value) → Heap → Prop} {YP : World → Heap → Prop} {d : DefRec} {K : Params → PySem.W.Frag} {x : Str}
    (hn : l.most = some n) (hn2 : n ≤ sizeLine) (hdf : d.params.defaults = []) (hr : Room k callerA) (hY : ∀ (w : World) (h : Heap), YP w h → (K w.params).In h) (hq : importsNone q = true)
    (F : ∀ (w : World) (mg : Str → Option Value) (fa : Addr) (h : Heap), YP w h → (K w.params).In h → h.Ns mainGlobals mg → mg d.name = some (.ref fa) → LawG l w (K w.params) k n x mg fa h) :
    PySem.W.WalkO q loose XP YP l.row.toRowW d [] (fun f vs => PySem.call f vs) := by
  refine Att.attach_callB hn hdf fun w s₀ s₁ mg mb fa o pm cd doc a vs ns G Y ho hd hcd hmg hobj hints hlen hbits hg => ?_
  have KX := hY w _ Y
  obtain ⟨cs, sp, hT, nT, C, hsp, hF⟩ := F w mg fa _ Y KX G.T.g hmg
  obtain ⟨mm, hmm, _⟩ := (G.T.seer hq).mods
  exact law_callG KX G.T.g G.T.b G.T.builtins G.T.nolimit ⟨mm, hmm⟩ hg hT nT C G.T.bmain hobj hints (Nat.le_trans hlen hn2) hr hF fun H hH hS => hsp H a ns hlen hbits hH hS
end Z

set_option Elab.async false
set_option linter.all false
set_option maxRecDepth 100000
set_option maxHeartbeats 4000000
/-! zip of two texts of ASCII signs -/
namespace Z
open PySem PySem.Spec PyProof.Rows L2
section
variable {prog : Program} {w : World} {A : Around} {E : Value → Shared → Prop} {s : Shared}
abbrev At8 (h : Heap) (a : Addr) (x : Str) (t : Tok) (i : Nat) : Prop := h.IsStrIter a "str_ascii_iterator" x t i
theorem at8_at {h h' : Heap} {a : Addr} {x : Str} {t : Tok} {i : Nat} (y : At8 h a x t i) (k : ∀ o, h.get? a = some o → h'.get? a = some o) : At8 h' a x t i := let ⟨o, e, r⟩ := y; ⟨o, k o e, r⟩
theorem zipS_next_item {z TI TO i1 i2 l1 l2 : Addr} {k1 k2 c d : Nat} {xs ys : Str} {t1 t2 : Tok} {a b : Value} {Q : Value → Shared → Prop} (D : ZipApart z TI TO i1 i2 l1 l2)
    (hz : IsZip s.heap z TI TO .none) (hTI : IsPair s.heap TI (.ref i1) (.ref i2)) (hTO : IsPair s.heap TO a b)
    (h1 : At8 s.heap i1 xs t1 k1) (h2 : At8 s.heap i2 ys t2 k2) (hx : xs.cps[k1]? = some c) (hy : ys.cps[k2]? = some d)
    (hQ : ∀ h' u v, IsZip h' z TI TO (rawInt s.heap.objs.size) → IsPair h' TO (.str ⟨#[c]⟩ u) (.str ⟨#[d]⟩ v) → At8 h' i1 xs t1 (k1 + 1) → At8 h' i2 ys t2 (k2 + 1) → IsPair h' s.heap.objs.size (.str ⟨#[c]⟩ u) (.str ⟨#[d]⟩ v) → h'.objs.size = s.heap.objs.size + 1 →
      (∀ c o, c ≠ z → c ≠ TO → c ≠ i1 → c ≠ i2 → s.heap.get? c = some o → h'.get? c = some o) → Q (.ref s.heap.objs.size) { s with heap := h', toks := s.toks + 2 }) :
    wpAny (model prog w) A (Builtin.«zip.__next__» ⟨[.ref z], []⟩) (fun fin s' => ∃ v, fin = .done (.ret v) ∧ Q v s') E s := by
  obtain ⟨hp, g, dr, tk, os⟩ := s
  show wpAny _ _ (field (.ref z) 2 >>= _) _ _ _
  refine wpAny_bind (wpAny_field hz rfl (x := .bool false) rfl ?_)
  show wpAny _ _ (field (.ref z) 3 >>= _) _ _ _
  refine wpAny_bind (wpAny_field hz rfl (x := .ref TI) rfl ?_)
  refine wpAny_bind (wpAny_seqItems hTI rfl ?_)
  show wpAny _ _ (Builtin.SmallTypes.ownedTupleIsFree (.ref z) >>= _) _ _ _
  refine wpAny_bind ?_
  unfold Builtin.SmallTypes.ownedTupleIsFree
  refine wpAny_bind (wpAny_field hz rfl (x := .none) rfl (wpAny_pure ?_))
  simp only [if_true]
  refine wpAny_bind (wpAny_rule ?_)
  refine wpAny_bind (wpAny_field hz rfl (x := .ref TO) rfl ?_)
  refine wpAny_bind (wpAny_setField_rec hz (by simp) fun h₁ hz₁ hs₁ => ?_)
  replace hz₁ : IsZip h₁ z TI TO .ellipsis := hz₁
  refine wpAny_bind ?_
  simp only [List.zipIdx_cons, List.zipIdx_nil, List.forIn_cons, List.forIn_nil]
  refine wpAny_bind (wpAny_bind (wpAny_onRaise ?_))
  show wpAny _ _ (Builtin.SmallTypes.nextOf (.ref i1) >>= _) _ _ _
  refine wpAny_bind (wpAny_nextOf_ascii_item (Heap.IsStrIter.extBut h1 hs₁.extBut D.i1z) hx fun h₂ h1₂ hs₂ => wpAny_pure ?_)
  have hTO₂ : IsPair h₂ TO a b := hs₂.extBut _ _ D.TOi1 (hs₁.extBut _ _ D.TOz hTO)
  refine wpAny_bind (wpAny_seqItems hTO₂ rfl ?_)
  refine wpAny_bind (wpAny_updateSeq_pair hTO₂ fun h₃ hTO₃ hs₃ => ?_)
  replace hTO₃ : IsPair h₃ TO (.str ⟨#[c]⟩ tk) b := hTO₃
  refine wpAny_bind (wpAny_letGo (wpAny_pure ?_))
  refine wpAny_bind (wpAny_bind (wpAny_onRaise ?_))
  show wpAny _ _ (Builtin.SmallTypes.nextOf (.ref i2) >>= _) _ _ _
  refine wpAny_bind (wpAny_nextOf_ascii_item (((Heap.IsStrIter.extBut h2 hs₁.extBut D.i2z).extBut hs₂.extBut D.i12.symm).extBut hs₃.extBut D.TOi2.symm) hy fun h₄ h2₄ hs₄ => wpAny_pure ?_)
  have hTO₄ : IsPair h₄ TO (.str ⟨#[c]⟩ tk) b := hs₄.extBut _ _ D.TOi2 hTO₃
  refine wpAny_bind (wpAny_seqItems hTO₄ rfl ?_)
  refine wpAny_bind (wpAny_updateSeq_pair hTO₄ fun h₅ hTO₅ hs₅ => ?_)
  replace hTO₅ : IsPair h₅ TO (.str ⟨#[c]⟩ tk) (.str ⟨#[d]⟩ (tk + 1)) := hTO₅
  refine wpAny_bind (wpAny_letGo (wpAny_pure (wpAny_pure ?_)))
  refine wpAny_bind (wpAny_seqItems hTO₅ rfl ?_)
  refine wpAny_bind (wpAny_newTuple ?_)
  have hsz : h₅.objs.size = hp.objs.size := by rw [hs₅.1, hs₄.1, hs₃.1, hs₂.1, hs₁.1]
  have hz₅ : IsZip h₅ z TI TO .ellipsis := hs₅.extBut _ _ D.TOz.symm (hs₄.extBut _ _ D.i2z.symm (hs₃.extBut _ _ D.TOz.symm (hs₂.extBut _ _ D.i1z.symm hz₁)))
  have hk₅ : ∀ c o, c ≠ z → c ≠ TO → c ≠ i1 → c ≠ i2 → hp.get? c = some o → h₅.get? c = some o := fun c o c1 c2 c3 c4 e =>
    hs₅.extBut _ _ c2 (hs₄.extBut _ _ c4 (hs₃.extBut _ _ c2 (hs₂.extBut _ _ c3 (hs₁.extBut _ _ c1 e))))
  have h1₅ : At8 h₅ i1 xs t1 (k1 + 1) := ((Heap.IsStrIter.extBut h1₂ hs₃.extBut D.TOi1.symm).extBut hs₄.extBut D.i12).extBut hs₅.extBut D.TOi1.symm
  have h2₅ : At8 h₅ i2 ys t2 (k2 + 1) := Heap.IsStrIter.extBut h2₄ hs₅.extBut D.TOi2.symm
  have hzlt : z < h₅.objs.size := Heap.lt_size hz₅
  have hTOlt : TO < h₅.objs.size := Heap.lt_size hTO₅
  show wpAny _ _ (Builtin.SmallTypes.ownedTupleHandOut (.ref z) (.ref h₅.objs.size) >>= _) _ _ _
  refine wpAny_bind ?_
  unfold Builtin.SmallTypes.ownedTupleHandOut
  have hz₆ : IsZip (h₅.push { cls := .type "tuple", data := .seq #[.str ⟨#[c]⟩ tk, .str ⟨#[d]⟩ (tk + 1)] }) z TI TO .ellipsis := Heap.get?_push_of_some _ hz₅
  refine wpAny_bind (wpAny_setField_rec hz₆ (by simp) fun h₇ hz₇ hs₇ => ?_)
  replace hz₇ : IsZip h₇ z TI TO (rawInt h₅.objs.size) := hz₇
  refine wpAny_setField_rec hz₇ (by simp) fun h₈ hz₈ hs₈ => ?_
  replace hz₈ : IsZip h₈ z TI TO (rawInt h₅.objs.size) := hz₈
  have up : ∀ c o, c ≠ z → h₅.get? c = some o → h₈.get? c = some o := fun c o c1 e => hs₈.extBut _ _ c1 (hs₇.extBut _ _ c1 (Heap.get?_push_of_some _ e))
  have hT₈ : IsPair h₈ h₅.objs.size (.str ⟨#[c]⟩ tk) (.str ⟨#[d]⟩ (tk + 1)) := hs₈.extBut _ _ (Nat.ne_of_gt hzlt) (hs₇.extBut _ _ (Nat.ne_of_gt hzlt) (Heap.get?_push_size _ rfl))
  have hz8 : h₈.objs.size = h₅.objs.size + 1 := by rw [hs₈.1, hs₇.1, Heap.size_push]
  rw [hsz] at hz₈ hT₈ hz8
  refine wpAny_pure ⟨_, rfl, ?_⟩
  show Q (.ref h₅.objs.size) _
  rw [hsz]
  exact hQ h₈ _ _ hz₈ (up _ _ D.TOz hTO₅) (at8_at h1₅ fun o e => up _ o D.i1z e) (at8_at h2₅ fun o e => up _ o D.i2z e) hT₈ hz8 fun c o c1 c2 c3 c4 e => up c o c1 (hk₅ c o c1 c2 c3 c4 e)
theorem zipS_next_end {z TI TO i1 i2 l1 l2 : Addr} {k1 k2 : Nat} {xs ys : Str} {t1 t2 : Tok} {a b : Value} {Q : Fin → Shared → Prop} (hh : A.handled = none) (D : ZipApart z TI TO i1 i2 l1 l2)
    (hz : IsZip s.heap z TI TO .none) (hTI : IsPair s.heap TI (.ref i1) (.ref i2)) (hTO : IsPair s.heap TO a b)
    (h1 : At8 s.heap i1 xs t1 k1) (h2 : At8 s.heap i2 ys t2 k2) (hend : xs.cps[k1]? = none ∨ ys.cps[k2]? = none)
    (hE : ∀ h' tk' e, (∀ c o, c ≠ z → c ≠ TO → c ≠ i1 → c ≠ i2 → s.heap.get? c = some o → h'.get? c = some o) → (∃ o, h'.get? e = some o ∧ o.cls = .type "StopIteration") → E (.ref e) { s with heap := h', toks := tk' }) :
    wpAny (model prog w) A (Builtin.«zip.__next__» ⟨[.ref z], []⟩) Q E s := by
  obtain ⟨hp, g, dr, tk, os⟩ := s
  show wpAny _ _ (field (.ref z) 2 >>= _) _ _ _
  refine wpAny_bind (wpAny_field hz rfl (x := .bool false) rfl ?_)
  show wpAny _ _ (field (.ref z) 3 >>= _) _ _ _
  refine wpAny_bind (wpAny_field hz rfl (x := .ref TI) rfl ?_)
  refine wpAny_bind (wpAny_seqItems hTI rfl ?_)
  show wpAny _ _ (Builtin.SmallTypes.ownedTupleIsFree (.ref z) >>= _) _ _ _
  refine wpAny_bind ?_
  unfold Builtin.SmallTypes.ownedTupleIsFree
  refine wpAny_bind (wpAny_field hz rfl (x := .none) rfl (wpAny_pure ?_))
  simp only [if_true]
  refine wpAny_bind (wpAny_rule ?_)
  refine wpAny_bind (wpAny_field hz rfl (x := .ref TO) rfl ?_)
  refine wpAny_bind (wpAny_setField_rec hz (by simp) fun h₁ hz₁ hs₁ => ?_)
  replace hz₁ : IsZip h₁ z TI TO .ellipsis := hz₁
  refine wpAny_bind ?_
  simp only [List.zipIdx_cons, List.zipIdx_nil, List.forIn_cons, List.forIn_nil]
  refine wpAny_bind (wpAny_bind (wpAny_onRaise ?_))
  show wpAny _ _ (Builtin.SmallTypes.nextOf (.ref i1) >>= _) _ _ _
  cases hx : xs.cps[k1]? with
  | none =>
    refine wpAny_bind (wpAny_nextOf_ascii_end hh (Heap.IsStrIter.extBut h1 hs₁.extBut D.i1z) hx fun h₂ e hs₂ he => ?_)
    obtain ⟨oe, hoe, hce⟩ := he
    have hz₂ : IsZip h₂ z TI TO .ellipsis := hs₂ _ _ D.i1z.symm hz₁
    have hez : e ≠ z := fun x => by subst x; rw [hz₂] at hoe; cases hoe; simp at hce
    refine wpAny_setField_rec hz₂ (by simp) fun h₃ _ hs₃ => hE h₃ _ e (fun c o c1 _ c3 _ x => hs₃.extBut _ _ c1 (hs₂ _ _ c3 (hs₁.extBut _ _ c1 x))) ⟨oe, hs₃.extBut _ _ hez hoe, hce⟩
  | some x =>
    have hy : ys.cps[k2]? = none := by rcases hend with h | h; rw [hx] at h; cases h; exact h
    refine wpAny_bind (wpAny_nextOf_ascii_item (Heap.IsStrIter.extBut h1 hs₁.extBut D.i1z) hx fun h₂ h1₂ hs₂ => wpAny_pure ?_)
    have hTO₂ : IsPair h₂ TO a b := hs₂.extBut _ _ D.TOi1 (hs₁.extBut _ _ D.TOz hTO)
    refine wpAny_bind (wpAny_seqItems hTO₂ rfl ?_)
    refine wpAny_bind (wpAny_updateSeq_pair hTO₂ fun h₃ hTO₃ hs₃ => ?_)
    refine wpAny_bind (wpAny_letGo (wpAny_pure ?_))
    refine wpAny_bind (wpAny_bind (wpAny_onRaise ?_))
    show wpAny _ _ (Builtin.SmallTypes.nextOf (.ref i2) >>= _) _ _ _
    refine wpAny_bind (wpAny_nextOf_ascii_end hh (((Heap.IsStrIter.extBut h2 hs₁.extBut D.i2z).extBut hs₂.extBut D.i12.symm).extBut hs₃.extBut D.TOi2.symm) hy fun h₄ e hs₄ he => ?_)
    obtain ⟨oe, hoe, hce⟩ := he
    have hz₄ : IsZip h₄ z TI TO .ellipsis := hs₄ _ _ D.i2z.symm (hs₃.extBut _ _ D.TOz.symm (hs₂.extBut _ _ D.i1z.symm hz₁))
    have hez : e ≠ z := fun x => by subst x; rw [hz₄] at hoe; cases hoe; simp at hce
    refine wpAny_setField_rec hz₄ (by simp) fun h₅ _ hs₅ => hE h₅ _ e (fun c o c1 c2 c3 c4 x => hs₅.extBut _ _ c1 (hs₄ _ _ c4 (hs₃.extBut _ _ c2 (hs₂.extBut _ _ c3 (hs₁.extBut _ _ c1 x))))) ⟨oe, hs₅.extBut _ _ hez hoe, hce⟩
theorem pyNext_zipS_item {z TI TO i1 i2 l1 l2 : Addr} {k1 k2 c d : Nat} {xs ys : Str} {t1 t2 : Tok} {a b : Value} {Q : Option Value → Shared → Prop} (D : ZipApart z TI TO i1 i2 l1 l2)
    (hz : IsZip s.heap z TI TO .none) (hTI : IsPair s.heap TI (.ref i1) (.ref i2)) (hTO : IsPair s.heap TO a b)
    (h1 : At8 s.heap i1 xs t1 k1) (h2 : At8 s.heap i2 ys t2 k2) (hx : xs.cps[k1]? = some c) (hy : ys.cps[k2]? = some d)
    (hQ : ∀ h' u v, IsZip h' z TI TO (rawInt s.heap.objs.size) → IsPair h' TO (.str ⟨#[c]⟩ u) (.str ⟨#[d]⟩ v) → At8 h' i1 xs t1 (k1 + 1) → At8 h' i2 ys t2 (k2 + 1) → IsPair h' s.heap.objs.size (.str ⟨#[c]⟩ u) (.str ⟨#[d]⟩ v) → h'.objs.size = s.heap.objs.size + 1 →
      (∀ c o, c ≠ z → c ≠ TO → c ≠ i1 → c ≠ i2 → s.heap.get? c = some o → h'.get? c = some o) → Q (some (.ref s.heap.objs.size)) { s with heap := h', toks := s.toks + 2 }) :
    wpAny (model prog w) A (pyNext (.ref z)) Q E s := by
  have hT : s.TypeIs (.ref z) "zip" := ⟨_, hz, rfl⟩
  unfold pyNext
  exact wpAny_bind (wpAny_attempt (wpAny_callSpecial?_slot (name := Str.ofString "__next__") hT F.slot_zip_next
    (wpAny_call_entry F.slot_zip_next hT F.entry_zip_next
      (zipS_next_item D hz hTI hTO h1 h2 hx hy fun h' u v a1 a2 a3 a4 a5 a6 a7 => wpAny_pure (hQ h' u v a1 a2 a3 a4 a5 a6 a7)) (F.args_zip_next_1 _))))
theorem pyNext_zipS_end {z TI TO i1 i2 l1 l2 : Addr} {k1 k2 : Nat} {xs ys : Str} {t1 t2 : Tok} {a b : Value} {Q : Option Value → Shared → Prop} (hh : A.handled = none) (D : ZipApart z TI TO i1 i2 l1 l2)
    (hz : IsZip s.heap z TI TO .none) (hTI : IsPair s.heap TI (.ref i1) (.ref i2)) (hTO : IsPair s.heap TO a b)
    (h1 : At8 s.heap i1 xs t1 k1) (h2 : At8 s.heap i2 ys t2 k2) (hend : xs.cps[k1]? = none ∨ ys.cps[k2]? = none)
    (hQ : ∀ h' tk', (∀ c o, c ≠ z → c ≠ TO → c ≠ i1 → c ≠ i2 → s.heap.get? c = some o → h'.get? c = some o) → Q none { s with heap := h', toks := tk' }) : wpAny (model prog w) A (pyNext (.ref z)) Q E s := by
  have hT : s.TypeIs (.ref z) "zip" := ⟨_, hz, rfl⟩
  unfold pyNext
  refine wpAny_bind (wpAny_attempt (wpAny_callSpecial?_slot (name := Str.ofString "__next__") hT F.slot_zip_next
    (wpAny_call_entry F.slot_zip_next hT F.entry_zip_next (zipS_next_end hh D hz hTI hTO h1 h2 hend fun h' tk' e hk he => ?_) (F.args_zip_next_1 _))))
  obtain ⟨o, ho, hc⟩ := he
  refine wpAny_bind (wpAny_isInstance (T := "StopIteration") (b := true) ⟨o, ho, hc⟩ isSubtype_stop ?_)
  exact wpAny_pure (hQ _ _ hk)
end
abbrev zipSH1 (h : Heap) (x : Str) (t : Tok) : Heap := h.push { cls := .type "str_ascii_iterator", data := .fields #[.str x t, .int 0 0] }
abbrev zipSH2 (h : Heap) (x y : Str) (t u : Tok) : Heap := (zipSH1 h x t).push { cls := .type "str_ascii_iterator", data := .fields #[.str y u, .int 0 0] }
abbrev zipSH3 (h : Heap) (x y : Str) (t u : Tok) : Heap := (zipSH2 h x y t u).push { cls := .type "tuple", data := .seq #[.ref h.objs.size, .ref (zipSH1 h x t).objs.size] }
abbrev zipSH4 (h : Heap) (x y : Str) (t u : Tok) : Heap := (zipSH3 h x y t u).push { cls := .type "tuple", data := .seq #[.none, .none] }
abbrev zipSH5 (h : Heap) (x y : Str) (t u : Tok) : Heap := (zipSH4 h x y t u).push { cls := .type "zip", data := .fields #[.none, .bool false, .bool false, .ref (zipSH2 h x y t u).objs.size, .ref (zipSH3 h x y t u).objs.size] }
theorem meets_zipS_new (x y : Str) (t u : Tok) (hx : x.cps.all (· < 128) = true) (hy : y.cps.all (· < 128) = true) :
    Meets (Builtin.«zip.__new__» ⟨[.type "zip", .str x t, .str y u], []⟩) (fun _ R s => R (.ok (.ret (.ref (zipSH4 s.heap x y t u).objs.size))) { s with heap := zipSH5 s.heap x y t u }) :=
  .of_wp fun prog w A R s h => by
    obtain ⟨hp, g, d, tk, os⟩ := s
    have hsub := sub_zip
    wp_walk using wpAny_pyIter_ascii hx, wpAny_pyIter_ascii hy
    exact ⟨_, rfl, h⟩
section
variable {prog : Program} {w : World} {A : Around} {E : Value → Shared → Prop} {s : Shared}
theorem call_zipS {x y : Str} {t u : Tok} {Q : Value → Shared → Prop} (hx : x.cps.all (· < 128) = true) (hy : y.cps.all (· < 128) = true)
    (h : ∀ h', IsZip h' (s.heap.objs.size + 4) (s.heap.objs.size + 2) (s.heap.objs.size + 3) .none → IsPair h' (s.heap.objs.size + 2) (.ref s.heap.objs.size) (.ref (s.heap.objs.size + 1)) →
      IsPair h' (s.heap.objs.size + 3) .none .none → At8 h' s.heap.objs.size x t 0 → At8 h' (s.heap.objs.size + 1) y u 0 → h'.objs.size = s.heap.objs.size + 5 →
      (∀ c o, s.heap.get? c = some o → h'.get? c = some o) → Q (.ref (s.heap.objs.size + 4)) { s with heap := h' }) :
    wpAny (model prog w) A (call (.type "zip") [.str x t, .str y u]) Q E s := by
  refine callType_new F.called_zip (by decide) (F.typeCall_zip_2 _ _) (F.newCall_zip_2 _ _) (fun obj => F.args_object_init_3 obj _ _) F.entry_zip_new
    (meets_zipS_new x y t u hx hy) ?_
  have z1 : (zipSH1 s.heap x t).objs.size = s.heap.objs.size + 1 := Heap.size_push ..
  have z2 : (zipSH2 s.heap x y t u).objs.size = s.heap.objs.size + 2 := by rw [Heap.size_push, z1]
  have z3 : (zipSH3 s.heap x y t u).objs.size = s.heap.objs.size + 3 := by rw [Heap.size_push, z2]
  have z4 : (zipSH4 s.heap x y t u).objs.size = s.heap.objs.size + 4 := by rw [Heap.size_push, z3]
  have z5 : (zipSH5 s.heap x y t u).objs.size = s.heap.objs.size + 5 := by rw [Heap.size_push, z4]
  have g5 : (zipSH5 s.heap x y t u).get? (zipSH4 s.heap x y t u).objs.size = some _ := Heap.get?_push_size _ rfl
  have g4 : (zipSH5 s.heap x y t u).get? (zipSH3 s.heap x y t u).objs.size = some _ := Heap.get?_push_of_some _ (Heap.get?_push_size _ rfl)
  have g3 : (zipSH5 s.heap x y t u).get? (zipSH2 s.heap x y t u).objs.size = some _ := Heap.get?_push_of_some _ (Heap.get?_push_of_some _ (Heap.get?_push_size _ rfl))
  have g2 : (zipSH5 s.heap x y t u).get? (zipSH1 s.heap x t).objs.size = some _ := Heap.get?_push_of_some _ (Heap.get?_push_of_some _ (Heap.get?_push_of_some _ (Heap.get?_push_size _ rfl)))
  have g1 : (zipSH5 s.heap x y t u).get? s.heap.objs.size = some _ := Heap.get?_push_of_some _ (Heap.get?_push_of_some _ (Heap.get?_push_of_some _ (Heap.get?_push_of_some _ (Heap.get?_push_size _ rfl))))
  show _ ∧ _
  rw [z2, z3, z4] at g5
  rw [z1, z2] at g3
  rw [z3] at g4
  rw [z1] at g2
  rw [z4]
  exact ⟨⟨_, g5, rfl⟩, h _ g5 g3 g4 ⟨_, g1, rfl, rfl⟩ ⟨_, g2, rfl, rfl⟩ z5 fun c o x =>
    Heap.get?_push_of_some _ (Heap.get?_push_of_some _ (Heap.get?_push_of_some _ (Heap.get?_push_of_some _ (Heap.get?_push_of_some _ x))))⟩
end
/-- the walk: pairs of signs, as long as both have some -/
def ItzS (x y : Str) : It :=
  ⟨fun i H => i < x.cps.size ∧ i < y.cps.size,
    fun i H v H' => ∃ T c d, v = .ref T ∧ H T = none ∧ H' = upd H T (.tup [.str ⟨#[c]⟩, .str ⟨#[d]⟩]) ∧ x.cps[i]? = some c ∧ y.cps[i]? = some d,
    fun i H => x.cps.size ≤ i ∨ y.cps.size ≤ i⟩
theorem turn_zipS {P : Program} {w : World} {K : PySem.W.Frag} {elts : List Expr} {kk : Nat} {tpos : Pos} {x y : Str} {t1 t2 : Tok} {l1 l2 z TI TO i1 i2 : Addr} (D : ZipApart z TI TO i1 i2 l1 l2) :
    Turn P w K (.Tuple elts kk tpos) (ItzS x y) [z, TI, TO, i1, i2] z (fun i h => IsZip h z TI TO .none ∧ IsPair h TI (.ref i1) (.ref i2) ∧ (∃ x y, IsPair h TO x y) ∧ At8 h i1 x t1 i ∧ At8 h i2 y t2 i) where
  mem := by simp
  obj := fun i h st c hc => by
    obtain ⟨hz, hTI, ⟨x, y, hTO⟩, ⟨o1, e1, _, d1⟩, ⟨o2, e2, _, d2⟩⟩ := st
    have e' : c = z ∨ c = TI ∨ c = TO ∨ c = i1 ∨ c = i2 := by simpa using hc
    rcases e' with q | q | q | q | q
    · rw [q]; exact ⟨_, hz, fun v q => nomatch q⟩
    · rw [q]; exact ⟨_, hTI, fun v q => nomatch q⟩
    · rw [q]; exact ⟨_, hTO, fun v q => nomatch q⟩
    · rw [q]; exact ⟨o1, e1, fun v q => by rw [d1] at q; cases q⟩
    · rw [q]; exact ⟨o2, e2, fun v q => by rw [d2] at q; cases q⟩
  keep := fun i h h' st k => by
    obtain ⟨hz, hTI, ⟨x, y, hTO⟩, h1, h2⟩ := st
    exact ⟨k z (by simp) _ hz, k TI (by simp) _ hTI, ⟨x, y, k TO (by simp) _ hTO⟩, at8_at h1 fun o q => k i1 (by simp) o q, at8_at h2 fun o q => k i2 (by simp) o q⟩
  item := by
    intro X hP hw hK hc i pins s σ H E I hf st hg
    subst hP hw hK
    obtain ⟨hz, hTI, ⟨x0, y0, hTO⟩, h1, h2⟩ := st
    obtain ⟨hx, hy⟩ := hg
    obtain ⟨c1, ex⟩ : ∃ c, x.cps[i]? = some c := ⟨_, Array.getElem?_eq_getElem hx⟩
    obtain ⟨c2, ey⟩ : ∃ c, y.cps[i]? = some c := ⟨_, Array.getElem?_eq_getElem hy⟩
    have hzl : z < s.heap.objs.size := Heap.lt_size hz
    refine pyNext_zipS_item D hz hTI hTO h1 h2 ex ey fun h' u v z' TO' h1' h2' hT hsz hk => ?_
    refine ⟨_, rfl, wpAny_letOwnedTupleGo_zip (s := { s with heap := h', toks := s.toks + 2 }) z' fun h'' z'' sb => ?_⟩
    have hT2 : h''.get? s.heap.objs.size = some { cls := .type "tuple", data := .seq #[.str ⟨#[c1]⟩ u, .str ⟨#[c2]⟩ v] } := (sb.2 _ (Nat.ne_of_gt hzl)).trans hT
    have new : ObjOk X.prog X.w (upd H s.heap.objs.size (.tup [.str ⟨#[c1]⟩, .str ⟨#[c2]⟩])) h'' s.heap.objs.size (.tup [.str ⟨#[c1]⟩, .str ⟨#[c2]⟩]) :=
      ⟨by show 2 ≤ sizeLine; decide, [_, _], .cons ⟨u, rfl⟩ (.cons ⟨v, rfl⟩ .nil), ⟨_, hT2, rfl, _, rfl⟩⟩
    have I1 : Inv X pins σ (upd H s.heap.objs.size (.tup [.str ⟨#[c1]⟩, .str ⟨#[c2]⟩])) { s with heap := h'', toks := s.toks + 2 } :=
      I.turnedNew (t' := s.toks + 2) (ch := [z, TI, TO, i1, i2]) (fun c o hb q => (sb.2 c (fun q' => hb (by simp [q']))).trans (hk c o (fun q' => hb (by simp [q'])) (fun q' => hb (by simp [q'])) (fun q' => hb (by simp [q'])) (fun q' => hb (by simp [q'])) q)) hf (Nat.le_refl _) new
    refine ⟨.ref s.heap.objs.size, _, I1, rfl, ⟨_, _, _, rfl, I.hok.fresh (Nat.le_refl _), rfl, ex, ey⟩, ⟨z'', ?_, ⟨.str ⟨#[c1]⟩ u, .str ⟨#[c2]⟩ v, ?_⟩, ?_, ?_⟩, fun c hcm => ?_⟩
    · exact (sb.2 _ D.TIz).trans (hk _ _ D.TIz D.TITO D.TIi1 D.TIi2 hTI)
    · exact (sb.2 _ D.TOz).trans TO'
    · exact at8_at h1' fun o q => (sb.2 _ D.i1z).trans q
    · exact at8_at h2' fun o q => (sb.2 _ D.i2z).trans q
    · have hlt : c < s.heap.objs.size := by
        have e' : c = z ∨ c = TI ∨ c = TO ∨ c = i1 ∨ c = i2 := by simpa using hcm
        rcases e' with q | q | q | q | q
        · rw [q]; exact hzl
        · rw [q]; exact Heap.lt_size hTI
        · rw [q]; exact Heap.lt_size hTO
        · rw [q]; obtain ⟨_, e1, _⟩ := h1; exact Heap.lt_size e1
        · rw [q]; obtain ⟨_, e2, _⟩ := h2; exact Heap.lt_size e2
      rw [upd_ne (Nat.ne_of_lt hlt)]
      exact (hf c hcm).1
  done := by
    intro X hP hw hK hc i pins s σ H E I hf st hg
    subst hP hw hK
    obtain ⟨hz, hTI, ⟨x0, y0, hTO⟩, h1, h2⟩ := st
    have he : x.cps[i]? = none ∨ y.cps[i]? = none := by
      rcases hg with q | q
      · exact .inl (Array.getElem?_eq_none q)
      · exact .inr (Array.getElem?_eq_none q)
    exact pyNext_zipS_end (I.ok.hd hc) D hz hTI hTO h1 h2 he fun h' tk' hk => ⟨rfl, I.turnedL (t' := tk') (ch := [z, TI, TO, i1, i2]) (fun c o hb q =>
      hk c o (fun q' => hb (by simp [q'])) (fun q' => hb (by simp [q'])) (fun q' => hb (by simp [q'])) (fun q' => hb (by simp [q'])) q) hf⟩
  self := fun A i s Q E st h => wpAny_pyIter_zip st.1 h
section
variable {X : Cx} {σ : L2.St} {H : Hp} {e a b : Expr} {p pos tpos : Pos} {elts : List Expr} {kk : Nat}
theorem i_zipS {R : It → Hp → Prop} (B : Blt X.mg X.base) (h : wE X a σ H fun v H1 => wE X b σ H1 fun u H2 => ∃ x y : Str, v = .str x ∧ u = .str y ∧ x.cps.all (· < 128) = true ∧ y.cps.all (· < 128) = true ∧ R (ItzS x y) H2) (hg : Gl X "zip" := by rfl)
    (hs : starEach [a, b] X.env = (false, eval a X.env) :: starEach [b] X.env := by rfl) (hs2 : starEach [b] X.env = [(false, eval b X.env)] := by rfl) :
    wI X (.Tuple elts kk tpos) (.Call (.Name "zip" p) [a, b] [] pos) σ H R := by
  have ha : wA X [a, b] σ H fun vs H2 => ∃ x y : Str, vs = [.str x, .str y] ∧ x.cps.all (· < 128) = true ∧ y.cps.all (· < 128) = true ∧ R (ItzS x y) H2 :=
    a_cons (wE_mono h fun v H1 q => a_cons (wE_mono q fun u H2 ⟨x, y, e1, e2, r⟩ => a_nil ⟨x, y, by rw [e1, e2], r⟩) hs2) hs
  refine ⟨fun pins s I => ?_⟩
  refine Call_ (ld_blt I hg B.zip PyProof.Rows.boot_zip (PyProof.Rows.callWith_type1 (thn (ha.run pos pins _ I) fun us s1 ⟨vs, H1, I1, r1, q1⟩ => ?_) hs (by rw [hs2]; rfl)))
  obtain ⟨x, y, ex, hx, hy, q⟩ := q1
  subst ex
  obtain ⟨u1, u2, rfl, ⟨t1, rfl⟩, ⟨t2, rfl⟩⟩ := vals2 r1
  have fresh5 : ∀ c, c ∈ [s1.heap.objs.size + 4, s1.heap.objs.size + 2, s1.heap.objs.size + 3, s1.heap.objs.size, s1.heap.objs.size + 1] → FpOk X pins H1 c := fun c hcm => by
    have e' : c = s1.heap.objs.size + 4 ∨ c = s1.heap.objs.size + 2 ∨ c = s1.heap.objs.size + 3 ∨ c = s1.heap.objs.size ∨ c = s1.heap.objs.size + 1 := by simpa using hcm
    have hle : s1.heap.objs.size ≤ c := by
      rcases e' with z | z | z | z | z
      · rw [z]; exact Nat.le_add_right _ _
      · rw [z]; exact Nat.le_add_right _ _
      · rw [z]; exact Nat.le_add_right _ _
      · rw [z]; exact Nat.le_refl _
      · rw [z]; exact Nat.le_add_right _ _
    exact I1.fpOk hle (I1.hok.fresh hle)
  obtain ⟨m, ⟨oL, _, _, hoL, _⟩, _⟩ := id I1.loc
  refine call_zipS hx hy fun h' hz hTI hTO h1 h2 hsz hk => wpAny_pyIter_zip hz ?_
  have I2 : Inv X pins σ H1 { s1 with heap := h' } := I1.kept (t' := s1.toks) hk
  exact ⟨s1.heap.objs.size + 4, [s1.heap.objs.size + 4, s1.heap.objs.size + 2, s1.heap.objs.size + 3, s1.heap.objs.size, s1.heap.objs.size + 1], _, _, H1, rfl, I2, turn_zipS (PySem.W.ktu_apart s1.heap.objs.size _ _ (Heap.lt_size hoL) (Heap.lt_size hoL)), ⟨hz, hTI, ⟨_, _, hTO⟩, h1, h2⟩, fresh5, q⟩
end
theorem walk_zipS {x y : Str} {n : Nat} (hn : n = min x.cps.size y.cps.size) : Walk (ItzS x y) n (fun _ => True) (fun i H v H' => ∃ T c d, v = .ref T ∧ H T = none ∧ H' = upd H T (.tup [.str ⟨#[c]⟩, .str ⟨#[d]⟩]) ∧ x.cps[i]? = some c ∧ y.cps[i]? = some d) := by
  subst hn
  exact ⟨fun i _ hi _ => ⟨by omega, by omega⟩, fun _ _ => by show _ ∨ _; omega, fun _ _ _ _ _ _ y => y⟩
end Z

set_option Elab.async false
set_option linter.all false
set_option maxRecDepth 100000
set_option maxHeartbeats 4000000
/-! rules by value, slices, methods -/
namespace Z
open PySem PySem.Spec PyProof.Rows L2
section
variable {X : Cx} {k : Nat} {W : WX} {σ : L2.St} {H : Hp} {e a b o : Expr} {es : List Expr} {p p2 pos : Pos} {Q : VK}
theorem o_add {i j : Int} (q : Q (.int (i + j)) H) : oW X (binaryOp .Add) (.int i) (.int j) H Q := oW_of op_add ⟨i, j, rfl, rfl, q⟩
theorem o_sub {i j : Int} (q : Q (.int (i - j)) H) : oW X (binaryOp .Sub) (.int i) (.int j) H Q := oW_of op_sub ⟨i, j, rfl, rfl, q⟩
theorem o_mul {i j : Int} (h : CMul i j) (q : Q (.int (i * j)) H) : oW X (binaryOp .Mult) (.int i) (.int j) H Q := oW_of op_mul ⟨i, j, rfl, rfl, h, q⟩
theorem o_div {i j : Int} (h : CDiv i j) (q : Q (.int (i / j)) H) : oW X (binaryOp .FloorDiv) (.int i) (.int j) H Q := oW_of op_fdiv ⟨i, j, rfl, rfl, h, q⟩
theorem o_mod {i j : Int} (h : 0 < j) (q : Q (.int (i % j)) H) : oW X (binaryOp .Mod) (.int i) (.int j) H Q := oW_of op_mod ⟨i, j, rfl, rfl, h, q⟩
theorem o_pow {i j : Int} (h : CPow i j) (q : Q (.int (i ^ j.toNat)) H) : oW X (binaryOp .Pow) (.int i) (.int j) H Q := oW_of op_pow ⟨i, j, rfl, rfl, h, q⟩
theorem o_adds {i j : Str} (h : i.length + j.length ≤ sizeLine) (q : Q (.str (i ++ j)) H) : oW X (binaryOp .Add) (.str i) (.str j) H Q := oW_of op_add_str ⟨i, j, rfl, rfl, h, q⟩
theorem u_neg {i : Int} (q : Q (.int (-i)) H) : uW X (unaryOp .USub) (.int i) H Q := uW_of un_neg ⟨i, rfl, q⟩
theorem c_lt {i j : Int} (q : Q (.bl (decide (i < j))) H) : oW X (compareOp .Lt) (.int i) (.int j) H Q := oW_of op_lt ⟨i, j, rfl, rfl, q⟩
theorem c_le {i j : Int} (q : Q (.bl (decide (i ≤ j))) H) : oW X (compareOp .LtE) (.int i) (.int j) H Q := oW_of op_le ⟨i, j, rfl, rfl, q⟩
theorem c_gt {i j : Int} (q : Q (.bl (decide (j < i))) H) : oW X (compareOp .Gt) (.int i) (.int j) H Q := oW_of op_gt ⟨i, j, rfl, rfl, q⟩
theorem c_ge {i j : Int} (q : Q (.bl (decide (j ≤ i))) H) : oW X (compareOp .GtE) (.int i) (.int j) H Q := oW_of op_ge ⟨i, j, rfl, rfl, q⟩
theorem c_eq {x y : V} (h : scal x y = true) (q : Q (.bl (decide (x = y))) H) : oW X (compareOp .Eq) x y H Q := oW_of op_eq ⟨h, q⟩
theorem c_ne {x y : V} (h : scal x y = true) (q : Q (.bl (!decide (x = y))) H) : oW X (compareOp .NotEq) x y H Q := oW_of op_ne ⟨h, q⟩
theorem c_isN {x : V} (q : Q (.bl (decide (x = .non))) H) : oW X (compareOp .Is) x .non H Q := oW_of op_isN ⟨rfl, q⟩
theorem c_notN {x : V} (q : Q (.bl (!decide (x = .non))) H) : oW X (compareOp .IsNot) x .non H Q := oW_of op_notN ⟨rfl, q⟩
theorem c_ltS {i j : Str} (q : Q (.bl (decide (i.cps.toList < j.cps.toList))) H) : oW X (compareOp .Lt) (.str i) (.str j) H Q := oW_of op_lt_str ⟨i, j, rfl, rfl, q⟩
theorem c_inSign {c : Nat} {z : Str} (q : Q (.bl (decide (c ∈ z.cps.toList))) H) : oW X (compareOp .In) (.str ⟨#[c]⟩) (.str z) H Q := oW_of op_in_sign ⟨c, z, rfl, rfl, q⟩
theorem c_inL {x : V} {q : Addr} {xs : List V} (hq : SqL X.K H q xs ∨ SqT X.K H q xs) (fx : flatV x = true) (fs : xs.all flatV = true) (h : Q (.bl (inV x xs)) H) : oW X (compareOp .In) x (.ref q) H Q := oW_of op_in_seq ⟨q, xs, rfl, hq, fx, fs, by exact h⟩
theorem c_notInL {x : V} {q : Addr} {xs : List V} (hq : SqL X.K H q xs ∨ SqT X.K H q xs) (fx : flatV x = true) (fs : xs.all flatV = true) (h : Q (.bl (!inV x xs)) H) : oW X (compareOp .NotIn) x (.ref q) H Q := oW_of op_notIn_seq ⟨q, xs, rfl, hq, fx, fs, by exact h⟩

/-- the part of a slice -/
def wO (X : Cx) (e : Option Expr) : L2.TO := match e with | none => tNoPart | some e => tPart (wE X e)
theorem pO {e : Option Expr} : PO X e (wO X e) := match e with | none => po_none | some _ => po_some pE
theorem e_slice {r : V → Option Int → Option Int → Hp → VK → Prop} {lo hi : Option Expr} (hr : SlR X r) (h : wE X e σ H fun x H1 => wO X lo σ H1 fun l H2 => wO X hi σ H2 fun u H3 => r x l u H3 Q) : wE X (.Subscript e (.Slice lo hi none p2) pos) σ H Q :=
  eE (pe_slice hr pE pO pO) h
theorem p_none {R : Option Int → Hp → Prop} (h : R none H) : wO X none σ H R := h
theorem p_some {R : Option Int → Hp → Prop} (h : wE X e σ H fun x H1 => ∃ i, x = .int i ∧ R (some i) H1) : wO X (some e) σ H R := h
/-- "..".join(xs) -/
theorem e_join {apos : Pos} (h : wE X o σ H fun x H1 => ∃ s : Str, x = .str s ∧ wE X a σ H1 fun y H2 => ∃ q, ∃ ys : List Str, y = .ref q ∧ (SqL X.K H2 q (ys.map V.str) ∨ SqT X.K H2 q (ys.map V.str)) ∧ (ys.map (·.length)).sum + ys.length * s.length ≤ 16777216 ∧ Q (.str (Txt.join s ys)) H2)
    (hs : starEach [a] X.env = [(false, eval a X.env)] := by rfl) (hbase : attributeBase o "join" X.env (eval o X.env) = eval o X.env := by rfl) (hline : (apos.endLine == pos.line) = true := by rfl) : wE X (.Call (.Attribute o "join" apos) [a] [] pos) σ H Q :=
  eE (pe_join pE pE hs hbase hline) (wE_mono h fun x H1 ⟨s, e1, h1⟩ => ⟨⟨s, e1⟩, wE_mono h1 fun y H2 ⟨q, ys, e2, h2, h3, h4⟩ => ⟨s, q, ys, e1, by rw [e2], h2, h3, h4⟩⟩)
/-- xs.append(v) -/
theorem e_append {apos : Pos} (h : wE X o σ H fun x H1 => ∃ q, x = .ref q ∧ (∃ ys, H1 q = some (.lst ys)) ∧ wE X a σ H1 fun y H2 => ∃ xs, H2 q = some (.lst xs) ∧ xs.length < sizeLine ∧ Q .non (upd H2 q (.lst (xs ++ [y]))))
    (hs : starEach [a] X.env = [(false, eval a X.env)] := by rfl) (hbase : attributeBase o "append" X.env (eval o X.env) = eval o X.env := by rfl) (hline : (apos.endLine == pos.line) = true := by rfl)
    (hfew : ((backTo pos (starEach [a] X.env)).all (fun x => !x.1) && (backToKw pos (keywordEach [] X.env)).all (fun x => x.1.isSome) && decide (([a] : List Expr).length + ([] : List Keyword).length + (if ([] : List Keyword).isEmpty then 0 else 1) < 30)) = true := by rfl) :
    wE X (.Call (.Attribute o "append" apos) [a] [] pos) σ H Q :=
  eE (pe_bm PySem.F.plainAttrs_list PySem.F.slot_list_append PySem.F.type_list_append mt_append pE pA hbase hfew hline (by rw [hs]; rfl) rfl)
    (wE_mono h fun x H1 ⟨q, e1, ⟨ys, h0⟩, h1⟩ => ⟨by rw [e1]; exact .inl ⟨rfl, ys, .inl (.inl h0)⟩, a_cons (wE_mono h1 fun y H2 ⟨xs, h2, h3, h4⟩ => a_nil ⟨q, xs, y, e1, rfl, h2, h3, h4⟩) (by rw [hs]; rfl)⟩)
end
end Z

set_option Elab.async false
set_option linter.all false
set_option maxRecDepth 100000
set_option maxHeartbeats 4000000
/-! comprehensions that only read -/
namespace Z
open PySem PySem.Spec PyProof.Rows L2
section
variable {X : Cx} {k : Nat} {W : WX} {σ : L2.St} {H : Hp} {pos : Pos} {Q : VK} {elt tg iter : Expr} {scope : Scope}
/-- one turn that only reads: the item x, the heap H; the target is bound, the element told -/
def MapTurn (X : Cx) (scope : Scope) (vs : List Nat) (tg elt : Expr) (σ : L2.St) (x : V) (H : Hp) (R : V → Prop) : Prop :=
  wGb X scope tg x (wipe σ vs) H fun σ2 H2 => wipe σ2 vs = wipe σ vs ∧ But [] H H2 ∧ wEb X scope elt σ2 H2 fun v H4 => R v ∧ But [] H2 H4
theorem lcM_core {J : It} {n : Nat} {G : Hp → Prop} {Y : Nat → Hp → V → Hp → Prop} {own : List (Str × Nat)} {H1 : Hp} {ys : List V} (w : Walk J n G Y) (hn : ys.length = n) (hz : n ≤ sizeLine) (hG : ∀ H', But [] H1 H' → G H')
    (ht : ∀ i x H2 H', i < n → But [] H1 H2 → Y i H2 x H' → But [] H2 H' ∧ MapTurn X scope (own.map (·.2)) tg elt σ x H' fun v => ys[i]? = some v) {Qd : Addr → Hp → Prop}
    (hq : ∀ D H', But [] H1 H' → H1 D = none → H' D = some (.lst ys) → Qd D H') : ∀ D, H1 D = none → ∃ Pv : Nat → Hp → Prop, Pv 0 (upd H1 D (.lst [])) ∧ (∀ i H, i ≤ n → Pv i H → G H) ∧
      (∀ i x H H', i < n → Pv i H → Y i H x H' → LcTurn X scope (own.map (·.2)) tg [] elt σ D x H' (Pv (i + 1))) ∧ ∀ H, Pv n H → Qd D H := by
  intro D hD
  refine ⟨fun i H' => But [] H1 H' ∧ H' D = some (.lst (ys.take i)), ⟨But.new hD, by rw [upd_same]; rfl⟩, fun i H' _ h => hG H' h.1, ?_, fun H' h => hq D H' h.1 hD (by rw [h.2, ← hn, List.take_length])⟩
  intro i x H2 H' hi hP hY
  obtain ⟨hb, hm⟩ := ht i x H2 H' hi hP.1 hY
  intro s H0 C cl fp
  refine ⟨fun pins s2 u I r => thn ((hm s H0 C cl fp).run pins s2 u I r) fun _ s3 h3 => ?_⟩
  obtain ⟨σ', H3, I3, e1, b3, h3⟩ := h3
  refine ⟨σ', H3, I3, e1, fun s H0 C cl fp => eIf pts_nil ?_⟩
  intro s H0 C cl fp
  refine wE_mono (h3 s H0 C cl fp) fun v H4 ⟨hv, b4⟩ => ?_
  have hD4 : H4 D = some (.lst (ys.take i)) := b4 _ _ (by simp) (b3 _ _ (by simp) (hb _ _ (by simp) hP.2))
  refine ⟨_, hD4, by have := List.length_take_le i ys; rw [List.length_take]; omega, ?_, ?_⟩
  · refine fun q o _ e => ?_
    have ne : q ≠ D := ne_of_none e hD
    rw [upd_ne ne]
    exact b4 _ _ (by simp) (b3 _ _ (by simp) (hb _ _ (by simp) (hP.1 _ _ (by simp) e)))
  · rw [upd_same, List.take_add_one, hv]
    rfl
theorem e_lcM (own : List (Str × Nat)) (C : Cxt X k W)
    (h : wI X tg iter σ H fun J H1 => ∃ n G Y ys, Walk J n G Y ∧ ys.length = n ∧ n ≤ sizeLine ∧ (∀ H', But [] H1 H' → G H') ∧
      (∀ i x H2 H', i < n → But [] H1 H2 → Y i H2 x H' → But [] H2 H' ∧ MapTurn X scope (own.map (·.2)) tg elt σ x H' fun v => ys[i]? = some v) ∧
      ∀ D H', But [] H1 H' → H1 D = none → H' D = some (.lst ys) → Q (.ref D) H')
    (ok : BlkOk X.N X.env.scope scope own := by exact blkOk_by (by first | rfl | kernel_rfl)) (hs : ∀ x, foldedSetIterable iter X.env x = pure x := by intro _; rfl) :
    wE X (.ListComp elt [⟨tg, iter, [], 0⟩] scope pos) σ H Q :=
  e_lc own C (wI_mono h fun J H1 ⟨n, G, Y, ys, w, h1, h2, h3, h4, h5⟩ => ⟨n, G, Y, w, lcM_core w h1 h2 h3 h4 h5⟩) ok hs
/-- the target is a name -/
theorem mt_name {i : Nat} {y : Str} {p : Pos} {vs : List Nat} {x : V} {R : V → Prop} (hN : X.N.Nodup)
    (h : wEb X scope elt ((wipe σ vs).set i (some x)) H fun v H4 => R v ∧ But [] H H4) (hw : wipe ((wipe σ vs).set i (some x)) vs = wipe σ vs := by rfl) (hi : X.N[i]? = some y := by rfl)
    (hx : Loc (relS scope X.env.scope) y := by first | exact Or.inl rfl | exact Or.inr rfl) (hf : (scope.names.lookup y == some .cell) = true ∨ (relS scope X.env.scope).names.lookup y = some .local := by first | exact .inl rfl | exact .inr rfl) :
    MapTurn X scope vs (.Name y p) elt σ x H R := by
  intro s H0 C cl fp
  exact g_name (i := i) ⟨hw, But.refl, h⟩ hN hi hx hf
/-- the target is a pair of names -/
theorem mt_pair {i j : Nat} {y z : Str} {p p' pt : Pos} {kt} {vs : List Nat} {q : Addr} {u v : V} {R : V → Prop} (hc : X.calm = true) (hN : X.N.Nodup) (hq : H q = some (.tup [u, v]))
    (h : wEb X scope elt (((wipe σ vs).set i (some u)).set j (some v)) H fun v H4 => R v ∧ But [] H H4) (hw : wipe (((wipe σ vs).set i (some u)).set j (some v)) vs = wipe σ vs := by rfl) (hi : X.N[i]? = some y := by rfl) (hj : X.N[j]? = some z := by rfl)
    (hx : Loc (relS scope X.env.scope) y := by first | exact Or.inl rfl | exact Or.inr rfl) (hf : (scope.names.lookup y == some .cell) = true ∨ (relS scope X.env.scope).names.lookup y = some .local := by first | exact .inl rfl | exact .inr rfl)
    (hx2 : Loc (relS scope X.env.scope) z := by first | exact Or.inl rfl | exact Or.inr rfl) (hf2 : (scope.names.lookup z == some .cell) = true ∨ (relS scope X.env.scope).names.lookup z = some .local := by first | exact .inl rfl | exact .inr rfl) :
    MapTurn X scope vs (.Tuple [.Name y p, .Name z p'] kt pt) elt σ (.ref q) H R := by
  intro s H0 C cl fp
  refine g_tup (gs_cons (g_name (i := i) (gs_cons (g_name (i := j) (gs_nil ⟨hw, But.refl, h⟩) hN hj hx2 hf2)) hN hi hx hf)) hc (.inl (.inl hq))
/-- if c: u else: v, where the test only reads -/
theorem s_ifB {c : Expr} {u v : List Stmt} {D : Ends} (b : Bool) (ht : wT X c σ H fun x H1 => x = b ∧ But [] H H1) (h1 : b = true → ∀ H1, But [] H H1 → wB X u D σ H1) (h2 : b = false → ∀ H1, But [] H H1 → wB X v D σ H1) : wS X (.If c u v pos) D σ H :=
  s_if (wT_mono ht fun x H1 ⟨e, k⟩ => by
    subst e
    split
    · rename_i e
      exact h1 e H1 k
    · rename_i e
      exact h2 (by simpa using e) H1 k)
theorem ite_b {p q : Prop} {b : Bool} (h1 : b = true → p) (h2 : b = false → q) : if b = true then p else q := by
  cases b with
  | true => exact h1 rfl
  | false => exact h2 rfl
end
end Z

/-! plain: a text in pieces -/
set_option Elab.async false
set_option linter.all false
namespace Z
open PySem PySem.Spec PyProof.Rows L2 TL
def sOf (l : List Nat) : Str := ⟨l.toArray⟩
theorem sOf_list {l : List Nat} : (sOf l).cps.toList = l := by simp [sOf]
theorem sOf_len {l : List Nat} : (sOf l).length = l.length := by show (sOf l).cps.size = _; simp [sOf]
theorem sOf_str (x : Str) : sOf x.cps.toList = x := by cases x; simp [sOf]
theorem str_ext {x y : Str} (h : x.cps.toList = y.cps.toList) : x = y := by rw [← sOf_str x, ← sOf_str y, h]
def chunks (l : List Nat) (n : Nat) : List (List Nat) := if l.length ≤ n then [l] else (List.range ((l.length + n - 1) / n)).map fun i => (l.drop (i * n)).take n
theorem chunk_flat (l : List Nat) (n : Nat) : ∀ m, ((List.range m).map fun i => (l.drop (i * n)).take n).flatten = l.take (m * n)
  | 0 => by simp
  | m + 1 => by
    rw [List.range_succ, List.map_append, List.flatten_append, chunk_flat l n m]
    simp only [List.map_cons, List.map_nil, List.flatten_cons, List.flatten_nil, List.append_nil]
    rw [Nat.add_mul, Nat.one_mul, List.take_add]
theorem up_div {a n : Nat} (hn : 0 < n) : a ≤ (a + n - 1) / n * n := by
  have h := Nat.lt_div_mul_add hn (a := a + n - 1)
  omega
theorem chunks_flatten (l : List Nat) {n : Nat} (hn : 0 < n) : (chunks l n).flatten = l := by
  unfold chunks
  split
  · simp
  · rw [chunk_flat, List.take_of_length_le (up_div hn)]
theorem chunks_length (l : List Nat) {n : Nat} (hn : 0 < n) : (chunks l n).length = max 1 ((l.length + n - 1) / n) := by
  unfold chunks
  split
  · rename_i h
    have : (l.length + n - 1) / n ≤ 1 := by
      rw [← Nat.lt_succ_iff, Nat.div_lt_iff_lt_mul hn]
      omega
    simp only [List.length_singleton]
    omega
  · rename_i h
    rw [List.length_map, List.length_range]
    have : 1 ≤ (l.length + n - 1) / n := by
      rw [Nat.le_div_iff_mul_le hn]
      omega
    omega
theorem chunks_last (l : List Nat) {n : Nat} (hn : 0 < n) : ∀ p ∈ (chunks l n).getLast?, p.length ≤ n := by
  unfold chunks
  split
  · simp_all
  · intro p hp
    obtain ⟨i, hi⟩ : ∃ i, p = (l.drop (i * n)).take n := by
      have := List.mem_of_getLast? hp
      obtain ⟨i, _, e⟩ := List.mem_map.mp this
      exact ⟨i, e.symm⟩
    rw [hi]
    exact List.length_take_le _ _
theorem chunks_each (l : List Nat) {n : Nat} (hn : 0 < n) : ∀ p ∈ chunks l n, p.length ≤ n := by
  unfold chunks
  split
  · simp_all
  · intro p hp
    obtain ⟨i, _, e⟩ := List.mem_map.mp hp
    rw [← e]
    exact List.length_take_le _ _
theorem chunks_init (l : List Nat) {n : Nat} (hn : 0 < n) : ∀ p ∈ (chunks l n).dropLast, p.length = n := by
  unfold chunks
  split
  · simp
  · rename_i h
    intro p hp
    rw [← List.map_dropLast] at hp
    obtain ⟨i, hi, e⟩ := List.mem_map.mp hp
    have hi2 : i + 1 < (l.length + n - 1) / n := by
      obtain ⟨j, hj, ej⟩ := List.getElem_of_mem hi
      rw [List.getElem_dropLast, List.getElem_range] at ej
      rw [List.length_dropLast, List.length_range] at hj
      omega
    have : (i + 2) * n ≤ l.length + n - 1 := by
      rw [← Nat.le_div_iff_mul_le hn]
      omega
    rw [← e, List.length_take, List.length_drop]
    have e2 : (i + 2) * n = i * n + 2 * n := Nat.add_mul i 2 n
    omega
theorem chunks_ne (l : List Nat) {n : Nat} (hn : 0 < n) (hl : l ≠ []) : ∀ p ∈ chunks l n, p ≠ [] := by
  intro p hp hp0
  unfold chunks at hp
  split at hp
  · simp at hp
    exact hl (hp ▸ hp0)
  · obtain ⟨i, hi, e⟩ := List.mem_map.mp hp
    rw [List.mem_range, Nat.lt_iff_add_one_le, Nat.le_div_iff_mul_le hn, Nat.add_mul, Nat.one_mul] at hi
    have h2 : ((l.drop (i * n)).take n).length = 0 := by rw [e, hp0]; rfl
    rw [List.length_take, List.length_drop] at h2
    omega
theorem joinL_nil : ∀ ps : List (List Nat), joinL [] ps = ps.flatten
  | [] => rfl
  | [p] => by simp [joinL]
  | p :: q :: r => by
    have := joinL_nil (q :: r)
    simp only [joinL, List.nil_append, this, List.flatten_cons]
theorem join_nil (ls : List (List Nat)) : Txt.join "" (ls.map sOf) = sOf ls.flatten := by
  apply str_ext
  rw [sOf_list, join_eq]
  have := tl_join "" (ls.map sOf)
  show tl _ = _
  rw [this, List.map_map]
  have e1 : tl "" = [] := rfl
  have e2 : tl ∘ sOf = id := by
    funext l
    exact sOf_list
  rw [e1, joinL_nil, e2, List.map_id]
end Z

set_option Elab.async false
set_option linter.all false
set_option maxRecDepth 100000
set_option maxHeartbeats 4000000
/-! plain: what can be shown -/
namespace Z
open PySem PySem.Spec PyProof.Rows L2 TL
/-- small enough to be shown -/
def rp (d : PyData) : Bool := d.showable && decide (d.depth ≤ 64) && d.leavesShort 40 && decide (d.weight ≤ 300000)
theorem rp_len {d : PyData} (h : rp d = true) : d.showable = true ∧ d.depth ≤ 64 ∧ d.shown.length ≤ sizeLine := by
  simp only [rp, Bool.and_eq_true, decide_eq_true_eq] at h
  have h2 := PyData.shown_le 40 (by decide) d h.1.2
  refine ⟨h.1.1.1, h.1.1.2, ?_⟩
  rw [sizeLine_eq]
  omega
theorem weight_strs : ∀ ys : List Str, PyData.weightAll (ys.map PyData.str) = (ys.map (·.length)).sum + ys.length
  | [] => rfl
  | y :: ys => by
    have := weight_strs ys
    simp only [List.map_cons, PyData.weightAll, List.sum_cons, List.length_cons, PyData.weight, this]
    show y.cps.size + 1 + _ = y.cps.size + _ + _
    omega
theorem depth_strs : ∀ ys : List Str, PyData.depthAll (ys.map PyData.str) ≤ 1
  | [] => by simp [PyData.depthAll]
  | y :: ys => by
    have := depth_strs ys
    simp only [List.map_cons, PyData.depthAll, PyData.depth]
    omega
theorem showable_strs : ∀ ys : List Str, PyData.showableAll (ys.map PyData.str) = true
  | [] => rfl
  | y :: ys => by simp [PyData.showableAll, PyData.showable, showable_strs ys]
theorem leaves_strs : ∀ ys : List Str, (∀ y ∈ ys, ∀ c ∈ y.cps.toList, c < 4294967296) → PyData.leavesShortAll 40 (ys.map PyData.str) = true
  | [], _ => rfl
  | y :: ys, h => by
    simp only [List.map_cons, PyData.leavesShortAll, PyData.leavesShort, leaves_strs ys (fun z hz => h z (by simp [hz])), Bool.and_true, List.all_eq_true, decide_eq_true_eq]
    intro c hc
    exact h y (by simp) c hc
theorem rp_strs {ys : List Str} (hs : (ys.map (·.length)).sum + ys.length ≤ 300000) (hc : ∀ y ∈ ys, ∀ c ∈ y.cps.toList, c < 4294967296) : rp (.list (ys.map PyData.str)) = true := by
  have := depth_strs ys
  have e1 : (PyData.list (ys.map PyData.str)).depth ≤ 64 := by simp only [PyData.depth]; omega
  have e2 : (PyData.list (ys.map PyData.str)).weight ≤ 300000 := by simp only [PyData.weight, weight_strs]; omega
  have e3 : (PyData.list (ys.map PyData.str)).showable = true := by simp only [PyData.showable, showable_strs]
  have e4 : (PyData.list (ys.map PyData.str)).leavesShort 40 = true := by simp only [PyData.leavesShort, leaves_strs ys hc]
  rw [rp, e3, e4, decide_eq_true e1, decide_eq_true e2]
  rfl
theorem rp_str {y : Str} (hs : y.length ≤ 300000) (hc : ∀ c ∈ y.cps.toList, c < 4294967296) : rp (.str y) = true := by
  have e1 : (PyData.str y).depth ≤ 64 := by simp only [PyData.depth]; omega
  have e2 : (PyData.str y).weight ≤ 300000 := by simp only [PyData.weight]; exact hs
  have e3 : (PyData.str y).showable = true := by simp only [PyData.showable]
  have e4 : (PyData.str y).leavesShort 40 = true := by simp only [PyData.leavesShort, List.all_eq_true, decide_eq_true_eq]; exact fun c h => hc c h
  rw [rp, e3, e4, decide_eq_true e1, decide_eq_true e2]
  rfl
section
variable {X : Cx} {k : Nat} {W : WX} {σ : L2.St} {H : Hp} {a : Expr} {p pos : Pos} {Q : VK}
theorem e_rep (B : Blt X.mg X.base) (hg : X.A.guards = some []) (hu : X.A.units + 66 < cLine) (h : wE X a σ H fun v H1 => ∃ l d, DD X.K l H1 v d ∧ rp d = true ∧ Q (.str d.shown) H1) (hgl : Gl X "repr" := by rfl) (hs : starEach [a] X.env = [(false, eval a X.env)] := by rfl) :
    wE X (.Call (.Name "repr" p) [a] [] pos) σ H Q :=
  e_repr B hg hu (wE_mono h fun v H1 ⟨l, d, h1, h2, q⟩ => ⟨l, d, h1, (rp_len h2).1, (rp_len h2).2.1, (rp_len h2).2.2, q⟩) hgl hs
theorem vals_rev : ∀ {vs : List V} {us : List Value}, Vals vs us → Vals vs.reverse us.reverse
  | _, _, .nil => .nil
  | _, _, .cons r h => by
    rw [List.reverse_cons, List.reverse_cons]
    exact (vals_rev h).append (.cons r .nil)
end
end Z

set_option Elab.async false
set_option linter.all false
set_option maxRecDepth 100000
set_option maxHeartbeats 4000000
/-! literals of data; what stays across the making of lambdas -/
namespace Z
open PySem PySem.Spec PyProof.Rows L2 LamX
section
variable {X : Cx} {σ : L2.St} {l : List Addr} {H : Hp} {e a b : Expr} {es : List Expr}
theorem wA_mono {Q Q' : List V → Hp → Prop} (h : wA X es σ H Q) (k : ∀ v H', Q v H' → Q' v H') : wA X es σ H Q' := ⟨fun pos pins s I => thn (h.run pos pins s I) fun _ _ ⟨v, H', I', r, q⟩ => ⟨v, H', I', r, k v H' q⟩⟩
theorem DDs.mem {K : PySem.W.Frag} : ∀ {vs : List V} {ds : List PyData} {v : V}, DDs K l H vs ds → v ∈ vs → ∃ d ∈ ds, DD K l H v d
  | _, _, _, .nil, h => by simp at h
  | _, _, _, .cons h r, e => by
    rcases List.mem_cons.mp e with e | e
    · subst e
      exact ⟨_, by simp, h⟩
    · obtain ⟨d, hd, h'⟩ := DDs.mem r e
      exact ⟨d, by simp [hd], h'⟩
section
variable {K : PySem.W.Frag}
/-- e is told as the datum d, whatever is added to the heap; nothing of it lies at l -/
def Lit (K : PySem.W.Frag) (X : Cx) (l : List Addr) (σ : L2.St) (H : Hp) (e : Expr) (d : PyData) : Prop := ∀ H1, But [] H H1 → wE X e σ H1 fun v H2 => But [] H1 H2 ∧ DD K l H2 v d
def Lits (K : PySem.W.Frag) (X : Cx) (l : List Addr) (σ : L2.St) (H : Hp) (es : List Expr) (ds : List PyData) : Prop := ∀ H1, But [] H H1 → wA X es σ H1 fun vs H2 => But [] H1 H2 ∧ DDs K l H2 vs ds
/-- what stands at l is there -/
def Here (l : List Addr) (H : Hp) : Prop := ∀ q ∈ l, ∃ o, H q = some o
theorem Here.new {p : Addr} {H1 : Hp} (h : Here l H) (b : But [] H H1) (n : H1 p = none) : p ∉ l := fun z => by
  obtain ⟨o, e⟩ := h p z
  rw [b _ _ (by simp) e] at n
  cases n
theorem lit_none {j} {pos : Pos} : Lit K X l σ H (.Constant .none j pos) .none := fun _ _ => e_none ⟨But.refl, .non⟩
theorem lit_int {i : Int} {j} {pos : Pos} : Lit K X l σ H (.Constant (.int i) j pos) (.int i) := fun _ _ => e_int ⟨But.refl, .int i⟩
theorem lit_str {x : Str} {j} {pos : Pos} : Lit K X l σ H (.Constant (.str x) j pos) (.str x) := fun _ _ => e_str ⟨But.refl, .str x⟩
theorem lit_bool {b : Bool} {j} {pos : Pos} : Lit K X l σ H (.Constant (.bool b) j pos) (.bool b) := fun _ _ => e_bool ⟨But.refl, .bl b⟩
theorem lit_neg {i : Int} {j} {pos p2 : Pos} : Lit K X l σ H (.UnaryOp .USub (.Constant (.int i) j pos) p2) (.int (-i)) := fun _ _ => e_un (e_int (u_neg ⟨But.refl, .int _⟩))
theorem lit_pow {i k : Int} {j j'} {pos p2 p3 : Pos} (h : CPow i k) : Lit K X l σ H (.BinOp (.Constant (.int i) j pos) .Pow (.Constant (.int k) j' p2) p3) (.int (i ^ k.toNat)) := fun _ _ => e_bin (e_int (e_int (o_pow h ⟨But.refl, .int _⟩)))
theorem lits_nil : Lits K X l σ H [] [] := fun _ _ => a_nil ⟨But.refl, .nil⟩
theorem lits_cons {d : PyData} {ds : List PyData} (h : Lit K X l σ H e d) (r : Lits K X l σ H es ds) (hs : starEach (e :: es) X.env = (false, eval e X.env) :: starEach es X.env := by rfl) : Lits K X l σ H (e :: es) (d :: ds) := fun H1 b1 =>
  a_cons (wE_mono (h H1 b1) fun v H2 ⟨b2, h2⟩ => wA_mono (r H2 (b1.trans b2)) fun vs H3 ⟨b3, h3⟩ => ⟨b2.trans b3, .cons (h2.but b3.of) h3⟩) hs
theorem lit_lst {ds : List PyData} {pos : Pos} (hl : Here l H) (r : Lits K X l σ H es ds) (hn : ds.length ≤ 16777216 := by decide) : Lit K X l σ H (.List es pos) (.list ds) := fun H1 b1 =>
  e_lst (wA_mono (r H1 b1) fun vs H2 ⟨b2, h2⟩ => ⟨by rw [h2.length, sizeLine_eq]; exact hn, fun p hp => ⟨b2.trans (But.new hp), .lst (.inl (.inl upd_same)) (hl.new (b1.trans b2) hp) (h2.but (But.new hp))⟩⟩)
theorem lit_tup {ds : List PyData} {x1} {pos : Pos} (hl : Here l H) (r : Lits K X l σ H es ds) (hn : ds.length ≤ 16777216 := by decide) : Lit K X l σ H (.Tuple es x1 pos) (.tuple ds) := fun H1 b1 =>
  e_tup (wA_mono (r H1 b1) fun vs H2 ⟨b2, h2⟩ => ⟨by rw [h2.length, sizeLine_eq]; exact hn, fun p hp => ⟨b2.trans (But.new hp), .tup (.inl (.inl upd_same)) (hl.new (b1.trans b2) hp) (h2.but (But.new hp))⟩⟩)
theorem lit_dict0 {pos : Pos} (hl : Here l H) : Lit K X l σ H (.Dict [] [] pos) (.dict []) := fun H1 b1 =>
  eE pe_dnewK fun p hp => ⟨But.new hp, DD.dct (kvs := []) (ds := []) upd_same (hl.new b1 hp) .nil⟩
/-- a list of literals, as a list of values -/
theorem e_lits {ds : List PyData} {pos : Pos} {Q : VK} (hl : Here l H) (r : Lits K X l σ H es ds) (h : ∀ q vs H1, But [] H H1 → H1 q = some (.lst vs) → q ∉ l → DDs K l H1 vs ds → Q (.ref q) H1) (hn : ds.length ≤ 16777216 := by decide) : wE X (.List es pos) σ H Q :=
  e_lst (wA_mono (r H But.refl) fun vs H2 ⟨b2, h2⟩ => ⟨by rw [h2.length, sizeLine_eq]; exact hn, fun p hp => h p vs _ (b2.trans (But.new hp)) upd_same (hl.new b2 hp) (h2.but (But.new hp))⟩)
end
/-! data that is wholly tracked -/
theorem sql_all {K : PySem.W.Frag} {a : Addr} {xs : List V} (h : SqL [] H a xs) : SqL K H a xs := by
  rcases h with h | ⟨o, _, _, h, _⟩
  · exact .inl h
  · cases h
theorem sqt_all {K : PySem.W.Frag} {a : Addr} {xs : List V} (h : SqT [] H a xs) : SqT K H a xs := by
  rcases h with h | ⟨o, _, _, h, _⟩
  · exact .inl h
  · cases h
mutual
theorem DD.all {K : PySem.W.Frag} : ∀ {v : V} {d : PyData}, DD [] l H v d → DD K l H v d
  | _, _, .non => .non
  | _, _, .bl x => .bl x
  | _, _, .int x => .int x
  | _, _, .str x => .str x
  | _, _, .lst h n r => .lst (sql_all h) n (DDs.all r)
  | _, _, .tup h n r => .tup (sqt_all h) n (DDs.all r)
  | _, _, .dct h n r => .dct h n (DDs.all r)
theorem DDs.all {K : PySem.W.Frag} : ∀ {vs : List V} {ds : List PyData}, DDs [] l H vs ds → DDs K l H vs ds
  | _, _, .nil => .nil
  | _, _, .cons h r => .cons (DD.all h) (DDs.all r)
end
theorem sql_there {a : Addr} {xs : List V} (h : SqL [] H a xs) : ∃ o, H a = some o := by
  rcases h with (h | ⟨o, h⟩) | ⟨o, _, _, h, _⟩
  · exact ⟨_, h⟩
  · exact ⟨_, h⟩
  · cases h
theorem sqt_there {a : Addr} {xs : List V} (h : SqT [] H a xs) : ∃ o, H a = some o := by
  rcases h with (h | ⟨o, h⟩) | ⟨o, _, _, h, _⟩
  · exact ⟨_, h⟩
  · exact ⟨_, h⟩
  · cases h
theorem not_new {a t : Addr} (h : ∃ o, H a = some o) (n : a ∉ l) (ht : H t = none) : a ∉ t :: l := fun z => by
  rcases List.mem_cons.mp z with e | e
  · obtain ⟨o, h⟩ := h
    rw [e, ht] at h
    cases h
  · exact n e
mutual
theorem DD.add {t : Addr} (ht : H t = none) : ∀ {v : V} {d : PyData}, DD [] l H v d → DD [] (t :: l) H v d
  | _, _, .non => .non
  | _, _, .bl x => .bl x
  | _, _, .int x => .int x
  | _, _, .str x => .str x
  | _, _, .lst h n r => .lst h (not_new (sql_there h) n ht) (DDs.add ht r)
  | _, _, .tup h n r => .tup h (not_new (sqt_there h) n ht) (DDs.add ht r)
  | _, _, .dct h n r => .dct h (not_new ⟨_, h⟩ n ht) (DDs.add ht r)
theorem DDs.add {t : Addr} (ht : H t = none) : ∀ {vs : List V} {ds : List PyData}, DDs [] l H vs ds → DDs [] (t :: l) H vs ds
  | _, _, .nil => .nil
  | _, _, .cons h r => .cons (DD.add ht h) (DDs.add ht r)
end
end
/-! ### the weak keeping: tables may grow -/
def Ex (l : List Addr) (H H' : Hp) : Prop := ∀ q o, q ∉ l → H q = some o → (∀ ps, o ≠ .tbl ps) → H' q = some o
section
variable {l m : List Addr} {H H1 H2 : Hp}
theorem But.ex (b : But l H H1) : Ex l H H1 := fun q o n e _ => b q o n e
theorem ex_of (b : ExtN H H1) : Ex l H H1 := fun q o _ e n => b q o e n
theorem Ex.refl : Ex l H H := fun _ _ _ h _ => h
theorem Ex.trans (a : Ex l H H1) (b : Ex l H1 H2) : Ex l H H2 := fun q o n e t => b q o n (a q o n e t) t
theorem Ex.mono (a : Ex l H H1) (h : ∀ q ∈ l, q ∈ m) : Ex m H H1 := fun q o n e t => a q o (fun z => n (h q z)) e t
theorem Ex.lst (b : Ex l H H1) {q : Addr} {xs : List V} (n : q ∉ l) (h : H q = some (.lst xs)) : H1 q = some (.lst xs) := b _ _ n h fun ps z => by cases z
theorem Ex.sql {K : PySem.W.Frag} {a : Addr} {xs : List V} (b : Ex l H H1) (n : a ∉ l) (h : SqL K H a xs) : SqL K H1 a xs := by
  rcases h with (h | ⟨o, h⟩) | h
  · exact .inl (.inl (b _ _ n h fun ps z => by cases z))
  · exact .inl (.inr ⟨o, b _ _ n h fun ps z => by cases z⟩)
  · exact .inr h
theorem Ex.sqt {K : PySem.W.Frag} {a : Addr} {xs : List V} (b : Ex l H H1) (n : a ∉ l) (h : SqT K H a xs) : SqT K H1 a xs := by
  rcases h with (h | ⟨o, h⟩) | h
  · exact .inl (.inl (b _ _ n h fun ps z => by cases z))
  · exact .inl (.inr ⟨o, b _ _ n h fun ps z => by cases z⟩)
  · exact .inr h
mutual
theorem DD.ex {K : PySem.W.Frag} (b : Ex l H H1) : ∀ {v : V} {d : PyData}, DD K l H v d → DD K l H1 v d
  | _, _, .non => .non
  | _, _, .bl x => .bl x
  | _, _, .int x => .int x
  | _, _, .str x => .str x
  | _, _, .lst h n r => .lst (b.sql n h) n (DDs.ex b r)
  | _, _, .tup h n r => .tup (b.sqt n h) n (DDs.ex b r)
  | _, _, .dct h n r => .dct (b _ _ n h fun ps z => by cases z) n (DDs.ex b r)
theorem DDs.ex {K : PySem.W.Frag} (b : Ex l H H1) : ∀ {vs : List V} {ds : List PyData}, DDs K l H vs ds → DDs K l H1 vs ds
  | _, _, .nil => .nil
  | _, _, .cons h r => .cons (DD.ex b h) (DDs.ex b r)
end
/-- tables stand where only lists at l change -/
theorem tabs_but {T : List (Addr × Str)} (t : Tabs T H) (b : But l H H1) (hl : ∀ q ∈ l, ∃ xs, H q = some (.lst xs)) : Tabs T H1 := fun p hp => by
  obtain ⟨ps, h1, h2, h3⟩ := t p hp
  have n1 : p.1 ∉ l := fun z => by
    obtain ⟨xs, e⟩ := hl _ z
    rw [h1] at e
    cases e
  refine ⟨ps, b _ _ n1 h1, h2, fun pos cv hc => ?_⟩
  obtain ⟨c, e1, e2⟩ := h3 pos cv hc
  refine ⟨c, e1, b _ _ (fun z => ?_) e2⟩
  obtain ⟨xs, e⟩ := hl _ z
  rw [e2] at e
  unfold CodeO at e
  cases e
theorem tabs_new {T : List (Addr × Str)} (t : Tabs T H) (b : But [] H H1) : Tabs T H1 := tabs_but t b (by simp)
end
/-! ### texts in repr -/
theorem reprChar_ok : ∀ c, c < 128 → ((Builtin.Str.reprChar 34 c).all (fun d => decide (d < 1114112)) && (Builtin.Str.reprChar 39 c).all fun d => decide (d < 1114112)) = true := by decide +kernel
theorem repr_fold {q : Nat} (hq : q = 34 ∨ q = 39) : ∀ (l : List Nat) (acc : Array Nat), (∀ c ∈ l, c < 128) → (∀ c ∈ acc.toList, c < 1114112) → ∀ c ∈ (l.foldl (fun out c => out ++ (Builtin.Str.reprChar q c).toArray) acc).toList, c < 1114112
  | [], acc, _, h => h
  | a :: r, acc, h1, h2 => by
    rw [List.foldl_cons]
    refine repr_fold hq r _ (fun c hc => h1 c (by simp [hc])) fun c hc => ?_
    rw [Array.toList_append, List.mem_append] at hc
    rcases hc with hc | hc
    · exact h2 c hc
    · have h3 := reprChar_ok a (h1 a (by simp))
      simp only [Bool.and_eq_true, List.all_eq_true, decide_eq_true_eq] at h3
      rcases hq with rfl | rfl
      · exact h3.1 c (by simpa using hc)
      · exact h3.2 c (by simpa using hc)
theorem strOk_repr {x : Str} (h : ∀ c ∈ x.cps.toList, c < 128) : PyData.strOk (PyData.str x).shown = true := by
  rw [PyData.shown_str]
  have hq : PySem.reprQuote x = 34 ∨ PySem.reprQuote x = 39 := by
    unfold PySem.reprQuote
    split <;> simp
  have hq2 : PySem.reprQuote x < 1114112 := by rcases hq with e | e <;> omega
  have := repr_fold hq x.cps.toList #[PySem.reprQuote x] h (by simp [hq2])
  unfold PyData.strOk PySem.reprText
  rw [Array.all_eq_true']
  intro c hc
  rw [← Array.foldl_toList] at hc
  simp only [Array.mem_push] at hc
  rcases hc with hc | hc
  · have := this c (Array.mem_toList_iff.mpr hc)
    simpa using this
  · simp [hc, hq2]
end Z

set_option Elab.async false
set_option linter.all false
set_option maxRecDepth 100000
set_option maxHeartbeats 4000000
/-! what the head's facts give -/
namespace Z
open PySem PySem.Spec PyProof.Rows L2
theorem base_call {b txt : Str} {p1 p2 p3 p4 p5 : Pos} {j} (env : Env) (hl : (p2.endLine == p5.line) = true) : eval (.Call (.Attribute (.Name b p1) "__init__" p2) [.Name "self" p3, .Constant (.str txt) j p4] [] p5) env = (do
      let ov ← eval (.Name b p1) env
      standAt p2.atName
      let (f, first) ← holding [ov] (getMethod ov "__init__" (plainOf (.Name b p1) env))
      callWith p5 f first (backTo p5 (starEach [.Name "self" p3, .Constant (.str txt) j p4] env)) (backToKw p5 (keywordEach [] env))) := by
  show (do let ov ← attributeBase (.Name b p1) "__init__" env (eval (.Name b p1) env); standAt p2.atName; methodCall (.Name b p1) "__init__" p2 p5 env ov 2 (backTo p5 (starEach [.Name "self" p3, .Constant (.str txt) j p4] env)) (backToKw p5 (keywordEach [] env))) = _
  have e : attributeBase (.Name b p1) "__init__" env (eval (.Name b p1) env) = eval (.Name b p1) env := rfl
  rw [e]
  congr 1
  funext ov
  congr 1
  funext _
  exact mcall_line rfl hl
/-- the first def of a class text -/
def clsDef (s : Stmt) : Stmt := match s with
  | .ClassDef _ _ _ (b :: _) _ _ _ _ _ _ _ => b
  | s => s
section
variable {P : Program} {w : World} {K : PySem.W.Frag} {mg : Str → Option Value} {base : Heap} {h : Heap}
theorem at_mk {x : Str} {st : Stmt} {f : Addr} {oc kV doc pm cd ct : Value} {od an : Option Addr} {sl : Array (Option Value)} (X : K.In h) (G : h.Ns mainGlobals mg) (a : PySem.W.nsIn K mainGlobals x = some (some (.ref f)))
    (l : K.lookup f = some ⟨oc, od, .func (PySem.W.fnOf x x (defArgs st) (defBody st) (defScope st) .none kV doc pm an cd ct), sl⟩) (c : PySem.W.codeIn K cd x = true) (k : PySem.W.keepIn K (.ref f) = true) : At K mg x st :=
  ⟨f, _, PySem.W.mg_of X G a, fun_mk l c k⟩
theorem atc_mk {x : Str} {st : Stmt} {f cd : Addr} {oc kV doc pm ct : Value} {od an : Option Addr} {sl : Array (Option Value)} (X : K.In h) (G : h.Ns mainGlobals mg) (a : PySem.W.nsIn K mainGlobals x = some (some (.ref f)))
    (l : K.lookup f = some ⟨oc, od, .func (PySem.W.fnOf x x (defArgs st) (defBody st) (defScope st) .none kV doc pm an (.ref cd) ct), sl⟩) (c : PySem.W.codeIn K (.ref cd) x = true) (k : PySem.W.keepIn K (.ref f) = true) : AtC K mg x st cd :=
  ⟨f, oc, kV, doc, pm, ct, od, an, sl, PySem.W.mg_of X G a, k, l, c⟩
theorem base_mk {b : Str} {CB : Addr} (X : K.In h) (G : h.Ns mainGlobals mg) (a : PySem.W.nsIn K mainGlobals b = some (some (.ref CB))) (r : PySem.W.readsIn K CB (.type "type") = true)
    (s : PySem.W.specialIn K (.ref CB) "__getattribute__" = some (some (.builtin "type.__getattribute__"))) (f : PySem.W.findCls K (.ref CB) (.type "type") "__init__" = some (.val (.builtin "ValueError.__init__"))) : Base0 K mg b :=
  ⟨CB, PySem.W.mg_of X G a, r, s, f⟩
theorem oex_mk {C : Addr} {nm q : Str} {N : Addr} {bs bm : List Value} {sn : List Str} {sub : List Value} {ab : Bool} {col : Option Bool} {dd : Option Addr} {m0 m1 m2 m3 m5 : Option Value}
    (xL : K.lookup C = some (excClassObj nm q C N bs bm true sn sub ab col dd m0 m1 m2 m3 m5 "ValueError.__new__")) (hbm : PySem.HandSPX.refsVE bm = true) (sa : PySem.W.findIn K (.ref C) "__setattr__" = some (some (.builtin "object.__setattr__")))
    (eC : PySem.W.subIn K (.ref C) (.type "BaseException") = some true) (tC : PySem.W.typeIn K (.ref C) = some (.type "type")) (kC : PySem.W.keepIn K (.ref C) = true) : OexC K C :=
  ⟨⟨nm, q, N, bs, bm, sn, sub, ab, col, dd, m0, m1, m2, m3, m5, xL, hbm⟩, sa, eC, tC, kC⟩
theorem err_mk {x b f q txt : Str} {st : Stmt} {C fI : Addr} {oc kV doc pm cdv ct : Value} {od an : Option Addr} {osl : Array (Option Value)} {p1 p2 p3 p4 p5 p6 p7 p8 p9 p10 : Pos} {j} (B : Base0 K mg b) (gC : mg x = some (.ref C)) (O : OexC K C) (XF : XfC K C)
    (no : PySem.W.findIn K (.ref C) f = some none) (i1 : PySem.W.findIn K (.ref C) "__init__" = some (some (.ref fI))) (tI : PySem.W.typeIn K (.ref fI) = some (.type "function"))
    (lk : K.lookup fI = some ⟨oc, od, .func (PySem.W.fnOf "__init__" q (defArgs st) (defBody st) (defScope st) .none kV doc pm an cdv ct), osl⟩) (hcd : PySem.W.codeIn K cdv q = true)
    (S : FnScope ["self", f] ["self", f] (defScope st))
    (hb : defBody st = [.Expr (.Call (.Attribute (.Name b p1) "__init__" p2) [.Name "self" p3, .Constant (.str txt) j p4] [] p5) p6, .Assign [.Attribute (.Name "self" p7) f p8] (.Name f p9) p10])
    (hs : (defScope st).names.lookup ("self" : Str) = some .local) (hf : (defScope st).names.lookup f = some .local) (hg : (defScope st).names.lookup b = some .globalImplicit) (hl : (p2.endLine == p5.line) = true)
    (hdb : (b == ("__debug__" : Str)) = false) (hdf : (f == ("__debug__" : Str)) = false) (hdf2 : (f == ("__classdict__" : Str)) = false)
    (hbind : ∀ (kV doc pm : Value) (an : Option Addr) (cdv ct : Value) (us : List Value), us.length = (["self", f] : List Str).length → bindArgs (PySem.W.fnOf "__init__" q (defArgs st) (defBody st) (defScope st) .none kV doc pm an cdv ct) ⟨us, []⟩ = pure ((["self", f] : List Str).zip us)) : ErrOk P w K mg base x f C :=
  ⟨gC, O, no, XF, fI, _, i1, tI, init1_ok B lk hcd S hb hs hf hg hdb hdf hdf2 (fun env _ => ⟨_, base_call env hl⟩) (fun _ _ => rfl) (fun _ _ => rfl), Binds.all fun us hl => hbind kV doc pm an cdv ct us hl⟩
theorem init_mk {C fI : Addr} {q : Str} {st : Stmt} {oc kV doc pm cdv ct : Value} {od an : Option Addr} {osl : Array (Option Value)} (i1 : PySem.W.findIn K (.ref C) "__init__" = some (some (.ref fI))) (i2 : PySem.W.typeIn K (.ref fI) = some (.type "function"))
    (i3 : K.lookup fI = some ⟨oc, od, .func (PySem.W.fnOf "__init__" q (defArgs st) (defBody st) (defScope st) .none kV doc pm an cdv ct), osl⟩) (i4 : PySem.W.codeIn K cdv q = true) :
    ∃ fI oc od kV doc pm an cdv ct osl, PySem.W.findIn K (.ref C) "__init__" = some (some (.ref fI)) ∧ PySem.W.typeIn K (.ref fI) = some (.type "function") ∧ K.lookup fI = some ⟨oc, od, .func (PySem.W.fnOf "__init__" q (defArgs st) (defBody st) (defScope st) .none kV doc pm an cdv ct), osl⟩ ∧ PySem.W.codeIn K cdv q = true :=
  ⟨fI, oc, od, kV, doc, pm, an, cdv, ct, osl, i1, i2, i3, i4⟩
theorem kit_ref {A C : Addr} (h1 : PySem.W.subIn K (.ref A) (.ref C) = some true) (h2 : PySem.W.hasDictIn K C = true) (h3 : PySem.W.typeIn K (.ref C) = some (.type "type")) : PySem.W.kitOne K (.ref A) (.ref C) = some true := by
  obtain ⟨cd, hc, _⟩ := PySem.W.any_some h2
  unfold PySem.W.kitOne PySem.W.kitCls
  split
  · rfl
  · simp [hc, h3, h1]
theorem kit_type {A : Addr} {T : String} (h1 : PySem.W.subIn K (.ref A) (.type T) = some true) (h2 : PySem.W.kitMeta T = true) : PySem.W.kitOne K (.ref A) (.type T) = some true := by
  unfold PySem.W.kitOne PySem.W.kitCls
  split
  · rfl
  · simp [h2, h1]
theorem excC_of {C : Addr} (F : XfC K C) (ha : PySem.W.findIn K (.ref C) "__class__" = some (some (.builtin "object.__class__"))) (hn : PySem.W.specialIn K (.builtin "object.__class__") "__get__" = some (some (.builtin "getset_descriptor.__get__")))
    (ht : PySem.W.takesIn K (.builtin "object.__class__") = some true) (hm : PySem.W.mroIn K C (.type "object") = some true) : ExcC K C := ⟨F.ga, F.gg, F.exC, F.hdC, ha, hn, ht, hm⟩
/-- a constant of the text -/
theorem const_mk {x : Str} {v : V} {u : Value} (X : K.In h) (G : h.Ns mainGlobals mg) (a : PySem.W.nsIn K mainGlobals x = some (some u)) (r : RelV v u) : ∃ u, mg x = some u ∧ RelV v u := ⟨u, PySem.W.mg_of X G a, r⟩
/-- no def hides the built-in names -/
structure BltN (mg : Str → Option Value) : Prop where
  len : mg "len" = none
  range : mg "range" = none
  min : mg "min" = none
  max : mg "max" = none
  abs : mg "abs" = none
  int : mg "int" = none
  str : mg "str" = none
  bool : mg "bool" = none
  list : mg "list" = none
  tuple : mg "tuple" = none
  dict : mg "dict" = none
  isinstance : mg "isinstance" = none
  all : mg "all" = none
  any : mg "any" = none
  sum : mg "sum" = none
  zip : mg "zip" = none
  repr : mg "repr" = none
  divmod : mg "divmod" = none
  sorted : mg "sorted" = none
  enumerate : mg "enumerate" = none
  reversed : mg "reversed" = none
  valueError : mg "ValueError" = none
theorem BltN.at (B : BltN mg) (S : SysAt base) : Blt mg base := ⟨S, B.len, B.range, B.min, B.max, B.abs, B.int, B.str, B.bool, B.list, B.tuple, B.dict, B.isinstance, B.all, B.any, B.sum, B.zip, B.repr, B.divmod, B.sorted, B.enumerate, B.reversed, B.valueError⟩
theorem bltn_mk (X : K.In h) (G : h.Ns mainGlobals mg) (a1 : PySem.W.nsIn K mainGlobals "len" = some none) (a2 : PySem.W.nsIn K mainGlobals "range" = some none) (a3 : PySem.W.nsIn K mainGlobals "min" = some none) (a4 : PySem.W.nsIn K mainGlobals "max" = some none)
    (a5 : PySem.W.nsIn K mainGlobals "abs" = some none) (a6 : PySem.W.nsIn K mainGlobals "int" = some none) (a7 : PySem.W.nsIn K mainGlobals "str" = some none) (a8 : PySem.W.nsIn K mainGlobals "bool" = some none) (a9 : PySem.W.nsIn K mainGlobals "list" = some none)
    (a10 : PySem.W.nsIn K mainGlobals "tuple" = some none) (a11 : PySem.W.nsIn K mainGlobals "dict" = some none) (a12 : PySem.W.nsIn K mainGlobals "isinstance" = some none) (a13 : PySem.W.nsIn K mainGlobals "all" = some none) (a14 : PySem.W.nsIn K mainGlobals "any" = some none)
    (a15 : PySem.W.nsIn K mainGlobals "sum" = some none) (a16 : PySem.W.nsIn K mainGlobals "zip" = some none) (a17 : PySem.W.nsIn K mainGlobals "repr" = some none) (a18 : PySem.W.nsIn K mainGlobals "divmod" = some none) (a19 : PySem.W.nsIn K mainGlobals "sorted" = some none)
    (a20 : PySem.W.nsIn K mainGlobals "enumerate" = some none) (a21 : PySem.W.nsIn K mainGlobals "reversed" = some none) (a22 : PySem.W.nsIn K mainGlobals "ValueError" = some none) : BltN mg :=
  ⟨PySem.W.ns_none_of X G a1, PySem.W.ns_none_of X G a2, PySem.W.ns_none_of X G a3, PySem.W.ns_none_of X G a4, PySem.W.ns_none_of X G a5, PySem.W.ns_none_of X G a6, PySem.W.ns_none_of X G a7, PySem.W.ns_none_of X G a8, PySem.W.ns_none_of X G a9, PySem.W.ns_none_of X G a10,
   PySem.W.ns_none_of X G a11, PySem.W.ns_none_of X G a12, PySem.W.ns_none_of X G a13, PySem.W.ns_none_of X G a14, PySem.W.ns_none_of X G a15, PySem.W.ns_none_of X G a16, PySem.W.ns_none_of X G a17, PySem.W.ns_none_of X G a18, PySem.W.ns_none_of X G a19, PySem.W.ns_none_of X G a20,
   PySem.W.ns_none_of X G a21, PySem.W.ns_none_of X G a22⟩
end
end Z

set_option Elab.async false
set_option linter.all false
set_option maxRecDepth 100000
set_option maxHeartbeats 4000000
/-! objects of own classes, dicts, more of lists -/
namespace Z
open PySem PySem.Spec PyProof.Rows L2
theorem wK_mono {X : Cx} {kws : List Keyword} {σ : L2.St} {H : Hp} {Q Q' : List V → Hp → Prop} (h : wK X kws σ H Q) (k : ∀ v H', Q v H' → Q' v H') : wK X kws σ H Q' := ⟨fun pos pins s I => thn (h.run pos pins s I) fun _ _ ⟨v, H', I', r, q⟩ => ⟨v, H', I', r, k v H' q⟩⟩
section
variable {X : Cx} {k : Nat} {W : WX} {σ : L2.St} {H : Hp} {e a b c o i : Expr} {es : List Expr} {p p2 pos apos : Pos} {Q : VK} {x f m : Str}
theorem e_chain {op op' : CmpOp} (h : wE X a σ H fun x H1 => wE X b σ H1 fun y H2 => oW X (compareOp op) x y H2 fun z H3 => ∃ k, z = .bl k ∧ (if k = true then wE X c σ H3 fun w' H4 => oW X (compareOp op') y w' H4 Q else Q (.bl false) H3))
    (hm : lastMarks [op, op'] [b, c] = false := by with_unfolding_all rfl) : wE X (.Compare a [op, op'] [b, c] pos) σ H Q := eE (pe_chain oR oR pE pE pE hm) h
/-! ### list(x), tuple(x), + and * of lists -/
theorem e_listOf (B : Blt X.mg X.base) (h : wE X a σ H fun x H1 => ∃ q ys, x = .ref q ∧ (SqL X.K H1 q ys ∨ SqT X.K H1 q ys) ∧ ∀ l, H1 l = none → Q (.ref l) (upd H1 l (.lst ys))) (hg : Gl X "list" := by rfl) (hs : starEach [a] X.env = [(false, eval a X.env)] := by rfl) :
    wE X (.Call (.Name "list" p) [a] [] pos) σ H Q := e_Ty (T := "list") (a_cons (wE_mono h fun x H1 ⟨q, ys, e1, h1, h2⟩ => a_nil (cW_of call_list_of ⟨q, ys, by rw [e1], h1, h2⟩)) hs) B.list PyProof.Rows.boot_list hg (by decide) (by decide) hs rfl
theorem e_tupleOf (B : Blt X.mg X.base) (h : wE X a σ H fun x H1 => ∃ q ys, x = .ref q ∧ ((SqL X.K H1 q ys ∧ ∀ l, H1 l = none → Q (.ref l) (upd H1 l (.tup ys))) ∨ (SqT X.K H1 q ys ∧ Q (.ref q) H1))) (hg : Gl X "tuple" := by rfl) (hs : starEach [a] X.env = [(false, eval a X.env)] := by rfl) :
    wE X (.Call (.Name "tuple" p) [a] [] pos) σ H Q := e_Ty (T := "tuple") (a_cons (wE_mono h fun x H1 ⟨q, ys, e1, h1⟩ => a_nil (cW_of call_tuple_of ⟨q, ys, by rw [e1], h1⟩)) hs) B.tuple PyProof.Rows.boot_tuple hg (by decide) (by decide) hs rfl
theorem o_cat {q r : Addr} {xs ys : List V} (h1 : H q = some (.lst xs)) (h2 : H r = some (.lst ys)) (hn : xs.length + ys.length ≤ sizeLine) (h : ∀ p, H p = none → Q (.ref p) (upd H p (.lst (xs ++ ys)))) : oW X (binaryOp .Add) (.ref q) (.ref r) H Q :=
  oW_of op_cat ⟨q, r, xs, ys, rfl, rfl, h1, h2, hn, h⟩
/-! ### fields, properties, methods -/
theorem e_fld {r C dx : Addr} {fs : List (Str × V)} {v : V} (h : wE X e σ H fun x H1 => x = .ref r ∧ H1 r = some (.ins C dx fs) ∧ Q v H1) (c : Cls X.K C) (n : NoAttr X.K C f) (l : fs.lookup f = some v) (hb : attributeBase e f X.env (eval e X.env) = eval e X.env := by rfl) :
    wE X (.Attribute e f pos) σ H Q := eE (pe_fld pE hb) (wE_mono h fun x H1 ⟨e1, h1, q⟩ => ⟨r, C, dx, fs, v, e1, h1, c, n, l, q⟩)
theorem s_fld {D : Ends} {r C : Addr} (h : wE X e σ H fun y H1 => wE X o σ H1 fun x H2 => ∃ dx fs, x = .ref r ∧ H2 r = some (.ins C dx fs) ∧ fs.length < 1000 ∧ D.nx σ (upd H2 r (.ins C dx (putF f y fs)))) (c : Cls X.K C) (n : NoAttr X.K C f)
    (hs : swapsWith e (some (.Attribute o f p)) pos.line X.env = pure false := by rfl) : wS X (.Assign [.Attribute o f p] e pos) D σ H :=
  eS (ps_fld pE pE hs) (wE_mono h fun y H1 h1 => wE_mono h1 fun x H2 ⟨dx, fs, e1, h2, h3, q⟩ => ⟨r, C, dx, fs, e1, h2, c, n, h3, q⟩)
/-- a def of the class at C under the name m, its promise -/
structure MethOk (P : Program) (w : World) (K : PySem.W.Frag) (mg : Str → Option Value) (base : Heap) (k : Nat) (C : Addr) (m : Str) (ps : List Str) (sp : Sp) : Prop where
  ex : ∃ f fd, Meth K C m f ∧ FnOk P w K mg base (L2.CX P w) k f fd ps sp ∧ Binds K fd ps []
structure PropOk (P : Program) (w : World) (K : PySem.W.Frag) (mg : Str → Option Value) (base : Heap) (k : Nat) (C : Addr) (m : Str) (sp : Sp) : Prop where
  ex : ∃ pr f fd, PropOf K C m pr f ∧ FnOk P w K mg base (L2.CX P w) k f fd ["self"] sp ∧ Binds K fd ["self"] []
theorem passes0 {X : Cx} {W : WX} (tk : Takes X W) : Passes (L2.CX X.prog X.w) X (fun _ _ _ => False) := fun pins σ H s e s' I c => passes_call tk (fun cls d σ' H' z => z.elim) pins σ H s e s' I c
theorem passesE {X : Cx} {W : WX} {E : XK} (tk : Takes X W) (h : ∀ cls d σ H, E cls d H → W cls d σ H) : Passes (L2.CX X.prog X.w) X E := fun pins σ H s e s' I c => passes_call tk h pins σ H s e s' I c
/-- e.m, a property that raises nothing -/
theorem e_prop {sp : Sp} {r C dx : Addr} {fs : List (Str × V)} {j : Nat} (Cc : Cxt X (j + 1) W) (c : Cls X.K C) (M : PropOk X.prog X.w X.K X.mg X.base j C m sp) (h : wE X e σ H fun x H1 => x = .ref r ∧ H1 r = some (.ins C dx fs) ∧ sp [.ref r] H1 Q fun _ _ _ => False)
    (hab : attributeBase e m X.env (eval e X.env) = eval e X.env := by rfl) : wE X (.Attribute e m pos) σ H Q := by
  obtain ⟨pr, g, fd, hp, F, hb⟩ := M.ex
  exact eE (pe_prop pE c hp F Cc.room hb .nil (passes0 (X := X.nox) takesW0) hab) (wE_mono h fun x H1 ⟨e1, h1, q⟩ => ⟨r, dx, fs, e1, h1, q⟩)
theorem meth_eval {o : Expr} {m : Str} {apos pos : Pos} {es : List Expr} {env : Env} (hb : attributeBase o m env (eval o env) = eval o env) (hf : methodCallForm (es.length + 0) (backTo pos (starEach es env)) (backToKw pos (keywordEach [] env)) = true) (hl : (apos.endLine == pos.line) = true) :
    eval (.Call (.Attribute o m apos) es [] pos) env = (do
      let ov ← eval o env
      standAt apos.atName
      let (f, first) ← holding [ov] (getMethod ov m (plainOf o env))
      callWith pos f first (backTo pos (starEach es env)) (backToKw pos (keywordEach [] env))) := by
  show (do let ov ← attributeBase o m env (eval o env); standAt apos.atName; methodCall o m apos pos env ov (es.length + 0) (backTo pos (starEach es env)) (backToKw pos (keywordEach [] env))) = _
  rw [hb]
  congr 1
  funext ov
  congr 1
  funext _
  exact mcall_line hf hl
/-- o.m(), a method that raises nothing -/
theorem e_meth0 {sp : Sp} {r C dx : Addr} {fs : List (Str × V)} {j : Nat} {ps : List Str} (Cc : Cxt X j W) (c : Cls X.K C) (M : MethOk X.prog X.w X.K X.mg X.base j C m ps sp) (h : wE X o σ H fun x H1 => x = .ref r ∧ H1 r = some (.ins C dx fs) ∧ fs.lookup m = none ∧ sp [.ref r] H1 Q fun _ _ _ => False)
    (hb : attributeBase o m X.env (eval o X.env) = eval o X.env := by rfl) (hf : methodCallForm (([] : List Expr).length + 0) (backTo pos (starEach [] X.env)) (backToKw pos (keywordEach [] X.env)) = true := by rfl) (hl : (apos.endLine == pos.line) = true := by rfl) :
    wE X (.Call (.Attribute o m apos) [] [] pos) σ H Q := by
  obtain ⟨g, fd, hm, F, hbd⟩ := M.ex
  exact eE (pe_meth0 (pl := plainOf o X.env) pE c hm F Cc.room hbd .nil (passes0 Cc.tk) (meth_eval hb hf hl)) (wE_mono h fun x H1 ⟨e1, h1, n, q⟩ => by subst e1; exact ⟨r, dx, fs, rfl, h1, n, q⟩)
/-- o.m(e, ..) -/
theorem e_meth {sp : Sp} {r C dx : Addr} {fs : List (Str × V)} {j : Nat} {ps : List Str} (Cc : Cxt X j W) (c : Cls X.K C) (M : MethOk X.prog X.w X.K X.mg X.base j C m ps sp) (h : wE X o σ H fun x H1 => x = .ref r ∧ H1 r = some (.ins C dx fs) ∧ fs.lookup m = none ∧ wA X (e :: es) σ H1 fun vs H2 => sp (.ref r :: vs) H2 Q fun _ _ _ => False)
    (hb : attributeBase o m X.env (eval o X.env) = eval o X.env := by rfl) (hf : methodCallForm ((e :: es).length + 0) (backTo pos (starEach (e :: es) X.env)) (backToKw pos (keywordEach [] X.env)) = true := by rfl) (hl : (apos.endLine == pos.line) = true := by rfl)
    (hst : starEach (e :: es) X.env = (false, eval e X.env) :: starEach es X.env := by rfl) (hpl : (backTo pos (starEach es X.env)).any (·.1) = false := by rfl) :
    wE X (.Call (.Attribute o m apos) (e :: es) [] pos) σ H Q := by
  obtain ⟨g, fd, hm, F, hbd⟩ := M.ex
  exact eE (pe_meth (pl := plainOf o X.env) pE c hm F Cc.room hbd .nil (passes0 Cc.tk) pA hst hpl (meth_eval hb hf hl)) (wE_mono h fun x H1 ⟨e1, h1, n, q⟩ => by subst e1; exact ⟨r, dx, fs, rfl, h1, n, wA_mono q fun vs H2 q => by rw [List.append_nil]; exact q⟩)
/-! ### making an object -/
/-- the class at C under its name x, its __init__'s promise; ds what the defaults tell -/
structure MakeOk (P : Program) (w : World) (K : PySem.W.Frag) (mg : Str → Option Value) (base : Heap) (k : Nat) (x : Str) (C : Addr) (ps : List Str) (sp : Sp) (B : FuncData → Prop) : Prop where
  ex : ∃ f fd, mg x = some (.ref C) ∧ Mk K C f ∧ FnOk P w K mg base (L2.CX P w) k f fd ps sp ∧ B fd
theorem e_make {sp : Sp} {C : Addr} {j : Nat} {ps : List Str} {ds : List Value} {dvs : List V} {E : XK} (Cc : Cxt X (j + 1) W) (M : MakeOk X.prog X.w X.K X.mg X.base j x C ps sp fun fd => Binds X.K fd ps ds) (hd : Vals dvs ds) (hW : ∀ cls d σ H, E cls d H → W cls d σ H)
    (h : wA X (e :: es) σ H fun vs H1 => ∀ r dx, H1 r = none → H1 dx = none → dx ≠ r → sp (.ref r :: (vs ++ dvs)) (upd (upd H1 dx (.own r)) r (.ins C dx [])) (fun v H2 => v = .non ∧ Q (.ref r) H2) E) (hg : Gl X x := by rfl)
    (hdb : (x == ("__debug__" : Str)) = false := by decide) (he : starEach (e :: es) X.env = (false, eval e X.env) :: starEach es X.env := by rfl) (hpl : (backTo pos (starEach es X.env)).any (·.1) = false := by rfl) :
    wE X (.Call (.Name x p) (e :: es) [] pos) σ H Q := by
  obtain ⟨g, fd, hm, mk, F, hb⟩ := M.ex
  exact eE (pe_make mk F Cc.room hg hm hb hd (passesE Cc.tk hW) pA hdb he hpl) h
theorem e_makeK {sp : Sp} {C : Addr} {j n : Nat} {ps ks : List Str} {gf : List Value → List Value → List Value} {gV : List V → List V → List V} {kws : List Keyword} {E : XK} (Cc : Cxt X (j + 1) W) (M : MakeOk X.prog X.w X.K X.mg X.base j x C ps sp fun fd => KBn X.K fd ps (n + 1) ks gf gV) (hW : ∀ cls d σ H, E cls d H → W cls d σ H)
    (h : wA X (e :: es) σ H fun vs H1 => wK X kws σ H1 fun zs H2 => vs.length = n ∧ zs.length = ks.length ∧ ∀ r dx, H2 r = none → H2 dx = none → dx ≠ r → sp (gV (.ref r :: vs) zs) (upd (upd H2 dx (.own r)) r (.ins C dx [])) (fun v H3 => v = .non ∧ Q (.ref r) H3) E) (hg : Gl X x := by rfl)
    (hall : (backToKw pos (keywordEach kws X.env)).all (·.1.isSome) = true := by rfl) (hks : (backToKw pos (keywordEach kws X.env)).filterMap (·.1) = ks := by rfl) (hdb : (x == ("__debug__" : Str)) = false := by decide)
    (he : starEach (e :: es) X.env = (false, eval e X.env) :: starEach es X.env := by rfl) (hpl : ((backTo pos (starEach (e :: es) X.env)).any (·.1) || (backToKw pos (keywordEach kws X.env)).any (·.1.isNone)) = false := by rfl) :
    wE X (.Call (.Name x p) (e :: es) kws pos) σ H Q := by
  obtain ⟨g, fd, hm, mk, F, hb⟩ := M.ex
  exact eE (pe_makeK mk F Cc.room hg hm hb (passesE Cc.tk hW) pA pK hall hks hdb he hpl) h
theorem e_makeK0 {sp : Sp} {C : Addr} {j : Nat} {ps ks : List Str} {gf : List Value → List Value → List Value} {gV : List V → List V → List V} {kws : List Keyword} {E : XK} (Cc : Cxt X (j + 1) W) (M : MakeOk X.prog X.w X.K X.mg X.base j x C ps sp fun fd => KBn X.K fd ps 1 ks gf gV) (hW : ∀ cls d σ H, E cls d H → W cls d σ H)
    (h : wK X kws σ H fun zs H2 => zs.length = ks.length ∧ ∀ r dx, H2 r = none → H2 dx = none → dx ≠ r → sp (gV [.ref r] zs) (upd (upd H2 dx (.own r)) r (.ins C dx [])) (fun v H3 => v = .non ∧ Q (.ref r) H3) E) (hg : Gl X x := by rfl)
    (hall : (backToKw pos (keywordEach kws X.env)).all (·.1.isSome) = true := by rfl) (hks : (backToKw pos (keywordEach kws X.env)).filterMap (·.1) = ks := by rfl) (hdb : (x == ("__debug__" : Str)) = false := by decide)
    (hpl : ((backTo pos (starEach [] X.env)).any (·.1) || (backToKw pos (keywordEach kws X.env)).any (·.1.isNone)) = false := by rfl) :
    wE X (.Call (.Name x p) [] kws pos) σ H Q := by
  obtain ⟨g, fd, hm, mk, F, hb⟩ := M.ex
  exact eE (pe_makeK0 mk F Cc.room hg hm hb (passesE Cc.tk hW) pK hall hks hdb hpl) (eK pK ⟨(wK_mono h fun zs H2 ⟨h1, h2⟩ => ⟨rfl, h1, h2⟩).run⟩)
/-! ### dicts -/
theorem e_dget {r : Addr} {v : V} (C : Cxt X k W) (h : wE X o σ H fun x H1 => wE X i σ H1 fun y H2 => x = .ref r ∧ DGet H2 r y (some v) ∧ Q v H2) (hs : NoSl i := by exact fun _ _ => rfl) : wE X (.Subscript o i pos) σ H Q :=
  eE (pe_dget (by have := C.un; omega) pE pE hs) (wE_mono h fun x H1 q => wE_mono q fun y H2 ⟨e1, h1, q⟩ => ⟨r, v, e1, h1, q⟩)
theorem set_d {r : Addr} {y v : V} {H' : Hp} {R : Hp → Prop} (C : Cxt X k W) (h : DPut H r y v H') (q : R H') : sW X (.ref r) y v H R := sW_of (set_dict (by have := C.un; omega)) ⟨r, H', rfl, h, q⟩
end
end Z

set_option Elab.async false
set_option linter.all false
set_option maxRecDepth 100000
set_option maxHeartbeats 4000000
namespace K14
open PySem PySem.Spec PyProof.Rows L2 Z
def top (i : Nat) : Stmt := PySem.Challenge.pw_frontlines_k14_least_lines.main.body.getD i (.Pass ⟨0, 0, 0, 0⟩)
/-! ### plain -/
def known : Str := "abcdefghijklmnopqrstuvwxyz0123456789.-=>|"
def isInteger (d : PyData) : Bool := isInt d && !isBool d
def ascends : List Nat → Bool
  | a :: b :: r => decide (a < b) && ascends (b :: r)
  | _ => true
def strSigns (x : Str) : Bool := decide (2 ≤ x.length) && decide (x.length ≤ 4) && x.cps.toList.all (fun c => decide (c ∈ known.cps.toList)) && ascends x.cps.toList
def lenOk : PyData → Bool
  | .str x => decide (2 ≤ x.length) && decide (x.length ≤ 4)
  | _ => false
def areSigns : PyData → Bool
  | .str x => strSigns x
  | _ => false
/-- the constants of the text -/
structure Consts (mg : Str → Option Value) : Prop where
  known : ∃ u, mg "KNOWN_SIGNS" = some u ∧ RelV (.str known) u
  least : ∃ u, mg "LEAST_SIGNS" = some u ∧ RelV (.int 2) u
  most : ∃ u, mg "MOST_SIGNS" = some u ∧ RelV (.int 4) u
section
variable {P : Program} {w : World} {K : PySem.W.Frag} {mg : Str → Option Value} {base : Heap}
theorem known_ascii : ∀ c, c ∈ known.cps.toList → c < 128 := by decide +kernel
theorem zip_ascends : ∀ l : List Nat, ((l.zip (l.drop 1)).map fun q => decide (q.1 < q.2)).all id = ascends l
  | [] => rfl
  | [_] => rfl
  | a :: b :: r => by
    have ih := zip_ascends (b :: r)
    simp only [List.drop_succ_cons, List.drop_zero, List.zip_cons_cons, List.map_cons, List.all_cons, id_eq, ascends] at ih ⊢
    rw [← ih]
theorem lt_one {a b : Nat} : decide ((⟨#[a]⟩ : Str).cps.toList < (⟨#[b]⟩ : Str).cps.toList) = decide (a < b) := by
  rw [decide_eq_decide]
  show [a] < [b] ↔ a < b
  simp [List.cons_lt_cons_iff]
/-- one datum in, a bool out, nothing changed -/
def fits : PyData → Prop
  | .str x => x.length ≤ sizeLine
  | _ => True
def sp1 (K : PySem.W.Frag) (f : PyData → Bool) : Sp := fun vs H Q _ => ∃ v l d, vs = [v] ∧ DD K l H v d ∧ fits d ∧ ∀ H', But [] H H' → Q (.bl (f d)) H'
theorem sp1_len {f : PyData → Bool} : ∀ vs H Q E, sp1 K f vs H Q E → vs.length = (["value"] : List Str).length := fun vs H Q E ⟨v, l, d, e, _⟩ => by rw [e]; rfl
theorem sc9 : FnScope ["value"] ["value"] (defScope (top 15)) := ⟨rfl, rfl, rfl, by decide +kernel, rfl, by decide +kernel, by decide +kernel⟩
theorem d_isInteger (B : Blt mg base) (D : At K mg "is_integer" (top 15)) : Def P w K mg base 1 "is_integer" (top 15) ["value"] (sp1 K isInteger) := by
  refine def_of D B sc9 sp1_len fun f cdv A outer s H vs Q E hm C h => ?_
  obtain ⟨v, l, d, rfl, hd, hf, q⟩ := h
  refine b_cons (s_ret (e_and (e_isi B kit_int B.int PyProof.Rows.boot_int (e_name 0 ⟨l, d, hd, isInt d, rfl, ?_⟩))))
  split
  · refine e_one (e_not (e_isi B kit_bool B.bool PyProof.Rows.boot_bool (e_name 0 ⟨l, d, hd, isBool d, rfl, ?_⟩)))
    have := q H But.refl
    simpa [isInteger, *] using this
  · have := q H But.refl
    simpa [isInteger, *] using this
theorem sc10 : FnScope ["value", "sign", "one", "other"] ["value"] (defScope (top 18)) := ⟨rfl, rfl, rfl, by decide +kernel, rfl, by decide +kernel, by decide +kernel⟩
theorem d_areSigns (B : Blt mg base) (D : At K mg "are_signs" (top 18)) (T : Consts mg) : Def P w K mg base 1 "are_signs" (top 18) ["value"] (sp1 K areSigns) := by
  refine def_of D B sc10 sp1_len fun f cdv A outer s H vs Q E hm C h => ?_
  obtain ⟨v, l, d, rfl, hd, hf, q⟩ := h
  obtain ⟨uK, hK, rK⟩ := T.known
  obtain ⟨u2, h2, r2⟩ := T.least
  obtain ⟨u4, h4, r4⟩ := T.most
  have rd : ∀ {H1}, But [] H H1 → DD K l H1 v d := fun b => hd.but (b.mono (by simp))
  refine b_cons (s_ifB (!lenOk d) ?_ (fun e H1 b1 => ?_) (fun e H1 b1 => ?_))
  · refine t_boolop (w_or (t_not (t_val (e_isi B kit_str B.str PyProof.Rows.boot_str (e_name 0 ⟨l, d, hd, isStr d, rfl, ?_⟩)))))
    refine ite_b (fun e => ⟨?_, But.refl⟩) fun e => ?_
    · cases d <;> simp_all [isStr, lenOk]
    · obtain ⟨x, rfl⟩ : ∃ x, d = .str x := by cases d <;> simp [isStr] at e; exact ⟨_, rfl⟩
      cases hd
      refine w_or1 (t_not (t_chain (e_glob (e_len B (e_name 0 ?_)) h2 r2)))
      refine ⟨x.length, ⟨hf, rfl⟩, c_le ⟨_, rfl, ite_b (fun e => e_glob (c_le ⟨_, rfl, ?_, But.refl⟩) h4 r4) fun e => ⟨_, rfl, ?_, But.refl⟩⟩⟩
      · have e := of_decide_eq_true e
        rw [lenOk, show decide (2 ≤ x.length) = true from decide_eq_true (by omega), Bool.true_and, Bool.not_eq_eq_eq_not, Bool.not_not, decide_eq_decide]
        omega
      · have e := of_decide_eq_false e
        rw [lenOk, show decide (2 ≤ x.length) = false from decide_eq_false (by omega)]
        rfl
  · refine b_cons (s_ret (e_bool ?_))
    have := q H1 b1
    have no : areSigns d = false := by cases d <;> simp_all [areSigns, strSigns, lenOk]; omega
    rwa [no] at this
  · obtain ⟨x, rfl⟩ : ∃ x, d = .str x := by cases d <;> simp [lenOk] at e; exact ⟨_, rfl⟩
    cases hd
    have hx : x.length ≤ sizeLine := hf
    have hsz : x.cps.size = x.length := rfl
    refine b_nil (b_cons (s_ifB (!(x.cps.toList.all fun c => decide (c ∈ known.cps.toList))) ?_ (fun e2 H2 b2 => ?_) (fun e2 H2 b2 => ?_)))
    · refine t_not (t_val (e_all C (e_lcM [("sign", 1)] C (i_str (e_name 0 ?_)))))
      refine ⟨x, rfl, _, _, _, (x.cps.toList.map fun c => V.bl (decide (c ∈ known.cps.toList))), walk_str, by simp, hx, fun _ _ => trivial, fun i y H2 H' hi b2 hy => ?_, fun Da H' b2 hn hl => ⟨Da, x.cps.toList.map fun c => decide (c ∈ known.cps.toList), rfl, .inl (.inl (by rw [hl, List.map_map]; rfl)), _, rfl, ?_, b2⟩⟩
      · obtain ⟨rfl, c, hc, rfl⟩ := hy
        refine ⟨But.refl, mt_name (i := 1) C.nd fun s H0 Ca cl fp => e_cmp (e_name 1 (e_glob (c_inSign ⟨?_, But.refl⟩) hK rK))⟩
        simp [← Array.getElem?_toList] at hc
        simp [hc]
      · simp [Function.comp_def]
    · refine b_cons (s_ret (e_bool ?_))
      have := q H2 (b1.trans b2)
      have no : areSigns (.str x) = false := by simp only [areSigns, strSigns]; simp only [Bool.not_eq_true'] at e2; rw [e2]; simp
      rwa [no] at this
    · have hall : (x.cps.toList.all fun c => decide (c ∈ known.cps.toList)) = true := by simpa using e2
      have asc : ∀ z : Str, (∀ c ∈ z.cps.toList, c ∈ x.cps.toList) → z.cps.all (· < 128) = true := fun z hz => by
        rw [Array.all_eq_true']
        intro c hc
        have := List.all_eq_true.mp hall c (hz c (by simpa using hc))
        simpa using known_ascii c (by simpa using this)
      refine b_nil (b_cons (s_ret (e_all C (e_lcM [("one", 2), ("other", 3)] C (i_zipS B (e_name 0 ?_))))))
      refine e_slice sl_str (e_name 0 ?_)
      refine p_some (e_int ⟨1, rfl, p_none ⟨x, rfl, hx, ?_⟩⟩)
      have hcut : (cutS x (some 1) none).cps.toList = x.cps.toList.drop 1 := by
        show (((x.cps.toList.drop (HT.sIx x.length 0 (some ((1 : Nat) : Int)))).take (HT.sIx x.length x.length none - HT.sIx x.length 0 (some ((1 : Nat) : Int)))).toArray).toList = _
        have hl : x.cps.toList.length = x.length := by simp [hsz]
        rw [HT.sIx_nat, HT.sIx_none, List.toList_toArray]
        by_cases h0 : 1 ≤ x.length
        · rw [Nat.min_eq_left h0, List.take_of_length_le (by rw [List.length_drop]; omega)]
        · have h1 : x.length = 0 := by omega
          have h2 : x.cps.toList = [] := List.eq_nil_of_length_eq_zero (by omega)
          simp [h2]
      refine ⟨x, _, rfl, rfl, asc x (fun _ h => h), asc _ (fun c hc => by rw [hcut] at hc; exact List.mem_of_mem_drop hc), _, _, _, ((x.cps.toList.zip (x.cps.toList.drop 1)).map fun q => V.bl (decide (q.1 < q.2))), walk_zipS rfl, ?_, ?_, fun _ _ => trivial, fun i y H3 H' hi b3 hy => ?_, fun Da H' b3 hn hl => ?_⟩
      · rw [← Array.length_toList (xs := (cutS x (some 1) none).cps), hcut]
        simp
      · omega
      · obtain ⟨T, c, c', rfl, hT, rfl, hc, hc'⟩ := hy
        refine ⟨But.new hT, mt_pair (i := 2) (j := 3) rfl C.nd upd_same fun s H0 Ca cl fp => e_cmp (e_name 2 (e_name 3 (c_ltS ⟨?_, But.refl⟩)))⟩
        rw [← Array.getElem?_toList] at hc hc'
        rw [hcut] at hc'
        rw [List.getElem?_map, (List.getElem?_zip_eq_some (z := (c, c'))).mpr ⟨hc, hc'⟩, lt_one]
        rfl
      · refine ⟨Da, (x.cps.toList.zip (x.cps.toList.drop 1)).map fun q => decide (q.1 < q.2), rfl, .inl (.inl (by rw [hl, List.map_map]; rfl)), ?_⟩
        rw [zip_ascends]
        have := q H' (b1.trans (b2.trans b3))
        have e3 : areSigns (.str x) = ascends x.cps.toList := by
          simp only [areSigns, strSigns, hall]
          have : lenOk (.str x) = true := by simpa using e
          simp only [lenOk] at this
          rw [this]
          rfl
        rwa [e3] at this
/-! ### the refusals -/
/-- one datum is wanted: None, or the error of the class at C with it -/
def spWant (K : PySem.W.Frag) (f : PyData → Bool) (C : Addr) : Sp := fun vs H Q E => ∃ v l d, vs = [v] ∧ DD K l H v d ∧ fits d ∧ (f d = true → ∀ H', But [] H H' → Q .non H') ∧
  (f d = false → ∀ dd H', But [] H H' → H' dd = some (.xd [("value", v)]) → E (.ref C) (some dd) H')
theorem DD.fit {l : List Addr} {H : Hp} {v : V} {d : PyData} (h : DD K l H v d) (H' : Hp) (b : But [] H H') : DD K l H' v d := h.but (b.mono (by simp))
theorem sc11 : FnScope ["value"] ["value"] (defScope (top 19)) := ⟨rfl, rfl, rfl, by decide +kernel, rfl, by decide +kernel, by decide +kernel⟩
theorem d_wantSigns {CS : Addr} (B : Blt mg base) (D : At K mg "want_signs" (top 19)) (D1 : Def P w K mg base 1 "are_signs" (top 18) ["value"] (sp1 K areSigns)) (E1 : ErrOk P w K mg base "InvalidSigns" "value" CS) :
    Def P w K mg base 3 "want_signs" (top 19) ["value"] (spWant K areSigns CS) := by
  refine def_of D B sc11 (fun vs H Q E ⟨v, l, d, e, _⟩ => by rw [e]; rfl) fun f cdv A outer s H vs Q E hm C h => ?_
  obtain ⟨v, l, d, rfl, hd, hf, q1, q2⟩ := h
  refine b_cons (s_ifB (!areSigns d) ?_ (fun e H1 b1 => ?_) (fun e H1 b1 => ?_))
  · refine t_not (t_val (e_call (C.mono (by decide)) (D1.mono (Nat.le_refl _)) (a_cons (e_name 0 (a_nil ?_))) rfl (fun _ _ _ _ _ _ us hl => match us, hl with | [_], _ => rfl)))
    exact ⟨v, l, d, rfl, hd, hf, fun H' b => ⟨_, rfl, rfl, b⟩⟩
  · refine b_cons (s_raise1 C E1 (by decide) (e_name 0 fun dd H' b2 hn hx => ?_))
    exact q2 (by simpa using e) dd H' (b1.trans b2) hx
  · exact b_nil (b_nil (q1 (by simpa using e) H1 b1))
/-! ### lines -/
def isLine (g : Str) : PyData → Bool
  | .str x => x.cps.toList.all fun c => decide (c ∈ g.cps.toList)
  | _ => false
def spLine (K : PySem.W.Frag) : Sp := fun vs H Q _ => ∃ g v l d, vs = [.str g, v] ∧ DD K l H v d ∧ fits d ∧ ∀ H', But [] H H' → Q (.bl (isLine g d)) H'
theorem sc12 : FnScope ["signs", "value", "sign"] ["signs", "value"] (defScope (top 20)) := ⟨rfl, rfl, rfl, by decide +kernel, rfl, by decide +kernel, by decide +kernel⟩
theorem d_isLine (B : Blt mg base) (D : At K mg "is_line" (top 20)) : Def P w K mg base 1 "is_line" (top 20) ["signs", "value"] (spLine K) := by
  refine def_of D B sc12 (fun vs H Q E ⟨g, v, l, d, e, _⟩ => by rw [e]; rfl) fun f cdv A outer s H vs Q E hm C h => ?_
  obtain ⟨g, v, l, d, rfl, hd, hf, q⟩ := h
  refine b_cons (s_ret (e_and (e_isi B kit_str B.str PyProof.Rows.boot_str (e_name 1 ⟨l, d, hd, isStr d, rfl, ite_b (fun e => ?_) fun e => ?_⟩))))
  · obtain ⟨x, rfl⟩ : ∃ x, d = .str x := by cases d <;> simp [isStr] at e; exact ⟨_, rfl⟩
    cases hd
    refine e_one (e_all C (e_lcM [("sign", 2)] C (i_str (e_name 1 ?_))))
    refine ⟨x, rfl, _, _, _, (x.cps.toList.map fun c => V.bl (decide (c ∈ g.cps.toList))), walk_str, by simp, hf, fun _ _ => trivial, fun i y H2 H' hi b2 hy => ?_, fun Da H' b2 hn hl => ⟨Da, x.cps.toList.map fun c => decide (c ∈ g.cps.toList), rfl, .inl (.inl (by rw [hl, List.map_map]; rfl)), ?_⟩⟩
    · obtain ⟨rfl, c, hc, rfl⟩ := hy
      refine ⟨But.refl, mt_name (i := 2) C.nd fun s H0 Ca cl fp => e_cmp (e_name 2 (e_name 0 (c_inSign ⟨?_, But.refl⟩)))⟩
      simp [← Array.getElem?_toList] at hc
      simp [hc]
    · have := q H' b2
      simpa [isLine, Function.comp_def] using this
  · have := q H But.refl
    have no : isLine g d = false := by cases d <;> simp_all [isLine, isStr]
    rwa [no] at this
end
end K14

set_option Elab.async false
set_option linter.all false
set_option maxRecDepth 100000
set_option maxHeartbeats 4000000
/-! own errors of two fields -/
namespace Z
open PySem PySem.Spec PyProof.Rows L2
def spInit2 (K : PySem.W.Frag) (f g : Str) : Sp := fun vs H Q _ => ∃ (a C : Addr) (v w : V), vs = [.ref a, v, w] ∧ OexC K C ∧ PySem.W.findIn K (.ref C) f = some none ∧ PySem.W.findIn K (.ref C) g = some none ∧ H a = some (exo a C none) ∧
  ∀ dx, H dx = none → dx ≠ a → Q .non (upd (upd (upd H dx (exd dx [(f, v)])) a (exo a C (some dx))) dx (exd dx [(g, w), (f, v)]))
section
variable {P : Program} {w : World} {K : PySem.W.Frag} {mg : Str → Option Value} {base : Heap}
theorem init2_ok {x b f g txt : Str} {st : Stmt} {fI : Addr} {oc kV doc pm cdv ct : Value} {od an : Option Addr} {osl : Array (Option Value)} {p1 p2 p3 p4 p5 p6 p7 p8 p9 p10 q7 q8 q9 q10 : Pos} {j} (B : Base0 K mg b)
    (lk : K.lookup fI = some ⟨oc, od, .func (PySem.W.fnOf "__init__" x (defArgs st) (defBody st) (defScope st) .none kV doc pm an cdv ct), osl⟩) (hcd : PySem.W.codeIn K cdv x = true)
    (S : FnScope ["self", f, g] ["self", f, g] (defScope st))
    (hb : defBody st = [.Expr (.Call (.Attribute (.Name b p1) "__init__" p2) [.Name "self" p3, .Constant (.str txt) j p4] [] p5) p6, .Assign [.Attribute (.Name "self" p7) f p8] (.Name f p9) p10, .Assign [.Attribute (.Name "self" q7) g q8] (.Name g q9) q10])
    (hs : (defScope st).names.lookup ("self" : Str) = some .local) (hf : (defScope st).names.lookup f = some .local) (hgl : (defScope st).names.lookup g = some .local) (hg : (defScope st).names.lookup b = some .globalImplicit) (hdb : (b == ("__debug__" : Str)) = false) (hl : (p2.endLine == p5.line) = true)
    (hdf : (f == ("__debug__" : Str)) = false) (hdf2 : (f == ("__classdict__" : Str)) = false) (hdg : (g == ("__debug__" : Str)) = false) (hdg2 : (g == ("__classdict__" : Str)) = false) :
    FnOk P w K mg base (L2.CX P w) 1 fI (PySem.W.fnOf "__init__" x (defArgs st) (defBody st) (defScope st) .none kV doc pm an cdv ct) ["self", f, g] (spInit2 K f g) := by
  refine fn_of lk hcd S (fun vs H Q E h => ?_) fun A outer s H vs Q E hr h => ⟨wB _ (defBody st), pB, ?_⟩
  · obtain ⟨a, C, v, w, rfl, _⟩ := h
    rfl
  · obtain ⟨a, C, v, w, rfl, T, hno, hno2, ha, q⟩ := h
    rw [hb]
    refine b_cons (s_expr (e_baseInit B ?_ hg hdb (base_call (envOfC x (defScope st) s.heap.objs.size fI cdv) hl)) rfl)
    refine a_cons (e_name 0 (a_cons (e_str (a_nil ⟨a, C, _, rfl, by simp, T, ha, ?_⟩))) rfl rfl (.inl hs))
    refine b_cons (eS (ps_ost (pE (e := .Name "self" p7)) pE rfl) ?_)
    refine e_name 1 ?_ rfl rfl (.inl hf) hdf hdf2
    refine e_name 0 ?_ rfl rfl (.inl hs)
    refine ⟨a, C, rfl, T, hno, .inl ⟨ha, fun dx n ne => b_cons (eS (ps_ost (pE (e := .Name "self" q7)) pE rfl) ?_)⟩⟩
    refine e_name 2 ?_ rfl rfl (.inl hgl) hdg hdg2
    refine e_name 0 ?_ rfl rfl (.inl hs)
    exact ⟨a, C, rfl, T, hno2, .inr ⟨dx, [(f, v)], upd_same, by rw [upd_ne ne, upd_same], by simp, b_nil (q dx n ne)⟩⟩
end
/-- an error class of two fields, its __init__ proved -/
structure ErrOk2 (P : Program) (w : World) (K : PySem.W.Frag) (mg : Str → Option Value) (base : Heap) (x f g : Str) (C : Addr) : Prop where
  gC : mg x = some (.ref C)
  oex : OexC K C
  no : PySem.W.findIn K (.ref C) f = some none
  no2 : PySem.W.findIn K (.ref C) g = some none
  xf : XfC K C
  ex : ∃ fI fd, PySem.W.findIn K (.ref C) "__init__" = some (some (.ref fI)) ∧ PySem.W.typeIn K (.ref fI) = some (.type "function") ∧ FnOk P w K mg base (L2.CX P w) 1 fI fd ["self", f, g] (spInit2 K f g) ∧ Binds K fd ["self", f, g] []
section
variable {X : Cx} {k : Nat} {W : WX} {σ : L2.St} {H : Hp} {x f g : Str} {e e2 : Expr} {C : Addr} {p1 p2 pos : Pos} {D : Ends}
/-- raise X(v, w) -/
theorem s_raise2 (Cc : Cxt X k W) (E : ErrOk2 X.prog X.w X.K X.mg X.base x f g C) (hr : 2 ≤ k)
    (h : wE X e σ H fun v H1 => wE X e2 σ H1 fun w H2 => ∀ d H', But [] H2 H' → H2 d = none → H' d = some (.xd [(g, w), (f, v)]) → W (.ref C) (some d) σ H')
    (hg : Gl X x := by rfl) (hdb : (x == ("__debug__" : Str)) = false := by decide) (he : starEach [e, e2] X.env = (false, eval e X.env) :: starEach [e2] X.env := by rfl) (he2 : starEach [e2] X.env = [(false, eval e2 X.env)] := by rfl) : wS X (.Raise (some (.Call (.Name x p1) [e, e2] [] p2)) none pos) D σ H := by
  obtain ⟨fI, fd, iC, tI, F, hb⟩ := E.ex
  have hx : Passes (L2.CX X.prog X.w) X (fun _ _ _ => False) := passes0 Cc.tk
  refine eS (ps_raise Cc.calm Cc.tk (pmk_oex E.oex iC tI F (Cc.room.mono hr) hb .nil hx hg E.gC pA hdb he (by rw [he2]; rfl))) ?_
  refine a_cons (wE_mono h fun v H1 q1 => a_cons (wE_mono q1 fun w H2 q => a_nil ⟨by simp, fun a ha => ?_⟩) he2) he
  refine ⟨a, C, v, w, rfl, E.oex, E.no, E.no2, upd_same, fun dx hd ne => ⟨rfl, dx, [(g, w), (f, v)], by rw [upd_ne ne.symm, upd_same], upd_same, ?_, ?_⟩⟩
  · rw [upd_ne ne] at hd
    exact hd
  · have hd' : H2 dx = none := by rw [upd_ne ne] at hd; exact hd
    refine q dx _ (fun b o _ hbo => ?_) hd' upd_same
    have nb : b ≠ a := ne_of_none hbo ha
    have nb2 : b ≠ dx := ne_of_none hbo hd'
    rw [upd_ne nb2, del_ne nb, upd_ne nb2, upd_ne nb, upd_ne nb2, upd_ne nb]
    exact hbo
end
section
variable {X : Cx} {σ : L2.St} {H : Hp} {a CE dd : Addr} {oe : Obj} {pn : List (Addr × Obj)} {e : Expr} {pos p : Pos} {f : Str} {Q : VK}
/-- e.f, any fields -/
theorem e_xfs {v : V} {fs : List (Str × V)} (T : XfC X.K CE) (hno : PySem.W.findIn X.K (.ref CE) f = some none) (hz : Zc (.ref CE) (some dd) oe) (hf : ∃ vs, oe.data = .fields vs) (hl : fs.lookup f = some v)
    (h : wE (X.suite a ((a, oe) :: pn)) e σ H fun x H1 => x = .ref a ∧ H1 dd = some (.xd fs) ∧ Q v H1) (hb : attributeBase e f X.env (eval e X.env) = eval e X.env := by rfl) :
    wE (X.suite a ((a, oe) :: pn)) (.Attribute e f pos) σ H Q :=
  eE (pe_xf T hno hz hf pE hb) (wE_mono h fun x H1 ⟨e1, e2, q⟩ => ⟨e1, rfl, dd, fs, v, rfl, e2, hl, q⟩)
end
end Z

set_option Elab.async false
set_option linter.all false
set_option maxRecDepth 100000
set_option maxHeartbeats 4000000
/-! dicts walked, dicts written out -/
namespace Z
open PySem PySem.Spec PyProof.Rows L2
/-- the i-th statement of a class text -/
def clsAt (s : Stmt) (i : Nat) : Stmt := match s with
  | .ClassDef _ _ _ b _ _ _ _ _ _ _ => b.getD i s
  | s => s
section
variable {X : Cx} {k : Nat} {W : WX} {σ : L2.St} {H : Hp} {e : Expr} {st : Stmt} {p pos apos tpos : Pos} {elts : List Expr} {kk : Nat}
theorem i_items {R : It → Hp → Prop} (h : wE X e σ H fun x H1 => ∃ d o kvs, x = .ref d ∧ H1 d = some (.frz o (.dK kvs)) ∧ R (Iti d o kvs) H1)
    (hb : attributeBase e "items" X.env (eval e X.env) = eval e X.env := by rfl) (hl : (apos.endLine == pos.line) = true := by rfl) : wI X (.Tuple elts kk tpos) (.Call (.Attribute e "items" apos) [] [] pos) σ H R := eI (pi_items pE hb hl) h
/-- a statement while the object at d is told not to change -/
theorem s_lock {D : Ends} {d : Addr} {u : HO} (hd : H d = some u) (mu : Mut (some u)) (h : ∀ od, wS X st ⟨fun σ' H' => H' d = some (.frz od u) ∧ D.nx σ' (upd H' d u), fun v H' => H' d = some (.frz od u) ∧ D.rt v (upd H' d u), fun σ' H' => H' d = some (.frz od u) ∧ D.bk σ' (upd H' d u), fun σ' H' => H' d = some (.frz od u) ∧ D.ct σ' (upd H' d u)⟩ σ (upd H d (.frz od u))) :
    wS X st D σ H := eS (ps_lock pS) ⟨d, u, hd, mu, h⟩
end
theorem but_unlock {l : List Addr} {H H' : Hp} {d : Addr} {u v : HO} (hd : H d = some u) (b : But l (upd H d v) H') : But l H (upd H' d u) := fun q o n e => by
  by_cases hq : q = d
  · rw [hq, upd_same]
    rw [hq, hd] at e
    exact e
  · rw [upd_ne hq]
    exact b q o n (by rw [upd_ne hq]; exact e)
end Z

set_option Elab.async false
set_option linter.all false
set_option maxRecDepth 100000
set_option maxHeartbeats 4000000
/-! a list or a tuple, walked -/
namespace Z
open PySem PySem.Spec PyProof.Rows L2
def items : PyData → List PyData
  | .list ds => ds
  | .tuple ds => ds
  | _ => []
def seqB (d : PyData) : Bool := isList d || isTuple d
section
variable {X : Cx} {σ : L2.St} {H : Hp} {e tg : Expr}
theorem i_dd {R : It → Hp → Prop} {x : V} {l : List Addr} {d : PyData} (hd : DD X.K l H x d) (hs : seqB d = true) (he : ∀ Q : VK, Q x H → wE X e σ H Q)
    (h : ∀ J G vs, Walk J vs.length G (YAt vs) → (∀ H', But l H H' → G H') → DDs X.K l H vs (items d) → R J H) : wI X tg e σ H R := by
  cases hd with
  | @lst a xs ds h1 n h2 => exact i_list (he _ ⟨a, rfl, ⟨xs, h1⟩, h _ _ xs walk_list (fun H' b => b.sql n h1) h2⟩)
  | @tup a xs ds h1 n h2 => exact i_tup (he _ ⟨a, rfl, ⟨xs, h1⟩, h _ _ xs walk_tup (fun H' b => b.sqt n h1) h2⟩)
  | _ => simp [seqB, isList, isTuple] at hs
/-- .. data that is wholly tracked -/
theorem i_dd0 {R : It → Hp → Prop} {x : V} {l : List Addr} {d : PyData} (hd : DD [] l H x d) (hs : seqB d = true) (he : ∀ Q : VK, Q x H → wE X e σ H Q)
    (h : ∀ J G vs, Walk J vs.length G (YAt vs) → (∀ H', But l H H' → G H') → DDs [] l H vs (items d) → R J H) : wI X tg e σ H R := by
  cases hd with
  | @lst a xs ds h1 n h2 => exact i_list (he _ ⟨a, rfl, ⟨xs, sql_all h1⟩, h _ _ xs walk_list (fun H' b => sql_all (b.sql n h1)) h2⟩)
  | @tup a xs ds h1 n h2 => exact i_tup (he _ ⟨a, rfl, ⟨xs, sqt_all h1⟩, h _ _ xs walk_tup (fun H' b => sqt_all (b.sqt n h1)) h2⟩)
  | _ => simp [seqB, isList, isTuple] at hs
end
end Z

set_option Elab.async false
set_option linter.all false
set_option maxRecDepth 100000
set_option maxHeartbeats 4000000
/-! tuples and lists are never one; extend, reverse, clear -/
namespace Z
open PySem PySem.Spec PyProof.Rows L2
/-- no tuple is a list -/
def Apart (K : PySem.W.Frag) (H : Hp) : Prop := ∀ a xs q ys, SqT K H a xs → H q = some (.lst ys) → a ≠ q
theorem apart_inv {X : Cx} {pins : List (Addr × Obj)} {σ : L2.St} {H : Hp} {s : Shared} (I : Inv X pins σ H s) : Apart X.K H := fun a xs q ys h1 h2 z => by
  subst z
  obtain ⟨its, r, ⟨o, e, c, _⟩, _⟩ := I.tuple h1
  obtain ⟨its', r', ⟨o', n', e', c', _⟩, _⟩ := I.list (.inl (.inl h2))
  rw [e] at e'
  cases e'
  rw [c] at c'
  exact absurd (Value.type.inj c') (by decide)
section
variable {X : Cx} {k : Nat} {W : WX} {σ : L2.St} {H : Hp} {e a o : Expr} {es : List Expr} {sts : List Stmt} {pos apos : Pos} {Q : VK}
theorem b_apart {D : Ends} (h : Apart X.K H → wB X sts D σ H) : wB X sts D σ H := ⟨fun pins s I => (h (apart_inv I)).run pins s I⟩
theorem e_gives (h : wE X e σ H fun v H1 => Apart X.K H1 → Q v H1) : wE X e σ H Q := ⟨fun pins s I => thn (h.run pins s I) fun _ _ ⟨v, H', I', r, q⟩ => ⟨v, H', I', r, q (apart_inv I')⟩⟩
theorem e_apart (h : Apart X.K H → wE X e σ H Q) : wE X e σ H Q := ⟨fun pins s I => (h (apart_inv I)).run pins s I⟩
end
mutual
def tupOnly : PyData → Bool
  | .tuple xs => tupOnlyAll xs
  | .list _ => false
  | .dict _ => false
  | _ => true
def tupOnlyAll : List PyData → Bool
  | [] => true
  | x :: xs => tupOnly x && tupOnlyAll xs
end
section
variable {K : PySem.W.Frag} {l : List Addr} {H : Hp}
mutual
theorem DD.avoid {q : Addr} {ys : List V} (A : Apart K H) (hq : H q = some (.lst ys)) : ∀ {v : V} {d : PyData}, DD K l H v d → tupOnly d = true → DD K (q :: l) H v d
  | _, _, .non, _ => .non
  | _, _, .bl x, _ => .bl x
  | _, _, .int x, _ => .int x
  | _, _, .str x, _ => .str x
  | _, _, .lst h n r, e => by simp [tupOnly] at e
  | _, _, .tup h n r, e => .tup h (fun z => by
      rcases List.mem_cons.mp z with z | z
      · exact A _ _ _ _ h hq z
      · exact n z) (DDs.avoid A hq r (by simpa [tupOnly] using e))
  | _, _, .dct h n r, e => by simp [tupOnly] at e
theorem DDs.avoid {q : Addr} {ys : List V} (A : Apart K H) (hq : H q = some (.lst ys)) : ∀ {vs : List V} {ds : List PyData}, DDs K l H vs ds → tupOnlyAll ds = true → DDs K (q :: l) H vs ds
  | _, _, .nil, _ => .nil
  | _, _, .cons h r, e => by
    simp only [tupOnlyAll, Bool.and_eq_true] at e
    exact .cons (DD.avoid A hq h e.1) (DDs.avoid A hq r e.2)
end
theorem tupOnlyAll_of {ds : List PyData} (h : ∀ d ∈ ds, tupOnly d = true) : tupOnlyAll ds = true := by
  induction ds with
  | nil => rfl
  | cons d ds ih => simp only [tupOnlyAll, h d (by simp), ih fun x hx => h x (by simp [hx]), Bool.and_self]
end
section
variable {X : Cx} {k : Nat} {W : WX} {σ : L2.St} {H : Hp} {e a o : Expr} {es : List Expr} {pos apos : Pos} {Q : VK}
/-- xs.extend(ys) -/
theorem e_extend (h : wE X o σ H fun x H1 => ∃ q, x = .ref q ∧ (∃ ys, H1 q = some (.lst ys)) ∧ wE X a σ H1 fun y H2 => ∃ r xs zs, y = .ref r ∧ H2 q = some (.lst xs) ∧ H2 r = some (.lst zs) ∧ xs.length + zs.length ≤ sizeLine ∧ Q .non (upd H2 q (.lst (xs ++ zs))))
    (hs : starEach [a] X.env = [(false, eval a X.env)] := by rfl) (hbase : attributeBase o "extend" X.env (eval o X.env) = eval o X.env := by rfl) (hline : (apos.endLine == pos.line) = true := by rfl)
    (hfew : ((backTo pos (starEach [a] X.env)).all (fun x => !x.1) && (backToKw pos (keywordEach [] X.env)).all (fun x => x.1.isSome) && decide (([a] : List Expr).length + ([] : List Keyword).length + (if ([] : List Keyword).isEmpty then 0 else 1) < 30)) = true := by rfl) :
    wE X (.Call (.Attribute o "extend" apos) [a] [] pos) σ H Q :=
  eE (pe_bm PySem.F.plainAttrs_list PySem.F.slot_list_extend PySem.F.type_list_extend mt_extend pE pA hbase hfew hline (by rw [hs]; rfl) rfl)
    (wE_mono h fun x H1 ⟨q, e1, ⟨ys, h0⟩, h1⟩ => ⟨by rw [e1]; exact .inl ⟨rfl, ys, .inl (.inl h0)⟩, a_cons (wE_mono h1 fun y H2 ⟨r, xs, zs, e2, h2, h3, h4, h5⟩ => a_nil ⟨q, r, xs, zs, e1, by rw [e2], h2, h3, h4, h5⟩) (by rw [hs]; rfl)⟩)
end
end Z

set_option Elab.async false
set_option linter.all false
set_option maxRecDepth 100000
set_option maxHeartbeats 4000000
/-! pairs walked, reverse, clear, lists times a number, while, == -/
namespace Z
open PySem PySem.Spec PyProof.Rows L2
theorem Apart.nil {K : PySem.W.Frag} {H : Hp} (A : Apart K H) : Apart [] H := fun a xs q ys h1 h2 => A a xs q ys (sqt_all h1) h2
theorem Here.ext {l : List Addr} {H H1 : Hp} (h : Here l H) (b : But [] H H1) : Here l H1 := fun q hq => let ⟨o, e⟩ := h q hq; ⟨o, b _ _ (by simp) e⟩
theorem Here.cons {l : List Addr} {H : Hp} {q : Addr} {o : HO} (e : H q = some o) (h : Here l H) : Here (q :: l) H := fun x hx => by
  rcases List.mem_cons.mp hx with rfl | hx
  · exact ⟨o, e⟩
  · exact h x hx
theorem Here.nil {H : Hp} : Here [] H := fun q hq => by simp at hq
/-- what was there stays, whatever became of the new -/
theorem but_late {H0 H1 H2 : Hp} {l : List Addr} (a : But [] H0 H1) (b : But l H1 H2) (n : ∀ q ∈ l, H0 q = none) : But [] H0 H2 := fun q o _ e => b q o (fun z => by rw [n q z] at e; cases e) (a q o (by simp) e)
section
variable {X : Cx} {k : Nat} {W : WX} {σ : L2.St} {H : Hp} {e a b o elt c : Expr} {es : List Expr} {p pos apos : Pos} {Q : VK} {scope : Scope}
theorem mt_pairS {i j : Nat} {y z : Str} {p p' pt : Pos} {kt} {vs : List Nat} {q : Addr} {u v : V} {R : V → Prop} (hc : X.calm = true) (hN : X.N.Nodup) (hq : SqT X.K H q [u, v])
    (h : wEb X scope elt (((wipe σ vs).set i (some u)).set j (some v)) H fun v H4 => R v ∧ But [] H H4) (hw : wipe (((wipe σ vs).set i (some u)).set j (some v)) vs = wipe σ vs := by rfl) (hi : X.N[i]? = some y := by rfl) (hj : X.N[j]? = some z := by rfl)
    (hx : Loc (relS scope X.env.scope) y := by first | exact Or.inl rfl | exact Or.inr rfl) (hf : (scope.names.lookup y == some .cell) = true ∨ (relS scope X.env.scope).names.lookup y = some .local := by first | exact .inl rfl | exact .inr rfl)
    (hx2 : Loc (relS scope X.env.scope) z := by first | exact Or.inl rfl | exact Or.inr rfl) (hf2 : (scope.names.lookup z == some .cell) = true ∨ (relS scope X.env.scope).names.lookup z = some .local := by first | exact .inl rfl | exact .inr rfl) :
    MapTurn X scope vs (.Tuple [.Name y p, .Name z p'] kt pt) elt σ (.ref q) H R := by
  intro s H0 C cl fp
  refine g_tup (gs_cons (g_name (i := i) (gs_cons (g_name (i := j) (gs_nil ⟨hw, But.refl, h⟩) hN hj hx2 hf2)) hN hi hx hf)) hc hq
theorem e_reverse (h : wE X o σ H fun x H1 => ∃ q xs, x = .ref q ∧ H1 q = some (.lst xs) ∧ Q .non (upd H1 q (.lst xs.reverse)))
    (hbase : attributeBase o "reverse" X.env (eval o X.env) = eval o X.env := by rfl) (hline : (apos.endLine == pos.line) = true := by rfl)
    : wE X (.Call (.Attribute o "reverse" apos) [] [] pos) σ H Q :=
  eE (pe_bm0 PySem.F.plainAttrs_list PySem.F.slot_list_reverse PySem.F.type_list_reverse mt_reverse pE hbase hline)
    (wE_mono h fun x H1 ⟨q, xs, e1, h0, h1⟩ => ⟨by rw [e1]; exact .inl ⟨rfl, xs, .inl (.inl h0)⟩, ⟨q, xs, e1, rfl, h0, h1⟩⟩)
theorem e_clear (h : wE X o σ H fun x H1 => ∃ q xs, x = .ref q ∧ H1 q = some (.lst xs) ∧ Q .non (upd H1 q (.lst [])))
    (hbase : attributeBase o "clear" X.env (eval o X.env) = eval o X.env := by rfl) (hline : (apos.endLine == pos.line) = true := by rfl)
    : wE X (.Call (.Attribute o "clear" apos) [] [] pos) σ H Q :=
  eE (pe_bm0 PySem.F.plainAttrs_list PySem.F.slot_list_clear PySem.F.type_list_clear mt_clear pE hbase hline)
    (wE_mono h fun x H1 ⟨q, xs, e1, h0, h1⟩ => ⟨by rw [e1]; exact .inl ⟨rfl, xs, .inl (.inl h0)⟩, ⟨q, xs, e1, rfl, h0, h1⟩⟩)
theorem o_rep {q : Addr} {xs : List V} {n : Nat} (h1 : H q = some (.lst xs)) (hz : xs.length * n ≤ sizeLine) (hn : n < 2 ^ 62) (h : ∀ p, H p = none → Q (.ref p) (upd H p (.lst (List.replicate n xs).flatten))) : oW X (binaryOp .Mult) (.ref q) (.int n) H Q :=
  oW_of op_rep ⟨q, n, xs, rfl, rfl, h1, by omega, by omega, by simpa using hz, by simpa using h⟩
/-- while: the invariant with its measure -/
theorem s_while {D : Ends} {body : List Stmt} (C : Cxt X k W) (I : Nat → L2.St → Hp → Prop) (m0 : Nat) (h0 : I m0 σ H)
    (h : ∀ m σ H, I m σ H → wT X c σ H fun b H1 => if b = true then wB X body { D with nx := fun σ' H' => ∃ m', m' < m ∧ I m' σ' H', ct := fun σ' H' => ∃ m', m' < m ∧ I m' σ' H', bk := D.nx } σ H1 else D.nx σ H1) : wS X (.While c body [] pos) D σ H := by
  refine eS (ps_while C.po pT pB) ⟨I, ⟨m0, h0⟩, fun m σ H hi => wT_mono (h m σ H hi) fun b H1 q => ?_⟩
  cases b with
  | true => exact ⟨fun σ' H' => ∃ m', m' < m ∧ I m' σ' H', fun _ _ q => q, q⟩
  | false => exact q
end
mutual
theorem eqv_same : ∀ {d : PyData}, d.hasDict = false → PyData.eqv d d = true
  | .none, _ => rfl
  | .bool b, _ => by simp [PyData.eqv]
  | .int i, _ => by simp [PyData.eqv]
  | .str x, _ => by simp [PyData.eqv]
  | .list xs, h => by rw [PyData.eqv]; exact eqvAll_same (by simpa [PyData.hasDict] using h)
  | .tuple xs, h => by rw [PyData.eqv]; exact eqvAll_same (by simpa [PyData.hasDict] using h)
  | .dict _, h => by simp [PyData.hasDict] at h
theorem eqvAll_same : ∀ {ds : List PyData}, PyData.hasDictAll ds = false → PyData.eqvAll ds ds = true
  | [], _ => rfl
  | x :: xs, h => by
    simp only [PyData.hasDictAll, Bool.or_eq_false_iff] at h
    rw [PyData.eqvAll, eqv_same h.1, eqvAll_same h.2]
    rfl
end
end Z

set_option Elab.async false
set_option linter.all false
set_option maxRecDepth 100000
set_option maxHeartbeats 4000000
/-! objects of own classes compared -/
namespace Z
open PySem PySem.Spec PyProof.Rows L2 C8
section
variable {X : Cx} {k : Nat} {W : WX} {σ : L2.St} {H : Hp} {e a b : Expr} {p pos : Pos} {Q : VK} {x : Str}
theorem but_ext {H H' : Hp} (e : Ext H H') : But [] H H' := fun q o _ h => e q o h
theorem ext_but {H H' : Hp} (e : But [] H H') : Ext H H' := fun q o h => e q o (by simp) h
/-- x == y by the own __eq__ of the class at C -/
theorem c_eqI {C : Addr} {ps : List Str} {R : Addr → Addr → Hp → Prop} {y z : V} (Cc : Cxt X k W) (M : MethOk X.prog X.w X.K X.mg X.base k C "__eq__" ps (spEq R)) (d : DIns C R y z H) (q : ∀ H', But [] H H' → Q (.bl true) H') : oW X (compareOp .Eq) y z H Q := by
  obtain ⟨f, fd, hm, F, hb⟩ := M.ex
  exact oW_of (op_eqG (rcG_ins F hm.at_ hm.fn hb (passes0 Cc.tk)) Cc.room) ⟨d, fun H' e => q H' (but_ext e)⟩
/-- isinstance(e, C), e an instance of the own class C -/
theorem e_isC {C : Addr} {pT : Pos} (B : Blt X.mg X.base) (c : InsC X.K C) (hT : X.mg x = some (.ref C)) (h : wE X a σ H fun v H1 => ∃ r dx fs, v = .ref r ∧ H1 r = some (.ins C dx fs) ∧ Q (.bl true) H1) (hgT : Gl X x := by rfl) (hdT : (x == ("__debug__" : Str)) = false := by decide) (hgl : Gl X "isinstance" := by rfl)
    (hs : starEach [a, .Name x pT] X.env = (false, eval a X.env) :: starEach [.Name x pT] X.env := by rfl) (hs2 : starEach [.Name x pT] X.env = [(false, eval (.Name x pT) X.env)] := by rfl) :
    wE X (.Call (.Name "isinstance" p) [a, .Name x pT] [] pos) σ H Q :=
  e_B (id := "isinstance") (a_cons (wE_mono h fun v H1 ⟨r, dx, fs, e1, h1, q⟩ => a_cons (e_glob (v := .ref C) (a_nil (cW_of (call_isC c) ⟨r, dx, fs, by rw [e1], h1, q⟩)) hT rfl hgT hdT) hs2) hs)
    B.isinstance PyProof.Rows.boot_isinstance hgl (by decide) (by decide) hs (by rw [hs2]; rfl)
theorem c_eqDict {d1 d2 : Addr} {kvs : List (Key × V)} (C : Cxt X k W) (h1 : H d1 = some (.dK kvs)) (h2 : H d2 = some (.dK kvs)) (nd : (kvs.map (·.1)).Nodup) (fl : ∀ p ∈ kvs, flatB p.2 = true) (q : Q (.bl true) H) : oW X (compareOp .Eq) (.ref d1) (.ref d2) H Q :=
  oW_of (op_eq_dict (by have := C.un; omega)) ⟨d1, d2, kvs, rfl, rfl, h1, h2, nd, fl, q⟩
end
theorem strOk_ascii {x : Str} (h : ∀ c ∈ x.cps.toList, c < 128) : PyData.strOk x = true := by
  simp only [PyData.strOk, Array.all_eq_true', decide_eq_true_eq]
  intro c hc
  have := h c (by simpa using hc)
  omega
end Z

set_option Elab.async false
set_option linter.all false
set_option maxRecDepth 100000
set_option maxHeartbeats 4000000
/-! names set in pairs and threes -/
namespace Z
open PySem PySem.Spec PyProof.Rows L2
section
variable {X : Cx} {k : Nat} {W : WX} {σ : L2.St} {H : Hp} {a b c : Expr} {x y z : Str} {px py pz pt pt2 pos : Pos} {kt k2}
theorem s_par {D : Ends} {i j : Nat} (C : Cxt X k W) (h : wA X [a, b] σ H fun vs H1 => ∃ v w, vs = [v, w] ∧ D.nx ((σ.set i (some v)).set j (some w)) H1) (hi : X.N[i]? = some x := by rfl) (hj : X.N[j]? = some y := by rfl) (hij : i ≠ j := by decide)
    (hx : X.env.scope.names.lookup x = some .local := by rfl) (hy : X.env.scope.names.lookup y = some .local := by rfl)
    (hw : swappedStores [.Tuple [.Name x px, .Name y py] kt pt] (.Tuple [a, b] k2 pt2) X.env = pure (some [x, y]) := by rfl)
    (hs : swapsWithSole [.Tuple [.Name x px, .Name y py] kt pt] (.Tuple [a, b] k2 pt2) pos.line X.env = pure false := by rfl) : wS X (.Assign [.Tuple [.Name x px, .Name y py] kt pt] (.Tuple [a, b] k2 pt2) pos) D σ H :=
  eS (ps_par C.calm C.nd hi hj hij hx hy pA hw hs) h
theorem s_par3 {D : Ends} {i j l : Nat} (C : Cxt X k W) (h : wA X [a, b, c] σ H fun vs H1 => ∃ u v w, vs = [u, v, w] ∧ D.nx (((σ.set i (some u)).set j (some v)).set l (some w)) H1) (hi : X.N[i]? = some x := by rfl) (hj : X.N[j]? = some y := by rfl) (hl : X.N[l]? = some z := by rfl)
    (hij : i ≠ j := by decide) (hil : i ≠ l := by decide) (hjl : j ≠ l := by decide) (hx : X.env.scope.names.lookup x = some .local := by rfl) (hy : X.env.scope.names.lookup y = some .local := by rfl) (hz : X.env.scope.names.lookup z = some .local := by rfl)
    (hw : swappedStores [.Tuple [.Name x px, .Name y py, .Name z pz] kt pt] (.Tuple [a, b, c] k2 pt2) X.env = pure (some [x, y, z]) := by rfl)
    (hs : swapsWithSole [.Tuple [.Name x px, .Name y py, .Name z pz] kt pt] (.Tuple [a, b, c] k2 pt2) pos.line X.env = pure false := by rfl) : wS X (.Assign [.Tuple [.Name x px, .Name y py, .Name z pz] kt pt] (.Tuple [a, b, c] k2 pt2) pos) D σ H :=
  eS (ps_par3 C.calm C.nd hi hj hl hij hil hjl hx hy hz pA hw hs) h
end
end Z

set_option Elab.async false
set_option linter.all false
set_option maxRecDepth 100000
set_option maxHeartbeats 4000000
/-! what the head's facts give: tuples and dicts of the text, classes -/
namespace Z
open PySem PySem.Spec PyProof.Rows L2
section
variable {w : World} {K : PySem.W.Frag} {mg : Str → Option Value} {h : Heap}
theorem sqt_mk {a : Addr} {its : Array Value} {n : Nat} {dd : Option Addr} {sl : Array (Option Value)} {xs : List V} (l : K.lookup a = some ⟨.type "tuple", dd, .seq its n, sl⟩) (v : Vals xs its.toList) (z : its.size ≤ 16777216) : ∀ H, SqT K H a xs :=
  fun H => .inr ⟨_, its, n, l, rfl, rfl, by rw [sizeLine_eq]; exact z, v⟩
theorem kdct_mk {a : Addr} {x : Str} {v : V} {u : Value} {es : Array DictEntry} {n : Nat} (l : K.lookup a = some ⟨.type "dict", none, .dict es n, #[]⟩) (kl : PySem.W.KeysLit w.params es.toList) (e : PySem.W.nsIn K a x = some (some u)) (r : RelV v u) : KDct K w a x v := ⟨es, n, u, l, kl, e, r⟩
end
end Z

set_option Elab.async false
set_option linter.all false
set_option maxRecDepth 100000
set_option maxHeartbeats 4000000
/-! enumerate of a tuple -/
namespace Z
open PySem PySem.Spec PyProof.Rows L2
open AutoSeq1 (wpAny_loadPart')
theorem meets_enumerate_new1 (t : Addr) (items : Array Value) (n : Nat) (dct : Option Addr) (sl : Array (Option Value)) :
    Meets (Builtin.«enumerate.__new__» ⟨[.type "enumerate", .ref t], []⟩) (fun _ R s => s.heap.get? t = some { cls := .type "tuple", dict := dct, data := .seq items n, slots := sl } ∧
      R (.ok (.ret (.ref (s.heap.push { cls := .type "tuple_iterator", data := .fields #[.ref t, .int 0 0] }).objs.size)))
        { s with heap := (s.heap.push { cls := .type "tuple_iterator", data := .fields #[.ref t, .int 0 0] }).push { cls := .type "enumerate", data := .fields #[.none, .bool false, .ref s.heap.objs.size, rawInt 0, .none, .none] } }) :=
  .of_wp fun prog w A R s h => by
    obtain ⟨hp, g, d, tk, os⟩ := s; obtain ⟨hl, h⟩ := h
    have hsub := sub_enumerate
    have hL : Heap.IsTuple (Shared.heap ⟨hp, g, d, tk, os⟩) t items := ⟨_, hl, rfl, n, rfl⟩
    wp_walk using wpAny_loadPart' hl
    refine wpAny_stack_any fun st => wpAny_pure ?_
    split
    · rename_i c _ _ _ _ _
      cases (c == Value.type "enumerate")
      · wp_walk using wpAny_loadPart' hl, wpAny_pyIter_tuple hL
        exact ⟨_, rfl, h⟩
      · wp_walk using wpAny_loadPart' hl, wpAny_pyIter_tuple hL
        exact ⟨_, rfl, h⟩
    · wp_walk using wpAny_loadPart' hl, wpAny_pyIter_tuple hL
      exact ⟨_, rfl, h⟩
section
variable {prog : Program} {w : World} {A : Around} {E : Value → Shared → Prop} {s : Shared}
theorem call_enumerate_tuple {t : Addr} {items : Array Value} {Q : Value → Shared → Prop} (hL : s.heap.IsTuple t items)
    (h : ∀ h', IsEnum h' (s.heap.objs.size + 1) s.heap.objs.size 0 .none → h'.IsTupleIter s.heap.objs.size t 0 → h'.objs.size = s.heap.objs.size + 2 →
      (∀ b o, s.heap.get? b = some o → h'.get? b = some o) → Q (.ref (s.heap.objs.size + 1)) { s with heap := h' }) :
    wpAny (model prog w) A (call (.type "enumerate") [.ref t]) Q E s := by
  obtain ⟨⟨c, dct, dt, sl⟩, hl, hc, n, hd⟩ := hL
  replace hc : c = .type "tuple" := hc
  replace hd : dt = .seq items n := hd
  subst hc hd
  refine callType_new F.called_enumerate (by decide) (F.typeCall_enumerate_1 _) (F.newCall_enumerate_1 _) (fun obj => F.args_object_init_2 obj _) F.entry_enumerate_new
    (meets_enumerate_new1 t items n dct sl) ⟨hl, ?_⟩
  have hz : (s.heap.push { cls := .type "tuple_iterator", data := .fields #[.ref t, .int 0 0] }).objs.size = s.heap.objs.size + 1 := Heap.size_push ..
  show _ ∧ _
  rw [hz]
  have he : IsEnum ((s.heap.push { cls := .type "tuple_iterator", data := .fields #[.ref t, .int 0 0] }).push
      { cls := .type "enumerate", data := .fields #[.none, .bool false, .ref s.heap.objs.size, rawInt 0, .none, .none] }) (s.heap.objs.size + 1) s.heap.objs.size 0 .none := by
    have := Heap.get?_push_size (s.heap.push { cls := .type "tuple_iterator", data := .fields #[.ref t, .int 0 0] })
      (o := { cls := .type "enumerate", data := .fields #[.none, .bool false, .ref s.heap.objs.size, rawInt 0, .none, .none] }) rfl
    rw [hz] at this; exact this
  refine ⟨⟨_, he, rfl⟩, h _ he ⟨_, Heap.get?_push_of_some _ (Heap.get?_push_size _ rfl), rfl, rfl⟩ (by rw [Heap.size_push, hz]) fun b o x => Heap.get?_push_of_some _ (Heap.get?_push_of_some _ x)⟩
end
theorem wpAny_pyNext_enum_endT {prog : Program} {w : World} {A : Around} {E : Value → Shared → Prop} {s : Shared} {e it t : Addr} {i : Nat} {items : Array Value} {old : Value} {Q : Option Value → Shared → Prop} (hh : A.handled = none)
    (he : IsEnum s.heap e it ((i : Nat) : Int) old) (hit : s.heap.IsTupleIter it t i) (ht : s.heap.IsTuple t items) (hx : items[i]? = none)
    (hQ : ∀ h', Heap.ExtBut it s.heap h' → Q none { s with heap := h' }) : wpAny (model prog w) A (pyNext (.ref e)) Q E s := by
  have hT : s.TypeIs (.ref e) "enumerate" := ⟨_, he, rfl⟩
  unfold pyNext
  refine wpAny_bind (wpAny_attempt (wpAny_callSpecial?_slot (name := Str.ofString "__next__") hT F.slot_enumerate_next
    (wpAny_call_entry F.slot_enumerate_next hT F.entry_enumerate_next ?_ (F.args_enumerate_next_1 _))))
  show wpAny _ _ (field (.ref e) 2 >>= _) _ _ _
  refine wpAny_bind (wpAny_field he rfl (x := .ref it) rfl ?_)
  refine wpAny_bind (wpAny_nextOf_tuple_end (show A.in1.handled = none from hh) hit ht hx fun h' x he' hx' => ?_)
  obtain ⟨o, ho, hc⟩ := hx'
  refine wpAny_bind (wpAny_isInstance (T := "StopIteration") (b := true) ⟨o, ho, hc⟩ isSubtype_stop ?_)
  exact wpAny_pure (hQ _ he')
/-- the tuple at a, its items in new pairs -/
def Itet (K : PySem.W.Frag) (a : Addr) : It :=
  ⟨fun i H => ∃ (xs : List V) (x : V), SqT K H a xs ∧ xs[i]? = some x, fun i H v H' => ∃ T x, v = .ref T ∧ H T = none ∧ H' = upd H T (.tup [.int (i : Nat), x]) ∧ ∀ xs, SqT K H a xs → xs[i]? = some x, fun i H => ∃ xs : List V, SqT K H a xs ∧ xs.length ≤ i⟩
theorem tup_ne {h : Heap} {a b : Addr} {items : Array Value} {o : Obj} (ha : IsTup h a items) (hb : h.get? b = some o) (n : ¬ o.cls = .type "tuple") : a ≠ b := fun z => by
  obtain ⟨o', e, c, _⟩ := ha
  rw [z, hb] at e
  cases e
  exact n c
theorem turn_enumT {P : Program} {w : World} {K : PySem.W.Frag} {elts : List Expr} {kk : Nat} {tpos : Pos} (a e it : Addr) :
    Turn P w K (.Tuple elts kk tpos) (Itet K a) [e, it] e (fun i h => (∃ old, IsEnum h e it ((i : Nat) : Int) old) ∧ h.IsTupleIter it a i ∧ e ≠ it) where
  mem := by simp
  obj := fun i h st b hb => by
    obtain ⟨⟨old, he⟩, ⟨o, ho, hc, hd⟩, _⟩ := st
    have e' : b = e ∨ b = it := by simpa using hb
    rcases e' with z | z
    · rw [z]; exact ⟨_, he, fun v q => nomatch q⟩
    · rw [z]; exact ⟨o, ho, fun v q => by rw [hd] at q; cases q⟩
  keep := fun i h h' st k => let ⟨⟨old, he⟩, hi, hne⟩ := st; ⟨⟨old, k e (by simp) _ he⟩, hi.at fun o q => k it (by simp) o q, hne⟩
  item := by
    intro X hP hw hK hc i pins s σ H E I hf st hg
    subst hP hw hK
    obtain ⟨⟨old, he⟩, hit, hne⟩ := st
    obtain ⟨xs, x, hq, hx⟩ := hg
    obtain ⟨its, rv, p, hz⟩ := I.tuple hq
    obtain ⟨u, hu, ru⟩ := rv.get hx
    have hel : e < s.heap.objs.size := Heap.lt_size he
    have hil : it < s.heap.objs.size := by obtain ⟨_, q, _⟩ := hit; exact Heap.lt_size q
    have nae : a ≠ e := tup_ne p he (fun z => absurd (Value.type.inj z) (by decide))
    have nai : a ≠ it := by
      obtain ⟨oi, hoi, hci, _⟩ := hit
      exact tup_ne p hoi (by rw [hci]; exact fun z => absurd (Value.type.inj z) (by decide))
    have hlt : i < its.toArray.size := by
      have := (List.getElem?_eq_some_iff.mp hu).1
      simpa using this
    refine wpAny_pyNext_enum_itemC (Draws.tuple (show X.A.in1.handled = none from I.ok.hd hc) it a nai its.toArray) he ⟨hit, p⟩ hlt hne (by simp [hne, nae.symm]) fun x' h' tk hP ho hst' hT hsz hk => ?_
    obtain ⟨hit', p'⟩ := hst'
    have hxu : x' = u := by
      have h1 : its.toArray[i]? = some x' := hP
      rw [← Array.getElem?_toList] at h1
      rw [show its.toArray.toList = its from by simp, hu] at h1
      exact (Option.some.inj h1).symm
    subst hxu
    refine ⟨_, rfl, wpAny_letOwnedTupleGo_enum (s := { s with heap := h', toks := tk + 1 }) ho fun h'' he' sb => ?_⟩
    have hT2 : h''.get? s.heap.objs.size = some { cls := .type "tuple", data := .seq #[.int i tk, x'] } := (sb.2 _ (Nat.ne_of_gt hel)).trans hT
    have new : ObjOk X.prog X.w (upd H s.heap.objs.size (.tup [.int (i : Nat), x])) h'' s.heap.objs.size (.tup [.int (i : Nat), x]) :=
      ⟨by show 2 ≤ sizeLine; decide, [.int i tk, x'], .cons ⟨_, rfl⟩ (.cons ru .nil), ⟨_, hT2, rfl, _, rfl⟩⟩
    have I1 : Inv X pins σ (upd H s.heap.objs.size (.tup [.int (i : Nat), x])) { s with heap := h'', toks := tk + 1 } :=
      I.turnedNew (ch := [e, it]) (fun b ob hb q => (sb.2 b (fun z => hb (by simp [z]))).trans (hk b ob (fun z => hb (by simp [z])) (fun z => hb (by simp [z])) q)) hf (Nat.le_refl _) new
    refine ⟨.ref s.heap.objs.size, _, I1, rfl, ⟨_, x, rfl, I.hok.fresh (Nat.le_refl _), rfl, fun ys hy => by rw [I.tuple_inj hy hq]; exact hx⟩, ⟨⟨x', ?_⟩, hit'.at fun o q => (sb.2 it (Ne.symm hne)).trans q, hne⟩, fun b hb => ?_⟩
    · have e1 : ((i + 1 : Nat) : Int) = (i : Int) + 1 := by omega
      rw [e1]; exact he'
    · have hb' : b < s.heap.objs.size := by
        have e' : b = e ∨ b = it := by simpa using hb
        rcases e' with z | z
        · rw [z]; exact hel
        · rw [z]; exact hil
      rw [upd_ne (Nat.ne_of_lt hb')]
      exact (hf b hb).1
  done := by
    intro X hP hw hK hc i pins s σ H E I hf st hg
    subst hP hw hK
    obtain ⟨⟨old, he⟩, hit, hne⟩ := st
    obtain ⟨xs, hq, hx⟩ := hg
    obtain ⟨its, rv, p, hz⟩ := I.tuple hq
    obtain ⟨f0, f1, f2, f3, f4, f5⟩ := hf it (by simp)
    have hl := rv.length
    exact wpAny_pyNext_enum_endT (I.ok.hd hc) he hit p (by simp; omega) fun h' eb => ⟨rfl, I.turned (t' := s.toks) (fun b o hb q => eb b o hb q) f0 f1 f3 f4 f5⟩
  self := fun A i s Q E st h => let ⟨⟨_, he⟩, _⟩ := st; wpAny_pyIter_enum he h
def iEnumT (K : PySem.W.Frag) (ta : TA) : TI := fun σ H R => ta σ H fun vs H1 => ∃ a xs, vs = [.ref a] ∧ SqT K H1 a xs ∧ R (Itet K a) H1
theorem pi_enumT {X : Cx} {e : Expr} {ta : TA} {p pos tpos : Pos} {elts : List Expr} {kk : Nat} (hg : Gl X "enumerate") (hm : X.mg "enumerate" = none) (ha : PA X [e] ta) (hs : starEach [e] X.env = [(false, eval e X.env)] := by rfl) :
    PI X (.Tuple elts kk tpos) (.Call (.Name "enumerate" p) [e] [] pos) (iEnumT X.K ta) := by
  refine ⟨fun pins s σ H R I h => ?_⟩
  refine Call_ (ld_blt I hg hm boot_enumerate (PyProof.Rows.callWith_type1 (thn (ha.run pos pins s σ H _ I h) fun us s1 ⟨vs, H1, I1, r1, q1⟩ => ?_) hs rfl))
  obtain ⟨a, xs, ex, hq, q⟩ := q1
  subst ex
  cases r1 with
  | cons r rr =>
    cases rr
    cases r
    obtain ⟨its, rv, p', hz⟩ := I1.tuple hq
    refine call_enumerate_tuple (show s1.heap.IsTuple a its.toArray from p') fun h' he hit hsz hk => wpAny_pyIter_enum he ?_
    have I2 : Inv X pins σ H1 { s1 with heap := h' } := I1.kept (t' := s1.toks) hk
    refine ⟨s1.heap.objs.size + 1, [s1.heap.objs.size + 1, s1.heap.objs.size], _, _, H1, rfl, I2, turn_enumT a (s1.heap.objs.size + 1) s1.heap.objs.size, ⟨⟨.none, he⟩, hit, Nat.succ_ne_self _⟩, fun b hb => ?_, q⟩
    have e' : b = s1.heap.objs.size + 1 ∨ b = s1.heap.objs.size := by simpa using hb
    have hle : s1.heap.objs.size ≤ b := by
      rcases e' with z | z
      · rw [z]; exact Nat.le_add_right _ _
      · rw [z]; exact Nat.le_refl _
    exact I1.fpOk hle (I1.hok.fresh hle)
theorem walk_enumT {K : PySem.W.Frag} {a : Addr} {xs : List V} : Walk (Itet K a) xs.length (fun H => SqT K H a xs) (YPair (fun i => some (.int (i : Nat))) (fun i => xs[i]?)) := by
  refine ⟨fun i _ hi q => ⟨xs, xs[i], q, by simp [hi]⟩, fun _ q => ⟨xs, q, Nat.le_refl _⟩, fun i H v H' _ q y => ?_⟩
  obtain ⟨T, x, h1, h2, h3, h4⟩ := y
  exact ⟨T, .int (i : Nat), x, h1, h2, h3, rfl, h4 xs q⟩
section
variable {X : Cx} {σ : L2.St} {H : Hp} {e : Expr} {elts : List Expr} {kk : Nat} {p pos tpos : Pos}
theorem i_enumT {R : It → Hp → Prop} (B : Blt X.mg X.base) (h : wE X e σ H fun v H1 => ∃ a xs, v = .ref a ∧ SqT X.K H1 a xs ∧ R (Itet X.K a) H1) (hg : Gl X "enumerate" := by rfl) (hs : starEach [e] X.env = [(false, eval e X.env)] := by rfl) :
    wI X (.Tuple elts kk tpos) (.Call (.Name "enumerate" p) [e] [] pos) σ H R :=
  eI (pi_enumT hg B.enumerate pA hs) (a_cons (wE_mono h fun v H1 ⟨a, xs, e1, h1, r⟩ => a_nil ⟨a, xs, by rw [e1], h1, r⟩) hs)
end
end Z

set_option Elab.async false
set_option linter.all false
set_option maxRecDepth 100000
set_option maxHeartbeats 4000000
/-! a lambda with one parameter, handed to a def as its second argument -/
namespace Z
open PySem PySem.Spec PyProof.Rows L2 LamX NdefX
abbrev lamF (X : Cx) (params : Arguments) (scope : Scope) (c' : Addr) : NF := ⟨"<lambda>", X.env.qual ++ "<lambda>", params, [], scope, cloFrom X.env.cells scope.names [], c'⟩
/-- the context of the lambda's body -/
abbrev lam1Cx (X : Cx) (N : List Str) (A : Around) (outer : List Env) (s : Shared) (H : Hp) (E : XK) (params : Arguments) (scope : Scope) (f c' : Addr) : Cx := ncx (L2.CX X.prog X.w) X.prog X.w X.K X.mg X.base N (lamF X params scope c') f A outer s H E
section
variable {X : Cx} {pins : List (Addr × Obj)} {σ : L2.St} {H : Hp} {s : Shared} {k : Nat} {W : WX}
theorem cells_un {fs : List Addr} {cl : List (Str × Addr)} {fr : List Str} {ws : List (Option V)} {h h' : Heap} {H H' : Hp} (C : CellsAt cl fr ws h H) (un : Un fs [] H H' h h') : CellsAt cl fr ws h' H' := by
  have kp : ∀ {c : Addr} {v : Option Value}, H c = none → h.IsCell c v → h'.IsCell c v := fun {c v} n ⟨o, ho, hd⟩ => by
    obtain ⟨sl, q⟩ := un.any ho n (by simp)
    exact ⟨_, q, hd⟩
  refine ⟨C.len, fun y c e => ?_, C.inj, fun i y e => ?_⟩
  · obtain ⟨n, v, z⟩ := C.all y c e
    refine ⟨?_, v, kp n z⟩
    obtain ⟨o, ho, _⟩ := z
    exact un.free c o ho n (by simp)
  · obtain ⟨c, hc, hv⟩ := C.has i y e
    refine ⟨c, hc, fun v ev => ?_⟩
    obtain ⟨u, r, z⟩ := hv v ev
    exact ⟨u, r, kp (C.all y c hc).1 z⟩
/-- the lambda is called -/
theorem e_act1 {Ng N fr : List Str} {js : List Nat} {i : Nat} {x a pname : Str} {st : Stmt} {g f c' : Addr} {cdg pm ctv : Value} {params : Arguments} {body arg : Expr} {scope : Scope} {E0 E : XK} {p1 p2 : Pos} {σZ : L2.St} {HZ : Hp} {Q : VK}
    (C : Cxt X (k + 2) W) (I : Inv X pins σ H s) (S : NScope N [pname] fr scope) (cp : Caps X (cloFrom X.env.cells scope.names []) fr js) (hf : s.heap.get? f = some (PySem.W.kla_obj "<lambda>" (X.env.qual ++ "<lambda>") params body scope (cloFrom X.env.cells scope.names []) pm c' ctv)) (hfn : H f = none) (hfr : f ∉ frs X.stack)
    (hbind : ∀ u : Value, bindArgs (PySem.W.kla_fn "<lambda>" (X.env.qual ++ "<lambda>") params body scope (cloFrom X.env.cells scope.names []) pm (.ref c') ctv) ⟨[u], []⟩ = pure [(pname, u)])
    {W' : WX} (tk : Takes (hX X Ng x st g cdg s H E0) W') (hW : ∀ cls d σ' H', E cls d H' → W' cls d σ' H')
    (hN : Ng[i]? = some a) (hv : Vis (defScope st) a) (hd : (a == ("__debug__" : Str)) = false) (hcd : (a == ("__classdict__" : Str)) = false)
    (hs : σZ[i]? = some (some (.ref f)))
    (h : wE (hX X Ng x st g cdg s H E0) arg σZ HZ fun v HY => HY c' = some (CodeO c' (X.env.qual ++ "<lambda>")) ∧ ∀ (A : Around) (outer : List Env) (s' : Shared), Cxt (lam1Cx X N A outer s' HY E params scope f c') k (fun cls d _ H => E cls d H) → wE (lam1Cx X N A outer s' HY E params scope f c') body (startF N [v] (js.map (slotAt σ))) HY Q)
    (he : starEach [arg] (hX X Ng x st g cdg s H E0).env = (false, eval arg (hX X Ng x st g cdg s H E0).env) :: starEach [] (hX X Ng x st g cdg s H E0).env := by rfl) :
    wE (hX X Ng x st g cdg s H E0) (.Call (.Name a p1) [arg] [] p2) σZ HZ Q := by
  refine ⟨fun pinsZ sZ IZ => ?_⟩
  refine wpAny_Call_Name_kw (thn ((pe_var (pos := p1) (i := i) hN hv hd hcd).run pinsZ sZ σZ HZ (fun v H1 => v = .ref f ∧ H1 = HZ) IZ ⟨.ref f, hs, rfl, rfl⟩) fun u s1 ⟨v, H1, I1, r1, q1⟩ => ?_)
  obtain ⟨ev, eH⟩ := q1
  subst ev
  rw [eH] at I1
  obtain rfl : u = Value.ref f := r1
  have of1 : s1.heap.get? f = some (PySem.W.kla_obj "<lambda>" (X.env.qual ++ "<lambda>") params body scope (cloFrom X.env.cells scope.names []) pm c' ctv) := I1.base.keep f _ hf hfn hfr (fun z => nomatch (show f ∈ ([] : List Addr) from z))
  refine PySem.W.callWith_F (first := []) ⟨_, _, _, _, of1⟩ (thn ((a_cons (Q := fun vs H1 => ∃ v, vs = [v] ∧ H1 c' = some (CodeO c' (X.env.qual ++ "<lambda>")) ∧ ∀ (A : Around) (outer : List Env) (s' : Shared), Cxt (lam1Cx X N A outer s' H1 E params scope f c') k (fun cls d _ H => E cls d H) → wE (lam1Cx X N A outer s' H1 E params scope f c') body (startF N [v] (js.map (slotAt σ))) H1 Q) (wE_mono h fun v HY q => a_nil ⟨v, rfl, q⟩) he).run p2 pinsZ s1 I1) fun us s2 ⟨vs, H2, I2, r, v, ev, hc, hb⟩ => ?_) he rfl
  subst ev
  obtain ⟨u, rfl, ru⟩ := vals1 r
  have of2 : s2.heap.get? f = some (PySem.W.kla_obj "<lambda>" (X.env.qual ++ "<lambda>") params body scope (cloFrom X.env.cells scope.names []) pm c' ctv) := I2.base.keep f _ hf hfn hfr (fun z => nomatch (show f ∈ ([] : List Addr) from z))
  refine ⟨⟨_, _, _, _, of2⟩, ?_⟩
  show wpAny _ _ (call (.ref f) [u]) _ _ _
  have un : Un (frs X.stack) [] H H2 s.heap s2.heap := I2.base
  have CA : CellsAt (cloFrom X.env.cells scope.names []) fr (js.map (slotAt σ)) s2.heap H2 := cells_un (cells_of I cp) un
  obtain ⟨⟨oc, ws, t, hoc, hdc, hvc⟩, _, _⟩ := I2.hok c' _ hc
  have hr : Room (k + 1) (X.A.deeper (envOfC x (defScope st) s.heap.objs.size g cdg)) := C.room.deeper _
  have rc : codeAny (model X.prog X.w) (X.A.deeper (envOfC x (defScope st) s.heap.objs.size g cdg)) (.call (.ref f) ⟨[u], []⟩) (CR (L2.CX X.prog X.w) (envOfC x (defScope st) s.heap.objs.size g cdg :: X.stack) X.prog X.w H2 s2 Q E) s2 := by
    refine PySem.W.kla_callFunE hr.depth of2 rfl S.co S.gen rfl ⟨c', oc, ws, t, rfl, hoc, hdc, hvc⟩ ?_
    rw [hbind u]
    refine wpAny_pure (wpAny_newFunctionEnv S.nocell (fun y hy => S.par y.1 (by rw [List.mem_singleton.mp hy]; simp)) (fun h₁ hns hsb => ⟨I2.nolimit.fresh _ hsb, ?_⟩) S.kind)
    show codeAny _ _ (.expr body (envF (lamF X params scope c') f s2.heap.objs.size)) _ _
    have kp : ∀ b o, s2.heap.get? b = some o → h₁.get? b = some o := fun b o e => hsb.extBut b o (Nat.ne_of_lt (Heap.lt_size e)) (Heap.get?_push_of_some _ e)
    have J : Inv (lam1Cx X N (X.A.deeper (envOfC x (defScope st) s.heap.objs.size g cdg)) (envOfC x (defScope st) s.heap.objs.size g cdg :: X.stack) s2 H2 E params scope f c') [] (startF N [v] (js.map (slotAt σ))) H2 { s2 with heap := h₁, toks := s2.toks + ([(pname, u)] : List (Str × Value)).length } :=
      inv_startN (F := lamF X params scope c') (ps := [pname]) (us := [u]) S hr.hd I2.env0 rfl (.cons ru .nil) CA hns kp
    have CL : Cxt (lam1Cx X N (X.A.deeper (envOfC x (defScope st) s.heap.objs.size g cdg)) (envOfC x (defScope st) s.heap.objs.size g cdg :: X.stack) s2 H2 E params scope f c') k (fun cls d _ H' => E cls d H') :=
      ⟨hr.deeper _, rfl, S.nd, C.blt, passes_of rfl, takes_of rfl rfl rfl rfl⟩
    refine PySem.W.kla_codeExpr (wpAny_mono ((hb _ _ s2 CL).run [] _ J) (fun v s' hq => ?_) fun e s' hq => hq)
    obtain ⟨w', H', J', rv, q⟩ := hq
    exact ⟨w', H', J'.os, J'.bare, J'.base, J'.hok, rv, q⟩
  refine wpAny_call (codeAny_mono rc fun r s' hq => ?_)
  cases r with
  | error e => exact tk e s' (XE.of_call I2 (fun cls d H' h => hW cls d _ H' h) hq)
  | ok fl =>
    cases fl with
    | ret u => exact I2.after hq
    | next => exact False.elim hq
    | brk => exact False.elim hq
    | cont => exact False.elim hq
/-- x(e0, lambda p: body) -/
theorem e_lam2 {T : List (Addr × Str)} {x a b pname : Str} {st : Stmt} {c P : Addr} {Ng N fr : List Str} {js : List Nat} {params : Arguments} {body e0 : Expr} {scope : Scope} {p lpos pos : Pos} {Q : VK}
    (C : Cxt X (k + 2) W) (D : At X.K X.mg x st) (Sg : FnScope Ng [b, a] (defScope st)) (TB : TabB X.base X.mg c P) (hcode : X.env.code = .ref c) (hmT : (P, X.env.qual ++ "<lambda>") ∈ T) (hu : ∀ p ∈ T, p.1 = P → p.2 = X.env.qual ++ "<lambda>")
    (S : NScope N [pname] fr scope) (hB : ndefB X.env.scope scope fr = true) (hjs : js.map (fun j => X.N[j]?) = fr.map some)
    (h : wE X e0 σ H fun v0 H0 => Tabs T H0 ∧ ∀ (g : Addr) (cdg : Value) (f c' : Addr) (s : Shared) (H1 : Hp), ExtN H0 H1 → Tabs T H1 → H1 c' = some (CodeO c' (X.env.qual ++ "<lambda>")) →
      Cxt (hX X Ng x st g cdg s H1 (fun cls d H' => W cls d σ H')) (k + 1) (fun cls d _ H' => W cls d σ H') →
      (∀ (E : XK) (σZ : L2.St) (HZ : Hp) (Q' : VK) (arg : Expr) (p1 p2 : Pos), (∀ cls d H', E cls d H' → W cls d σ H') → σZ[1]? = some (some (.ref f)) →
        (starEach [arg] (hX X Ng x st g cdg s H1 (fun cls d H' => W cls d σ H')).env = (false, eval arg (hX X Ng x st g cdg s H1 (fun cls d H' => W cls d σ H')).env) :: starEach [] (hX X Ng x st g cdg s H1 (fun cls d H' => W cls d σ H')).env) →
        wE (hX X Ng x st g cdg s H1 (fun cls d H' => W cls d σ H')) arg σZ HZ (fun v HY => HY c' = some (CodeO c' (X.env.qual ++ "<lambda>")) ∧ ∀ (A : Around) (outer : List Env) (s' : Shared), Cxt (lam1Cx X N A outer s' HY E params scope f c') k (fun cls d _ H => E cls d H) → wE (lam1Cx X N A outer s' HY E params scope f c') body (startF N [v] (js.map (slotAt σ))) HY Q') →
        wE (hX X Ng x st g cdg s H1 (fun cls d H' => W cls d σ H')) (.Call (.Name a p1) [arg] [] p2) σZ HZ Q') →
      wB (hX X Ng x st g cdg s H1 (fun cls d H' => W cls d σ H')) (defBody st) { nx := fun _ H' => Q .non H', rt := Q } (start Ng [v0, .ref f]) H1)
    (hN : Ng[1]? = some a := by rfl) (hv : Vis (defScope st) a := by first | exact Or.inl rfl | exact Or.inr (Or.inl rfl) | exact Or.inr (Or.inr rfl)) (hg : Gl X x := by rfl) (hdef : defaultsOf params X.env = ([], []) := by rfl)
    (hbl : ∀ (q : Str) (cl : List (Str × Addr)) (pm cv ctv u : Value), bindArgs (PySem.W.kla_fn "<lambda>" q params body scope cl pm cv ctv) ⟨[u], []⟩ = pure [(pname, u)] := by intros; rfl)
    (hbind : ∀ (kV doc pm : Value) (an : Option Addr) (cdv ct : Value) (us : List Value), us.length = ([b, a] : List Str).length → bindArgs (PySem.W.fnOf x x (defArgs st) (defBody st) (defScope st) .none kV doc pm an cdv ct) ⟨us, []⟩ = pure (([b, a] : List Str).zip us) := by exact fun _ _ _ _ _ _ us hl => match us, hl with | [_, _], _ => rfl)
    (hdb : (x == ("__debug__" : Str)) = false := by decide) (hd : (a == ("__debug__" : Str)) = false := by decide) (hcd : (a == ("__classdict__" : Str)) = false := by decide)
    (he : starEach [e0, .Lambda params body scope lpos] X.env = (false, eval e0 X.env) :: starEach [.Lambda params body scope lpos] X.env := by rfl) :
    wE X (.Call (.Name x p) [e0, .Lambda params body scope lpos] [] pos) σ H Q := by
  refine ⟨fun pins s I => ?_⟩
  obtain ⟨g, fd, hm, F⟩ := D.ex
  obtain ⟨oc, od, kV, doc, pm, an, cdg, ct, osl, rfl, lk, hcd2⟩ := F.ex
  refine wpAny_Call_Name_kw (ld_glob I hg hm ?_ hdb)
  refine PySem.W.callWith_K (h₀ := X.base) I.ok.mod.kin F.kp ?_ he (by rfl)
  rw [he]
  show wpAny _ _ (spliced ((false, eval e0 X.env) :: backTo pos (starEach [.Lambda params body scope lpos] X.env))) _ _ s
  refine Calls.spliced_cons (thn (h.run pins s I) fun u0 s0 ⟨v0, H0, I0, r0, hT, h⟩ => ?_)
  show wpAny _ _ (spliced ((false, eval (.Lambda params body scope lpos) X.env) :: backTo pos (starEach [] X.env))) _ _ s0
  have hfree : ∀ y ∈ scope.names, y.2 = .free → ∃ c, X.env.cells.lookup y.1 = some c := fun y hy e => (ndef_free hB y hy e).elim (fun z => I0.ok.has _ (.inl z)) fun z => I0.ok.has _ (.inr z)
  refine Calls.spliced_cons (lam_make2 I0 TB hcode hmT hu hT hdef hfree fun f c' pm' ctv H1 s' I1 eN T1 hf hfn hfr hco => ?_)
  refine Calls.spliced_nil ⟨I1.kIn, ?_⟩
  have cp : Caps X (cloFrom X.env.cells scope.names []) fr js := Caps.made I1.ok (ndef_free hB) (ndef_fr hB) hjs
  have rc : codeAny (model X.prog X.w) X.A (.call (.ref g) ⟨[u0, .ref f], []⟩) (CR (L2.CX X.prog X.w) X.stack X.prog X.w H1 s' Q (fun cls d H' => W cls d σ H')) s' := by
    refine run_ofS (N := Ng) (ps := [b, a]) (us := [u0, .ref f]) (vs := [v0, .ref f]) lk hcd2 Sg (C.room.mono (show k + 1 + 1 ≤ k + 2 from Nat.le_refl _)) I1.env0 (.of_eq (hbind kV doc pm an cdg ct [u0, .ref f] rfl)) (.cons r0 (.cons rfl .nil)) rfl fun hr' => ?_
    have CZ : Cxt (hX X Ng x st g cdg s' H1 (fun cls d H' => W cls d σ H')) (k + 1) (fun cls d _ H' => W cls d σ H') := ⟨hr', rfl, Sg.nd, C.blt, passes_of rfl, takes_of rfl rfl rfl rfl⟩
    refine ⟨wB _ (defBody st), pB, h g cdg f c' s' H1 eN T1 hco CZ fun E σZ HZ Q' arg p1 p2 hW hs hst hh => ?_⟩
    exact e_act1 C I1 S cp hf hfn hfr (hbl _ _ _ _ _) CZ.tk (fun cls d σ' H' z => hW cls d H' z) hN hv hd hcd hs hh hst
  refine wpAny_call (codeAny_mono rc fun r s2 hq => ?_)
  cases r with
  | error e => exact C.tk e s2 (XE.of_call I1 (fun _ _ _ z => z) hq)
  | ok fl =>
    cases fl with
    | ret u => exact I1.after hq
    | next => exact False.elim hq
    | brk => exact False.elim hq
    | cont => exact False.elim hq
end
end Z

set_option Elab.async false
set_option linter.all false
set_option maxRecDepth 100000
set_option maxHeartbeats 4000000
/-! more rules: lists of ranges, reversed slices, texts times numbers, dicts made of pairs, comprehensions of two fors -/
namespace Z
open PySem PySem.Spec PyProof.Rows L2
section
variable {X : Cx} {k : Nat} {W : WX} {σ : L2.St} {H : Hp} {e a b c o elt tg iter tg1 iter1 : Expr} {es : List Expr} {p p2 pos apos pos2 : Pos} {Q : VK} {scope : Scope}
/-- xs[::-1] -/
theorem e_rev {kk : Nat} {p1 p2 p3 pos : Pos} (h : wE X e σ H fun x H1 => ∃ a xs, x = .ref a ∧ SqL X.K H1 a xs ∧ ∀ p, H1 p = none → Q (.ref p) (upd H1 p (.lst xs.reverse))) : wE X (.Subscript e (.Slice none none (some (.UnaryOp .USub (.Constant (.int 1) kk p1) p2)) p3) pos) σ H Q := eE (pe_revL pE) h
/-- the ints from i on, n of them, by steps of d -/
def rgD (i d : Int) (n : Nat) : List V := (List.range n).map fun t => V.int (i + (t : Nat) * d)
/-- list(range(a, b, c)) -/
theorem e_listRg3 (C : Cxt X k W) (h : wA X [a, b, c] σ H fun vs H1 => ∃ (i j d : Int) (n : Nat), vs = [.int i, .int j, .int d] ∧ d ≠ 0 ∧ Builtin.Range.small i j d = true ∧ Builtin.Range.rangeSize i j d = n ∧ n ≤ 2 ^ 24 ∧ Builtin.divisionGoesByPylong (j - i) d = false ∧ ∀ q, H1 q = none → Q (.ref q) (upd H1 q (.lst (rgD i d n))))
    (hg : Gl X "list" := by rfl) (hg2 : Gl X "range" := by rfl) (na : starEach [.Call (.Name "range" p2) [a, b, c] [] pos2] X.env = (false, eval (.Call (.Name "range" p2) [a, b, c] [] pos2) X.env) :: starEach [] X.env := by rfl)
    (hs : starEach [a, b, c] X.env = (false, eval a X.env) :: starEach [b, c] X.env := by rfl) (hpl : (backTo pos2 (starEach [b, c] X.env)).any (·.1) = false := by rfl) :
    wE X (.Call (.Name "list" p) [.Call (.Name "range" p2) [a, b, c] [] pos2] [] pos) σ H Q := by
  refine ⟨fun pins s I => ?_⟩
  refine Call_ (ld_blt I hg C.blt.list PyProof.Rows.boot_list (PyProof.Rows.callWith_type1 (args_cons ?_ na) na))
  refine Call_ (ld_blt I hg2 C.blt.range PyProof.Rows.boot_range (PyProof.Rows.callWith_type1 (thn (h.run pos2 pins _ I) fun us s1 ⟨vs, H1, I1, r1, q1⟩ => ?_) hs hpl))
  obtain ⟨i, j, d, n, ex, hd, hsm, hsz, hn, hdv, q⟩ := q1
  subst ex
  obtain ⟨u1, u2, u3, rfl, ⟨t1, rfl⟩, ⟨t2, rfl⟩, ⟨t3, rfl⟩⟩ : ∃ u1 u2 u3, us = [u1, u2, u3] ∧ RelV (.int i) u1 ∧ RelV (.int j) u2 ∧ RelV (.int d) u3 := by
    cases r1 with
    | cons r1 r =>
      cases r with
      | cons r2 r =>
        cases r with
        | cons r3 r =>
          cases r
          exact ⟨_, _, _, rfl, r1, r2, r3⟩
  refine call_range_3 hd (args_nil ?_) (.inl hdv)
  have I2 : Inv X pins σ H1 { s1 with heap := s1.heap.push { cls := .type "range", data := .fields #[.int i t1, .int j t2, .int d t3] } } := I1.kept (t' := s1.toks) fun b u e => Heap.get?_push_of_some _ e
  refine call_list_range (n := n) (I2.ok.hd C.calm) (IsRange.new _ _ _ _ _ _ _) hsm hsz hn fun h' tk acc c' hk e' hi => ?_
  refine ⟨.ref _, _, I2.laid (o := .lst (rgD i d n)) hk (Nat.le_refl _) ⟨?_, acc.toList, c', ?_, ?_⟩, rfl, q _ (I2.hok.fresh (Nat.le_refl _))⟩
  · rw [rgD, List.length_map, List.length_range, sizeLine_eq]; omega
  · have e : acc.toList.length = n := by rw [Array.length_toList]; exact hi.1
    unfold rgD
    rw [← e]
    refine vals_of_get acc.toList _ fun j u hj => ?_
    obtain ⟨t, rfl⟩ := hi.2 j u (by rw [← hj, Array.getElem?_toList])
    exact ⟨t, rfl⟩
  · rw [Array.toArray_toList]; exact e'
/-- list(range(a, b)) -/
theorem e_listRg2 (C : Cxt X k W) (h : wE X a σ H fun x H1 => wE X b σ H1 fun y H2 => ∃ i j : Int, x = .int i ∧ y = .int j ∧ RgOk i j ∧ ∀ q, H2 q = none → Q (.ref q) (upd H2 q (.lst (rgV i j))))
    (hg : Gl X "list" := by rfl) (hg2 : Gl X "range" := by rfl) (na : starEach [.Call (.Name "range" p2) [a, b] [] pos2] X.env = (false, eval (.Call (.Name "range" p2) [a, b] [] pos2) X.env) :: starEach [] X.env := by rfl)
    (hs : starEach [a, b] X.env = (false, eval a X.env) :: starEach [b] X.env := by rfl) (hs2 : starEach [b] X.env = (false, eval b X.env) :: starEach [] X.env := by rfl) (hpl : (backTo pos2 (starEach [b] X.env)).any (·.1) = false := by rfl) :
    wE X (.Call (.Name "list" p) [.Call (.Name "range" p2) [a, b] [] pos2] [] pos) σ H Q :=
  eE (pe_listRg C.calm hg C.blt.list (prg_2 hg2 C.blt.range pE pE hs hs2 hpl) na) (wE_mono h fun x H1 q => wE_mono q fun y H2 ⟨i, j, e1, e2, ok, q⟩ => ⟨i, j, e1, e2, ok, q⟩)
/-- x.startswith(y) -/
theorem e_starts (h : wE X o σ H fun x H1 => ∃ s : Str, x = .str s ∧ wE X a σ H1 fun y H2 => ∃ t : Str, y = .str t ∧ Q (.bl (Txt.startswith s t)) H2)
    (hs : starEach [a] X.env = [(false, eval a X.env)] := by rfl) (hbase : attributeBase o "startswith" X.env (eval o X.env) = eval o X.env := by rfl) (hline : (apos.endLine == pos.line) = true := by rfl)
    (hfew : ((backTo pos (starEach [a] X.env)).all (fun x => !x.1) && (backToKw pos (keywordEach [] X.env)).all (fun x => x.1.isSome) && decide (([a] : List Expr).length + ([] : List Keyword).length + (if ([] : List Keyword).isEmpty then 0 else 1) < 30)) = true := by rfl) :
    wE X (.Call (.Attribute o "startswith" apos) [a] [] pos) σ H Q :=
  eE (pe_bm PySem.F.plainAttrs_str PySem.F.slot_str_startswith PySem.F.type_str_startswith mt_startswith pE pA hbase hfew hline (by rw [hs]; rfl) rfl)
    (wE_mono h fun x H1 ⟨s, e1, h1⟩ => ⟨by rw [e1]; exact rfl, a_cons (wE_mono h1 fun y H2 ⟨t, e2, q⟩ => a_nil ⟨s, t, e1, by rw [e2], q⟩) (by rw [hs]; rfl)⟩)
/-- x * n, x a text -/
theorem o_mulS {x : Str} {n : Int} (hx : x.length ≤ 16) (hlo : 0 ≤ n) (hhi : n ≤ 1048576) (q : Q (.str (Txt.mul x n)) H) : oW X (binaryOp .Mult) (.str x) (.int n) H Q := by
  refine ⟨fun pins s σ v u I rx ry => ?_⟩
  obtain ⟨t, rfl⟩ := rx
  obtain ⟨t', rfl⟩ := ry
  exact PySem.SB.mul (mulOk_of 16 1048576 hx hhi (by omega) (by decide) (by decide)) fun t2 k => ⟨.str (Txt.mul x n), H, I.tok _, ⟨_, rfl⟩, q⟩
/-- list(e.items()) -/
theorem e_listItems (C : Cxt X k W) {cpos : Pos} (h : wE X e σ H fun x H1 => ∃ (d : Addr) (kvs : List (Key × V)), x = .ref d ∧ H1 d = some (.dK kvs) ∧
      ∀ (H' : Hp) (p : Addr) (ts : List Addr), But [] H1 H' → H1 p = none → (∀ t ∈ ts, H1 t = none) → p ∉ ts → H' p = some (.lst (ts.map V.ref)) → Paired (fun (t : Addr) (q : Key × V) => H' t = some (.tup [kV q.1, q.2])) ts kvs → Q (.ref p) H')
    (hg : Gl X "list" := by rfl) (hbase : attributeBase e "items" X.env (eval e X.env) = eval e X.env := by rfl) (hline : (apos.endLine == cpos.line) = true := by rfl)
    (hs : starEach [.Call (.Attribute e "items" apos) [] [] cpos] X.env = (false, eval (.Call (.Attribute e "items" apos) [] [] cpos) X.env) :: starEach [] X.env := by rfl) :
    wE X (.Call (.Name "list" p) [.Call (.Attribute e "items" apos) [] [] cpos] [] pos) σ H Q :=
  eE (LiI.pe_listItems C.calm pE hg C.blt.list PyProof.Rows.boot_list hbase hline hs) (wE_mono h fun x H1 ⟨d, kvs, e1, e2, q⟩ => ⟨d, kvs, e1, e2, fun H' p ts b n1 n2 n3 hp hT => q H' p ts (fun q o _ e => b q o e) n1 n2 n3 hp hT⟩)
/-- dict(ps), ps a list of pairs -/
theorem e_dictP (C : Cxt X k W) (h : wE X a σ H fun x H1 => ∃ (q : Addr) (ps : List Addr) (kvs : List (Key × V)), x = .ref q ∧ SqL X.K H1 q (ps.map V.ref) ∧ Paired (fun p kv => SqT X.K H1 p [kV kv.1, kv.2]) ps kvs ∧ ∀ p, H1 p = none → Q (.ref p) (upd H1 p (.dK (mergeK [] kvs))))
    (hg : Gl X "dict" := by rfl) (hs : starEach [a] X.env = [(false, eval a X.env)] := by rfl) : wE X (.Call (.Name "dict" p) [a] [] pos) σ H Q :=
  e_Ty (T := "dict") (a_cons (wE_mono h fun x H1 ⟨q, ps, kvs, e1, h1, h2, h3⟩ => a_nil (cW_of (call_dictP C.calm) ⟨q, ps, kvs, by rw [e1], h1, h2, h3⟩)) hs) C.blt.dict (by decide +kernel) hg (by decide) (by decide) hs rfl
/-- for k in d -/
theorem i_keys {R : It → Hp → Prop} (h : wE X e σ H fun x H1 => ∃ d o kvs, x = .ref d ∧ H1 d = some (.frz o (.dK kvs)) ∧ R (Itk d o kvs) H1) : wI X tg e σ H R :=
  eI (pi_keys pE) (wE_mono h fun x H1 ⟨d, o, kvs, e1, e2, r⟩ => ⟨d, o, e1, .inl ⟨kvs, e2, r⟩⟩)
def wIb (X : Cx) (scope : Scope) (tg iter : Expr) : TI := fun σ H R => ∀ (s : Shared) (H0 : Hp) (C : Addr) (cl : List (Str × Addr)) (fp : List Addr), wI (X.blk s H0 scope (compEnvC scope cl C X.env) fp) tg iter σ H R
/-- a comprehension of two fors without tests -/
theorem e_lc2 (own : List (Str × Nat)) (vs1 : List Nat) (C : Cxt X k W)
    (h : wI X tg iter σ H fun J H1 => ∃ n G Y, Walk J n G Y ∧ ∀ D, H1 D = none → ∃ Pv : Nat → Hp → Prop, Pv 0 (upd H1 D (.lst [])) ∧ (∀ i H, i ≤ n → Pv i H → G H) ∧
      (∀ i x H H', i < n → Pv i H → Y i H x H' → wGb X scope tg x (wipe σ (own.map (·.2))) H' fun σ2 H2 => wipe σ2 (own.map (·.2)) = wipe σ (own.map (·.2)) ∧ wIb X scope tg1 iter1 σ2 H2 fun J1 H4 => ∃ n1 G1 Y1, Walk J1 n1 G1 Y1 ∧ ∃ P1 : Nat → Hp → Prop, P1 0 H4 ∧ (∀ j H, j ≤ n1 → P1 j H → G1 H) ∧
        (∀ j y H H', j < n1 → P1 j H → Y1 j H y H' → wGb X scope tg1 y (wipe σ2 vs1) H' fun σ3 H5 => wipe σ3 vs1 = wipe σ2 vs1 ∧ wEb X scope elt σ3 H5 fun z H7 => ∃ acc, H7 D = some (.lst acc) ∧ acc.length < sizeLine ∧ P1 (j + 1) (upd H7 D (.lst (acc ++ [z])))) ∧
        ∀ H, P1 n1 H → Pv (i + 1) H) ∧ ∀ H, Pv n H → Q (.ref D) H)
    (hv : ∀ i ∈ vs1, i ∈ own.map (·.2)) (ok : BlkOk X.N X.env.scope scope own := by exact blkOk_by (by first | rfl | kernel_rfl)) (hs : ∀ x, foldedSetIterable iter X.env x = pure x := by intro _; rfl) (hs1 : ∀ env x, foldedSetIterable iter1 env x = pure x := by intro _ _; rfl) :
    wE X (.ListComp elt [⟨tg, iter, [], 0⟩, ⟨tg1, iter1, [], 0⟩] scope pos) σ H Q := by
  refine eE (pe_lc2 (g := wGb X scope tg) (tt := wIfb X scope []) (te := wEb X scope elt) (wi1 := wIb X scope tg1 iter1) (g1 := wGb X scope tg1) (tt1 := wIfb X scope []) C.calm C.nd pI ok hv (fun s H C cl fp => ⟨fun pins s' σ' H' v u Q' I r hh => (hh s H C cl fp).run pins s' u I r⟩)
    (fun s H C cl fp => ⟨fun pins s' σ' H' Q' I hh => (hh s H C cl fp).run pins s' I⟩) (fun s H C cl fp => ⟨fun pins s' σ' H' Q' I hh => (hh s H C cl fp).run pins s' I⟩) (fun s H C cl fp => ⟨fun pins s' σ' H' v u Q' I r hh => (hh s H C cl fp).run pins s' u I r⟩)
    (fun s H C cl fp => ⟨fun pins s' σ' H' Q' I hh => (hh s H C cl fp).run pins s' I⟩) (fun s H C cl fp => ⟨fun pins s' σ' H' Q' I hh => (hh s H C cl fp).run pins s' I⟩) hs hs1) ?_
  refine wI_mono h fun J H1 hh => ?_
  obtain ⟨n, G, Y, w, hD⟩ := hh
  intro D hn
  obtain ⟨Pv, h0, hG, ht, hd⟩ := hD D hn
  refine ⟨fun i m H => m = n - i ∧ i ≤ n ∧ Pv i H, ⟨n, by simp, Nat.zero_le _, h0⟩, ?_⟩
  rintro i m H ⟨rfl, hi, p⟩
  have q := hG i H hi p
  by_cases hlt : i < n
  · refine .inr ⟨w.goes i H hlt q, Pv (i + 1), fun H' p' => ⟨n - (i + 1), by omega, rfl, hlt, p'⟩, fun x H' y => ?_⟩
    intro s H0 Ca cl fp
    refine ⟨fun pins s2 u I r => thn ((ht i x H H' hlt p (w.yields i H x H' hlt q y) s H0 Ca cl fp).run pins s2 u I r) fun _ s3 h3 => ?_⟩
    obtain ⟨σ2, H2, I2, e1, h3⟩ := h3
    refine ⟨σ2, H2, I2, e1, fun s H0 Ca cl fp => eIf pts_nil ?_⟩
    intro s H0 Ca cl fp
    refine wI_mono (h3 s H0 Ca cl fp) fun J1 H4 ⟨n1, G1, Y1, w1, P1, p0, g1, t1, d1⟩ => ?_
    refine ⟨fun j m H => m = n1 - j ∧ j ≤ n1 ∧ P1 j H, ⟨n1, by simp, Nat.zero_le _, p0⟩, ?_⟩
    rintro j m H5 ⟨rfl, hj, pj⟩
    have qj := g1 j H5 hj pj
    by_cases hl1 : j < n1
    · refine .inr ⟨w1.goes j H5 hl1 qj, P1 (j + 1), fun H' p' => ⟨n1 - (j + 1), by omega, rfl, hl1, p'⟩, fun x H' y => ?_⟩
      intro s H0 Ca cl fp
      refine ⟨fun pins s2 u I r => thn ((t1 j x H5 H' hl1 pj (w1.yields j H5 x H' hl1 qj y) s H0 Ca cl fp).run pins s2 u I r) fun _ s3 h3 => ?_⟩
      obtain ⟨σ3, H6, I3, e2, h3⟩ := h3
      refine ⟨σ3, H6, I3, e2, fun s H0 Ca cl fp => eIf pts_nil ?_⟩
      exact h3
    · have e : j = n1 := by omega
      subst e
      exact .inl ⟨w1.stops H5 qj, d1 H5 pj⟩
  · have e : i = n := by omega
    subst e
    exact .inl ⟨w.stops H q, hd H p⟩
end
end Z

set_option Elab.async false
set_option linter.all false
set_option maxRecDepth 100000
set_option maxHeartbeats 4000000
/-! plain: marks seen in lines -/
namespace Z
open PySem PySem.Spec PyProof.Rows L2 TL
theorem lenL (x : Str) : x.cps.toList.length = x.length := by simp; rfl
theorem cut_to (x : Str) (n : Nat) : (cutS x none (some (n : Int))).cps.toList = x.cps.toList.take n := by
  show (((x.cps.toList.drop (HT.sIx x.length 0 none)).take (HT.sIx x.length x.length (some (n : Int)) - HT.sIx x.length 0 none)).toArray).toList = _
  rw [HT.sIx_nat, HT.sIx_none, List.toList_toArray, List.drop_zero, Nat.sub_zero]
  by_cases h : n ≤ x.length
  · rw [Nat.min_eq_left h]
  · rw [Nat.min_eq_right (by omega), List.take_of_length_le (by rw [lenL]; omega), List.take_of_length_le (by rw [lenL]; omega)]
theorem cut_from (x : Str) (n : Nat) : (cutS x (some (n : Int)) none).cps.toList = x.cps.toList.drop n := by
  show (((x.cps.toList.drop (HT.sIx x.length 0 (some (n : Int)))).take (HT.sIx x.length x.length none - HT.sIx x.length 0 (some (n : Int)))).toArray).toList = _
  rw [HT.sIx_nat, HT.sIx_none, List.toList_toArray]
  by_cases h : n ≤ x.length
  · rw [Nat.min_eq_left h, List.take_of_length_le (by rw [List.length_drop, lenL]; omega)]
  · rw [Nat.min_eq_right (by omega), List.drop_of_length_le (by rw [lenL]; omega), List.drop_of_length_le (by rw [lenL]; omega)]
    simp
theorem starts_eq (x y : Str) : Txt.startswith x y = decide (x.cps.toList.take y.length = y.cps.toList) := by
  have e : PySem.Builtin.Str.subAt x y 0 = (((tl x).drop 0).take y.length == tl y) := PySem.StrLaws.subAt_eq x y 0
  rw [List.drop_zero] at e
  unfold Txt.startswith
  rw [e]
  show (decide (0 + y.length ≤ x.length) && (x.cps.toList.take y.length == y.cps.toList)) = _
  rw [Bool.eq_iff_iff]
  simp only [Bool.and_eq_true, decide_eq_true_eq, beq_iff_eq]
  refine ⟨fun h => h.2, fun h => ⟨?_, h⟩⟩
  have h2 := congrArg List.length h
  rw [List.length_take, lenL, lenL] at h2
  omega
/-- whether the mark due is seen in the line by the sight si -/
def seenP (line due si : Str) : Bool :=
  decide (line.cps.toList.take due.length = due.cps.toList) && (decide (si = "start") || decide (line = due) || (!decide (si = "whole") && (line.cps.toList.drop due.length).all fun c => decide ((⟨#[c]⟩ : Str) = si)))
theorem take_self (x : Str) : x.cps.toList.take x.length = x.cps.toList := List.take_of_length_le (by rw [lenL]; omega)
theorem drop_self (x : Str) : x.cps.toList.drop x.length = [] := List.drop_of_length_le (by rw [lenL]; omega)
theorem seen_whole (line due : Str) : seenP line due "whole" = decide (line = due) := by
  unfold seenP
  rw [show decide ((("whole" : Str)) = "start") = false from by decide, show decide ((("whole" : Str)) = "whole") = true from by decide]
  by_cases h : line = due
  · subst h
    simp [take_self]
  · simp [h]
theorem seen_start (line due : Str) : seenP line due "start" = Txt.startswith line due := by
  unfold seenP
  rw [show decide ((("start" : Str)) = "start") = true from by decide, starts_eq]
  simp
theorem all_rep (l : List Nat) (c : Nat) : (l.all fun d => decide ((⟨#[d]⟩ : Str) = ⟨#[c]⟩)) = decide (l = List.replicate l.length c) := by
  rw [Bool.eq_iff_iff, decide_eq_true_eq, List.all_eq_true, List.eq_replicate_iff]
  simp
theorem seen_sign (line due : Str) (c : Nat) : seenP line due ⟨#[c]⟩ = (Txt.startswith line due && decide (line.cps.toList.drop due.length = List.replicate (line.length - due.length) c)) := by
  have h1 : decide ((⟨#[c]⟩ : Str) = "start") = false := decide_eq_false fun h => by
    have := congrArg (fun x : Str => x.cps.size) h
    exact absurd this (by show ¬ (1 = 5); decide)
  have h2 : decide ((⟨#[c]⟩ : Str) = "whole") = false := decide_eq_false fun h => by
    have := congrArg (fun x : Str => x.cps.size) h
    exact absurd this (by show ¬ (1 = 5); decide)
  have h3 : line.length - due.length = (line.cps.toList.drop due.length).length := by rw [List.length_drop, lenL]
  unfold seenP
  rw [h1, h2, all_rep, starts_eq, h3]
  by_cases h : line = due
  · subst h
    simp [take_self, drop_self]
  · simp [h]
end Z

set_option Elab.async false
set_option linter.all false
set_option maxRecDepth 100000
set_option maxHeartbeats 4000000
namespace Z
open PySem PySem.Spec PyProof.Rows L2
theorem def_ofC {P : Program} {w : World} {K : PySem.W.Frag} {mg : Str → Option Value} {base : Heap} {k : Nat} {x : Str} {st : Stmt} {c : Addr} {N ps : List Str} {sp : Sp} (D : AtC K mg x st c) (B : Blt mg base) (S : FnScope N ps (defScope st)) (len : ∀ vs H Q E, sp vs H Q E → vs.length = ps.length)
    (body : ∀ (f : Addr) (A : Around) (outer : List Env) (s : Shared) (H : Hp) (vs : List V) (Q : VK) (E : XK), mg x = some (.ref f) → Cxt (bX P w K mg base N x st f (.ref c) A outer s H E) k (fun cls d _ H => E cls d H) → sp vs H Q E →
      wB (bX P w K mg base N x st f (.ref c) A outer s H E) (defBody st) { nx := fun _ H' => Q .non H', rt := Q } (start N vs) H) : Def P w K mg base (k + 1) x st ps sp := by
  obtain ⟨f, oc, kV, doc, pm, ct, od, an, osl, hm, kp, lk, hcd⟩ := D.ex
  exact ⟨f, kV, doc, pm, an, .ref c, ct, hm, kp, fnok_body B lk hcd S len fun A outer s H vs Q E C h => body f A outer s H vs Q E hm C h⟩
section
variable {X : Cx} {σ : L2.St} {H H0 : Hp} {e tg : Expr} {elts : List Expr} {kk : Nat} {p pos tpos : Pos}
/-- enumerate over a list or a tuple -/
theorem i_enumDD {R : It → Hp → Prop} {x : V} {l : List Addr} {d : PyData} (B : Blt X.mg X.base) (hd : DD X.K l H x d) (hs : seqB d = true) (he : ∀ Q : VK, Q x H → wE X e σ H Q)
    (h : ∀ J G vs, Walk J vs.length G (YPair (fun i => some (.int (i : Nat))) (fun i => vs[i]?)) → (∀ H', But l H H' → G H') → DDs X.K l H vs (items d) → R J H) (hg : Gl X "enumerate" := by rfl) (hs2 : starEach [e] X.env = [(false, eval e X.env)] := by rfl) :
    wI X (.Tuple elts kk tpos) (.Call (.Name "enumerate" p) [e] [] pos) σ H R := by
  cases hd with
  | @lst a xs ds h1 n h2 => exact i_enum B (he _ ⟨a, xs, rfl, h1, h _ _ xs walk_enum (fun H' b => b.sql n h1) h2⟩) hg hs2
  | @tup a xs ds h1 n h2 => exact i_enumT B (he _ ⟨a, xs, rfl, h1, h _ _ xs walk_enumT (fun H' b => b.sqt n h1) h2⟩) hg hs2
  | _ => simp [seqB, Z.isList, Z.isTuple] at hs
/-- a list or a tuple that was there earlier -/
theorem i_ddL {R : It → Hp → Prop} {x : V} {l : List Addr} {d : PyData} (hd : DD X.K l H0 x d) (hs : seqB d = true) (b : But l H0 H) (he : ∀ Q : VK, Q x H → wE X e σ H Q)
    (h : ∀ J G vs, Walk J vs.length G (YAt vs) → (∀ H', But l H0 H' → G H') → DDs X.K l H0 vs (items d) → R J H) : wI X tg e σ H R := by
  cases hd with
  | @lst a xs ds h1 n h2 => exact i_list (he _ ⟨a, rfl, ⟨xs, b.sql n h1⟩, h _ _ xs walk_list (fun H' b => b.sql n h1) h2⟩)
  | @tup a xs ds h1 n h2 => exact i_tup (he _ ⟨a, rfl, ⟨xs, b.sqt n h1⟩, h _ _ xs walk_tup (fun H' b => b.sqt n h1) h2⟩)
  | _ => simp [seqB, isList, isTuple] at hs
end
theorem dds_strs {K : PySem.W.Frag} {l : List Addr} {H : Hp} : ∀ {vs : List V} {ls : List Str}, DDs K l H vs (ls.map PyData.str) → vs = ls.map V.str
  | [], [], _ => rfl
  | _ :: _, y :: ls, h => by
    cases h with
    | cons a r =>
      cases a
      rw [dds_strs r]
      rfl
end Z

set_option Elab.async false
set_option linter.all false
set_option maxRecDepth 100000
set_option maxHeartbeats 4000000
/-! zip of a list and a tuple (turned from the kit's zip of two tuples), weakest readings of zip -/
namespace Z
open PySem PySem.Spec PyProof.Rows L2 RZ
open PySem.Sem (wp)
section
variable {prog : Program} {w : World} {A : Around} {E : Value → Shared → Prop} {s : Shared}
theorem zipM_next_item {z TI TO i1 i2 l1 l2 : Addr} {k1 k2 : Nat} {xs ys : Array Value} {x y a b : Value} {Q : Value → Shared → Prop} (D : ZipApart z TI TO i1 i2 l1 l2)
    (hz : IsZip s.heap z TI TO .none) (hTI : IsPair s.heap TI (.ref i1) (.ref i2)) (hTO : IsPair s.heap TO a b)
    (h1 : s.heap.IsListIter i1 l1 k1) (h2 : s.heap.IsTupleIter i2 l2 k2) (hl1 : s.heap.IsList l1 xs) (hl2 : s.heap.IsTuple l2 ys) (hx : xs[k1]? = some x) (hy : ys[k2]? = some y)
    (hQ : ∀ h', IsZip h' z TI TO (rawInt s.heap.objs.size) → IsPair h' TO x y → h'.IsListIter i1 l1 (k1 + 1) → h'.IsTupleIter i2 l2 (k2 + 1) → IsPair h' s.heap.objs.size x y → h'.objs.size = s.heap.objs.size + 1 →
      (∀ c o, c ≠ z → c ≠ TO → c ≠ i1 → c ≠ i2 → s.heap.get? c = some o → h'.get? c = some o) → Q (.ref s.heap.objs.size) { s with heap := h' }) :
    wpAny (model prog w) A (Builtin.«zip.__next__» ⟨[.ref z], []⟩) (fun fin s' => ∃ v, fin = .done (.ret v) ∧ Q v s') E s := by
  show wpAny _ _ (field (.ref z) 2 >>= _) _ _ _
  refine wpAny_bind (wpAny_field hz rfl (x := .bool false) rfl ?_)
  show wpAny _ _ (field (.ref z) 3 >>= _) _ _ _
  refine wpAny_bind (wpAny_field hz rfl (x := .ref TI) rfl ?_)
  refine wpAny_bind (wpAny_seqItems hTI rfl ?_)
  show wpAny _ _ (Builtin.SmallTypes.ownedTupleIsFree (.ref z) >>= _) _ _ _
  refine wpAny_bind ?_
  unfold Builtin.SmallTypes.ownedTupleIsFree
  refine wpAny_bind (wpAny_field hz rfl (x := .none) rfl (wpAny_pure ?_))
  simp only [if_true]
  refine wpAny_bind (wpAny_rule ?_)
  refine wpAny_bind (wpAny_field hz rfl (x := .ref TO) rfl ?_)
  refine wpAny_bind (wpAny_setField_rec hz (by simp) fun h₁ hz₁ hs₁ => ?_)
  replace hz₁ : IsZip h₁ z TI TO .ellipsis := hz₁
  refine wpAny_bind ?_
  simp only [List.zipIdx_cons, List.zipIdx_nil, List.forIn_cons, List.forIn_nil]

  refine wpAny_bind (wpAny_bind (wpAny_onRaise ?_))
  show wpAny _ _ (Builtin.SmallTypes.nextOf (.ref i1) >>= _) _ _ _
  refine wpAny_bind (wpAny_nextOf_list_item (h1.extBut hs₁.extBut D.i1z) (hl1.extBut hs₁.extBut D.l1z) hx fun h₂ h1₂ hs₂ => wpAny_pure ?_)
  have hTO₂ : IsPair h₂ TO a b := hs₂.extBut _ _ D.TOi1 (hs₁.extBut _ _ D.TOz hTO)
  refine wpAny_bind (wpAny_seqItems hTO₂ rfl ?_)
  refine wpAny_bind (wpAny_updateSeq_pair hTO₂ fun h₃ hTO₃ hs₃ => ?_)
  replace hTO₃ : IsPair h₃ TO x b := hTO₃
  refine wpAny_bind (wpAny_letGo (wpAny_pure ?_))

  refine wpAny_bind (wpAny_bind (wpAny_onRaise ?_))
  show wpAny _ _ (Builtin.SmallTypes.nextOf (.ref i2) >>= _) _ _ _
  refine wpAny_bind (nextOf_tuple_item (((h2.extBut hs₁.extBut D.i2z).extBut hs₂.extBut D.i12.symm).extBut hs₃.extBut D.TOi2.symm)
    (((hl2.extBut hs₁.extBut D.l2z).extBut hs₂.extBut D.l2i1).extBut hs₃.extBut D.l2TO) hy fun h₄ h2₄ hs₄ => wpAny_pure ?_)
  have hTO₄ : IsPair h₄ TO x b := hs₄.extBut _ _ D.TOi2 hTO₃
  refine wpAny_bind (wpAny_seqItems hTO₄ rfl ?_)
  refine wpAny_bind (wpAny_updateSeq_pair hTO₄ fun h₅ hTO₅ hs₅ => ?_)
  replace hTO₅ : IsPair h₅ TO x y := hTO₅
  refine wpAny_bind (wpAny_letGo (wpAny_pure (wpAny_pure ?_)))

  refine wpAny_bind (wpAny_seqItems hTO₅ rfl ?_)
  refine wpAny_bind (wpAny_newTuple ?_)
  have hsz : h₅.objs.size = s.heap.objs.size := by rw [hs₅.1, hs₄.1, hs₃.1, hs₂.1, hs₁.1]
  have hz₅ : IsZip h₅ z TI TO .ellipsis := hs₅.extBut _ _ D.TOz.symm (hs₄.extBut _ _ D.i2z.symm (hs₃.extBut _ _ D.TOz.symm (hs₂.extBut _ _ D.i1z.symm hz₁)))
  have hk₅ : ∀ c o, c ≠ z → c ≠ TO → c ≠ i1 → c ≠ i2 → s.heap.get? c = some o → h₅.get? c = some o := fun c o c1 c2 c3 c4 e =>
    hs₅.extBut _ _ c2 (hs₄.extBut _ _ c4 (hs₃.extBut _ _ c2 (hs₂.extBut _ _ c3 (hs₁.extBut _ _ c1 e))))
  have h1₅ : h₅.IsListIter i1 l1 (k1 + 1) := ((h1₂.extBut hs₃.extBut D.TOi1.symm).extBut hs₄.extBut D.i12).extBut hs₅.extBut D.TOi1.symm
  have h2₅ : h₅.IsTupleIter i2 l2 (k2 + 1) := h2₄.extBut hs₅.extBut D.TOi2.symm
  have hzlt : z < h₅.objs.size := Heap.lt_size hz₅
  have hTOlt : TO < h₅.objs.size := Heap.lt_size hTO₅
  have hi1lt : i1 < h₅.objs.size := by obtain ⟨_, e, _⟩ := h1₅; exact Heap.lt_size e
  have hi2lt : i2 < h₅.objs.size := by obtain ⟨_, e, _⟩ := h2₅; exact Heap.lt_size e
  show wpAny _ _ (Builtin.SmallTypes.ownedTupleHandOut (.ref z) (.ref h₅.objs.size) >>= _) _ _ _
  refine wpAny_bind ?_
  unfold Builtin.SmallTypes.ownedTupleHandOut
  have hz₆ : IsZip (h₅.push { cls := .type "tuple", data := .seq #[x, y] }) z TI TO .ellipsis := Heap.get?_push_of_some _ hz₅
  refine wpAny_bind (wpAny_setField_rec hz₆ (by simp) fun h₇ hz₇ hs₇ => ?_)
  replace hz₇ : IsZip h₇ z TI TO (rawInt h₅.objs.size) := hz₇
  refine wpAny_setField_rec hz₇ (by simp) fun h₈ hz₈ hs₈ => ?_
  replace hz₈ : IsZip h₈ z TI TO (rawInt h₅.objs.size) := hz₈
  have up : ∀ c o, c ≠ z → h₅.get? c = some o → h₈.get? c = some o := fun c o c1 e => hs₈.extBut _ _ c1 (hs₇.extBut _ _ c1 (Heap.get?_push_of_some _ e))
  have hT₈ : IsPair h₈ h₅.objs.size x y := hs₈.extBut _ _ (Nat.ne_of_gt hzlt) (hs₇.extBut _ _ (Nat.ne_of_gt hzlt) (Heap.get?_push_size _ rfl))
  have hz8 : h₈.objs.size = h₅.objs.size + 1 := by rw [hs₈.1, hs₇.1, Heap.size_push]
  rw [hsz] at hz₈ hT₈ hz8
  refine wpAny_pure ⟨_, rfl, ?_⟩
  show Q (.ref h₅.objs.size) _
  rw [hsz]
  exact hQ h₈ hz₈ (up _ _ D.TOz hTO₅) (h1₅.at fun o e => up _ o D.i1z e) (h2₅.at fun o e => up _ o D.i2z e) hT₈ hz8 fun c o c1 c2 c3 c4 e => up c o c1 (hk₅ c o c1 c2 c3 c4 e)

theorem zipM_next_end {z TI TO i1 i2 l1 l2 : Addr} {k1 k2 : Nat} {xs ys : Array Value} {a b : Value} {Q : Fin → Shared → Prop} (hh : A.handled = none) (D : ZipApart z TI TO i1 i2 l1 l2)
    (hz : IsZip s.heap z TI TO .none) (hTI : IsPair s.heap TI (.ref i1) (.ref i2)) (hTO : IsPair s.heap TO a b)
    (h1 : s.heap.IsListIter i1 l1 k1) (h2 : s.heap.IsTupleIter i2 l2 k2) (hl1 : s.heap.IsList l1 xs) (hl2 : s.heap.IsTuple l2 ys) (hend : xs[k1]? = none ∨ ys[k2]? = none)
    (hE : ∀ h' e, (∀ c o, c ≠ z → c ≠ TO → c ≠ i1 → c ≠ i2 → s.heap.get? c = some o → h'.get? c = some o) → (∃ o, h'.get? e = some o ∧ o.cls = .type "StopIteration") → E (.ref e) { s with heap := h' }) :
    wpAny (model prog w) A (Builtin.«zip.__next__» ⟨[.ref z], []⟩) Q E s := by
  show wpAny _ _ (field (.ref z) 2 >>= _) _ _ _
  refine wpAny_bind (wpAny_field hz rfl (x := .bool false) rfl ?_)
  show wpAny _ _ (field (.ref z) 3 >>= _) _ _ _
  refine wpAny_bind (wpAny_field hz rfl (x := .ref TI) rfl ?_)
  refine wpAny_bind (wpAny_seqItems hTI rfl ?_)
  show wpAny _ _ (Builtin.SmallTypes.ownedTupleIsFree (.ref z) >>= _) _ _ _
  refine wpAny_bind ?_
  unfold Builtin.SmallTypes.ownedTupleIsFree
  refine wpAny_bind (wpAny_field hz rfl (x := .none) rfl (wpAny_pure ?_))
  simp only [if_true]
  refine wpAny_bind (wpAny_rule ?_)
  refine wpAny_bind (wpAny_field hz rfl (x := .ref TO) rfl ?_)
  refine wpAny_bind (wpAny_setField_rec hz (by simp) fun h₁ hz₁ hs₁ => ?_)
  replace hz₁ : IsZip h₁ z TI TO .ellipsis := hz₁
  refine wpAny_bind ?_
  simp only [List.zipIdx_cons, List.zipIdx_nil, List.forIn_cons, List.forIn_nil]
  refine wpAny_bind (wpAny_bind (wpAny_onRaise ?_))
  show wpAny _ _ (Builtin.SmallTypes.nextOf (.ref i1) >>= _) _ _ _
  cases hx : xs[k1]? with
  | none =>
    refine wpAny_bind (wpAny_nextOf_list_end hh (h1.extBut hs₁.extBut D.i1z) (hl1.extBut hs₁.extBut D.l1z) hx fun h₂ e hs₂ he => ?_)
    obtain ⟨oe, hoe, hce⟩ := he
    have hz₂ : IsZip h₂ z TI TO .ellipsis := hs₂ _ _ D.i1z.symm hz₁
    have hez : e ≠ z := fun x => by subst x; rw [hz₂] at hoe; cases hoe; simp at hce
    refine wpAny_setField_rec hz₂ (by simp) fun h₃ _ hs₃ => hE h₃ e (fun c o c1 _ c3 _ x => hs₃.extBut _ _ c1 (hs₂ _ _ c3 (hs₁.extBut _ _ c1 x))) ⟨oe, hs₃.extBut _ _ hez hoe, hce⟩
  | some x =>
    have hy : ys[k2]? = none := by rcases hend with h | h; rw [hx] at h; cases h; exact h
    refine wpAny_bind (wpAny_nextOf_list_item (h1.extBut hs₁.extBut D.i1z) (hl1.extBut hs₁.extBut D.l1z) hx fun h₂ h1₂ hs₂ => wpAny_pure ?_)
    have hTO₂ : IsPair h₂ TO a b := hs₂.extBut _ _ D.TOi1 (hs₁.extBut _ _ D.TOz hTO)
    refine wpAny_bind (wpAny_seqItems hTO₂ rfl ?_)
    refine wpAny_bind (wpAny_updateSeq_pair hTO₂ fun h₃ hTO₃ hs₃ => ?_)
    refine wpAny_bind (wpAny_letGo (wpAny_pure ?_))
    refine wpAny_bind (wpAny_bind (wpAny_onRaise ?_))
    show wpAny _ _ (Builtin.SmallTypes.nextOf (.ref i2) >>= _) _ _ _
    refine wpAny_bind (nextOf_tuple_end hh (((h2.extBut hs₁.extBut D.i2z).extBut hs₂.extBut D.i12.symm).extBut hs₃.extBut D.TOi2.symm)
      (((hl2.extBut hs₁.extBut D.l2z).extBut hs₂.extBut D.l2i1).extBut hs₃.extBut D.l2TO) hy fun h₄ e hs₄ he => ?_)
    obtain ⟨oe, hoe, hce⟩ := he
    have hz₄ : IsZip h₄ z TI TO .ellipsis := hs₄ _ _ D.i2z.symm (hs₃.extBut _ _ D.TOz.symm (hs₂.extBut _ _ D.i1z.symm hz₁))
    have hez : e ≠ z := fun x => by subst x; rw [hz₄] at hoe; cases hoe; simp at hce
    refine wpAny_setField_rec hz₄ (by simp) fun h₅ _ hs₅ => hE h₅ e (fun c o c1 c2 c3 c4 x => hs₅.extBut _ _ c1 (hs₄ _ _ c4 (hs₃.extBut _ _ c2 (hs₂.extBut _ _ c3 (hs₁.extBut _ _ c1 x))))) ⟨oe, hs₅.extBut _ _ hez hoe, hce⟩

theorem pyNext_zipM_item {z TI TO i1 i2 l1 l2 : Addr} {k1 k2 : Nat} {xs ys : Array Value} {x y a b : Value} {Q : Option Value → Shared → Prop} (D : ZipApart z TI TO i1 i2 l1 l2)
    (hz : IsZip s.heap z TI TO .none) (hTI : IsPair s.heap TI (.ref i1) (.ref i2)) (hTO : IsPair s.heap TO a b)
    (h1 : s.heap.IsListIter i1 l1 k1) (h2 : s.heap.IsTupleIter i2 l2 k2) (hl1 : s.heap.IsList l1 xs) (hl2 : s.heap.IsTuple l2 ys) (hx : xs[k1]? = some x) (hy : ys[k2]? = some y)
    (hQ : ∀ h', IsZip h' z TI TO (rawInt s.heap.objs.size) → IsPair h' TO x y → h'.IsListIter i1 l1 (k1 + 1) → h'.IsTupleIter i2 l2 (k2 + 1) → IsPair h' s.heap.objs.size x y → h'.objs.size = s.heap.objs.size + 1 →
      (∀ c o, c ≠ z → c ≠ TO → c ≠ i1 → c ≠ i2 → s.heap.get? c = some o → h'.get? c = some o) → Q (some (.ref s.heap.objs.size)) { s with heap := h' }) :
    wpAny (model prog w) A (pyNext (.ref z)) Q E s := by
  have hT : s.TypeIs (.ref z) "zip" := ⟨_, hz, rfl⟩
  unfold pyNext
  exact wpAny_bind (wpAny_attempt (wpAny_callSpecial?_slot (name := Str.ofString "__next__") hT F.slot_zip_next
    (wpAny_call_entry F.slot_zip_next hT F.entry_zip_next
      (zipM_next_item D hz hTI hTO h1 h2 hl1 hl2 hx hy fun h' a1 a2 a3 a4 a5 a6 a7 => wpAny_pure (hQ h' a1 a2 a3 a4 a5 a6 a7)) (F.args_zip_next_1 _))))

theorem pyNext_zipM_end {z TI TO i1 i2 l1 l2 : Addr} {k1 k2 : Nat} {xs ys : Array Value} {a b : Value} {Q : Option Value → Shared → Prop} (hh : A.handled = none) (D : ZipApart z TI TO i1 i2 l1 l2)
    (hz : IsZip s.heap z TI TO .none) (hTI : IsPair s.heap TI (.ref i1) (.ref i2)) (hTO : IsPair s.heap TO a b)
    (h1 : s.heap.IsListIter i1 l1 k1) (h2 : s.heap.IsTupleIter i2 l2 k2) (hl1 : s.heap.IsList l1 xs) (hl2 : s.heap.IsTuple l2 ys) (hend : xs[k1]? = none ∨ ys[k2]? = none)
    (hQ : ∀ h', (∀ c o, c ≠ z → c ≠ TO → c ≠ i1 → c ≠ i2 → s.heap.get? c = some o → h'.get? c = some o) → Q none { s with heap := h' }) : wpAny (model prog w) A (pyNext (.ref z)) Q E s := by
  have hT : s.TypeIs (.ref z) "zip" := ⟨_, hz, rfl⟩
  unfold pyNext
  refine wpAny_bind (wpAny_attempt (wpAny_callSpecial?_slot (name := Str.ofString "__next__") hT F.slot_zip_next
    (wpAny_call_entry F.slot_zip_next hT F.entry_zip_next (zipM_next_end hh D hz hTI hTO h1 h2 hl1 hl2 hend fun h' e hk he => ?_) (F.args_zip_next_1 _))))
  obtain ⟨o, ho, hc⟩ := he
  refine wpAny_bind (wpAny_isInstance (T := "StopIteration") (b := true) ⟨o, ho, hc⟩ isSubtype_stop ?_)
  exact wpAny_pure (hQ _ hk)
end

abbrev zipMH1 (h : Heap) (l1 : Addr) : Heap := h.push { cls := .type "list_iterator", data := .fields #[.ref l1, .int 0 0] }
abbrev zipMH2 (h : Heap) (l1 l2 : Addr) : Heap := (zipMH1 h l1).push { cls := .type "tuple_iterator", data := .fields #[.ref l2, .int 0 0] }
abbrev zipMH3 (h : Heap) (l1 l2 : Addr) : Heap := (zipMH2 h l1 l2).push { cls := .type "tuple", data := .seq #[.ref h.objs.size, .ref (zipMH1 h l1).objs.size] }
abbrev zipMH4 (h : Heap) (l1 l2 : Addr) : Heap := (zipMH3 h l1 l2).push { cls := .type "tuple", data := .seq #[.none, .none] }
abbrev zipMH5 (h : Heap) (l1 l2 : Addr) : Heap := (zipMH4 h l1 l2).push { cls := .type "zip", data := .fields #[.none, .bool false, .bool false, .ref (zipMH2 h l1 l2).objs.size, .ref (zipMH3 h l1 l2).objs.size] }

theorem meets_zipM_new (l1 l2 : Addr) (xs ys : Array Value) :
    Meets (Builtin.«zip.__new__» ⟨[.type "zip", .ref l1, .ref l2], []⟩) (fun _ R s => s.heap.IsList l1 xs ∧ s.heap.IsTuple l2 ys ∧
      R (.ok (.ret (.ref (zipMH4 s.heap l1 l2).objs.size))) { s with heap := zipMH5 s.heap l1 l2 }) :=
  .of_wp fun prog w A R s h => by
    obtain ⟨hp, g, d, tk, os⟩ := s; obtain ⟨hl1, hl2, h⟩ := h
    have hsub := sub_zip
    have hL1 : Heap.IsList (Shared.heap ⟨hp, g, d, tk, os⟩) l1 xs := hl1
    have hL2 : Heap.IsTuple (Shared.heap ⟨hp.push { cls := .type "list_iterator", data := .fields #[.ref l1, .int 0 0] }, g, d, tk, os⟩) l2 ys := Heap.IsTuple.push hl2 _
    wp_walk using wpAny_pyIter_list hL1, wpAny_pyIter_tuple hL2
    exact ⟨_, rfl, h⟩

section
variable {prog : Program} {w : World} {A : Around} {E : Value → Shared → Prop} {s : Shared}

theorem call_zipM {l1 l2 : Addr} {xs ys : Array Value} {Q : Value → Shared → Prop} (hl1 : s.heap.IsList l1 xs) (hl2 : s.heap.IsTuple l2 ys)
    (h : ∀ h', IsZip h' (s.heap.objs.size + 4) (s.heap.objs.size + 2) (s.heap.objs.size + 3) .none → IsPair h' (s.heap.objs.size + 2) (.ref s.heap.objs.size) (.ref (s.heap.objs.size + 1)) →
      IsPair h' (s.heap.objs.size + 3) .none .none → h'.IsListIter s.heap.objs.size l1 0 → h'.IsTupleIter (s.heap.objs.size + 1) l2 0 → h'.objs.size = s.heap.objs.size + 5 →
      (∀ c o, s.heap.get? c = some o → h'.get? c = some o) → Q (.ref (s.heap.objs.size + 4)) { s with heap := h' }) :
    wpAny (model prog w) A (call (.type "zip") [.ref l1, .ref l2]) Q E s := by
  refine callType_new F.called_zip (by decide) (F.typeCall_zip_2 _ _) (F.newCall_zip_2 _ _) (fun obj => F.args_object_init_3 obj _ _) F.entry_zip_new
    (meets_zipM_new l1 l2 xs ys) ⟨hl1, hl2, ?_⟩
  have z1 : (zipMH1 s.heap l1).objs.size = s.heap.objs.size + 1 := Heap.size_push ..
  have z2 : (zipMH2 s.heap l1 l2).objs.size = s.heap.objs.size + 2 := by rw [Heap.size_push, z1]
  have z3 : (zipMH3 s.heap l1 l2).objs.size = s.heap.objs.size + 3 := by rw [Heap.size_push, z2]
  have z4 : (zipMH4 s.heap l1 l2).objs.size = s.heap.objs.size + 4 := by rw [Heap.size_push, z3]
  have z5 : (zipMH5 s.heap l1 l2).objs.size = s.heap.objs.size + 5 := by rw [Heap.size_push, z4]
  have g5 : (zipMH5 s.heap l1 l2).get? (zipMH4 s.heap l1 l2).objs.size = some _ := Heap.get?_push_size _ rfl
  have g4 : (zipMH5 s.heap l1 l2).get? (zipMH3 s.heap l1 l2).objs.size = some _ := Heap.get?_push_of_some _ (Heap.get?_push_size _ rfl)
  have g3 : (zipMH5 s.heap l1 l2).get? (zipMH2 s.heap l1 l2).objs.size = some _ := Heap.get?_push_of_some _ (Heap.get?_push_of_some _ (Heap.get?_push_size _ rfl))
  have g2 : (zipMH5 s.heap l1 l2).get? (zipMH1 s.heap l1).objs.size = some _ := Heap.get?_push_of_some _ (Heap.get?_push_of_some _ (Heap.get?_push_of_some _ (Heap.get?_push_size _ rfl)))
  have g1 : (zipMH5 s.heap l1 l2).get? s.heap.objs.size = some _ := Heap.get?_push_of_some _ (Heap.get?_push_of_some _ (Heap.get?_push_of_some _ (Heap.get?_push_of_some _ (Heap.get?_push_size _ rfl))))
  show _ ∧ _
  rw [z2, z3, z4] at g5
  rw [z1, z2] at g3
  rw [z3] at g4
  rw [z1] at g2
  rw [z4]
  exact ⟨⟨_, g5, rfl⟩, h _ g5 g3 g4 ⟨_, g1, rfl, rfl⟩ ⟨_, g2, rfl, rfl⟩ z5 fun c o x =>
    Heap.get?_push_of_some _ (Heap.get?_push_of_some _ (Heap.get?_push_of_some _ (Heap.get?_push_of_some _ (Heap.get?_push_of_some _ x))))⟩
end

/-- the list at a and the tuple at b as they stand at each turn, the items in new pairs -/
def ItzM (K : PySem.W.Frag) (a b : Addr) : It :=
  ⟨fun i H => ∃ (xs ys : List V) (x y : V), SqL K H a xs ∧ SqT K H b ys ∧ xs[i]? = some x ∧ ys[i]? = some y,
    fun i H v H' => ∃ T x y, v = .ref T ∧ H T = none ∧ H' = upd H T (.tup [x, y]) ∧ (∀ xs, SqL K H a xs → xs[i]? = some x) ∧ ∀ ys, SqT K H b ys → ys[i]? = some y,
    fun i H => ∃ xs ys : List V, SqL K H a xs ∧ SqT K H b ys ∧ (xs.length ≤ i ∨ ys.length ≤ i)⟩
theorem turn_zipM {P : Program} {w : World} {K : PySem.W.Frag} {elts : List Expr} {kk : Nat} {tpos : Pos} {a b z TI TO i1 i2 : Addr} (D : ZipApart z TI TO i1 i2 a b) :
    Turn P w K (.Tuple elts kk tpos) (ItzM K a b) [z, TI, TO, i1, i2] z (fun i h => IsZip h z TI TO .none ∧ IsPair h TI (.ref i1) (.ref i2) ∧ (∃ x y, IsPair h TO x y) ∧ h.IsListIter i1 a i ∧ h.IsTupleIter i2 b i) where
  mem := by simp
  obj := fun i h st c hc => by
    obtain ⟨hz, hTI, ⟨x, y, hTO⟩, ⟨o1, e1, _, d1⟩, ⟨o2, e2, _, d2⟩⟩ := st
    have e' : c = z ∨ c = TI ∨ c = TO ∨ c = i1 ∨ c = i2 := by simpa using hc
    rcases e' with q | q | q | q | q
    · rw [q]; exact ⟨_, hz, fun v q => nomatch q⟩
    · rw [q]; exact ⟨_, hTI, fun v q => nomatch q⟩
    · rw [q]; exact ⟨_, hTO, fun v q => nomatch q⟩
    · rw [q]; exact ⟨o1, e1, fun v q => by rw [d1] at q; cases q⟩
    · rw [q]; exact ⟨o2, e2, fun v q => by rw [d2] at q; cases q⟩
  keep := fun i h h' st k => by
    obtain ⟨hz, hTI, ⟨x, y, hTO⟩, h1, h2⟩ := st
    exact ⟨k z (by simp) _ hz, k TI (by simp) _ hTI, ⟨x, y, k TO (by simp) _ hTO⟩, h1.at fun o q => k i1 (by simp) o q, h2.at fun o q => k i2 (by simp) o q⟩
  item := by
    intro X hP hw hK hc i pins s σ H E I hf st hg
    subst hP hw hK
    obtain ⟨hz, hTI, ⟨x0, y0, hTO⟩, h1, h2⟩ := st
    obtain ⟨xs, ys, x, y, hqx, hqy, hx, hy⟩ := hg
    obtain ⟨its, rv, p, _⟩ := I.list hqx
    obtain ⟨its2, rv2, p2, _⟩ := I.tuple hqy
    obtain ⟨u, hu, ru⟩ := rv.get hx
    obtain ⟨u2, hu2, ru2⟩ := rv2.get hy
    have hzl : z < s.heap.objs.size := Heap.lt_size hz
    refine pyNext_zipM_item D hz hTI hTO h1 h2 p.isList p2 (x := u) (y := u2) (by simpa using hu) (by simpa using hu2) fun h' z' TO' h1' h2' hT hsz hk => ?_
    refine ⟨_, rfl, wpAny_letOwnedTupleGo_zip (s := { s with heap := h' }) z' fun h'' z'' sb => ?_⟩
    have hT2 : h''.get? s.heap.objs.size = some { cls := .type "tuple", data := .seq #[u, u2] } := (sb.2 _ (Nat.ne_of_gt hzl)).trans hT
    have new : ObjOk X.prog X.w (upd H s.heap.objs.size (.tup [x, y])) h'' s.heap.objs.size (.tup [x, y]) :=
      ⟨by show 2 ≤ sizeLine; decide, [u, u2], .cons ru (.cons ru2 .nil), ⟨_, hT2, rfl, _, rfl⟩⟩
    have I1 : Inv X pins σ (upd H s.heap.objs.size (.tup [x, y])) { s with heap := h'' } :=
      I.turnedNew (t' := s.toks) (ch := [z, TI, TO, i1, i2]) (fun c o hb q => (sb.2 c (fun q' => hb (by simp [q']))).trans (hk c o (fun q' => hb (by simp [q'])) (fun q' => hb (by simp [q'])) (fun q' => hb (by simp [q'])) (fun q' => hb (by simp [q'])) q)) hf (Nat.le_refl _) new
    refine ⟨.ref s.heap.objs.size, _, I1, rfl, ⟨_, x, y, rfl, I.hok.fresh (Nat.le_refl _), rfl, fun l hl => by rw [I.list_inj hl hqx]; exact hx, fun l hl => by rw [I.tuple_inj hl hqy]; exact hy⟩, ⟨z'', ?_, ⟨u, u2, ?_⟩, ?_, ?_⟩, fun c hcm => ?_⟩
    · exact (sb.2 _ D.TIz).trans (hk _ _ D.TIz D.TITO D.TIi1 D.TIi2 hTI)
    · exact (sb.2 _ D.TOz).trans TO'
    · exact h1'.at fun o q => (sb.2 _ D.i1z).trans q
    · exact h2'.at fun o q => (sb.2 _ D.i2z).trans q
    · have hlt : c < s.heap.objs.size := by
        have e' : c = z ∨ c = TI ∨ c = TO ∨ c = i1 ∨ c = i2 := by simpa using hcm
        rcases e' with q | q | q | q | q
        · rw [q]; exact hzl
        · rw [q]; exact Heap.lt_size hTI
        · rw [q]; exact Heap.lt_size hTO
        · rw [q]; obtain ⟨_, e1, _⟩ := h1; exact Heap.lt_size e1
        · rw [q]; obtain ⟨_, e2, _⟩ := h2; exact Heap.lt_size e2
      rw [upd_ne (Nat.ne_of_lt hlt)]
      exact (hf c hcm).1
  done := by
    intro X hP hw hK hc i pins s σ H E I hf st hg
    subst hP hw hK
    obtain ⟨hz, hTI, ⟨x0, y0, hTO⟩, h1, h2⟩ := st
    obtain ⟨xs, ys, hqx, hqy, hend⟩ := hg
    obtain ⟨its, rv, p, _⟩ := I.list hqx
    obtain ⟨its2, rv2, p2, _⟩ := I.tuple hqy
    have l1 := rv.length
    have l2 := rv2.length
    have he : its.toArray[i]? = none ∨ its2.toArray[i]? = none := by
      rcases hend with q | q
      · exact .inl (by simp; omega)
      · exact .inr (by simp; omega)
    exact pyNext_zipM_end (I.ok.hd hc) D hz hTI hTO h1 h2 p.isList p2 he fun h' hk => ⟨rfl, I.turnedL (t' := s.toks) (ch := [z, TI, TO, i1, i2]) (fun c o hb q =>
      hk c o (fun q' => hb (by simp [q'])) (fun q' => hb (by simp [q'])) (fun q' => hb (by simp [q'])) (fun q' => hb (by simp [q'])) q) hf⟩
  self := fun A i s Q E st h => wpAny_pyIter_zip st.1 h


section
variable {X : Cx} {σ : L2.St} {H : Hp} {e a b : Expr} {p pos tpos : Pos} {elts : List Expr} {kk : Nat}
/-- zip of a list and of a list or a tuple of data -/
theorem i_zipD {H0 : Hp} {R : It → Hp → Prop} (B : Blt X.mg X.base) (h : wE X a σ H fun v H1 => wE X b σ H1 fun u H2 => ∃ (q : Addr) (xs : List V) (l : List Addr) (d : PyData), v = .ref q ∧ H2 q = some (.lst xs) ∧ But l H0 H2 ∧ DD X.K l H0 u d ∧ seqB d = true ∧
      ∀ J G vs, Walk J (min xs.length vs.length) G (YPair (fun i => xs[i]?) (fun i => vs[i]?)) → (∀ H', H' q = some (.lst xs) → But l H0 H' → G H') → DDs X.K l H0 vs (items d) → R J H2) (hg : Gl X "zip" := by rfl)
    (hs : starEach [a, b] X.env = (false, eval a X.env) :: starEach [b] X.env := by rfl) (hs2 : starEach [b] X.env = [(false, eval b X.env)] := by rfl) :
    wI X (.Tuple elts kk tpos) (.Call (.Name "zip" p) [a, b] [] pos) σ H R := by
  have ha : wA X [a, b] σ H fun vs H2 => ∃ (q t : Addr) (xs ys : List V), vs = [.ref q, .ref t] ∧ ((SqL X.K H2 q xs ∧ SqL X.K H2 t ys ∧ R (Itz X.K q t) H2) ∨ (SqL X.K H2 q xs ∧ SqT X.K H2 t ys ∧ R (ItzM X.K q t) H2)) :=
    a_cons (wE_mono h fun v H1 g1 => a_cons (wE_mono g1 fun u H2 ⟨q, xs, l, d, e1, e2, e3, e4, e5, r⟩ => a_nil (by
      subst e1
      have sq : ∀ {H'}, H' q = some (.lst xs) → SqL X.K H' q xs := fun h => .inl (.inl h)
      cases e4 with
      | @lst t ys ds h1 n h2 => exact ⟨q, t, xs, ys, rfl, .inl ⟨sq e2, e3.sql n h1, r _ _ ys (walk_zip rfl) (fun H' b1 b2 => ⟨sq b1, b2.sql n h1⟩) h2⟩⟩
      | @tup t ys ds h1 n h2 =>
        refine ⟨q, t, xs, ys, rfl, .inr ⟨sq e2, e3.sqt n h1, r (ItzM X.K q t) (fun H => SqL X.K H q xs ∧ SqT X.K H t ys) ys ⟨fun i H hi q => ?_, fun H q => ⟨xs, ys, q.1, q.2, by omega⟩, fun i H v H' hi q y => ?_⟩ (fun H' b1 b2 => ⟨sq b1, b2.sqt n h1⟩) h2⟩⟩
        · exact ⟨xs, ys, xs[i]'(by omega), ys[i]'(by omega), q.1, q.2, List.getElem?_eq_getElem _, List.getElem?_eq_getElem _⟩
        · obtain ⟨T, x, z, h1, h2, h3, h4, h5⟩ := y
          exact ⟨T, x, z, h1, h2, h3, h4 xs q.1, h5 ys q.2⟩
      | _ => simp [seqB, Z.isList, Z.isTuple] at e5)) hs2) hs
  refine ⟨fun pins s I => ?_⟩
  refine Call_ (ld_blt I hg B.zip PyProof.Rows.boot_zip (PyProof.Rows.callWith_type1 (thn (ha.run pos pins _ I) fun us s1 ⟨vs, H1, I1, r1, q1⟩ => ?_) hs (by rw [hs2]; rfl)))
  obtain ⟨q, t, xs, ys, ex, q1⟩ := q1
  subst ex
  obtain ⟨u1, u2, rfl, k1, k2⟩ := vals2 r1
  cases k1
  cases k2
  have fresh5 : ∀ c, c ∈ [s1.heap.objs.size + 4, s1.heap.objs.size + 2, s1.heap.objs.size + 3, s1.heap.objs.size, s1.heap.objs.size + 1] → FpOk X pins H1 c := fun c hcm => by
    have hle : s1.heap.objs.size ≤ c := by
      simp only [List.mem_cons, List.not_mem_nil, or_false] at hcm
      omega
    exact I1.fpOk hle (I1.hok.fresh hle)
  rcases q1 with ⟨hqx, hqy, r⟩ | ⟨hqx, hqy, r⟩
  · obtain ⟨its, rv, p1, _⟩ := I1.list hqx
    obtain ⟨its2, rv2, p2, _⟩ := I1.list hqy
    refine call_zip_2 p1.isList p2.isList fun h' hz hTI hTO h1 h2 hsz hk => wpAny_pyIter_zip hz ?_
    have I2 : Inv X pins σ H1 { s1 with heap := h' } := I1.kept (t' := s1.toks) hk
    exact ⟨s1.heap.objs.size + 4, [s1.heap.objs.size + 4, s1.heap.objs.size + 2, s1.heap.objs.size + 3, s1.heap.objs.size, s1.heap.objs.size + 1], _, _, H1, rfl, I2, turn_zip (PySem.W.ktu_apart s1.heap.objs.size q t p1.lt p2.lt), ⟨hz, hTI, ⟨_, _, hTO⟩, h1, h2⟩, fresh5, r⟩
  · obtain ⟨its, rv, p1, _⟩ := I1.list hqx
    obtain ⟨its2, rv2, p2, _⟩ := I1.tuple hqy
    obtain ⟨o2, ho2, _⟩ := id p2
    refine call_zipM p1.isList (show s1.heap.IsTuple t its2.toArray from p2) fun h' hz hTI hTO h1 h2 hsz hk => wpAny_pyIter_zip hz ?_
    have I2 : Inv X pins σ H1 { s1 with heap := h' } := I1.kept (t' := s1.toks) hk
    exact ⟨s1.heap.objs.size + 4, [s1.heap.objs.size + 4, s1.heap.objs.size + 2, s1.heap.objs.size + 3, s1.heap.objs.size, s1.heap.objs.size + 1], _, _, H1, rfl, I2, turn_zipM (PySem.W.ktu_apart s1.heap.objs.size q t p1.lt (Heap.lt_size ho2)), ⟨hz, hTI, ⟨_, _, hTO⟩, h1, h2⟩, fresh5, r⟩
end
end Z

set_option Elab.async false
set_option linter.all false
set_option maxRecDepth 100000
set_option maxHeartbeats 4000000
/-! trees of lists, each list at an address of its own; a tree that grows at its right edge -/
namespace Z
open PySem PySem.Spec PyProof.Rows L2
mutual
/-- v holds the tree d of lists and texts; its lists stand at the addresses S, each once -/
inductive Bu (H : Hp) : List Addr → V → PyData → Prop
  | str (x : Str) : Bu H [] (.str x) (.str x)
  | lst {a : Addr} {xs : List V} {S : List Addr} {ds : List PyData} : H a = some (.lst xs) → Bus H S xs ds → a ∉ S → Bu H (a :: S) (.ref a) (.list ds)
inductive Bus (H : Hp) : List Addr → List V → List PyData → Prop
  | nil : Bus H [] [] []
  | cons {S T : List Addr} {v : V} {d : PyData} {vs : List V} {ds : List PyData} : Bu H S v d → Bus H T vs ds → (∀ a ∈ S, a ∉ T) → Bus H (S ++ T) (v :: vs) (d :: ds)
end
mutual
theorem Bu.dd {K : PySem.W.Frag} {l : List Addr} {H : Hp} {S : List Addr} {v : V} {d : PyData} : Bu H S v d → (∀ a ∈ S, a ∉ l) → DD K l H v d
  | .str x, _ => .str x
  | .lst h r _, n => .lst (.inl (.inl h)) (n _ (by simp)) (Bus.dd r fun a ha => n a (by simp [ha]))
theorem Bus.dd {K : PySem.W.Frag} {l : List Addr} {H : Hp} {S : List Addr} {vs : List V} {ds : List PyData} : Bus H S vs ds → (∀ a ∈ S, a ∉ l) → DDs K l H vs ds
  | .nil, _ => .nil
  | .cons h r _, n => .cons (Bu.dd h fun a ha => n a (by simp [ha])) (Bus.dd r fun a ha => n a (by simp [ha]))
end
mutual
theorem Bu.but {l : List Addr} {H H' : Hp} {S : List Addr} {v : V} {d : PyData} (b : But l H H') : Bu H S v d → (∀ a ∈ S, a ∉ l) → Bu H' S v d
  | .str x, _ => .str x
  | .lst h r m, n => .lst (b _ _ (n _ (by simp)) h) (Bus.but b r fun a ha => n a (by simp [ha])) m
theorem Bus.but {l : List Addr} {H H' : Hp} {S : List Addr} {vs : List V} {ds : List PyData} (b : But l H H') : Bus H S vs ds → (∀ a ∈ S, a ∉ l) → Bus H' S vs ds
  | .nil, _ => .nil
  | .cons h r m, n => .cons (Bu.but b h fun a ha => n a (by simp [ha])) (Bus.but b r fun a ha => n a (by simp [ha])) m
end
theorem Bus.length {H : Hp} : ∀ {S : List Addr} {vs : List V} {ds : List PyData}, Bus H S vs ds → vs.length = ds.length
  | _, _, _, .nil => rfl
  | _, _, _, .cons _ r _ => by simp [Bus.length r]
theorem Bus.append {H : Hp} : ∀ {S T : List Addr} {xs ys : List V} {ds es : List PyData}, Bus H S xs ds → Bus H T ys es → (∀ a ∈ S, a ∉ T) → Bus H (S ++ T) (xs ++ ys) (ds ++ es)
  | _, _, _, _, _, _, .nil, r, _ => r
  | _, _, _, _, _, _, .cons (S := S1) (T := T1) h h2 m, r, n => by
    rw [List.append_assoc]
    exact .cons h (Bus.append h2 r fun a ha => n a (by simp [ha])) fun a ha hb => by
      rcases List.mem_append.mp hb with q | q
      · exact m a ha q
      · exact n a (by simp [ha]) q
theorem Bu.one {H : Hp} {S : List Addr} {v : V} {d : PyData} (h : Bu H S v d) : Bus H S [v] [d] := by
  have := Bus.cons h .nil (by simp)
  rwa [List.append_nil] at this
/-! ### plain: open levels -/
abbrev Sts := List (List PyData)
/-- all levels closed -/
def fold : Sts → List PyData
  | [] => []
  | [ds] => ds
  | ds :: r :: rs => ds ++ [.list (fold (r :: rs))]
/-- the first n levels stay open -/
def closeTo : Nat → Sts → Sts
  | 0, _ => []
  | _, [] => []
  | 1, st => [fold st]
  | n + 2, ds :: r => ds :: closeTo (n + 1) r
def putLast : Sts → PyData → Sts
  | [], _ => []
  | [ds], d => [ds ++ [d]]
  | ds :: r :: rs, d => ds :: putLast (r :: rs) d
theorem len_closeTo : ∀ {n : Nat} {st : Sts}, n ≤ st.length → (closeTo n st).length = n
  | 0, _, _ => rfl
  | 1, _ :: _, _ => rfl
  | n + 2, ds :: r, h => by
    show (closeTo (n + 1) r).length + 1 = n + 2
    rw [len_closeTo (n := n + 1) (by simpa using h)]
theorem len_putLast : ∀ {st : Sts} {d : PyData}, (putLast st d).length = st.length
  | [], _ => rfl
  | [_], _ => rfl
  | _ :: r :: rs, d => by
    show (putLast (r :: rs) d).length + 1 = _
    rw [len_putLast (st := r :: rs)]
    rfl
theorem fold_few : ∀ {st : Sts} {N : Nat}, (∀ ds ∈ st, ds.length ≤ N) → (fold st).length ≤ N + 1
  | [], _, _ => by simp [fold]
  | [ds], N, h => Nat.le_succ_of_le (h ds (by simp))
  | ds :: r :: rs, N, h => by
    show (ds ++ [_]).length ≤ _
    rw [List.length_append]
    exact Nat.succ_le_succ (h ds (by simp))
theorem closeTo_few : ∀ {n : Nat} {st : Sts} {N : Nat}, (∀ ds ∈ st, ds.length ≤ N) → ∀ ds ∈ closeTo n st, ds.length ≤ N + 1
  | 0, _, _, _, ds, h => by simp [closeTo] at h
  | 1, [], _, _, ds, h => by simp [closeTo] at h
  | n + 2, [], _, _, ds, h => by simp [closeTo] at h
  | 1, a :: st, N, hN, ds, h => by
    have : ds = fold (a :: st) := by simpa [closeTo] using h
    rw [this]
    exact fold_few hN
  | n + 2, a :: r, N, hN, ds, h => by
    have h : ds ∈ a :: closeTo (n + 1) r := h
    rcases List.mem_cons.mp h with h | h
    · rw [h]; exact Nat.le_succ_of_le (hN a (by simp))
    · exact closeTo_few (n := n + 1) (fun d hd => hN d (by simp [hd])) ds h
theorem putLast_few : ∀ {st : Sts} {d : PyData} {N : Nat}, (∀ ds ∈ st, ds.length ≤ N) → ∀ ds ∈ putLast st d, ds.length ≤ N + 1
  | [], _, _, _, ds, h => by simp [putLast] at h
  | [a], d, N, hN, ds, h => by
    have : ds = a ++ [d] := by simpa [putLast] using h
    rw [this, List.length_append]
    exact Nat.succ_le_succ (hN a (by simp))
  | a :: r :: rs, d, N, hN, ds, h => by
    have h : ds ∈ a :: putLast (r :: rs) d := h
    rcases List.mem_cons.mp h with h | h
    · rw [h]; exact Nat.le_succ_of_le (hN a (by simp))
    · exact putLast_few (st := r :: rs) (fun d hd => hN d (by simp [hd])) ds h
/-- the open lists at us, each one's last but the innermost's is the next one; what is closed stands at T -/
inductive Spn (H : Hp) : List Addr → List Addr → Sts → Prop
  | one {u : Addr} {xs : List V} {S : List Addr} {ds : List PyData} : H u = some (.lst xs) → Bus H S xs ds → u ∉ S → Spn H [u] S [ds]
  | more {u u' : Addr} {us : List Addr} {xs : List V} {S T : List Addr} {ds : List PyData} {r : Sts} : H u = some (.lst (xs ++ [.ref u'])) → Bus H S xs ds → Spn H (u' :: us) T r → u ∉ S → u ∉ u' :: us → u ∉ T → (∀ a ∈ S, a ∉ u' :: us ∧ a ∉ T) →
      Spn H (u :: u' :: us) (S ++ T) (ds :: r)
theorem Spn.len {H : Hp} : ∀ {us T : List Addr} {st : Sts}, Spn H us T st → st.length = us.length
  | _, _, _, .one .. => rfl
  | _, _, _, .more _ _ r .. => by simp [Spn.len r]
theorem Spn.but {l : List Addr} {H H' : Hp} (b : But l H H') : ∀ {us T : List Addr} {st : Sts}, Spn H us T st → (∀ a ∈ us, a ∉ l) → (∀ a ∈ T, a ∉ l) → Spn H' us T st
  | _, _, _, .one h r n, h1, h2 => .one (b _ _ (h1 _ (by simp)) h) (r.but b h2) n
  | _, _, _, .more h r s n1 n2 n3 n4, h1, h2 => .more (b _ _ (h1 _ (by simp)) h) (r.but b fun a ha => h2 a (by simp [ha])) (s.but b (fun a ha => h1 a (List.mem_cons_of_mem _ ha)) fun a ha => h2 a (by simp [ha])) n1 n2 n3 n4
theorem Spn.apart {H : Hp} : ∀ {us T : List Addr} {st : Sts}, Spn H us T st → ∀ a ∈ us, a ∉ T
  | _, _, _, .one h r n, a, ha => by rw [List.mem_singleton.mp ha]; exact n
  | _, _, _, .more h r s n1 n2 n3 n4, a, ha => fun hb => by
    rcases List.mem_cons.mp ha with e | ha
    · subst e
      rcases List.mem_append.mp hb with q | q
      · exact n1 q
      · exact n3 q
    · rcases List.mem_append.mp hb with q | q
      · exact (n4 a q).1 ha
      · exact s.apart a ha q
theorem Spn.fold {H : Hp} : ∀ {u : Addr} {us T : List Addr} {st : Sts}, Spn H (u :: us) T st → ∃ xs S, H u = some (.lst xs) ∧ Bus H S xs (fold st) ∧ u ∉ S ∧ ∀ a ∈ S, a ∈ us ∨ a ∈ T
  | _, _, _, _, .one h r n => ⟨_, _, h, r, n, fun a ha => .inr ha⟩
  | _, _, _, _, .more (r := r0) h r s n1 n2 n3 n4 => by
    obtain ⟨xs', S', e1, e2, e3, e4⟩ := s.fold
    cases r0 with
    | nil => cases s
    | cons r1 rs =>
      refine ⟨_, _, h, Bus.append r (Bu.one (Bu.lst e1 e2 e3)) fun a ha hb => ?_, fun hb => ?_, fun a ha => ?_⟩
      · rcases List.mem_cons.mp hb with e | hb
        · exact (n4 a ha).1 (by simp [e])
        · rcases e4 a hb with q | q
          · exact (n4 a ha).1 (by simp [q])
          · exact (n4 a ha).2 q
      · rcases List.mem_append.mp hb with q | q
        · exact n1 q
        · rcases List.mem_cons.mp q with e | q
          · exact n2 (by simp [e])
          · rcases e4 _ q with q | q
            · exact n2 (by simp [q])
            · exact n3 q
      · rcases List.mem_append.mp ha with q | q
        · exact .inr (by simp [q])
        · rcases List.mem_cons.mp q with e | q
          · exact .inl (by simp [e])
          · rcases e4 _ q with q | q
            · exact .inl (by simp [q])
            · exact .inr (by simp [q])
theorem Spn.cut {H : Hp} : ∀ {n : Nat} {us T : List Addr} {st : Sts}, Spn H us T st → 1 ≤ n → n ≤ us.length → ∃ T', Spn H (us.take n) T' (closeTo n st) ∧ ∀ a ∈ T', a ∈ us ∨ a ∈ T
  | 0, _, _, _, _, h, _ => by omega
  | 1, u :: us, T, st, s, _, _ => by
    obtain ⟨xs, S, e1, e2, e3, e4⟩ := s.fold
    have hc : closeTo 1 st = [Z.fold st] := by
      cases st with
      | nil => cases s
      | cons a r => rfl
    rw [hc]
    exact ⟨S, .one e1 e2 e3, fun a ha => (e4 a ha).imp (fun q => List.mem_cons_of_mem _ q) id⟩
  | n + 2, u :: us, T, st, s, _, hn => by
    cases s with
    | one => simp at hn
    | @more _ u' us xs S T ds r h r0 s n1 n2 n3 n4 =>
      obtain ⟨T', s', hT⟩ := s.cut (n := n + 1) (by omega) (by simpa using hn)
      refine ⟨S ++ T', .more h r0 s' n1 (fun q => n2 ?_) (fun q => ?_) (fun a ha => ⟨fun q => (n4 a ha).1 ?_, fun q => ?_⟩), fun a ha => ?_⟩
      · exact List.mem_of_mem_take (i := n + 1) q
      · rcases hT _ q with q | q
        · exact n2 q
        · exact n3 q
      · exact List.mem_of_mem_take (i := n + 1) q
      · rcases hT _ q with q | q
        · exact (n4 a ha).1 q
        · exact (n4 a ha).2 q
      · rcases List.mem_append.mp ha with q | q
        · exact .inr (by simp [q])
        · rcases hT _ q with q | q
          · exact .inl (List.mem_cons_of_mem _ q)
          · exact .inr (by simp [q])
theorem Spn.hd {H : Hp} {us T : List Addr} {st : Sts} (s : Spn H us T st) : ∃ u r, us = u :: r := by
  cases s <;> exact ⟨_, _, rfl⟩
/-- the innermost one -/
theorem Spn.last {H : Hp} : ∀ {us T : List Addr} {st : Sts}, Spn H us T st → ∃ ini u xs ds, us = ini ++ [u] ∧ u ∉ ini ∧ u ∉ T ∧ H u = some (.lst xs) ∧ xs.length = ds.length ∧ ds ∈ st ∧
    (∀ (p : Addr) H', H' u = some (.lst (xs ++ [.ref p])) → H' p = some (.lst []) → But [u, p] H H' → p ∉ us → p ∉ T → Spn H' (us ++ [p]) T (st ++ [[]])) ∧
    ∀ x H', H' u = some (.lst (xs ++ [.str x])) → But [u] H H' → Spn H' us T (putLast st (.str x))
  | _, _, _, .one (u := u) (xs := xs) (S := S) (ds := ds) h r n => by
    refine ⟨[], u, xs, ds, rfl, by simp, n, h, r.length, by simp, fun p H' h1 h2 b np nT => ?_, fun x H' h1 b => ?_⟩
    · have e : S ++ [] = S := List.append_nil S
      have := Spn.more (u := u) (u' := p) (us := []) (xs := xs) (S := S) (T := []) (ds := ds) (r := [[]]) h1 (r.but b fun a ha hb => by
        rcases List.mem_cons.mp hb with e | hb
        · exact n (e ▸ ha)
        · exact nT (List.mem_singleton.mp hb ▸ ha)) (.one h2 .nil (by simp)) n (fun q => np (by rw [List.mem_singleton.mp q]; simp)) (by simp) (fun a ha => ⟨fun q => nT (List.mem_singleton.mp q ▸ ha), by simp⟩)
      rw [e] at this
      exact this
    · have := Bus.append (r.but b fun a ha hb => n (List.mem_singleton.mp hb ▸ ha)) (Bu.one (.str (H := H') x)) (by simp)
      rw [List.append_nil] at this
      exact .one h1 this n
  | _, _, _, .more (u := u) (u' := u') (us := us) (xs := xs) (S := S) (T := T) (ds := ds) (r := r) h r0 s n1 n2 n3 n4 => by
    obtain ⟨ini, v, ys, es, e1, e2, e3, e4, e5, e6, f1, f2⟩ := s.last
    have hv : v ∈ u' :: us := by rw [e1]; simp
    have huv : u ≠ v := fun z => n2 (z ▸ hv)
    refine ⟨u :: ini, v, ys, es, by rw [e1]; rfl, fun q => ?_, fun q => ?_, e4, e5, List.mem_cons_of_mem _ e6, fun p H' h1 h2 b np nT => ?_, fun x H' h1 b => ?_⟩
    · rcases List.mem_cons.mp q with z | q
      · exact huv z.symm
      · exact e2 q
    · rcases List.mem_append.mp q with q | q
      · exact (n4 v q).1 hv
      · exact e3 q
    · have hup : u ≠ p := fun z => np (by rw [z]; simp)
      have s' := f1 p H' h1 h2 b (fun q => np (List.mem_cons_of_mem _ q)) fun q => nT (by simp [q])
      have rr : (u' :: us) ++ [p] = u' :: (us ++ [p]) := rfl
      rw [rr] at s'
      refine .more (b _ _ (by simp [huv, hup]) h) (r0.but b fun a ha hb => ?_) s' n1 (fun q => ?_) n3 fun a ha => ⟨fun q => ?_, (n4 a ha).2⟩
      · rcases List.mem_cons.mp hb with z | hb
        · exact (n4 a ha).1 (z ▸ hv)
        · exact nT (by rw [← List.mem_singleton.mp hb]; simp [ha])
      · rcases List.mem_append.mp (show u ∈ (u' :: us) ++ [p] from q) with q | q
        · exact n2 q
        · exact hup (List.mem_singleton.mp q)
      · rcases List.mem_append.mp (show a ∈ (u' :: us) ++ [p] from q) with q | q
        · exact (n4 a ha).1 q
        · exact nT (by rw [← List.mem_singleton.mp q]; simp [ha])
    · have s' := f2 x H' h1 b
      have hp : putLast (ds :: r) (.str x) = ds :: putLast r (.str x) := by
        cases r with
        | nil => cases s
        | cons a rs => rfl
      rw [hp]
      exact .more (b _ _ (by simp [huv]) h) (r0.but b fun a ha hb => (n4 a ha).1 (List.mem_singleton.mp hb ▸ hv)) s' n1 n2 n3 n4
theorem cutV_toV (ys : List V) (n : Nat) : cutV ys none (some (n : Int)) = ys.take n := by
  unfold cutV
  rw [HT.sIx_nat, HT.sIx_none, List.drop_zero, Nat.sub_zero]
  by_cases h : n ≤ ys.length
  · rw [Nat.min_eq_left h]
  · rw [Nat.min_eq_right (by omega), List.take_of_length_le (Nat.le_refl _), List.take_of_length_le (by omega)]
theorem cutV_fromV (ys : List V) (n : Nat) : cutV ys (some (n : Int)) none = ys.drop n := by
  unfold cutV
  rw [HT.sIx_nat, HT.sIx_none]
  by_cases h : n ≤ ys.length
  · rw [Nat.min_eq_left h, List.take_of_length_le (by rw [List.length_drop]; omega)]
  · rw [Nat.min_eq_right (by omega), List.drop_of_length_le (Nat.le_refl _), List.drop_of_length_le (by omega)]
    simp
mutual
theorem Bu.there {H : Hp} {S : List Addr} {v : V} {d : PyData} : Bu H S v d → ∀ a ∈ S, ∃ xs, H a = some (.lst xs)
  | .str x, a, h => by simp at h
  | .lst h r m, a, ha => by
    rcases List.mem_cons.mp ha with e | ha
    · rw [e]; exact ⟨_, h⟩
    · exact Bus.there r a ha
theorem Bus.there {H : Hp} {S : List Addr} {vs : List V} {ds : List PyData} : Bus H S vs ds → ∀ a ∈ S, ∃ xs, H a = some (.lst xs)
  | .nil, a, h => by simp at h
  | .cons h r m, a, ha => by
    rcases List.mem_append.mp ha with q | q
    · exact Bu.there h a q
    · exact Bus.there r a q
end
theorem Spn.there {H : Hp} : ∀ {us T : List Addr} {st : Sts}, Spn H us T st → ∀ a, a ∈ us ∨ a ∈ T → ∃ xs, H a = some (.lst xs)
  | _, _, _, .one h r n, a, ha => by
    rcases ha with ha | ha
    · rw [List.mem_singleton.mp ha]; exact ⟨_, h⟩
    · exact r.there a ha
  | _, _, _, .more h r s n1 n2 n3 n4, a, ha => by
    rcases ha with ha | ha
    · rcases List.mem_cons.mp ha with e | ha
      · rw [e]; exact ⟨_, h⟩
      · exact s.there a (.inl ha)
    · rcases List.mem_append.mp ha with q | q
      · exact r.there a q
      · exact s.there a (.inr q)
/-- one level down: the last one -/
theorem Spn.down {H : Hp} : ∀ {us T : List Addr} {st : Sts}, Spn H us T st → ∀ (j : Nat) (u v : Addr), us[j]? = some u → us[j + 1]? = some v → ∃ xs, H u = some (.lst (xs ++ [.ref v]))
  | _, _, _, .one .., j, u, v, _, h => by simp at h
  | _, _, _, .more h r s n1 n2 n3 n4, 0, u, v, h1, h2 => by
    simp at h1 h2
    subst h1
    subst h2
    exact ⟨_, h⟩
  | _, _, _, .more h r s n1 n2 n3 n4, j + 1, u, v, h1, h2 => s.down j u v (by simpa using h1) (by simpa using h2)
theorem closeTo_all : ∀ {n : Nat} {st : Sts}, st.length = n → closeTo n st = st
  | 0, [], _ => rfl
  | 1, [a], _ => rfl
  | n + 2, a :: r, h => by
    show a :: closeTo (n + 1) r = a :: r
    rw [closeTo_all (by simpa using h)]
end Z

set_option Elab.async false
set_option linter.all false
set_option maxRecDepth 100000
set_option maxHeartbeats 4000000
/-! rows of texts: parts, one behind the other, many times; the new state told by what it holds -/
namespace Z
open PySem PySem.Spec PyProof.Rows L2
theorem cut_mid (ys : List V) (a b : Nat) (h : a ≤ b) : cutV ys (some (a : Int)) (some (b : Int)) = (ys.drop a).take (b - a) := by
  unfold cutV
  rw [HT.sIx_nat, HT.sIx_nat]
  by_cases ha : a ≤ ys.length
  · rw [Nat.min_eq_left ha]
    by_cases hb : b ≤ ys.length
    · rw [Nat.min_eq_left hb]
    · rw [Nat.min_eq_right (by omega), List.take_of_length_le (by rw [List.length_drop]; omega), List.take_of_length_le (by rw [List.length_drop]; omega)]
  · have e : List.drop a ys = [] := List.drop_of_length_le (by omega)
    have e2 : List.drop (min a ys.length) ys = [] := List.drop_of_length_le (by omega)
    rw [e, e2]
    simp
/-- the row ys of texts stands at q -/
def RowS (H : Hp) (q : Addr) (ys : List Str) : Prop := H q = some (.lst (ys.map V.str))
theorem RowS.new {H H' : Hp} {q : Addr} {ys : List Str} (h : RowS H q ys) (b : But [] H H') : RowS H' q ys := b _ _ (by simp) h
section
variable {X : Cx} {σ : L2.St} {H : Hp} {Q : VK} {q r : Addr} {xs ys : List Str} {a b n : Nat}
theorem rs_to {K : PySem.W.Frag} (h : RowS H q ys) (k : ∀ p H', But [] H H' → H p = none → RowS H' p (ys.take a) → Q (.ref p) H') : rSlL K (.ref q) none (some (a : Int)) H Q :=
  ⟨q, _, rfl, .inl (.inl h), fun p hp => k p _ (But.new hp) hp (by rw [cutV_toV]; unfold RowS; rw [upd_same, List.map_take])⟩
theorem rs_from {K : PySem.W.Frag} (h : RowS H q ys) (k : ∀ p H', But [] H H' → H p = none → RowS H' p (ys.drop a) → Q (.ref p) H') : rSlL K (.ref q) (some (a : Int)) none H Q :=
  ⟨q, _, rfl, .inl (.inl h), fun p hp => k p _ (But.new hp) hp (by rw [cutV_fromV]; unfold RowS; rw [upd_same, List.map_drop])⟩
theorem rs_mid {K : PySem.W.Frag} (hab : a ≤ b) (h : RowS H q ys) (k : ∀ p H', But [] H H' → H p = none → RowS H' p ((ys.drop a).take (b - a)) → Q (.ref p) H') : rSlL K (.ref q) (some (a : Int)) (some (b : Int)) H Q :=
  ⟨q, _, rfl, .inl (.inl h), fun p hp => k p _ (But.new hp) hp (by rw [cut_mid _ _ _ hab]; unfold RowS; rw [upd_same, List.map_take, List.map_drop])⟩
theorem o_catS (h1 : RowS H q xs) (h2 : RowS H r ys) (hn : xs.length + ys.length ≤ 1000000) (k : ∀ p H', But [] H H' → H p = none → RowS H' p (xs ++ ys) → Q (.ref p) H') : oW X (binaryOp .Add) (.ref q) (.ref r) H Q :=
  o_cat h1 h2 (by rw [sizeLine_eq, List.length_map, List.length_map]; omega) fun p hp => k p _ (But.new hp) hp (by unfold RowS; rw [upd_same, List.map_append])
theorem o_repS (h1 : RowS H q xs) (hn : xs.length * n ≤ 1000000) (hn2 : n ≤ 1000000) (k : ∀ p H', But [] H H' → H p = none → RowS H' p (List.replicate n xs).flatten → Q (.ref p) H') : oW X (binaryOp .Mult) (.ref q) (.int n) H Q :=
  o_rep h1 (by rw [sizeLine_eq, List.length_map]; omega) (by omega) fun p hp => k p _ (But.new hp) hp (by unfold RowS; rw [upd_same, List.map_flatten, List.map_replicate])
end
end Z

set_option Elab.async false
set_option linter.all false
set_option maxRecDepth 100000
set_option maxHeartbeats 4000000
/-! a comprehension that keeps some -/
namespace Z
open PySem PySem.Spec PyProof.Rows L2
def keepL : List Bool → List V → List V
  | b :: bs, x :: xs => if b = true then x :: keepL bs xs else keepL bs xs
  | _, _ => []
theorem keepL_snoc {b : Bool} {x : V} : ∀ {bs : List Bool} {xs : List V}, bs.length = xs.length → keepL (bs ++ [b]) (xs ++ [x]) = keepL bs xs ++ (if b = true then [x] else [])
  | [], [], _ => by cases b <;> rfl
  | c :: bs, z :: xs, h => by
    have ih := keepL_snoc (b := b) (x := x) (bs := bs) (xs := xs) (by simpa using h)
    show (if c = true then z :: keepL (bs ++ [b]) (xs ++ [x]) else keepL (bs ++ [b]) (xs ++ [x])) = (if c = true then z :: keepL bs xs else keepL bs xs) ++ _
    rw [ih]
    cases c <;> rfl
  | [], _ :: _, h => by simp at h
  | _ :: _, [], h => by simp at h
theorem keepL_len : ∀ {bs : List Bool} {xs : List V}, (keepL bs xs).length ≤ xs.length
  | [], _ => by simp [keepL]
  | _ :: _, [] => by simp [keepL]
  | b :: bs, x :: xs => by
    have := keepL_len (bs := bs) (xs := xs)
    show (if b = true then x :: keepL bs xs else keepL bs xs).length ≤ _
    cases b <;> simp <;> omega
theorem keepL_dds {K : PySem.W.Frag} {l : List Addr} {H : Hp} {f : PyData → Bool} : ∀ {xs : List V} {ds : List PyData}, DDs K l H xs ds → DDs K l H (keepL (ds.map f) xs) (ds.filter f)
  | _, _, .nil => .nil
  | _, _, .cons (v := x) (d := d) h r => by
    have ih := keepL_dds (f := f) r
    rw [List.map_cons, List.filter_cons]
    show DDs K l H (if f d = true then x :: keepL _ _ else keepL _ _) _
    cases f d with
    | true => exact .cons h ih
    | false => exact ih
section
variable {X : Cx} {k : Nat} {W : WX} {σ : L2.St} {H : Hp} {pos : Pos} {Q : VK} {iter c : Expr} {scope : Scope} {y : Str} {p p2 : Pos}
/-- the target is a name, one test -/
theorem lc_test {vs : List Nat} {i : Nat} {elt : Expr} {D : Addr} {x : V} {Nx : Hp → Prop} (hN : X.N.Nodup)
    (h : ∀ s H0 C cl fp, wT (X.blk s H0 scope (compEnvC scope cl C X.env) fp) c ((wipe σ vs).set i (some x)) H fun b H3 => if b = true then wEb X scope elt ((wipe σ vs).set i (some x)) H3 fun y H4 => ∃ acc, H4 D = some (.lst acc) ∧ acc.length < sizeLine ∧ Nx (upd H4 D (.lst (acc ++ [y]))) else Nx H3)
    (hw : wipe ((wipe σ vs).set i (some x)) vs = wipe σ vs := by rfl) (hi : X.N[i]? = some y := by rfl)
    (hx : Loc (relS scope X.env.scope) y := by first | exact Or.inl rfl | exact Or.inr rfl) (hf : (scope.names.lookup y == some .cell) = true ∨ (relS scope X.env.scope).names.lookup y = some .local := by first | exact .inl rfl | exact .inr rfl) :
    LcTurn X scope vs (.Name y p) [c] elt σ D x H Nx := by
  intro s H0 C cl fp
  refine g_name (i := i) ?_ hN hi hx hf
  exact ⟨hw, fun s H0 C cl fp => eIf (pts_one pT) (h s H0 C cl fp)⟩
/-- what is walked is kept where the test says so; nothing is changed -/
theorem lcF_core {J : It} {n : Nat} {G : Hp → Prop} {Y : Nat → Hp → V → Hp → Prop} {vs : List Nat} {elt : Expr} {i : Nat} {H1 : Hp} {xs : List V} {bs : List Bool} (hN : X.N.Nodup) (w : Walk J n G Y) (hn : xs.length = n) (hb : bs.length = n) (hz : n ≤ sizeLine) (hG : ∀ H', But [] H1 H' → G H')
    (ht : ∀ j x H2 H', j < n → But [] H1 H2 → Y j H2 x H' → H' = H2 ∧ xs[j]? = some x ∧ ∀ s H0 C cl fp, wT (X.blk s H0 scope (compEnvC scope cl C X.env) fp) c ((wipe σ vs).set i (some x)) H2 fun b H3 => bs[j]? = some b ∧ But [] H2 H3 ∧ (b = true → wEb X scope elt ((wipe σ vs).set i (some x)) H3 fun y H4 => y = x ∧ But [] H3 H4))
    {Qd : Addr → Hp → Prop} (hq : ∀ D H', But [] H1 H' → H1 D = none → H' D = some (.lst (keepL bs xs)) → Qd D H')
    (hw : ∀ x, wipe ((wipe σ vs).set i (some x)) vs = wipe σ vs := by intro _; rfl) (hi : X.N[i]? = some y := by rfl)
    (hx : Loc (relS scope X.env.scope) y := by first | exact Or.inl rfl | exact Or.inr rfl) (hf : (scope.names.lookup y == some .cell) = true ∨ (relS scope X.env.scope).names.lookup y = some .local := by first | exact .inl rfl | exact .inr rfl) : ∀ D, H1 D = none → ∃ Pv : Nat → Hp → Prop, Pv 0 (upd H1 D (.lst [])) ∧ (∀ i H, i ≤ n → Pv i H → G H) ∧
      (∀ i x H H', i < n → Pv i H → Y i H x H' → LcTurn X scope vs (.Name y p) [c] elt σ D x H' (Pv (i + 1))) ∧ ∀ H, Pv n H → Qd D H := by
  intro D hD
  refine ⟨fun j H' => But [] H1 H' ∧ H' D = some (.lst (keepL (bs.take j) (xs.take j))), ⟨But.new hD, by rw [upd_same]; rfl⟩, fun j H' _ h => hG H' h.1, ?_, fun H' h => hq D H' h.1 hD (by
    have h2 := h.2
    rw [List.take_of_length_le (by omega), List.take_of_length_le (by omega)] at h2
    exact h2)⟩
  intro j x H2 H' hj hP hY
  obtain ⟨rfl, hxj, hT⟩ := ht j x H2 H' hj hP.1 hY
  refine lc_test (i := i) hN (fun s H0 C cl fp => ⟨fun pins s2 I => thn ((hT s H0 C cl fp).run pins s2 I) fun b s3 h3 => ?_⟩) (hw x) hi hx hf
  obtain ⟨H3, I3, hbj, b3, hE⟩ := h3
  refine ⟨H3, I3, ?_⟩
  have e1 : bs.take (j + 1) = bs.take j ++ [b] := by rw [List.take_add_one, hbj]; rfl
  have e2 : xs.take (j + 1) = xs.take j ++ [x] := by rw [List.take_add_one, hxj]; rfl
  have e3 : keepL (bs.take (j + 1)) (xs.take (j + 1)) = keepL (bs.take j) (xs.take j) ++ (if b = true then [x] else []) := by
    rw [e1, e2, keepL_snoc (by rw [List.length_take, List.length_take]; omega)]
  have hD3 := b3 _ _ (by simp) hP.2
  cases b with
  | false =>
    refine ⟨hP.1.trans b3, ?_⟩
    rw [e3, hD3]
    simp
  | true =>
    show wEb X scope elt _ H3 _
    intro s H0 C cl fp
    refine wE_mono (hE rfl s H0 C cl fp) fun v H4 ⟨hv, b4⟩ => ?_
    subst hv
    have hD4 := b4 _ _ (by simp) hD3
    have hl := keepL_len (bs := bs.take j) (xs := xs.take j)
    rw [List.length_take] at hl
    refine ⟨_, hD4, by omega, fun q o _ e => ?_, by rw [upd_same, e3]; rfl⟩
    rw [upd_ne (ne_of_none e hD)]
    exact b4 _ _ (by simp) (b3 _ _ (by simp) (hP.1 _ _ (by simp) e))
/-- [x for x in xs if c] -/
theorem e_lcF (own : List (Str × Nat)) (C : Cxt X k W) (i : Nat)
    (h : wI X (.Name y p) iter σ H fun J H1 => ∃ n G Y xs bs, Walk J n G Y ∧ xs.length = n ∧ bs.length = n ∧ n ≤ sizeLine ∧ (∀ H', But [] H1 H' → G H') ∧
      (∀ j x H2 H', j < n → But [] H1 H2 → Y j H2 x H' → H' = H2 ∧ xs[j]? = some x ∧ ∀ s H0 C cl fp, wT (X.blk s H0 scope (compEnvC scope cl C X.env) fp) c ((wipe σ (own.map (·.2))).set i (some x)) H2 fun b H3 => bs[j]? = some b ∧ But [] H2 H3 ∧ (b = true → wEb X scope (.Name y p2) ((wipe σ (own.map (·.2))).set i (some x)) H3 fun y H4 => y = x ∧ But [] H3 H4)) ∧
      ∀ D H', But [] H1 H' → H1 D = none → H' D = some (.lst (keepL bs xs)) → Q (.ref D) H')
    (ok : BlkOk X.N X.env.scope scope own := by exact blkOk_by (by first | rfl | kernel_rfl)) (hs : ∀ x, foldedSetIterable iter X.env x = pure x := by intro _; rfl)
    (hw : ∀ x, wipe ((wipe σ (own.map (·.2))).set i (some x)) (own.map (·.2)) = wipe σ (own.map (·.2)) := by intro _; rfl) (hi : X.N[i]? = some y := by rfl)
    (hx : Loc (relS scope X.env.scope) y := by first | exact Or.inl rfl | exact Or.inr rfl) (hf : (scope.names.lookup y == some .cell) = true ∨ (relS scope X.env.scope).names.lookup y = some .local := by first | exact .inl rfl | exact .inr rfl) :
    wE X (.ListComp (.Name y p2) [⟨.Name y p, iter, [c], 0⟩] scope pos) σ H Q :=
  e_lc own C (wI_mono h fun J H1 ⟨n, G, Y, xs, bs, w, h1, h2, h3, h4, h5, h6⟩ => ⟨n, G, Y, w, lcF_core C.nd w h1 h2 h3 h4 h5 h6 hw hi hx hf⟩) ok hs
end
theorem op_isnotB {X : Cx} : OpR X (compareOp .IsNot) (fun x y H Q => ∃ a b : Bool, x = .bl a ∧ y = .bl b ∧ Q (.bl (!decide (a = b))) H) := by
  intro pins s σ H x y v u Q I rx ry h
  obtain ⟨a, b, rfl, rfl, q⟩ := h
  cases rx
  cases ry
  show wpAny _ _ ((isSame (Value.bool a) (Value.bool b)) >>= fun z => pure (Value.bool (!z))) _ _ s
  refine wpAny_bind (wpAny_isSame_plain rfl (wpAny_pure (fin_bl I q ?_)))
  cases a <;> cases b <;> rfl
theorem c_isnotB {X : Cx} {H : Hp} {Q : VK} {a b : Bool} (q : Q (.bl (!decide (a = b))) H) : oW X (compareOp .IsNot) (.bl a) (.bl b) H Q := oW_of op_isnotB ⟨a, b, rfl, rfl, q⟩
end Z

set_option Elab.async false
set_option linter.all false
set_option maxRecDepth 100000
set_option maxHeartbeats 4000000
/-! a, b, .. = a list; a list is not the empty one -/
namespace Z
open PySem PySem.Spec PyProof.Rows L2
def rNeNil (K : PySem.W.Frag) : R2 := fun x y H Q => ∃ (a b : Addr) (xs : List V), x = .ref a ∧ y = .ref b ∧ SqL K H a xs ∧ SqL K H b [] ∧ Q (.bl (!xs.isEmpty)) H
theorem op_neNil {X : Cx} (hu : X.A.units + 64 < cLine) : OpR X (compareOp .NotEq) (rNeNil X.K) := by
  intro pins s σ H x y v u Q I rx ry h
  obtain ⟨a, b, xs, rfl, rfl, ha, hb, q⟩ := h
  cases rx
  cases ry
  obtain ⟨its, rv, pl, hz⟩ := I.list ha
  obtain ⟨its2, rv2, pl2, hz2⟩ := I.list hb
  cases rv2
  have r : SeqAt.RcNeAt X.A s (.ref a) (.ref b) (!xs.isEmpty) := by
    cases xs with
    | nil =>
      cases rv
      exact SeqAt.RcNeAt.lists (e := fun _ => true) pl.isList pl2.isList rfl (by omega) (fun j h _ => absurd h (by simp))
    | cons y l =>
      cases rv
      exact SeqAt.RcNeAt.lists_lengths pl.isList pl2.isList (by simp) (by omega)
  exact r X.prog X.w _ _ ⟨.bl _, H, I, rfl, q⟩
section
variable {X : Cx} {k : Nat} {W : WX} {σ : L2.St} {H : Hp} {es : List Expr}
theorem c_neNil {a b : Addr} {xs : List V} {Q : VK} (C : Cxt X k W) (ha : SqL X.K H a xs) (hb : SqL X.K H b []) (q : Q (.bl (!xs.isEmpty)) H) : oW X (compareOp .NotEq) (.ref a) (.ref b) H Q :=
  oW_of (op_neNil (by have := C.un; omega)) ⟨a, b, xs, rfl, rfl, ha, hb, q⟩
theorem g_lst {k : Nat} {pos : Pos} {p : Addr} {xs : List V} {Q : L2.St → Hp → Prop} (h : wGs X es xs σ H Q) (hc : X.calm = true) (hq : SqL X.K H p xs) (hn : (assignEach es X.env).length = xs.length := by rfl)
    (hst : (assignEach es X.env).findIdx? (·.1) = none := by rfl) : wG X (.Tuple es k pos) (.ref p) σ H Q := eG (pg_lst hc pGs hn hst) ⟨p, xs, rfl, hq, rfl, h⟩
end
end Z

set_option Elab.async false
set_option linter.all false
set_option maxRecDepth 100000
set_option maxHeartbeats 4000000
/-! x != y by the own __eq__ of a class whose __ne__ is object's -/
namespace Z
open PySem PySem.Spec PyProof.Rows L2 C8
section
variable {M : Model} {prog : Program} {w : World} {A : Around} {E : Value → Shared → Prop} {s : Shared} {K : PySem.W.Frag} {x C f : Addr} {ox : Obj} {od : Option Obj} {b : Value}
theorem ifBound_objNe {args : List Value} {Q : Option Value → Shared → Prop} (X : K.In s.heap) (I : PySem.W.InstAt s.heap x ox C od) (hs : PySem.W.findIn K (.ref C) "__ne__" = some (some (.builtin "object.__ne__")))
    (h : wpAny M A (call (.builtin "object.__ne__") (.ref x :: args)) (fun v => Q (some v)) E s) : wpAny M A (callSpecialIfBound? (.ref x) "__ne__" args) Q E s := by
  simp only [callSpecialIfBound?, bindSpecialIfBound?]
  refine wpAny_holding (wpAny_bind (wpAny_bind (wpAny_bind (I.type.here ((PySem.W.looks_findIn X hs).here ?_)))))
  refine wpAny_bind (wpAny_askSetting (wpAny_ite ?_))
  have fin : wpAny M A (call (.builtin "object.__ne__") ([.ref x] ++ args) >>= fun v => pure (some v)) Q E s := wpAny_bind (wpAny_mono h (fun v s' h' => wpAny_pure h') fun _ _ h' => h')
  split
  · exact wpAny_bind (wpAny_of_eq (F.cmp_object.ne.bind _) (wpAny_pure (by exact fin)))
  · exact wpAny_tryCatch (wpAny_bind (wpAny_of_eq (F.cmp_object.ne.bind _) (wpAny_pure (by exact fin))))
theorem entry_ne {Q : Fin → Shared → Prop} (hu : A.units < cLine) (X : K.In s.heap) (I : PySem.W.InstAt s.heap x ox C od) (hs : PySem.W.findIn K (.ref C) "__eq__" = some (some (.ref f))) (hf : PySem.W.isFn K (.ref f) = true)
    (h : wpAny M A (call (.ref f) [.ref x, b]) (fun v s' => v = .bool true ∧ Q (.done (.ret (.bool false))) s') E s) : wpAny M A (Builtin.«object.__ne__» ⟨[.ref x, b], []⟩) Q E s := by
  unfold Builtin.«object.__ne__»
  repeat (first | with_reducible refine wpAny_cRoomFor hu ?_ | with_reducible refine wpAny_bind (PySem.W.ifBound_K X I hs hf (wpAny_mono h (fun v s' z => ?_) fun _ _ e => e)) | wp_step)
  obtain ⟨rfl, q⟩ := z
  exact wpAny_bind (wpAny_truthy_bool (wpAny_pure q))
theorem cmp_objNe {od' : Option Obj} {oy : Obj} {y : Addr} {Q : Value → Shared → Prop} (hu : A.units + 1 < cLine) (X : K.In s.heap) (I : PySem.W.InstAt s.heap x ox C od) (J : PySem.W.InstAt s.heap y oy C od')
    (hn : PySem.W.findIn K (.ref C) "__ne__" = some (some (.builtin "object.__ne__"))) (hm : PySem.W.mroIn K C (.type "object") = some true) (hs : PySem.W.findIn K (.ref C) "__eq__" = some (some (.ref f))) (hf : PySem.W.isFn K (.ref f) = true)
    (h : wpAny (model prog w) A.in1 (call (.ref f) [.ref x, .ref y]) (fun v s' => v = .bool true ∧ Q (.bool false) s') E s) : wpAny (model prog w) A (richCompare .NotEq (.ref x) (.ref y)) Q E s := by
  have hu0 : A.units < cLine := Nat.lt_of_succ_lt hu
  have one : wpAny (model prog w) A (tryCompare (.ref x) "__ne__" (.ref y)) (fun r s' => ∃ v, r = some v ∧ Q v s') E s := by
    unfold tryCompare
    exact wpAny_bind (ifBound_objNe X I hn (wpAny_call (codeAny_call_builtin F.cmp_object.ne.plain F.cmpEntry_ne (PySem.W.check_slot F.cmpKind_ne F.cmpSplit_ne (I.type.andThen (PySem.W.looks_mroIn X hm)) (F.cmpArgs_ne _ _) (entry_ne (A := A.in1) hu X I hs hf (wpAny_mono h (fun v s' z => ⟨z.1, wpAny_pure ⟨_, rfl, z.2⟩⟩) fun _ _ e => e))))))
  simp only [richCompare, cmpInfo_NotEq, oneThing_ref]
  refine wpAny_holding (wpAny_bind (wpAny_cRoomFor hu0 ?_))
  refine wpAny_bind (I.type.here (wpAny_bind (J.type.here ?_)))
  rw [if_neg (by simp)]
  refine wpAny_bind (wpAny_pure ?_)
  simp only [Bool.false_eq_true, if_false]
  refine wpAny_bind (wpAny_mono one (fun r s' z => ?_) fun _ _ e => e)
  obtain ⟨v, rfl, hq⟩ := z
  exact wpAny_pure hq
end
def rNeG (D : Eqv) : R2 := fun x y H Q => D x y H ∧ ∀ H', Ext H H' → Q (.bl false) H'
section
variable {X : Cx} {n : Nat}
theorem op_neG {CX : CXT} {C f : Addr} {fd : FuncData} {ps : List Str} {R : Addr → Addr → Hp → Prop} {E : XK} (F : FnOk X.prog X.w X.K X.mg X.base CX n f fd ps (spEq R)) (hs : PySem.W.findIn X.K (.ref C) "__eq__" = some (some (.ref f))) (hf : PySem.W.isFn X.K (.ref f) = true)
    (hn : PySem.W.findIn X.K (.ref C) "__ne__" = some (some (.builtin "object.__ne__"))) (hm : PySem.W.mroIn X.K C (.type "object") = some true) (hb : Binds X.K fd ps []) (hx : Passes CX X E) (hr : Room (n + 1) X.A) : OpR X (compareOp .NotEq) (rNeG (DIns C R)) := by
  intro pins s σ H x y u v Q I rx ry hq
  obtain ⟨⟨a, b, dx, dy, fs, gs, rfl, rfl, ha, hb', hR⟩, q⟩ := hq
  cases rx
  cases ry
  obtain ⟨mA, J, _⟩ := ins_get I.hok ha
  obtain ⟨mB, J', _⟩ := ins_get I.hok hb'
  obtain ⟨od, J, _⟩ := J.look
  obtain ⟨od', J', _⟩ := J'.look
  obtain ⟨m, hF⟩ := I.fr
  have sb : Sub X (n + 1) X.A := ⟨hr, rfl⟩
  have s1 : Sub X n X.A.in1 := sb.in1
  refine cmp_objNe (f := f) (by have := s1.room.units0; exact this) I.kIn J J' hn hm hs hf ?_
  have hsp : spEq R [.ref a, .ref b] H (fun v H' => v = .bl true ∧ Ext H H') E := ⟨a, b, rfl, hR, fun H' e => ⟨rfl, e⟩⟩
  have e0 : Env0 X.prog X.w X.K X.mg X.base X.A.in1 X.stack s H := by
    have e := I.env0
    exact ⟨by rw [s1.fr]; exact e.frames, e.mod, e.bs, e.bsz, e.funs, e.frf, e.hok, e.bare⟩
  have hl := F.len _ _ _ _ hsp
  have r2 : Vals [V.ref a, V.ref b] [Value.ref a, Value.ref b] := .cons rfl (.cons rfl .nil)
  refine wpAny_call (codeAny_mono (F.run X.A.in1 X.stack s H ⟨[.ref a, .ref b], []⟩ [.ref a, .ref b] [.ref a, .ref b] _ E s1.room e0 (by
    have := hb s [.ref a, .ref b] I.kIn (by simpa using hl)
    simpa using this) r2 hsp) fun r s' hq => ?_)
  cases r with
  | error e => exact hx pins σ H s e s' I hq
  | ok fl =>
    cases fl with
    | ret w =>
      obtain ⟨z, H', I', rz, ez, ex⟩ := I.after hq
      subst ez
      cases rz
      exact ⟨rfl, .bl false, H', I', rfl, q _ ex⟩
    | next => exact False.elim hq
    | brk => exact False.elim hq
    | cont => exact False.elim hq
end
section
variable {X : Cx} {k : Nat} {W : WX} {σ : L2.St} {H : Hp} {Q : VK}
/-- x != y, both alike by the own __eq__ of the class at C -/
theorem c_neI {C : Addr} {ps : List Str} {R : Addr → Addr → Hp → Prop} {y z : V} (Cc : Cxt X (k + 1) W) (M : MethOk X.prog X.w X.K X.mg X.base k C "__eq__" ps (spEq R)) (hn : PySem.W.findIn X.K (.ref C) "__ne__" = some (some (.builtin "object.__ne__"))) (hm : PySem.W.mroIn X.K C (.type "object") = some true)
    (d : DIns C R y z H) (q : ∀ H', But [] H H' → Q (.bl false) H') : oW X (compareOp .NotEq) y z H Q := by
  obtain ⟨f, fd, hmm, F, hb⟩ := M.ex
  exact oW_of (op_neG F hmm.at_ hmm.fn hn hm hb (passes0 Cc.tk) Cc.room) ⟨d, fun H' e => q H' (but_ext e)⟩
end
end Z

set_option Elab.async false
set_option linter.all false
set_option maxRecDepth 100000
set_option maxHeartbeats 4000000
/-! two lists of the same plain values are equal -/
namespace Z
open PySem PySem.Spec PyProof.Rows L2
def SameF : Eqv := fun x y _ => x = y ∧ flatB x = true
theorem mon_same : Mon SameF := fun _ _ _ _ _ d => d
theorem eqG_same {X : Cx} {n : Nat} : EqG X n SameF := by
  intro A pins s σ H x y u v sb I rx ry d
  obtain ⟨e, f⟩ := d
  subst e
  exact eqAt_same rx ry f X.prog X.w X.xe _ ⟨rfl, H, I, Ext.rfl'⟩
section
variable {X : Cx} {k : Nat} {W : WX} {σ : L2.St} {H : Hp} {Q : VK}
theorem c_eqFlat {a b : Addr} {xs : List V} (C : Cxt X (k + 1) W) (ha : H a = some (.lst xs)) (hb : H b = some (.lst xs)) (f : ∀ v ∈ xs, flatB v = true) (q : ∀ H', But [] H H' → Q (.bl true) H') : oW X (compareOp .Eq) (.ref a) (.ref b) H Q :=
  oW_of (op_eqG (n := 1) (rcG_list mon_same (eqG_same (n := 0))) (C.room.mono (by omega))) ⟨⟨a, b, xs, xs, rfl, rfl, ha, hb, rfl, fun i x y h1 h2 => ⟨Option.some.inj (h1.symm.trans h2), f x (List.mem_of_getElem? h1)⟩⟩, fun H' e => q H' (but_ext e)⟩
end
end Z

set_option Elab.async false
set_option linter.all false
set_option maxRecDepth 100000
set_option maxHeartbeats 4000000
/-! one dict put into another (`**`) -/
namespace Z
open PySem
section
variable {prog : Program} {w : World} {K : Type} [DecidableEq K] {knd : KeyKind prog w K} {A : Around} {E : Value → Shared → Prop} {s : Shared}
theorem wpAny_dictPut_pairs {d : Addr} {kvs : List (K × Value)} {k : K} {key v : Value} {Q : Unit → Shared → Prop} (hkey : knd.is k key = true) (hm : s.heap.DictOf knd d kvs)
    (hQ : ∀ h', h'.DictOf knd d (stored kvs k v) → Heap.SameBut d s.heap h' → Q () { s with heap := h' }) (hsz : kvs.length ≤ sizeLine) : wpAny (model prog w) A (dictPut d (knd.hash k) key v) Q E s := by
  obtain ⟨o, es, ep, ho, hc, hd, hk, hp, hn⟩ := hm
  have hes : es.size ≤ sizeLine := by have e1 := hp.length; have e2 : es.toList.length = es.size := by simp
                                      omega
  unfold dictPut
  refine wpAny_bind (wpAny_dictFind_of hkey ho hd hk ?_)
  have hidx : (es.findIdx? fun e => knd.is k e.key) = kvs.findIdx? fun kv => decide (kv.1 = k) := by
    rw [← hp.findIdx k]; obtain ⟨l⟩ := es; simp
  cases hi : es.findIdx? fun e => knd.is k e.key with
  | some i =>
    refine wpAny_updateDict ho hd (hQ _ ⟨_, _, ep, Heap.get?_update_self _ ho (Obj.isFreed_of_dict (Obj.data_mapDict hd _)),
      hc.mapDict _, Obj.data_mapDict hd _, hk.modify _ _, ?_, ?_⟩ (Heap.SameBut.update ..))
    · rw [stored, if_pos (any_of_findIdx_some (hidx ▸ hi))]
      have hl : (es.toList.findIdx? fun e => knd.is k e.key) = some i := by rw [← hi]; obtain ⟨l⟩ := es; simp
      have := hp.modify hn hl v
      obtain ⟨l⟩ := es
      simpa using this
    · rw [stored, if_pos (any_of_findIdx_some (hidx ▸ hi)), keys_map_store]; exact hn
  | none =>
    have hnot : k ∉ kvs.map (·.1) := not_mem_of_findIdx_none (hidx ▸ hi)
    have hany : ¬ (kvs.any fun kv => decide (kv.1 = k)) = true := by
      rw [List.any_eq_true]; rintro ⟨kv, hkv, he⟩
      exact hnot (List.mem_map.mpr ⟨kv, hkv, of_decide_eq_true he⟩)
    refine wpAny_updateDictKeys (hz := hes) ho hd (hQ _ ⟨_, _, ep + 1, Heap.get?_update_self _ ho (Obj.isFreed_of_dict (Obj.data_mapDictKeys hd _)),
      hc.mapDictKeys _, Obj.data_mapDictKeys hd _, hk.push hkey _, ?_, ?_⟩ (Heap.SameBut.update ..))
    · rw [stored, if_neg hany]
      have := hp.append hkey (knd.hash k) v
      obtain ⟨l⟩ := es
      simpa using this
    · rw [stored, if_neg hany, List.map_append, List.nodup_append]
      refine ⟨hn, by simp, ?_⟩
      intro a ha b hb
      simp only [List.map_cons, List.map_nil, List.mem_singleton] at hb
      subst hb
      exact fun e => hnot (e ▸ ha)
/-- the key is not there -/
theorem wpAny_dictFind_none {d : Addr} {kvs : List (K × Value)} {k : K} {key : Value} {Q : Option Nat → Shared → Prop} (hkey : knd.is k key = true) (hm : s.heap.DictOf knd d kvs) (hno : k ∉ kvs.map (·.1)) (hQ : Q none s) : wpAny (model prog w) A (dictFind d key (knd.hash k)) Q E s := by
  obtain ⟨o, es, ep, ho, hc, hd, hk, hp, hn⟩ := hm
  refine wpAny_dictFind_of hkey ho hd hk ?_
  have hidx : (es.findIdx? fun e => knd.is k e.key) = kvs.findIdx? fun kv => decide (kv.1 = k) := by
    rw [← hp.findIdx k]; obtain ⟨l⟩ := es; simp
  have : (kvs.findIdx? fun kv => decide (kv.1 = k)) = none := List.findIdx?_eq_none_iff.mpr fun x hx => decide_eq_false fun e => hno (List.mem_map.mpr ⟨x, hx, e⟩)
  rw [hidx, this]
  exact hQ
theorem wpAny_mergeMapping {d o : Addr} {kvs more : List (K × Value)} {u : Bool} {Q : Unit → Shared → Prop} (hdo : d ≠ o) (hoS : (o == sysModules) = false) (hu : u = true → kvs = [])
    (hd : s.heap.DictOf knd d kvs) (ho : s.heap.DictOf knd o more)
    (hQ : ∀ h', h'.DictOf knd d (merged kvs more) → h'.DictOf knd o more → Heap.SameBut d s.heap h' → Q () { s with heap := h' })
    (hsz : kvs.length + more.length ≤ sizeLine) : wpAny (model prog w) A (mergeMapping d (.ref o) u) Q E s := by
  have hT : s.TypeIs (.ref o) "dict" := ho.typeIs
  obtain ⟨od, esd, epd, hod, hcd, hdd, hkd, hpd, hnd⟩ := id hd
  obtain ⟨oo, eso, epo, hoo, hco, hdo', hko, hpo, hno⟩ := id ho
  have hlen : more.length = eso.size := by rw [← hpo.length]; simp
  unfold mergeMapping
  have sub : isSubtype (.type "dict") (.type "dict") = pure true := by rw [isSubtype_type]; kernel_rfl
  refine wpAny_bind (wpAny_isInstance (b := true) hT sub ?_)
  rw [if_pos rfl]
  refine wpAny_bind (wpAny_specialOf hT F.slot_dict_iter.lookup (wpAny_bind (wpAny_pure ?_)))
  have e1 : (some (Value.builtin "dict.__iter__") == some (Value.builtin "dict.__iter__")) = true := by simp
  rw [e1]
  dsimp only
  rw [hoS]
  simp only [Bool.false_eq_true, if_false]
  refine wpAny_bind (wpAny_dictEntries hod hdd ?_)
  split
  · refine wpAny_bind (wpAny_dictEntries hoo hdo' ?_)
    refine wpAny_bind (wpAny_of_eq (a := PUnit.unit) ?_ ?_)
    · rw [← Array.forIn_toList]
      refine forIn_yield_id _ fun e he c => ?_
      obtain ⟨k, hkey, _⟩ := hko e (Array.mem_toList_iff.mp he)
      have bv := knd.byValue k _ hkey
      cases hke : e.key <;> first | rfl | (rw [hke] at bv; cases bv)
    refine wpAny_bind (wpAny_dictEntries hoo hdo' (wpAny_bind (wpAny_dictEpoch hoo hdo' (wpAny_bind ?_))))
    rw [List.range_eq_range']
    refine wpAny_forIn_list _
      (fun rest _ s' => ∃ h' i, s' = { s with heap := h' } ∧ rest = List.range' i (eso.size - i) ∧ i ≤ eso.size ∧ h'.DictOf knd d (merged kvs (more.take i)) ∧ h'.get? o = some oo ∧ Heap.SameBut d s.heap h')
      _ ?_ ?_ _ _ ⟨s.heap, 0, rfl, by simp, Nat.zero_le _, by simpa [merged] using hd, hoo, Heap.SameBut.refl _ _⟩
    · rintro x rest b s' ⟨h', i, rfl, hr, hi, hd', hoo', hs'⟩
      have hlt : i < eso.size := by
        rcases Nat.lt_or_ge i eso.size with h | h
        · exact h
        · rw [Nat.sub_eq_zero_of_le h] at hr; simp at hr
      obtain ⟨rfl, hrest⟩ : x = i ∧ rest = List.range' (i + 1) (eso.size - (i + 1)) := by
        have e : eso.size - i = (eso.size - (i + 1)) + 1 := by omega
        rw [e, List.range'_succ] at hr
        injection hr with h1 h2
        exact ⟨h1, h2⟩
      refine wpAny_bind (wpAny_dictEntries hoo' hdo' ?_)
      rw [Array.getElem?_eq_getElem hlt]
      obtain ⟨kv, hkv⟩ : ∃ kv, more[x]? = some kv := ⟨more[x]'(by rw [hlen]; exact hlt), List.getElem?_eq_getElem _⟩
      obtain ⟨k, v⟩ := kv
      obtain ⟨hkey, hval⟩ := hpo.get? (e := eso[x]) (by simp [hlt]) hkv
      obtain ⟨k', hkey', hhash⟩ := hko eso[x] (Array.getElem_mem hlt)
      obtain rfl : k' = k := knd.inj _ _ _ hkey' hkey
      dsimp only
      rw [hhash, hval]
      have hmx : (merged kvs (more.take x)).length ≤ sizeLine := by
        have e1 := merged_length_le kvs (more.take x)
        have e2 : (more.take x).length ≤ more.length := by rw [List.length_take]; omega
        omega
      have fin : ∀ h'', h''.DictOf knd d (stored (merged kvs (more.take x)) k' v) → Heap.SameBut d h' h'' → ∃ h3 i, ({ s with heap := h'' } : Shared) = { s with heap := h3 } ∧ rest = List.range' i (eso.size - i) ∧ i ≤ eso.size ∧ h3.DictOf knd d (merged kvs (more.take i)) ∧ h3.get? o = some oo ∧ Heap.SameBut d s.heap h3 := fun h'' hd'' hs'' =>
        ⟨h'', x + 1, rfl, hrest, hlt, by rw [merged_take_succ kvs more x (k', v) hkv]; exact hd'', (hs''.2 o (Ne.symm hdo)).trans hoo', hs'.trans hs''⟩
      have put : wpAny (model prog w) A (dictPut d (knd.hash k') eso[x].key v) (fun _ s1 => ∃ h'', s1 = { s with heap := h'' } ∧ h''.get? o = some oo ∧ ∃ h3 i, ({ s with heap := h'' } : Shared) = { s with heap := h3 } ∧ rest = List.range' i (eso.size - i) ∧ i ≤ eso.size ∧ h3.DictOf knd d (merged kvs (more.take i)) ∧ h3.get? o = some oo ∧ Heap.SameBut d s.heap h3) E { s with heap := h' } :=
        wpAny_dictPut_pairs hkey hd' (fun h'' hd'' hs'' => ⟨h'', rfl, (hs''.2 o (Ne.symm hdo)).trans hoo', fin h'' hd'' hs''⟩) hmx
      refine wpAny_bind (wpAny_holding (wpAny_mono (?_ : wpAny _ _ _ (fun _ s1 => ∃ h'', s1 = { s with heap := h'' } ∧ h''.get? o = some oo ∧ ∃ h3 i, ({ s with heap := h'' } : Shared) = { s with heap := h3 } ∧ rest = List.range' i (eso.size - i) ∧ i ≤ eso.size ∧ h3.DictOf knd d (merged kvs (more.take i)) ∧ h3.get? o = some oo ∧ Heap.SameBut d s.heap h3) _ _) (fun _ s1 z => ?_) fun _ _ e => e))
      · cases u with
        | false => exact put
        | true =>
          have hk0 := hu rfl
          subst hk0
          rw [if_pos rfl]
          refine wpAny_bind (wpAny_dictFind_none hkey hd' ?_ ?_)
          · rw [merged_nil_of_nodup _ (List.Nodup.sublist (List.Sublist.map _ (List.take_sublist ..)) hno)]
            intro hmem
            obtain ⟨kv, hm, he⟩ := List.mem_map.mp hmem
            obtain ⟨j, hj, ej⟩ := List.mem_iff_getElem.mp hm
            have hjx : j < x := by rw [List.length_take] at hj; omega
            have h1 : (more.map (·.1))[j]? = some k' := by
              rw [List.getElem_take] at ej
              rw [List.getElem?_map, List.getElem?_eq_getElem (by omega), ej, ← he]; rfl
            have h2 : (more.map (·.1))[x]? = some k' := by rw [List.getElem?_map, hkv]; rfl
            have := (List.getElem?_inj (i := j) (by rw [List.length_map, hlen]; omega) hno).mp (h1.trans h2.symm)
            omega
          · rw [if_neg (by simp)]
            exact put
      · obtain ⟨h'', rfl, ho'', q⟩ := z
        refine wpAny_bind (wpAny_dictEpoch ho'' hdo' ?_)
        rw [if_neg (by simp)]
        exact wpAny_pure q
    · rintro b s' ⟨h', i, rfl, hr, hi, hd', hoo', hs'⟩
      have hin : i = eso.size := by
        rcases Nat.lt_or_ge i eso.size with h | h
        · have e : eso.size - i = (eso.size - (i + 1)) + 1 := by omega
          rw [e, List.range'_succ] at hr; exact nomatch hr
        · exact Nat.le_antisymm hi h
      refine wpAny_pure (hQ h' ?_ ⟨oo, eso, epo, hoo', hco, hdo', hko, hpo, hno⟩ hs')
      rw [hin, ← hlen, List.take_length] at hd'; exact hd'
  · skip
    refine wpAny_bind (wpAny_dictEntries hoo hdo' (wpAny_bind (wpAny_dictEpoch hoo hdo' (wpAny_bind ?_))))
    rw [List.range_eq_range']
    refine wpAny_forIn_list _
      (fun rest _ s' => ∃ h' i, s' = { s with heap := h' } ∧ rest = List.range' i (eso.size - i) ∧ i ≤ eso.size ∧ h'.DictOf knd d (merged kvs (more.take i)) ∧ h'.get? o = some oo ∧ Heap.SameBut d s.heap h')
      _ ?_ ?_ _ _ ⟨s.heap, 0, rfl, by simp, Nat.zero_le _, by simpa [merged] using hd, hoo, Heap.SameBut.refl _ _⟩
    · rintro x rest b s' ⟨h', i, rfl, hr, hi, hd', hoo', hs'⟩
      have hlt : i < eso.size := by
        rcases Nat.lt_or_ge i eso.size with h | h
        · exact h
        · rw [Nat.sub_eq_zero_of_le h] at hr; simp at hr
      obtain ⟨rfl, hrest⟩ : x = i ∧ rest = List.range' (i + 1) (eso.size - (i + 1)) := by
        have e : eso.size - i = (eso.size - (i + 1)) + 1 := by omega
        rw [e, List.range'_succ] at hr
        injection hr with h1 h2
        exact ⟨h1, h2⟩
      refine wpAny_bind (wpAny_dictEntries hoo' hdo' ?_)
      rw [Array.getElem?_eq_getElem hlt]
      obtain ⟨kv, hkv⟩ : ∃ kv, more[x]? = some kv := ⟨more[x]'(by rw [hlen]; exact hlt), List.getElem?_eq_getElem _⟩
      obtain ⟨k, v⟩ := kv
      obtain ⟨hkey, hval⟩ := hpo.get? (e := eso[x]) (by simp [hlt]) hkv
      obtain ⟨k', hkey', hhash⟩ := hko eso[x] (Array.getElem_mem hlt)
      obtain rfl : k' = k := knd.inj _ _ _ hkey' hkey
      dsimp only
      rw [hhash, hval]
      have hmx : (merged kvs (more.take x)).length ≤ sizeLine := by
        have e1 := merged_length_le kvs (more.take x)
        have e2 : (more.take x).length ≤ more.length := by rw [List.length_take]; omega
        omega
      have fin : ∀ h'', h''.DictOf knd d (stored (merged kvs (more.take x)) k' v) → Heap.SameBut d h' h'' → ∃ h3 i, ({ s with heap := h'' } : Shared) = { s with heap := h3 } ∧ rest = List.range' i (eso.size - i) ∧ i ≤ eso.size ∧ h3.DictOf knd d (merged kvs (more.take i)) ∧ h3.get? o = some oo ∧ Heap.SameBut d s.heap h3 := fun h'' hd'' hs'' =>
        ⟨h'', x + 1, rfl, hrest, hlt, by rw [merged_take_succ kvs more x (k', v) hkv]; exact hd'', (hs''.2 o (Ne.symm hdo)).trans hoo', hs'.trans hs''⟩
      have put : wpAny (model prog w) A (dictPut d (knd.hash k') eso[x].key v) (fun _ s1 => ∃ h'', s1 = { s with heap := h'' } ∧ h''.get? o = some oo ∧ ∃ h3 i, ({ s with heap := h'' } : Shared) = { s with heap := h3 } ∧ rest = List.range' i (eso.size - i) ∧ i ≤ eso.size ∧ h3.DictOf knd d (merged kvs (more.take i)) ∧ h3.get? o = some oo ∧ Heap.SameBut d s.heap h3) E { s with heap := h' } :=
        wpAny_dictPut_pairs hkey hd' (fun h'' hd'' hs'' => ⟨h'', rfl, (hs''.2 o (Ne.symm hdo)).trans hoo', fin h'' hd'' hs''⟩) hmx
      refine wpAny_bind (wpAny_holding (wpAny_mono (?_ : wpAny _ _ _ (fun _ s1 => ∃ h'', s1 = { s with heap := h'' } ∧ h''.get? o = some oo ∧ ∃ h3 i, ({ s with heap := h'' } : Shared) = { s with heap := h3 } ∧ rest = List.range' i (eso.size - i) ∧ i ≤ eso.size ∧ h3.DictOf knd d (merged kvs (more.take i)) ∧ h3.get? o = some oo ∧ Heap.SameBut d s.heap h3) _ _) (fun _ s1 z => ?_) fun _ _ e => e))
      · cases u with
        | false => exact put
        | true =>
          have hk0 := hu rfl
          subst hk0
          rw [if_pos rfl]
          refine wpAny_bind (wpAny_dictFind_none hkey hd' ?_ ?_)
          · rw [merged_nil_of_nodup _ (List.Nodup.sublist (List.Sublist.map _ (List.take_sublist ..)) hno)]
            intro hmem
            obtain ⟨kv, hm, he⟩ := List.mem_map.mp hmem
            obtain ⟨j, hj, ej⟩ := List.mem_iff_getElem.mp hm
            have hjx : j < x := by rw [List.length_take] at hj; omega
            have h1 : (more.map (·.1))[j]? = some k' := by
              rw [List.getElem_take] at ej
              rw [List.getElem?_map, List.getElem?_eq_getElem (by omega), ej, ← he]; rfl
            have h2 : (more.map (·.1))[x]? = some k' := by rw [List.getElem?_map, hkv]; rfl
            have := (List.getElem?_inj (i := j) (by rw [List.length_map, hlen]; omega) hno).mp (h1.trans h2.symm)
            omega
          · rw [if_neg (by simp)]
            exact put
      · obtain ⟨h'', rfl, ho'', q⟩ := z
        refine wpAny_bind (wpAny_dictEpoch ho'' hdo' ?_)
        rw [if_neg (by simp)]
        exact wpAny_pure q
    · rintro b s' ⟨h', i, rfl, hr, hi, hd', hoo', hs'⟩
      have hin : i = eso.size := by
        rcases Nat.lt_or_ge i eso.size with h | h
        · have e : eso.size - i = (eso.size - (i + 1)) + 1 := by omega
          rw [e, List.range'_succ] at hr; exact nomatch hr
        · exact Nat.le_antisymm hi h
      refine wpAny_pure (hQ h' ?_ ⟨oo, eso, epo, hoo', hco, hdo', hko, hpo, hno⟩ hs')
      rw [hin, ← hlen, List.take_length] at hd'; exact hd'
end
end Z

set_option Elab.async false
set_option linter.all false
set_option maxRecDepth 100000
set_option maxHeartbeats 4000000
/-! {**d, k: v} -/
namespace Z
open PySem
section
variable {prog : Program} {w : World} {K : Type} [DecidableEq K] {knd : KeyKind prog w K} {A : Around} {E : Value → Shared → Prop} {s : Shared}
theorem wpAny_display1 {D Ke Ve : Sem Value} {Q : Value → Shared → Prop}
    (h : wpAny (model prog w) A D (fun m s1 => ∃ o more, m = .ref o ∧ s.heap.objs.size ≠ o ∧ (o == sysModules) = false ∧ s1.heap.DictOf knd s.heap.objs.size [] ∧ s1.heap.DictOf knd o more ∧ more.length + 1 ≤ sizeLine ∧
      ∀ h', h'.DictOf knd s.heap.objs.size more → Heap.SameBut s.heap.objs.size s1.heap h' →
        wpAny (model prog w) A (evalPairs [(Ke, Ve)]) (fun vs s2 => ∃ kv more', Carries knd vs [kv] ∧ s2.heap.DictOf knd h'.objs.size [] ∧ s.heap.objs.size ≠ h'.objs.size ∧ (h'.objs.size == sysModules) = false ∧ s2.heap.DictOf knd s.heap.objs.size more' ∧ more'.length + 1 ≤ sizeLine ∧
          ∀ h2, h2.DictOf knd h'.objs.size [kv] → Heap.SameBut h'.objs.size s2.heap h2 → ∀ h3, h3.DictOf knd s.heap.objs.size (stored more' kv.1 kv.2) → Heap.SameBut s.heap.objs.size h2 h3 → Q (.ref s.heap.objs.size) { s2 with heap := h3, toks := s2.toks + vs.length }) E
          { s1 with heap := h'.push { cls := .type "dict", data := .dict #[] } }) E { s with heap := s.heap.push { cls := .type "dict", data := .dict #[] } }) :
    wpAny (model prog w) A (dictDisplay [(none, D), (some Ke, Ve)]) Q E s := by
  unfold dictDisplay
  dsimp only
  simp only [List.forIn_cons, List.forIn_nil, List.isEmpty_nil, if_true, pure_bind, bind_assoc, List.nil_append]
  refine wpAny_bind (wpAny_alloc ?_)
  refine wpAny_bind (wpAny_holding (wpAny_mono h (fun m s1 hm => ?_) fun _ _ e => e))
  obtain ⟨o, more, rfl, hne, hs, hd, ho, hz, hq⟩ := hm
  have nod : (more.map (·.1)).Nodup := let ⟨_, _, _, _, _, _, _, _, n⟩ := ho; n
  refine wpAny_bind (wpAny_onRaise (wpAny_tryCatch (wpAny_onRaise (wpAny_holding (wpAny_mergeMapping (knd := knd) (kvs := []) hne hs (fun _ => rfl) hd ho (fun h' hd' ho' sb => ?_) (by simp; omega))))))
  rw [merged_nil_of_nodup _ nod] at hd'
  rw [if_neg (by simp)]
  refine wpAny_bind (wpAny_pure (wpAny_bind (wpAny_pure ?_)))
  rw [if_neg (by simp)]
  dsimp only
  refine wpAny_bind (wpAny_bind (wpAny_holding (wpAny_subDict (knd := knd) (by simp) (wpAny_mono (hq h' hd' sb) (fun vs s2 z => ?_) fun _ _ e => e))))
  obtain ⟨kv, more', hc, hsub, hn1, hs1, hd2, hz2, hend⟩ := z
  refine ⟨[kv], hc, hsub, fun h2 hsub2 sb2 => ?_⟩
  have e1 : merged [] [kv] = [kv] := by simp [merged, stored]
  rw [e1] at hsub2
  refine wpAny_bind (wpAny_onRaise (wpAny_holding (wpAny_mergeMapping (knd := knd) (kvs := more') (more := [kv]) hn1 hs1 (fun e => by cases e) (hd2.sameBut sb2 hn1) hsub2 (fun h3 hd3 _ sb3 => ?_) (by simpa using hz2))))
  refine wpAny_pure (wpAny_pure ?_)
  exact hend h2 hsub2 sb2 h3 hd3 sb3
end
section
open PySem.Spec PyProof.Rows L2
variable {X : Cx} {σ : L2.St} {H : Hp} {d ke ve : Expr} {pos : Pos} {Q : VK}
/-- {**d, k: v} -/
theorem e_dispStar (h : ∀ p, H p = none → wE X d σ (upd H p (.dK [])) fun x H1 => ∃ o kvs, x = .ref o ∧ o ≠ p ∧ H1 o = some (.dK kvs) ∧ H1 p = some (.dK []) ∧ kvs.length ≤ 1000 ∧ ∀ q, upd H1 p (.dK kvs) q = none →
      wE X ke σ (upd (upd H1 p (.dK kvs)) q (.dK [])) fun kx H2 => wE X ve σ H2 fun vx H3 => ∃ k, kx = kV k ∧ H3 q = some (.dK []) ∧ H3 p = some (.dK kvs) ∧ Q (.ref p) (upd (upd H3 q (.dK [(k, vx)])) p (.dK (putK kvs k vx)))) :
    wE X (.Dict [none, some ke] [d, ve] pos) σ H Q := by
  refine ⟨fun pins s I => ?_⟩
  rw [arm_eval_Dict]
  refine wpAny_bind (wpAny_standAt ?_)
  show wpAny _ _ (dictDisplay [(none, _), (some _, _)]) _ _ _
  have hn := I.hok.fresh (Nat.le_refl s.heap.objs.size)
  have I1 := I.laid (a := s.heap.objs.size) (o := .dK []) (h' := s.heap.push { cls := .type "dict", data := .dict #[] }) (t' := s.toks) (fun _ _ q => Heap.get?_push_of_some _ q) (Nat.le_refl _) (dk_empty s.heap I.big)
  refine wpAny_display1 (knd := mixKind X.prog X.w) ?_
  refine wpAny_bind (wpAny_mono ((h _ hn).run pins _ I1) (fun u s1 hu => ?_) fun _ _ e => e)
  refine wpAny_bind (wpAny_standAt (wpAny_pure ?_))
  obtain ⟨x, H1, I2, rx, o, kvs, rfl, hop, ho, hp, hz, hq⟩ := hu
  cases rx
  obtain ⟨zo, hso, vso, ro, ddo⟩ := dk_of I2.hok ho
  obtain ⟨zp, hsp, vsp, rp, ddp⟩ := dk_of I2.hok hp
  cases rp
  have big : ∀ n, n ≤ 16777216 → n ≤ sizeLine := fun n h => by rw [sizeLine_eq]; exact h
  refine ⟨o, vso, rfl, hop.symm, hso, ddp, ddo, by rw [← ro.length]; exact big _ (by omega), fun h' dd' sb => ?_⟩
  obtain ⟨ob, hob⟩ : ∃ q, h'.get? s.heap.objs.size = some q := let ⟨q, _, _, hq, _⟩ := dd'; ⟨q, hq⟩
  have I3 := d_write (t' := s1.toks) I2 (by rw [hp]; exact True.intro) sb ⟨ob, hob⟩ (dk_new (kvs := kvs) zo hsp ro dd')
  have hn3 := I3.hok.fresh (Nat.le_refl h'.objs.size)
  have I4 := I3.laid (a := h'.objs.size) (o := .dK []) (h' := h'.push { cls := .type "dict", data := .dict #[] }) (t' := s1.toks) (fun _ _ q => Heap.get?_push_of_some _ q) (Nat.le_refl _) (dk_empty h' I3.big)
  have npq : s.heap.objs.size ≠ h'.objs.size := Nat.ne_of_lt (Heap.lt_size hob)
  refine evalPairs_cons (wpAny_mono ((hq _ hn3).run pins _ I4) (fun ku s2 hk => ?_) fun _ _ e => e)
  obtain ⟨kx, H2, I5, rk, q5⟩ := hk
  refine wpAny_bind (wpAny_mono (q5.run pins _ I5) (fun vu s3 hv => ?_) fun _ _ e => e)
  obtain ⟨vx, H3, I6, rv, k, rfl, hq6, hp6, q6⟩ := hv
  refine wpAny_bind (wpAny_standAt (wpAny_pure (evalPairs_nil ?_)))
  obtain ⟨zq, hsq, vsq, rq, ddq⟩ := dk_of I6.hok hq6
  cases rq
  obtain ⟨z6, hs6, vs6, r6, dd6⟩ := dk_of I6.hok hp6
  refine ⟨(k, vu), vs6, ⟨kV_is rk, rfl, trivial⟩, ddq, npq, hsq, dd6, by rw [← r6.length]; exact big _ (by omega), fun h2 dd2 sb2 h3 dd3 sb3 => ?_⟩
  have I7 := d_write (t' := s3.toks) I6 (by rw [hq6]; exact True.intro) sb2 (let ⟨q, _, _, hq, _⟩ := dd2; ⟨q, hq⟩) (dk_new (kvs := [(k, vx)]) (big _ (by simp)) hsq (.cons ⟨rfl, rv⟩ .nil) dd2)
  have I8 := d_write (t' := s3.toks + 1) I7 (by rw [upd_ne npq, hp6]; exact True.intro) sb3 (let ⟨q, _, _, hq, _⟩ := dd3; ⟨q, hq⟩) (dk_new (kvs := putK kvs k vx) (by have := length_putK kvs k vx; exact big _ (by omega)) hs6 (r6.put k rv) dd3)
  exact ⟨.ref s.heap.objs.size, _, I8, rfl, q6⟩
end
end Z

set_option Elab.async false
set_option linter.all false
set_option maxRecDepth 100000
set_option maxHeartbeats 4000000
/-! C(e, .., **d) -/
namespace Z
open PySem PySem.Spec PyProof.Rows L2
section
variable {prog : Program} {w : World} {A : Around} {E : Value → Shared → Prop} {s : Shared}
theorem wpAny_mergedKw {K : Type} [DecidableEq K] {knd : KeyKind prog w K} {f : Value} {x : Sem Value} {Q : Addr → Shared → Prop}
    (h : wpAny (model prog w) A x (fun m s1 => ∃ o more, m = .ref o ∧ s.heap.objs.size ≠ o ∧ (o == sysModules) = false ∧ s1.heap.DictOf knd s.heap.objs.size [] ∧ s1.heap.DictOf knd o more ∧ more.length ≤ sizeLine ∧
      ∀ h', h'.DictOf knd s.heap.objs.size more → Heap.SameBut s.heap.objs.size s1.heap h' → Q s.heap.objs.size { s1 with heap := h' }) E { s with heap := s.heap.push { cls := .type "dict", data := .dict #[] } }) :
    wpAny (model prog w) A (mergedKeywords f [(none, x)]) Q E s := by
  unfold mergedKeywords
  refine wpAny_bind (wpAny_alloc ?_)
  refine wpAny_bind (wpAny_holding ?_)
  refine wpAny_bind ?_
  rw [List.forIn_cons]
  refine wpAny_bind ?_
  refine wpAny_bind ?_
  refine wpAny_of_eq (a := ()) rfl ?_
  refine wpAny_bind (wpAny_mono h (fun m s1 hm => ?_) fun _ _ e => e)
  obtain ⟨o, more, rfl, hne, hs, hd, ho, hz, hq⟩ := hm
  have nod : (more.map (·.1)).Nodup := let ⟨_, _, _, _, _, _, _, _, n⟩ := ho; n
  refine wpAny_bind (wpAny_onRaise (wpAny_holding (wpAny_tryCatch (wpAny_onRaise (wpAny_mergeMapping (knd := knd) (kvs := []) hne hs (fun _ => rfl) hd ho (fun h' hd' ho' sb => ?_) (by simpa using hz))))))
  rw [merged_nil_of_nodup _ nod] at hd'
  refine wpAny_pure ?_
  refine wpAny_of_eq (a := []) rfl ?_
  refine wpAny_bind (wpAny_of_eq (a := ()) rfl ?_)
  exact wpAny_pure (wpAny_pure (hq h' hd' sb))
/-- the keywords told by a dict whose keys are texts -/
theorem wpAny_keywordsIn {f : Value} {d : Addr} {ks : List Str} {ws : List Value} {Q : List (Str × Value) → Shared → Prop} (hm : s.heap.DictOf (mixKind prog w) d ((ks.zip ws).map fun q => ((.inr q.1 : Key), q.2))) (hq : Q (ks.zip ws) s) : wpAny (model prog w) A (keywordsIn f d) Q E s := by
  obtain ⟨o, es, ep, ho, hc, hdat, hk, hp, hn⟩ := hm
  unfold keywordsIn
  refine wpAny_bind (wpAny_dictEntries ho hdat ?_)
  refine wpAny_bind ?_
  rw [← Array.forIn_toList]
  generalize es.toList = l at hp
  refine wpAny_forIn_list _ (fun rest b s' => s' = s ∧ ∃ zs : List (Str × Value), Pairs (mixKind prog w) rest (zs.map fun q => ((.inr q.1 : Key), q.2)) ∧ b ++ zs = ks.zip ws) _ ?_ ?_ _ _ ⟨rfl, ks.zip ws, hp, rfl⟩
  · rintro x rest b s' ⟨rfl, zs, hp, e⟩
    cases zs with
    | nil => rw [List.map_nil] at hp; cases hp
    | cons z zs =>
      rw [List.map_cons] at hp
      cases hp with
      | cons hkey hval hp =>
        have hkey : keyIs (.inr z.1 : Key) x.key = true := hkey
        rcases keyIs_shape hkey with ⟨i, t, e1, _⟩ | ⟨y, t, e1, e2⟩
        · cases e1
        · cases e1
          dsimp only
          rw [e2]
          exact wpAny_pure ⟨rfl, zs, hp, by rw [← e]; simp [hval]⟩
  · rintro b s' ⟨rfl, zs, hp, e⟩
    cases zs with
    | nil => rw [List.append_nil] at e; subst e; exact wpAny_pure hq
    | cons z zs => rw [List.map_cons] at hp; cases hp
end
section
variable {M : Model} {A : Around} {E : Value → Shared → Prop} {s : Shared} {env : Env}
theorem evalArgs_star {f : Value} {x kx : Sem Value} {rest : List (Bool × Sem Value)} {Q : Args → Shared → Prop}
    (h : wpAny M A (spliced ((false, x) :: rest)) (fun vs s₁ => wpAny M A (mergedKeywords f [(none, kx)]) (fun d s₂ => wpAny M A (keywordsIn f d) (fun kw s₃ => Q ⟨vs, kw⟩ s₃) E s₂) E s₁) E s) :
    wpAny M A (evalArgs f true ((false, x) :: rest) [(none, kx)]) Q E s := by
  unfold evalArgs
  show wpAny M A (spliced ((false, x) :: rest) >>= _) Q E s
  refine wpAny_bind (wpAny_mono h (fun vs s₁ h₁ => ?_) fun _ _ x => x)
  refine wpAny_bind (wpAny_pure ?_)
  refine wpAny_holding ?_
  rw [if_neg (by simp)]
  refine wpAny_bind (wpAny_mono h₁ (fun d s₂ h₂ => ?_) fun _ _ x => x)
  refine wpAny_bind (wpAny_pure ?_)
  exact wpAny_bind (wpAny_holding (wpAny_mono h₂ (fun kw s₃ h₃ => wpAny_pure h₃) fun _ _ x => x))
theorem callWith_star {K : PySem.W.Frag} {pos : Pos} {f : Value} {first : List Value} {x kx : Sem Value} {rest : List (Bool × Sem Value)} {Q : Value → Shared → Prop} (hk : PySem.W.keepIn K f = true)
    (h : wpAny M A (spliced ((false, x) :: rest)) (fun vs s₁ => wpAny M A (mergedKeywords f [(none, kx)]) (fun d s₂ => wpAny M A (keywordsIn f d) (fun kw s₃ => K.In s₃.heap ∧ wpAny M A (call f (first ++ vs) kw) Q E s₃) E s₂) E s₁) E s) :
    wpAny M A (callWith pos f first ((false, x) :: rest) [(none, kx)]) Q E s := by
  unfold callWith
  refine wpAny_bind (wpAny_holding (wpAny_mono (evalArgs_star (Q := fun a s₃ => K.In s₃.heap ∧ wpAny M A (call f (first ++ a.pos) a.kw) Q E s₃) h) (fun a s₁ h₁ => wpAny_bind (wpAny_standAt ?_)) fun _ _ x => x))
  obtain ⟨KX, h₁⟩ := h₁
  obtain ⟨k, hk', L⟩ := PySem.W.looks_keep (M := M) hk KX
  have hst : ((((false, x) :: rest).any (·.1) || ([((none : Option Str), kx)] : List (Option Str × Sem Value)).any (·.1.isNone)) = true) := by simp
  simp only [hst]
  refine wpAny_bind (L.here ?_)
  have tail : ∀ {t : Sem Value}, wpAny M A t Q E s₁ → wpAny M A (t >>= fun r => holding [r] point >>= fun _ => pure r) Q E s₁ :=
    fun ht => wpAny_bind (wpAny_mono ht (fun r s₂ hr => wpAny_bind (wpAny_holding (wpAny_point (wpAny_pure hr)))) fun _ _ x => x)
  have marked (mk : Value) : wpAny M A (callMarked mk f (first ++ a.pos) a.kw) Q E s₁ := by unfold callMarked; exact Calls.wpAny_keep h₁
  rcases hk' with rfl | rfl
  · exact tail (marked _)
  · exact tail (wpAny_operateT h₁)
end
section
variable {X : Cx} {k n : Nat} {W : WX} {σ : L2.St} {H : Hp} {Q : VK} {x : Str} {e ke : Expr} {es : List Expr} {p pos kp : Pos}
theorem kv_zip : ∀ {ks : List Str} {zs : List V} {vs : List (Key × Value)}, KV ((ks.zip zs).map fun q => ((.inr q.1 : Key), q.2)) vs → zs.length = ks.length → ∃ ws, vs = (ks.zip ws).map (fun q => ((.inr q.1 : Key), q.2)) ∧ Vals zs ws
  | [], [], vs, h, _ => by cases h; exact ⟨[], rfl, .nil⟩
  | [], z :: zs, _, _, l => by simp at l
  | q :: ks, [], _, _, l => by simp at l
  | q :: ks, z :: zs, vs, h, l => by
    rw [List.zip_cons_cons, List.map_cons] at h
    cases h with
    | @cons a b as bs h t =>
      obtain ⟨ws, e, r⟩ := kv_zip (ks := ks) (zs := zs) t (by simpa using l)
      obtain ⟨b1, b2⟩ := b
      obtain ⟨e1, e2⟩ := h
      refine ⟨b2 :: ws, ?_, .cons e2 r⟩
      rw [List.zip_cons_cons, List.map_cons, ← e, show b1 = (.inr q : Key) from e1.symm]
/-- C(e, .., **d), d a dict of texts -/
theorem e_makeStar {sp : Sp} {C : Addr} {j n : Nat} {ps ks : List Str} {gf : List Value → List Value → List Value} {gV : List V → List V → List V} {E : XK} (Cc : Cxt X (j + 1) W) (M : MakeOk X.prog X.w X.K X.mg X.base j x C ps sp fun fd => KBn X.K fd ps (n + 1) ks gf gV) (hW : ∀ cls d σ H, E cls d H → W cls d σ H)
    (h : wA X (e :: es) σ H fun vs H1 => vs.length = n ∧ ∀ d, H1 d = none → wE X ke σ (upd H1 d (.dK [])) fun y H2 => ∃ o zs, y = .ref o ∧ o ≠ d ∧ zs.length = ks.length ∧ H2 o = some (.dK ((ks.zip zs).map fun q => ((.inr q.1 : Key), q.2))) ∧ H2 d = some (.dK []) ∧ ks.length ≤ 1000 ∧
      ∀ r dx, upd H2 d (.dK ((ks.zip zs).map fun q => ((.inr q.1 : Key), q.2))) r = none → upd H2 d (.dK ((ks.zip zs).map fun q => ((.inr q.1 : Key), q.2))) dx = none → dx ≠ r →
        sp (gV (.ref r :: vs) zs) (upd (upd (upd H2 d (.dK ((ks.zip zs).map fun q => ((.inr q.1 : Key), q.2)))) dx (.own r)) r (.ins C dx [])) (fun v H3 => v = .non ∧ Q (.ref r) H3) E) (hg : Gl X x := by rfl)
    (hdb : (x == ("__debug__" : Str)) = false := by decide) (he : starEach (e :: es) X.env = (false, eval e X.env) :: starEach es X.env := by rfl) :
    wE X (.Call (.Name x p) (e :: es) [⟨none, ke, kp⟩] pos) σ H Q := by
  obtain ⟨f, fd, hm, mk, F, hb⟩ := M.ex
  refine ⟨fun pins s I => ?_⟩
  refine wpAny_Call_Name_kw (ld_glob I hg hm ?_ hdb)
  have ev : backTo pos (starEach (e :: es) X.env) = (false, eval e X.env) :: backTo pos (starEach es X.env) := by rw [he]; rfl
  rw [ev]
  show wpAny _ _ (callWith pos _ [] ((false, eval e X.env) :: backTo pos (starEach es X.env)) [(none, do let v ← eval ke X.env; standAt pos; pure v)]) _ _ _
  refine callWith_star (K := X.K) mk.kp ?_
  rw [← ev]
  refine wpAny_mono (h.run pos pins s I) (fun us s1 hu => ?_) fun _ _ e => e
  obtain ⟨vs, H1, I1, r, hl, hk⟩ := hu
  have hn := I1.hok.fresh (Nat.le_refl s1.heap.objs.size)
  have I2 := I1.laid (a := s1.heap.objs.size) (o := .dK []) (h' := s1.heap.push { cls := .type "dict", data := .dict #[] }) (t' := s1.toks) (fun _ _ q => Heap.get?_push_of_some _ q) (Nat.le_refl _) (dk_empty s1.heap I1.big)
  refine wpAny_mergedKw (knd := mixKind X.prog X.w) ?_
  refine wpAny_bind (wpAny_mono ((hk _ hn).run pins _ I2) (fun u s2 hv => ?_) fun _ _ e => e)
  obtain ⟨y, H2, I3, ry, o, zs, rfl, hod, lz, ho, hd, hks, hq⟩ := hv
  cases ry
  refine wpAny_bind (wpAny_standAt (wpAny_pure ?_))
  obtain ⟨zo, hso, vso, ro, ddo⟩ := dk_of I3.hok ho
  obtain ⟨zd, hsd, vsd, rd, ddd⟩ := dk_of I3.hok hd
  cases rd
  refine ⟨o, vso, rfl, hod.symm, hso, ddd, ddo, by rw [← ro.length]; exact zo, fun h' dd' sb => ?_⟩
  have I4 := d_write (t' := s2.toks) I3 (by rw [hd]; exact True.intro) sb (let ⟨q, _, _, hq, _⟩ := dd'; ⟨q, hq⟩) (dk_new zo hsd ro dd')
  obtain ⟨ws, ew, rz⟩ := kv_zip ro lz
  subst ew
  refine wpAny_keywordsIn dd' ⟨I4.kIn, ?_⟩
  exact run_makeK mk F Cc.room hb (passesE Cc.tk hW) I4 r rz hl lz hq
end
end Z

set_option Elab.async false
set_option linter.all false
set_option maxRecDepth 100000
set_option maxHeartbeats 4000000
/-! o.m(e, ..) where o is itself a call: which object it is is told by the promise -/
namespace Z
open PySem PySem.Spec PyProof.Rows L2
section
variable {X : Cx} {k : Nat} {W : WX} {σ : L2.St} {H : Hp} {m : Str} {o e : Expr} {es : List Expr} {apos pos : Pos} {Q : VK}
theorem e_methX {sp : Sp} {C : Addr} {j : Nat} {ps : List Str} (Cc : Cxt X j W) (c : Cls X.K C) (M : MethOk X.prog X.w X.K X.mg X.base j C m ps sp) (h : wE X o σ H fun x H1 => ∃ (r dx : Addr) (fs : List (Str × V)), x = .ref r ∧ H1 r = some (.ins C dx fs) ∧ fs.lookup m = none ∧ wA X (e :: es) σ H1 fun vs H2 => sp (.ref r :: vs) H2 Q fun _ _ _ => False)
    (hb : attributeBase o m X.env (eval o X.env) = eval o X.env := by rfl) (hf : methodCallForm ((e :: es).length + 0) (backTo pos (starEach (e :: es) X.env)) (backToKw pos (keywordEach [] X.env)) = true := by rfl) (hl : (apos.endLine == pos.line) = true := by rfl)
    (hst : starEach (e :: es) X.env = (false, eval e X.env) :: starEach es X.env := by rfl) (hpl : (backTo pos (starEach es X.env)).any (·.1) = false := by rfl) :
    wE X (.Call (.Attribute o m apos) (e :: es) [] pos) σ H Q := by
  obtain ⟨g, fd, hm, F, hbd⟩ := M.ex
  exact eE (pe_meth (pl := plainOf o X.env) pE c hm F Cc.room hbd .nil (passes0 Cc.tk) pA hst hpl (meth_eval hb hf hl)) (wE_mono h fun x H1 ⟨r, dx, fs, e1, h1, n, q⟩ => by subst e1; exact ⟨r, dx, fs, rfl, h1, n, wA_mono q fun vs H2 q => by rw [List.append_nil]; exact q⟩)
end
end Z

set_option Elab.async false
set_option linter.all false
set_option maxRecDepth 100000
set_option maxHeartbeats 4000000
/-! list(x) of a text, xs.pop(i), sorted(texts), x[::-1] of a text, f-strings with {x!r} of data -/
namespace Z
open PySem PySem.Spec PyProof.Rows L2
def signs (x : Str) : List V := x.cps.toList.map fun c => .str ⟨#[c]⟩
section
variable {X : Cx} {k : Nat} {W : WX} {σ : L2.St} {H : Hp} {e a b c o i : Expr} {es : List Expr} {p p2 pos apos : Pos} {Q : VK} {x f m : Str}
theorem call_listS (hc : X.calm = true) : CallR X (.type "list") (fun xs H Q => ∃ x : Str, xs = [.str x] ∧ x.length ≤ sizeLine ∧ ∀ p, H p = none → Q (.ref p) (upd H p (.lst (signs x)))) := by
  intro pins s σ H xs us Q I r h
  obtain ⟨x, rfl, hz, q⟩ := h
  obtain ⟨u, rfl, t, rfl⟩ := vals1 r
  have hlen : (signs x).length = x.length := by rw [signs, List.length_map]; exact lenL x
  refine PySem.call_list_str (I.ok.hd hc) x t (fun h' tk acc' c' hk e ha => ?_) hz
  refine ⟨.ref s.heap.objs.size, _, I.laid (t' := tk) hk (Nat.le_refl _) (show ObjOk X.prog X.w _ h' _ (.lst (signs x)) from ⟨by rw [hlen]; exact hz, acc'.toList, c', ?_, e⟩), rfl, q _ (I.hok.fresh (Nat.le_refl _))⟩
  refine vals_of_idx _ _ ?_ fun j u hu => ?_
  · rw [Array.length_toList, ha.1, hlen]; rfl
  · rw [Array.getElem?_toList] at hu
    obtain ⟨c, u', hc', rfl⟩ := ha.2 j u hu
    refine ⟨.str ⟨#[c]⟩, ?_, ⟨u', rfl⟩⟩
    rw [signs, List.getElem?_map, Array.getElem?_toList, hc']
    rfl
theorem e_listS (C : Cxt X k W) (h : wE X a σ H fun x H1 => ∃ z : Str, x = .str z ∧ z.length ≤ sizeLine ∧ ∀ l, H1 l = none → Q (.ref l) (upd H1 l (.lst (signs z)))) (hg : Gl X "list" := by rfl) (hs : starEach [a] X.env = [(false, eval a X.env)] := by rfl) :
    wE X (.Call (.Name "list" p) [a] [] pos) σ H Q := e_Ty (T := "list") (a_cons (wE_mono h fun x H1 ⟨z, e1, h1, h2⟩ => a_nil (cW_of (call_listS C.calm) ⟨z, by rw [e1], h1, h2⟩)) hs) C.blt.list PyProof.Rows.boot_list hg (by decide) (by decide) hs rfl
theorem e_sortedS (B : Blt X.mg X.base) (h : wE X a σ H fun x H1 => ∃ (q : Addr) (xs : List Str), x = .ref q ∧ SqL X.K H1 q (xs.map V.str) ∧ xs.length < 64 ∧ ∀ (ys : List Str) (p : Addr), ys.Perm xs → sortedS ys = true → H1 p = none → Q (.ref p) (upd H1 p (.lst (ys.map V.str))))
    (hg : Gl X "sorted" := by rfl) (hs : starEach [a] X.env = [(false, eval a X.env)] := by rfl) :
    wE X (.Call (.Name "sorted" p) [a] [] pos) σ H Q := e_B (id := "sorted") (a_cons (wE_mono h fun x H1 ⟨q, xs, e1, h1, h2, h3⟩ => a_nil (cW_of cr_sortedS ⟨q, xs, by rw [e1], h1, h2, h3⟩)) hs) B.sorted PyProof.Rows.boot_sorted hg (by decide) (by decide) hs rfl
/-- xs.pop(i) -/
theorem e_popAt (h : wE X o σ H fun x H1 => ∃ q, x = .ref q ∧ (∃ ys, H1 q = some (.lst ys)) ∧ wE X a σ H1 fun y H2 => ∃ (xs : List V) (j : Nat) (v : V), y = .int j ∧ H2 q = some (.lst xs) ∧ xs.length ≤ 1000000 ∧ xs[j]? = some v ∧ Q v (upd H2 q (.lst (xs.eraseIdx j))))
    (hs : starEach [a] X.env = [(false, eval a X.env)] := by rfl) (hbase : attributeBase o "pop" X.env (eval o X.env) = eval o X.env := by rfl) (hline : (apos.endLine == pos.line) = true := by rfl)
    (hfew : ((backTo pos (starEach [a] X.env)).all (fun x => !x.1) && (backToKw pos (keywordEach [] X.env)).all (fun x => x.1.isSome) && decide (([a] : List Expr).length + ([] : List Keyword).length + (if ([] : List Keyword).isEmpty then 0 else 1) < 30)) = true := by rfl) :
    wE X (.Call (.Attribute o "pop" apos) [a] [] pos) σ H Q :=
  eE (pe_bm PySem.F.plainAttrs_list PySem.F.slot_list_pop PySem.F.type_list_pop mt_popAt pE pA hbase hfew hline (by rw [hs]; rfl) rfl)
    (wE_mono h fun x H1 ⟨q, e1, ⟨ys, h0⟩, h1⟩ => ⟨by rw [e1]; exact .inl ⟨rfl, ys, .inl (.inl h0)⟩, a_cons (wE_mono h1 fun y H2 ⟨xs, j, v, h2, h3, hl, hv, h4⟩ => a_nil (by
      have hj : j < xs.length := (List.getElem?_eq_some_iff.mp hv).1
      exact ⟨q, xs, j, j, v, e1, by rw [h2], h3, by omega, by omega, by rw [seqIndex_of (by omega) (by omega)]; simp, hv, h4⟩)) (by rw [hs]; rfl)⟩)
/-- x[::-1], x a text -/
def revS (x : Str) : Str := sOf x.cps.toList.reverse
theorem strRev (x : Str) : ((Builtin.Str.strSliceIndices none none (-1) x.length).filterMap (x.cps[·]?)).toArray = x.cps.toList.reverse.toArray := by
  have e : Builtin.Str.strSliceIndices none none (-1) x.length = sliceRange ((x.cps.size : Int) - 1) (-1) (-1) := rfl
  rw [e, PySem.W.krv_sliceRange, PySem.W.krv_range, List.filterMap_reverse, PySem.W.krv_all]
theorem e_revS {kk : Nat} {p1 p2 p3 : Pos} (h : wE X e σ H fun x H1 => ∃ z : Str, x = .str z ∧ z.length ≤ sizeLine ∧ Q (.str (revS z)) H1) : wE X (.Subscript e (.Slice none none (some (.UnaryOp .USub (.Constant (.int 1) kk p1) p2)) p3) pos) σ H Q := by
  refine ⟨fun pins s I => ?_⟩
  refine Subscript_ (thn (h.run pins s I) fun v s1 ⟨x, H1, I1, r1, q1⟩ => ?_)
  obtain ⟨z, ex, hz, q⟩ := q1
  subst ex
  obtain ⟨t, rfl⟩ := r1
  have hst : PO X (some (.UnaryOp .USub (.Constant (.int 1) kk p1) p2)) (tPart (tUn (rU fun i => .int (-i)) (tC (.int 1)))) := po_some (pe_un un_neg pe_int)
  refine wpAny_Slice (thn (po_none.run pins s1 σ H1 (fun o H2 => o = none ∧ H2 = H1) I1 ⟨rfl, rfl⟩) fun vl s2 ⟨l, H2, I2, pl, el, e2⟩ => ?_)
  subst el e2
  refine thn (po_none.run pins s2 σ H2 (fun o H3 => o = none ∧ H3 = H2) I2 ⟨rfl, rfl⟩) fun vu s3 ⟨u, H3, I3, pu, eu, e3⟩ => ?_
  subst eu e3
  refine thn (hst.run pins s3 σ H3 (fun o H4 => o = some (-1) ∧ H4 = H3) I3 ⟨1, rfl, -1, rfl, rfl, rfl⟩) fun vs s4 ⟨o, H4, I4, ps, eo, e4⟩ => ?_
  subst eo e4
  have I5 : Inv X pins σ H4 { s4 with heap := s4.heap.push { cls := .type "slice", data := .fields #[vl, vu, vs] } } := I4.kept (t' := s4.toks) fun b ob q => Heap.get?_push_of_some _ q
  show wpAny (model X.prog X.w) X.A (subscriptTail e (.Slice none none (some (.UnaryOp .USub (.Constant (.int 1) kk p1) p2)) p3) (.str z t) (.ref s4.heap.objs.size)) (EP X pins σ Q) X.xe { s4 with heap := s4.heap.push { cls := .type "slice", data := .fields #[vl, vu, vs] } }
  refine tail_any (ops := [.str z t, .ref s4.heap.objs.size]) (typeIs_str _ _ _) (PySem.F.slot_str_getitem.lookup) ?_ (by with_unfolding_all rfl)
  obtain ⟨l, rfl, el⟩ := IsPart.raw pl
  obtain ⟨u, rfl, eu⟩ := IsPart.raw pu
  obtain ⟨st, rfl, es⟩ := IsPart.raw ps
  have el' : l.map (·.1) = none := by first | exact el | exact el.symm
  have eu' : u.map (·.1) = none := by first | exact eu | exact eu.symm
  have es' : st.map (·.1) = some (-1) := by first | exact es | exact es.symm
  refine wpAny_getItem_str_slice (l := l) (u := u) (st := st) ⟨_, Heap.get?_push_size _ rfl, rfl, rfl⟩ (by rw [es']; rfl) ?_
  have e1 : (st.map (·.1)).getD 1 = -1 := by rw [es']; rfl
  unfold sliceMade slicePicked
  rw [e1, el', eu', strRev, if_neg (by simp)]
  refine ⟨?_, .str (revS z), H4, I5.tok _, ⟨_, rfl⟩, q⟩
  show (z.cps.toList.reverse.toArray).size ≤ sizeLine
  rw [List.size_toArray, List.length_reverse, Array.length_toList]
  exact hz
/-- {x!r}: data that stand in the heap -/
theorem e_fmtRD (B : Blt X.mg X.base) (hg : X.A.guards = some []) (hu : X.A.units + 66 < cLine) (h : wE X e σ H fun x H1 => ∃ l d q, x = .ref q ∧ DD X.K l H1 x d ∧ rp d = true ∧ Q (.str d.shown) H1) : wE X (.FormattedValue e 114 none pos) σ H Q := by
  refine ⟨fun pins s I => ?_⟩
  refine wpAny_FormattedValue_repr (thn (h.run pins s I) fun v s1 hv => ?_)
  obtain ⟨x, H1, I1, r1, l, d, q0, rfl, hd, hr, q⟩ := hv
  obtain ⟨hs, hdp, hz⟩ := rp_len hr
  obtain ⟨as, hr, na⟩ := DD.reads B.sys I1 hd r1
  obtain rfl : v = Value.ref q0 := r1
  refine pyReprObj_of_reads hr hs (fun _ => na) hg (by omega) (fun _ _ e => e) (fun h' u tk k => ?_) hz
  exact wpAny_formatField_str ⟨.str d.shown, H1, I1.kept k, ⟨_, rfl⟩, q⟩ ⟨.str d.shown, H1, (I1.kept (t' := tk) k).tok _, ⟨_, rfl⟩, q⟩ hz
end
end Z

set_option Elab.async false
set_option linter.all false
set_option maxRecDepth 100000
set_option maxHeartbeats 4000000
/-! instances of own classes: == against anything, either way round -/
namespace Z
open PySem PySem.Spec PyProof.Rows PySem.SeqAt
section
variable {M : Model} {prog : Program} {w : World} {A : Around} {E : Value → Shared → Prop} {s : Shared} {K : PySem.W.Frag} {x C f : Addr} {ox : Obj} {od : Option Obj}
theorem sub_mro {T : String} {l : List Value} (e : fastBuiltinMro T = some l) (h : l.contains (.ref C) = false) : PySem.W.subIn K (.type T) (.ref C) = some false := by
  show (fastBuiltinMro T).map (·.contains (.ref C)) = some false
  rw [e]
  exact congrArg some h
theorem subA : ∀ T ∈ ["NoneType", "bool", "int", "str", "list", "tuple", "dict"], PySem.W.subIn K (.type T) (.ref C) = some false := by
  intro T hT
  simp only [List.mem_cons, List.not_mem_nil, or_false] at hT
  rcases hT with rfl | rfl | rfl | rfl | rfl | rfl | rfl
  · exact sub_mro (l := [.type "NoneType", .type "object"]) (by decide +kernel) (by first | rfl | simp)
  · exact sub_mro (l := [.type "bool", .type "int", .type "object"]) (by decide +kernel) (by first | rfl | simp)
  · exact sub_mro (l := [.type "int", .type "object"]) (by decide +kernel) (by first | rfl | simp)
  · exact sub_mro (l := [.type "str", .type "object"]) (by decide +kernel) (by first | rfl | simp)
  · exact sub_mro (l := [.type "list", .type "object"]) (by decide +kernel) (by first | rfl | simp)
  · exact sub_mro (l := [.type "tuple", .type "object"]) (by decide +kernel) (by first | rfl | simp)
  · exact sub_mro (l := [.type "dict", .type "object"]) (by decide +kernel) (by first | rfl | simp)
theorem isInst_own {T : String} {Q : Bool → Shared → Prop} (X : K.In s.heap) (I : PySem.W.InstAt s.heap x ox C od) (h : PySem.W.subIn K (.ref C) (.type T) = some false) (q : Q false s) : wpAny M A (isInstance (.ref x) (.type T)) Q E s :=
  wpAny_bind (I.type.here ((PySem.W.looks_subIn X h).here q))
theorem list_declines {l : Addr} {items : Array Value} {n : Nat} {dd : Option Addr} {sl : Array (Option Value)} {Q : Fin → Shared → Prop} (X : K.In s.heap) (I : PySem.W.InstAt s.heap x ox C od) (h : PySem.W.subIn K (.ref C) (.type "list") = some false)
    (hl : s.heap.get? l = some { cls := .type "list", dict := dd, data := .seq items n, slots := sl }) (q : Q (.done (.ret .notImplemented)) s) : wpAny M A (Builtin.«list.__eq__» ⟨[.ref l, .ref x], []⟩) Q E s := by
  unfold Builtin.«list.__eq__»
  repeat (first | with_reducible refine wpAny_bind (isInst_own X I h ?_) | wp_step)

  all_goals exact q
theorem tuple_declines {l : Addr} {items : Array Value} {n : Nat} {dd : Option Addr} {sl : Array (Option Value)} {Q : Fin → Shared → Prop} (X : K.In s.heap) (I : PySem.W.InstAt s.heap x ox C od) (h : PySem.W.subIn K (.ref C) (.type "tuple") = some false)
    (hl : s.heap.get? l = some { cls := .type "tuple", dict := dd, data := .seq items n, slots := sl }) (q : Q (.done (.ret .notImplemented)) s) : wpAny M A (Builtin.«tuple.__eq__» ⟨[.ref l, .ref x], []⟩) Q E s := by
  unfold Builtin.«tuple.__eq__»
  repeat (first | with_reducible refine wpAny_bind (isInst_own X I h ?_) | wp_step)
  all_goals exact q
theorem dict_declines {l : Addr} {Q : Fin → Shared → Prop} (X : K.In s.heap) (I : PySem.W.InstAt s.heap x ox C od) (h : PySem.W.subIn K (.ref C) (.type "dict") = some false)
    (q : Q (.done (.ret .notImplemented)) s) : wpAny M A (Builtin.«dict.__eq__» ⟨[.ref l, .ref x], []⟩) Q E s := by
  unfold Builtin.«dict.__eq__»
  repeat (first | with_reducible refine wpAny_bind (isInst_own X I h ?_) | wp_step)
  all_goals exact q
theorem int_declines {v : Value} (hv : (∃ b, v = .bool b) ∨ ∃ i t, v = .int i t) {Q : Fin → Shared → Prop} (I : PySem.W.InstAt s.heap x ox C od) (hd : ox.data = .plain)
    (q : Q (.done (.ret .notImplemented)) s) : wpAny M A (Builtin.«int.__eq__» ⟨[v, .ref x], []⟩) Q E s := by
  obtain ⟨cls, dd, data, sl⟩ := ox
  simp only at hd
  subst hd
  have hx := I.at_
  obtain ⟨hp, g, d, tk, os⟩ := s
  rcases hv with ⟨b, rfl⟩ | ⟨i, t, rfl⟩
  · wp_walk using wpAny_load hx
    exact q
  · wp_walk using wpAny_load hx
    exact q
theorem str_declines {y : Str} {t : Tok} {Q : Fin → Shared → Prop} (I : PySem.W.InstAt s.heap x ox C od) (hd : ox.data = .plain)
    (q : Q (.done (.ret .notImplemented)) s) : wpAny M A (Builtin.«str.__eq__» ⟨[.str y t, .ref x], []⟩) Q E s := by
  obtain ⟨cls, dd, data, sl⟩ := ox
  simp only at hd
  subst hd
  have hx := I.at_
  obtain ⟨hp, g, d, tk, os⟩ := s
  wp_walk using wpAny_load hx
  exact q
/-- what a built-in type's own == says to an instance: nothing -/
def Declines (prog : Program) (w : World) (A : Around) (s : Shared) (x : Addr) (v : Value) (T : String) : Prop :=
  s.TypeIs v T ∧ T ∈ ["NoneType", "bool", "int", "str", "list", "tuple", "dict"] ∧ ∃ id, Slot T "__eq__" id ∧ ∀ (E : Value → Shared → Prop) (Q : Value → Shared → Prop), Q .notImplemented s → wpAny (model prog w) A (call (.builtin id) [v, .ref x]) Q E s
theorem rc_bwd {v : Value} {T : String} {Q : Value → Shared → Prop} (hu : A.units < cLine) (X : K.In s.heap) (I : PySem.W.InstAt s.heap x ox C od) (hT : PySem.W.subIn K (.ref C) (.type T) = some false) (D : Declines prog w A s x v T)
    (hs : PySem.W.findIn K (.ref C) "__eq__" = some (some (.ref f))) (hf : PySem.W.isFn K (.ref f) = true)
    (h : wpAny (model prog w) A (call (.ref f) [.ref x, v]) (PySem.W.CmpBack Q) E s) : wpAny (model prog w) A (richCompare .Eq v (.ref x)) Q E s := by
  obtain ⟨ty, _, id, sl, hc⟩ := D
  have one : wpAny (model prog w) A (tryCompare v "__eq__" (.ref x)) (fun r s' => r = none ∧ s' = s) E s :=
    wpAny_tryCompare_declines ty sl (hc E _ ⟨rfl, rfl, rfl⟩)
  have two : wpAny (model prog w) A (tryCompare (.ref x) "__eq__" v) (fun r s' => ∃ u, r = some u ∧ Q u s') E s := by
    unfold tryCompare
    refine wpAny_bind (PySem.W.ifBound_K X I hs hf (wpAny_mono h (fun u s' hv => ?_) fun _ _ e => e))
    cases u <;> first | exact hv.elim | exact wpAny_pure ⟨_, rfl, hv⟩
  simp only [richCompare, cmpInfo_Eq, ty.oneThing_none]
  refine wpAny_holding (wpAny_bind (wpAny_cRoomFor hu ?_))
  refine wpAny_bind (wpAny_typeOf ty (wpAny_bind (I.type.here ?_)))
  rw [if_pos (by simp)]
  refine wpAny_bind ((PySem.W.looks_subIn X hT).here ?_)
  simp only [Bool.false_eq_true, if_false, Bool.not_false, if_true]
  refine wpAny_bind (m := tryCompare v _ (.ref x)) (wpAny_mono one (fun r s1 z => ?_) fun _ _ e => e)
  obtain ⟨z1, z2⟩ := z
  subst z1
  subst z2
  refine wpAny_bind (m := tryCompare (.ref x) _ v) (wpAny_mono two (fun r s2 z => ?_) fun _ _ e => e)
  obtain ⟨u, rfl, hq⟩ := z
  exact wpAny_pure hq
theorem rc_fwd {v : Value} {T : String} {Q : Value → Shared → Prop} (hu : A.units < cLine) (X : K.In s.heap) (I : PySem.W.InstAt s.heap x ox C od) (ty : s.TypeIs v T) (hT : T ∈ ["NoneType", "bool", "int", "str", "list", "tuple", "dict"])
    (hs : PySem.W.findIn K (.ref C) "__eq__" = some (some (.ref f))) (hf : PySem.W.isFn K (.ref f) = true)
    (h : wpAny (model prog w) A (call (.ref f) [.ref x, v]) (PySem.W.CmpBack Q) E s) : wpAny (model prog w) A (richCompare .Eq (.ref x) v) Q E s := by
  have two : wpAny (model prog w) A (tryCompare (.ref x) "__eq__" v) (fun r s' => ∃ u, r = some u ∧ Q u s') E s := by
    unfold tryCompare
    refine wpAny_bind (PySem.W.ifBound_K X I hs hf (wpAny_mono h (fun u s' hv => ?_) fun _ _ e => e))
    cases u <;> first | exact hv.elim | exact wpAny_pure ⟨_, rfl, hv⟩
  simp only [richCompare, cmpInfo_Eq, oneThing_ref]
  refine wpAny_holding (wpAny_bind (wpAny_cRoomFor hu ?_))
  refine wpAny_bind (I.type.here (wpAny_bind (wpAny_typeOf ty ?_)))
  rw [if_pos (by simp)]
  refine wpAny_bind ((PySem.W.looks_subIn X (subA T hT)).here ?_)
  simp only [Bool.false_eq_true, if_false]
  refine wpAny_bind (m := tryCompare (.ref x) _ v) (wpAny_mono two (fun r s2 z => ?_) fun _ _ e => e)
  obtain ⟨u, rfl, hq⟩ := z
  exact wpAny_pure hq
end
end Z
namespace Z
open PySem PySem.Spec PyProof.Rows L2
/-- what an own == answers: of these two, b -/
def spEqB (R : V → V → Bool → Hp → Prop) : Sp := fun vs H Q _ => ∃ x y b, vs = [x, y] ∧ R x y b H ∧ ∀ H', But [] H H' → Q (.bl b) H'
/-- the class at C is over object alone -/
def NotB (K : PySem.W.Frag) (C : Addr) : Prop := ∀ T ∈ ["NoneType", "bool", "int", "str", "list", "tuple", "dict"], PySem.W.subIn K (.ref C) (.type T) = some false
section
variable {X : Cx} {pins : List (Addr × Obj)} {σ : L2.St} {H : Hp} {s : Shared}
/-- of which built-in type a value is -/
inductive Ty1 (K : PySem.W.Frag) (H : Hp) : V → String → Prop where
  | non : Ty1 K H .non "NoneType"
  | bl (b : Bool) : Ty1 K H (.bl b) "bool"
  | int (i : Int) : Ty1 K H (.int i) "int"
  | str (x : Str) : Ty1 K H (.str x) "str"
  | lst {a : Addr} {xs : List V} (h : SqL K H a xs) : Ty1 K H (.ref a) "list"
  | tup {a : Addr} {xs : List V} (h : SqT K H a xs) : Ty1 K H (.ref a) "tuple"
  | dct {a : Addr} {kvs : List (Key × V)} (h : H a = some (.dK kvs)) : Ty1 K H (.ref a) "dict"
theorem DD.ty1 {K : PySem.W.Frag} {l : List Addr} {v : V} {d : PyData} (h : DD K l H v d) : Ty1 K H v (tyD d) := by
  cases h with
  | non => exact .non
  | bl b => exact .bl b
  | int i => exact .int i
  | str x => exact .str x
  | lst h1 h2 h3 => exact .lst h1
  | tup h1 h2 h3 => exact .tup h1
  | dct h1 h2 h3 => exact .dct h1
theorem Ty1.tyx {K : PySem.W.Frag} {v : V} {T : String} (h : Ty1 K H v T) : TyX K H v (.type T) := by
  cases h with
  | non => exact .base .non
  | bl b => exact .base (.bl b)
  | int i => exact .base (.int i)
  | str x => exact .base (.str x)
  | lst h1 =>
    rcases h1 with (h1 | ⟨o, h1⟩) | ⟨o, its, n, h1, h4, _⟩
    · exact .base (.lst h1)
    · exact .base (.frz h1)
    · exact .kList h1 h4
  | tup h1 =>
    rcases h1 with (h1 | ⟨o, h1⟩) | ⟨o, its, n, h1, h4, _⟩
    · exact .base (.tup h1)
    · exact .fTuple h1
    · exact .kTuple h1 h4
  | dct h1 => exact .base (.dK h1)
theorem Ty1.mem {K : PySem.W.Frag} {v : V} {T : String} (h : Ty1 K H v T) : T ∈ ["NoneType", "bool", "int", "str", "list", "tuple", "dict"] := by cases h <;> simp
theorem ty_declines {v : V} {T : String} {u : Value} {A : Around} {a C : Addr} {ox : Obj} {od : Option Obj} (I : Inv X pins σ H s) (hd : Ty1 X.K H v T) (rv : RelV v u) (J : PySem.W.InstAt s.heap a ox C od) (hp : ox.data = .plain) (nb : NotB X.K C) : Declines X.prog X.w A s a u T := by
  have K := I.kIn
  cases hd with
  | non =>
    cases rv
    exact ⟨rfl, by simp, _, F.slot_NoneType_eq_refl, fun E Q q => call_gives F.slot_NoneType_eq_refl rfl F.entry_NoneType_eq (F.args_NoneType_eq_2 _ _) (PySem.SeqAt.NoneType___eq___none_ref_0 a) q⟩
  | bl b =>
    cases rv
    exact ⟨rfl, by simp, _, F.slot_bool_eq, fun E Q q => GQ.call_here F.slot_bool_eq rfl F.entry_int_eq (F.args_int_eq_2 _ _) (int_declines (.inl ⟨_, rfl⟩) J hp q)⟩
  | int i =>
    obtain ⟨t, rfl⟩ := rv
    exact ⟨typeIs_int _ _ _, by simp, _, F.slot_int_eq, fun E Q q => GQ.call_here F.slot_int_eq (typeIs_int _ _ _) F.entry_int_eq (F.args_int_eq_2 _ _) (int_declines (.inr ⟨_, _, rfl⟩) J hp q)⟩
  | str y =>
    obtain ⟨t, rfl⟩ := rv
    exact ⟨typeIs_str _ _ _, by simp, _, F.slot_str_eq, fun E Q q => GQ.call_here F.slot_str_eq (typeIs_str _ _ _) F.entry_str_eq (F.args_str_eq_2 _ _) (str_declines J hp q)⟩
  | @lst b xs h1 =>
    obtain rfl : u = Value.ref b := rv
    obtain ⟨its, r', pl, hz⟩ := I.list h1
    obtain ⟨⟨cls, dd, data, sl⟩, ho, hc, n, hd'⟩ := pl.isList
    simp only at hc hd'
    subst hc hd'
    exact ⟨⟨_, ho, rfl⟩, by simp, _, F.slot_list_eq, fun E Q q => GQ.call_here F.slot_list_eq ⟨_, ho, rfl⟩ F.entry_list_eq (F.args_list_eq_2 _ _) (list_declines K J (nb _ (by simp)) ho q)⟩
  | @tup b xs h1 =>
    obtain rfl : u = Value.ref b := rv
    obtain ⟨its, r', pl, hz⟩ := I.tuple h1
    obtain ⟨⟨cls, dd, data, sl⟩, ho, hc, n, hd'⟩ := pl
    simp only at hc hd'
    subst hc hd'
    exact ⟨⟨_, ho, rfl⟩, by simp, _, F.slot_tuple_eq, fun E Q q => GQ.call_here F.slot_tuple_eq ⟨_, ho, rfl⟩ F.entry_tuple_eq (F.args_tuple_eq_2 _ _) (tuple_declines K J (nb _ (by simp)) ho q)⟩
  | @dct b kvs h1 =>
    obtain rfl : u = Value.ref b := rv
    obtain ⟨_, _, vs, rk, o, es, ep, ho, hx, hdd, _, hpp, _⟩ := I.hok b _ h1
    exact ⟨⟨_, ho, hx.1⟩, by simp, _, F.slot_dict_eq, fun E Q q => GQ.call_here F.slot_dict_eq ⟨_, ho, hx.1⟩ F.entry_dict_eq (F.args_dict_eq_2 _ _) (dict_declines K J (nb _ (by simp)) q)⟩
end
end Z

set_option Elab.async false
set_option linter.all false
set_option maxRecDepth 100000
set_option maxHeartbeats 4000000
/-! instances of own classes: ==, != with both answers; repr; called -/
namespace Z
open PySem PySem.Spec PyProof.Rows L2
theorem kit_no {K : PySem.W.Frag} {T : String} {C : Addr} (h1 : PySem.W.subIn K (.type T) (.ref C) = some false) (h2 : PySem.W.hasDictIn K C = true) (h3 : PySem.W.typeIn K (.ref C) = some (.type "type")) : PySem.W.kitOne K (.type T) (.ref C) = some false := by
  obtain ⟨cd, hc, _⟩ := PySem.W.any_some h2
  unfold PySem.W.kitOne PySem.W.kitCls
  split
  · rename_i z; simp at z
  · simp [hc, h3, h1]
section
variable {X : Cx} {k : Nat} {W : WX} {σ : L2.St} {H : Hp} {Q : VK}
/-- the own == run at two values -/
theorem run_eqB {A : Around} {f : Addr} {fd : FuncData} {ps : List Str} {R : V → V → Bool → Hp → Prop} {pins : List (Addr × Obj)} {s : Shared} {x y : V} {u v : Value} {b : Bool} (tk : Takes X W) (F : FnOk X.prog X.w X.K X.mg X.base (L2.CX X.prog X.w) k f fd ps (spEqB R)) (hb : Binds X.K fd ps [])
    (hr : Room k A) (hA : A.frames = X.A.frames) (I : Inv X pins σ H s) (rx : RelV x u) (ry : RelV y v) (hR : R x y b H) :
    wpAny (model X.prog X.w) A (call (.ref f) [u, v]) (fun r s' => r = .bool b ∧ ∃ H', Inv X pins σ H' s' ∧ But [] H H') X.xe s := by
  have hsp : spEqB R [x, y] H (fun v H' => v = .bl b ∧ But [] H H') (fun _ _ _ => False) := ⟨x, y, b, rfl, hR, fun H' e => ⟨rfl, e⟩⟩
  have e0 : Env0 X.prog X.w X.K X.mg X.base A X.stack s H := by
    have e := I.env0
    exact ⟨by rw [hA]; exact e.frames, e.mod, e.bs, e.bsz, e.funs, e.frf, e.hok, e.bare⟩
  have hl := F.len _ _ _ _ hsp
  have r2 : Vals [x, y] [u, v] := .cons rx (.cons ry .nil)
  refine wpAny_call (codeAny_mono (F.run A X.stack s H ⟨[u, v], []⟩ [u, v] [x, y] _ (fun _ _ _ => False) hr e0 (by
    have := hb s [u, v] I.kIn (by simpa using hl)
    simpa using this) r2 hsp) fun r s' hq => ?_)
  cases r with
  | error e => exact passes0 tk pins σ H s e s' I hq
  | ok fl =>
    cases fl with
    | ret w =>
      obtain ⟨z, H', I', rz, ez, ex⟩ := I.after hq
      subst ez
      cases rz
      exact ⟨rfl, H', I', ex⟩
    | next => exact False.elim hq
    | brk => exact False.elim hq
    | cont => exact False.elim hq
variable {C : Addr} {ps : List Str} {R : V → V → Bool → Hp → Prop} {a a2 dx dy : Addr} {fs gs : List (Str × V)} {y : V} {T : String} {b : Bool}
/-- o == y, y data -/
theorem c_eqOD (Cc : Cxt X (k + 1) W) (M : MethOk X.prog X.w X.K X.mg X.base k C "__eq__" ps (spEqB R)) (nb : NotB X.K C) (ha : H a = some (.ins C dx fs)) (hd : Ty1 X.K H y T) (hR : R (.ref a) y b H) (q : ∀ H', But [] H H' → Q (.bl b) H') : oW X (compareOp .Eq) (.ref a) y H Q := by
  obtain ⟨f, fd, hmm, F, hb⟩ := M.ex
  refine ⟨fun pins s σ u v I rx ry => ?_⟩
  obtain rfl : u = Value.ref a := rx
  obtain ⟨mA, J, _⟩ := ins_get I.hok ha
  obtain ⟨od, J, _⟩ := J.look
  have D := ty_declines (A := X.A) I hd ry J rfl nb
  have sb : Sub X (k + 1) X.A := ⟨Cc.room, rfl⟩
  exact rc_fwd sb.room.units0 I.kIn J D.1 D.2.1 hmm.at_ hmm.fn (wpAny_mono (run_eqB (x := .ref a) Cc.tk F hb (Cc.room.mono (Nat.le_succ _)) rfl I rfl ry hR) (fun r s' ⟨er, H', I', e⟩ => by subst er; exact ⟨.bl b, H', I', rfl, q H' e⟩) fun _ _ e => e)
/-- y == o, y data -/
theorem c_eqDO (Cc : Cxt X (k + 1) W) (M : MethOk X.prog X.w X.K X.mg X.base k C "__eq__" ps (spEqB R)) (nb : NotB X.K C) (ha : H a = some (.ins C dx fs)) (hd : Ty1 X.K H y T) (hR : R (.ref a) y b H) (q : ∀ H', But [] H H' → Q (.bl b) H') : oW X (compareOp .Eq) y (.ref a) H Q := by
  obtain ⟨f, fd, hmm, F, hb⟩ := M.ex
  refine ⟨fun pins s σ u v I rx ry => ?_⟩
  obtain rfl : v = Value.ref a := ry
  obtain ⟨mA, J, _⟩ := ins_get I.hok ha
  obtain ⟨od, J, _⟩ := J.look
  have D := ty_declines (A := X.A) I hd rx J rfl nb
  have sb : Sub X (k + 1) X.A := ⟨Cc.room, rfl⟩
  exact rc_bwd sb.room.units0 I.kIn J (nb _ D.2.1) D hmm.at_ hmm.fn (wpAny_mono (run_eqB (x := .ref a) Cc.tk F hb (Cc.room.mono (Nat.le_succ _)) rfl I rfl rx hR) (fun r s' ⟨er, H', I', e⟩ => by subst er; exact ⟨.bl b, H', I', rfl, q H' e⟩) fun _ _ e => e)
/-- isinstance(y, C), y of a built-in type: no -/
theorem e_isO {x : Str} {e : Expr} {p pT pos : Pos} {σ : L2.St} (B : Blt X.mg X.base) (hd' : PySem.W.hasDictIn X.K C = true) (ht : PySem.W.typeIn X.K (.ref C) = some (.type "type")) (hT : X.mg x = some (.ref C))
    (h : wE X e σ H fun v H1 => ∃ T, Ty1 X.K H1 v T ∧ Q (.bl false) H1) (hgT : Gl X x := by rfl) (hdT : (x == ("__debug__" : Str)) = false := by decide) (hgl : Gl X "isinstance" := by rfl)
    (hs : starEach [e, .Name x pT] X.env = (false, eval e X.env) :: starEach [.Name x pT] X.env := by rfl) (hs2 : starEach [.Name x pT] X.env = [(false, eval (.Name x pT) X.env)] := by rfl) : wE X (.Call (.Name "isinstance" p) [e, .Name x pT] [] pos) σ H Q :=
  e_B (id := "isinstance") (a_cons (wE_mono h fun v H1 ⟨T, h1, q⟩ => a_cons (e_glob (v := .ref C) (a_nil (cW_of call_isi ⟨v, .ref C, .type T, .ref C, false, rfl, .own C, h1.tyx, kit_no (subA T h1.mem) hd' ht, q⟩)) hT rfl hgT hdT) hs2) hs)
    B.isinstance PyProof.Rows.boot_isinstance hgl (by decide) (by decide) hs (by rw [hs2]; rfl)
/-- o == o2, both of the class at C -/
theorem c_eqOO (Cc : Cxt X (k + 1) W) (M : MethOk X.prog X.w X.K X.mg X.base k C "__eq__" ps (spEqB R)) (ha : H a = some (.ins C dx fs)) (hb2 : H a2 = some (.ins C dy gs)) (hR : R (.ref a) (.ref a2) b H) (q : ∀ H', But [] H H' → Q (.bl b) H') : oW X (compareOp .Eq) (.ref a) (.ref a2) H Q := by
  obtain ⟨f, fd, hmm, F, hb⟩ := M.ex
  refine ⟨fun pins s σ u v I rx ry => ?_⟩
  obtain rfl : u = Value.ref a := rx
  obtain rfl : v = Value.ref a2 := ry
  obtain ⟨mA, J, _⟩ := ins_get I.hok ha
  obtain ⟨mB, J', _⟩ := ins_get I.hok hb2
  obtain ⟨od, J, _⟩ := J.look
  obtain ⟨od', J', _⟩ := J'.look
  obtain ⟨m, hF⟩ := I.fr
  have sb : Sub X (k + 1) X.A := ⟨Cc.room, rfl⟩
  exact PySem.W.cmp_K (op := .Eq) (tb := .ref C) sb.room.units0 hF I.ok.mod.kin J J'.type (by simp [PySem.W.notFirst]) hmm.at_ hmm.fn (wpAny_mono (run_eqB (x := .ref a) (y := .ref a2) Cc.tk F hb (Cc.room.mono (Nat.le_succ _)) rfl I rfl rfl hR) (fun r s' ⟨er, H', I', e⟩ => by subst er; exact ⟨.bl b, H', I', rfl, q H' e⟩) fun _ _ e => e)
section
variable {prog : Program} {w : World} {A : Around} {E : Value → Shared → Prop} {s : Shared} {K : PySem.W.Frag} {x C f : Addr} {ox : Obj} {od : Option Obj} {v : Value} {b : Bool}
theorem entry_neB {Q : Fin → Shared → Prop} (hu : A.units < cLine) (X : K.In s.heap) (I : PySem.W.InstAt s.heap x ox C od) (hs : PySem.W.findIn K (.ref C) "__eq__" = some (some (.ref f))) (hf : PySem.W.isFn K (.ref f) = true)
    (h : wpAny (model prog w) A (call (.ref f) [.ref x, v]) (fun r s' => r = .bool b ∧ Q (.done (.ret (.bool (!b)))) s') E s) : wpAny (model prog w) A (Builtin.«object.__ne__» ⟨[.ref x, v], []⟩) Q E s := by
  unfold Builtin.«object.__ne__»
  repeat (first | with_reducible refine wpAny_cRoomFor hu ?_ | with_reducible refine wpAny_bind (PySem.W.ifBound_K X I hs hf (wpAny_mono h (fun v s' z => ?_) fun _ _ e => e)) | wp_step)
  obtain ⟨rfl, q⟩ := z
  exact wpAny_bind (wpAny_truthy_bool (wpAny_pure q))
theorem cmp_objNeB {od' : Option Obj} {oy : Obj} {y : Addr} {Q : Value → Shared → Prop} (hu : A.units + 1 < cLine) (X : K.In s.heap) (I : PySem.W.InstAt s.heap x ox C od) (J : PySem.W.InstAt s.heap y oy C od')
    (hn : PySem.W.findIn K (.ref C) "__ne__" = some (some (.builtin "object.__ne__"))) (hm : PySem.W.mroIn K C (.type "object") = some true) (hs : PySem.W.findIn K (.ref C) "__eq__" = some (some (.ref f))) (hf : PySem.W.isFn K (.ref f) = true)
    (h : wpAny (model prog w) A.in1 (call (.ref f) [.ref x, .ref y]) (fun v s' => v = .bool b ∧ Q (.bool (!b)) s') E s) : wpAny (model prog w) A (richCompare .NotEq (.ref x) (.ref y)) Q E s := by
  have hu0 : A.units < cLine := Nat.lt_of_succ_lt hu
  have one : wpAny (model prog w) A (tryCompare (.ref x) "__ne__" (.ref y)) (fun r s' => ∃ v, r = some v ∧ Q v s') E s := by
    unfold tryCompare
    exact wpAny_bind (ifBound_objNe X I hn (wpAny_call (codeAny_call_builtin F.cmp_object.ne.plain F.cmpEntry_ne (PySem.W.check_slot F.cmpKind_ne F.cmpSplit_ne (I.type.andThen (PySem.W.looks_mroIn X hm)) (F.cmpArgs_ne _ _) (entry_neB (A := A.in1) hu X I hs hf (wpAny_mono h (fun v s' z => ⟨z.1, wpAny_pure ⟨_, rfl, z.2⟩⟩) fun _ _ e => e))))))
  simp only [richCompare, cmpInfo_NotEq, oneThing_ref]
  refine wpAny_holding (wpAny_bind (wpAny_cRoomFor hu0 ?_))
  refine wpAny_bind (I.type.here (wpAny_bind (J.type.here ?_)))
  rw [if_neg (by simp)]
  refine wpAny_bind (wpAny_pure ?_)
  simp only [Bool.false_eq_true, if_false]
  refine wpAny_bind (wpAny_mono one (fun r s' z => ?_) fun _ _ e => e)
  obtain ⟨v, rfl, hq⟩ := z
  exact wpAny_pure hq
end
/-- o != o2, both of the class at C -/
theorem c_neOO (Cc : Cxt X (k + 1) W) (M : MethOk X.prog X.w X.K X.mg X.base k C "__eq__" ps (spEqB R)) (hn : PySem.W.findIn X.K (.ref C) "__ne__" = some (some (.builtin "object.__ne__"))) (hm : PySem.W.mroIn X.K C (.type "object") = some true)
    (ha : H a = some (.ins C dx fs)) (hb2 : H a2 = some (.ins C dy gs)) (hR : R (.ref a) (.ref a2) b H) (q : ∀ H', But [] H H' → Q (.bl (!b)) H') : oW X (compareOp .NotEq) (.ref a) (.ref a2) H Q := by
  obtain ⟨f, fd, hmm, F, hb⟩ := M.ex
  refine ⟨fun pins s σ u v I rx ry => ?_⟩
  obtain rfl : u = Value.ref a := rx
  obtain rfl : v = Value.ref a2 := ry
  obtain ⟨mA, J, _⟩ := ins_get I.hok ha
  obtain ⟨mB, J', _⟩ := ins_get I.hok hb2
  obtain ⟨od, J, _⟩ := J.look
  obtain ⟨od', J', _⟩ := J'.look
  have sb : Sub X (k + 1) X.A := ⟨Cc.room, rfl⟩
  have s1 : Sub X k X.A.in1 := sb.in1
  exact cmp_objNeB (f := f) (by have := s1.room.units0; exact this) I.kIn J J' hn hm hmm.at_ hmm.fn (wpAny_mono (run_eqB (x := .ref a) (y := .ref a2) Cc.tk F hb s1.room s1.fr I rfl rfl hR) (fun r s' ⟨er, H', I', e⟩ => ⟨er, .bl (!b), H', I', rfl, q H' e⟩) fun _ _ e => e)
/-! ### repr of an instance -/
/-- a method that wants that no guard of repr stands -/
structure MethG (P : Program) (w : World) (K : PySem.W.Frag) (mg : Str → Option Value) (base : Heap) (k : Nat) (C : Addr) (m : Str) (ps : List Str) (sp : Sp) : Prop where
  ex : ∃ f fd, Meth K C m f ∧ GFn P w K mg base k f fd ps sp ∧ Binds K fd ps []
theorem call_reprI {sp : Sp} (Cc : Cxt X (k + 1) W) (g : Gd X) (M : MethG X.prog X.w X.K X.mg X.base k C "__repr__" ps sp) : CallR X (.builtin "repr") (fun xs H Q => ∃ (a dx : Addr) (fs : List (Str × V)), xs = [.ref a] ∧ H a = some (.ins C dx fs) ∧ sp [.ref a] H (fun v H' => ∃ z : Str, v = .str z ∧ Q v H') fun _ _ _ => False) := by
  obtain ⟨f, fd, hmm, F, hb⟩ := M.ex
  intro pins s σ H xs us Q I r h
  obtain ⟨a, dx, fs, rfl, ha, hsp⟩ := h
  obtain ⟨u, rfl, r1⟩ := vals1 r
  obtain rfl : u = Value.ref a := r1
  obtain ⟨mA, J, _⟩ := ins_get I.hok ha
  obtain ⟨od, J, _⟩ := J.look
  obtain ⟨m, hF⟩ := I.fr
  have sb : Sub X (k + 1) X.A := ⟨Cc.room, rfl⟩
  have s1 : Sub X k X.A.in1 := sb.in1
  refine PySem.W.repr_K s1.room.units0 hF I.ok.mod.kin J hmm.at_ hmm.fn ?_
  have e0 : Env0 X.prog X.w X.K X.mg X.base X.A.in1 X.stack s H := by
    have e := I.env0
    exact ⟨by rw [s1.fr]; exact e.frames, e.mod, e.bs, e.bsz, e.funs, e.frf, e.hok, e.bare⟩
  have hl := F.len _ _ _ _ hsp
  refine wpAny_call (codeAny_mono (F.run X.A.in1 X.stack s H ⟨[.ref a], []⟩ [.ref a] [.ref a] _ _ s1.room g e0 (by
    have := hb s [.ref a] I.kIn (by simpa using hl)
    simpa using this) (.cons rfl .nil) hsp) fun r s' hq => ?_)
  cases r with
  | error e => exact passes0 Cc.tk pins σ H s e s' I hq
  | ok fl =>
    cases fl with
    | ret w =>
      obtain ⟨z, H', I', rz, y, ez, q⟩ := I.after hq
      subst ez
      obtain ⟨t, rfl⟩ := rz
      exact ⟨.str y, H', I', ⟨t, rfl⟩, q⟩
    | next => exact False.elim hq
    | brk => exact False.elim hq
    | cont => exact False.elim hq
end
end Z

set_option Elab.async false
set_option linter.all false
set_option maxRecDepth 100000
set_option maxHeartbeats 4000000
/-! instances called; their repr; f-strings -/
namespace Z
open PySem PySem.Spec PyProof.Rows L2
section
variable {M : Model} {A : Around} {E : Value → Shared → Prop} {s : Shared} {a : Addr} {pos : Pos} {Q : Value → Shared → Prop}
theorem callK_of {args : List (Bool × Sem Value)} {kws : List (Option Str × Sem Value)} (hplain : (args.any (·.1) || kws.any (·.1.isNone)) = false)
    (h : wpAny M A (evalArgs (.ref a) true args kws) (fun z s₁ => (∃ C ox od, PySem.W.InstAt s₁.heap a ox C od ∧ ox.data = .plain) ∧ wpAny M A (call (.ref a) ([] ++ z.pos) z.kw) Q E s₁) E s) : wpAny M A (callWith pos (.ref a) [] args kws) Q E s := by
  unfold callWith
  refine wpAny_bind (wpAny_holding (wpAny_mono h (fun z s₁ h₁ => wpAny_bind (wpAny_standAt ?_)) fun _ _ y => y))
  obtain ⟨⟨C, ox, od, J, hd⟩, h₁⟩ := h₁
  have L := PySem.W.kco_keeper (M := M) J hd
  simp only [hplain]
  refine wpAny_bind (L.here ?_)
  have tail : ∀ {t : Sem Value}, wpAny M A t Q E s₁ → wpAny M A (t >>= fun r => holding [r] point >>= fun _ => pure r) Q E s₁ :=
    fun ht => wpAny_bind (wpAny_mono ht (fun r s₂ hr => wpAny_bind (wpAny_holding (wpAny_point (wpAny_pure hr)))) fun _ _ y => y)
  exact tail (wpAny_operateT h₁)
end
/-- instances of the class at C may be called with one argument, named pn -/
structure CallOk (P : Program) (w : World) (K : PySem.W.Frag) (mg : Str → Option Value) (base : Heap) (k : Nat) (C : Addr) (pn : Str) (sp : Sp) : Prop where
  ex : ∃ g fd, StX.CallO K C g ∧ FnOk P w K mg base (L2.CX P w) k g fd ["self", pn] sp ∧ (∀ s a u, BindsTo s fd ⟨[a, u], []⟩ ((["self", pn] : List Str).zip [a, u])) ∧ ∀ s a u, BindsTo s fd ⟨[a], [(pn, u)]⟩ ((["self", pn] : List Str).zip [a, u])
section
variable {X : Cx} {k : Nat} {W : WX} {σ : L2.St} {H : Hp} {Q : VK} {C : Addr} {sp : Sp} {fe e : Expr} {pos : Pos} {pn : Str}
theorem run_inst {pins : List (Addr × Obj)} {s : Shared} {a g dx : Addr} {fs : List (Str × V)} {fd : FuncData} {us : List Value} {kw : List (Str × Value)} {v : V} {u : Value} (Cc : Cxt X k W) (c : StX.CallO X.K C g) (F : FnOk X.prog X.w X.K X.mg X.base (L2.CX X.prog X.w) k g fd ["self", pn] sp)
    (hb : BindsTo s fd ⟨.ref a :: us, kw⟩ ((["self", pn] : List Str).zip [.ref a, u])) (I : Inv X pins σ H s) (hi : H a = some (.ins C dx fs)) (r : RelV v u) (h : sp [.ref a, v] H Q fun cls d H' => W cls d σ H') : wpAny (model X.prog X.w) X.A (call (.ref a) us kw) (EP X pins σ Q) X.xe s := by
  obtain ⟨mA, O, _⟩ := ins_get I.hok hi
  obtain ⟨od, J, _⟩ := O.look
  refine wpAny_call (PySem.W.kco_code I.kIn J rfl c.at_ c.fn c.fi (codeAny_mono (F.run X.A X.stack s H ⟨.ref a :: us, kw⟩ [.ref a, u] [.ref a, v] Q _ Cc.room I.env0 hb (.cons rfl (.cons r .nil)) h) fun r s' hq => ?_))
  cases r with
  | error e => exact Cc.tk e s' (XE.of_call I (fun _ _ _ z => z) hq)
  | ok fl =>
    cases fl with
    | ret w => exact I.after hq
    | next => exact False.elim hq
    | brk => exact False.elim hq
    | cont => exact False.elim hq
/-- o(e) -/
theorem e_inst (Cc : Cxt X k W) (M : CallOk X.prog X.w X.K X.mg X.base k C pn sp) (h : wE X fe σ H fun y H1 => ∃ a, y = .ref a ∧ wE X e σ H1 fun v H2 => (∃ dx fs, H2 a = some (.ins C dx fs)) ∧ sp [.ref a, v] H2 Q fun cls d H' => W cls d σ H')
    (ht : eval (.Call fe [e] [] pos) X.env = (do callWith pos (← eval fe X.env) [] (backTo pos (starEach [e] X.env)) (backToKw pos (keywordEach [] X.env))) := by rfl)
    (he : starEach [e] X.env = (false, eval e X.env) :: starEach [] X.env := by rfl) (hpl : (backTo pos (starEach [] X.env)).any (·.1) = false := by rfl) : wE X (.Call fe [e] [] pos) σ H Q := by
  obtain ⟨g, fd, c, F, b1, b2⟩ := M.ex
  refine ⟨fun pins s I => ?_⟩
  refine Call_ (thn (h.run pins s I) fun u s1 ⟨y, H1, I1, ry, a, ey, q⟩ => ?_) ht
  subst ey
  obtain rfl : u = Value.ref a := ry
  have hA : wA X [e] σ H1 fun vs H2 => ∃ v, vs = [v] ∧ (∃ dx fs, H2 a = some (.ins C dx fs)) ∧ sp [.ref a, v] H2 Q fun cls d H' => W cls d σ H' := a_cons (wE_mono q fun v H2 q2 => a_nil ⟨v, rfl, q2⟩) he
  refine StX.callO_with (thn (hA.run pos pins s1 I1) fun us s2 ⟨vs, H2, I2, r, v, ev, ⟨dx, fs, hi⟩, q2⟩ => ?_) he hpl
  subst ev
  obtain ⟨u, rfl, ru⟩ := vals1 r
  obtain ⟨mA, O, _⟩ := ins_get I2.hok hi
  obtain ⟨od, J, _⟩ := O.look
  refine ⟨⟨C, _, od, J, rfl⟩, ?_⟩
  exact run_inst Cc c F (b1 _ _ _) I2 hi ru q2
/-- o(pn = e) -/
theorem e_instK {p : Pos} (Cc : Cxt X k W) (M : CallOk X.prog X.w X.K X.mg X.base k C pn sp) (h : wE X fe σ H fun y H1 => ∃ a, y = .ref a ∧ wE X e σ H1 fun v H2 => (∃ dx fs, H2 a = some (.ins C dx fs)) ∧ sp [.ref a, v] H2 Q fun cls d H' => W cls d σ H')
    (ht : eval (.Call fe [] [⟨some pn, e, p⟩] pos) X.env = (do callWith pos (← eval fe X.env) [] (backTo pos (starEach [] X.env)) (backToKw pos (keywordEach [⟨some pn, e, p⟩] X.env))) := by rfl)
    (hall : (backToKw pos (keywordEach [⟨some pn, e, p⟩] X.env)).all (·.1.isSome) = true := by rfl) (hks : (backToKw pos (keywordEach [⟨some pn, e, p⟩] X.env)).filterMap (·.1) = [pn] := by rfl)
    (hpl : ((backTo pos (starEach [] X.env)).any (·.1) || (backToKw pos (keywordEach [⟨some pn, e, p⟩] X.env)).any (·.1.isNone)) = false := by rfl) : wE X (.Call fe [] [⟨some pn, e, p⟩] pos) σ H Q := by
  obtain ⟨g, fd, c, F, b1, b2⟩ := M.ex
  refine ⟨fun pins s I => ?_⟩
  rw [ht]
  refine wpAny_bind (thn (h.run pins s I) fun u s1 ⟨y, H1, I1, ry, a, ey, q⟩ => ?_)
  subst ey
  obtain rfl : u = Value.ref a := ry
  have hK : wK X [⟨some pn, e, p⟩] σ H1 fun vs H2 => ∃ v, vs = [v] ∧ (∃ dx fs, H2 a = some (.ins C dx fs)) ∧ sp [.ref a, v] H2 Q fun cls d H' => W cls d σ H' := k_cons (wE_mono q fun v H2 q2 => k_nil ⟨v, rfl, q2⟩)
  refine callK_of hpl (evalArgs_kw2_nil hall (thn (hK.run pos pins s1 I1) fun us s2 ⟨vs, H2, I2, r, v, ev, ⟨dx, fs, hi⟩, q2⟩ => ?_))
  subst ev
  obtain ⟨u, rfl, ru⟩ := vals1 r
  obtain ⟨mA, O, _⟩ := ins_get I2.hok hi
  obtain ⟨od, J, _⟩ := O.look
  refine ⟨⟨C, _, od, J, rfl⟩, ?_⟩
  rw [hks]
  exact run_inst (us := []) Cc c F (b2 _ _ _) I2 hi ru q2
/-- repr(o) -/
theorem e_reprI {sp : Sp} {ps : List Str} {p : Pos} (Cc : Cxt X (k + 1) W) (g : Gd X) (M : MethG X.prog X.w X.K X.mg X.base k C "__repr__" ps sp) (h : wE X e σ H fun v H1 => ∃ (a dx : Addr) (fs : List (Str × V)), v = .ref a ∧ H1 a = some (.ins C dx fs) ∧ sp [.ref a] H1 (fun v H' => ∃ z : Str, v = .str z ∧ Q v H') fun _ _ _ => False)
    (hgl : Gl X "repr" := by rfl) (hs : starEach [e] X.env = [(false, eval e X.env)] := by rfl) : wE X (.Call (.Name "repr" p) [e] [] pos) σ H Q :=
  e_B (id := "repr") (a_cons (wE_mono h fun x H1 ⟨a, dx, fs, e1, h1, h2⟩ => a_nil (cW_of (call_reprI Cc g M) ⟨a, dx, fs, by rw [e1], h1, h2⟩)) hs) Cc.blt.repr PyProof.Rows.boot_repr hgl (by decide) (by decide) hs rfl
/-- {x!r}, x a text -/
theorem e_fmtRS (h : wE X e σ H fun x H1 => ∃ y : Str, x = .str y ∧ (reprText y).length ≤ sizeLine ∧ Q (.str (reprText y)) H1) : wE X (.FormattedValue e 114 none pos) σ H Q :=
  eE (pe_fmtR pE) (wE_mono h fun x H1 h => .inl h)
/-- f'..', parts one behind the other -/
def wJ (X : Cx) (es : List Expr) (acc : Str) (σ : L2.St) (H : Hp) (Q : VK) : Prop := match es with
  | [] => Q (.str acc) H
  | e :: es => wE X e σ H fun x H1 => ∃ y : Str, x = .str y ∧ (acc ++ y).length ≤ sizeLine ∧ wJ X es (acc ++ y) σ H1 Q
theorem tJs_of : ∀ (es : List Expr) (acc : Str) (H : Hp), wJ X es acc σ H Q → tJs (es.map (wE X)) acc σ H (fun out H1 => Q (.str out) H1)
  | [], _, _, h => h
  | e :: es, acc, H, h => wE_mono h fun x H1 ⟨y, e1, h1, h2⟩ => ⟨y, e1, h1, tJs_of es _ _ h2⟩
theorem pj_all : ∀ es : List Expr, PJ X es (es.map (wE X))
  | [] => .nil
  | e :: es => .cons pE (pj_all es)
theorem e_joined {v1 v2 : Expr} {rest : List Expr} (h : wJ X (v1 :: v2 :: rest) Str.empty σ H Q) : wE X (.JoinedStr (v1 :: v2 :: rest) pos) σ H Q := eE (pe_joined (pj_all (v1 :: v2 :: rest))) (tJs_of _ _ _ h)
end
end Z

set_option Elab.async false
set_option linter.all false
set_option maxRecDepth 100000
set_option maxHeartbeats 4000000
/-! plain: what can be shown, in general -/
namespace Z
open PySem PySem.Spec PyProof.Rows L2
theorem depthAllZ {b : Nat} : ∀ {ds : List PyData}, (∀ d ∈ ds, PyData.depth d ≤ b) → PyData.depthAll ds ≤ b
  | [], _ => by simp [PyData.depthAll]
  | d :: ds, h => by
    have h2 := depthAllZ (ds := ds) fun x hx => h x (List.mem_cons_of_mem _ hx)
    have h1 := h d (by simp)
    simp only [PyData.depthAll]
    omega
theorem weightAllZ {b : Nat} : ∀ {ds : List PyData}, (∀ d ∈ ds, PyData.weight d ≤ b) → PyData.weightAll ds ≤ ds.length * (b + 1)
  | [], _ => by simp [PyData.weightAll]
  | d :: ds, h => by
    have h2 := weightAllZ (ds := ds) fun x hx => h x (List.mem_cons_of_mem _ hx)
    have h1 := h d (by simp)
    simp only [PyData.weightAll, List.length_cons, Nat.add_mul]
    omega
theorem showAllZ : ∀ {ds : List PyData}, (∀ d ∈ ds, PyData.showable d = true) → PyData.showableAll ds = true
  | [], _ => rfl
  | d :: ds, h => by
    have h2 := showAllZ (ds := ds) fun x hx => h x (List.mem_cons_of_mem _ hx)
    simp only [PyData.showableAll, h d (by simp), h2, Bool.and_self]
theorem leavesAllZ : ∀ {ds : List PyData}, (∀ d ∈ ds, PyData.leavesShort 40 d = true) → PyData.leavesShortAll 40 ds = true
  | [], _ => rfl
  | d :: ds, h => by
    have h2 := leavesAllZ (ds := ds) fun x hx => h x (List.mem_cons_of_mem _ hx)
    simp only [PyData.leavesShortAll, h d (by simp), h2, Bool.and_self]
/-- it can be shown: its depth, its weight -/
structure ShwZ (n w : Nat) (d : PyData) : Prop where
  s : d.showable = true
  l : d.leavesShort 40 = true
  dep : d.depth ≤ n
  w : d.weight ≤ w
theorem ShwZ.mono {n m w v : Nat} {d : PyData} (h : ShwZ n w d) (a : n ≤ m) (b : w ≤ v) : ShwZ m v d := ⟨h.s, h.l, Nat.le_trans h.dep a, Nat.le_trans h.w b⟩
theorem ShwZ.list {n w : Nat} {ds : List PyData} (L : Nat) (h : ∀ d ∈ ds, ShwZ n w d) (hl : ds.length ≤ L) : ShwZ (n + 1) (L * (w + 1)) (.list ds) := by
  have e1 := showAllZ fun d hd => (h d hd).s
  have e2 := leavesAllZ fun d hd => (h d hd).l
  have e3 := depthAllZ fun d hd => (h d hd).dep
  have e4 := weightAllZ fun d hd => (h d hd).w
  have e5 : ds.length * (w + 1) ≤ L * (w + 1) := Nat.mul_le_mul_right _ hl
  exact ⟨by simp only [PyData.showable, e1], by simp only [PyData.leavesShort, e2], by simp only [PyData.depth]; omega, by simp only [PyData.weight]; omega⟩
theorem ShwZ.rp {n w : Nat} {d : PyData} (h : ShwZ n w d) (hn : n ≤ 64) (hw : w ≤ 300000) : rp d = true := by
  have e1 := h.dep
  have e2 := h.w
  rw [Z.rp, h.s, h.l, decide_eq_true (show d.depth ≤ 64 by omega), decide_eq_true (show d.weight ≤ 300000 by omega)]
  rfl
theorem ShwZ.none {n w : Nat} : ShwZ n w .none := ⟨by simp only [PyData.showable], by simp only [PyData.leavesShort], by simp only [PyData.depth]; omega, by simp only [PyData.weight]; omega⟩
end Z

set_option Elab.async false
set_option linter.all false
set_option maxRecDepth 100000
set_option maxHeartbeats 4000000
/-! plain: what can be compared -/
namespace Z
open PySem PySem.Spec PyProof.Rows L2 TL
theorem layAllZ : ∀ {ds : List PyData}, (∀ d ∈ ds, PyData.canLay0 d = true) → PyData.canLayAll0 ds = true
  | [], _ => rfl
  | d :: ds, h => by
    have h2 := layAllZ (ds := ds) fun x hx => h x (List.mem_cons_of_mem _ hx)
    simp only [PyData.canLayAll0, h d (by simp), h2, Bool.and_self]
theorem noDictZ : ∀ {ds : List PyData}, (∀ d ∈ ds, PyData.hasDict d = false) → PyData.hasDictAll ds = false
  | [], _ => rfl
  | d :: ds, h => by
    have h2 := noDictZ (ds := ds) fun x hx => h x (List.mem_cons_of_mem _ hx)
    simp only [PyData.hasDictAll, h d (by simp), h2, Bool.or_self]
/-- good to be compared -/
structure CmpZ (n : Nat) (d : PyData) : Prop where
  lay : PyData.canLay0 d = true
  dep : d.depth ≤ n
  nod : d.hasDict = false
theorem CmpZ.mono {n m : Nat} {d : PyData} (h : CmpZ n d) (a : n ≤ m) : CmpZ m d := ⟨h.lay, Nat.le_trans h.dep a, h.nod⟩
theorem CmpZ.list {n : Nat} {ds : List PyData} (h : ∀ d ∈ ds, CmpZ n d) : CmpZ (n + 1) (.list ds) := by
  have e1 := layAllZ fun d hd => (h d hd).lay
  have e2 := depthAllZ fun d hd => (h d hd).dep
  have e3 := noDictZ fun d hd => (h d hd).nod
  exact ⟨by simp only [PyData.canLay0, e1], by simp only [PyData.depth]; omega, by simp only [PyData.hasDict, e3]⟩
theorem CmpZ.tuple {n : Nat} {ds : List PyData} (h : ∀ d ∈ ds, CmpZ n d) : CmpZ (n + 1) (.tuple ds) := by
  have e1 := layAllZ fun d hd => (h d hd).lay
  have e2 := depthAllZ fun d hd => (h d hd).dep
  have e3 := noDictZ fun d hd => (h d hd).nod
  exact ⟨by simp only [PyData.canLay0, e1], by simp only [PyData.depth]; omega, by simp only [PyData.hasDict, e3]⟩
theorem CmpZ.str {x : Str} (h : ∀ c ∈ x.cps.toList, c < 128) : CmpZ 0 (.str x) := ⟨by simp only [PyData.canLay0, strOk_ascii h], by simp only [PyData.depth]; omega, by simp only [PyData.hasDict]⟩
theorem CmpZ.int {i : Int} : CmpZ 0 (.int i) := ⟨by simp only [PyData.canLay0], by simp only [PyData.depth]; omega, by simp only [PyData.hasDict]⟩
theorem CmpZ.none : CmpZ 0 .none := ⟨by simp only [PyData.canLay0], by simp only [PyData.depth]; omega, by simp only [PyData.hasDict]⟩
theorem CmpZ.shaped {n : Nat} {d : PyData} (h : CmpZ n d) (hn : n ≤ 64) : SeqAt.shaped d = true := by
  have := h.dep
  rw [SeqAt.shaped, h.lay, decide_eq_true (by omega)]
  rfl
theorem CmpZ.same {n : Nat} {d : PyData} (h : CmpZ n d) : PyData.eqv d d = true := eqv_same h.nod
end Z

set_option Elab.async false
set_option linter.all false
set_option maxRecDepth 100000
set_option maxHeartbeats 4000000
/-! plain: what can be shown, what can be compared, further -/
namespace Z
open PySem PySem.Spec PyProof.Rows L2
theorem ShwZ.tuple {n w : Nat} {ds : List PyData} (L : Nat) (h : ∀ d ∈ ds, ShwZ n w d) (hl : ds.length ≤ L) : ShwZ (n + 1) (L * (w + 1)) (.tuple ds) := by
  have e1 := showAllZ fun d hd => (h d hd).s
  have e2 := leavesAllZ fun d hd => (h d hd).l
  have e3 := depthAllZ fun d hd => (h d hd).dep
  have e4 := weightAllZ fun d hd => (h d hd).w
  have e5 : ds.length * (w + 1) ≤ L * (w + 1) := Nat.mul_le_mul_right _ hl
  exact ⟨by simp only [PyData.showable, e1], by simp only [PyData.leavesShort, e2], by simp only [PyData.depth]; omega, by simp only [PyData.weight]; omega⟩
theorem ShwZ.str {n w : Nat} {x : Str} (h : ∀ c ∈ x.cps.toList, c < 128) (hw : x.length ≤ w) : ShwZ n w (.str x) := by
  refine ⟨by simp only [PyData.showable], ?_, by simp only [PyData.depth]; omega, by simp only [PyData.weight]; exact hw⟩
  have := leaves_strs [x] (fun y hy c hc => by rw [List.mem_singleton.mp hy] at hc; have := h c hc; omega)
  simpa [PyData.leavesShortAll] using this
theorem ShwZ.bool {n w : Nat} {b : Bool} : ShwZ n w (.bool b) := ⟨by simp only [PyData.showable], by simp only [PyData.leavesShort], by simp only [PyData.depth]; omega, by simp only [PyData.weight]; omega⟩
theorem nat_small : ∀ k : Nat, k < 1000 → (PyData.int (k : Int)).showable = true ∧ (PyData.int (k : Int)).leavesShort 40 = true ∧ (PyData.int (k : Int)).depth = 0 ∧ (PyData.int (k : Int)).weight ≤ 10 := by decide +kernel
theorem ShwZ.nat {n w k : Nat} (h : k < 1000) (hw : 10 ≤ w) : ShwZ n w (.int (k : Int)) := by
  obtain ⟨h1, h2, h3, h4⟩ := nat_small k h
  exact ⟨h1, h2, by omega, by omega⟩
/-- the length of what is shown -/
theorem ShwZ.len {n w : Nat} {d : PyData} (h : ShwZ n w d) : d.shown.length ≤ 42 * w + 40 := by
  have h2 := PyData.shown_le 40 (by decide) d h.l
  have h3 := h.w
  have : (40 + 2) * d.weight ≤ 42 * w := Nat.mul_le_mul_left _ h3
  omega
theorem CmpZ.bool {b : Bool} : CmpZ 0 (.bool b) := ⟨by simp only [PyData.canLay0], by simp only [PyData.depth]; omega, by simp only [PyData.hasDict]⟩
end Z

set_option Elab.async false
set_option linter.all false
set_option maxRecDepth 100000
set_option maxHeartbeats 4000000
/-! plain: texts of one sign -/
namespace Z
open PySem PySem.Spec PyProof.Rows L2
theorem ones_sum : ∀ ys : List Nat, ((ys.map fun c => (⟨#[c]⟩ : Str)).map (·.length)).sum = ys.length
  | [] => rfl
  | c :: r => by simp only [List.map_cons, List.sum_cons, ones_sum r, List.length_cons]; show 1 + r.length = _; omega
theorem ones_flat : ∀ ys : List Nat, (ys.map fun c => [c]).flatten = ys
  | [] => rfl
  | c :: r => by simp only [List.map_cons, List.flatten_cons, ones_flat r, List.cons_append, List.nil_append]
/-- an arrangement of images is the image of an arrangement -/
theorem perm_map {α β : Type} {f : α → β} : ∀ {ys : List β} {xs : List α}, ys.Perm (xs.map f) → ∃ zs : List α, ys = zs.map f ∧ zs.Perm xs := by
  intro ys xs h
  generalize hm : xs.map f = ms at h
  induction h generalizing xs with
  | nil => cases xs with | nil => exact ⟨[], rfl, .refl _⟩ | cons => simp at hm
  | cons y _ ih => 
    cases xs with
    | nil => simp at hm
    | cons x xs =>
      simp only [List.map_cons, List.cons.injEq] at hm
      obtain ⟨zs, e, p⟩ := ih hm.2
      exact ⟨x :: zs, by rw [e, List.map_cons, hm.1], p.cons x⟩
  | swap a b l =>
    match xs, hm with
    | x :: y :: xs, hm =>
      simp only [List.map_cons, List.cons.injEq] at hm
      exact ⟨y :: x :: xs, by simp [hm.1, hm.2.1, hm.2.2], .swap _ _ _⟩
  | trans _ _ ih1 ih2 =>
    obtain ⟨zs, e, p⟩ := ih2 hm
    obtain ⟨us, e2, p2⟩ := ih1 e.symm
    exact ⟨us, e2, p2.trans p⟩
theorem erase_map {α β : Type} {f : α → β} : ∀ (l : List α) (j : Nat), (l.map f).eraseIdx j = (l.eraseIdx j).map f
  | [], _ => rfl
  | _ :: _, 0 => rfl
  | x :: l, j + 1 => by simp only [List.map_cons, List.eraseIdx_cons_succ, erase_map l j]
theorem erase_perm {α : Type} : ∀ (l : List α) (j : Nat) (h : j < l.length), (l[j] :: l.eraseIdx j).Perm l
  | [], j, h => by simp at h
  | x :: l, 0, h => .refl _
  | x :: l, j + 1, h => by
    simp only [List.getElem_cons_succ, List.eraseIdx_cons_succ]
    exact (List.Perm.swap _ _ _).trans ((erase_perm l j (by simpa using h)).cons x)
end Z

set_option Elab.async false
set_option linter.all false
set_option maxRecDepth 100000
set_option maxHeartbeats 4000000
/-! a statement in the middle: what holds after it, then the rest -/
namespace Z
open PySem PySem.Spec PyProof.Rows L2
variable {X : Cx} {st : Stmt} {sts : List Stmt} {σ : L2.St} {H : Hp}
theorem wS_mono {D D' : Ends} (h : wS X st D σ H) (k1 : ∀ σ' H', D.nx σ' H' → D'.nx σ' H') (k2 : ∀ v H', D.rt v H' → D'.rt v H') (k3 : ∀ σ' H', D.bk σ' H' → D'.bk σ' H') (k4 : ∀ σ' H', D.ct σ' H' → D'.ct σ' H') : wS X st D' σ H :=
  ⟨fun pins s I => thn (h.run pins s I) fun f s' q => by
    cases f with
    | next => obtain ⟨σ', H', I', q⟩ := q; exact ⟨σ', H', I', k1 _ _ q⟩
    | brk => obtain ⟨σ', H', I', q⟩ := q; exact ⟨σ', H', I', k3 _ _ q⟩
    | cont => obtain ⟨σ', H', I', q⟩ := q; exact ⟨σ', H', I', k4 _ _ q⟩
    | ret u => obtain ⟨v, σ', H', I', r, q⟩ := q; exact ⟨v, σ', H', I', r, k2 _ _ q⟩⟩
theorem b_mid {D : Ends} (M : L2.St → Hp → Prop) (h : wS X st { D with nx := M } σ H) (k : ∀ σ' H', M σ' H' → wB X sts D σ' H') : wB X (st :: sts) D σ H :=
  b_cons (wS_mono h k (fun _ _ q => q) (fun _ _ q => q) (fun _ _ q => q))
theorem Ty1.but {K : PySem.W.Frag} {H H' : Hp} {v : V} {T : String} (h : Ty1 K H v T) (b : But [] H H') : Ty1 K H' v T := by
  cases h with
  | non => exact .non
  | bl b => exact .bl b
  | int i => exact .int i
  | str x => exact .str x
  | lst h => exact .lst (b.sql (by simp) h)
  | tup h => exact .tup (b.sqt (by simp) h)
  | dct h => exact .dct (b _ _ (by simp) h)
end Z

set_option Elab.async false
set_option linter.all false
set_option maxRecDepth 100000
set_option maxHeartbeats 4000000
/-! dicts, further: in, dict comprehensions, list(d.values()), setdefault of dicts by truth values and by tuples -/
namespace Z
open PySem PySem.Spec PyProof.Rows L2
section
variable {X : Cx} {k : Nat} {W : WX} {σ : L2.St} {H : Hp} {e f a b o elt c : Expr} {es : List Expr} {p pos apos cpos : Pos} {Q : VK} {scope : Scope}
theorem wG_mono {tg : Expr} {v : V} {R R' : L2.St → Hp → Prop} (h : wG X tg v σ H R) (k : ∀ σ' H', R σ' H' → R' σ' H') : wG X tg v σ H R' := ⟨fun pins s u I r => thn (h.run pins s u I r) fun _ _ ⟨σ', H', I', q⟩ => ⟨σ', H', I', k σ' H' q⟩⟩
theorem vals_cons {x : V} {xs : List V} {us : List Value} (r : Vals (x :: xs) us) : ∃ u us', us = u :: us' ∧ RelV x u ∧ Vals xs us' := by
  cases r with
  | cons h t => exact ⟨_, _, rfl, h, t⟩
/-! ### in -/
theorem c_inD {y : V} {d : Addr} {r : Option V} (C : Cxt X k W) (g : DGet H d y r) (q : Q (.bl r.isSome) H) : oW X (compareOp .In) y (.ref d) H Q :=
  ⟨fun pins s σ v u I rx ry => by
    obtain rfl : u = Value.ref d := ry
    exact d_in (by have := C.un; omega) I g rx fun s' I' => ⟨.bl r.isSome, H, I', rfl, q⟩⟩
theorem c_notInD {y : V} {d : Addr} {r : Option V} (C : Cxt X k W) (g : DGet H d y r) (q : Q (.bl (!r.isSome)) H) : oW X (compareOp .NotIn) y (.ref d) H Q :=
  ⟨fun pins s σ v u I rx ry => by
    obtain rfl : u = Value.ref d := ry
    exact d_notIn (by have := C.un; omega) I g rx fun s' I' => ⟨.bl (!r.isSome), H, I', rfl, q⟩⟩
/-! ### dict comprehensions -/
def DcTurn (X : Cx) (scope : Scope) (vs : List Nat) (tg kx vx : Expr) (σ : L2.St) (D : Addr) (x : V) (H : Hp) (Nx : Hp → Prop) : Prop :=
  wGb X scope tg x (wipe σ vs) H fun σ2 H2 => wipe σ2 vs = wipe σ vs ∧ wEb X scope kx σ2 H2 fun y H4 => wEb X scope vx σ2 H4 fun z H5 => ∃ kvs k, y = kV k ∧ H5 D = some (.dK kvs) ∧ kvs.length < sizeLine ∧ Nx (upd H5 D (.dK (putK kvs k z)))
theorem e_dc {kx vx tg iter : Expr} (own : List (Str × Nat)) (C : Cxt X k W)
    (h : wI X tg iter σ H fun J H1 => ∃ n G Y, Walk J n G Y ∧ ∀ D, H1 D = none → ∃ Pv : Nat → Hp → Prop, Pv 0 (upd H1 D (.dK [])) ∧ (∀ i H, i ≤ n → Pv i H → G H) ∧
      (∀ i x H H', i < n → Pv i H → Y i H x H' → DcTurn X scope (own.map (·.2)) tg kx vx σ D x H' (Pv (i + 1))) ∧ ∀ H, Pv n H → Q (.ref D) H)
    (ok : BlkOk X.N X.env.scope scope own := by exact blkOk_by (by first | rfl | kernel_rfl)) (hs : ∀ x, foldedSetIterable iter X.env x = pure x := by intro _; rfl) :
    wE X (.DictComp kx vx [⟨tg, iter, [], 0⟩] scope pos) σ H Q := by
  refine eE (pe_dc (g := wGb X scope tg) (tt := wIfb X scope []) (tk := wEb X scope kx) (tv := wEb X scope vx) C.calm C.nd pI ok (fun s H C cl fp => ⟨fun pins s' σ' H' v u Q' I r hh => (hh s H C cl fp).run pins s' u I r⟩)
    (fun s H C cl fp => ⟨fun pins s' σ' H' Q' I hh => (hh s H C cl fp).run pins s' I⟩) (fun s H C cl fp => ⟨fun pins s' σ' H' Q' I hh => (hh s H C cl fp).run pins s' I⟩) (fun s H C cl fp => ⟨fun pins s' σ' H' Q' I hh => (hh s H C cl fp).run pins s' I⟩) hs) ?_
  refine wI_mono h fun J H1 hh => ?_
  obtain ⟨n, G, Y, w, hD⟩ := hh
  intro D hn
  obtain ⟨Pv, h0, hG, ht, hd⟩ := hD D hn
  refine ⟨fun i m H => i + m = n ∧ Pv i H, ⟨n, by omega, h0⟩, fun i m H ⟨hi, hP⟩ => ?_⟩
  by_cases e : i = n
  · subst e
    exact .inl ⟨w.stops _ (hG _ _ (Nat.le_refl _) hP), hd _ hP⟩
  · refine .inr ⟨w.goes _ _ (by omega) (hG _ _ (by omega) hP), Pv (i + 1), fun H' q => ⟨m - 1, by omega, by omega, q⟩, fun x H' y => ?_⟩
    have t := ht i x H H' (by omega) hP (w.yields _ _ _ _ (by omega) (hG _ _ (by omega) hP) y)
    intro s H0 C cl fp
    refine wG_mono (t s H0 C cl fp) fun σ2 H2 ⟨h1, h2⟩ => ⟨h1, fun s H0 C cl fp => eIf pts_nil ?_⟩
    exact h2
/-! ### list(d.values()) -/
theorem e_listVals (C : Cxt X k W) (h : wE X e σ H fun x H1 => ∃ (d : Addr) (kvs : List (Key × V)), x = .ref d ∧ H1 d = some (.dK kvs) ∧ ∀ p, H1 p = none → Q (.ref p) (upd H1 p (.lst (kvs.map (·.2)))))
    (hg : Gl X "list" := by rfl) (hbase : attributeBase e "values" X.env (eval e X.env) = eval e X.env := by rfl) (hline : (apos.endLine == cpos.line) = true := by rfl)
    (hs : starEach [.Call (.Attribute e "values" apos) [] [] cpos] X.env = (false, eval (.Call (.Attribute e "values" apos) [] [] cpos) X.env) :: starEach [] X.env := by rfl) :
    wE X (.Call (.Name "list" p) [.Call (.Attribute e "values" apos) [] [] cpos] [] pos) σ H Q := by
  refine ⟨fun pins s I => ?_⟩
  refine wpAny_Call_Name_kw (ld_blt I hg C.blt.list PyProof.Rows.boot_list ?_)
  refine PyProof.Rows.callWith_type1 ?_ hs rfl
  rw [hs]
  show wpAny _ _ (spliced ((false, eval (.Call (.Attribute e "values" apos) [] [] cpos) X.env) :: backTo pos (starEach [] X.env))) _ _ s
  refine Calls.spliced_cons ?_
  refine wpAny_Call_method (T := "dict") (id := "dict.values") hbase rfl hline F.plainAttrs_dict F.slot_dict_values F.type_dict_values (thn (h.run pins s I) fun u s1 ⟨x, H1, I1, rx, d, kvs, ex, hd, q⟩ => ?_)
  subst ex
  obtain rfl : u = Value.ref d := rx
  obtain ⟨hz, hs0, vs, kv, hdo⟩ := I1.hok d _ hd
  obtain ⟨ep, hat⟩ := hdo.dictAt
  have lk : kvs.length = vs.length := Paired.length kv
  have I2 : Inv X pins σ H1 { s1 with heap := s1.heap.push { cls := .type "dict_values", data := .fields #[.ref d] } } := I1.kept (t' := s1.toks) fun b ob q => Heap.get?_push_of_some _ q
  refine ⟨hdo.typeIs, hdo.mapOf.noDict, ?_⟩
  show wpAny _ _ (callWith cpos (.builtin "dict.values") [.ref d] [] []) _ X.xe s1
  refine method_meetsIn F.slot_dict_values F.entry_dict_values rfl (PySem.evalArgs_none ⟨rfl, hdo.typeIs, F.args_dict_values_1 _, _, meets_dict_values (mixKind X.prog X.w) d hs0, ⟨vs, hdo⟩, ?_⟩)
  refine Calls.spliced_nil ?_
  refine PySem.W.kdl_call (PySem.W.kdl_values (knd := mixKind X.prog X.w) (kvs := vs) (ep := ep)) (I1.ok.hd C.calm) ⟨⟨_, Heap.get?_push_size _ rfl, rfl, rfl⟩, hat.push _⟩ (by rw [← lk]; exact hz) fun h' tk acc c hk hS hacc => ?_
  have ea : acc.toList = vs.map (·.2) := PySem.W.kdl_vals_eq acc.toList (by rw [Array.length_toList]; exact hacc.1) fun j v hv => hacc.2 j v (by rw [← Array.getElem?_toList]; exact hv)
  refine ⟨.ref _, upd H1 _ (.lst (kvs.map (·.2))), I2.laid (t' := tk) hk (by rw [Heap.size_push]; exact Nat.le_refl _) (show ObjOk X.prog X.w _ _ _ (.lst (kvs.map (·.2))) from ⟨by rw [List.length_map]; exact hz, acc.toList, c, ?_, ?_⟩), rfl, q _ ?_⟩
  · rw [ea]
    clear ea hacc hS q hat hdo hd
    induction kv with
    | nil => exact .nil
    | cons h t ih => exact .cons h.2 (ih (by simp at hz; omega) (by simp at lk; omega))
  · rw [Array.toArray_toList]; exact hS
  · exact I1.hok.fresh (by rw [Heap.size_push]; exact Nat.le_succ _)
/-! ### setdefault -/
/-- what stands at a is a dict -/
structure DTy (X : Cx) (H : Hp) (a : Addr) : Prop where
  at_ : ∀ {pins : List (Addr × Obj)} {σ : L2.St} {s : Shared}, Inv X pins σ H s → s.TypeIs (.ref a) "dict" ∧ ∀ b, Value.ref a = .ref b → ∃ ob, s.heap.get? b = some ob ∧ ob.dict = none
theorem e_setd (h : wE X o σ H fun x H1 => ∃ a, x = .ref a ∧ DTy X H1 a ∧ wE X e σ H1 fun y H2 => wE X f σ H2 fun z H3 => cW X (.builtin "dict.setdefault") [.ref a, y, z] H3 Q)
    (base : attributeBase o "setdefault" X.env (eval o X.env) = eval o X.env := by rfl)
    (few : ((backTo cpos (starEach [e, f] X.env)).all (fun x => !x.1) && (backToKw cpos (keywordEach [] X.env)).all (fun x => x.1.isSome)
      && decide (([e, f] : List Expr).length + ([] : List Keyword).length + (if ([] : List Keyword).isEmpty then 0 else 1) < 30)) = true := by rfl)
    (line : (apos.endLine == cpos.line) = true := by rfl) (trees : backTo cpos (starEach [e, f] X.env) = [(false, eval e X.env), (false, eval f X.env)] := by rfl) :
    wE X (.Call (.Attribute o "setdefault" apos) [e, f] [] cpos) σ H Q := by
  refine ⟨fun pins s I => ?_⟩
  refine wpAny_Call_method base few line PySem.F.plainAttrs_dict PySem.F.slot_dict_setdefault PySem.F.type_dict_setdefault (thn (h.run pins s I) fun u s1 ⟨x, H1, I1, rx, a, ex, d, q1⟩ => ?_)
  subst ex
  obtain rfl : u = Value.ref a := rx
  obtain ⟨t1, t2⟩ := d.at_ I1
  refine ⟨t1, t2, ?_⟩
  rw [trees]
  exact Calls.callWith_builtin rfl (Calls.evalArgs_plain (Calls.spliced_cons (thn (q1.run pins s1 I1) fun iv s2 ⟨y, H2, I2, ry, q2⟩ =>
    Calls.spliced_cons (thn (q2.run pins s2 I2) fun fv s3 ⟨z, H3, I3, rz, q3⟩ => Calls.spliced_nil (q3.run pins s3 σ _ I3 (.cons rfl (.cons ry (.cons rz .nil))))))))
theorem DTy.ofT {a : Addr} {kvs : List (List Key × V)} (h : H a = some (.dT kvs)) : DTy X H a := ⟨fun I => let ⟨t1, t2, _⟩ := isD_at I (.inr ⟨kvs, .inl h⟩); ⟨t1, t2⟩⟩
/-- of a dict with tuples for keys -/
theorem cr_setdT {a b : Addr} {kvs : List (List Key × V)} {ks : List Key} {z : V} (C : Cxt X k W) (ha : H a = some (.dT kvs)) (hb : H b = some (.tup (ks.map kV))) (hl : kvs.length < sizeLine)
    (h1 : ∀ v, valV kvs ks = some v → Q v H) (h2 : valV kvs ks = none → Q z (upd H a (.dT (putK kvs ks z)))) : cW X (.builtin "dict.setdefault") [.ref a, .ref b, z] H Q :=
  ⟨fun pins s σ us I r => by
    obtain ⟨u1, us, rfl, r1, r⟩ := vals_cons r
    obtain ⟨u2, us, rfl, r2, r⟩ := vals_cons r
    obtain ⟨u3, us, rfl, r3, r⟩ := vals_cons r
    cases r
    obtain rfl : u1 = Value.ref a := r1
    obtain rfl : u2 = Value.ref b := r2
    obtain ⟨zz, hd, xs, rel, dd⟩ := dt_of I.hok ha
    have hz : xs.length ≤ sizeLine := by rw [← Paired.length rel]; exact zz
    refine call_setdefault_heap (hsz := hz) (tupleKind_room_in1 (by have := C.un; omega)) (key_of I.hok hb) hd dd (fun p hp => ?_) fun hn h' dd' hs => ?_
    · have q := rel.val ks
      rw [hp] at q
      cases q0 : valV kvs ks with
      | none => rw [q0] at q; exact (show False from q).elim
      | some v0 =>
        rw [q0] at q
        exact ⟨v0, H, I.tok _, q, h1 v0 q0⟩
    · have q := rel.val ks
      rw [hn] at q
      cases q0 : valV kvs ks with
      | some v0 => rw [q0] at q; exact (show False from q).elim
      | none =>
        have hl2 : (putK kvs ks z).length ≤ sizeLine := by have := length_putK kvs ks z; omega
        obtain ⟨q', es, ep, hq, g2, g3, g4, _, g5⟩ := dd'
        refine ⟨z, upd H a (.dT (putK kvs ks z)), d_write I (by rw [ha]; exact True.intro) hs ⟨q', hq⟩ ⟨hl2, hd, _, (rel.put ks hb r3).keeps fun c ys ec => ?_, q', es, ep, hq, g2, g3, g4, g5⟩, r3, h2 q0⟩
        rw [upd_ne (ne_of ec ha (fun z => nomatch z))]
        exact ec⟩
/-! ### dicts by truth values -/
def DB (P : Program) (w : World) (a : Addr) (kvs : List (Bool × V)) : HO := .ext fun h => kvs.length ≤ sizeLine ∧ (a == sysModules) = false ∧ ∃ vs : List (Bool × Value), KV kvs vs ∧ h.DictOf (PpSet.boolK P w) a vs
theorem db_new {P : Program} {w : World} {h : Heap} {a : Addr} {kvs : List (Bool × V)} {vs : List (Bool × Value)} (hz : kvs.length ≤ sizeLine) (hs : (a == sysModules) = false) (kv : KV kvs vs) (d : h.DictOf (PpSet.boolK P w) a vs) {H : Hp} : ObjOk P w H h a (DB P w a kvs) := by
  obtain ⟨o, es, ep, ho, r⟩ := id d
  refine ⟨⟨hz, hs, vs, kv, d⟩, ⟨o, ho⟩, fun h1 h2 p k => ?_⟩
  obtain ⟨p1, p2, vs', kv', o', es', ep', ho', r'⟩ := p
  exact ⟨p1, p2, vs', kv', o', es', ep', k _ ho', r'⟩
theorem db_get {pins : List (Addr × Obj)} {s : Shared} {a : Addr} {kvs : List (Bool × V)} (I : Inv X pins σ H s) (ha : H a = some (DB X.prog X.w a kvs)) : kvs.length ≤ sizeLine ∧ (a == sysModules) = false ∧ ∃ vs : List (Bool × Value), KV kvs vs ∧ s.heap.DictOf (PpSet.boolK X.prog X.w) a vs := (I.hok a _ ha).1
theorem DTy.ofB {a : Addr} {kvs : List (Bool × V)} (h : H a = some (DB X.prog X.w a kvs)) : DTy X H a := ⟨fun I => by
  obtain ⟨_, _, vs, kv, d⟩ := db_get I h
  exact ⟨d.typeIs, d.mapOf.noDict⟩⟩
theorem e_newDB (h : ∀ p, H p = none → Q (.ref p) (upd H p (DB X.prog X.w p []))) : wE X (.Dict [] [] pos) σ H Q := ⟨fun pins s I =>
  wpAny_Dict_empty ⟨.ref s.heap.objs.size, _, I.laid (a := s.heap.objs.size) (o := DB X.prog X.w s.heap.objs.size []) (t' := s.toks) (fun _ _ q => Heap.get?_push_of_some _ q) (Nat.le_refl _)
    (db_new (Nat.zero_le _) (beq_eq_false_iff_ne.mpr (Ne.symm (Nat.ne_of_lt I.big))) .nil (Heap.DictOf.new s.heap)), rfl, h _ (I.hok.fresh (Nat.le_refl _))⟩⟩
theorem cr_setdB {a : Addr} {kvs : List (Bool × V)} {b : Bool} {z : V} (ha : H a = some (DB X.prog X.w a kvs)) (hl : kvs.length < sizeLine)
    (h1 : ∀ v, valV kvs b = some v → Q v H) (h2 : valV kvs b = none → Q z (upd H a (DB X.prog X.w a (putK kvs b z)))) : cW X (.builtin "dict.setdefault") [.ref a, .bl b, z] H Q :=
  ⟨fun pins s σ us I r => by
    obtain ⟨u1, us, rfl, r1, r⟩ := vals_cons r
    obtain ⟨u2, us, rfl, r2, r⟩ := vals_cons r
    obtain ⟨u3, us, rfl, r3, r⟩ := vals_cons r
    cases r
    obtain rfl : u1 = Value.ref a := r1
    obtain rfl : u2 = Value.bool b := r2
    obtain ⟨zz, hd, vs, rel, dd⟩ := db_get I ha
    have hz : vs.length ≤ sizeLine := by rw [← rel.length]; exact zz
    refine call_meetsIn PySem.F.slot_dict_setdefault dd.typeIs PySem.F.entry_dict_setdefault (PySem.F.args_dict_setdefault_3 _ _ _) (kt_meets_setdefault (PpSet.boolK X.prog X.w) (k := b) (key := .bool b) a (show PpSet.isB b (.bool b) = true by cases b <;> rfl) hd u3) ⟨vs, dd, hz, fun v hv => ?_, fun hn h' dd' hs => ?_⟩
    · have q := rel.val b
      rw [hv] at q
      cases q0 : valV kvs b with
      | none => rw [q0] at q; exact (show False from q).elim
      | some v0 =>
        rw [q0] at q
        exact ⟨v0, H, I.tok _, q, h1 v0 q0⟩
    · have q := rel.val b
      rw [hn] at q
      cases q0 : valV kvs b with
      | some v0 => rw [q0] at q; exact (show False from q).elim
      | none =>
        have hl2 : (putK kvs b z).length ≤ sizeLine := by have := length_putK kvs b z; omega
        have he : ∃ q, h'.get? a = some q := let ⟨q, _, _, hq, _⟩ := dd'; ⟨q, hq⟩
        exact ⟨z, _, d_write (t' := s.toks + 1) I (by rw [ha]; exact True.intro) hs he (db_new hl2 hd (rel.put b r3) dd'), r3, h2 q0⟩⟩
/-! ### len(d) -/
theorem e_lenDB (B : Blt X.mg X.base) (h : wE X e σ H fun x H1 => ∃ (a : Addr) (kvs : List (Bool × V)), x = .ref a ∧ H1 a = some (DB X.prog X.w a kvs) ∧ Q (.int (kvs.length : Nat)) H1) (hg : Gl X "len" := by rfl) (hs : starEach [e] X.env = [(false, eval e X.env)] := by rfl) :
    wE X (.Call (.Name "len" p) [e] [] pos) σ H Q :=
  e_B (id := "len") (a_cons (wE_mono h fun x H1 ⟨a, kvs, e1, ha, q⟩ => a_nil (by
    subst e1
    exact ⟨fun pins s σ us I r => by
      obtain ⟨u, us, rfl, r1, r⟩ := vals_cons r
      cases r
      obtain rfl : u = Value.ref a := r1
      obtain ⟨zz, hd, vs, rel, dd⟩ := db_get I ha
      refine call_len_dict hd dd (by rw [← rel.length]; rw [sizeLine_eq] at zz; omega) ?_
      rw [← rel.length]
      exact ⟨.int (kvs.length : Nat), H1, I.tok _, ⟨_, rfl⟩, q⟩⟩)) hs) B.len PySem.boot_len hg (by decide) (by decide) hs rfl
theorem e_lenDT (B : Blt X.mg X.base) (h : wE X e σ H fun x H1 => ∃ (a : Addr) (kvs : List (List Key × V)), x = .ref a ∧ H1 a = some (.dT kvs) ∧ Q (.int (kvs.length : Nat)) H1) (hg : Gl X "len" := by rfl) (hs : starEach [e] X.env = [(false, eval e X.env)] := by rfl) :
    wE X (.Call (.Name "len" p) [e] [] pos) σ H Q :=
  e_B (id := "len") (a_cons (wE_mono h fun x H1 ⟨a, kvs, e1, ha, q⟩ => a_nil (cW_of call_len_dT ⟨a, kvs, by rw [e1], ha, q⟩)) hs) B.len PySem.boot_len hg (by decide) (by decide) hs rfl
theorem a_star {sp : Pos} {R : List V → Hp → Prop} (h : wE X e σ H fun x H1 => ∃ q xs, x = V.ref q ∧ (SqT X.K H1 q xs ∨ SqL X.K H1 q xs) ∧ wA X es σ H1 fun ys H2 => R (xs ++ ys) H2) (hs : starEach (.Starred e sp :: es) X.env = (true, eval e X.env) :: starEach es X.env := by rfl) : wA X (.Starred e sp :: es) σ H R :=
  eA (StX.pa_star pE pA hs) h
theorem e_maxL (C : Cxt X k W) (h : wE X a σ H fun x H1 => ∃ (q : Addr) (ns : List Int), x = .ref q ∧ SqL X.K H1 q (ns.map V.int) ∧ 0 < ns.length ∧ ∀ m, m ∈ ns → (∀ y, y ∈ ns → y ≤ m) → Q (.int m) H1) (hg : Gl X "max" := by rfl) (hs : starEach [a] X.env = [(false, eval a X.env)] := by rfl) :
    wE X (.Call (.Name "max" p) [a] [] pos) σ H Q :=
  e_B (id := "max") (a_cons (wE_mono h fun x H1 ⟨q, ns, e1, h1, h2, h3⟩ => a_nil (cW_of (cr_max C.calm) ⟨q, ns, by rw [e1], h1, h2, h3⟩)) hs) C.blt.max PyProof.Rows.boot_max hg (by decide) (by decide) hs rfl
end
end Z

set_option Elab.async false
set_option linter.all false
/-! plain: machines over the words of wd letters. A machine is told by its number of states, its acceptance, and the targets in row order: t (s * wd + a) is where s goes with a. -/
namespace Mc
/-- how many values stand among the first k, when each new one is the least that is not yet there -/
def cnt (cl : Nat → Nat) : Nat → Nat
  | 0 => 0
  | k + 1 => if cl k = cnt cl k then cnt cl k + 1 else cnt cl k
/-- numbered by first meeting, below N -/
def FO (cl : Nat → Nat) (N : Nat) : Prop := ∀ k, k < N → cl k ≤ cnt cl k
theorem cnt_le (cl : Nat → Nat) : ∀ k, cnt cl k ≤ k
  | 0 => Nat.le_refl _
  | k + 1 => by have := cnt_le cl k; simp only [cnt]; split <;> omega
theorem cnt_mono (cl : Nat → Nat) (k : Nat) : cnt cl k ≤ cnt cl (k + 1) := by simp only [cnt]; split <;> omega
theorem cnt_mono' (cl : Nat → Nat) {j k : Nat} (h : j ≤ k) : cnt cl j ≤ cnt cl k := by
  induction h with
  | refl => exact Nat.le_refl _
  | step _ ih => exact Nat.le_trans ih (cnt_mono cl _)
theorem FO.lt {cl : Nat → Nat} {N k : Nat} (h : FO cl N) (hk : k < N) : cl k < cnt cl (k + 1) := by
  have := h k hk
  simp only [cnt]; split <;> omega
theorem FO.lt' {cl : Nat → Nat} {N j k : Nat} (h : FO cl N) (hk : k ≤ N) (hj : j < k) : cl j < cnt cl k := Nat.lt_of_lt_of_le (h.lt (by omega)) (cnt_mono' cl hj)
theorem cnt_has {cl : Nat → Nat} : ∀ {k y : Nat}, y < cnt cl k → ∃ j, j < k ∧ cl j = y
  | 0, _, h => by simp [cnt] at h
  | k + 1, y, h => by
    simp only [cnt] at h
    split at h
    · rename_i e
      by_cases hy : y = cnt cl k
      · exact ⟨k, by omega, by omega⟩
      · obtain ⟨j, hj, e2⟩ := cnt_has (cl := cl) (k := k) (y := y) (by omega)
        exact ⟨j, by omega, e2⟩
    · obtain ⟨j, hj, e2⟩ := cnt_has (cl := cl) (k := k) (y := y) h
      exact ⟨j, by omega, e2⟩
theorem FO.before {cl : Nat → Nat} {N k y : Nat} (h : FO cl N) (hk : k < N) (hy : y < cl k) : ∃ j, j < k ∧ cl j = y := cnt_has (Nat.lt_of_lt_of_le hy (h k hk))
theorem FO.zero {cl : Nat → Nat} {N : Nat} (h : FO cl N) (hN : 0 < N) : cl 0 = 0 := by
  have := h 0 hN
  simp only [cnt] at this
  omega
/-- a finer numbering with no more numbers is the same -/
theorem cnt_finer {f g : Nat → Nat} {N : Nat} (hf : FO f N) (hg : FO g N) (fine : ∀ i j, i < N → j < N → f i = f j → g i = g j) :
    ∀ {k}, k ≤ N → cnt g k ≤ cnt f k ∧ (cnt f k ≤ cnt g k → ∀ j, j < k → f j = g j) := by
  intro k
  induction k with
  | zero => exact fun _ => ⟨Nat.le_refl _, fun _ j hj => by omega⟩
  | succ k ih =>
    intro hk
    obtain ⟨h1, h2⟩ := ih (by omega)
    have a1 := hf k (by omega)
    have a2 := hg k (by omega)
    by_cases e1 : f k = cnt f k
    · by_cases e2 : g k = cnt g k
      · simp only [cnt, if_pos e1, if_pos e2]
        refine ⟨by omega, fun h j hj => ?_⟩
        by_cases hj2 : j = k
        · subst hj2; omega
        · exact h2 (by omega) j (by omega)
      · simp only [cnt, if_pos e1, if_neg e2]
        refine ⟨by omega, fun h j hj => by omega⟩
    · obtain ⟨j0, hj0, e0⟩ := cnt_has (cl := f) (k := k) (y := f k) (by omega)
      have e3 := fine j0 k (by omega) (by omega) e0
      have e2 : ¬ g k = cnt g k := fun z => by
        have := hg.lt' (k := k) (by omega) hj0
        omega
      simp only [cnt, if_neg e1, if_neg e2]
      refine ⟨h1, fun h j hj => ?_⟩
      by_cases hj2 : j = k
      · subst hj2
        have := h2 h j0 hj0
        omega
      · exact h2 h j (by omega)
/-! ### machines -/
structure M where
  n : Nat
  t : Nat → Nat
  f : Nat → Bool
variable {wd : Nat}
/-- words -/
def Wd (wd : Nat) (w : List Nat) : Prop := ∀ a ∈ w, a < wd
def M.step (m : M) (wd s a : Nat) : Nat := m.t (s * wd + a)
def M.run (m : M) (wd : Nat) (s : Nat) (w : List Nat) : Nat := w.foldl (m.step wd) s
def M.lang (m : M) (wd : Nat) (s : Nat) (w : List Nat) : Bool := m.f (m.run wd s w)
theorem M.lang_cons (m : M) (s a : Nat) (w : List Nat) : m.lang wd s (a :: w) = m.lang wd (m.step wd s a) w := rfl
/-- all targets are states -/
def M.In (m : M) (wd : Nat) : Prop := 0 < m.n ∧ ∀ c, c < m.n * wd → m.t c < m.n
theorem code_lt {n s a : Nat} (hs : s < n) (ha : a < wd) : s * wd + a < n * wd := by
  have h1 : (s + 1) * wd ≤ n * wd := Nat.mul_le_mul_right _ hs
  rw [Nat.succ_mul] at h1
  omega
theorem M.In.step {m : M} (h : m.In wd) {s a : Nat} (hs : s < m.n) (ha : a < wd) : m.step wd s a < m.n := h.2 _ (code_lt hs ha)
theorem M.In.run {m : M} (h : m.In wd) : ∀ {w : List Nat} {s : Nat}, s < m.n → Wd wd w → m.run wd s w < m.n
  | [], _, hs, _ => hs
  | a :: w, s, hs, hw => M.In.run h (w := w) (h.step hs (hw a (by simp))) fun b hb => hw b (List.mem_cons_of_mem _ hb)
/-- the targets meet new states in order, and each state is met ahead of its row -/
structure Scan (wd n : Nat) (t : Nat → Nat) : Prop where
  one : ∀ c, c < n * wd → ∀ y, y < t c → y = 0 ∨ ∃ c', c' < c ∧ t c' = y
  two : ∀ i, 0 < i → i < n → ∃ c, c < i * wd ∧ t c = i
/-- the same words from s of m as from s' of m' -/
def Eqv (wd : Nat) (m m' : M) (s s' : Nat) : Prop := ∀ w, Wd wd w → m.lang wd s w = m'.lang wd s' w
theorem Eqv.step {m m' : M} {s s' a : Nat} (h : Eqv wd m m' s s') (ha : a < wd) : Eqv wd m m' (m.step wd s a) (m'.step wd s' a) := fun w hw => by
  have := h (a :: w) fun b hb => by
    rcases List.mem_cons.mp hb with rfl | hb
    · exact ha
    · exact hw b hb
  exact this
theorem Eqv.symm {m m' : M} {s s' : Nat} (h : Eqv wd m m' s s') : Eqv wd m' m s' s := fun w hw => (h w hw).symm
theorem Eqv.trans {m m' m'' : M} {s s' s'' : Nat} (h : Eqv wd m m' s s') (k : Eqv wd m' m'' s' s'') : Eqv wd m m'' s s'' := fun w hw => (h w hw).trans (k w hw)
structure Canon (wd : Nat) (m : M) : Prop where
  inn : m.In wd
  scan : Scan wd m.n m.t
  apart : ∀ i j, i < m.n → j < m.n → Eqv wd m m i j → i = j
theorem code_div {n c : Nat} (h : c < n * wd) : c / wd < n ∧ c % wd < wd ∧ (c / wd) * wd + c % wd = c := by
  have hp : 0 < wd := by
    rcases Nat.eq_zero_or_pos wd with e | e
    · subst e; simp at h
    · exact e
  refine ⟨(Nat.div_lt_iff_lt_mul hp).mpr h, Nat.mod_lt _ hp, ?_⟩
  rw [Nat.mul_comm]
  exact Nat.div_add_mod c wd
/-- the first place of a value -/
theorem first_at {t : Nat → Nat} {i : Nat} : ∀ {c : Nat}, t c = i → ∃ c', c' ≤ c ∧ t c' = i ∧ ∀ d, d < c' → t d ≠ i := by
  intro c
  induction c using Nat.strongRecOn with
  | ind c ih =>
    intro h
    by_cases e : ∃ d, d < c ∧ t d = i
    · obtain ⟨d, hd, h2⟩ := e
      obtain ⟨c', h3, h4, h5⟩ := ih d hd h2
      exact ⟨c', by omega, h4, h5⟩
    · exact ⟨c, Nat.le_refl _, h, fun d hd z => e ⟨d, hd, z⟩⟩
theorem canon_pre {m m' : M} (h : Canon wd m) (h' : Canon wd m') (e : Eqv wd m m' 0 0) : ∀ i, i < m.n → i < m'.n ∧ Eqv wd m m' i i := by
  intro i
  induction i using Nat.strongRecOn with
  | ind i ih =>
    intro hi
    by_cases h0 : i = 0
    · subst h0; exact ⟨h'.inn.1, e⟩
    obtain ⟨c0, hc0, e0⟩ := h.scan.two i (by omega) hi
    obtain ⟨c, hc, ec, first⟩ := first_at e0
    have hci : c < i * wd := by omega
    obtain ⟨hp, ha, ep⟩ := code_div hci
    obtain ⟨p1, p2⟩ := ih (c / wd) hp (by omega)
    have s1 := p2.step ha
    have e1 : m.step wd (c / wd) (c % wd) = i := by unfold M.step; rw [ep]; exact ec
    have hcn' : c < m'.n * wd := by rw [← ep]; exact code_lt p1 ha
    have y1 : m'.step wd (c / wd) (c % wd) = m'.t c := by unfold M.step; rw [ep]
    rw [e1, y1] at s1
    have hy := h'.inn.2 c hcn'
    suffices m'.t c = i by rw [this] at s1 hy; exact ⟨hy, s1⟩
    rcases Nat.lt_trichotomy (m'.t c) i with lt | eq | gt
    · obtain ⟨q1, q2⟩ := ih _ lt (by omega)
      have := h.apart _ _ (by omega) hi (q2.trans s1.symm)
      omega
    · exact eq
    · rcases h'.scan.one c hcn' i gt with z | ⟨d, hd, ed⟩
      · omega
      have hdi : d < i * wd := by omega
      obtain ⟨hq, hb, eq⟩ := code_div hdi
      obtain ⟨q1, q2⟩ := ih (d / wd) hq (by omega)
      have s2 := q2.step hb
      have z1 : m.step wd (d / wd) (d % wd) = m.t d := by unfold M.step; rw [eq]
      have z2 : m'.step wd (d / wd) (d % wd) = i := by unfold M.step; rw [eq]; exact ed
      rw [z1, z2] at s2
      have hdn : d < m.n * wd := Nat.lt_of_lt_of_le hdi (Nat.mul_le_mul_right _ (by omega))
      have hzi : m.t d < i := by
        rcases Nat.lt_trichotomy (m.t d) i with lt | eq2 | gt2
        · exact lt
        · exact absurd eq2 (first d hd)
        · rcases h.scan.one d hdn i gt2 with z | ⟨d2, hd2, ed2⟩
          · omega
          · exact absurd ed2 (first d2 (by omega))
      obtain ⟨r1, r2⟩ := ih _ hzi (by omega)
      have := h'.apart _ _ r1 (by omega) (r2.symm.trans s2)
      omega
/-- one language has one such machine -/
theorem canon_eq {m m' : M} (h : Canon wd m) (h' : Canon wd m') (e : Eqv wd m m' 0 0) : m.n = m'.n ∧ (∀ c, c < m.n * wd → m.t c = m'.t c) ∧ ∀ s, s < m.n → m.f s = m'.f s := by
  have k := canon_pre h h' e
  have k' := canon_pre h' h e.symm
  have en : m.n = m'.n := by
    have a : ¬ m'.n < m.n := fun z => by have := (k m'.n z).1; omega
    have b : ¬ m.n < m'.n := fun z => by have := (k' m.n z).1; omega
    omega
  refine ⟨en, fun c hc => ?_, fun s hs => (k s hs).2 [] (fun _ h => by simp at h)⟩
  obtain ⟨hp, ha, ep⟩ := code_div hc
  have s1 := (k _ hp).2.step ha
  have z1 : m.step wd (c / wd) (c % wd) = m.t c := by unfold M.step; rw [ep]
  have z2 : m'.step wd (c / wd) (c % wd) = m'.t c := by unfold M.step; rw [ep]
  rw [z1, z2] at s1
  have hx := h.inn.2 c hc
  have hy := h'.inn.2 c (by rw [← en]; exact hc)
  exact h'.apart _ _ (by omega) hy ((k _ hx).2.symm.trans s1)
end Mc

set_option Elab.async false
set_option linter.all false
/-! plain: classes of states, states met in order -/
namespace Mc
variable {wd : Nat}
/-! ### classes -/
theorem stable_eqv {m : M} (hi : m.In wd) {cl : Nat → Nat} (hf : ∀ i j, i < m.n → j < m.n → cl i = cl j → m.f i = m.f j)
    (hc : ∀ i j, i < m.n → j < m.n → cl i = cl j → ∀ a, a < wd → cl (m.step wd i a) = cl (m.step wd j a)) : ∀ i j, i < m.n → j < m.n → cl i = cl j → Eqv wd m m i j := by
  intro i j h1 h2 e w
  induction w generalizing i j with
  | nil => exact fun _ => hf i j h1 h2 e
  | cons a w ih =>
    intro hw
    have ha : a < wd := hw a (by simp)
    exact ih _ _ (hi.step h1 ha) (hi.step h2 ha) (hc i j h1 h2 e a ha) fun b hb => hw b (List.mem_cons_of_mem _ hb)
/-- one round of parting classes -/
structure Round (wd : Nat) (m : M) (cl cl2 : Nat → Nat) : Prop where
  fo : FO cl2 m.n
  iff : ∀ i j, i < m.n → j < m.n → (cl2 i = cl2 j ↔ cl i = cl j ∧ ∀ a, a < wd → cl (m.step wd i a) = cl (m.step wd j a))
/-- what each numbering keeps -/
structure Keeps (wd : Nat) (m : M) (cl : Nat → Nat) : Prop where
  fo : FO cl m.n
  acc : ∀ i j, i < m.n → j < m.n → cl i = cl j → m.f i = m.f j
  eqv : ∀ i j, i < m.n → j < m.n → Eqv wd m m i j → cl i = cl j
theorem Keeps.first {m : M} {cl : Nat → Nat} (fo : FO cl m.n) (h : ∀ i j, i < m.n → j < m.n → (cl i = cl j ↔ m.f i = m.f j)) : Keeps wd m cl :=
  ⟨fo, fun i j h1 h2 e => (h i j h1 h2).mp e, fun i j h1 h2 e => (h i j h1 h2).mpr (e [] fun _ h => by simp at h)⟩
theorem Round.keeps {m : M} {cl cl2 : Nat → Nat} (hi : m.In wd) (k : Keeps wd m cl) (r : Round wd m cl cl2) : Keeps wd m cl2 :=
  ⟨r.fo, fun i j h1 h2 e => k.acc i j h1 h2 ((r.iff i j h1 h2).mp e).1, fun i j h1 h2 e => (r.iff i j h1 h2).mpr ⟨k.eqv i j h1 h2 e, fun a ha => k.eqv _ _ (hi.step h1 ha) (hi.step h2 ha) (e.step ha)⟩⟩
/-- a round without a new class ends it -/
theorem Round.done {m : M} {cl cl2 : Nat → Nat} (hi : m.In wd) (k : Keeps wd m cl) (r : Round wd m cl cl2) (h : cnt cl2 m.n ≤ cnt cl m.n) : ∀ i j, i < m.n → j < m.n → (cl2 i = cl2 j ↔ Eqv wd m m i j) := by
  have same := (cnt_finer r.fo k.fo (fun i j h1 h2 e => ((r.iff i j h1 h2).mp e).1) (Nat.le_refl _)).2 h
  have k2 := r.keeps hi k
  intro i j h1 h2
  refine ⟨fun e => stable_eqv hi k2.acc (fun i j h1 h2 e a ha => ?_) i j h1 h2 e, k2.eqv i j h1 h2⟩
  rw [same _ (hi.step h1 ha), same _ (hi.step h2 ha)]
  exact ((r.iff i j h1 h2).mp e).2 a ha
/-- the machine of the classes -/
structure Quot (wd : Nat) (m : M) (cl : Nat → Nat) (q : M) : Prop where
  n : q.n = cnt cl m.n
  t : ∀ k, k < m.n → (∀ j, j < k → cl j ≠ cl k) → ∀ a, a < wd → q.t (cl k * wd + a) = cl (m.t (k * wd + a))
  f : ∀ k, k < m.n → (∀ j, j < k → cl j ≠ cl k) → q.f (cl k) = m.f k
theorem first_idx {cl : Nat → Nat} {N : Nat} : ∀ k, k < N → ∃ k', k' ≤ k ∧ cl k' = cl k ∧ ∀ j, j < k' → cl j ≠ cl k' := by
  intro k
  induction k using Nat.strongRecOn with
  | ind k ih =>
    intro hk
    by_cases e : ∃ j, j < k ∧ cl j = cl k
    · obtain ⟨j, hj, ej⟩ := e
      obtain ⟨k', h1, h2, h3⟩ := ih j hj (by omega)
      exact ⟨k', by omega, by omega, h3⟩
    · exact ⟨k, Nat.le_refl _, rfl, fun j hj z => e ⟨j, hj, z⟩⟩
theorem Quot.canon {m q : M} {cl : Nat → Nat} (hi : m.In wd) (sc : Scan wd m.n m.t) (fo : FO cl m.n) (iff : ∀ i j, i < m.n → j < m.n → (cl i = cl j ↔ Eqv wd m m i j)) (h : Quot wd m cl q) :
    Canon wd q ∧ Eqv wd m q 0 0 := by
  -- a class, by any of its states
  have tt : ∀ k, k < m.n → ∀ a, a < wd → q.t (cl k * wd + a) = cl (m.t (k * wd + a)) := fun k hk a ha => by
    obtain ⟨k', h1, h2, h3⟩ := first_idx (cl := cl) k hk
    have e := ((iff k' k (by omega) hk).mp h2).step ha
    have e2 := (iff _ _ (hi.step (by omega) ha) (hi.step hk ha)).mpr e
    rw [← h2, h.t k' (by omega) h3 a ha]
    exact e2
  have ff : ∀ k, k < m.n → q.f (cl k) = m.f k := fun k hk => by
    obtain ⟨k', h1, h2, h3⟩ := first_idx (cl := cl) k hk
    rw [← h2, h.f k' (by omega) h3]
    exact (iff k' k (by omega) hk).mp h2 [] (fun _ h => by simp at h)
  have run : ∀ (w : List Nat) (k : Nat), k < m.n → Wd wd w → q.run wd (cl k) w = cl (m.run wd k w) := by
    intro w
    induction w with
    | nil => exact fun k _ _ => rfl
    | cons a w ih =>
      intro k hk hw
      have ha : a < wd := hw a (by simp)
      show q.run wd (q.step wd (cl k) a) w = cl (m.run wd (m.step wd k a) w)
      have : q.step wd (cl k) a = cl (m.step wd k a) := tt k hk a ha
      rw [this]
      exact ih _ (hi.step hk ha) fun b hb => hw b (List.mem_cons_of_mem _ hb)
  have lang : ∀ k, k < m.n → Eqv wd m q k (cl k) := fun k hk w hw => by
    unfold M.lang
    rw [run w k hk hw, ff _ (hi.run hk hw)]
  have cls : ∀ c, c < q.n → ∃ k, k < m.n ∧ cl k = c ∧ ∀ j, j < k → cl j ≠ c := fun c hc => by
    rw [h.n] at hc
    obtain ⟨j, hj, e⟩ := cnt_has hc
    obtain ⟨k', h1, h2, h3⟩ := first_idx (cl := cl) j hj
    exact ⟨k', by omega, by omega, fun i hi z => h3 i hi (by omega)⟩
  have lt : ∀ k, k < m.n → cl k < q.n := fun k hk => by rw [h.n]; exact fo.lt' (Nat.le_refl _) hk
  -- an earlier first state has a smaller class
  have less : ∀ k j, k < m.n → (∀ i, i < k → cl i ≠ cl k) → j < k → cl j < cl k := fun k j hk h1 hj => by
    rcases Nat.lt_trichotomy (cl j) (cl k) with a | a | a
    · exact a
    · exact absurd a (h1 j hj)
    · obtain ⟨i, hi, ei⟩ := fo.before (by omega) a
      exact absurd ei (h1 i (by omega))
  refine ⟨⟨⟨?_, fun c hc => ?_⟩, ⟨fun c hc y hy => ?_, fun i h0 hin => ?_⟩, fun i j h1 h2 e => ?_⟩, ?_⟩
  · have := lt 0 hi.1; omega
  · obtain ⟨hs, ha, ec⟩ := code_div hc
    obtain ⟨k, hk, e1, e2⟩ := cls _ hs
    rw [← ec, ← e1, tt k hk _ ha]
    exact lt _ (hi.step hk ha)
  · obtain ⟨hs, ha, ec⟩ := code_div hc
    obtain ⟨k, hk, e1, e2⟩ := cls _ hs
    by_cases y0 : y = 0
    · exact .inl y0
    refine .inr ?_
    have et : q.t c = cl (m.t (k * wd + c % wd)) := by
      have := tt k hk _ ha
      rw [e1, ec] at this
      exact this
    rw [et] at hy
    have hts := hi.step hk ha
    obtain ⟨j, hj, ej⟩ := fo.before hts hy
    obtain ⟨j', h1, h2, h3⟩ := first_idx (cl := cl) (N := m.n) j (Nat.lt_trans hj hts)
    have hj0 : j' ≠ 0 := fun z => by
      rw [z, fo.zero hi.1] at h2
      omega
    have hlt : j' < m.t (k * wd + c % wd) := Nat.lt_of_le_of_lt h1 hj
    rcases sc.one _ (code_lt hk ha) j' hlt with z | ⟨P, hP, eP⟩
    · exact absurd z hj0
    have hPn : P < m.n * wd := Nat.lt_trans hP (code_lt hk ha)
    obtain ⟨hq, hb, eq⟩ := code_div hPn
    refine ⟨cl (P / wd) * wd + P % wd, ?_, ?_⟩
    · have hqk : P / wd ≤ k := by
        have h3 : P < (k + 1) * wd := by rw [Nat.succ_mul]; omega
        have := (Nat.div_lt_iff_lt_mul (by omega)).mpr h3
        omega
      rcases Nat.lt_or_ge (P / wd) k with z | z
      · have hlc := less k (P / wd) hk (fun i hi z => e2 i hi (by omega)) z
        have := code_lt (n := cl k) hlc hb
        rw [e1] at this
        have : cl (P / wd) * wd + P % wd < c / wd * wd := this
        omega
      · have eqk : P / wd = k := by omega
        rw [eqk, e1]
        rw [eqk] at eq
        omega
    · rw [tt _ hq _ hb, eq, eP]
      omega
  · obtain ⟨k, hk, e1, e2⟩ := cls i hin
    have hk0 : 0 < k := by
      rcases Nat.eq_zero_or_pos k with z | z
      · rw [z, fo.zero hi.1] at e1; omega
      · exact z
    obtain ⟨P, hP, eP⟩ := sc.two k hk0 hk
    obtain ⟨hq, hb, eq⟩ := code_div hP
    have hlc := less k (P / wd) hk (fun i hi z => e2 i hi (by omega)) hq
    refine ⟨cl (P / wd) * wd + P % wd, ?_, ?_⟩
    · rw [← e1]; exact code_lt hlc hb
    · rw [tt _ (by omega) _ hb, eq, eP]; exact e1
  · obtain ⟨k, hk, e1, _⟩ := cls i h1
    obtain ⟨l, hl, e2, _⟩ := cls j h2
    rw [← e1, ← e2] at e ⊢
    exact (iff k l hk hl).mpr (((lang k hk).trans e).trans (lang l hl).symm)
  · have := lang 0 hi.1
    rwa [fo.zero hi.1] at this
/-! ### states met in order -/
/-- c places of the table gone through: the states met, and where each place goes by their numbers -/
structure Bfs (wd N : Nat) (g : Nat → Nat → Nat) (c : Nat) (fl ts : List Nat) : Prop where
  zero : fl[0]? = some 0
  nd : fl.Nodup
  inn : ∀ x ∈ fl, x < N
  len : ts.length = c
  at_ : ∀ c', c' < c → ∃ y, ts[c']? = some y ∧ ∃ p, fl[c' / wd]? = some p ∧ fl[y]? = some (g p (c' % wd))
  seen : ∀ i, 0 < i → i < fl.length → ∃ c', c' < c ∧ ts[c']? = some i
  one : ∀ c', c' < c → ∀ y z, ts[c']? = some z → y < z → y = 0 ∨ ∃ c'', c'' < c' ∧ ts[c'']? = some y
  two : ∀ i, 0 < i → i * wd ≤ c → i < fl.length → ∃ c', c' < i * wd ∧ ts[c']? = some i
theorem Bfs.start {N : Nat} {g : Nat → Nat → Nat} (hN : 0 < N) : Bfs wd N g 0 [0] [] :=
  ⟨rfl, by simp, fun x h => by rw [List.mem_singleton.mp h]; exact hN, rfl, fun c h => by omega, fun i h1 h2 => by simp at h2; omega, fun c h => by omega, fun i h1 h2 h3 => by simp at h3; omega⟩
theorem Bfs.old {N c j : Nat} {g : Nat → Nat → Nat} {fl ts : List Nat} (h : Bfs wd N g c fl ts) {p : Nat} (hp : fl[c / wd]? = some p) (hj : fl[j]? = some (g p (c % wd))) : Bfs wd N g (c + 1) fl (ts ++ [j]) := by
  have get : ∀ c', c' < c → (ts ++ [j])[c']? = ts[c']? := fun c' hc => List.getElem?_append_left (by rw [h.len]; exact hc)
  have last : (ts ++ [j])[c]? = some j := by rw [List.getElem?_append_right (by rw [h.len]; exact Nat.le_refl _), h.len, Nat.sub_self]; rfl
  have hjl : j < fl.length := (List.getElem?_eq_some_iff.mp hj).1
  refine ⟨h.zero, h.nd, h.inn, by rw [List.length_append, h.len]; rfl, fun c' hc => ?_, fun i h1 h2 => ?_, fun c' hc y z e hy => ?_, fun i h1 h2 h3 => ?_⟩
  · by_cases e : c' = c
    · subst e; exact ⟨j, last, p, hp, hj⟩
    · rw [get c' (by omega)]; exact h.at_ c' (by omega)
  · obtain ⟨c', h3, h4⟩ := h.seen i h1 h2
    exact ⟨c', by omega, by rw [get c' h3]; exact h4⟩
  · by_cases e2 : c' = c
    · subst e2
      rw [last] at e
      cases e
      by_cases y0 : y = 0
      · exact .inl y0
      · obtain ⟨c'', h3, h4⟩ := h.seen y (by omega) (by omega)
        exact .inr ⟨c'', h3, by rw [get c'' h3]; exact h4⟩
    · rw [get c' (by omega)] at e
      rcases h.one c' (by omega) y z e hy with a | ⟨c'', h3, h4⟩
      · exact .inl a
      · exact .inr ⟨c'', h3, by rw [get c'' (by omega)]; exact h4⟩
  · by_cases e : i * wd ≤ c
    · obtain ⟨c', h4, h5⟩ := h.two i h1 e h3
      exact ⟨c', h4, by rw [get c' (by omega)]; exact h5⟩
    · obtain ⟨c', h4, h5⟩ := h.seen i h1 h3
      exact ⟨c', by omega, by rw [get c' h4]; exact h5⟩
theorem Bfs.new {N c : Nat} {g : Nat → Nat → Nat} {fl ts : List Nat} (h : Bfs wd N g c fl ts) (hw : 0 < wd) {p : Nat} (hp : fl[c / wd]? = some p) (hn : g p (c % wd) ∉ fl) (hN : g p (c % wd) < N) : Bfs wd N g (c + 1) (fl ++ [g p (c % wd)]) (ts ++ [fl.length]) := by
  have hcl : c / wd < fl.length := (List.getElem?_eq_some_iff.mp hp).1
  have hcw : c < fl.length * wd := (Nat.div_lt_iff_lt_mul hw).mp hcl
  have get : ∀ c', c' < c → (ts ++ [fl.length])[c']? = ts[c']? := fun c' hc => List.getElem?_append_left (by rw [h.len]; exact hc)
  have last : (ts ++ [fl.length])[c]? = some fl.length := by rw [List.getElem?_append_right (by rw [h.len]; exact Nat.le_refl _), h.len, Nat.sub_self]; rfl
  have getf : ∀ {i x}, fl[i]? = some x → (fl ++ [g p (c % wd)])[i]? = some x := fun {i x} e => by
    rw [List.getElem?_append_left (List.getElem?_eq_some_iff.mp e).1]; exact e
  have lastf : (fl ++ [g p (c % wd)])[fl.length]? = some (g p (c % wd)) := by rw [List.getElem?_append_right (Nat.le_refl _), Nat.sub_self]; rfl
  refine ⟨getf h.zero, ?_, fun x hx => ?_, by rw [List.length_append, h.len]; rfl, fun c' hc => ?_, fun i h1 h2 => ?_, fun c' hc y z e hy => ?_, fun i h1 h2 h3 => ?_⟩
  · rw [List.nodup_append]
    exact ⟨h.nd, by simp, fun a ha b hb e => hn (by rw [← List.mem_singleton.mp hb, ← e]; exact ha)⟩
  · rcases List.mem_append.mp hx with hx | hx
    · exact h.inn x hx
    · rw [List.mem_singleton.mp hx]; exact hN
  · by_cases e : c' = c
    · subst e; exact ⟨fl.length, last, p, getf hp, lastf⟩
    · rw [get c' (by omega)]
      obtain ⟨y, h1, q, h2, h3⟩ := h.at_ c' (by omega)
      exact ⟨y, h1, q, getf h2, getf h3⟩
  · rw [List.length_append] at h2
    by_cases e : i = fl.length
    · subst e; exact ⟨c, by omega, last⟩
    · obtain ⟨c', h3, h4⟩ := h.seen i h1 (by simp at h2; omega)
      exact ⟨c', by omega, by rw [get c' h3]; exact h4⟩
  · by_cases e2 : c' = c
    · subst e2
      rw [last] at e
      cases e
      by_cases y0 : y = 0
      · exact .inl y0
      · obtain ⟨c'', h3, h4⟩ := h.seen y (by omega) hy
        exact .inr ⟨c'', h3, by rw [get c'' h3]; exact h4⟩
    · rw [get c' (by omega)] at e
      rcases h.one c' (by omega) y z e hy with a | ⟨c'', h3, h4⟩
      · exact .inl a
      · exact .inr ⟨c'', h3, by rw [get c'' (by omega)]; exact h4⟩
  · rw [List.length_append] at h3
    have hi : i ≤ fl.length := by simp at h3; omega
    by_cases e : i = fl.length
    · subst e
      exact ⟨c, hcw, last⟩
    · by_cases e3 : i * wd ≤ c
      · obtain ⟨c', h4, h5⟩ := h.two i h1 e3 (by omega)
        exact ⟨c', h4, by rw [get c' (by omega)]; exact h5⟩
      · obtain ⟨c', h4, h5⟩ := h.seen i h1 (by omega)
        exact ⟨c', by omega, by rw [get c' h4]; exact h5⟩
/-- the machine of the states met -/
def Bfs.mach (fl ts : List Nat) (f : Nat → Bool) : M := ⟨fl.length, fun c => ts.getD c 0, fun k => f (fl.getD k 0)⟩
def gRun (g : Nat → Nat → Nat) (s : Nat) (w : List Nat) : Nat := w.foldl g s
theorem Bfs.in_ {N : Nat} {g : Nat → Nat → Nat} {fl ts : List Nat} {f : Nat → Bool} (h : Bfs wd N g (fl.length * wd) fl ts) : (Bfs.mach fl ts f).In wd := by
  refine ⟨(List.getElem?_eq_some_iff.mp h.zero).1, fun c hc => ?_⟩
  obtain ⟨y, h1, p, h2, h3⟩ := h.at_ c hc
  show ts.getD c 0 < fl.length
  rw [List.getD_eq_getElem?_getD, h1]
  exact (List.getElem?_eq_some_iff.mp h3).1
theorem Bfs.scan {N : Nat} {g : Nat → Nat → Nat} {fl ts : List Nat} {f : Nat → Bool} (h : Bfs wd N g (fl.length * wd) fl ts) : Scan wd (Bfs.mach fl ts f).n (Bfs.mach fl ts f).t := by
  refine ⟨fun c hc y hy => ?_, fun i h0 hi => ?_⟩
  · obtain ⟨z, h1, p, h2, h3⟩ := h.at_ c hc
    have hy : y < ts.getD c 0 := hy
    rw [List.getD_eq_getElem?_getD, h1] at hy
    rcases h.one c hc y z h1 hy with a | ⟨c', a, b⟩
    · exact .inl a
    · refine .inr ⟨c', a, ?_⟩
      show ts.getD c' 0 = y
      rw [List.getD_eq_getElem?_getD, b]; rfl
  · obtain ⟨c', a, b⟩ := h.two i h0 (Nat.mul_le_mul_right _ (Nat.le_of_lt hi)) hi
    refine ⟨c', a, ?_⟩
    show ts.getD c' 0 = i
    rw [List.getD_eq_getElem?_getD, b]; rfl
theorem Bfs.step {N : Nat} {g : Nat → Nat → Nat} {fl ts : List Nat} {f : Nat → Bool} (h : Bfs wd N g (fl.length * wd) fl ts) {k a : Nat} (hk : k < fl.length) (ha : a < wd) :
    fl.getD ((Bfs.mach fl ts f).step wd k a) 0 = g (fl.getD k 0) a := by
  have hc := code_lt hk ha
  obtain ⟨y, h1, p, h2, h3⟩ := h.at_ _ hc
  have e1 : (k * wd + a) / wd = k := by rw [Nat.mul_comm, Nat.mul_add_div (by omega), Nat.div_eq_of_lt ha, Nat.add_zero]
  have e2 : (k * wd + a) % wd = a := by rw [Nat.mul_comm, Nat.mul_add_mod, Nat.mod_eq_of_lt ha]
  rw [e1] at h2
  rw [e2] at h3
  show fl.getD (ts.getD (k * wd + a) 0) 0 = _
  rw [List.getD_eq_getElem?_getD (l := ts), h1]
  show fl.getD y 0 = _
  rw [List.getD_eq_getElem?_getD, h3, List.getD_eq_getElem?_getD, h2]
  rfl
theorem Bfs.run {N : Nat} {g : Nat → Nat → Nat} {fl ts : List Nat} {f : Nat → Bool} (h : Bfs wd N g (fl.length * wd) fl ts) : ∀ (w : List Nat) (k : Nat), k < fl.length → Wd wd w → fl.getD ((Bfs.mach fl ts f).run wd k w) 0 = gRun g (fl.getD k 0) w := by
  intro w
  induction w with
  | nil => exact fun k _ _ => rfl
  | cons a w ih =>
    intro k hk hw
    have ha : a < wd := hw a (by simp)
    have e := ih ((Bfs.mach fl ts f).step wd k a) (h.in_ (f := f) |>.step hk ha) fun b hb => hw b (List.mem_cons_of_mem _ hb)
    rw [h.step hk ha] at e
    exact e
theorem Bfs.lang {N : Nat} {g : Nat → Nat → Nat} {fl ts : List Nat} {f : Nat → Bool} (h : Bfs wd N g (fl.length * wd) fl ts) {w : List Nat} (hw : Wd wd w) : (Bfs.mach fl ts f).lang wd 0 w = f (gRun g 0 w) := by
  have := h.run (f := f) w 0 (List.getElem?_eq_some_iff.mp h.zero).1 hw
  have e0 : fl.getD 0 0 = 0 := by rw [List.getD_eq_getElem?_getD, h.zero]; rfl
  rw [e0] at this
  show f (fl.getD _ 0) = _
  rw [this]
end Mc

set_option Elab.async false
set_option linter.all false
set_option maxRecDepth 100000
set_option maxHeartbeats 4000000
namespace K14
open PySem PySem.Spec PyProof.Rows L2 Z
/-! ### lists, signs -/
section
variable {P : Program} {w : World} {K : PySem.W.Frag} {mg : Str → Option Value} {base : Heap}
def isSeq (d : PyData) : Bool := Z.isList d || Z.isTuple d
theorem scIl : FnScope ["value"] ["value"] (defScope (top 17)) := ⟨rfl, rfl, rfl, by decide +kernel, rfl, by decide +kernel, by decide +kernel⟩
theorem d_isList (B : Blt mg base) (D : At K mg "is_list" (top 17)) : Def P w K mg base 1 "is_list" (top 17) ["value"] (sp1 K isSeq) := by
  refine def_of D B scIl sp1_len fun f cdv A outer s H vs Q E hm C h => ?_
  obtain ⟨v, l, d, rfl, hd, hf, q⟩ := h
  refine b_cons (s_ret (e_isi2 B kit_list kit_tuple B.list PyProof.Rows.boot_list B.tuple PyProof.Rows.boot_tuple (e_name 0 ⟨l, d, hd, fun H' b => ?_⟩)))
  exact q H' b
/-- want_signs, where they are signs -/
def spFine (K : PySem.W.Frag) (f : PyData → Bool) : Sp := fun vs H Q _ => ∃ v l d, vs = [v] ∧ DD K l H v d ∧ fits d ∧ f d = true ∧ ∀ H', But [] H H' → Q .non H'
theorem scWs : FnScope ["value"] ["value"] (defScope (top 19)) := ⟨rfl, rfl, rfl, by decide +kernel, rfl, by decide +kernel, by decide +kernel⟩
theorem d_fineSigns (B : Blt mg base) (D : At K mg "want_signs" (top 19)) (D1 : Def P w K mg base 1 "are_signs" (top 18) ["value"] (sp1 K areSigns)) :
    Def P w K mg base 2 "want_signs" (top 19) ["value"] (spFine K areSigns) := by
  refine def_of D B scWs (fun vs H Q E ⟨v, l, d, e, _⟩ => by rw [e]; rfl) fun f cdv A outer s H vs Q E hm C h => ?_
  obtain ⟨v, l, d, rfl, hd, hf, e1, q⟩ := h
  refine b_cons (s_ifB false ?_ (fun e => by cases e) (fun _ H1 b1 => b_nil (b_nil (q H1 b1))))
  refine t_not (t_val (e_call C D1 (a_cons (e_name 0 (a_nil ?_))) rfl (fun _ _ _ _ _ _ us hl => match us, hl with | [_], _ => rfl)))
  exact ⟨v, l, d, rfl, hd, hf, fun H' b => ⟨_, rfl, by rw [e1]; rfl, b⟩⟩
/-! ### a list or a tuple -/
def SqA (K : PySem.W.Frag) (H : Hp) (a : Addr) (xs : List V) : Prop := SqL K H a xs ∨ SqT K H a xs
theorem SqA.all {H : Hp} {a : Addr} {xs : List V} (h : SqA [] H a xs) : SqA K H a xs := h.imp sql_all sqt_all
theorem SqA.but {l : List Addr} {H H' : Hp} {a : Addr} {xs : List V} (h : SqA K H a xs) (b : But l H H') (n : a ∉ l) : SqA K H' a xs := h.imp (b.sql n) (b.sqt n)
theorem SqA.len {H : Hp} {a : Addr} {xs : List V} (h : SqA K H a xs) : LenV K (.ref a) H xs.length := h.elim (fun h => .inl ⟨xs, h, rfl⟩) fun h => .inr ⟨xs, h, rfl⟩
theorem SqA.ne {H : Hp} {a q : Addr} {xs : List V} (h : SqA [] H a xs) (hq : H q = none) : a ≠ q := fun z => by
  subst z
  rcases h with ((h | ⟨o, h⟩) | ⟨o, its, n, h, _⟩) | ((h | ⟨o, h⟩) | ⟨o, its, n, h, _⟩)
  · rw [hq] at h; cases h
  · rw [hq] at h; cases h
  · cases h
  · rw [hq] at h; cases h
  · rw [hq] at h; cases h
  · cases h
theorem dd_sq {l : List Addr} {H : Hp} {v : V} {d : PyData} (h : DD K l H v d) (hs : seqB d = true) : ∃ a xs, v = .ref a ∧ SqA K H a xs ∧ DDs K l H xs (items d) := by
  cases h with
  | @lst a xs ds h1 n h2 => exact ⟨a, xs, rfl, .inl h1, h2⟩
  | @tup a xs ds h1 n h2 => exact ⟨a, xs, rfl, .inr h1, h2⟩
  | _ => simp [seqB, Z.isList, Z.isTuple] at hs
section
variable {X : Cx} {σ : L2.St} {H : Hp} {e tg : Expr} {Q : VK}
theorem i_sq {R : It → Hp → Prop} {a : Addr} {xs : List V} (hs : SqA X.K H a xs) (he : ∀ Q : VK, Q (.ref a) H → wE X e σ H Q) (h : ∀ J G, Walk J xs.length G (YAt xs) → (∀ (l : List Addr) H', But l H H' → a ∉ l → G H') → R J H) : wI X tg e σ H R := by
  rcases hs with hs | hs
  · exact i_list (he _ ⟨a, rfl, ⟨xs, hs⟩, h _ _ walk_list fun l H' b n => b.sql n hs⟩)
  · exact i_tup (he _ ⟨a, rfl, ⟨xs, hs⟩, h _ _ walk_tup fun l H' b n => b.sqt n hs⟩)
theorem i_enumSq {R : It → Hp → Prop} {a : Addr} {xs : List V} {kk : Nat} {elts : List Expr} {p pos tpos : Pos} (B : Blt X.mg X.base) (hs : SqA X.K H a xs) (he : ∀ Q : VK, Q (.ref a) H → wE X e σ H Q)
    (h : ∀ J G, Walk J xs.length G (YPair (fun i => some (.int (i : Nat))) (fun i => xs[i]?)) → (∀ (l : List Addr) H', But l H H' → a ∉ l → G H') → R J H) (hg : Gl X "enumerate" := by rfl) (hs2 : starEach [e] X.env = [(false, eval e X.env)] := by rfl) :
    wI X (.Tuple elts kk tpos) (.Call (.Name "enumerate" p) [e] [] pos) σ H R := by
  rcases hs with hs | hs
  · exact i_enum B (he _ ⟨a, xs, rfl, hs, h _ _ walk_enum fun l H' b n => b.sql n hs⟩) hg hs2
  · exact i_enumT B (he _ ⟨a, xs, rfl, hs, h _ _ walk_enumT fun l H' b n => b.sqt n hs⟩) hg hs2
theorem ix_sq {q : Addr} {xs : List V} {i : Int} {v : V} (hq : SqA X.K H q xs) (ha : atI xs i = some v) (h : Q v H) : iW X (.ref q) (.int i) H Q := hq.elim (fun hq => ix_l hq ha h) fun hq => ix_t hq ha h
end
/-! ### numbers, rows -/
abbrev nD (x : Nat) : PyData := .int (x : Int)
abbrev nV (x : Nat) : V := .int (x : Int)
theorem dds_nats {l : List Addr} {H : Hp} : ∀ {vs : List V} {ns : List Nat}, DDs K l H vs (ns.map nD) → vs = ns.map nV
  | _, [], h => by cases h; rfl
  | _, n :: ns, h => by
    cases h with
    | cons h1 h2 =>
      cases h1
      rw [dds_nats h2]
      rfl
theorem nats_dds {l : List Addr} {H : Hp} : ∀ {ns : List Nat}, DDs K l H (ns.map nV) (ns.map nD)
  | [] => .nil
  | _ :: _ => .cons (.int _) nats_dds
/-- a datum that is a row -/
def rowD (d : PyData) (r : List Nat) : Prop := seqB d = true ∧ items d = r.map nD
/-- rows of a machine, as data -/
structure RowsAt (H : Hp) (v : V) (R : List (List Nat)) : Prop where
  ex : ∃ d, DD [] [] H v d ∧ seqB d = true ∧ Paired rowD (items d) R
theorem RowsAt.but {H H' : Hp} {v : V} {R : List (List Nat)} (h : RowsAt H v R) (b : But [] H H') : RowsAt H' v R := let ⟨d, h1, h2, h3⟩ := h.ex; ⟨d, h1.but b, h2, h3⟩
structure NatsAt (H : Hp) (v : V) (r : List Nat) : Prop where
  ex : ∃ d, DD [] [] H v d ∧ rowD d r
theorem NatsAt.but {H H' : Hp} {v : V} {r : List Nat} (h : NatsAt H v r) (b : But [] H H') : NatsAt H' v r := let ⟨d, h1, h2⟩ := h.ex; ⟨d, h1.but b, h2⟩
theorem NatsAt.sq {H : Hp} {v : V} {r : List Nat} (h : NatsAt H v r) : ∃ a, v = .ref a ∧ SqA [] H a (r.map nV) := by
  obtain ⟨d, h1, h2, h3⟩ := h.ex
  obtain ⟨a, xs, e, hs, hx⟩ := dd_sq h1 h2
  rw [h3] at hx
  exact ⟨a, e, by rw [← dds_nats hx]; exact hs⟩
theorem RowsAt.sq {H : Hp} {v : V} {R : List (List Nat)} (h : RowsAt H v R) : ∃ a xs, v = .ref a ∧ SqA [] H a xs ∧ xs.length = R.length ∧ ∀ (i : Nat) (r : List Nat), R[i]? = some r → ∃ y, xs[i]? = some y ∧ NatsAt H y r := by
  obtain ⟨d, h1, h2, h3⟩ := h.ex
  obtain ⟨a, xs, e, hs, hx⟩ := dd_sq h1 h2
  refine ⟨a, xs, e, hs, by rw [hx.length, Paired.length h3], fun i r hr => ?_⟩
  have hi : i < (items d).length := by rw [Paired.length h3]; exact (List.getElem?_eq_some_iff.mp hr).1
  obtain ⟨r', e1, e2⟩ := paired_get h3 (List.getElem?_eq_getElem hi)
  rw [hr] at e1
  cases e1
  have hx1 : i < xs.length := by rw [hx.length]; exact hi
  obtain ⟨dx, g1, g2⟩ := hx.get (List.getElem?_eq_getElem hx1)
  rw [List.getElem?_eq_getElem hi] at g1
  cases g1
  exact ⟨_, List.getElem?_eq_getElem hx1, _, g2, e2⟩
/-- rows that fit -/
structure RowsOk (wd : Nat) (R : List (List Nat)) : Prop where
  pos : 0 < R.length
  few : R.length ≤ 300
  wide : ∀ r ∈ R, r.length = wd
  inn : ∀ r ∈ R, ∀ x ∈ r, x < R.length
/-! ### is_count, is_state, is_row -/
def spCount : Sp := fun vs H Q _ => ∃ i : Int, vs = [.int i] ∧ ∀ H', But [] H H' → Q (.bl (decide (0 ≤ i))) H'
theorem scCo : FnScope ["value"] ["value"] (defScope (top 16)) := ⟨rfl, rfl, rfl, by decide +kernel, rfl, by decide +kernel, by decide +kernel⟩
theorem d_isCount (B : Blt mg base) (D : At K mg "is_count" (top 16)) (D0 : Def P w K mg base 1 "is_integer" (top 15) ["value"] (sp1 K isInteger)) : Def P w K mg base 2 "is_count" (top 16) ["value"] spCount := by
  refine def_of D B scCo (fun vs H Q E ⟨_, e, _⟩ => by rw [e]; rfl) fun f cdv A outer s H vs Q E hm C h => ?_
  obtain ⟨i, rfl, hQ⟩ := h
  refine b_cons (s_ret (e_and (e_call C D0 (a_cons (e_name 0 (v := .int i) (a_nil ?_))) rfl (fun _ _ _ _ _ _ us hl => match us, hl with | [_], _ => rfl))))
  refine ⟨.int i, [], .int i, rfl, .int i, trivial, fun H1 b1 => ⟨true, rfl, ?_⟩⟩
  show wE _ _ _ _ _
  exact e_one (e_cmp (e_name 0 (v := .int i) (e_int (c_ge (hQ H1 b1)))))
def spState : Sp := fun vs H Q _ => ∃ x n : Nat, vs = [nV x, nV n] ∧ x < n ∧ ∀ H', But [] H H' → Q (.bl true) H'
theorem scSt : FnScope ["value", "many"] ["value", "many"] (defScope (top 25)) := ⟨rfl, rfl, rfl, by decide +kernel, rfl, by decide +kernel, by decide +kernel⟩
theorem d_isState (B : Blt mg base) (D : At K mg "is_state" (top 25)) (D0 : Def P w K mg base 2 "is_count" (top 16) ["value"] spCount) : Def P w K mg base 3 "is_state" (top 25) ["value", "many"] spState := by
  refine def_of D B scSt (fun vs H Q E ⟨_, _, e, _⟩ => by rw [e]; rfl) fun f cdv A outer s H vs Q E hm C h => ?_
  obtain ⟨x, n, rfl, hx, hQ⟩ := h
  refine b_cons (s_ret (e_and (e_call C D0 (a_cons (e_name 0 (v := nV x) (a_nil ?_))) rfl (fun _ _ _ _ _ _ us hl => match us, hl with | [_], _ => rfl))))
  refine ⟨x, rfl, fun H1 b1 => ⟨true, by rw [decide_eq_true (Int.natCast_nonneg x)], ?_⟩⟩
  show wE _ _ _ _ _
  refine e_one (e_cmp (e_name 0 (v := nV x) (e_name 1 (v := nV n) (c_lt ?_))))
  rw [decide_eq_true (by omega)]
  exact hQ H1 b1
def spRow : Sp := fun vs H Q _ => ∃ (v : V) (wd n : Nat) (r : List Nat), vs = [v, nV wd, nV n] ∧ NatsAt H v r ∧ r.length = wd ∧ wd ≤ 1000 ∧ (∀ x ∈ r, x < n) ∧ ∀ H', But [] H H' → Q (.bl true) H'
theorem scRo : FnScope ["value", "wide", "many", "state"] ["value", "wide", "many"] (defScope (top 26)) := ⟨rfl, rfl, rfl, by decide +kernel, rfl, by decide +kernel, by decide +kernel⟩
theorem d_isRow (B : Blt mg base) (D : At K mg "is_row" (top 26)) (D0 : Def P w K mg base 1 "is_list" (top 17) ["value"] (sp1 K isSeq)) (D1 : Def P w K mg base 3 "is_state" (top 25) ["value", "many"] spState) :
    Def P w K mg base 4 "is_row" (top 26) ["value", "wide", "many"] spRow := by
  refine def_of D B scRo (fun vs H Q E ⟨_, _, _, _, e, _⟩ => by rw [e]; rfl) fun f cdv A outer s H vs Q E hm C h => ?_
  obtain ⟨v, wd, n, r, rfl, hv, hr, hwd, hn, hQ⟩ := h
  obtain ⟨d, hd, hs, hi⟩ := hv.ex
  have fd : fits d := by cases d <;> first | trivial | simp [seqB, Z.isList, Z.isTuple] at hs
  refine b_cons (s_ret (e_and (e_call (C.mono (by decide)) D0 (a_cons (e_name 0 (v := v) (a_nil ?_))) rfl (fun _ _ _ _ _ _ us hl => match us, hl with | [_], _ => rfl))))
  refine ⟨v, [], d, rfl, hd.all, fd, fun H1 b1 => ⟨true, by rw [show isSeq d = true from hs], ?_⟩⟩
  show wE _ _ _ _ _
  obtain ⟨a, rfl, hsq⟩ := (hv.but b1).sq
  refine e_and (e_cmp (e_len B (e_name 0 (v := .ref a) ⟨(r.map nV).length, hsq.all.len, e_name 1 (v := nV wd) (c_eq rfl ⟨true, ?_, ?_⟩)⟩)))
  · rw [decide_eq_true]
    rw [List.length_map, hr]
  show wE _ _ _ _ _
  refine e_one (e_all C (e_lcM [("state", 3)] C (i_sq hsq.all (fun Q q => e_name 0 (v := .ref a) q) fun J G wk hG => ?_)))
  refine ⟨_, G, _, List.replicate r.length (.bl true), wk, by simp, by rw [List.length_map, hr, sizeLine_eq]; omega, fun H' b => hG [] H' b (by simp), fun i x H2 H' hi2 b2 hx => ?_, fun Da H' b2 hna hl => ⟨Da, List.replicate r.length true, rfl, .inl (.inl (by rw [hl]; simp)), ?_⟩⟩
  · obtain ⟨rfl, hx⟩ := hx
    rw [List.getElem?_map, Option.map_eq_some_iff] at hx
    obtain ⟨x, hx, rfl⟩ := hx
    refine ⟨But.refl, mt_name (i := 3) C.nd fun s H0 Ca cl fp => ?_⟩
    refine e_call (C.blk _ _ _ _ _) D1 (a_cons (e_name 3 (v := nV x) (a_cons (e_name 2 (v := nV n) (a_nil ?_))))) rfl (fun _ _ _ _ _ _ us hl => match us, hl with | [_, _], _ => rfl)
    refine ⟨x, n, rfl, hn x (List.mem_of_getElem? hx), fun H3 b3 => ⟨?_, b3⟩⟩
    rw [List.length_map] at hi2
    rw [List.getElem?_replicate, if_pos hi2]
  · rw [show (List.replicate r.length true).all id = true by simp]
    exact hQ H' (b1.trans b2)
end
end K14

set_option Elab.async false
set_option linter.all false
set_option maxRecDepth 100000
set_option maxHeartbeats 4000000
namespace K14
open PySem PySem.Spec PyProof.Rows L2 Z
section
variable {P : Program} {w : World} {K : PySem.W.Frag} {mg : Str → Option Value} {base : Heap}
theorem seq_fits {d : PyData} (hs : seqB d = true) : fits d := by cases d <;> first | trivial | simp [seqB, Z.isList, Z.isTuple] at hs
/-! ### want_rows, want_ends -/
def spRows : Sp := fun vs H Q _ => ∃ (g : Str) (v : V) (R : List (List Nat)), vs = [.str g, v] ∧ RowsAt H v R ∧ RowsOk g.length R ∧ g.length ≤ 1000 ∧ ∀ H', But [] H H' → Q .non H'
theorem scWr : FnScope ["signs", "rows", "position", "row"] ["signs", "rows"] (defScope (top 27)) := ⟨rfl, rfl, rfl, by decide +kernel, rfl, by decide +kernel, by decide +kernel⟩
theorem d_wantRows (B : Blt mg base) (D : At K mg "want_rows" (top 27)) (D0 : Def P w K mg base 1 "is_list" (top 17) ["value"] (sp1 K isSeq)) (D1 : Def P w K mg base 4 "is_row" (top 26) ["value", "wide", "many"] spRow) :
    Def P w K mg base 5 "want_rows" (top 27) ["signs", "rows"] spRows := by
  refine def_of D B scWr (fun vs H Q E ⟨_, _, _, e, _⟩ => by rw [e]; rfl) fun f cdv A outer s H vs Q E hm C h => ?_
  obtain ⟨g, v, R, rfl, hv, ok, hg, hQ⟩ := h
  obtain ⟨d, hd, hs, hi⟩ := hv.ex
  have sz : ∀ n, n ≤ 16777216 → n ≤ sizeLine := fun n h => by rw [sizeLine_eq]; exact h
  refine b_cons (s_ifB false ?_ (fun e => by cases e) (fun _ H1 b1 => b_nil ?_))
  · refine t_boolop (w_or (t_not (t_val (e_call (C.mono (by decide)) D0 (a_cons (e_name 1 (v := v) (a_nil ?_))) rfl (fun _ _ _ _ _ _ us hl => match us, hl with | [_], _ => rfl)))))
    refine ⟨v, [], d, rfl, hd.all, seq_fits hs, fun H1 b1 => ⟨true, by rw [show isSeq d = true from hs], ?_⟩⟩
    show wW _ _ _ _ _
    obtain ⟨a, xs, rfl, hsq, hxl, _⟩ := (hv.but b1).sq
    refine w_or1 (t_cmp (e_len B (e_name 1 (v := .ref a) ⟨xs.length, hsq.all.len, e_int (c_eq rfl ⟨false, ?_, rfl, b1⟩)⟩)))
    have := ok.pos
    rw [V.bl.injEq, decide_eq_false_iff_not, V.int.injEq]
    omega
  have hv1 := hv.but b1
  obtain ⟨a, xs, rfl, hsq, hxl, hx⟩ := hv1.sq
  refine b_cons (s_for C (i_enumSq B hsq.all (fun Q q => e_name 1 (v := .ref a) q) fun J G wk hG => ?_))
  refine ⟨_, G, _, wk, fun i σ H' => (∃ v2 v3, σ = [some (.str g), some (.ref a), v2, v3]) ∧ But [] H1 H', ⟨⟨none, none, rfl⟩, But.refl⟩, fun i σ H' _ h => hG [] H' h.2 (by simp), ?_, ?_⟩
  · rintro i x σ H3 H2 hi2 ⟨⟨v2, v3, rfl⟩, b2⟩ ⟨t, x1, y1, rfl, ht, rfl, e1, e2⟩
    cases e1
    have e2 : xs[i]? = some y1 := e2
    obtain ⟨r, hr⟩ : ∃ r, R[i]? = some r := ⟨_, List.getElem?_eq_getElem (by rw [← hxl]; exact hi2)⟩
    obtain ⟨y, hy, hn⟩ := hx i r hr
    obtain rfl : y1 = y := by rw [hy] at e2; exact (Option.some.inj e2).symm
    refine g_tup (gs_cons (g_name (i := 2) (gs_cons (g_name (i := 3) (gs_nil ?_) C.nd)) C.nd)) rfl (.inl (.inl upd_same))
    have b3 : But [] H1 (upd H3 t (.tup [nV i, y1])) := b2.trans (But.new ht)
    generalize upd H3 t (.tup [nV i, y1]) = H4 at b3 ⊢
    refine b_cons (s_ifB false ?_ (fun e => by cases e) (fun _ H5 b5 => b_nil (b_nil ⟨⟨_, _, rfl⟩, b3.trans b5⟩)))
    refine t_not (t_val (e_call C D1 (a_cons (e_name 3 (v := y1) (a_cons (e_len B (e_name 0 (v := .str g) ⟨g.length, ⟨sz _ (by omega), rfl⟩, a_cons (e_len B (e_name 1 (v := .ref a) ⟨xs.length, (hsq.but b3 (by simp)).all.len, a_nil ?_⟩))⟩))))) rfl (fun _ _ _ _ _ _ us hl => match us, hl with | [_, _, _], _ => rfl)))
    have hrm := List.mem_of_getElem? hr
    exact ⟨y1, g.length, xs.length, r, rfl, hn.but b3, ok.wide r hrm, hg, fun x hx => by rw [hxl]; exact ok.inn r hrm x hx, fun H' b => ⟨true, rfl, rfl, b⟩⟩
  · rintro σ H2 ⟨⟨v2, v3, rfl⟩, b2⟩
    exact b_nil (hQ H2 (b1.trans b2))
theorem inV_nats {x : Nat} {l : List Nat} (h : x ∉ l) : inV (nV x) (l.map nV) = false := by
  induction l with
  | nil => rfl
  | cons a r ih =>
    have h1 : x ≠ a := fun z => h (by rw [z]; simp)
    have h2 := ih fun z => h (List.mem_cons_of_mem _ z)
    simp only [inV, List.map_cons, List.any_cons] at h2 ⊢
    rw [h2]
    have : ¬ (a : Int) = (x : Int) := by omega
    rw [Bool.or_false]
    show decide ((a : Int) = (x : Int)) = false
    exact decide_eq_false this
def spEnds : Sp := fun vs H Q _ => ∃ (v : V) (es : List Nat) (n : Nat), vs = [v, nV n] ∧ NatsAt H v es ∧ es.Nodup ∧ (∀ x ∈ es, x < n) ∧ es.length ≤ 1000 ∧ ∀ H', But [] H H' → Q .non H'
theorem scWe : FnScope ["ends", "many", "position", "state"] ["ends", "many"] (defScope (top 28)) := ⟨rfl, rfl, rfl, by decide +kernel, rfl, by decide +kernel, by decide +kernel⟩
theorem nats_flat (es : List Nat) : (es.map nV).all flatV = true := List.all_eq_true.mpr fun x hx => by
  obtain ⟨y, _, rfl⟩ := List.mem_map.mp hx
  rfl
theorem cutV_take (xs : List V) (i : Nat) (h : i ≤ xs.length) : cutV xs none (some (i : Int)) = xs.take i := by
  unfold cutV
  rw [HT.sIx_nat, HT.sIx_none, List.drop_zero, Nat.sub_zero, Nat.min_eq_left h]
theorem d_wantEnds (B : Blt mg base) (D : At K mg "want_ends" (top 28)) (D0 : Def P w K mg base 1 "is_list" (top 17) ["value"] (sp1 K isSeq)) (D1 : Def P w K mg base 3 "is_state" (top 25) ["value", "many"] spState) :
    Def P w K mg base 4 "want_ends" (top 28) ["ends", "many"] spEnds := by
  refine def_of D B scWe (fun vs H Q E ⟨_, _, _, e, _⟩ => by rw [e]; rfl) fun f cdv A outer s H vs Q E hm C h => ?_
  obtain ⟨v, es, n, rfl, hv, nd, hn, hl, hQ⟩ := h
  obtain ⟨d, hd, hs, hi⟩ := hv.ex
  refine b_cons (s_ifB false ?_ (fun e => by cases e) (fun _ H1 b1 => b_nil ?_))
  · refine t_not (t_val (e_call (C.mono (by decide)) D0 (a_cons (e_name 0 (v := v) (a_nil ?_))) rfl (fun _ _ _ _ _ _ us hl => match us, hl with | [_], _ => rfl)))
    exact ⟨v, [], d, rfl, hd.all, seq_fits hs, fun H1 b1 => ⟨true, by rw [show isSeq d = true from hs], rfl, b1⟩⟩
  obtain ⟨a, rfl, hsq⟩ := (hv.but b1).sq
  refine b_cons (s_for C (i_enumSq B hsq.all (fun Q q => e_name 0 (v := .ref a) q) fun J G wk hG => ?_))
  refine ⟨_, G, _, wk, fun i σ H' => (∃ v2 v3, σ = [some (.ref a), some (nV n), v2, v3]) ∧ But [] H1 H', ⟨⟨none, none, rfl⟩, But.refl⟩, fun i σ H' _ h => hG [] H' h.2 (by simp), ?_, ?_⟩
  · rintro i x σ H3 H2 hi2 ⟨⟨v2, v3, rfl⟩, b2⟩ ⟨t, x1, y1, rfl, ht, rfl, e1, e2⟩
    cases e1
    have e2 : (es.map nV)[i]? = some y1 := e2
    rw [List.getElem?_map, Option.map_eq_some_iff] at e2
    obtain ⟨x, hx, rfl⟩ := e2
    rw [List.length_map] at hi2
    refine g_tup (gs_cons (g_name (i := 2) (gs_cons (g_name (i := 3) (gs_nil ?_) C.nd)) C.nd)) rfl (.inl (.inl upd_same))
    have b3 : But [] H1 (upd H3 t (.tup [nV i, nV x])) := b2.trans (But.new ht)
    generalize upd H3 t (.tup [nV i, nV x]) = H4 at b3 ⊢
    have hsq4 := hsq.but b3 (by simp)
    refine b_cons (s_ifB false ?_ (fun e => by cases e) (fun _ H5 b5 => b_nil (b_nil ⟨⟨_, _, rfl⟩, b3.trans b5⟩)))
    refine t_boolop (w_or (t_not (t_val (e_call C D1 (a_cons (e_name 3 (v := nV x) (a_cons (e_name 1 (v := nV n) (a_nil ?_))))) rfl (fun _ _ _ _ _ _ us hl => match us, hl with | [_, _], _ => rfl)))))
    refine ⟨x, n, rfl, hn x (List.mem_of_getElem? hx), fun H5 b5 => ⟨true, rfl, ?_⟩⟩
    show wW _ _ _ _ _
    have hix : x ∉ es.take i := fun hm => by
      obtain ⟨j, hj⟩ := List.mem_iff_getElem?.mp hm
      rw [List.getElem?_take] at hj
      split at hj
      · rename_i hji
        obtain ⟨h1, h2⟩ := List.getElem?_eq_some_iff.mp hj
        obtain ⟨h3, h4⟩ := List.getElem?_eq_some_iff.mp hx
        have := (List.getElem_inj nd).mp (h2.trans h4.symm)
        omega
      · cases hj
    have ei : inV (nV x) ((es.map nV).take i) = false := by rw [← List.map_take]; exact inV_nats hix
    have fl : ((es.map nV).take i).all flatV = true := by rw [← List.map_take]; exact nats_flat _
    rcases hsq4.but b5 (by simp) with hsl | hst
    · refine w_or1 (t_cmp (e_name 3 (v := nV x) (e_slice sl_list (e_name 0 (v := .ref a) (p_none (p_some (e_name 2 (v := nV i) ⟨_, rfl, a, es.map nV, rfl, sql_all hsl, fun q hq => ?_⟩)))))))
      rw [cutV_take _ _ (by rw [List.length_map]; omega)]
      exact c_inL (.inl (.inl (.inl upd_same))) rfl fl ⟨false, by rw [ei], rfl, b5.trans (But.new hq)⟩
    · refine w_or1 (t_cmp (e_name 3 (v := nV x) (e_slice sl_tup (e_name 0 (v := .ref a) (p_none (p_some (e_name 2 (v := nV i) ⟨_, rfl, a, es.map nV, rfl, sqt_all hst, fun z => ?_, fun q hq => ?_⟩)))))))
      · have := z.2
        rw [HT.sIx_nat, List.length_map] at this
        omega
      · rw [cutV_take _ _ (by rw [List.length_map]; omega)]
        exact c_inL (.inr (.inl (.inl upd_same))) rfl fl ⟨false, by rw [ei], rfl, b5.trans (But.new hq)⟩
  · rintro σ H2 ⟨⟨v2, v3, rfl⟩, b2⟩
    exact b_nil (hQ H2 (b1.trans b2))
/-! ### marked, ends_of -/
abbrev kN (x : Nat) : Key := .inl (x : Int)
theorem kV_nat (x : Nat) : kV (kN x) = nV x := rfl
theorem kN_inj {x y : Nat} (h : kN x = kN y) : x = y := by
  have := Sum.inl.inj h
  omega
def spMarked : Sp := fun vs H Q _ => ∃ (v : V) (es : List Nat) (n : Nat), vs = [nV n, v] ∧ NatsAt H v es ∧ n ≤ 1000 ∧ es.length ≤ 1000 ∧ ∀ q H', But [] H H' → H q = none → H' q = some (.lst ((List.range n).map fun s => .bl (decide (s ∈ es)))) → Q (.ref q) H'
theorem scMa : FnScope ["many", "ends", "known", "state"] ["many", "ends"] (defScope (top 36)) := ⟨rfl, rfl, rfl, by decide +kernel, rfl, by decide +kernel, by decide +kernel⟩
theorem d_marked (B : Blt mg base) (D : At K mg "marked" (top 36)) : Def P w K mg base 1 "marked" (top 36) ["many", "ends"] spMarked := by
  refine def_of D B scMa (fun vs H Q E ⟨_, _, _, e, _⟩ => by rw [e]; rfl) fun f cdv A outer s H vs Q E hm C h => ?_
  obtain ⟨v, es, n, rfl, hv, hn, hl, hQ⟩ := h
  obtain ⟨a, rfl, hsq⟩ := hv.sq
  refine b_cons (s_set (i := 2) (e_dc [("state", 3)] C (i_sq hsq.all (fun Q q => e_name 1 (v := .ref a) q) fun J G wk hG => ?_)) C.nd)
  refine ⟨_, G, _, wk, fun Dk hDk => ⟨fun i H' => But [] H H' ∧ ∃ kvs : List (Key × V), H' Dk = some (.dK kvs) ∧ kvs.length ≤ i ∧ ∀ s : Nat, (valV kvs (kN s)).isSome = decide (s ∈ es.take i), ⟨But.new hDk, [], upd_same, Nat.le_refl _, fun s => by simp [valV_nil]⟩, fun i H' _ h => hG [] H' h.1 (by simp), ?_, ?_⟩⟩
  · rintro i x H2 H' hi ⟨b2, kvs, hk, hkl, hks⟩ ⟨rfl, hx⟩
    rw [List.getElem?_map, Option.map_eq_some_iff] at hx
    obtain ⟨x, hx, rfl⟩ := hx
    rw [List.length_map] at hi
    intro s H0 Ca cl fp
    refine g_name (i := 3) ⟨rfl, fun s H0 Ca cl fp => e_name 3 (v := nV x) fun s H0 Ca cl fp => e_bool ⟨kvs, kN x, rfl, hk, by rw [sizeLine_eq]; omega, fun q o na e => ?_, _, upd_same, ?_, fun t => ?_⟩⟩ C.nd
    · rw [upd_ne (ne_of_none e hDk)]
      exact b2 _ _ na e
    · have := length_putK kvs (kN x) (.bl true)
      omega
    · rw [valV_put]
      by_cases e : kN t = kN x
      · rw [if_pos e]
        have := kN_inj e
        subst this
        rw [Option.isSome_some]
        symm
        rw [decide_eq_true_eq, List.take_add_one, hx]
        simp
      · rw [if_neg e, hks t]
        rw [decide_eq_decide, List.take_add_one, hx]
        have : t ≠ x := fun z => e (by rw [z])
        simp [this]
  · rintro H2 ⟨b2, kvs, hk, hkl, hks⟩
    rw [List.length_map] at hks
    rw [List.take_length] at hks
    refine b_cons (s_ret (e_lcM [("state", 3)] C (i_range1 B (e_name 0 (v := nV n) ⟨_, rfl, by omega, by omega, _, _, _, ((List.range n).map fun s => .bl (decide (s ∈ es))), walk_range, by simp, by rw [sizeLine_eq]; omega, fun _ _ => trivial, fun i x H3 H' hi b3 hx => ?_, fun Da H' b3 hna hl => hQ Da H' (b2.trans b3) (b2.free hna) hl⟩))))
    obtain ⟨rfl, rfl⟩ := hx
    refine ⟨But.refl, mt_name (i := 3) C.nd fun s H0 Ca cl fp => ?_⟩
    have hi : i < n := by omega
    refine e_cmp (e_name 3 (v := .int (0 + (i : Int))) (e_name 2 (v := .ref Dk) (c_inD (C.blk _ _ _ _ _) (y := .int (0 + (i : Int))) (r := valV kvs (kN i)) ?_ ⟨?_, But.refl⟩)))
    · rw [Int.zero_add]
      exact DGet.k (k := kN i) (b3 _ _ (by simp) hk)
    · rw [List.getElem?_map, List.getElem?_range hi, hks]
      rfl
end
end K14

set_option Elab.async false
set_option linter.all false
set_option maxRecDepth 100000
set_option maxHeartbeats 4000000
namespace K14
open PySem PySem.Spec PyProof.Rows L2 Z
theorem nodup_len : ∀ {N : Nat} {l : List Nat}, l.Nodup → (∀ x ∈ l, x < N) → l.length ≤ N
  | 0, l, _, h => by
    cases l with
    | nil => exact Nat.le_refl _
    | cons a r => have := h a (by simp); omega
  | N + 1, l, nd, h => by
    have h1 : (l.erase N).Nodup := nd.erase N
    have h2 : ∀ x ∈ l.erase N, x < N := fun x hx => by
      have a := h x (List.mem_of_mem_erase hx)
      have b : x ≠ N := fun z => by
        rw [z] at hx
        exact (List.Nodup.not_mem_erase nd) hx
      omega
    have h3 := nodup_len h1 h2
    have h4 : l.length ≤ (l.erase N).length + 1 := by
      rw [List.length_erase]
      split <;> omega
    omega
/-- where a state goes -/
def tg (R : List (List Nat)) (s a : Nat) : Nat := (R.getD s []).getD a 0
theorem tg_at {R : List (List Nat)} {s a : Nat} {r : List Nat} (hr : R[s]? = some r) : tg R s a = r.getD a 0 := by
  unfold tg
  rw [List.getD_eq_getElem?_getD (l := R), hr]
  rfl
theorem nth_nat {l : List Nat} {i x : Nat} (h : l[i]? = some x) : (l.map nV)[i]? = some (nV x) := by rw [List.getElem?_map, h]; rfl
section
variable {P : Program} {w : World} {K : PySem.W.Frag} {mg : Str → Option Value} {base : Heap}
def spReached : Sp := fun vs H Q _ => ∃ (v : V) (wd : Nat) (R : List (List Nat)), vs = [v] ∧ RowsAt H v R ∧ RowsOk wd R ∧ 0 < wd ∧ ∀ q fl ts H', But [] H H' → H q = none → H' q = some (.lst (fl.map nV)) → Mc.Bfs wd R.length (tg R) (fl.length * wd) fl ts → Q (.ref q) H'
theorem scRe : FnScope ["rows", "found", "known", "at", "state"] ["rows"] (defScope (top 29)) := ⟨rfl, rfl, rfl, by decide +kernel, rfl, by decide +kernel, by decide +kernel⟩
theorem d_reached (B : Blt mg base) (D : At K mg "reached" (top 29)) : Def P w K mg base 1 "reached" (top 29) ["rows"] spReached := by
  refine def_of D B scRe (fun vs H Q E ⟨_, _, _, e, _⟩ => by rw [e]; rfl) fun f cdv A outer s H vs Q E hm C h => ?_
  obtain ⟨v, wd, R, rfl, hv, ok, hwd, hQ⟩ := h
  have sz : ∀ n, n ≤ 16777216 → n ≤ sizeLine := fun n h => by rw [sizeLine_eq]; exact h
  obtain ⟨a, xs, rfl, hsq, hxl, hx⟩ := hv.sq
  refine b_cons (s_set (i := 1) (e_lst (a_cons (e_int (a_nil ⟨sz 1 (by decide), fun fq hfq => ?_⟩)))) C.nd)
  have b1 : But [] H (upd H fq (.lst [.int 0])) := But.new hfq
  have hf1 : upd H fq (.lst [.int 0]) fq = some (.lst (([0] : List Nat).map nV)) := upd_same
  generalize upd H fq (.lst [.int 0]) = H1 at b1 hf1 ⊢
  refine b_cons (s_set (i := 2) (eE (pe_disp (pps_cons pE pE pps_nil) rfl rfl (by simp) (by decide)) ?_) C.nd)
  intro kq hkq
  have nkf : kq ≠ fq := (ne_of_none hf1 hkq).symm
  have b2 : But [] H1 (upd H1 kq (.dK [])) := But.new hkq
  have hkH := b1.free hkq
  refine e_int (e_bool ⟨upd_same, [(kN 0, .bl true)], rfl, by show 1 ≤ 15; decide, ?_⟩)
  have hk2 : upd (upd H1 kq (.dK [])) kq (.dK (mergeK [] [(kN 0, .bl true)])) kq = some (.dK [(kN 0, .bl true)]) := upd_same
  have b03 : But [] H (upd (upd H1 kq (.dK [])) kq (.dK (mergeK [] [(kN 0, .bl true)]))) := fun q o na e => by
    have e1 := b1 _ _ na e
    rw [upd_ne (ne_of_none e1 hkq), upd_ne (ne_of_none e1 hkq)]
    exact e1
  have hf2 : upd (upd H1 kq (.dK [])) kq (.dK (mergeK [] [(kN 0, .bl true)])) fq = some (.lst (([0] : List Nat).map nV)) := by
    rw [upd_ne nkf.symm, upd_ne nkf.symm]; exact hf1
  generalize upd (upd H1 kq (.dK [])) kq (.dK (mergeK [] [(kN 0, .bl true)])) = H2 at hk2 b03 hf2 ⊢
  clear b1 hf1 b2 hkq
  refine b_cons (s_set (i := 3) (e_int ?_) C.nd)
  have sq : ∀ {H'}, But [] H H' → SqA K H' a xs := fun b => (hsq.but b (by simp)).all
  refine b_cons (s_while C (fun m σ H' => ∃ (at_ : Nat) (fl ts : List Nat) (kvs : List (Key × V)) (v4 : Option V), σ = [some (.ref a), some (.ref fq), some (.ref kq), some (nV at_), v4] ∧ But [] H H' ∧ H' fq = some (.lst (fl.map nV)) ∧ H' kq = some (.dK kvs) ∧ kvs.length ≤ fl.length ∧ (∀ s : Nat, (valV kvs (kN s)).isSome = decide (s ∈ fl)) ∧
      Mc.Bfs wd R.length (tg R) (at_ * wd) fl ts ∧ at_ ≤ fl.length ∧ m = R.length - at_) R.length ⟨0, [0], [], _, none, rfl, b03, hf2, hk2, Nat.le_refl _, fun s => ?_, by rw [Nat.zero_mul]; exact Mc.Bfs.start ok.pos, Nat.zero_le _, rfl⟩ ?_)
  · by_cases e : s = 0
    · subst e; rfl
    · have : ¬ (kN 0 = kN s) := fun z => e (kN_inj z).symm
      simp [valV, List.find?_cons, this, e]
  rintro m σ H3 ⟨at_, fl, ts, kvs, v4, rfl, b3, hf3, hk3, hkl, hks, bf, hat, rfl⟩
  have hfl : fl.length ≤ R.length := nodup_len bf.nd bf.inn
  refine t_cmp (e_name 3 (v := nV at_) (e_len B (e_name 1 (v := .ref fq) ⟨fl.length, .inl ⟨_, .inl (.inl hf3), by simp⟩, c_lt ⟨decide (at_ < fl.length), ?_, ite_b (fun e => ?_) fun e => ?_⟩⟩)))
  · congr 1; rw [decide_eq_decide]; omega
  · have hlt : at_ < fl.length := of_decide_eq_true e
    obtain ⟨p, hp⟩ : ∃ p, fl[at_]? = some p := ⟨_, List.getElem?_eq_getElem hlt⟩
    have hpR := bf.inn p (List.mem_of_getElem? hp)
    obtain ⟨r, hr⟩ : ∃ r, R[p]? = some r := ⟨_, List.getElem?_eq_getElem hpR⟩
    have hrm := List.mem_of_getElem? hr
    have hrl := ok.wide r hrm
    obtain ⟨y, hy, hny⟩ := hx p r hr
    obtain ⟨rb, rfl, hrs⟩ := (hny.but b3).sq
    have hrn : rb ∉ [fq, kq] := fun z => by
      obtain ⟨rb', e1, hrs0⟩ := hny.sq
      cases e1
      rcases List.mem_cons.mp z with z | z
      · exact hrs0.ne hfq z
      · exact hrs0.ne hkH (List.mem_singleton.mp z)
    refine b_cons (s_for C (i_sq hrs.all ?_ fun J G wk hG => ?_))
    · exact fun Q q => e_ix (e_name 0 (v := .ref a) (e_ix (e_name 1 (v := .ref fq) (e_name 3 (v := nV at_) (ix_l (.inl (.inl hf3)) (v := nV p) (atI_nat (nth_nat hp)) (ix_sq (sq b3) (v := .ref rb) (atI_nat hy) q))))))
    refine ⟨_, G, _, wk, fun j σ H' => (∃ v4, σ = [some (.ref a), some (.ref fq), some (.ref kq), some (nV at_), v4]) ∧ But [] H H' ∧ But [fq, kq] H3 H' ∧ ∃ (fl' ts' : List Nat) (kvs : List (Key × V)), H' fq = some (.lst (fl'.map nV)) ∧ H' kq = some (.dK kvs) ∧ kvs.length ≤ fl'.length ∧ (∀ s : Nat, (valV kvs (kN s)).isSome = decide (s ∈ fl')) ∧
      Mc.Bfs wd R.length (tg R) (at_ * wd + j) fl' ts' ∧ fl'[at_]? = some p, ⟨⟨v4, rfl⟩, b3, But.refl, fl, ts, kvs, hf3, hk3, hkl, hks, by simpa using bf, hp⟩, fun j σ H' _ h => ?_, ?_, ?_⟩
    · exact hG [fq, kq] H' h.2.2.1 hrn
    · rintro j x σ H' H4 hj ⟨⟨v4, rfl⟩, b4, b34, fl', ts', kvs', hf4, hk4, hkl4, hks4, bf4, hp4⟩ ⟨rfl, hxj⟩
      rw [List.getElem?_map, Option.map_eq_some_iff] at hxj
      obtain ⟨x, hxj, rfl⟩ := hxj
      rw [List.length_map, hrl] at hj
      have hfl4 : fl'.length ≤ R.length := nodup_len bf4.nd bf4.inn
      have hfew := ok.few
      have cd : (at_ * wd + j) / wd = at_ := by rw [Nat.mul_comm, Nat.mul_add_div (by omega), Nat.div_eq_of_lt hj, Nat.add_zero]
      have cm : (at_ * wd + j) % wd = j := by rw [Nat.mul_comm, Nat.mul_add_mod, Nat.mod_eq_of_lt hj]
      have etg : tg R p ((at_ * wd + j) % wd) = x := by rw [cm, tg_at hr, List.getD_eq_getElem?_getD, hxj]; rfl
      have hxR : x < R.length := ok.inn r hrm x (List.mem_of_getElem? hxj)
      refine g_name (i := 4) ?_ C.nd
      refine b_cons (s_ifB (decide (x ∉ fl')) ?_ (fun e H5 b5 => ?_) (fun e H5 b5 => b_nil (b_nil ?_)))
      · refine t_cmp (e_name 4 (v := nV x) (e_name 2 (v := .ref kq) (c_notInD C (y := nV x) (DGet.k (k := kN x) hk4) ⟨_, rfl, ?_, But.refl⟩)))
        rw [hks4, Bool.eq_iff_iff]
        simp
      · have hnx : x ∉ fl' := of_decide_eq_true e
        have hk5 := b5 _ _ (by simp) hk4
        have hf5 := b5 _ _ (by simp) hf4
        refine b_cons (s_asg (e_bool (g_sub (e_name 2 (v := .ref kq) (e_name 4 (v := nV x) (set_d C (DPut.k (k := kN x) hk5 (sz _ (by omega))) ?_))))))
        have hf6 : upd H5 kq (.dK (putK kvs' (kN x) (.bl true))) fq = some (.lst (fl'.map nV)) := by rw [upd_ne nkf.symm]; exact hf5
        refine b_cons (s_expr (e_append (e_name 1 (v := .ref fq) ⟨fq, rfl, ⟨_, hf6⟩, e_name 4 (v := nV x) ⟨_, hf6, by rw [List.length_map, sizeLine_eq]; omega, b_nil (b_nil ?_)⟩⟩)))
        have bn := bf4.new hwd (by rw [cd]; exact hp4) (by rw [etg]; exact hnx) (by rw [etg]; exact hxR)
        rw [etg] at bn
        refine ⟨⟨_, rfl⟩, fun q o na e => ?_, fun q o na e => ?_, fl' ++ [x], _, _, by rw [upd_same, List.map_append]; rfl, by rw [upd_ne nkf, upd_same], ?_, fun t => ?_, bn, by rw [List.getElem?_append_left (List.getElem?_eq_some_iff.mp hp4).1]; exact hp4⟩
        · rw [upd_ne (ne_of_none e hfq), upd_ne (ne_of_none e hkH)]
          exact b5 _ _ na (b4 _ _ na e)
        · have n1 : q ≠ fq := fun z => na (by rw [z]; simp)
          have n2 : q ≠ kq := fun z => na (by rw [z]; simp)
          rw [upd_ne n1, upd_ne n2]
          exact b5 _ _ (by simp) (b34 _ _ na e)
        · have := length_putK kvs' (kN x) (.bl true)
          rw [List.length_append]
          show _ ≤ fl'.length + 1
          omega
        · rw [valV_put]
          by_cases e2 : kN t = kN x
          · rw [if_pos e2]
            have := kN_inj e2
            subst this
            simp
          · rw [if_neg e2, hks4 t, decide_eq_decide]
            have : t ≠ x := fun z => e2 (by rw [z])
            simp [this]
      · have hin : x ∈ fl' := by simpa using e
        obtain ⟨jj, hjj⟩ := List.mem_iff_getElem?.mp hin
        have bo := bf4.old (j := jj) (by rw [cd]; exact hp4) (by rw [etg]; exact hjj)
        exact ⟨⟨_, rfl⟩, b4.trans b5, b34.trans b5.of, fl', _, kvs', b5 _ _ (by simp) hf4, b5 _ _ (by simp) hk4, hkl4, hks4, bo, hp4⟩
    · rintro σ H4 ⟨⟨v4, rfl⟩, b4, b34, fl', ts', kvs', hf4, hk4, hkl4, hks4, bf4, hp4⟩
      rw [List.length_map, hrl] at bf4
      have hfl4 : fl'.length ≤ R.length := nodup_len bf4.nd bf4.inn
      have hat4 : at_ < fl'.length := (List.getElem?_eq_some_iff.mp hp4).1
      refine b_cons (s_set (i := 3) (e_bin (e_name 3 (v := nV at_) (e_int (o_add (b_nil ?_))))) C.nd)
      exact ⟨R.length - (at_ + 1), by omega, at_ + 1, fl', ts', kvs', _, rfl, b4, hf4, hk4, hkl4, hks4, by rw [Nat.succ_mul]; exact bf4, hat4, rfl⟩
  · have hge : fl.length ≤ at_ := by have := of_decide_eq_false e; omega
    have eat : at_ = fl.length := by omega
    subst eat
    exact b_cons (s_ret (e_name 1 (v := .ref fq) (hQ fq fl ts H3 b3 hfq hf3 bf)))
end
end K14

set_option Elab.async false
set_option linter.all false
set_option maxRecDepth 100000
set_option maxHeartbeats 4000000
/-! dicts that number marks, whatever kind of key -/
namespace Mc
/-- numbers given so far, by first meeting -/
abbrev clOf (cs : List Nat) : Nat → Nat := fun k => cs.getD k 0
theorem cnt_congr {f g : Nat → Nat} : ∀ {k : Nat}, (∀ j, j < k → f j = g j) → cnt f k = cnt g k
  | 0, _ => rfl
  | k + 1, h => by
    have ih := cnt_congr (f := f) (g := g) (k := k) fun j hj => h j (by omega)
    simp only [cnt, ih, h k (by omega)]
theorem clOf_app {cs : List Nat} {c : Nat} : ∀ {j}, j < cs.length → clOf (cs ++ [c]) j = clOf cs j := fun {j} h => by
  show (cs ++ [c]).getD j 0 = cs.getD j 0
  rw [List.getD_eq_getElem?_getD, List.getD_eq_getElem?_getD, List.getElem?_append_left h]
theorem clOf_last {cs : List Nat} {c : Nat} : clOf (cs ++ [c]) cs.length = c := by
  show (cs ++ [c]).getD cs.length 0 = c
  rw [List.getD_eq_getElem?_getD, List.getElem?_append_right (Nat.le_refl _), Nat.sub_self]
  rfl
structure Numb {κ : Type} (m : Nat → κ) (i : Nat) (cs : List Nat) : Prop where
  len : cs.length = i
  fo : FO (clOf cs) i
  iff : ∀ j k, j < i → k < i → (clOf cs j = clOf cs k ↔ m j = m k)
theorem Numb.nil {κ : Type} {m : Nat → κ} : Numb m 0 [] := ⟨rfl, fun k h => by omega, fun j k h => by omega⟩
theorem Numb.cnt_app {κ : Type} {m : Nat → κ} {i c : Nat} {cs : List Nat} (h : Numb m i cs) : ∀ k, k ≤ i → cnt (clOf (cs ++ [c])) k = cnt (clOf cs) k := fun k hk => cnt_congr fun j hj => clOf_app (by rw [h.len]; omega)
theorem Numb.old {κ : Type} {m : Nat → κ} {i j : Nat} {cs : List Nat} (h : Numb m i cs) (hj : j < i) (e : m j = m i) : Numb m (i + 1) (cs ++ [clOf cs j]) ∧ cnt (clOf (cs ++ [clOf cs j])) (i + 1) = cnt (clOf cs) i := by
  have ap : ∀ k, k < i → clOf (cs ++ [clOf cs j]) k = clOf cs k := fun k hk => clOf_app (by rw [h.len]; exact hk)
  have la : clOf (cs ++ [clOf cs j]) i = clOf cs j := by have := clOf_last (cs := cs) (c := clOf cs j); rwa [h.len] at this
  have lt := h.fo.lt' (Nat.le_refl _) hj
  refine ⟨⟨by rw [List.length_append, h.len]; rfl, fun k hk => ?_, fun a b ha hb => ?_⟩, ?_⟩
  · rw [h.cnt_app k (by omega)]
    by_cases e2 : k = i
    · subst e2; rw [la]; exact Nat.le_of_lt lt
    · rw [ap k (by omega)]; exact h.fo k (by omega)
  · by_cases ea : a = i
    · subst ea
      rw [la]
      by_cases eb : b = a
      · subst eb; rw [la]; simp
      · rw [ap b (by omega), h.iff j b hj (by omega), e]
    · rw [ap a (by omega)]
      by_cases eb : b = i
      · subst eb
        rw [la, h.iff a j (by omega) hj, e]
      · rw [ap b (by omega)]
        exact h.iff a b (by omega) (by omega)
  · simp only [cnt, h.cnt_app i (Nat.le_refl _), la]
    rw [if_neg (by omega)]
theorem Numb.new {κ : Type} {m : Nat → κ} {i : Nat} {cs : List Nat} (h : Numb m i cs) (e : ∀ j, j < i → m j ≠ m i) : Numb m (i + 1) (cs ++ [cnt (clOf cs) i]) ∧ cnt (clOf (cs ++ [cnt (clOf cs) i])) (i + 1) = cnt (clOf cs) i + 1 := by
  have ap : ∀ k, k < i → clOf (cs ++ [cnt (clOf cs) i]) k = clOf cs k := fun k hk => clOf_app (by rw [h.len]; exact hk)
  have la : clOf (cs ++ [cnt (clOf cs) i]) i = cnt (clOf cs) i := by have := clOf_last (cs := cs) (c := cnt (clOf cs) i); rwa [h.len] at this
  have lt : ∀ k, k < i → clOf cs k < cnt (clOf cs) i := fun k hk => h.fo.lt' (Nat.le_refl _) hk
  refine ⟨⟨by rw [List.length_append, h.len]; rfl, fun k hk => ?_, fun a b ha hb => ?_⟩, ?_⟩
  · rw [h.cnt_app k (by omega)]
    by_cases e2 : k = i
    · subst e2; rw [la]; exact Nat.le_refl _
    · rw [ap k (by omega)]; exact h.fo k (by omega)
  · by_cases ea : a = i
    · subst ea
      rw [la]
      by_cases eb : b = a
      · subst eb; rw [la]; simp
      · rw [ap b (by omega)]
        have := lt b (by omega)
        exact ⟨fun z => by omega, fun z => absurd z.symm (e b (by omega))⟩
    · rw [ap a (by omega)]
      by_cases eb : b = i
      · subst eb
        rw [la]
        have := lt a (by omega)
        exact ⟨fun z => by omega, fun z => absurd z (e a (by omega))⟩
      · rw [ap b (by omega)]
        exact h.iff a b (by omega) (by omega)
  · simp only [cnt, h.cnt_app i (Nat.le_refl _), la, if_pos]
end Mc
namespace Z
open PySem PySem.Spec PyProof.Rows L2
/-- dicts with keys of kind κ -/
structure NK (X : Cx) (κ : Type) [DecidableEq κ] where
  ho : Addr → List (κ × V) → HO
  isK : Hp → V → κ → Prop
  keep : ∀ {H H' : Hp} {y : V} {b : κ}, isK H y b → (∀ t xs, H t = some (.tup xs) → H' t = some (.tup xs)) → isK H' y b
  ne : ∀ a kvs xs, ho a kvs ≠ .tup xs
  dty : ∀ {H : Hp} {a : Addr} {kvs : List (κ × V)}, H a = some (ho a kvs) → DTy X H a
  new : ∀ {σ : L2.St} {H : Hp} {pos : Pos} {Q : VK}, (∀ p, H p = none → Q (.ref p) (upd H p (ho p []))) → wE X (.Dict [] [] pos) σ H Q
  setd : ∀ {H : Hp} {a : Addr} {kvs : List (κ × V)} {y z : V} {b : κ} {Q : VK}, H a = some (ho a kvs) → isK H y b → kvs.length < sizeLine → (∀ v, valV kvs b = some v → Q v H) → (valV kvs b = none → Q z (upd H a (ho a (putK kvs b z)))) → cW X (.builtin "dict.setdefault") [.ref a, y, z] H Q
  len : ∀ {σ : L2.St} {H : Hp} {e : Expr} {p pos : Pos} {Q : VK}, (wE X e σ H fun x H1 => ∃ (a : Addr) (kvs : List (κ × V)), x = .ref a ∧ H1 a = some (ho a kvs) ∧ Q (.int (kvs.length : Nat)) H1) → Gl X "len" → starEach [e] X.env = [(false, eval e X.env)] → wE X (.Call (.Name "len" p) [e] [] pos) σ H Q
def nkB {X : Cx} (B : Blt X.mg X.base) : NK X Bool where
  ho := DB X.prog X.w
  isK := fun _ y b => y = .bl b
  keep := fun h _ => h
  ne := fun _ _ _ z => by cases z
  dty := DTy.ofB
  new := e_newDB
  setd := fun ha hk hl h1 h2 => by subst hk; exact cr_setdB ha hl h1 h2
  len := fun h hg hs => e_lenDB B h hg hs
def nkT {X : Cx} {k : Nat} {W : WX} (C : Cxt X k W) (B : Blt X.mg X.base) : NK X (List Key) where
  ho := fun _ kvs => .dT kvs
  isK := fun H y ks => ∃ t, y = .ref t ∧ H t = some (.tup (ks.map kV))
  keep := fun ⟨t, e, h⟩ k => ⟨t, e, k _ _ h⟩
  ne := fun _ _ _ z => by cases z
  dty := DTy.ofT
  new := fun h => eE pe_dnewT h
  setd := fun ha hk hl h1 h2 => by
    obtain ⟨t, rfl, ht⟩ := hk
    exact cr_setdT C ha ht hl h1 h2
  len := fun h hg hs => e_lenDT B h hg hs
end Z

set_option Elab.async false
set_option linter.all false
set_option maxRecDepth 100000
set_option maxHeartbeats 4000000
namespace K14
open PySem PySem.Spec PyProof.Rows L2 Z
/-- states and their numbers, as a dict -/
def kvsN (fl cs : List Nat) : List (Key × V) := (fl.zip cs).map fun q => (kN q.1, nV q.2)
theorem kvsN_len {fl cs : List Nat} (h : cs.length = fl.length) : (kvsN fl cs).length = fl.length := by
  unfold kvsN
  rw [List.length_map, List.length_zip, h, Nat.min_self]
theorem kvsN_at {fl cs : List Nat} {i s c : Nat} (h1 : fl[i]? = some s) (h2 : cs[i]? = some c) : (kvsN fl cs)[i]? = some (kN s, nV c) := by
  unfold kvsN
  have : (fl.zip cs)[i]? = some (s, c) := List.getElem?_zip_eq_some.mpr ⟨h1, h2⟩
  rw [List.getElem?_map, this]
  rfl
theorem kvsN_none {s : Nat} : ∀ {fl cs : List Nat}, s ∉ fl → valV (kvsN fl cs) (kN s) = none
  | [], _, _ => rfl
  | _ :: _, [], _ => rfl
  | x :: fl, c :: cs, h => by
    have : ¬ kN x = kN s := fun z => h (by rw [kN_inj z]; simp)
    show valV ((kN x, nV c) :: kvsN fl cs) (kN s) = none
    rw [valV_neg this]
    exact kvsN_none fun z => h (List.mem_cons_of_mem _ z)
theorem kvsN_get {s c : Nat} : ∀ {fl cs : List Nat} {i : Nat}, fl.Nodup → fl[i]? = some s → cs[i]? = some c → valV (kvsN fl cs) (kN s) = some (nV c)
  | [], _, _, _, h, _ => by simp at h
  | _ :: _, [], _, _, _, h => by simp at h
  | x :: fl, d :: cs, 0, _, h1, h2 => by
    simp only [List.getElem?_cons_zero, Option.some.injEq] at h1 h2
    subst h1 h2
    exact valV_pos rfl
  | x :: fl, d :: cs, i + 1, nd, h1, h2 => by
    simp only [List.getElem?_cons_succ] at h1 h2
    have hn := List.nodup_cons.mp nd
    have : ¬ kN x = kN s := fun z => hn.1 (by rw [kN_inj z]; exact List.mem_of_getElem? h1)
    show valV ((kN x, nV d) :: kvsN fl cs) (kN s) = _
    rw [valV_neg this]
    exact kvsN_get hn.2 h1 h2
theorem kvsN_app {fl cs : List Nat} {s c : Nat} (h : cs.length = fl.length) : kvsN (fl ++ [s]) (cs ++ [c]) = kvsN fl cs ++ [(kN s, nV c)] := by
  unfold kvsN
  rw [List.zip_append h.symm, List.map_append]
  rfl
def nmN : List Str := ["marks", "numbers", "found", "key", "mark"]
theorem scNu : FnScope nmN ["marks"] (defScope (top 30)) := ⟨rfl, rfl, rfl, by decide +kernel, rfl, by decide +kernel, by decide +kernel⟩
section
variable {P : Program} {w : World} {K : PySem.W.Frag} {mg : Str → Option Value} {base : Heap}
theorem num_body {κ : Type} [DecidableEq κ] {f : Addr} {cdv : Value} {A : Around} {outer : List Env} {s : Shared} {Hc : Hp} {E : XK} {k : Nat} {W : WX} (B : Blt mg base)
    (C : Cxt (bX P w K mg base nmN "numbered" (top 30) f cdv A outer s Hc E) k W) (nk : NK (bX P w K mg base nmN "numbered" (top 30) f cdv A outer s Hc E) κ)
    {H : Hp} {d : Addr} {kvs : List (Key × V)} {fl : List Nat} {m : Nat → κ} {Q : VK} (hd : H d = some (.dK kvs)) (hl : kvs.length = fl.length) (nd : fl.Nodup) (hfew : fl.length ≤ 1000)
    (hm : ∀ (i s : Nat), fl[i]? = some s → ∃ y, kvs[i]? = some (kN s, y) ∧ nk.isK H y (m i))
    (hQ : ∀ q cs H', But [] H H' → H q = none → H' q = some (.dK (kvsN fl cs)) → Mc.Numb m fl.length cs → Q (.ref q) H') :
    wB (bX P w K mg base nmN "numbered" (top 30) f cdv A outer s Hc E) (defBody (top 30)) { nx := fun _ H' => Q .non H', rt := Q } (start nmN [.ref d]) H := by
  have sz : ∀ n, n ≤ 16777216 → n ≤ sizeLine := fun n h => by rw [sizeLine_eq]; exact h
  refine b_cons (s_set (i := 1) (nk.new fun nq hnq => ?_) C.nd)
  have b1 : But [] H (upd H nq (nk.ho nq [])) := But.new hnq
  have hn1 : upd H nq (nk.ho nq []) nq = some (nk.ho nq []) := upd_same
  have nnd : nq ≠ d := (ne_of_none hd hnq).symm
  refine b_cons (s_set (i := 2) (eE pe_dnewK fun fq hfq => ?_) C.nd)
  have nfn : fq ≠ nq := (ne_of_none hn1 hfq).symm
  have hfH := b1.free hfq
  have nfd : fq ≠ d := (ne_of_none hd hfH).symm
  have b2 : But [] H (upd (upd H nq (nk.ho nq [])) fq (.dK [])) := b1.trans (But.new hfq)
  have hn2 : upd (upd H nq (nk.ho nq [])) fq (.dK []) nq = some (nk.ho nq []) := by rw [upd_ne nfn.symm]; exact hn1
  have hf2 : upd (upd H nq (nk.ho nq [])) fq (.dK []) fq = some (.dK []) := upd_same
  generalize upd (upd H nq (nk.ho nq [])) fq (.dK []) = H2 at b2 hn2 hf2 ⊢
  have hd2 := b2 _ _ (by simp) hd
  refine b_cons (s_lock hd2 trivial fun od => s_for C (i_items (e_name 0 (v := .ref d) ⟨d, od, _, rfl, upd_same, ?_⟩)))
  have up : ∀ {q : Addr} {o u : HO}, q ≠ d → H2 q = some o → upd H2 d u q = some o := fun n e => by rw [upd_ne n]; exact e
  refine ⟨_, _, _, walk_items, fun i σ H' => (∃ v3 v4, σ = [some (.ref d), some (.ref nq), some (.ref fq), v3, v4]) ∧ But [d] H H' ∧ H' d = some (.frz od (.dK kvs)) ∧ ∃ (cs : List Nat) (nkv : List (κ × V)), H' nq = some (nk.ho nq nkv) ∧ H' fq = some (.dK (kvsN (fl.take i) cs)) ∧ Mc.Numb m i cs ∧
    (∀ j, j < i → valV nkv (m j) = some (nV (Mc.clOf cs j))) ∧ (∀ y, (∀ j, j < i → m j ≠ y) → valV nkv y = none) ∧ nkv.length = Mc.cnt (Mc.clOf cs) i,
    ⟨⟨none, none, rfl⟩, fun q o na e => ?_, upd_same, [], [], up nnd hn2, up nfd hf2, .nil, fun j hj => by omega, fun y _ => rfl, rfl⟩, fun i σ H' _ h => h.2.2.1, ?_, ?_⟩
  · have : q ≠ d := by simpa using na
    exact up this (b2 _ _ (by simp) e)
  · rintro i x σ H3 H4 hi ⟨⟨v3, v4, rfl⟩, b3, hd3, cs, nkv, hn3, hf3, nb, hv1, hv2, hln⟩ ⟨t, x1, y1, rfl, ht, rfl, e1, e2⟩
    rw [hl] at hi
    obtain ⟨st, hst⟩ : ∃ st, fl[i]? = some st := ⟨_, List.getElem?_eq_getElem hi⟩
    obtain ⟨y, hy, hK⟩ := hm i st hst
    have e1 : (kvs[i]?).map (fun kv => kV kv.1) = some x1 := e1
    have e2 : (kvs[i]?).map Prod.snd = some y1 := e2
    rw [hy] at e1 e2
    cases e1
    obtain rfl : y = y1 := Option.some.inj e2
    refine g_tup (gs_cons (g_name (i := 3) (gs_cons (g_name (i := 4) (gs_nil ?_) C.nd)) C.nd)) rfl (.inl (.inl upd_same))
    have bt : But [] H3 (upd H3 t (.tup [kV (kN st), y])) := But.new ht
    have b4 : But [d] H (upd H3 t (.tup [kV (kN st), y])) := b3.trans bt.of
    have hd4 := bt _ _ (by simp) hd3
    have hn4 := bt _ _ (by simp) hn3
    have hf4 := bt _ _ (by simp) hf3
    generalize upd H3 t (.tup [kV (kN st), y]) = H4 at bt b4 hd4 hn4 hf4 ⊢
    have kp : ∀ {H' : Hp}, But [d] H H' → nk.isK H' y (m i) := fun b => nk.keep hK fun t xs e => b _ _ (fun z => by
      rw [List.mem_singleton.mp z, hd] at e
      cases e) e
    have hci : i < 1000 := by omega
    have hcl : nkv.length ≤ i := by rw [hln]; exact Mc.cnt_le _ _
    have hcsl := nb.len
    have fin : ∀ (c : Nat) (nkv' : List (κ × V)) (H5 : Hp), But [d] H H5 → H5 d = some (.frz od (.dK kvs)) → H5 nq = some (nk.ho nq nkv') → H5 fq = some (.dK (kvsN (fl.take i) cs)) → Mc.Numb m (i + 1) (cs ++ [c]) →
        (∀ j, j < i + 1 → valV nkv' (m j) = some (nV (Mc.clOf (cs ++ [c]) j))) → (∀ y, (∀ j, j < i + 1 → m j ≠ y) → valV nkv' y = none) → nkv'.length = Mc.cnt (Mc.clOf (cs ++ [c])) (i + 1) →
        (∃ v3 v4, ([some (.ref d), some (.ref nq), some (.ref fq), some (kV (kN st)), some y] : L2.St) = [some (.ref d), some (.ref nq), some (.ref fq), v3, v4]) ∧ But [d] H (upd H5 fq (.dK (putK (kvsN (fl.take i) cs) (kN st) (nV c)))) ∧ (upd H5 fq (.dK (putK (kvsN (fl.take i) cs) (kN st) (nV c)))) d = some (.frz od (.dK kvs)) ∧ ∃ (cs' : List Nat) (nkv' : List (κ × V)), (upd H5 fq (.dK (putK (kvsN (fl.take i) cs) (kN st) (nV c)))) nq = some (nk.ho nq nkv') ∧ (upd H5 fq (.dK (putK (kvsN (fl.take i) cs) (kN st) (nV c)))) fq = some (.dK (kvsN (fl.take (i + 1)) cs')) ∧ Mc.Numb m (i + 1) cs' ∧
          (∀ j, j < i + 1 → valV nkv' (m j) = some (nV (Mc.clOf cs' j))) ∧ (∀ y, (∀ j, j < i + 1 → m j ≠ y) → valV nkv' y = none) ∧ nkv'.length = Mc.cnt (Mc.clOf cs') (i + 1) := fun c nkv' H5 b5 hd5 hn5 hf5 nb5 g1 g2 g3 => by
      have hni : st ∉ fl.take i := fun hmm => by
        obtain ⟨j, hj⟩ := List.mem_iff_getElem?.mp hmm
        rw [List.getElem?_take] at hj
        split at hj
        · rename_i hji
          obtain ⟨h1, h2⟩ := List.getElem?_eq_some_iff.mp hj
          obtain ⟨h3, h4⟩ := List.getElem?_eq_some_iff.mp hst
          have := (List.getElem_inj nd).mp (h2.trans h4.symm)
          omega
        · cases hj
      refine ⟨⟨_, _, rfl⟩, fun q o na e => ?_, by rw [upd_ne nfd.symm]; exact hd5, cs ++ [c], nkv', by rw [upd_ne nfn.symm]; exact hn5, ?_, nb5, g1, g2, g3⟩
      · rw [upd_ne (ne_of_none e hfH)]
        exact b5 _ _ na e
      · rw [upd_same, putK_new _ (kvsN_none hni), List.take_add_one, hst]
        show _ = some (HO.dK (kvsN (fl.take i ++ [st]) (cs ++ [c])))
        rw [kvsN_app (by rw [hcsl, List.length_take]; omega)]
    have hkl : (kvsN (fl.take i) cs).length ≤ i := by
      rw [kvsN_len (by rw [hcsl, List.length_take]; omega), List.length_take]
      omega
    refine b_cons (s_asg (e_setd (e_name 1 (v := .ref nq) ⟨nq, rfl, nk.dty hn4, e_name 4 (v := y) (nk.len (e_name 1 (v := .ref nq) ⟨nq, nkv, rfl, hn4, nk.setd hn4 (kp b4) (sz _ (by omega)) (fun v hv => ?_) fun hv => ?_⟩) rfl rfl)⟩)))
    · obtain ⟨j, hj, ej⟩ : ∃ j, j < i ∧ m j = m i := by
        refine Classical.byContradiction fun hno => ?_
        have := hv2 (m i) fun j hj e => hno ⟨j, hj, e⟩
        rw [this] at hv
        cases hv
      rw [← ej, hv1 j hj] at hv
      cases hv
      obtain ⟨n1, n2⟩ := nb.old hj ej
      refine g_sub (e_name 2 (v := .ref fq) (e_name 3 (v := kV (kN st)) (set_d C (DPut.k (k := kN st) hf4 (sz _ (by omega))) (b_nil ?_))))
      refine fin _ nkv H4 b4 hd4 hn4 hf4 n1 (fun a ha => ?_) (fun z hz => hv2 z fun a ha => hz a (by omega)) (by rw [n2]; exact hln)
      by_cases ea : a = i
      · subst ea
        rw [← ej, hv1 j hj]
        have := Mc.clOf_last (cs := cs) (c := Mc.clOf cs j)
        rw [hcsl] at this
        rw [this]
      · rw [Mc.clOf_app (by omega)]
        exact hv1 a (by omega)
    · have hno : ∀ j, j < i → m j ≠ m i := fun j hj e => by
        rw [← e, hv1 j hj] at hv
        cases hv
      obtain ⟨n1, n2⟩ := nb.new hno
      have b5 : But [d] H (upd H4 nq (nk.ho nq (putK nkv (m i) (.int (nkv.length : Nat))))) := fun q o na e => by
        rw [upd_ne (ne_of_none e hnq)]
        exact b4 _ _ na e
      have hf5 : upd H4 nq (nk.ho nq (putK nkv (m i) (.int (nkv.length : Nat)))) fq = some (.dK (kvsN (fl.take i) cs)) := by rw [upd_ne nfn]; exact hf4
      have hd5 : upd H4 nq (nk.ho nq (putK nkv (m i) (.int (nkv.length : Nat)))) d = some (.frz od (.dK kvs)) := by rw [upd_ne nnd.symm]; exact hd4
      refine g_sub (e_name 2 (v := .ref fq) (e_name 3 (v := kV (kN st)) (set_d C (DPut.k (k := kN st) hf5 (sz _ (by omega))) (b_nil ?_))))
      refine fin nkv.length (putK nkv (m i) (nV nkv.length)) _ b5 hd5 upd_same hf5 (by rw [hln]; exact n1) (fun a ha => ?_) (fun z hz => ?_) ?_
      · rw [valV_put]
        by_cases ea : a = i
        · subst ea
          rw [if_pos rfl]
          have := Mc.clOf_last (cs := cs) (c := nkv.length)
          rw [hcsl] at this
          rw [this]
        · rw [if_neg (hno a (by omega)), Mc.clOf_app (by omega)]
          exact hv1 a (by omega)
      · rw [valV_put, if_neg fun e => hz i (by omega) e.symm]
        exact hv2 z fun a ha => hz a (by omega)
      · rw [putK_new _ hv, List.length_append, hln]
        exact n2.symm
  · rintro σ H3 ⟨⟨v3, v4, rfl⟩, b3, hd3, cs, nkv, hn3, hf3, nb, hv1, hv2, hln⟩
    rw [hl] at hf3 nb
    rw [List.take_length] at hf3
    refine ⟨hd3, b_cons (s_ret (e_name 2 (v := .ref fq) (hQ fq cs _ (fun q o na e => ?_) hfH (by rw [upd_ne nfd]; exact hf3) nb)))⟩
    by_cases e2 : q = d
    · subst e2
      rw [upd_same, ← hd]
      exact e
    · rw [upd_ne e2]
      exact b3 _ _ (by simpa using e2) e
/-- truth values for marks -/
def spNumB : Sp := fun vs H Q _ => ∃ (d : Addr) (kvs : List (Key × V)) (fl : List Nat) (m : Nat → Bool), vs = [.ref d] ∧ H d = some (.dK kvs) ∧ kvs.length = fl.length ∧ fl.Nodup ∧ fl.length ≤ 1000 ∧ (∀ (i s : Nat), fl[i]? = some s → kvs[i]? = some (kN s, .bl (m i))) ∧
  ∀ q cs H', But [] H H' → H q = none → H' q = some (.dK (kvsN fl cs)) → Mc.Numb m fl.length cs → Q (.ref q) H'
theorem d_numB (B : Blt mg base) (D : At K mg "numbered" (top 30)) : Def P w K mg base 1 "numbered" (top 30) ["marks"] spNumB := by
  refine def_of D B scNu (fun vs H Q E ⟨_, _, _, _, e, _⟩ => by rw [e]; rfl) fun f cdv A outer s H vs Q E hm C h => ?_
  obtain ⟨d, kvs, fl, m, rfl, hd, hl, nd, h1, hk, hQ⟩ := h
  exact num_body B C (nkB B) hd hl nd h1 (fun i s hs => ⟨_, hk i s hs, rfl⟩) hQ
/-- tuples for marks -/
def spNumT : Sp := fun vs H Q _ => ∃ (d : Addr) (kvs : List (Key × V)) (fl : List Nat) (m : Nat → List Key), vs = [.ref d] ∧ H d = some (.dK kvs) ∧ kvs.length = fl.length ∧ fl.Nodup ∧ fl.length ≤ 1000 ∧ (∀ (i s : Nat), fl[i]? = some s → ∃ t, kvs[i]? = some (kN s, .ref t) ∧ H t = some (.tup ((m i).map kV))) ∧
  ∀ q cs H', But [] H H' → H q = none → H' q = some (.dK (kvsN fl cs)) → Mc.Numb m fl.length cs → Q (.ref q) H'
theorem d_numT (B : Blt mg base) (D : At K mg "numbered" (top 30)) : Def P w K mg base 1 "numbered" (top 30) ["marks"] spNumT := by
  refine def_of D B scNu (fun vs H Q E ⟨_, _, _, _, e, _⟩ => by rw [e]; rfl) fun f cdv A outer s H vs Q E hm C h => ?_
  obtain ⟨d, kvs, fl, m, rfl, hd, hl, nd, h1, hk, hQ⟩ := h
  exact num_body B C (nkT C B) hd hl nd h1 (fun i s hs => let ⟨t, h2, h3⟩ := hk i s hs; ⟨_, h2, t, rfl, h3⟩) hQ
end
end K14

set_option Elab.async false
set_option linter.all false
set_option maxRecDepth 100000
set_option maxHeartbeats 4000000
namespace K14
open PySem PySem.Spec PyProof.Rows L2 Z
/-- keys in order -/
structure KeysOf (kvs : List (Key × V)) (fl : List Nat) (i : Nat) : Prop where
  len : kvs.length = i
  at_ : ∀ j s : Nat, j < i → fl[j]? = some s → ∃ y, kvs[j]? = some (kN s, y)
theorem valV_mem {k : Key} : ∀ {kvs : List (Key × V)}, (∀ (j : Nat) (q : Key × V), kvs[j]? = some q → q.1 ≠ k) → valV kvs k = none
  | [], _ => rfl
  | p :: r, h => by
    rw [valV_neg (h 0 p rfl)]
    exact valV_mem fun j q hq => h (j + 1) q (by simpa using hq)
theorem KeysOf.new {kvs : List (Key × V)} {fl : List Nat} {i s : Nat} (h : KeysOf kvs fl i) (nd : fl.Nodup) (hs : fl[i]? = some s) : valV kvs (kN s) = none := valV_mem fun j q hq e => by
  have hj : j < i := by rw [← h.len]; exact (List.getElem?_eq_some_iff.mp hq).1
  have hi := (List.getElem?_eq_some_iff.mp hs).1
  obtain ⟨y, hy⟩ := h.at_ j _ hj (List.getElem?_eq_getElem (by omega))
  rw [hq] at hy
  cases hy
  have e2 := kN_inj e
  obtain ⟨h3, h4⟩ := List.getElem?_eq_some_iff.mp hs
  have := (List.getElem_inj nd).mp (e2.trans h4.symm)
  omega
theorem KeysOf.put {kvs : List (Key × V)} {fl : List Nat} {i s : Nat} {y : V} (h : KeysOf kvs fl i) (nd : fl.Nodup) (hs : fl[i]? = some s) : putK kvs (kN s) y = kvs ++ [(kN s, y)] ∧ KeysOf (kvs ++ [(kN s, y)]) fl (i + 1) := by
  refine ⟨putK_new _ (h.new nd hs), by rw [List.length_append, h.len]; rfl, fun j s' hj hs' => ?_⟩
  by_cases e : j = i
  · subst e
    rw [hs] at hs'
    cases hs'
    exact ⟨y, by rw [List.getElem?_append_right (by rw [h.len]; exact Nat.le_refl _), h.len, Nat.sub_self]; rfl⟩
  · obtain ⟨z, hz⟩ := h.at_ j s' (by omega) hs'
    exact ⟨z, by rw [List.getElem?_append_left (List.getElem?_eq_some_iff.mp hz).1]; exact hz⟩
theorem snoc_last {α : Type} {l : List α} {x : α} {n : Nat} (h : l.length = n) : (l ++ [x])[n]? = some x := by rw [List.getElem?_append_right (by omega), h, Nat.sub_self]; rfl
theorem snoc_old {α : Type} {l : List α} {x y : α} {j : Nat} (h : l[j]? = some y) : (l ++ [x])[j]? = some y := by rw [List.getElem?_append_left (List.getElem?_eq_some_iff.mp h).1]; exact h
structure ConstsF (mg : Str → Option Value) : Prop where
  few : ∃ u, mg "FEW" = some u ∧ RelV (.int 40) u
abbrev bV (b : Bool) : V := .bl b
def accOf (A : List Bool) : Nat → Bool := fun s => A.getD s false
theorem acc_at {A : List Bool} {s : Nat} (h : s < A.length) : (A.map bV)[s]? = some (bV (accOf A s)) := by
  rw [List.getElem?_map, List.getElem?_eq_getElem h]
  show some (bV A[s]) = some (bV (A.getD s false))
  rw [List.getD_eq_getElem?_getD, List.getElem?_eq_getElem h]
  rfl
section
variable {P : Program} {w : World} {K : PySem.W.Frag} {mg : Str → Option Value} {base : Heap}
def spFirst : Sp := fun vs H Q _ => ∃ (v : V) (sq aq : Addr) (fl : List Nat) (A : List Bool), vs = [v, .ref sq, .ref aq] ∧ SqA [] H sq (fl.map nV) ∧ SqA [] H aq (A.map bV) ∧ fl.length < 40 ∧ fl.Nodup ∧ (∀ s ∈ fl, s < A.length) ∧
  ∀ q (kvs : List (Key × V)) H', But [] H H' → H q = none → H' q = some (.dK kvs) → kvs.length = fl.length → (∀ i s : Nat, fl[i]? = some s → kvs[i]? = some (kN s, bV (accOf A s))) → Q (.ref q) H'
theorem scFm : FnScope ["rows", "some", "accepts", "ways", "last", "near", "far", "state"] ["rows", "some", "accepts"] (defScope (top 33)) := ⟨rfl, rfl, rfl, by decide +kernel, rfl, by decide +kernel, by decide +kernel⟩
theorem d_first (B : Blt mg base) (D : At K mg "first_marks" (top 33)) (T : ConstsF mg) : Def P w K mg base 1 "first_marks" (top 33) ["rows", "some", "accepts"] spFirst := by
  refine def_of D B scFm (fun vs H Q E ⟨_, _, _, _, _, e, _⟩ => by rw [e]; rfl) fun f cdv A0 outer s H vs Q E hm C h => ?_
  obtain ⟨v, sq, aq, fl, A, rfl, hs, ha, hfew, nd, hsA, hQ⟩ := h
  obtain ⟨u, hu, ru⟩ := T.few
  refine b_cons (s_ifB true ?_ (fun _ H1 b1 => ?_) (fun e => by cases e))
  · refine t_cmp (e_len B (e_name 1 (v := .ref sq) ⟨_, hs.all.len, e_glob (v := .int 40) (c_lt ⟨true, ?_, rfl, But.refl⟩) hu ru⟩))
    congr 1
    rw [decide_eq_true_eq, List.length_map]
    omega
  have hs1 := hs.but b1 (by simp)
  have ha1 := ha.but b1 (by simp)
  refine b_cons (s_ret (e_dc [("state", 7)] C (i_sq hs1.all (fun Q q => e_name 1 (v := .ref sq) q) fun J G wk hG => ?_)))
  refine ⟨_, G, _, wk, fun Dk hDk => ⟨fun i H' => But [] H1 H' ∧ ∃ kvs : List (Key × V), H' Dk = some (.dK kvs) ∧ KeysOf kvs fl i ∧ ∀ j s : Nat, j < i → fl[j]? = some s → kvs[j]? = some (kN s, bV (accOf A s)), ⟨But.new hDk, [], upd_same, ⟨rfl, fun j s h => by omega⟩, fun j s h => by omega⟩, fun i H' _ h => hG [] H' h.1 (by simp), ?_, ?_⟩⟩
  · rintro i x H2 H' hi ⟨b2, kvs, hk, ko, hkv⟩ ⟨rfl, hx⟩
    rw [List.getElem?_map, Option.map_eq_some_iff] at hx
    obtain ⟨x, hx, rfl⟩ := hx
    rw [List.length_map] at hi
    have ha2 := ha1.but b2 (by simp)
    intro s H0 Ca cl fp
    refine g_name (i := 7) ⟨rfl, fun s H0 Ca cl fp => e_name 7 (v := nV x) fun s H0 Ca cl fp => e_ix (e_name 2 (v := .ref aq) (e_name 7 (v := nV x) (ix_sq ha2.all (v := bV (accOf A x)) (atI_nat (acc_at (hsA x (List.mem_of_getElem? hx)))) ⟨kvs, kN x, rfl, hk, by rw [sizeLine_eq, ko.len]; omega, ?_⟩)))⟩ C.nd
    obtain ⟨p1, p2⟩ := ko.put (y := bV (accOf A x)) nd hx
    rw [p1]
    refine ⟨fun q o na e => ?_, _, upd_same, p2, fun j s hj hs => ?_⟩
    · rw [upd_ne (ne_of_none e hDk)]
      exact b2 _ _ na e
    · by_cases e : j = i
      · subst e
        rw [hx] at hs
        cases hs
        exact snoc_last ko.len
      · exact snoc_old (hkv j s (by omega) hs)
  · rintro H2 ⟨b2, kvs, hk, ko, hkv⟩
    rw [List.length_map] at ko hkv
    exact hQ Dk kvs H2 (b1.trans b2) (b1.free hDk) hk ko.len fun i s hs => hkv i s (List.getElem?_eq_some_iff.mp hs).1 hs
/-! ### classes -/
/-- the marks of a round -/
def sig (wd : Nat) (m : Mc.M) (cl : Nat → Nat) (k : Nat) : List Key := kN (cl k) :: (List.range wd).map fun a => kN (cl (m.step wd k a))
theorem sig_iff {wd : Nat} {m : Mc.M} {cl : Nat → Nat} {i j : Nat} : sig wd m cl i = sig wd m cl j ↔ cl i = cl j ∧ ∀ a, a < wd → cl (m.step wd i a) = cl (m.step wd j a) := by
  unfold sig
  rw [List.cons.injEq]
  constructor
  · rintro ⟨h1, h2⟩
    refine ⟨kN_inj h1, fun a ha => ?_⟩
    have := congrArg (·[a]?) h2
    simp only [List.getElem?_map, List.getElem?_range ha, Option.map_some, Option.some.injEq] at this
    exact kN_inj this
  · rintro ⟨h1, h2⟩
    refine ⟨by rw [h1], List.map_congr_left fun a ha => by rw [h2 a (List.mem_range.mp ha)]⟩
def spClasses : Sp := fun vs H Q _ => ∃ (v : V) (aq : Addr) (wd : Nat) (R : List (List Nat)) (A : List Bool), vs = [v, .ref aq] ∧ RowsAt H v R ∧ RowsOk wd R ∧ 0 < wd ∧ wd ≤ 1000 ∧ SqA [] H aq (A.map bV) ∧ A.length = R.length ∧ R.length < 40 ∧
  ∀ q fl ts cs H', But [] H H' → H q = none → H' q = some (.dK (kvsN fl cs)) → Mc.Bfs wd R.length (tg R) (fl.length * wd) fl ts → cs.length = fl.length → Mc.FO (Mc.clOf cs) fl.length →
    (∀ i j, i < fl.length → j < fl.length → (Mc.clOf cs i = Mc.clOf cs j ↔ Mc.Eqv wd (Mc.Bfs.mach fl ts (accOf A)) (Mc.Bfs.mach fl ts (accOf A)) i j)) → Q (.ref q) H'
theorem scCn : FnScope ["rows", "accepts", "some", "found", "many", "state", "goal"] ["rows", "accepts"] (defScope (top 34)) := ⟨rfl, rfl, rfl, by decide +kernel, rfl, by decide +kernel, by decide +kernel⟩
theorem max_cnt {n M : Nat} {cs : List Nat} (hl : cs.length = n) (fo : Mc.FO (Mc.clOf cs) n) (hM : (M : Int) ∈ cs.map fun x : Nat => (x : Int)) (ha : ∀ y ∈ cs.map (fun x : Nat => (x : Int)), y ≤ (M : Int)) : Mc.cnt (Mc.clOf cs) n = M + 1 := by
  obtain ⟨x, hx, ex⟩ := List.mem_map.mp hM
  have ex : x = M := by omega
  subst ex
  obtain ⟨k, hk⟩ := List.mem_iff_getElem?.mp hx
  have hkn : k < n := by rw [← hl]; exact (List.getElem?_eq_some_iff.mp hk).1
  have e1 : Mc.clOf cs k = x := by show cs.getD k 0 = x; rw [List.getD_eq_getElem?_getD, hk]; rfl
  have l1 := fo.lt' (Nat.le_refl _) hkn
  have l2 : Mc.cnt (Mc.clOf cs) n ≤ x + 1 := by
    refine Nat.le_of_not_lt fun z => ?_
    obtain ⟨j, hj, ej⟩ := Mc.cnt_has z
    have hj2 : j < cs.length := by rw [hl]; exact hj
    have : cs.getD j 0 = x + 1 := ej
    rw [List.getD_eq_getElem?_getD, List.getElem?_eq_getElem hj2] at this
    have e3 : cs[j] = x + 1 := this
    have := ha (cs[j] : Int) (List.mem_map.mpr ⟨_, List.getElem_mem hj2, rfl⟩)
    omega
  omega
theorem d_classes (B : Blt mg base) (D : At K mg "class_numbers" (top 34)) (D1 : Def P w K mg base 1 "reached" (top 29) ["rows"] spReached) (D2 : Def P w K mg base 1 "first_marks" (top 33) ["rows", "some", "accepts"] spFirst)
    (D3 : Def P w K mg base 1 "numbered" (top 30) ["marks"] spNumB) (D4 : Def P w K mg base 1 "numbered" (top 30) ["marks"] spNumT) :
    Def P w K mg base 2 "class_numbers" (top 34) ["rows", "accepts"] spClasses := by
  refine def_of D B scCn (fun vs H Q E ⟨_, _, _, _, _, e, _⟩ => by rw [e]; rfl) fun f cdv A0 outer s H vs Q E hm C h => ?_
  obtain ⟨v, aq, wd, R, A, rfl, hv, ok, hwd, hw1, ha, hAl, hfew, hQ⟩ := h
  have sz : ∀ n, n ≤ 16777216 → n ≤ sizeLine := fun n h => by rw [sizeLine_eq]; exact h
  obtain ⟨ra, rxs, rfl, hrsq, hrl, hrx⟩ := hv.sq
  generalize ev : V.ref ra = v at hv
  refine b_cons (s_set (i := 2) (e_call C D1 (a_cons (e_name 0 (v := v) (a_nil ?_))) rfl (fun _ _ _ _ _ _ us hl => match us, hl with | [_], _ => rfl)) C.nd)
  refine ⟨v, wd, R, rfl, hv, ok, hwd, fun sq fl ts H1 b1 hsn hs bf => ?_⟩
  have hfl : fl.length ≤ R.length := nodup_len bf.nd bf.inn
  have hfp : 0 < fl.length := (List.getElem?_eq_some_iff.mp bf.zero).1
  have hs1 : SqA [] H1 sq (fl.map nV) := .inl (.inl (.inl hs))
  have ha1 := ha.but b1 (by simp)
  refine b_cons (s_asg (e_tup (a_cons (e_call C D3 (a_cons ?_) rfl (fun _ _ _ _ _ _ us hl => match us, hl with | [_], _ => rfl)))))
  refine e_call C D2 (a_cons (e_name 0 (v := v) (a_cons (e_name 2 (v := .ref sq) (a_cons (e_name 1 (v := .ref aq) (a_nil ?_))))))) rfl (fun _ _ _ _ _ _ us hl => match us, hl with | [_, _, _], _ => rfl)
  refine ⟨v, sq, aq, fl, A, rfl, hs1, ha1, by omega, bf.nd, fun s hsm => by rw [hAl]; exact bf.inn s hsm, fun dq kvs H2 b2 hdn hd hkl hkv => a_nil ?_⟩
  have fm : ∀ i, i < fl.length → (Mc.Bfs.mach fl ts (accOf A)).f i = accOf A (fl.getD i 0) := fun i _ => rfl
  refine ⟨dq, kvs, fl, fun i => accOf A (fl.getD i 0), rfl, hd, hkl, bf.nd, by omega, fun i s hs => ?_, fun fq cs H3 b3 hfn hf nb => a_cons (e_int (a_nil ⟨sz 2 (by decide), fun tq htq => ?_⟩))⟩
  · rw [hkv i s hs]
    show some (kN s, bV (accOf A s)) = some (kN s, V.bl (accOf A (fl.getD i 0)))
    rw [List.getD_eq_getElem?_getD, hs]
    rfl
  have bt : But [] H3 (upd H3 tq (.tup [.ref fq, .int 0])) := But.new htq
  refine g_tup (gs_cons (g_name (i := 3) (gs_cons (g_name (i := 4) (gs_nil ?_) C.nd)) C.nd)) rfl (.inl (.inl upd_same))
  have b14 := b2.trans (b3.trans bt)
  have b04 := b1.trans b14
  have hf4 := bt _ _ (by simp) hf
  have fqH : H fq = none := (b1.trans b2).free hfn
  have hin := bf.in_ (f := accOf A)
  have hsc := bf.scan (f := accOf A)
  generalize em : Mc.Bfs.mach fl ts (accOf A) = m at hin hsc hQ
  have emn : m.n = fl.length := by rw [← em]; rfl
  have k0 : Mc.Keeps wd m (Mc.clOf cs) := Mc.Keeps.first (by rw [emn]; exact nb.fo) fun i j hi hj => by
    rw [emn] at hi hj
    rw [nb.iff i j hi hj, ← em]
    rfl
  -- where a state goes, by the numbers of states
  have stp : ∀ k p r : Nat, True := fun _ _ _ => trivial
  have goes : ∀ k, k < fl.length → ∀ a, a < wd → fl[m.step wd k a]? = some (tg R (fl.getD k 0) a) := fun k hk a hwa => by
    have h1 := bf.step (f := accOf A) hk hwa
    have h2 := hin.step (wd := wd) (s := k) (a := a) (by rw [emn]; exact hk) hwa
    rw [em] at h1
    rw [emn] at h2
    rw [← h1, List.getD_eq_getElem?_getD, List.getElem?_eq_getElem h2]
    rfl
  show wB _ _ _ [some v, some (.ref aq), some (.ref sq), some (.ref fq), some (.int 0), none, none] (upd H3 tq (.tup [.ref fq, .int 0]))
  generalize upd H3 tq (.tup [.ref fq, .int 0]) = H4 at bt b14 b04 hf4 ⊢
  clear bt htq hf hfn b3 hd hkl hkv hdn b2
  have csl := nb.len
  clear fm
  refine b_cons (s_while C (fun mm σ H' => ∃ (fq : Addr) (cs : List Nat) (many : Nat) (v5 v6 : Option V), σ = [some v, some (.ref aq), some (.ref sq), some (.ref fq), some (nV many), v5, v6] ∧ But [] H1 H' ∧ H fq = none ∧ H' fq = some (.dK (kvsN fl cs)) ∧ cs.length = fl.length ∧ Mc.Keeps wd m (Mc.clOf cs) ∧
      (many = 0 ∨ ∃ cl, Mc.Keeps wd m cl ∧ Mc.Round wd m cl (Mc.clOf cs) ∧ many = Mc.cnt cl m.n) ∧ many ≤ fl.length ∧ mm = fl.length + 1 - many) (fl.length + 1) ⟨fq, cs, 0, none, none, rfl, b14, fqH, hf4, csl, k0, .inl rfl, Nat.zero_le _, rfl⟩ ?_)
  rintro mm σ H5 ⟨fq, cs, many, v5, v6, rfl, b5, hfn, hf5, csl, kp, hmany, hml, rfl⟩
  have evals : (kvsN fl cs).map (·.2) = (cs.map fun x : Nat => (x : Int)).map V.int := by
    unfold kvsN
    rw [List.map_map, List.map_map]
    have : (fl.zip cs).map (fun q => nV q.2) = ((fl.zip cs).map Prod.snd).map nV := by rw [List.map_map]; rfl
    show (fl.zip cs).map (fun q => nV q.2) = cs.map nV
    rw [this, List.map_snd_zip (by omega)]
  have hnl : 0 < (cs.map fun x : Nat => (x : Int)).length := by rw [List.length_map]; omega
  have fo := kp.fo
  rw [emn] at fo
  refine t_cmp (e_maxL C (e_listVals C (e_name 3 (v := .ref fq) ⟨fq, _, rfl, hf5, fun lq hlq => ⟨lq, _, rfl, .inl (.inl (by rw [upd_same, evals])), hnl, fun M hM hMa => ?_⟩⟩)))
  obtain ⟨M', _, eM⟩ : ∃ M' : Nat, M' ∈ cs ∧ (M' : Int) = M := by
    obtain ⟨x, hx, ex⟩ := List.mem_map.mp hM
    exact ⟨x, hx, ex⟩
  subst eM
  have hcnt := max_cnt csl fo hM hMa
  have bl : But [] H5 (upd H5 lq (.lst ((kvsN fl cs).map (·.2)))) := But.new hlq
  refine e_name 4 (v := nV many) (c_ge ⟨decide (many ≤ M'), ?_, ite_b (fun e => ?_) fun e => ?_⟩)
  · congr 1; rw [decide_eq_decide]; omega
  · have hle : many ≤ M' := of_decide_eq_true e
    have hf6 := bl _ _ (by simp) hf5
    have b6 := b5.trans bl
    generalize upd H5 lq (.lst ((kvsN fl cs).map (·.2))) = H6 at bl hf6 b6 ⊢
    refine b_cons (s_set (i := 4) (e_bin (e_int (e_maxL C (e_listVals C (e_name 3 (v := .ref fq) ⟨fq, _, rfl, hf6, fun lq hlq => ⟨lq, _, rfl, .inl (.inl (by rw [upd_same, evals])), hnl, fun M2 hM2 hMa2 => o_add ?_⟩⟩))))) C.nd)
    obtain ⟨M3, _, eM⟩ : ∃ M3 : Nat, M3 ∈ cs ∧ (M3 : Int) = M2 := by
      obtain ⟨x, hx, ex⟩ := List.mem_map.mp hM2
      exact ⟨x, hx, ex⟩
    subst eM
    have hcnt2 := max_cnt csl fo hM2 hMa2
    have e3 : M3 = M' := by omega
    subst e3
    have b7 : But [] H6 (upd H6 lq (.lst ((kvsN fl cs).map (·.2)))) := But.new hlq
    have hf7 := b7 _ _ (by simp) hf6
    have b17 := b6.trans b7
    have b07 := b1.trans b17
    generalize upd H6 lq (.lst ((kvsN fl cs).map (·.2))) = H7 at b7 hf7 b17 b07 ⊢
    have hcl : Mc.cnt (Mc.clOf cs) fl.length ≤ fl.length := Mc.cnt_le _ _
    have csat : ∀ k, k < fl.length → cs[k]? = some (Mc.clOf cs k) := fun k hk => by
      have hk2 : k < cs.length := by omega
      rw [List.getElem?_eq_getElem hk2]
      show some cs[k] = some (cs.getD k 0)
      rw [List.getD_eq_getElem?_getD, List.getElem?_eq_getElem hk2]
      rfl
    refine b_cons (s_set (i := 3) (e_call C D4 (a_cons (e_dc [("state", 5)] C (i_sq (hs1.but b17 (by simp)).all (fun Q q => e_name 2 (v := .ref sq) q) fun J G wk hG => ?_))) rfl (fun _ _ _ _ _ _ us hl => match us, hl with | [_], _ => rfl)) C.nd)
    refine ⟨_, G, _, wk, fun Dk hDk => ⟨fun i H' => But [] H7 H' ∧ ∃ kvs : List (Key × V), H' Dk = some (.dK kvs) ∧ KeysOf kvs fl i ∧ ∀ j s : Nat, j < i → fl[j]? = some s → ∃ t, kvs[j]? = some (kN s, .ref t) ∧ H' t = some (.tup ((sig wd m (Mc.clOf cs) j).map kV)), ⟨But.new hDk, [], upd_same, ⟨rfl, fun j s h => by omega⟩, fun j s h => by omega⟩, fun i H' _ h => hG [] H' h.1 (by simp), ?_, ?_⟩⟩
    · rintro i x H8 H' hi ⟨b8, kvs, hk, ko, hkv⟩ ⟨rfl, hx⟩
      rw [List.getElem?_map, Option.map_eq_some_iff] at hx
      obtain ⟨x, hx, rfl⟩ := hx
      rw [List.length_map] at hi
      have b08 := b07.trans b8
      obtain ⟨r, hr⟩ : ∃ r, R[x]? = some r := ⟨_, List.getElem?_eq_getElem (bf.inn x (List.mem_of_getElem? hx))⟩
      obtain ⟨y, hy, hny⟩ := hrx x r hr
      obtain ⟨rb, rfl, hrs⟩ := (hny.but b08).sq
      have hf8 := b8 _ _ (by simp) hf7
      have hrw := ok.wide r (List.mem_of_getElem? hr)
      have fx : fl.getD i 0 = x := by rw [List.getD_eq_getElem?_getD, hx]; rfl
      intro s H0 Ca cl fp
      refine g_name (i := 5) ⟨rfl, fun s H0 Ca cl fp => e_name 5 (v := nV x) fun s H0 Ca cl fp => e_tup (a_cons (e_dget (C.blk _ _ _ _ _) (e_name 3 (v := .ref fq) (e_name 5 (v := nV x) ⟨rfl, by rw [← kvsN_get bf.nd hx (csat i hi)]; exact DGet.k (k := kN x) hf8, ?_⟩))))⟩ C.nd
      refine a_star (e_lcM [("goal", 6)] (C.blk _ _ _ _ _) (i_sq hrs.all ?_ fun J G wk hG => ?_))
      · exact fun Q q => e_ix (e_name 0 (v := v) (e_name 5 (v := nV x) (by rw [← ev]; exact ix_sq (hrsq.but b08 (by simp)).all (v := .ref rb) (atI_nat hy) q)))
      refine ⟨_, G, _, (List.range wd).map fun a => nV (Mc.clOf cs (m.step wd i a)), wk, by rw [List.length_map, List.length_map, List.length_range, hrw], sz _ (by rw [List.length_map, hrw]; omega), fun H' b => hG [] H' b (by simp), fun a g H9 H' hag b9 hg => ?_, fun Dm H9 b9 hDn hDl => ⟨Dm, _, rfl, .inr (.inl (.inl hDl)), a_nil ⟨?_, fun tq htq => ?_⟩⟩⟩
      · obtain ⟨rfl, hg⟩ := hg
        rw [List.getElem?_map, Option.map_eq_some_iff] at hg
        obtain ⟨g, hg, rfl⟩ := hg
        rw [List.length_map, hrw] at hag
        have hgo := goes i hi a hag
        rw [fx, tg_at hr, List.getD_eq_getElem?_getD, hg] at hgo
        have hst : m.step wd i a < fl.length := (List.getElem?_eq_some_iff.mp hgo).1
        refine ⟨But.refl, mt_name (i := 6) C.nd fun s H0 Ca cl fp => e_dget ((C.blk _ _ _ _ _).blk _ _ _ _ _) (e_name 3 (v := .ref fq) (e_name 6 (v := nV g) ⟨rfl, by rw [← kvsN_get bf.nd hgo (csat _ hst)]; exact DGet.k (k := kN g) (b9 _ _ (by simp) hf8), ?_, But.refl⟩))⟩
        rw [List.getElem?_map, List.getElem?_range hag]
        rfl
      · rw [List.append_nil, List.length_cons, List.length_map, List.length_range, sizeLine_eq]
        omega
      · rw [List.append_nil]
        have bt : But [] H9 (upd H9 tq (.tup (nV (Mc.clOf cs i) :: (List.range wd).map fun a => nV (Mc.clOf cs (m.step wd i a))))) := But.new htq
        have ht : upd H9 tq (.tup (nV (Mc.clOf cs i) :: (List.range wd).map fun a => nV (Mc.clOf cs (m.step wd i a)))) tq = some (.tup ((sig wd m (Mc.clOf cs) i).map kV)) := by
          rw [upd_same]
          unfold sig
          rw [List.map_cons, List.map_map]
          rfl
        have hk9 := bt _ _ (by simp) (b9 _ _ (by simp) hk)
        have b89 := b9.trans bt
        generalize upd H9 tq (.tup (nV (Mc.clOf cs i) :: (List.range wd).map fun a => nV (Mc.clOf cs (m.step wd i a)))) = HA at bt ht hk9 b89 ⊢
        obtain ⟨p1, p2⟩ := ko.put (y := .ref tq) bf.nd hx
        refine ⟨kvs, kN x, rfl, hk9, sz _ (by rw [ko.len]; omega), ?_⟩
        rw [p1]
        have ntd : ∀ {t xs}, HA t = some (.tup xs) → t ≠ Dk := fun {t xs} e z => by
          rw [z, hk9] at e
          cases e
        refine ⟨fun q o na e => ?_, _, upd_same, p2, fun j s hj hs => ?_⟩
        · rw [upd_ne (ne_of_none e hDk)]
          exact b89 _ _ na (b8 _ _ na e)
        · by_cases e : j = i
          · subst e
            rw [hx] at hs
            cases hs
            exact ⟨tq, snoc_last ko.len, by rw [upd_ne (ntd ht)]; exact ht⟩
          · obtain ⟨t, h1, h2⟩ := hkv j s (by omega) hs
            have h3 := b89 _ _ (by simp) h2
            exact ⟨t, snoc_old h1, by rw [upd_ne (ntd h3)]; exact h3⟩
    · rintro H8 ⟨b8, kvs, hk, ko, hkv⟩
      rw [List.length_map] at ko hkv
      refine a_nil ⟨Dk, kvs, fl, sig wd m (Mc.clOf cs), rfl, hk, ko.len, bf.nd, by omega, fun i s hs => hkv i s (List.getElem?_eq_some_iff.mp hs).1 hs, fun fq2 cs2 H9 b9 hfn2 hf9 nb2 => ?_⟩
      have b19 := b17.trans (b8.trans b9)
      have rd : Mc.Round wd m (Mc.clOf cs) (Mc.clOf cs2) := ⟨by rw [emn]; exact nb2.fo, fun i j hi hj => by
        rw [emn] at hi hj
        rw [nb2.iff i j hi hj, sig_iff]⟩
      refine b_nil ⟨fl.length + 1 - (M3 + 1), by omega, fq2, cs2, M3 + 1, v5, v6, ?_, b19, ((b1.trans b17).trans b8).free hfn2, hf9, nb2.len, rd.keeps hin kp, .inr ⟨_, kp, rd, by rw [emn, hcnt]⟩, by omega, rfl⟩
      show ([some v, some (.ref aq), some (.ref sq), some (.ref fq2), some (.int (1 + (M3 : Int))), v5, v6] : L2.St) = _
      rw [show (1 : Int) + (M3 : Int) = ((M3 + 1 : Nat) : Int) by omega]
  · have hlt : M' < many := by have := of_decide_eq_false e; omega
    rcases hmany with z | ⟨cl, k1, rd, em2⟩
    · omega
    have dn := rd.done hin k1 (by rw [emn, hcnt, ← emn, ← em2]; omega)
    rw [emn] at dn
    exact b_cons (s_ret (e_name 3 (v := .ref fq) (hQ fq fl ts cs _ (b1.trans (b5.trans bl)) hfn (bl _ _ (by simp) hf5) bf csl fo (by rw [em]; exact dn))))
end
end K14

set_option Elab.async false
set_option linter.all false
set_option maxRecDepth 100000
set_option maxHeartbeats 4000000
namespace K14
open PySem PySem.Spec PyProof.Rows L2 Z
/-- the machine of a table -/
def mk (wd : Nat) (L : List (List Nat)) (A : List Bool) : Mc.M := ⟨L.length, fun c => (L.getD (c / wd) []).getD (c % wd) 0, accOf A⟩
abbrev rowT (r : List Nat) : PyData := .tuple (r.map nD)
theorem dget_frz {H : Hp} {a : Addr} {o : Obj} {kvs : List (Key × V)} {k : Key} (e : H a = some (.frz o (.dK kvs))) : DGet H a (kV k) (valV kvs k) := .inl ⟨kvs, k, .inr ⟨o, e⟩, rfl, rfl⟩
/-! ### data that stays while lists and dicts change -/
theorem sqt_lists {l : List Addr} {H H' : Hp} {a : Addr} {xs : List V} (b : Ex l H H') (hl : ∀ q ∈ l, ∃ ys, H q = some (.lst ys)) (h : SqT [] H a xs) : a ∉ l := fun z => by
  obtain ⟨ys, e⟩ := hl a z
  rcases h with (h | ⟨o, h⟩) | ⟨o, its, n, h, _⟩
  · rw [e] at h; cases h
  · rw [e] at h; cases h
  · cases h
mutual
theorem dd_lists0 {l : List Addr} {H H' : Hp} (b : Ex l H H') (hl : ∀ q ∈ l, ∃ ys, H q = some (.lst ys)) : ∀ {v : V} {d : PyData}, DD [] [] H v d → tupOnly d = true → DD [] [] H' v d
  | _, _, .non, _ => .non
  | _, _, .bl b, _ => .bl b
  | _, _, .int i, _ => .int i
  | _, _, .str x, _ => .str x
  | _, _, .lst _ _ _, h => by simp [tupOnly] at h
  | _, _, .tup h1 n h2, h => .tup (b.sqt (sqt_lists b hl h1) h1) n (dds_lists0 b hl h2 (by simpa [tupOnly] using h))
  | _, _, .dct _ _ _, h => by simp [tupOnly] at h
theorem dds_lists0 {l : List Addr} {H H' : Hp} (b : Ex l H H') (hl : ∀ q ∈ l, ∃ ys, H q = some (.lst ys)) : ∀ {vs : List V} {ds : List PyData}, DDs [] [] H vs ds → tupOnlyAll ds = true → DDs [] [] H' vs ds
  | _, _, .nil, _ => .nil
  | _, _, .cons h r, t => by
    simp only [tupOnlyAll, Bool.and_eq_true] at t
    exact .cons (dd_lists0 b hl h t.1) (dds_lists0 b hl r t.2)
end
theorem rowT_tup (r : List Nat) : tupOnly (rowT r) = true := by
  simp only [tupOnly]
  exact tupOnlyAll_of fun d hd => by
    obtain ⟨x, _, rfl⟩ := List.mem_map.mp hd
    rfl
theorem rowsT_tup (L : List (List Nat)) : tupOnlyAll (L.map rowT) = true := tupOnlyAll_of fun d hd => by
  obtain ⟨r, _, rfl⟩ := List.mem_map.mp hd
  exact rowT_tup r
theorem dds_tups {l : List Addr} {H H' : Hp} {vs : List V} {L : List (List Nat)} (b : Ex l H H') (hl : ∀ q ∈ l, ∃ ys, H q = some (.lst ys)) (h : DDs [] [] H vs (L.map rowT)) : DDs [] [] H' vs (L.map rowT) := dds_lists0 b hl h (rowsT_tup L)
/-- a dict let go -/
theorem sqt_frz {H : Hp} {d a : Addr} {o : Obj} {kvs kvs' : List (Key × V)} {xs : List V} (hd : H d = some (.frz o (.dK kvs))) (h : SqT [] H a xs) : SqT [] (upd H d (.dK kvs')) a xs := by
  have ne : a ≠ d := fun z => by
    rw [z] at h
    rcases h with (h | ⟨o, h⟩) | ⟨o, its, n, h, _⟩
    · rw [hd] at h; cases h
    · rw [hd] at h; cases h
    · cases h
  rcases h with (h | ⟨o, h⟩) | ⟨o, its, n, h, _⟩
  · exact .inl (.inl (by rw [upd_ne ne]; exact h))
  · exact .inl (.inr ⟨o, by rw [upd_ne ne]; exact h⟩)
  · cases h
mutual
theorem dd_frz {H : Hp} {d : Addr} {o : Obj} {kvs kvs' : List (Key × V)} (hd : H d = some (.frz o (.dK kvs))) : ∀ {v : V} {x : PyData}, DD [] [] H v x → tupOnly x = true → DD [] [] (upd H d (.dK kvs')) v x
  | _, _, .non, _ => .non
  | _, _, .bl b, _ => .bl b
  | _, _, .int i, _ => .int i
  | _, _, .str x, _ => .str x
  | _, _, .lst _ _ _, h => by simp [tupOnly] at h
  | _, _, .tup h1 n h2, h => .tup (sqt_frz hd h1) n (dds_frz0 hd h2 (by simpa [tupOnly] using h))
  | _, _, .dct _ _ _, h => by simp [tupOnly] at h
theorem dds_frz0 {H : Hp} {d : Addr} {o : Obj} {kvs kvs' : List (Key × V)} (hd : H d = some (.frz o (.dK kvs))) : ∀ {vs : List V} {ds : List PyData}, DDs [] [] H vs ds → tupOnlyAll ds = true → DDs [] [] (upd H d (.dK kvs')) vs ds
  | _, _, .nil, _ => .nil
  | _, _, .cons h r, t => by
    simp only [tupOnlyAll, Bool.and_eq_true] at t
    exact .cons (dd_frz hd h t.1) (dds_frz0 hd r t.2)
end
theorem dds_frz {H : Hp} {d : Addr} {o : Obj} {kvs kvs' : List (Key × V)} {vs : List V} {L : List (List Nat)} (hd : H d = some (.frz o (.dK kvs))) (h : DDs [] [] H vs (L.map rowT)) : DDs [] [] (upd H d (.dK kvs')) vs (L.map rowT) := dds_frz0 hd h (rowsT_tup L)
/-- a least machine of a language -/
structure Least (wd : Nat) (L : List (List Nat)) (A : List Bool) (lang : List Nat → Bool) : Prop where
  canon : Mc.Canon wd (mk wd L A)
  len : A.length = L.length
  wide : ∀ r ∈ L, r.length = wd
  lang_ : ∀ w, Mc.Wd wd w → (mk wd L A).lang wd 0 w = lang w
theorem Least.eq {wd : Nat} {L L' : List (List Nat)} {A A' : List Bool} {l l' : List Nat → Bool} (h : Least wd L A l) (h' : Least wd L' A' l') (e : ∀ w, Mc.Wd wd w → l w = l' w) : L = L' ∧ A = A' := by
  obtain ⟨e1, e2, e3⟩ := Mc.canon_eq h.canon h'.canon fun w hw => by rw [h.lang_ w hw, h'.lang_ w hw, e w hw]
  have e1 : L.length = L'.length := e1
  refine ⟨List.ext_getElem e1 fun i h1 h2 => ?_, List.ext_getElem (by rw [h.len, h'.len, e1]) fun i h1 h2 => ?_⟩
  · have w1 := h.wide _ (List.getElem_mem h1)
    have w2 := h'.wide _ (List.getElem_mem h2)
    refine List.ext_getElem (by rw [w1, w2]) fun a h3 h4 => ?_
    have ha : a < wd := by rw [← w1]; exact h3
    have := e2 (i * wd + a) (Mc.code_lt h1 ha)
    have d1 : (i * wd + a) / wd = i := by rw [Nat.mul_comm, Nat.mul_add_div (by omega), Nat.div_eq_of_lt ha, Nat.add_zero]
    have d2 : (i * wd + a) % wd = a := by rw [Nat.mul_comm, Nat.mul_add_mod, Nat.mod_eq_of_lt ha]
    have this : (L.getD ((i * wd + a) / wd) []).getD ((i * wd + a) % wd) 0 = (L'.getD ((i * wd + a) / wd) []).getD ((i * wd + a) % wd) 0 := this
    rw [d1, d2] at this
    simpa [List.getD_eq_getElem?_getD, List.getElem?_eq_getElem h1, List.getElem?_eq_getElem h2, List.getElem?_eq_getElem h3, List.getElem?_eq_getElem h4] using this
  · have := e3 i (by show i < L.length; rw [← h.len]; exact h1)
    have this : A.getD i false = A'.getD i false := this
    simpa [List.getD_eq_getElem?_getD, List.getElem?_eq_getElem h1, List.getElem?_eq_getElem h2] using this
/-- the language of a table -/
def langOf (R : List (List Nat)) (A : List Bool) (w : List Nat) : Bool := accOf A (Mc.gRun (tg R) 0 w)
section
variable {P : Program} {w : World} {K : PySem.W.Frag} {mg : Str → Option Value} {base : Heap}
def spParts : Sp := fun vs H Q _ => ∃ (v : V) (aq : Addr) (wd : Nat) (R : List (List Nat)) (A : List Bool), vs = [v, .ref aq] ∧ RowsAt H v R ∧ RowsOk wd R ∧ 0 < wd ∧ wd ≤ 1000 ∧ SqA [] H aq (A.map bV) ∧ A.length = R.length ∧ R.length < 40 ∧
  ∀ t lq bq xs L LA H', But [] H H' → H' t = some (.tup [.ref lq, .ref bq]) → H' lq = some (.lst xs) → DDs [] [] H' xs (L.map rowT) → H' bq = some (.lst (LA.map bV)) → L.length ≤ R.length → Least wd L LA (langOf R A) → Q (.ref t) H'
theorem scLp : FnScope ["rows", "accepts", "numbers", "least_rows", "least_accepts", "state", "number", "goal"] ["rows", "accepts"] (defScope (top 35)) := ⟨rfl, rfl, rfl, by decide +kernel, rfl, by decide +kernel, by decide +kernel⟩
theorem d_parts (B : Blt mg base) (D : At K mg "least_parts" (top 35)) (D1 : Def P w K mg base 2 "class_numbers" (top 34) ["rows", "accepts"] spClasses) :
    Def P w K mg base 3 "least_parts" (top 35) ["rows", "accepts"] spParts := by
  refine def_of D B scLp (fun vs H Q E ⟨_, _, _, _, _, e, _⟩ => by rw [e]; rfl) fun f cdv A0 outer s H vs Q E hm C h => ?_
  obtain ⟨v, aq, wd, R, A, rfl, hv, ok, hwd, hw1, ha, hAl, hfew, hQ⟩ := h
  have sz : ∀ n, n ≤ 16777216 → n ≤ sizeLine := fun n h => by rw [sizeLine_eq]; exact h
  obtain ⟨ra, rxs, rfl, hrsq, hrl, hrx⟩ := hv.sq
  refine b_cons (s_set (i := 2) (e_call C D1 (a_cons (e_name 0 (v := .ref ra) (a_cons (e_name 1 (v := .ref aq) (a_nil ?_))))) rfl (fun _ _ _ _ _ _ us hl => match us, hl with | [_, _], _ => rfl)) C.nd)
  refine ⟨.ref ra, aq, wd, R, A, rfl, hv, ok, hwd, hw1, ha, hAl, hfew, fun nq fl ts cs H1 b1 hnn hnq bf csl fo iff => ?_⟩
  have hfl : fl.length ≤ R.length := nodup_len bf.nd bf.inn
  have hin := bf.in_ (f := accOf A)
  have hsc := bf.scan (f := accOf A)
  have hlang := fun w hw => bf.lang (f := accOf A) (w := w) hw
  have mf : ∀ k s, fl[k]? = some s → (Mc.Bfs.mach fl ts (accOf A)).f k = accOf A s := fun k s h => by
    show accOf A (fl.getD k 0) = _
    rw [List.getD_eq_getElem?_getD, h]
    rfl
  generalize em : Mc.Bfs.mach fl ts (accOf A) = m at hin hsc hlang iff mf
  have emn : m.n = fl.length := by rw [← em]; rfl
  have goes : ∀ k, k < fl.length → ∀ a, a < wd → fl[m.step wd k a]? = some (tg R (fl.getD k 0) a) := fun k hk a hwa => by
    have h1 := bf.step (f := accOf A) hk hwa
    have h2 := hin.step (wd := wd) (s := k) (a := a) (by rw [emn]; exact hk) hwa
    rw [em] at h1
    rw [emn] at h2
    rw [← h1, List.getD_eq_getElem?_getD, List.getElem?_eq_getElem h2]
    rfl
  have csat : ∀ k, k < fl.length → cs[k]? = some (Mc.clOf cs k) := fun k hk => by
    have hk2 : k < cs.length := by omega
    rw [List.getElem?_eq_getElem hk2]
    show some cs[k] = some (cs.getD k 0)
    rw [List.getD_eq_getElem?_getD, List.getElem?_eq_getElem hk2]
    rfl
  refine b_cons (s_set (i := 3) (e_lst (a_nil ⟨sz 0 (by decide), fun lq hlq => ?_⟩)) C.nd)
  have b2 : But [] H1 (upd H1 lq (.lst [])) := But.new hlq
  refine b_cons (s_set (i := 4) (e_lst (a_nil ⟨sz 0 (by decide), fun bq hbq => ?_⟩)) C.nd)
  have nbl : bq ≠ lq := (ne_of_none (H := upd H1 lq (.lst [])) upd_same hbq).symm
  have b3 : But [] (upd H1 lq (.lst [])) (upd (upd H1 lq (.lst [])) bq (.lst [])) := But.new hbq
  have hl3 : upd (upd H1 lq (.lst [])) bq (.lst []) lq = some (.lst []) := by rw [upd_ne nbl.symm]; exact upd_same
  have hb3 : upd (upd H1 lq (.lst [])) bq (.lst []) bq = some (.lst []) := upd_same
  have b13 := b2.trans b3
  have hlH := b1.free hlq
  have hbH1 := b2.free hbq
  have hbH := b1.free hbH1
  generalize upd (upd H1 lq (.lst [])) bq (.lst []) = H3 at b3 hl3 hb3 b13 ⊢
  have hn3 := b13 _ _ (by simp) hnq
  have nnl : nq ≠ lq := ne_of_none hnq hlq
  have nnb : nq ≠ bq := ne_of_none hnq hbH1
  refine b_cons (s_lock hn3 trivial fun od => s_for C (i_items (e_name 2 (v := .ref nq) ⟨nq, od, _, rfl, upd_same, ?_⟩)))
  have kl := kvsN_len (fl := fl) (cs := cs) csl
  refine ⟨_, _, _, walk_items, fun i σ H' => (∃ v5 v6, σ = [some (.ref ra), some (.ref aq), some (.ref nq), some (.ref lq), some (.ref bq), v5, v6, none]) ∧ But [nq] H1 H' ∧ H' nq = some (.frz od (.dK (kvsN fl cs))) ∧ ∃ (L : List (List Nat)) (LA : List Bool) (xs : List V), H' lq = some (.lst xs) ∧ DDs [] [] H' xs (L.map rowT) ∧ H' bq = some (.lst (LA.map bV)) ∧
    L.length = Mc.cnt (Mc.clOf cs) i ∧ LA.length = L.length ∧ (∀ r ∈ L, r.length = wd) ∧ ∀ k, k < i → (∀ j, j < k → Mc.clOf cs j ≠ Mc.clOf cs k) → L[Mc.clOf cs k]? = some ((List.range wd).map fun a => Mc.clOf cs (m.step wd k a)) ∧ LA[Mc.clOf cs k]? = some (m.f k),
    ⟨⟨none, none, rfl⟩, fun q o na e => ?_, upd_same, [], [], [], by rw [upd_ne nnl.symm]; exact hl3, .nil, by rw [upd_ne nnb.symm]; exact hb3, rfl, rfl, by simp, fun k hk => by omega⟩, fun i σ H' _ h => h.2.2.1, ?_, ?_⟩
  · have : q ≠ nq := by simpa using na
    rw [upd_ne this]
    exact b13 _ _ (by simp) e
  · rintro i x σ H4 H5 hi ⟨⟨v5, v6, rfl⟩, b4, hn4, L, LA, xs, hl4, hdd, hb4, hLn, hLA, hLw, hinv⟩ ⟨t, x1, y1, rfl, ht, rfl, e1, e2⟩
    rw [kl] at hi
    obtain ⟨st, hst⟩ : ∃ st, fl[i]? = some st := ⟨_, List.getElem?_eq_getElem hi⟩
    have e1 : ((kvsN fl cs)[i]?).map (fun kv => kV kv.1) = some x1 := e1
    have e2 : ((kvsN fl cs)[i]?).map Prod.snd = some y1 := e2
    rw [kvsN_at hst (csat i hi)] at e1 e2
    cases e1
    cases e2
    refine g_tup (gs_cons (g_name (i := 5) (gs_cons (g_name (i := 6) (gs_nil ?_) C.nd)) C.nd)) rfl (.inl (.inl upd_same))
    have bt : But [] H4 (upd H4 t (.tup [kV (kN st), nV (Mc.clOf cs i)])) := But.new ht
    have hn5 := bt _ _ (by simp) hn4
    have hl5 := bt _ _ (by simp) hl4
    have hb5 := bt _ _ (by simp) hb4
    have hdd5 := hdd.but bt
    have b5 := b4.trans bt.of
    generalize upd H4 t (.tup [kV (kN st), nV (Mc.clOf cs i)]) = H5 at bt hn5 hl5 hb5 hdd5 b5 ⊢
    have hci := fo i hi
    have hcl : Mc.cnt (Mc.clOf cs) i ≤ i := Mc.cnt_le _ _
    have hxl : xs.length = L.length := by rw [hdd.length, List.length_map]
    refine b_cons (s_ifB (decide (Mc.clOf cs i = Mc.cnt (Mc.clOf cs) i)) ?_ (fun e H6 b6 => ?_) (fun e H6 b6 => b_nil (b_nil ?_)))
    · refine t_cmp (e_name 6 (v := nV (Mc.clOf cs i)) (e_len B (e_name 3 (v := .ref lq) ⟨xs.length, .inl ⟨xs, .inl (.inl hl5), rfl⟩, c_eq rfl ⟨_, rfl, ?_, But.refl⟩⟩)))
      rw [decide_eq_decide, V.int.injEq, hxl, hLn]
      omega
    · have ec : Mc.clOf cs i = Mc.cnt (Mc.clOf cs) i := of_decide_eq_true e
      have b16 := b5.trans b6.of
      have hn6 := b6 _ _ (by simp) hn5
      have hl6 := b6 _ _ (by simp) hl5
      have hb6 := b6 _ _ (by simp) hb5
      have hdd6 := hdd5.but b6
      obtain ⟨r, hr⟩ : ∃ r, R[st]? = some r := ⟨_, List.getElem?_eq_getElem (bf.inn st (List.mem_of_getElem? hst))⟩
      have hrw := ok.wide r (List.mem_of_getElem? hr)
      obtain ⟨y, hy, hny⟩ := hrx st r hr
      have fx : fl.getD i 0 = st := by rw [List.getD_eq_getElem?_getD, hst]; rfl
      -- what was there ahead of the call
      have old : ∀ {a : Addr} {xs : List V}, SqA [] H a xs → a ≠ nq := fun h z => (h.ne hnn) z
      have hrs6 : SqA [] H6 ra rxs := (hrsq.but b1 (by simp)).but b16 (by simpa using old hrsq)
      have ha6 : SqA [] H6 aq (A.map bV) := (ha.but b1 (by simp)).but b16 (by simpa using old ha)
      obtain ⟨rb, rfl, hrb⟩ := hny.sq
      have hrb6 : SqA [] H6 rb (r.map nV) := (hrb.but b1 (by simp)).but b16 (by simpa using old hrb)
      refine b_cons (s_expr (e_append (e_name 3 (v := .ref lq) ⟨lq, rfl, ⟨_, hl6⟩, e_tupleOf B (e_lcM [("goal", 7)] C (i_sq hrb6.all ?_ fun J G wk hG => ?_))⟩)))
      · exact fun Q q => e_ix (e_name 0 (v := .ref ra) (e_name 5 (v := nV st) (ix_sq hrs6.all (v := .ref rb) (atI_nat hy) q)))
      refine ⟨_, G, _, (List.range wd).map fun a => nV (Mc.clOf cs (m.step wd i a)), wk, by rw [List.length_map, List.length_map, List.length_range, hrw], sz _ (by rw [List.length_map, hrw]; omega), fun H' b => hG [] H' b (by simp), fun a g H' H7 hag b7 hg => ?_, fun Dm H7 b7 hDn hDl => ⟨Dm, _, rfl, .inl ⟨.inl (.inl hDl), fun tq htq => ?_⟩⟩⟩
      · obtain ⟨rfl, hg⟩ := hg
        rw [List.getElem?_map, Option.map_eq_some_iff] at hg
        obtain ⟨g, hg, rfl⟩ := hg
        rw [List.length_map, hrw] at hag
        have hgo := goes i hi a hag
        rw [fx, tg_at hr, List.getD_eq_getElem?_getD, hg] at hgo
        have hst2 : m.step wd i a < fl.length := (List.getElem?_eq_some_iff.mp hgo).1
        refine ⟨But.refl, mt_name (i := 7) C.nd fun s H0 Ca cl fp => e_dget (C.blk _ _ _ _ _) (e_name 2 (v := .ref nq) (e_name 7 (v := nV g) ⟨rfl, by rw [← kvsN_get bf.nd hgo (csat _ hst2)]; exact dget_frz (k := kN g) (b7 _ _ (by simp) hn6), ?_, But.refl⟩))⟩
        rw [List.getElem?_map, List.getElem?_range hag]
        rfl
      have bu : But [] H7 (upd H7 tq (.tup ((List.range wd).map fun a => nV (Mc.clOf cs (m.step wd i a))))) := But.new htq
      have b68 := b7.trans bu
      have htt : upd H7 tq (.tup ((List.range wd).map fun a => nV (Mc.clOf cs (m.step wd i a)))) tq = some (.tup ((List.range wd).map fun a => nV (Mc.clOf cs (m.step wd i a)))) := upd_same
      generalize upd H7 tq (.tup ((List.range wd).map fun a => nV (Mc.clOf cs (m.step wd i a)))) = H8 at bu b68 htt ⊢
      have hl8 := b68 _ _ (by simp) hl6
      have hb8 := b68 _ _ (by simp) hb6
      have hn8 := b68 _ _ (by simp) hn6
      have hdd8 := hdd6.but b68
      have hlA : accOf A st = m.f i := (mf i st hst).symm
      have hsA : st < A.length := by rw [hAl]; exact bf.inn st (List.mem_of_getElem? hst)
      have lE : ∀ q ∈ [lq], ∃ ys, H8 q = some (.lst ys) := fun q hq => by rw [List.mem_singleton.mp hq]; exact ⟨_, hl8⟩
      have bE : But [lq] H8 (upd H8 lq (.lst (xs ++ [.ref tq]))) := But.at (by simp)
      have hb9 : upd H8 lq (.lst (xs ++ [.ref tq])) bq = some (.lst (LA.map bV)) := by rw [upd_ne nbl]; exact hb8
      have ha8 : SqA [] (upd H8 lq (.lst (xs ++ [.ref tq]))) aq (A.map bV) := (ha6.but b68 (by simp)).but bE (by simpa using ha.ne hlH)
      refine ⟨xs, hl8, sz _ (by omega), ?_⟩
      refine b_cons (s_expr (e_append (e_name 4 (v := .ref bq) ⟨bq, rfl, ⟨_, hb9⟩, e_ix (e_name 1 (v := .ref aq) (e_name 5 (v := nV st) (ix_sq ha8.all (v := bV (accOf A st)) (atI_nat (acc_at hsA)) ⟨_, hb9, sz _ (by rw [List.length_map]; omega), b_nil (b_nil ?_)⟩)))⟩)))
      have bF : But [lq, bq] H8 (upd (upd H8 lq (.lst (xs ++ [.ref tq]))) bq (.lst (LA.map bV ++ [bV (accOf A st)]))) := fun q o na e => by
        have n1 : q ≠ lq := fun z => na (by rw [z]; simp)
        have n2 : q ≠ bq := fun z => na (by rw [z]; simp)
        rw [upd_ne n2, upd_ne n1]
        exact e
      have lF : ∀ q ∈ [lq, bq], ∃ ys, H8 q = some (.lst ys) := fun q hq => by
        rcases List.mem_cons.mp hq with hq | hq
        · rw [hq]; exact ⟨_, hl8⟩
        · rw [List.mem_singleton.mp hq]; exact ⟨_, hb8⟩
      have eL : L.length = Mc.clOf cs i := by rw [hLn, ec]
      refine ⟨⟨_, _, rfl⟩, fun q o na e => ?_, by rw [upd_ne nnb, upd_ne nnl]; exact hn8, L ++ [(List.range wd).map fun a => Mc.clOf cs (m.step wd i a)], LA ++ [m.f i], xs ++ [.ref tq], by rw [upd_ne nbl.symm, upd_same], ?_, by rw [upd_same, List.map_append, hlA]; rfl, ?_, by simp [hLA], fun r hr => ?_, fun k hk hfk => ?_⟩
      · rw [upd_ne (ne_of_none e hbH1), upd_ne (ne_of_none e hlq)]
        exact b68 _ _ (by simp) (b16 _ _ na e)
      · rw [List.map_append]
        refine DDs.append (dds_tups bF.ex lF hdd8) (.cons (dd_lists0 bF.ex lF (d := rowT ((List.range wd).map fun a => Mc.clOf cs (m.step wd i a))) (.tup (.inl (.inl htt)) (by simp) ?_) (rowT_tup _)) .nil)
        have := nats_dds (K := []) (l := []) (H := H8) (ns := (List.range wd).map fun a => Mc.clOf cs (m.step wd i a))
        rw [List.map_map] at this
        exact this
      · rw [List.length_append, hLn]
        show _ = if Mc.clOf cs i = Mc.cnt (Mc.clOf cs) i then _ else _
        rw [if_pos ec]
        rfl
      · rcases List.mem_append.mp hr with h | h
        · exact hLw r h
        · rw [List.mem_singleton.mp h, List.length_map, List.length_range]
      · by_cases ek : k = i
        · subst ek
          exact ⟨snoc_last eL, snoc_last (by rw [hLA, eL])⟩
        · obtain ⟨h1, h2⟩ := hinv k (by omega) hfk
          exact ⟨snoc_old h1, snoc_old h2⟩
    · have ec : Mc.clOf cs i ≠ Mc.cnt (Mc.clOf cs) i := of_decide_eq_false e
      refine ⟨⟨_, _, rfl⟩, b5.trans b6.of, b6 _ _ (by simp) hn5, L, LA, xs, b6 _ _ (by simp) hl5, hdd5.but b6, b6 _ _ (by simp) hb5, ?_, hLA, hLw, fun k hk hfk => ?_⟩
      · rw [hLn]
        show _ = if Mc.clOf cs i = Mc.cnt (Mc.clOf cs) i then _ else _
        rw [if_neg ec]
      · by_cases ek : k = i
        · subst ek
          obtain ⟨j, hj, ej⟩ := Mc.cnt_has (cl := Mc.clOf cs) (k := k) (y := Mc.clOf cs k) (by omega)
          exact absurd ej (hfk j hj)
        · exact hinv k (by omega) hfk
  · rintro σ H4 ⟨⟨v5, v6, rfl⟩, b4, hn4, L, LA, xs, hl4, hdd, hb4, hLn, hLA, hLw, hinv⟩
    rw [kl] at hLn hinv
    have bu : But [] H1 (upd H4 nq (.dK (kvsN fl cs))) := fun q o na e => by
      by_cases eq : q = nq
      · rw [eq, upd_same]
        rw [eq, hnq] at e
        exact e
      · rw [upd_ne eq]
        exact b4 _ _ (by simpa using eq) e
    have hl5 : upd H4 nq (.dK (kvsN fl cs)) lq = some (.lst xs) := by rw [upd_ne nnl.symm]; exact hl4
    have hb5 : upd H4 nq (.dK (kvsN fl cs)) bq = some (.lst (LA.map bV)) := by rw [upd_ne nnb.symm]; exact hb4
    have hdd5 : DDs [] [] (upd H4 nq (.dK (kvsN fl cs))) xs (L.map rowT) := dds_frz hn4 hdd
    refine ⟨hn4, b_cons (s_ret (e_tup (a_cons (e_name 3 (v := .ref lq) (a_cons (e_name 4 (v := .ref bq) (a_nil ⟨sz 2 (by decide), fun t ht => ?_⟩))))))) ⟩
    have bt : But [] (upd H4 nq (.dK (kvsN fl cs))) (upd (upd H4 nq (.dK (kvsN fl cs))) t (.tup [.ref lq, .ref bq])) := But.new ht
    have hLc : L.length ≤ fl.length := by rw [hLn]; exact Mc.cnt_le _ _
    have qt : Mc.Quot wd m (Mc.clOf cs) (mk wd L LA) := ⟨by rw [emn]; exact hLn, fun k hk hfk a ha => ?_, fun k hk hfk => ?_⟩
    · obtain ⟨hc, hl⟩ := qt.canon hin hsc (by rw [emn]; exact fo) (by rw [emn]; exact iff)
      exact hQ t lq bq xs L LA _ (b1.trans (bu.trans bt)) upd_same (bt _ _ (by simp) hl5) (hdd5.but bt) (bt _ _ (by simp) hb5) (by omega) ⟨hc, hLA, hLw, fun w hw => by rw [← hl w hw]; exact hlang w hw⟩
    · rw [emn] at hk
      obtain ⟨h1, h2⟩ := hinv k hk hfk
      show (L.getD ((Mc.clOf cs k * wd + a) / wd) []).getD ((Mc.clOf cs k * wd + a) % wd) 0 = _
      have d1 : (Mc.clOf cs k * wd + a) / wd = Mc.clOf cs k := by rw [Nat.mul_comm, Nat.mul_add_div (by omega), Nat.div_eq_of_lt ha, Nat.add_zero]
      have d2 : (Mc.clOf cs k * wd + a) % wd = a := by rw [Nat.mul_comm, Nat.mul_add_mod, Nat.mod_eq_of_lt ha]
      rw [d1, d2, List.getD_eq_getElem?_getD (l := L), h1]
      show ((List.range wd).map fun a => Mc.clOf cs (m.step wd k a)).getD a 0 = _
      rw [List.getD_eq_getElem?_getD, List.getElem?_map, List.getElem?_range ha]
      rfl
    · rw [emn] at hk
      obtain ⟨h1, h2⟩ := hinv k hk hfk
      show LA.getD (Mc.clOf cs k) false = _
      rw [List.getD_eq_getElem?_getD, h2]
      rfl
end
end K14

set_option Elab.async false
set_option linter.all false
set_option maxRecDepth 100000
set_option maxHeartbeats 4000000
namespace K14
open PySem PySem.Spec PyProof.Rows L2 Z
/-! ### machines -/
def endsA (n : Nat) (es : List Nat) : List Bool := (List.range n).map fun s => decide (s ∈ es)
def machF (g : Str) (rq bq : Addr) : List (Str × V) := [("own_signs", .str g), ("own_rows", .ref rq), ("own_accepts", .ref bq)]
structure IsMach (CM : Addr) (g : Str) (L : List (List Nat)) (LA : List Bool) (H : Hp) (p : Addr) : Prop where
  ex : ∃ dx rq bq, H p = some (.ins CM dx (machF g rq bq)) ∧ DD [] [] H (.ref rq) (.tuple (L.map rowT)) ∧ DD [] [] H (.ref bq) (.tuple (LA.map PyData.bool))
theorem accs_tup (LA : List Bool) : tupOnlyAll (LA.map PyData.bool) = true := tupOnlyAll_of fun d hd => by
  obtain ⟨b, _, rfl⟩ := List.mem_map.mp hd
  rfl
theorem IsMach.exL {CM : Addr} {g : Str} {L : List (List Nat)} {LA : List Bool} {l : List Addr} {H H' : Hp} {p : Addr} (h : IsMach CM g L LA H p) (b : Ex l H H') (hl : ∀ q ∈ l, ∃ ys, H q = some (.lst ys)) : IsMach CM g L LA H' p := by
  obtain ⟨dx, rq, bq, h1, h2, h3⟩ := h.ex
  refine ⟨dx, rq, bq, b _ _ (fun z => ?_) h1 (fun _ z => by cases z), dd_lists0 b hl h2 (by simpa [tupOnly] using rowsT_tup L), dd_lists0 b hl h3 (by simpa [tupOnly] using accs_tup LA)⟩
  obtain ⟨ys, e⟩ := hl p z
  rw [e] at h1
  cases h1
theorem IsMach.but {CM : Addr} {g : Str} {L : List (List Nat)} {LA : List Bool} {H H' : Hp} {p : Addr} (h : IsMach CM g L LA H p) (b : But [] H H') : IsMach CM g L LA H' p := h.exL b.ex (by simp)
theorem IsMach.ins {CM : Addr} {g : Str} {L : List (List Nat)} {LA : List Bool} {H : Hp} {p : Addr} (h : IsMach CM g L LA H p) : ∃ dx fs, H p = some (.ins CM dx fs) := let ⟨dx, _, _, h1, _⟩ := h.ex; ⟨dx, _, h1⟩
structure ClsM (K : PySem.W.Frag) (CM : Addr) : Prop where
  c : Cls K CM
  n1 : NoAttr K CM "own_signs"
  n2 : NoAttr K CM "own_rows"
  n3 : NoAttr K CM "own_accepts"
theorem bools_dds {l : List Addr} {H : Hp} : ∀ {bs : List Bool}, DDs [] l H (bs.map bV) (bs.map PyData.bool)
  | [] => .nil
  | _ :: _ => .cons (.bl _) bools_dds
theorem dds_bools {l : List Addr} {H : Hp} {K : PySem.W.Frag} : ∀ {vs : List V} {bs : List Bool}, DDs K l H vs (bs.map PyData.bool) → vs = bs.map bV
  | _, [], h => by cases h; rfl
  | _, _ :: bs, h => by
    cases h with
    | cons h1 h2 =>
      cases h1
      rw [dds_bools h2]
      rfl
/-! data that stays while an instance changes -/
theorem sqt_ins {H H' : Hp} {r C dx a : Addr} {fs : List (Str × V)} {xs : List V} (hr : H r = some (.ins C dx fs)) (b : But [r] H H') (h : SqT [] H a xs) : SqT [] H' a xs := b.sqt (fun z => by
  rw [List.mem_singleton.mp z] at h
  rcases h with (h | ⟨o, h⟩) | ⟨o, its, n, h, _⟩
  · rw [hr] at h; cases h
  · rw [hr] at h; cases h
  · cases h) h
mutual
theorem dd_ins0 {H H' : Hp} {r C dx : Addr} {fs : List (Str × V)} (hr : H r = some (.ins C dx fs)) (b : But [r] H H') : ∀ {v : V} {d : PyData}, DD [] [] H v d → tupOnly d = true → DD [] [] H' v d
  | _, _, .non, _ => .non
  | _, _, .bl b, _ => .bl b
  | _, _, .int i, _ => .int i
  | _, _, .str x, _ => .str x
  | _, _, .lst _ _ _, h => by simp [tupOnly] at h
  | _, _, .tup h1 n h2, h => .tup (sqt_ins hr b h1) n (dds_ins0 hr b h2 (by simpa [tupOnly] using h))
  | _, _, .dct _ _ _, h => by simp [tupOnly] at h
theorem dds_ins0 {H H' : Hp} {r C dx : Addr} {fs : List (Str × V)} (hr : H r = some (.ins C dx fs)) (b : But [r] H H') : ∀ {vs : List V} {ds : List PyData}, DDs [] [] H vs ds → tupOnlyAll ds = true → DDs [] [] H' vs ds
  | _, _, .nil, _ => .nil
  | _, _, .cons h t, e => by
    simp only [tupOnlyAll, Bool.and_eq_true] at e
    exact .cons (dd_ins0 hr b h e.1) (dds_ins0 hr b t e.2)
end
theorem dds_ins {H H' : Hp} {r C dx : Addr} {fs : List (Str × V)} {vs : List V} {L : List (List Nat)} (hr : H r = some (.ins C dx fs)) (b : But [r] H H') (h : DDs [] [] H vs (L.map rowT)) : DDs [] [] H' vs (L.map rowT) := dds_ins0 hr b h (rowsT_tup L)
section
variable {P : Program} {w : World} {K : PySem.W.Frag} {mg : Str → Option Value} {base : Heap} {CM : Addr}
def mPs : List Str := ["self", "signs", "rows", "ends", "limit"]
def spInitM (CM : Addr) : Sp := fun vs H Q _ => ∃ (r dx : Addr) (g : Str) (v ev lim : V) (R : List (List Nat)) (es : List Nat), vs = [.ref r, .str g, v, ev, lim] ∧ strSigns g = true ∧ H r = some (.ins CM dx []) ∧ RowsAt H v R ∧ RowsOk g.length R ∧ R.length < 40 ∧ NatsAt H ev es ∧ es.Nodup ∧ (∀ x ∈ es, x < R.length) ∧
  (lim = .non ∨ ∃ l : Nat, lim = nV l ∧ R.length ≤ l) ∧ ∀ L LA H', But [r] H H' → IsMach CM g L LA H' r → L.length ≤ R.length → Least g.length L LA (langOf R (endsA R.length es)) → Q .non H'
theorem scIn : FnScope ["self", "signs", "rows", "ends", "limit", "least_rows", "least_accepts"] mPs (defScope (clsAt (top 51) 1)) := ⟨rfl, rfl, rfl, by decide +kernel, rfl, by decide +kernel, by decide +kernel⟩
theorem d_initM {CM f : Addr} {oc dV kV doc pm cdv ct : Value} {od an : Option Addr} {osl : Array (Option Value)} (B : Blt mg base) (CL : ClsM K CM)
    (lk : K.lookup f = some ⟨oc, od, .func (PySem.W.fnOf "__init__" "Machine.__init__" (defArgs (clsAt (top 51) 1)) (defBody (clsAt (top 51) 1)) (defScope (clsAt (top 51) 1)) dV kV doc pm an cdv ct), osl⟩) (hcd : PySem.W.codeIn K cdv "Machine.__init__" = true)
    (D1 : Def P w K mg base 2 "want_signs" (top 19) ["value"] (spFine K areSigns)) (D2 : Def P w K mg base 5 "want_rows" (top 27) ["signs", "rows"] spRows) (D3 : Def P w K mg base 4 "want_ends" (top 28) ["ends", "many"] spEnds)
    (D4 : Def P w K mg base 1 "marked" (top 36) ["many", "ends"] spMarked) (D5 : Def P w K mg base 3 "least_parts" (top 35) ["rows", "accepts"] spParts) :
    FnOk P w K mg base (L2.CX P w) 6 f (PySem.W.fnOf "__init__" "Machine.__init__" (defArgs (clsAt (top 51) 1)) (defBody (clsAt (top 51) 1)) (defScope (clsAt (top 51) 1)) dV kV doc pm an cdv ct) mPs (spInitM CM) := by
  refine fnok_body B lk hcd scIn (fun vs H Q E ⟨_, _, _, _, _, _, _, _, e, _⟩ => by rw [e]; rfl) fun A0 outer s H vs Q E C h => ?_
  obtain ⟨r, dx, g, v, ev, lim, R, es, rfl, hg, hr, hv, ok, hfew, he, nd, hes, hlim, hQ⟩ := h
  have sz : ∀ n, n ≤ 16777216 → n ≤ sizeLine := fun n h => by rw [sizeLine_eq]; exact h
  have gl : g.length ≤ 4 ∧ 2 ≤ g.length := by simp only [strSigns, Bool.and_eq_true, decide_eq_true_eq] at hg; exact ⟨hg.1.1.2, hg.1.1.1⟩
  have hel : es.length ≤ R.length := nodup_len nd hes
  refine b_cons (s_expr (e_call (C.mono (by decide)) D1 (a_cons (e_name 1 (v := .str g) (a_nil ?_))) rfl (fun _ _ _ _ _ _ us hl => match us, hl with | [_], _ => rfl)))
  refine ⟨_, [], .str g, rfl, .str g, sz _ (by omega), hg, fun H1 b1 => ?_⟩
  refine b_cons (s_expr (e_call C D2 (a_cons (e_name 1 (v := .str g) (a_cons (e_name 2 (v := v) (a_nil ?_))))) rfl (fun _ _ _ _ _ _ us hl => match us, hl with | [_, _], _ => rfl)))
  refine ⟨g, v, R, rfl, hv.but b1, ok, by omega, fun H2 b2 => ?_⟩
  have b02 := b1.trans b2
  obtain ⟨ra, rxs, rfl, hrsq, hrl, hrx⟩ := hv.sq
  have lenR : ∀ {H'}, But [] H H' → LenV K (.ref ra) H' R.length := fun b => by rw [← hrl]; exact (hrsq.but b (by simp)).all.len
  refine b_cons (s_expr (e_call (C.mono (by decide)) D3 (a_cons (e_name 3 (v := ev) (a_cons (e_len B (e_name 2 (v := .ref ra) ⟨R.length, lenR b02, a_nil ?_⟩))))) rfl (fun _ _ _ _ _ _ us hl => match us, hl with | [_, _], _ => rfl)))
  refine ⟨ev, es, R.length, rfl, he.but b02, nd, hes, by omega, fun H3 b3 => ?_⟩
  have b03 := b02.trans b3
  refine b_cons (s_ifB false ?_ (fun e => by cases e) (fun _ H4 b4 => b_nil ?_))
  · rcases hlim with rfl | ⟨l, rfl, hl⟩
    · refine t_boolop (w_and (t_cmp (e_name 4 (v := .non) (e_none (c_notN ⟨false, rfl, ite_b (fun e => by cases e) fun _ => ⟨rfl, But.refl⟩⟩)))))
    · refine t_boolop (w_and (t_cmp (e_name 4 (v := nV l) (e_none (c_notN ⟨true, rfl, ite_b (fun _ => ?_) fun e => by cases e⟩)))))
      refine w_and1 (t_cmp (e_len B (e_name 2 (v := .ref ra) ⟨R.length, lenR b03, e_name 4 (v := nV l) (c_gt ⟨false, ?_, rfl, But.refl⟩)⟩)))
      congr 1
      rw [decide_eq_false_iff_not]
      omega
  have b04 := b03.trans b4
  refine b_cons (s_asg (e_call (C.mono (by decide)) D5 (a_cons (e_name 2 (v := .ref ra) (a_cons ?_))) rfl (fun _ _ _ _ _ _ us hl => match us, hl with | [_, _], _ => rfl)))
  refine e_call (C.mono (by decide)) D4 (a_cons (e_len B (e_name 2 (v := .ref ra) ⟨R.length, lenR b04, a_cons (e_name 3 (v := ev) (a_nil ?_))⟩))) rfl (fun _ _ _ _ _ _ us hl => match us, hl with | [_, _], _ => rfl)
  refine ⟨ev, es, R.length, rfl, he.but b04, by omega, by omega, fun aq H5 b5 han haq => a_nil ?_⟩
  have b05 := b04.trans b5
  have eA : ((List.range R.length).map fun s => V.bl (decide (s ∈ es))) = (endsA R.length es).map bV := by unfold endsA; rw [List.map_map]; rfl
  rw [eA] at haq
  refine ⟨.ref ra, aq, g.length, R, endsA R.length es, rfl, hv.but b05, ok, by omega, by omega, .inl (.inl (.inl haq)), by unfold endsA; rw [List.length_map, List.length_range], hfew, fun t lq bq xs L LA H6 b6 ht hlq hdd hbq hLn hL => ?_⟩
  have b06 := b05.trans b6
  refine g_tup (gs_cons (g_name (i := 5) (gs_cons (g_name (i := 6) (gs_nil ?_) C.nd)) C.nd)) rfl (.inl (.inl ht))
  have hr6 := b06 _ _ (by simp) hr
  refine b_cons (s_fld (e_name 1 (v := .str g) (e_name 0 (v := .ref r) ⟨dx, [], rfl, hr6, by simp, ?_⟩)) CL.c CL.n1)
  have b7 : But [r] H6 (upd H6 r (.ins CM dx (putF "own_signs" (.str g) []))) := But.at (by simp)
  have hr7 : upd H6 r (.ins CM dx (putF "own_signs" (.str g) [])) r = some (.ins CM dx [("own_signs", .str g)]) := upd_same
  have nr : ∀ {q : Addr} {ys : List V}, H6 q = some (.lst ys) → q ∉ [r] := fun h z => by
    rw [List.mem_singleton.mp z, hr6] at h
    cases h
  have nrt : ∀ {q : Addr} {ys : List V}, H6 q = some (.tup ys) → q ∉ [r] := fun h z => by
    rw [List.mem_singleton.mp z, hr6] at h
    cases h
  have hl7 := b7 _ _ (nr hlq) hlq
  have hb7 := b7 _ _ (nr hbq) hbq
  have hdd7 := dds_ins hr6 b7 hdd
  generalize upd H6 r (.ins CM dx (putF "own_signs" (.str g) [])) = H7 at b7 hr7 hl7 hb7 hdd7 ⊢
  refine b_cons (s_fld (e_tupleOf B (e_name 5 (v := .ref lq) ⟨lq, xs, rfl, .inl ⟨.inl (.inl hl7), fun rq hrq => e_name 0 (v := .ref r) ⟨dx, [("own_signs", .str g)], rfl, ?_, by simp, ?_⟩⟩⟩)) CL.c CL.n2)
  · rw [upd_ne (ne_of_none hr7 hrq)]
    exact hr7
  have b8 : But [] H7 (upd H7 rq (.tup xs)) := But.new hrq
  have hrq8 : upd H7 rq (.tup xs) rq = some (.tup xs) := upd_same
  have hr8 := b8 _ _ (by simp) hr7
  have hb8 := b8 _ _ (by simp) hb7
  have hdd8 := hdd7.but b8
  have nrq : rq ≠ r := (ne_of_none hr7 hrq).symm
  generalize upd H7 rq (.tup xs) = H8 at b8 hrq8 hr8 hb8 hdd8 ⊢
  have b9 : But [r] H8 (upd H8 r (.ins CM dx (putF "own_rows" (.ref rq) [("own_signs", .str g)]))) := But.at (by simp)
  have hr9 : upd H8 r (.ins CM dx (putF "own_rows" (.ref rq) [("own_signs", .str g)])) r = some (.ins CM dx [("own_signs", .str g), ("own_rows", .ref rq)]) := upd_same
  have hdd9 := dds_ins hr8 b9 hdd8
  have hrq9 := b9 _ _ (by simpa using nrq) hrq8
  have nbr : bq ≠ r := fun z => by rw [z, hr8] at hb8; cases hb8
  have hb9 := b9 _ _ (by simpa using nbr) hb8
  generalize upd H8 r (.ins CM dx (putF "own_rows" (.ref rq) [("own_signs", .str g)])) = H9 at b9 hr9 hdd9 hrq9 hb9 ⊢
  refine b_cons (s_fld (e_tupleOf B (e_name 6 (v := .ref bq) ⟨bq, LA.map bV, rfl, .inl ⟨.inl (.inl hb9), fun cq hcq => e_name 0 (v := .ref r) ⟨dx, [("own_signs", .str g), ("own_rows", .ref rq)], rfl, ?_, by simp, ?_⟩⟩⟩)) CL.c CL.n3)
  · rw [upd_ne (ne_of_none hr9 hcq)]
    exact hr9
  have bA : But [] H9 (upd H9 cq (.tup (LA.map bV))) := But.new hcq
  have hcA : upd H9 cq (.tup (LA.map bV)) cq = some (.tup (LA.map bV)) := upd_same
  have ncr : cq ≠ r := (ne_of_none hr9 hcq).symm
  have hrA := bA _ _ (by simp) hr9
  have hrqA := bA _ _ (by simp) hrq9
  have hddA := hdd9.but bA
  generalize upd H9 cq (.tup (LA.map bV)) = HA at bA hcA hrA hrqA hddA ⊢
  have bB : But [r] HA (upd HA r (.ins CM dx (putF "own_accepts" (.ref cq) [("own_signs", .str g), ("own_rows", .ref rq)]))) := But.at (by simp)
  have hddB := dds_ins hrA bB hddA
  refine b_nil (hQ L LA _ (b06.of.trans (b7.trans (b8.of.trans (b9.trans (bA.of.trans bB))))) ⟨dx, rq, cq, upd_same, .tup (.inl (.inl (bB _ _ (by simpa using nrq) hrqA))) (by simp) hddB, .tup (.inl (.inl (bB _ _ (by simpa using ncr) hcA))) (by simp) bools_dds⟩ hLn hL)
end
end K14

set_option Elab.async false
set_option linter.all false
set_option maxRecDepth 100000
set_option maxHeartbeats 4000000
namespace K14
open PySem PySem.Spec PyProof.Rows L2 Z
/-! ### plain: what is told of a machine -/
def endsOf (A : List Bool) : List Nat := (List.range A.length).filter (accOf A)
structure OkM (g : Str) (L : List (List Nat)) (LA : List Bool) : Prop where
  sg : strSigns g = true
  few : L.length ≤ 40
  len : LA.length = L.length
  wide : ∀ r ∈ L, r.length = g.length
  inn : ∀ r ∈ L, ∀ x ∈ r, x < L.length
theorem Least.okM {g : Str} {L : List (List Nat)} {LA : List Bool} {lang : List Nat → Bool} (h : Least g.length L LA lang) (hg : strSigns g = true) (hf : L.length ≤ 40) : OkM g L LA := ⟨hg, hf, h.len, h.wide, fun r hr x hx => by
  obtain ⟨i, hi⟩ := List.mem_iff_getElem?.mp hr
  obtain ⟨a, ha⟩ := List.mem_iff_getElem?.mp hx
  have hil := (List.getElem?_eq_some_iff.mp hi).1
  have haw : a < g.length := by rw [← h.wide r hr]; exact (List.getElem?_eq_some_iff.mp ha).1
  have := h.canon.inn.2 (i * g.length + a) (Mc.code_lt hil haw)
  have d1 : (i * g.length + a) / g.length = i := by rw [Nat.mul_comm, Nat.mul_add_div (by omega), Nat.div_eq_of_lt haw, Nat.add_zero]
  have d2 : (i * g.length + a) % g.length = a := by rw [Nat.mul_comm, Nat.mul_add_mod, Nat.mod_eq_of_lt haw]
  have this : (L.getD ((i * g.length + a) / g.length) []).getD ((i * g.length + a) % g.length) 0 < L.length := this
  rw [d1, d2, List.getD_eq_getElem?_getD (l := L), hi] at this
  have this : r.getD a 0 < L.length := this
  rw [List.getD_eq_getElem?_getD, ha] at this
  exact this⟩
theorem strSigns_ascii {g : Str} (h : strSigns g = true) : ∀ c ∈ g.cps.toList, c < 128 := by
  simp only [strSigns, Bool.and_eq_true, List.all_eq_true, decide_eq_true_eq] at h
  exact fun c hc => known_ascii c (h.1.2 c hc)
theorem strSigns_len {g : Str} (h : strSigns g = true) : g.length ≤ 4 ∧ 2 ≤ g.length := by
  simp only [strSigns, Bool.and_eq_true, decide_eq_true_eq] at h
  exact ⟨h.1.1.2, h.1.1.1⟩
theorem nats_shw {n : Nat} {ns : List Nat} (M : Nat) (h : ∀ x ∈ ns, x < 1000) (hl : ns.length ≤ M) : ShwZ 1 (M * 11) (.list (ns.map nD)) := ShwZ.list (n := 0) (w := 10) M (fun d hd => by
  obtain ⟨x, hx, rfl⟩ := List.mem_map.mp hd
  exact ShwZ.nat (h x hx) (Nat.le_refl _)) (by rw [List.length_map]; exact hl)
theorem rows_shw {g : Str} {L : List (List Nat)} {LA : List Bool} (ok : OkM g L LA) : ShwZ 2 (40 * 45) (.list (L.map rowT)) := ShwZ.list (n := 1) (w := 44) 40 (fun d hd => by
  obtain ⟨r, hr, rfl⟩ := List.mem_map.mp hd
  have hw := ok.wide r hr
  have hg := strSigns_len ok.sg
  exact ShwZ.tuple (n := 0) (w := 10) 4 (fun d hd => by
    obtain ⟨x, hx, rfl⟩ := List.mem_map.mp hd
    have := ok.inn r hr x hx
    have := ok.few
    exact ShwZ.nat (by omega) (Nat.le_refl _)) (by rw [List.length_map]; omega)) (by rw [List.length_map]; exact ok.few)
theorem ends_lt {A : List Bool} : ∀ x ∈ endsOf A, x < A.length := fun x hx => List.mem_range.mp (List.mem_filter.mp hx).1
theorem ends_len (A : List Bool) : (endsOf A).length ≤ A.length := by
  have := List.length_filter_le (accOf A) (List.range A.length)
  rw [List.length_range] at this
  exact this
theorem ends_shw {g : Str} {L : List (List Nat)} {LA : List Bool} (ok : OkM g L LA) : ShwZ 1 (40 * 11) (.list ((endsOf LA).map nD)) := nats_shw (n := 0) 40 (fun x hx => by have := ends_lt x hx; have := ok.len; have := ok.few; omega) (by have := ends_len LA; have := ok.len; have := ok.few; omega)
def shownM (g : Str) (L : List (List Nat)) (LA : List Bool) : Str := ((((((Str.empty ++ ("Machine(" : Str)) ++ (PyData.str g).shown) ++ (", " : Str)) ++ (PyData.list (L.map rowT)).shown) ++ (", " : Str)) ++ (PyData.list ((endsOf LA).map nD)).shown) ++ (")" : Str)
theorem app_len {x y : Str} : (x ++ y).length = x.length + y.length := by
  have e : (x ++ y : Str).cps.toList = x.cps.toList ++ y.cps.toList := TL.tl_append x y
  have := congrArg List.length e
  rw [Array.length_toList, List.length_append, Array.length_toList, Array.length_toList] at this
  exact this
theorem nats_eqv : ∀ {a b : List Nat}, PyData.eqvAll (a.map nD) (b.map nD) = decide (a = b)
  | [], [] => rfl
  | [], _ :: _ => rfl
  | _ :: _, [] => rfl
  | x :: a, y :: b => by
    show (PyData.eqv (nD x) (nD y) && PyData.eqvAll (a.map nD) (b.map nD)) = _
    rw [nats_eqv, Bool.eq_iff_iff]
    simp only [PyData.eqv, Bool.and_eq_true, decide_eq_true_eq, beq_iff_eq, List.cons.injEq]
    exact ⟨fun h => ⟨by omega, h.2⟩, fun h => ⟨by omega, h.2⟩⟩
theorem rows_eqv : ∀ {a b : List (List Nat)}, PyData.eqvAll (a.map rowT) (b.map rowT) = decide (a = b)
  | [], [] => rfl
  | [], _ :: _ => rfl
  | _ :: _, [] => rfl
  | x :: a, y :: b => by
    show (PyData.eqvAll (x.map nD) (y.map nD) && PyData.eqvAll (a.map rowT) (b.map rowT)) = _
    rw [nats_eqv, rows_eqv, Bool.eq_iff_iff]
    simp
theorem bools_eqv : ∀ {a b : List Bool}, PyData.eqvAll (a.map PyData.bool) (b.map PyData.bool) = decide (a = b)
  | [], [] => rfl
  | [], _ :: _ => rfl
  | _ :: _, [] => rfl
  | x :: a, y :: b => by
    show (PyData.eqv (.bool x) (.bool y) && PyData.eqvAll (a.map PyData.bool) (b.map PyData.bool)) = _
    rw [bools_eqv, Bool.eq_iff_iff]
    simp [PyData.eqv]
theorem rows_cmp {L : List (List Nat)} : CmpZ 2 (.tuple (L.map rowT)) := CmpZ.tuple fun d hd => by
  obtain ⟨r, _, rfl⟩ := List.mem_map.mp hd
  exact CmpZ.tuple fun d hd => by
    obtain ⟨x, _, rfl⟩ := List.mem_map.mp hd
    exact CmpZ.int
theorem accs_cmp {A : List Bool} : CmpZ 1 (.tuple (A.map PyData.bool)) := CmpZ.tuple fun d hd => by
  obtain ⟨r, _, rfl⟩ := List.mem_map.mp hd
  exact CmpZ.bool
structure MethAt (K : PySem.W.Frag) (CR : Addr) (m q : Str) (st : Stmt) : Prop where
  ex : ∃ (f : Addr) (oc doc pm cdv ct : Value) (od an : Option Addr) (osl : Array (Option Value)), Meth K CR m f ∧ K.lookup f = some ⟨oc, od, .func (PySem.W.fnOf m q (defArgs st) (defBody st) (defScope st) .none .none doc pm an cdv ct), osl⟩ ∧ PySem.W.codeIn K cdv q = true
structure PropAt (K : PySem.W.Frag) (CR : Addr) (m q : Str) (st : Stmt) : Prop where
  ex : ∃ (pr f : Addr) (oc doc pm cdv ct : Value) (od an : Option Addr) (osl : Array (Option Value)), PropOf K CR m pr f ∧ K.lookup f = some ⟨oc, od, .func (PySem.W.fnOf m q (defArgs st) (defBody st) (defScope st) .none .none doc pm an cdv ct), osl⟩ ∧ PySem.W.codeIn K cdv q = true
theorem bind1 {K : PySem.W.Frag} {fd : FuncData} (h : ∀ us : List Value, us.length = (["self"] : List Str).length → bindArgs fd ⟨us, []⟩ = pure ((["self"] : List Str).zip us)) : Binds K fd ["self"] [] := Binds.all h
theorem tup_parts {l : List Addr} {H : Hp} {tq : Addr} {ds : List PyData} (h : DD [] l H (.ref tq) (.tuple ds)) : ∃ xs, SqT [] H tq xs ∧ DDs [] l H xs ds := by
  cases h with
  | tup h1 n h2 => exact ⟨_, h1, h2⟩
section
variable {P : Program} {w : World} {K : PySem.W.Frag} {mg : Str → Option Value} {base : Heap} {CM : Addr}
/-! ### ends_of -/
def spEndsOf : Sp := fun vs H Q _ => ∃ (aq : Addr) (A : List Bool), vs = [.ref aq] ∧ SqA [] H aq (A.map bV) ∧ A.length ≤ 1000 ∧ ∀ q H', But [] H H' → H q = none → H' q = some (.lst ((endsOf A).map nV)) → Q (.ref q) H'
theorem scEo : FnScope ["accepts", "state", "is_end"] ["accepts"] (defScope (top 37)) := ⟨rfl, rfl, rfl, by decide +kernel, rfl, by decide +kernel, by decide +kernel⟩
theorem d_endsOf (B : Blt mg base) (D : At K mg "ends_of" (top 37)) : Def P w K mg base 1 "ends_of" (top 37) ["accepts"] spEndsOf := by
  refine def_of D B scEo (fun vs H Q E ⟨_, _, e, _⟩ => by rw [e]; rfl) fun f cdv A0 outer s H vs Q E hm C h => ?_
  obtain ⟨aq, A, rfl, ha, hl, hQ⟩ := h
  refine b_cons (s_ret (e_lc [("state", 1), ("is_end", 2)] C (i_enumSq B ha.all (fun Q q => e_name 0 (v := .ref aq) q) fun J G wk hG => ?_)))
  refine ⟨_, G, _, wk, fun Dl hDl => ⟨fun i H' => But [] H H' ∧ H' Dl = some (.lst (((List.range i).filter (accOf A)).map nV)), ⟨But.new hDl, upd_same⟩, fun i H' _ h => hG [] H' h.1 (by simp), ?_, fun H' ⟨b, h⟩ => hQ Dl H' b hDl (by rw [List.length_map] at h; exact h)⟩⟩
  rintro i x H2 H3 hi ⟨b2, hD2⟩ ⟨t, x1, y1, rfl, ht, rfl, e1, e2⟩
  cases e1
  have e2 : (A.map bV)[i]? = some y1 := e2
  rw [List.length_map] at hi
  rw [acc_at hi] at e2
  cases e2
  intro s H0 Ca cl fp
  refine g_tup (gs_cons (g_name (i := 1) (gs_cons (g_name (i := 2) (gs_nil ⟨rfl, ?_⟩) C.nd)) C.nd)) rfl (.inl (.inl upd_same))
  have bt : But [] H2 (upd H2 t (.tup [nV i, bV (accOf A i)])) := But.new ht
  have hD3 := bt _ _ (by simp) hD2
  have b3 := b2.trans bt
  refine fun s H0 Ca cl fp => eIf (pts_one pT) (t_val (e_name 2 (v := bV (accOf A i)) ⟨_, rfl, ?_⟩))
  have hfl : ((List.range i).filter (accOf A)).length ≤ i := by
    have := List.length_filter_le (accOf A) (List.range i)
    rw [List.length_range] at this
    exact this
  split
  · rename_i e
    refine fun s H0 Ca cl fp => e_name 1 (v := nV i) ⟨_, hD3, by rw [List.length_map, sizeLine_eq]; omega, fun q o na e2 => ?_, ?_⟩
    · rw [upd_ne (ne_of_none e2 hDl)]
      exact b3 _ _ na e2
    · rw [upd_same, List.range_succ, List.filter_append, List.filter_cons, if_pos e, List.map_append]
      rfl
  · rename_i e
    refine ⟨b3, ?_⟩
    rw [hD3, List.range_succ, List.filter_append, List.filter_cons, if_neg e, List.filter_nil, List.append_nil]
/-! ### what a machine tells -/
def spSignsM (CM : Addr) : Sp := fun vs H Q _ => ∃ p g L LA, vs = [.ref p] ∧ IsMach CM g L LA H p ∧ Q (.str g) H
theorem scG1 : FnScope ["self"] ["self"] (defScope (clsAt (top 51) 9)) := ⟨rfl, rfl, rfl, by decide +kernel, rfl, by decide +kernel, by decide +kernel⟩
theorem d_signsM (B : Blt mg base) (CL : ClsM K CM) (D : PropAt K CM "signs" "Machine.signs" (clsAt (top 51) 9)) : PropOk P w K mg base 1 CM "signs" (spSignsM CM) := by
  obtain ⟨pr, f, oc, doc, pm, cdv, ct, od, an, osl, hp, lk, hcd⟩ := D.ex
  refine ⟨pr, f, _, hp, fnok_body B lk hcd scG1 (fun vs H Q E ⟨_, _, _, _, e, _⟩ => by rw [e]; rfl) fun A outer s H vs Q E C h => ?_, bind1 fun us hl => match us, hl with | [_], _ => rfl⟩
  obtain ⟨p, g, L, LA, rfl, hR, q⟩ := h
  obtain ⟨dx, rq, bq, h1, h2, h3⟩ := hR.ex
  exact b_cons (s_ret (e_fld (v := .str g) (e_name 0 (v := .ref p) ⟨rfl, h1, q⟩) CL.c CL.n1 rfl))
def spStatesM (CM : Addr) : Sp := fun vs H Q _ => ∃ p g L LA, vs = [.ref p] ∧ IsMach CM g L LA H p ∧ Q (nV L.length) H
theorem scG2 : FnScope ["self"] ["self"] (defScope (clsAt (top 51) 10)) := ⟨rfl, rfl, rfl, by decide +kernel, rfl, by decide +kernel, by decide +kernel⟩
theorem d_statesM (B : Blt mg base) (CL : ClsM K CM) (D : PropAt K CM "states" "Machine.states" (clsAt (top 51) 10)) : PropOk P w K mg base 1 CM "states" (spStatesM CM) := by
  obtain ⟨pr, f, oc, doc, pm, cdv, ct, od, an, osl, hp, lk, hcd⟩ := D.ex
  refine ⟨pr, f, _, hp, fnok_body B lk hcd scG2 (fun vs H Q E ⟨_, _, _, _, e, _⟩ => by rw [e]; rfl) fun A outer s H vs Q E C h => ?_, bind1 fun us hl => match us, hl with | [_], _ => rfl⟩
  obtain ⟨p, g, L, LA, rfl, hR, q⟩ := h
  obtain ⟨dx, rq, bq, h1, h2, h3⟩ := hR.ex
  obtain ⟨xs, h4, h5⟩ := tup_parts h2
  refine b_cons (s_ret (e_len B (e_fld (v := .ref rq) (e_name 0 (v := .ref p) ⟨rfl, h1, L.length, .inr ⟨xs, sqt_all h4, ?_⟩, q⟩) CL.c CL.n2 rfl)))
  rw [h5.length, List.length_map]
def spRowsM (CM : Addr) : Sp := fun vs H Q _ => ∃ p g L LA, vs = [.ref p] ∧ IsMach CM g L LA H p ∧ ∀ q xs H', But [] H H' → H q = none → H' q = some (.lst xs) → DDs [] [] H' xs (L.map rowT) → Q (.ref q) H'
theorem scG3 : FnScope ["self"] ["self"] (defScope (clsAt (top 51) 11)) := ⟨rfl, rfl, rfl, by decide +kernel, rfl, by decide +kernel, by decide +kernel⟩
theorem d_rowsM (B : Blt mg base) (CL : ClsM K CM) (D : MethAt K CM "rows" "Machine.rows" (clsAt (top 51) 11)) : MethOk P w K mg base 1 CM "rows" ["self"] (spRowsM CM) := by
  obtain ⟨f, oc, doc, pm, cdv, ct, od, an, osl, hp, lk, hcd⟩ := D.ex
  refine ⟨f, _, hp, fnok_body B lk hcd scG3 (fun vs H Q E ⟨_, _, _, _, e, _⟩ => by rw [e]; rfl) fun A outer s H vs Q E C h => ?_, Binds.all fun us hl => match us, hl with | [_], _ => rfl⟩
  obtain ⟨p, g, L, LA, rfl, hR, hQ⟩ := h
  obtain ⟨dx, rq, bq, h1, h2, h3⟩ := hR.ex
  obtain ⟨xs, h4, h5⟩ := tup_parts h2
  refine b_cons (s_ret (e_listOf B (e_fld (v := .ref rq) (e_name 0 (v := .ref p) ⟨rfl, h1, ⟨rq, xs, rfl, .inr (sqt_all h4), fun q hq => ?_⟩⟩) CL.c CL.n2 rfl)))
  exact hQ q xs _ (But.new hq) hq upd_same (h5.but (But.new hq))
def spEndsM (CM : Addr) : Sp := fun vs H Q _ => ∃ p g L LA, vs = [.ref p] ∧ IsMach CM g L LA H p ∧ LA.length ≤ 1000 ∧ ∀ q H', But [] H H' → H q = none → H' q = some (.lst ((endsOf LA).map nV)) → Q (.ref q) H'
theorem scG4 : FnScope ["self"] ["self"] (defScope (clsAt (top 51) 12)) := ⟨rfl, rfl, rfl, by decide +kernel, rfl, by decide +kernel, by decide +kernel⟩
theorem acc_sq {H : Hp} {bq : Addr} {LA : List Bool} (h : DD [] [] H (.ref bq) (.tuple (LA.map PyData.bool))) : SqA [] H bq (LA.map bV) := by
  obtain ⟨xs, h4, h5⟩ := tup_parts h
  rw [dds_bools h5] at h4
  exact .inr h4
theorem d_endsM (B : Blt mg base) (CL : ClsM K CM) (D : MethAt K CM "ends" "Machine.ends" (clsAt (top 51) 12)) (D1 : Def P w K mg base 1 "ends_of" (top 37) ["accepts"] spEndsOf) : MethOk P w K mg base 2 CM "ends" ["self"] (spEndsM CM) := by
  obtain ⟨f, oc, doc, pm, cdv, ct, od, an, osl, hp, lk, hcd⟩ := D.ex
  refine ⟨f, _, hp, fnok_body B lk hcd scG4 (fun vs H Q E ⟨_, _, _, _, e, _⟩ => by rw [e]; rfl) fun A outer s H vs Q E C h => ?_, Binds.all fun us hl => match us, hl with | [_], _ => rfl⟩
  obtain ⟨p, g, L, LA, rfl, hR, hl, hQ⟩ := h
  obtain ⟨dx, rq, bq, h1, h2, h3⟩ := hR.ex
  refine b_cons (s_ret (e_call C D1 (a_cons (e_fld (v := .ref bq) (e_name 0 (v := .ref p) ⟨rfl, h1, a_nil ?_⟩) CL.c CL.n3 rfl)) rfl (fun _ _ _ _ _ _ us hl => match us, hl with | [_], _ => rfl)))
  exact ⟨bq, LA, rfl, acc_sq h3, hl, hQ⟩
/-! ### ==, repr -/
def EqM (K : PySem.W.Frag) (CM : Addr) : V → V → Bool → Hp → Prop := fun x y b H => ∃ p g L LA, x = .ref p ∧ IsMach CM g L LA H p ∧
  ((∃ q g' L' LA', y = .ref q ∧ IsMach CM g' L' LA' H q ∧ b = decide (g = g' ∧ L = L' ∧ LA = LA')) ∨ (∃ T, Ty1 K H y T ∧ b = false))
theorem scEq : FnScope ["self", "other"] ["self", "other"] (defScope (clsAt (top 51) 25)) := ⟨rfl, rfl, rfl, by decide +kernel, rfl, by decide +kernel, by decide +kernel⟩
theorem d_eqM (B : Blt mg base) (CL : ClsM K CM) (IC : C8.InsC K CM) (hdd : PySem.W.hasDictIn K CM = true) (hty : PySem.W.typeIn K (.ref CM) = some (.type "type")) (gR : mg "Machine" = some (.ref CM)) (D : MethAt K CM "__eq__" "Machine.__eq__" (clsAt (top 51) 25)) : MethOk P w K mg base 1 CM "__eq__" ["self", "other"] (spEqB (EqM K CM)) := by
  obtain ⟨f, oc, doc, pm, cdv, ct, od, an, osl, hp, lk, hcd⟩ := D.ex
  refine ⟨f, _, hp, fnok_body B lk hcd scEq (fun vs H Q E ⟨_, _, _, e, _⟩ => by rw [e]; rfl) fun A outer s H vs Q E C h => ?_, Binds.all fun us hl => match us, hl with | [_, _], _ => rfl⟩
  obtain ⟨x, y, b, rfl, ⟨p, g, L, LA, rfl, hR, ho⟩, q⟩ := h
  rcases ho with ⟨q2, g', L', LA', rfl, hR2, rfl⟩ | ⟨T, hT, rfl⟩
  · obtain ⟨dx, rq, bq, h1, h2, h3⟩ := hR.ex
    obtain ⟨dy, rq2, bq2, k1, k2, k3⟩ := hR2.ex
    have es : (!decide (V.str g = V.str g')) = decide (g ≠ g') := by
      rw [Bool.eq_iff_iff]
      simp
    refine b_cons (s_ifB (decide (g ≠ g')) ?_ (fun e H1 b1 => ?_) (fun e H1 b1 => b_nil ?_))
    · refine t_boolop (w_or (t_not (t_val (e_isC B IC gR (e_name 1 (v := .ref q2) ⟨q2, dy, _, rfl, k1, true, rfl, ?_⟩)))))
      show wW _ _ _ _ _
      refine w_or1 (t_cmp (e_fld (v := .str g) (e_name 0 (v := .ref p) ⟨rfl, h1, e_fld (v := .str g') (e_name 1 (v := .ref q2) ⟨rfl, k1, c_ne rfl ⟨_, rfl, es, But.refl⟩⟩) CL.c CL.n1 rfl⟩) CL.c CL.n1 rfl))
    · have hg : g ≠ g' := of_decide_eq_true e
      refine b_cons (s_ret (e_bool ?_))
      have := q H1 b1
      rw [decide_eq_false (fun z => hg z.1)] at this
      exact this
    · have hg : g = g' := by simpa using e
      have h1' := b1 _ _ (by simp) h1
      have k1' := b1 _ _ (by simp) k1
      refine b_cons (s_ret (e_and (e_cmp (e_fld (v := .ref rq) (e_name 0 (v := .ref p) ⟨rfl, h1', e_fld (v := .ref rq2) (e_name 1 (v := .ref q2) ⟨rfl, k1', ?_⟩) CL.c CL.n2 rfl⟩) CL.c CL.n2 rfl))))
      refine c_eqD C (h2.but b1).all (k2.but b1).all (rows_cmp.shaped (by decide)) (rows_cmp.shaped (by decide)) ⟨_, rfl, ?_⟩
      have er : PyData.eqv (.tuple (L.map rowT)) (.tuple (L'.map rowT)) = decide (L = L') := rows_eqv
      rw [er]
      split
      · rename_i eL
        have eL : L = L' := of_decide_eq_true eL
        refine e_one (e_cmp (e_fld (v := .ref bq) (e_name 0 (v := .ref p) ⟨rfl, h1', e_fld (v := .ref bq2) (e_name 1 (v := .ref q2) ⟨rfl, k1', ?_⟩) CL.c CL.n3 rfl⟩) CL.c CL.n3 rfl))
        refine c_eqD C (h3.but b1).all (k3.but b1).all (accs_cmp.shaped (by decide)) (accs_cmp.shaped (by decide)) ?_
        have eb : PyData.eqv (.tuple (LA.map PyData.bool)) (.tuple (LA'.map PyData.bool)) = decide (LA = LA') := bools_eqv
        rw [eb]
        have := q H1 b1
        rw [show decide (g = g' ∧ L = L' ∧ LA = LA') = decide (LA = LA') by rw [decide_eq_decide]; simp [hg, eL]] at this
        exact this
      · rename_i eL
        have eL : ¬ L = L' := by simpa using eL
        have := q H1 b1
        rw [decide_eq_false (fun z => eL z.2.1)] at this
        exact this
  · refine b_cons (s_ifB true ?_ (fun _ H1 b1 => b_cons (s_ret (e_bool (q H1 b1)))) (fun e => by cases e))
    refine t_boolop (w_or (t_not (t_val (e_isO B hdd hty gR (e_name 1 (v := y) ⟨T, hT, false, rfl, ?_⟩)))))
    exact ⟨rfl, But.refl⟩
def spReprM (CM : Addr) : Sp := fun vs H Q _ => ∃ p g L LA, vs = [.ref p] ∧ IsMach CM g L LA H p ∧ OkM g L LA ∧ ∀ H', But [] H H' → Q (.str (shownM g L LA)) H'
theorem scRp : FnScope ["self"] ["self"] (defScope (clsAt (top 51) 26)) := ⟨rfl, rfl, rfl, by decide +kernel, rfl, by decide +kernel, by decide +kernel⟩
theorem d_reprM (B : Blt mg base) (CL : ClsM K CM) (D : MethAt K CM "__repr__" "Machine.__repr__" (clsAt (top 51) 26)) (D1 : Def P w K mg base 1 "ends_of" (top 37) ["accepts"] spEndsOf) : MethG P w K mg base 2 CM "__repr__" ["self"] (spReprM CM) := by
  obtain ⟨f, oc, doc, pm, cdv, ct, od, an, osl, hp, lk, hcd⟩ := D.ex
  refine ⟨f, _, hp, gfn_body B lk hcd scRp (fun vs H Q E ⟨_, _, _, _, e, _⟩ => by rw [e]; rfl) fun A outer s H vs Q E C gd h => ?_, Binds.all fun us hl => match us, hl with | [_], _ => rfl⟩
  obtain ⟨p, g, L, LA, rfl, hR, ok, hQ⟩ := h
  obtain ⟨dx, rq, bq, h1, h2, h3⟩ := hR.ex
  obtain ⟨xs, h4, h5⟩ := tup_parts h2
  have shw := rows_shw ok
  have she := ends_shw ok
  have l1 := shw.len
  have l6 := she.len
  have l2 := (ShwZ.str (n := 0) (w := 4) (strSigns_ascii ok.sg) (strSigns_len ok.sg).1).len
  have l3 : ("Machine(" : Str).length = 8 := rfl
  have l4 : (", " : Str).length = 2 := rfl
  have l5 : (")" : Str).length = 1 := rfl
  have l0 : (Str.empty).length = 0 := rfl
  have sz : ∀ n, n ≤ 16777216 → n ≤ sizeLine := fun n h => by rw [sizeLine_eq]; exact h
  have eg : reprText g = (PyData.str g).shown := (PyData.shown_str g).symm
  have hla : LA.length ≤ 1000 := by have := ok.len; have := ok.few; omega
  refine b_cons (s_ret (e_joined ?_))
  refine e_str ⟨_, rfl, sz _ (by rw [app_len, l0, l3]; decide), ?_⟩
  refine e_fmtRS (e_fld (v := .str g) (e_name 0 (v := .ref p) ⟨rfl, h1, g, rfl, ?_, ?_⟩) CL.c CL.n1 rfl)
  · rw [eg]; exact sz _ (by omega)
  rw [eg]
  refine ⟨_, rfl, sz _ (by rw [app_len, app_len, l0, l3]; omega), ?_⟩
  refine e_str ⟨_, rfl, sz _ (by rw [app_len, app_len, app_len, l0, l3, l4]; omega), ?_⟩
  refine e_fmtRD B gd C.un (e_listOf B (e_fld (v := .ref rq) (e_name 0 (v := .ref p) ⟨rfl, h1, ⟨rq, xs, rfl, .inr (sqt_all h4), fun q hq => ?_⟩⟩) CL.c CL.n2 rfl))
  have b1 : But [] H (upd H q (.lst xs)) := But.new hq
  refine ⟨[], .list (L.map rowT), q, rfl, (DD.lst (.inl (.inl upd_same)) (by simp) (h5.but b1)).all, shw.rp (by decide) (by decide), _, rfl, sz _ (by rw [app_len, app_len, app_len, app_len, l0, l3, l4]; omega), ?_⟩
  refine e_str ⟨_, rfl, sz _ (by rw [app_len, app_len, app_len, app_len, app_len, l0, l3, l4]; omega), ?_⟩
  refine e_fmtRD B gd C.un (e_call C D1 (a_cons (e_fld (v := .ref bq) (e_name 0 (v := .ref p) ⟨rfl, b1 _ _ (by simp) h1, a_nil ?_⟩) CL.c CL.n3 rfl)) rfl (fun _ _ _ _ _ _ us hl => match us, hl with | [_], _ => rfl))
  refine ⟨bq, LA, rfl, acc_sq (h3.but b1), hla, fun q2 H2 b2 hqn hq2 => ?_⟩
  refine ⟨[], .list ((endsOf LA).map nD), q2, rfl, (DD.lst (.inl (.inl hq2)) (by simp) nats_dds).all, she.rp (by decide) (by decide), _, rfl, sz _ (by rw [app_len, app_len, app_len, app_len, app_len, app_len, l0, l3, l4]; omega), ?_⟩
  refine e_str ⟨_, rfl, sz _ (by rw [app_len, app_len, app_len, app_len, app_len, app_len, app_len, l0, l3, l4, l5]; omega), ?_⟩
  exact hQ _ (b1.trans b2)
end
end K14

set_option Elab.async false
set_option linter.all false
set_option maxRecDepth 100000
set_option maxHeartbeats 4000000
namespace K14
open PySem PySem.Spec PyProof.Rows L2 Z
/-! ### what is drawn -/
def Pot (H : Hp) (p : Addr) : Prop := ∃ a b : Int, H p = some (.lst [.int a, .int b]) ∧ 0 ≤ b ∧ b < 2 ^ 31
theorem Pot.new {H H' : Hp} {p : Addr} (h : Pot H p) (b : But [] H H') : Pot H' p := let ⟨x, y, e, r⟩ := h; ⟨x, y, b _ _ (by simp) e, r⟩
theorem Pot.ext {H H' : Hp} {p : Addr} (h : Pot H p) (e : Ex [] H H') : Pot H' p := let ⟨a, b, x, r⟩ := h; ⟨a, b, e.lst (by simp) x, r⟩
theorem Pot.here {H : Hp} {p : Addr} (h : Pot H p) : Here [p] H := let ⟨x, y, e, r⟩ := h; fun q hq => by rw [List.mem_singleton.mp hq]; exact ⟨_, e⟩
theorem Pot.there {H : Hp} {p q : Addr} (h : Pot H p) (hq : H q = none) : q ≠ p := fun z => by
  obtain ⟨x, y, e, r⟩ := h
  rw [z, e] at hq
  cases hq
theorem Pot.upd {H : Hp} {p q : Addr} {o : HO} (h : Pot H p) (n : q ≠ p) : Pot (L2.upd H q o) p := let ⟨a, b, e, r⟩ := h; ⟨a, b, by rw [upd_ne n.symm]; exact e, r⟩
theorem Pot.ne {H : Hp} {p q : Addr} {o : HO} (h : Pot H p) (hq : H q = some o) (ho : ∀ a b : Int, o ≠ .lst [.int a, .int b]) : q ≠ p := fun z => by
  obtain ⟨x, y, e, r⟩ := h
  rw [z, e] at hq
  exact ho _ _ (Option.some.inj hq).symm
theorem Pot.lsts {H : Hp} {p : Addr} (h : Pot H p) : ∀ q ∈ [p], ∃ xs, H q = some (.lst xs) := fun q hq => by
  obtain ⟨a, b, e, _⟩ := h
  rw [List.mem_singleton.mp hq]
  exact ⟨_, e⟩
section
variable {P : Program} {w : World} {K : PySem.W.Frag} {mg : Str → Option Value} {base : Heap}
def spPotMk (K : PySem.W.Frag) : Sp := fun vs H Q _ => ∃ (q : Addr) (ns : List Int) (k : Nat), vs = [.ref q, .int k] ∧ SqL K H q (ns.map V.int) ∧ k ≤ 100 ∧ ns.length ≤ 1000 ∧ ∀ p H', But [] H H' → H p = none → Pot H' p → Q (.ref p) H'
theorem scPot : FnScope ["script", "k", "cell"] ["script", "k"] (defScope (top 53)) := ⟨rfl, rfl, rfl, by decide +kernel, rfl, by decide +kernel, by decide +kernel⟩
theorem d_pot (B : Blt mg base) (D : At K mg "_law_pot" (top 53)) : Def P w K mg base 1 "_law_pot" (top 53) ["script", "k"] (spPotMk K) := by
  refine def_of D B scPot (fun vs H Q E ⟨_, _, _, e, _⟩ => by rw [e]; rfl) fun f cdv A outer s H vs Q E hm C h => ?_
  obtain ⟨q, ns, k, rfl, hq, hk, hn, hQ⟩ := h
  have hq' : ∀ {H1}, But [] H H1 → SqL K H1 q (ns.map V.int) := fun b => b.sql (by simp) hq
  have fin : ∀ (j : Int) (H1 : Hp), But [] H H1 → wB (bX P w K mg base ["script", "k", "cell"] "_law_pot" (top 53) f cdv A outer s H E) ((defBody (top 53)).drop 2) { nx := fun _ H' => Q .non H', rt := Q } [some (.ref q), some (.int k), some (.int j)] H1 := fun j H1 b1 => by
    refine b_cons (s_ret (e_lst (a_cons (e_max2 C (e_int (e_bin (e_name 2 (e_bin (e_int (e_int ?_))))))))))
    refine o_pow ⟨by decide, by decide, by decide⟩ (o_sub ⟨_, _, rfl, rfl, ?_⟩)
    have m1 := Int.emod_nonneg j (show (2147483549 : Int) ≠ 0 by decide)
    have m2 := Int.emod_lt_of_pos j (show (0 : Int) < 2147483549 by decide)
    refine a_cons (e_bin (e_bin (e_bin (e_int1 B (e_bin (e_bin (e_int1 B (e_name 2 ⟨j, rfl, e_int (o_mod (by decide) (e_int (o_add ⟨_, rfl, ?_⟩)))⟩))))))))
    refine e_bin (e_bin (e_bin (e_int (e_name 1 (o_mul (.inl ⟨by decide, by decide⟩) (e_int (o_add (e_int ?_))))))))
    refine o_pow ⟨by decide, by decide, by omega⟩ (o_mul (.inl ⟨by omega, by omega⟩) (e_int (o_mod (by decide) (e_int (o_add (a_nil ⟨?_, fun p hp => ?_⟩))))))
    · rw [sizeLine_eq]; exact (by decide : 2 ≤ 16777216)
    · have x1 := Int.emod_nonneg ((j % 2147483549 + 11) * (2 * (k : Int) + 3) ^ (3 : Int).toNat) (show (2147483477 : Int) ≠ 0 by decide)
      have x2 := Int.emod_lt_of_pos ((j % 2147483549 + 11) * (2 * (k : Int) + 3) ^ (3 : Int).toNat) (show (0 : Int) < 2147483477 by decide)
      exact hQ p _ (b1.trans (But.new hp)) (b1.free hp) ⟨_, _, upd_same, by omega, by omega⟩
  refine b_cons (s_set (i := 2) (e_bin (e_bin (e_int (e_name 1 ?_)))) C.nd)
  refine o_mul (.inl ⟨by decide, by decide⟩) (e_int (o_add ?_))
  refine b_cons (s_ifB (decide (k < ns.length)) ?_ (fun e H1 b1 => ?_) (fun e H1 b1 => ?_))
  · refine t_cmp (e_name 1 (e_len B (e_name 0 ?_)))
    refine ⟨ns.length, .inl ⟨_, hq, by simp⟩, c_lt ⟨_, rfl, ?_, But.refl⟩⟩
    rw [decide_eq_decide]; omega
  · have hlt : k < ns.length := of_decide_eq_true e
    refine b_cons (s_set (i := 2) (e_abs B (e_ix (e_name 0 (e_name 1 (ix_l (hq' b1) (v := .int ns[k]) ?_ ⟨_, rfl, b_nil (fin _ H1 b1)⟩))))) C.nd)
    exact atI_nat (by simp [hlt])
  · exact b_nil (fin _ H1 b1)
def spDraw : Sp := fun vs H Q _ => ∃ (p : Addr) (n : Int), vs = [.ref p, .int n] ∧ Pot H p ∧ 0 < n ∧ n < 1073741824 ∧ ∀ (r : Int) H', 0 ≤ r → r < n → But [p] H H' → Pot H' p → Q (.int r) H'
def drPs : List Str := ["pot", "span"]
theorem scDraw : FnScope ["pot", "span", "digit"] drPs (defScope (top 54)) := ⟨rfl, rfl, rfl, by decide +kernel, rfl, by decide +kernel, by decide +kernel⟩
theorem d_draw (B : Blt mg base) (D : At K mg "_law_draw" (top 54)) : Def P w K mg base 1 "_law_draw" (top 54) drPs spDraw := by
  refine def_of D B scDraw (fun vs H Q E ⟨_, _, e, _⟩ => by rw [e]; rfl) fun f cdv A outer s H vs Q E hm C h => ?_
  obtain ⟨p, n, rfl, ⟨a, b, hp, b0, b1⟩, n0, n1, hQ⟩ := h
  have sq : SqL K H p [.int a, .int b] := .inl (.inl hp)
  refine b_cons (s_ifB (decide (0 < a)) ?_ (fun e H1 b1 => ?_) (fun e H1 b1 => ?_))
  · refine t_cmp (e_ix (e_name 0 (e_int (ix_l sq (v := .int a) rfl (e_int (c_gt ⟨_, rfl, rfl, But.refl⟩))))))
  · have hp1 := b1 _ _ (by simp) hp
    refine b_cons (s_asg (e_divmod B (e_ix (e_name 0 (e_int (ix_l (.inl (.inl hp1)) (v := .int a) rfl (e_name 1 ?_)))))))
    refine ⟨a, n, rfl, rfl, ⟨n0, n1⟩, fun t ht => ?_⟩
    have hpt : p ≠ t := ne_of_none hp1 ht
    refine g_tup (gs_cons (g_sub (e_name 0 (e_int (set_l (j := 0) (by rw [upd_ne hpt]; exact hp1) rfl ?_))))) rfl (.inl (.inl upd_same))
    refine gs_cons (g_name (i := 2) (gs_nil (b_cons (s_ret (e_name 2 ?_)))) C.nd)
    refine hQ _ _ (Int.emod_nonneg _ (by omega)) (Int.emod_lt_of_pos _ n0) ((b1.of.trans (But.new ht)).trans (But.at (by simp))) ⟨_, _, upd_same, b0, by assumption⟩
  · have hp1 := b1 _ _ (by simp) hp
    refine b_nil (b_cons (s_asg (e_bin (e_int1 B (e_bin (e_bin (e_ix (e_name 0 (e_int (ix_l (.inl (.inl hp1)) (v := .int b) rfl (e_int ?_)))))))))))
    refine o_mul (.inr ⟨by decide, by decide⟩) (e_int (o_add ⟨_, rfl, e_int (o_mod (by decide) (g_sub (e_name 0 (e_int (set_l (j := 1) hp1 rfl ?_)))))⟩))
    have x1 := Int.emod_nonneg (b * 48271 + 12161) (show (2147483587 : Int) ≠ 0 by decide)
    have x2 := Int.emod_lt_of_pos (b * 48271 + 12161) (show (0 : Int) < 2147483587 by decide)
    generalize (b * 48271 + 12161) % 2147483587 = b' at x1 x2 ⊢
    refine b_cons (s_ret (e_bin (e_int1 B (e_bin (e_bin (e_int1 B (e_bin (e_ix (e_name 0 (e_int (ix_l (.inl (.inl upd_same)) (v := .int b') rfl (e_ix (e_name 0 (e_int (ix_l (.inl (.inl upd_same)) (v := .int b') rfl ?_)))))))))))))))
    refine o_mul (.inl ⟨by omega, by omega⟩) ⟨_, rfl, e_int (o_mod (by decide) (e_int (o_div ⟨by decide, by decide⟩ ⟨_, rfl, e_name 1 (o_mod n0 ?_)⟩)))⟩
    exact hQ _ _ (Int.emod_nonneg _ (by omega)) (Int.emod_lt_of_pos _ n0) (b1.of.trans (But.at (by simp))) ⟨_, _, upd_same, by omega, by omega⟩
def piPs : List Str := ["pot", "some"]
def spPick (K : PySem.W.Frag) : Sp := fun vs H Q _ => ∃ p, Pot H p ∧
  ((∃ q xs, vs = [.ref p, .ref q] ∧ q ≠ p ∧ (SqL K H q xs ∨ SqT K H q xs) ∧ 0 < xs.length ∧ xs.length < 1000000 ∧ ∀ v ∈ xs, ∀ H', But [p] H H' → Pot H' p → Q v H') ∨
   (∃ z : Str, vs = [.ref p, .str z] ∧ 0 < z.length ∧ z.length < 1000000 ∧ ∀ c ∈ z.cps.toList, ∀ H', But [p] H H' → Pot H' p → Q (.str ⟨#[c]⟩) H'))
theorem scPick : FnScope piPs piPs (defScope (top 55)) := ⟨rfl, rfl, rfl, by decide +kernel, rfl, by decide +kernel, by decide +kernel⟩
theorem d_pick (B : Blt mg base) (D : At K mg "_law_pick" (top 55)) (D1 : Def P w K mg base 1 "_law_draw" (top 54) drPs spDraw) : Def P w K mg base 2 "_law_pick" (top 55) piPs (spPick K) := by
  refine def_of D B scPick (fun vs H Q E ⟨_, _, h⟩ => by rcases h with ⟨_, _, e, _⟩ | ⟨_, e, _⟩ <;> (rw [e]; rfl)) fun f cdv A outer s H vs Q E hm C h => ?_
  obtain ⟨p, hp, ⟨q, xs, rfl, hqp, hq, x0, x1, hQ⟩ | ⟨z, rfl, x0, x1, hQ⟩⟩ := h
  · refine b_cons (s_ret (e_ix (e_name 1 (v := .ref q) (e_call C D1 (a_cons (e_name 0 (a_cons (e_len B (e_name 1 (v := .ref q) ?_))))) rfl (fun _ _ _ _ _ _ us hl => match us, hl with | [_, _], _ => rfl)))))
    refine ⟨xs.length, hq.elim (fun h => .inl ⟨xs, h, rfl⟩) fun h => .inr ⟨xs, h, rfl⟩, a_nil ⟨p, xs.length, rfl, hp, by omega, by omega, fun r H' r0 r1 b hp' => ?_⟩⟩
    obtain ⟨j, rfl⟩ := Int.eq_ofNat_of_zero_le r0
    have hj : j < xs.length := by omega
    rcases hq with hq | hq
    · exact ix_l (b.sql (by simpa using hqp) hq) (atI_nat (List.getElem?_eq_getElem hj)) (hQ _ (List.getElem_mem hj) H' b hp')
    · exact ix_t (b.sqt (by simpa using hqp) hq) (atI_nat (List.getElem?_eq_getElem hj)) (hQ _ (List.getElem_mem hj) H' b hp')
  · refine b_cons (s_ret (e_ix (e_name 1 (e_call C D1 (a_cons (e_name 0 (a_cons (e_len B (e_name 1 ?_))))) rfl (fun _ _ _ _ _ _ us hl => match us, hl with | [_, _], _ => rfl)))))
    have hz : z.length ≤ sizeLine := by rw [sizeLine_eq]; omega
    refine ⟨z.length, ⟨hz, rfl⟩, a_nil ⟨p, z.length, rfl, hp, by omega, by omega, fun r H' r0 r1 b hp' => ?_⟩⟩
    obtain ⟨j, rfl⟩ := Int.eq_ofNat_of_zero_le r0
    have hj : j < z.cps.toList.length := by have : z.cps.toList.length = z.length := by simp; rfl
                                            omega
    exact ix_s hz (atI_nat (List.getElem?_eq_getElem hj)) (hQ _ (List.getElem_mem hj) H' b hp')
end
end K14

set_option Elab.async false
set_option linter.all false
set_option maxRecDepth 100000
set_option maxHeartbeats 4000000
namespace K14
open PySem PySem.Spec PyProof.Rows L2 Z
/-! ### signs drawn -/
def poolL : List Nat := ("-.0123456789=>abcdefghijklmnopqrstuvwxyz|" : Str).cps.toList
theorem pool_known : ∀ c ∈ poolL, c ∈ known.cps.toList := by decide +kernel
theorem pool_nodup : poolL.Nodup := by decide +kernel
theorem pool_len : poolL.length = 41 := by decide +kernel
abbrev oneS (c : Nat) : Str := ⟨#[c]⟩
theorem asc_of : ∀ {gs : List Nat}, gs.Nodup → sortedS (gs.map oneS) = true → ascends gs = true
  | [], _, _ => rfl
  | [_], _, _ => rfl
  | a :: b :: r, hn, hs => by
    have e : sortedS ((a :: b :: r).map oneS) = (!ltCps [b] [a] && sortedS ((b :: r).map oneS)) := rfl
    rw [e, Bool.and_eq_true] at hs
    have h1 : ltCps [b] [a] = false := by simpa using hs.1
    simp only [ltCps, Bool.and_false, Bool.or_false, decide_eq_false_iff_not] at h1
    have hn2 := List.nodup_cons.mp hn
    have hne : a ≠ b := fun z => hn2.1 (by rw [z]; simp)
    simp only [ascends, Bool.and_eq_true, decide_eq_true_eq]
    exact ⟨by omega, asc_of hn2.2 hs.2⟩
section
variable {P : Program} {w : World} {K : PySem.W.Frag} {mg : Str → Option Value} {base : Heap}
def spAlpha : Sp := fun vs H Q _ => ∃ (p : Addr), vs = [.ref p, .int 2, .int 4] ∧ Pot H p ∧ ∀ (g : Str) H', strSigns g = true → But [p] H H' → Pot H' p → Q (.str g) H'
theorem scAl : FnScope ["pot", "least", "most", "pack", "found", "turn"] ["pot", "least", "most"] (defScope (top 56)) := ⟨rfl, rfl, rfl, by decide +kernel, rfl, by decide +kernel, by decide +kernel⟩
theorem d_alpha (B : Blt mg base) (D : At K mg "_law_alpha" (top 56)) (D0 : Def P w K mg base 1 "_law_draw" (top 54) drPs spDraw) : Def P w K mg base 2 "_law_alpha" (top 56) ["pot", "least", "most"] spAlpha := by
  refine def_of D B scAl (fun vs H Q E ⟨_, e, _⟩ => by rw [e]; rfl) fun f cdv A outer s H vs Q E hm C h => ?_
  obtain ⟨p, rfl, hp, hQ⟩ := h
  have sz : ∀ n, n ≤ 16777216 → n ≤ sizeLine := fun n h => by rw [sizeLine_eq]; exact h
  refine b_cons (s_par (i := 3) (j := 4) C (a_cons (e_listS C (e_str ⟨_, rfl, sz _ (by decide), fun lq hlq => a_cons (e_lst (a_nil ⟨sz 0 (by decide), fun fq hfq => a_nil ⟨_, _, rfl, ?_⟩⟩))⟩))))
  have b1 : But [] H (upd H lq (.lst (poolL.map fun c => .str (oneS c)))) := But.new hlq
  have b2 : But [] (upd H lq (.lst (poolL.map fun c => .str (oneS c)))) (upd (upd H lq (.lst (poolL.map fun c => .str (oneS c)))) fq (.lst [])) := But.new hfq
  have hl : upd (upd H lq (.lst (poolL.map fun c => .str (oneS c)))) fq (.lst []) lq = some (.lst (poolL.map fun c => .str (oneS c))) := b2 _ _ (by simp) upd_same
  have hf : upd (upd H lq (.lst (poolL.map fun c => .str (oneS c)))) fq (.lst []) fq = some (.lst (([] : List Nat).map fun c => .str (oneS c))) := upd_same
  have b12 := b1.trans b2
  have nlp := hp.there hlq
  have nfp := (hp.new b1).there hfq
  have nlf : lq ≠ fq := ne_of_none (H := upd H lq (.lst (Z.signs _))) upd_same hfq
  show wB _ _ _ [some (.ref p), some (.int 2), some (.int 4), some (.ref lq), some (.ref fq), none] (upd (upd H lq (.lst (poolL.map fun c => .str (oneS c)))) fq (.lst []))
  generalize upd (upd H lq (.lst (poolL.map fun c => .str (oneS c)))) fq (.lst []) = H2 at hl hf b12 b2 ⊢
  have hp2 := hp.new b12
  have hfqH : H fq = none := b1.free hfq
  refine b_cons (s_for C (i_range1 B (e_bin (e_name 1 (v := .int 2) (e_call (C.mono (by decide)) D0 (a_cons (e_name 0 (v := .ref p) (a_cons (e_bin (e_bin (e_name 2 (v := .int 4) (e_name 1 (v := .int 2) (o_sub (e_int (o_add (a_nil ?_))))))))))) rfl (fun _ _ _ _ _ _ us hl => match us, hl with | [_, _], _ => rfl))))))
  refine ⟨p, 3, rfl, hp2, by decide, by decide, fun r H3 r0 r1 b3 hp3 => o_add ⟨_, rfl, by omega, by omega, ?_⟩⟩
  obtain ⟨n, rfl⟩ := Int.eq_ofNat_of_zero_le r0
  have nl1 : lq ∉ [p] := by simpa using nlp
  have nf1 : fq ∉ [p] := by simpa using nfp
  refine ⟨_, _, _, walk_range, fun i σ H' => (∃ v4, σ = [some (.ref p), some (.int 2), some (.int 4), some (.ref lq), some (.ref fq), v4]) ∧ But [p] H H' ∧ Pot H' p ∧ ∃ cs fs : List Nat, H' lq = some (.lst (cs.map fun c => .str (oneS c))) ∧ H' fq = some (.lst (fs.map fun c => .str (oneS c))) ∧ fs.length = i ∧ (fs ++ cs).Perm poolL,
    ⟨⟨none, rfl⟩, b12.of.trans b3, hp3, poolL, [], b3 _ _ nl1 hl, b3 _ _ nf1 hf, rfl, List.Perm.refl _⟩, fun _ _ _ _ _ => trivial, ?_, ?_⟩
  · rintro i x σ H4 H1 hi ⟨⟨v4, rfl⟩, b1, hp1, cs, fs, hl, hf, hfl, hpm⟩ ⟨rfl, rfl⟩
    have hcl : fs.length + cs.length = 41 := by have := hpm.length_eq; rw [List.length_append, pool_len] at this; exact this
    refine g_name (i := 5) ?_ C.nd
    refine b_cons (s_expr (e_append (e_name 4 (v := .ref fq) ⟨fq, rfl, ⟨_, hf⟩, e_popAt (e_name 3 (v := .ref lq) ⟨lq, rfl, ⟨_, hl⟩, e_call (C.mono (by decide)) D0 (a_cons (e_name 0 (v := .ref p) (a_cons (e_len B (e_name 3 (v := .ref lq) ⟨cs.length, .inl ⟨_, .inl (.inl hl), by simp⟩, a_nil ?_⟩))))) rfl (fun _ _ _ _ _ _ us hl => match us, hl with | [_, _], _ => rfl)⟩)⟩)))
    refine ⟨p, cs.length, rfl, hp1, by omega, by omega, fun r5 H5 r0 r1 b5 hp5 => ?_⟩
    obtain ⟨j, rfl⟩ := Int.eq_ofNat_of_zero_le r0
    have hj : j < cs.length := by omega
    have hl5 := b5 _ _ nl1 hl
    have hf5 := b5 _ _ nf1 hf
    refine ⟨_, j, .str (oneS cs[j]), rfl, hl5, by rw [List.length_map]; omega, by rw [List.getElem?_map, List.getElem?_eq_getElem hj]; rfl, ?_⟩
    have hf6 : upd H5 lq (.lst ((cs.map fun c => V.str (oneS c)).eraseIdx j)) fq = some (.lst (fs.map fun c => .str (oneS c))) := by rw [upd_ne nlf.symm]; exact hf5
    have hl6 : upd H5 lq (.lst ((cs.map fun c => V.str (oneS c)).eraseIdx j)) lq = some (.lst ((cs.eraseIdx j).map fun c => .str (oneS c))) := by rw [upd_same, erase_map]
    refine ⟨_, hf6, by rw [sizeLine_eq, List.length_map]; omega, b_nil ⟨⟨_, rfl⟩, fun a o na e => ?_, (hp5.upd nlp).upd nfp, cs.eraseIdx j, fs ++ [cs[j]], by rw [upd_ne nlf]; exact hl6, by rw [upd_same, List.map_append]; rfl, by simp [hfl], ?_⟩⟩
    · rw [upd_ne (ne_of_none e hfqH), upd_ne (ne_of_none e hlq)]
      exact b5 _ _ na (b1 _ _ na e)
    · refine List.Perm.trans ?_ hpm
      rw [List.append_assoc]
      refine List.Perm.append_left fs ?_
      exact erase_perm cs j hj
  · rintro σ H4 ⟨⟨v4, rfl⟩, b4, hp4, cs, fs, hl, hf, hfl, hpm⟩
    have hnd : (fs ++ cs).Nodup := hpm.nodup_iff.mpr pool_nodup
    have hfn : fs.Nodup := (List.nodup_append.mp hnd).1
    have hfk : ∀ c ∈ fs, c ∈ known.cps.toList := fun c hc => pool_known c (hpm.mem_iff.mp (List.mem_append_left _ hc))
    refine b_cons (s_ret (e_join (e_str ⟨"", rfl, e_sortedS B (e_name 4 (v := .ref fq) ⟨fq, fs.map oneS, rfl, .inl (.inl (by rw [hf, List.map_map]; rfl)), by rw [List.length_map]; omega, fun ys sq hpy hso hsq => ?_⟩)⟩)))
    obtain ⟨gs, rfl, hgp⟩ : ∃ gs : List Nat, ys = gs.map oneS ∧ gs.Perm fs := perm_map hpy
    have hgl := hgp.length_eq
    have e1 : (gs.map oneS) = (gs.map fun c => [c]).map sOf := by rw [List.map_map]; rfl
    refine ⟨sq, gs.map oneS, rfl, .inl (.inl (.inl upd_same)), by rw [ones_sum]; show gs.length + _ * 0 ≤ _; omega, ?_⟩
    have bs : But [] H4 (upd H4 sq (.lst ((gs.map oneS).map V.str))) := But.new hsq
    generalize upd H4 sq (.lst ((gs.map oneS).map V.str)) = H5 at bs ⊢
    rw [e1, Z.join_nil, ones_flat]
    refine hQ (sOf gs) _ ?_ (b4.trans bs.of) (hp4.new bs)
    have has := asc_of (hgp.nodup_iff.mpr hfn) hso
    simp only [strSigns, sOf_len, sOf_list, has, Bool.and_true, Bool.and_eq_true, decide_eq_true_eq, List.all_eq_true]
    exact ⟨⟨by omega, by omega⟩, fun c hc => hfk c (hgp.mem_iff.mp hc)⟩
end
end K14

set_option Elab.async false
set_option linter.all false
set_option maxRecDepth 100000
set_option maxHeartbeats 4000000
namespace K14
open PySem PySem.Spec PyProof.Rows L2 Z
abbrev rowL (r : List Nat) : PyData := .list (r.map nD)
abbrev gridD (R : List (List Nat)) : PyData := .list (R.map rowL)
theorem grid_rows {l : List Addr} {H : Hp} {v : V} {R : List (List Nat)} (h : DD [] l H v (gridD R)) : RowsAt H v R := ⟨_, h.less (by simp), rfl, by
  show Paired rowD (R.map rowL) R
  clear h
  induction R with
  | nil => exact .nil
  | cons r R ih => exact .cons ⟨rfl, rfl⟩ ih⟩
theorem list_nats {l : List Addr} {H : Hp} {v : V} {r : List Nat} (h : DD [] l H v (rowL r)) : NatsAt H v r := ⟨_, h.less (by simp), rfl, rfl⟩
theorem tup_nats {l : List Addr} {H : Hp} {v : V} {r : List Nat} (h : DD [] l H v (rowT r)) : NatsAt H v r := ⟨_, h.less (by simp), rfl, rfl⟩
section
variable {P : Program} {w : World} {K : PySem.W.Frag} {mg : Str → Option Value} {base : Heap}
def spModel : Sp := fun vs H Q _ => ∃ (p : Addr) (g : Str) (m : Nat), vs = [.ref p, .str g, nV m] ∧ 0 < m ∧ m ≤ 7 ∧ Pot H p ∧ strSigns g = true ∧ ∀ t q sq R es H', But [p] H H' → Pot H' p → H' t = some (.tup [.ref q, .ref sq]) → DD [] [p] H' (.ref q) (gridD R) → DD [] [p] H' (.ref sq) (rowL es) → RowsOk g.length R → R.length ≤ 7 → es.Nodup → (∀ x ∈ es, x < R.length) → Q (.ref t) H'
theorem scMo : FnScope ["pot", "alpha", "most", "span", "grid", "state", "letter"] ["pot", "alpha", "most"] (defScope (top 57)) := ⟨rfl, rfl, rfl, by decide +kernel, rfl, by decide +kernel, by decide +kernel⟩
theorem d_model (B : Blt mg base) (D : At K mg "_law_model" (top 57)) (D0 : Def P w K mg base 1 "_law_draw" (top 54) drPs spDraw) : Def P w K mg base 2 "_law_model" (top 57) ["pot", "alpha", "most"] spModel := by
  refine def_of D B scMo (fun vs H Q E ⟨_, _, _, e, _⟩ => by rw [e]; rfl) fun f cdv A outer s H vs Q E hm C h => ?_
  obtain ⟨p, g, m, rfl, hm0, hm7, hp, hg, hQ⟩ := h
  have gl := strSigns_len hg
  have sz : ∀ n, n ≤ 16777216 → n ≤ sizeLine := fun n h => by rw [sizeLine_eq]; exact h
  refine b_cons (s_asg (e_tup (a_cons (e_bin (e_int (e_call (C.mono (by decide)) D0 (a_cons (e_name 0 (v := .ref p) (a_cons (e_name 2 (v := nV m) (a_nil ?_))))) rfl (fun _ _ _ _ _ _ us hl => match us, hl with | [_, _], _ => rfl)))))))
  refine ⟨p, (m : Int), rfl, hp, by omega, by omega, fun r H1 r0 r1 b1 hp1 => o_add ?_⟩
  obtain ⟨n0, rfl⟩ := Int.eq_ofNat_of_zero_le r0
  obtain ⟨n, en⟩ : ∃ n : Nat, 1 + (n0 : Int) = (n : Int) := ⟨1 + n0, by omega⟩
  rw [en]
  have hn1 : 0 < n := by omega
  have hn7 : n ≤ 7 := by omega
  refine a_cons (e_lst (a_nil ⟨sz 0 (by decide), fun gq hgq => a_nil ⟨sz 2 (by decide), fun tq htq => ?_⟩⟩))
  have b2 : But [] H1 (upd H1 gq (.lst [])) := But.new hgq
  have b3 : But [] (upd H1 gq (.lst [])) (upd (upd H1 gq (.lst [])) tq (.tup [nV n, .ref gq])) := But.new htq
  refine g_tup (gs_cons (g_name (i := 3) (gs_cons (g_name (i := 4) (gs_nil ?_) C.nd)) C.nd)) rfl (.inl (.inl upd_same))
  have hg3 := b3 _ _ (by simp) (upd_same (H := H1) (a := gq) (o := .lst []))
  have b13 := b2.trans b3
  have ngp := hp1.there hgq
  have hp3 := hp1.new b13
  have b03 : But [p] H (upd (upd H1 gq (.lst [])) tq (.tup [nV n, .ref gq])) := b1.trans b13.of
  have ngp1 : gq ∉ [p] := by simpa using ngp
  have hgH : H gq = none := b1.freeL ngp1 hgq
  show wB _ _ _ [some (.ref p), some (.str g), some (nV m), some (nV n), some (.ref gq), none, none] (upd (upd H1 gq (.lst [])) tq (.tup [nV n, .ref gq]))
  generalize upd (upd H1 gq (.lst [])) tq (.tup [nV n, .ref gq]) = H3 at hg3 b13 hp3 b03 ⊢
  refine b_cons (s_for C (i_range1 B (e_name 3 (v := nV n) ⟨_, rfl, by omega, by omega, ?_⟩)))
  refine ⟨_, _, _, walk_range, fun i σ H' => (∃ v5, σ = [some (.ref p), some (.str g), some (nV m), some (nV n), some (.ref gq), v5, none]) ∧ But [p] H H' ∧ Pot H' p ∧ ∃ (xs : List V) (R : List (List Nat)), H' gq = some (.lst xs) ∧ DDs [] [p, gq] H' xs (R.map rowL) ∧ R.length = i ∧ (∀ r ∈ R, r.length = g.length) ∧ ∀ r ∈ R, ∀ x ∈ r, x < n,
    ⟨⟨none, rfl⟩, b03, hp3, [], [], hg3, .nil, rfl, by simp, by simp⟩, fun _ _ _ _ _ => trivial, ?_, ?_⟩
  · rintro i x σ H4 H5 hi ⟨⟨v5, rfl⟩, b4, hp4, xs, R, hg4, hdd, hRl, hRw, hRi⟩ ⟨rfl, rfl⟩
    refine g_name (i := 5) ?_ C.nd
    refine b_cons (s_expr (e_append (e_name 4 (v := .ref gq) ⟨gq, rfl, ⟨_, hg4⟩, e_lc [("letter", 6)] C (i_str (e_name 1 (v := .str g) ⟨g, rfl, _, _, _, walk_str, fun Dl hDl => ?_⟩))⟩)))
    have nDp := hp4.there hDl
    have nDg : Dl ≠ gq := (ne_of_none hg4 hDl).symm
    refine ⟨fun j H' => But [p] H5 H' ∧ Pot H' p ∧ ∃ r : List Nat, H' Dl = some (.lst (r.map nV)) ∧ r.length = j ∧ ∀ x ∈ r, x < n, ⟨But.new hDl, hp4.new (But.new hDl), [], upd_same, rfl, by simp⟩, fun _ _ _ _ => trivial, ?_, ?_⟩
    · rintro j y H6 H' hj ⟨b6, hp6, r, hD6, hrl, hri⟩ ⟨rfl, c, _, rfl⟩
      have hj4 : j < 4 := Nat.lt_of_lt_of_le hj gl.1
      refine lc_plain (i := 6) C.nd fun s H0 Ca cl fp => ?_
      refine e_call ((C.mono (by decide)).blk _ _ _ _ _) D0 (a_cons (e_name 0 (v := .ref p) (a_cons (e_name 3 (v := nV n) (a_nil ?_))))) rfl (fun _ _ _ _ _ _ us hl => match us, hl with | [_, _], _ => rfl)
      refine ⟨p, n, rfl, hp6, by omega, by omega, fun z H7 z0 z1 b7 hp7 => ?_⟩
      obtain ⟨z, rfl⟩ := Int.eq_ofNat_of_zero_le z0
      refine ⟨_, b7 _ _ (by simpa using nDp) hD6, sz _ (by rw [List.length_map]; omega), fun q o na e => ?_, hp7.upd nDp, r ++ [z], by rw [upd_same, List.map_append]; rfl, by simp [hrl], fun y hy => ?_⟩
      · rw [upd_ne (ne_of_none e hDl)]
        exact b7 _ _ na (b6 _ _ na e)
      · rcases List.mem_append.mp hy with h | h
        · exact hri y h
        · rw [List.mem_singleton.mp h]; omega
    · rintro H6 ⟨b6, hp6, r, hD6, hrl, hri⟩
      have hg6 := b6 _ _ ngp1 hg4
      have hdd6 := hdd.but (b6.mono (m := [p, gq]) (by simp))
      have hxl : xs.length = i := by rw [hdd.length, List.length_map, hRl]
      have bg : But [p, gq] H6 (upd H6 gq (.lst (xs ++ [.ref Dl]))) := But.at (by simp)
      refine ⟨xs, hg6, sz _ (by omega), b_nil ⟨⟨_, rfl⟩, fun q o na e => ?_, hp6.upd ngp, xs ++ [.ref Dl], R ++ [r], upd_same, ?_, by simp [hRl], fun y hy => ?_, fun y hy => ?_⟩⟩
      · rw [upd_ne (ne_of_none e hgH)]
        exact b6 _ _ na (b4 _ _ na e)
      · rw [List.map_append]
        refine (DDs.append hdd6 (.cons (.lst (.inl (.inl hD6)) (fun z => ?_) nats_dds) .nil)).but bg
        rcases List.mem_cons.mp z with z | z
        · exact nDp z
        · exact nDg (List.mem_singleton.mp z)
      · rcases List.mem_append.mp hy with h | h
        · exact hRw y h
        · rw [List.mem_singleton.mp h, hrl]; rfl
      · rcases List.mem_append.mp hy with h | h
        · exact hRi y h
        · rw [List.mem_singleton.mp h]; exact hri
  · rintro σ H4 ⟨⟨v5, rfl⟩, b4, hp4, xs, R, hg4, hdd, hRl, hRw, hRi⟩
    have hRn : R.length = n := by rw [hRl]; omega
    refine b_cons (s_ret (e_tup (a_cons (e_name 4 (v := .ref gq) (a_cons (e_lc [("state", 5)] C (i_range1 B (e_name 3 (v := nV n) ⟨_, rfl, by omega, by omega, _, _, _, walk_range, fun Dl hDl => ?_⟩))))))))
    have nDp := hp4.there hDl
    refine ⟨fun j H' => But [p] H4 H' ∧ Pot H' p ∧ ∃ es : List Nat, H' Dl = some (.lst (es.map nV)) ∧ es.length ≤ j ∧ es.Nodup ∧ ∀ x ∈ es, x < j, ⟨But.new hDl, hp4.new (But.new hDl), [], upd_same, Nat.le_refl _, by simp, by simp⟩, fun _ _ _ _ => trivial, ?_, ?_⟩
    · rintro j y H6 H' hj ⟨b6, hp6, es, hD6, hel, hend, hei⟩ ⟨rfl, rfl⟩
      have hjn : j < n := by omega
      refine lc_test (i := 5) C.nd fun s H0 Ca cl fp => ?_
      refine t_cmp (e_call ((C.mono (by decide)).blk _ _ _ _ _) D0 (a_cons (e_name 0 (v := .ref p) (a_cons (e_int (a_nil ?_))))) rfl (fun _ _ _ _ _ _ us hl => match us, hl with | [_, _], _ => rfl))
      refine ⟨p, 3, rfl, hp6, by decide, by decide, fun z H7 z0 z1 b7 hp7 => e_int (c_eq rfl ⟨_, rfl, ?_⟩)⟩
      have hD7 := b7 _ _ (by simpa using nDp) hD6
      split
      · refine fun s H0 Ca cl fp => e_name 5 (v := .int (0 + (j : Int))) ⟨_, hD7, sz _ (by rw [List.length_map]; omega), fun q o na e => ?_, hp7.upd nDp, es ++ [j], by rw [upd_same, List.map_append, Int.zero_add]; rfl, by simp; omega, ?_, fun y hy => ?_⟩
        · rw [upd_ne (ne_of_none e hDl)]
          exact b7 _ _ na (b6 _ _ na e)
        · rw [List.nodup_append]
          exact ⟨hend, by simp, fun a ha b hb e => by rw [List.mem_singleton.mp hb] at e; have := hei a ha; omega⟩
        · rcases List.mem_append.mp hy with h | h
          · have := hei y h; omega
          · rw [List.mem_singleton.mp h]; omega
      · exact ⟨b6.trans b7, hp7, es, hD7, by omega, hend, fun x hx => by have := hei x hx; omega⟩
    · rintro H6 ⟨b6, hp6, es, hD6, hel, hend, hei⟩
      refine a_nil ⟨sz 2 (by decide), fun t ht => ?_⟩
      have bt : But [] H6 (upd H6 t (.tup [.ref gq, .ref Dl])) := But.new ht
      have hdd6 := (hdd.but (b6.mono (m := [p, gq]) (by simp))).less (m := [p]) (by simp)
      exact hQ t gq Dl R es _ (b4.trans (b6.trans bt.of)) (hp6.new bt) upd_same (.lst (.inl (.inl (bt _ _ (by simp) (b6 _ _ ngp1 hg4)))) ngp1 (hdd6.but bt.of)) (.lst (.inl (.inl (bt _ _ (by simp) hD6))) (by simpa using nDp) nats_dds) ⟨by omega, by omega, hRw, fun r hr x hx => by rw [hRn]; exact hRi r hr x hx⟩ (by omega) hend fun x hx => by rw [hRn]; have := hei x hx; omega
end
end K14

set_option Elab.async false
set_option linter.all false
set_option maxRecDepth 100000
set_option maxHeartbeats 4000000
/-! x.index(sign) of a text whose signs are unlike -/
namespace Z
open PySem PySem.Spec PyProof.Rows L2
open PySem.Builtin.Str PySem.StrLaws
theorem occ_sound (s sub : Str) (hi limit : Nat) : ∀ (l : List Nat) (st : Array Nat × Nat), (∀ i ∈ st.1.toList, i + sub.length ≤ hi ∧ subAt s sub i = true) → ∀ i ∈ (forIn l st (occBody s sub hi limit)).run.fst.toList, i + sub.length ≤ hi ∧ subAt s sub i = true
  | [], st, h => h
  | a :: l, st, h => by
    rw [List.forIn_cons]
    unfold occBody
    split
    · rename_i hc
      refine occ_sound s sub hi limit l _ fun i hi' => ?_
      have hi' : i ∈ (st.fst.push a).toList := hi'
      rw [Array.toList_push, List.mem_append] at hi'
      rcases hi' with hi' | hi'
      · exact h i hi'
      · rw [List.mem_singleton.mp hi']; exact ⟨hc.1.2, hc.2⟩
    · exact occ_sound s sub hi limit l _ h
theorem occ_first {x : Str} {c i : Nat} (hn : x.cps.toList.Nodup) (hi : x.cps.toList[i]? = some c) : ∃ rest, occurrences x ⟨#[c]⟩ 0 x.length 1 = i :: rest := by
  have h1 := found_one x c
  rw [decide_eq_true (List.mem_of_getElem? hi)] at h1
  cases e : occurrences x ⟨#[c]⟩ 0 x.length 1 with
  | nil => rw [e] at h1; simp at h1
  | cons j rest =>
    have hj : j + (⟨#[c]⟩ : Str).length ≤ x.length ∧ subAt x ⟨#[c]⟩ j = true := by
      refine occ_sound x ⟨#[c]⟩ x.length 1 (List.range' 0 (x.length + 1 - 0)) (#[], 0) (fun k hk => by simp at hk) j ?_
      rw [← occ_eq, e]
      simp
    have hj := (subAt_one x c j).mp hj
    have h2 := (List.getElem?_eq_some_iff.mp hi)
    have h3 := (List.getElem?_eq_some_iff.mp hj)
    have : j = i := by
      rcases Nat.lt_trichotomy j i with h | h | h
      · exact absurd (h3.2.trans h2.2.symm) (List.pairwise_iff_getElem.mp hn j i h3.1 h2.1 h)
      · exact h
      · exact absurd (h2.2.trans h3.2.symm) (List.pairwise_iff_getElem.mp hn i j h2.1 h3.1 h)
    exact ⟨rest, by rw [this]⟩
section
variable {X : Cx} {k : Nat} {W : WX} {σ : L2.St} {H : Hp} {a o : Expr} {pos : Pos} {Q : VK}
theorem e_sindex {apos : Pos} (h : wE X o σ H fun x H1 => ∃ g : Str, x = .str g ∧ wE X a σ H1 fun y H2 => ∃ c i : Nat, y = .str ⟨#[c]⟩ ∧ g.cps.toList.Nodup ∧ g.cps.toList[i]? = some c ∧ Q (.int (i : Nat)) H2)
    (hs : starEach [a] X.env = [(false, eval a X.env)] := by rfl) (hbase : attributeBase o "index" X.env (eval o X.env) = eval o X.env := by rfl) (hline : (apos.endLine == pos.line) = true := by rfl)
    (hfew : ((backTo pos (starEach [a] X.env)).all (fun x => !x.1) && (backToKw pos (keywordEach [] X.env)).all (fun x => x.1.isSome) && decide (([a] : List Expr).length + ([] : List Keyword).length + (if ([] : List Keyword).isEmpty then 0 else 1) < 30)) = true := by rfl) :
    wE X (.Call (.Attribute o "index" apos) [a] [] pos) σ H Q :=
  eE (pe_bm PySem.F.plainAttrs_str PySem.F.slot_str_index PySem.F.type_str_index mt_sindex pE pA hbase hfew hline (by rw [hs]; rfl) rfl)
    (wE_mono h fun x H1 ⟨g, e1, h1⟩ => ⟨by rw [e1]; exact rfl, a_cons (wE_mono h1 fun y H2 ⟨c, i, e2, nd, hi, q⟩ => a_nil (by
      obtain ⟨rest, ho⟩ := occ_first nd hi
      exact ⟨g, ⟨#[c]⟩, i, rest, e1, by rw [e2], ho, q⟩)) (by rw [hs]; rfl)⟩)
end
end Z

set_option Elab.async false
set_option linter.all false
set_option maxRecDepth 100000
set_option maxHeartbeats 4000000
namespace K14
open PySem PySem.Spec PyProof.Rows L2 Z
/-! ### plain: words and lines -/
/-- the sign with this number -/
def sg (g : Str) (a : Nat) : Nat := g.cps.toList.getD a 0
/-- the line of a word -/
def lineS (g : Str) (w : List Nat) : Str := sOf (w.map (sg g))
theorem sg_at {g : Str} {a : Nat} (h : a < g.length) : g.cps.toList[a]? = some (sg g a) := by
  have h : a < g.cps.toList.length := by rw [Array.length_toList]; exact h
  unfold sg
  rw [List.getD_eq_getElem?_getD, List.getElem?_eq_getElem h]
  rfl
theorem asc_lt : ∀ {l : List Nat}, ascends l = true → l.Pairwise (· < ·)
  | [], _ => List.Pairwise.nil
  | [_], _ => by simp
  | a :: b :: r, h => by
    simp only [ascends, Bool.and_eq_true, decide_eq_true_eq] at h
    have ih := asc_lt h.2
    refine List.pairwise_cons.mpr ⟨fun y hy => ?_, ih⟩
    rcases List.mem_cons.mp hy with e | hy
    · omega
    · have := (List.pairwise_cons.mp ih).1 y hy
      omega
theorem signs_nodup {g : Str} (hg : strSigns g = true) : g.cps.toList.Nodup := by
  simp only [strSigns, Bool.and_eq_true] at hg
  exact List.Pairwise.imp (fun h => Nat.ne_of_lt h) (asc_lt hg.2)
section
variable {P : Program} {w : World} {K : PySem.W.Frag} {mg : Str → Option Value} {base : Heap} {CM : Addr}
def spSame : Sp := fun vs H Q _ => ∃ g : Str, vs = [.str g, .str g] ∧ ∀ H', But [] H H' → Q .non H'
theorem scSame : FnScope ["one", "other"] ["one", "other"] (defScope (top 22)) := ⟨rfl, rfl, rfl, by decide +kernel, rfl, by decide +kernel, by decide +kernel⟩
theorem d_same (B : Blt mg base) (D : At K mg "want_same_signs" (top 22)) : Def P w K mg base 1 "want_same_signs" (top 22) ["one", "other"] spSame := by
  refine def_of D B scSame (fun vs H Q E ⟨_, e, _⟩ => by rw [e]; rfl) fun f cdv A0 outer s H vs Q E hm C h => ?_
  obtain ⟨g, rfl, hQ⟩ := h
  refine b_cons (s_ifB false ?_ (fun e => by cases e) (fun _ H1 b1 => b_nil (b_nil (hQ H1 b1))))
  exact t_cmp (e_name 0 (v := .str g) (e_name 1 (v := .str g) (c_ne rfl ⟨false, by simp, rfl, But.refl⟩)))
def spEndOf (CM : Addr) : Sp := fun vs H Q _ => ∃ (p : Addr) (g : Str) (L : List (List Nat)) (LA : List Bool) (u : List Nat), vs = [.ref p, .str (lineS g u)] ∧ IsMach CM g L LA H p ∧ OkM g L LA ∧ 0 < L.length ∧ Mc.Wd g.length u ∧ ∀ H', But [] H H' → Mc.gRun (tg L) 0 u < L.length → Q (nV (Mc.gRun (tg L) 0 u)) H'
theorem scEnd : FnScope ["machine", "line", "state", "sign"] ["machine", "line"] (defScope (top 46)) := ⟨rfl, rfl, rfl, by decide +kernel, rfl, by decide +kernel, by decide +kernel⟩
theorem d_end (B : Blt mg base) (CL : ClsM K CM) (D : At K mg "end_of" (top 46)) : Def P w K mg base 1 "end_of" (top 46) ["machine", "line"] (spEndOf CM) := by
  refine def_of D B scEnd (fun vs H Q E ⟨_, _, _, _, _, e, _⟩ => by rw [e]; rfl) fun f cdv A0 outer s H vs Q E hm C h => ?_
  obtain ⟨p, g, L, LA, u, rfl, hM, ok, hpos, hu, hQ⟩ := h
  obtain ⟨dx, rq, bq, h1, h2, h3⟩ := hM.ex
  obtain ⟨xs, h4, h5⟩ := tup_parts h2
  have hll : (lineS g u).cps.toList = u.map (sg g) := sOf_list
  refine b_cons (s_set (i := 2) (e_int ?_) C.nd)
  refine b_cons (s_for C (i_str (e_name 1 (v := .str (lineS g u)) ⟨_, rfl, _, _, _, walk_str, fun i σ H' => (∃ v3, σ = [some (.ref p), some (.str (lineS g u)), some (nV (Mc.gRun (tg L) 0 (u.take i))), v3]) ∧ H' = H ∧ Mc.gRun (tg L) 0 (u.take i) < L.length, ⟨⟨none, rfl⟩, rfl, hpos⟩, fun _ _ _ _ _ => trivial, ?_, ?_⟩)))
  · rintro i x σ H' H2 hi ⟨⟨v3, rfl⟩, rfl, hlt⟩ ⟨rfl, c, hc, rfl⟩
    have hc : (lineS g u).cps.toList[i]? = some c := by rw [← hc]; exact Array.getElem?_toList
    rw [hll, List.getElem?_map, Option.map_eq_some_iff] at hc
    obtain ⟨a, ha, rfl⟩ := hc
    have hag : a < g.length := hu a (List.mem_of_getElem? ha)
    have et : u.take (i + 1) = u.take i ++ [a] := by rw [List.take_succ, ha]; rfl
    have er : Mc.gRun (tg L) 0 (u.take (i + 1)) = tg L (Mc.gRun (tg L) 0 (u.take i)) a := by
      rw [et]
      unfold Mc.gRun
      rw [List.foldl_append]
      rfl
    generalize Mc.gRun (tg L) 0 (u.take i) = st at hlt er
    have hxl : xs.length = L.length := by rw [h5.length, List.length_map]
    obtain ⟨r, hr⟩ : ∃ r, L[st]? = some r := ⟨_, List.getElem?_eq_getElem hlt⟩
    obtain ⟨y, hy⟩ : ∃ y, xs[st]? = some y := ⟨_, List.getElem?_eq_getElem (show st < xs.length by omega)⟩
    obtain ⟨dy, e1, e2⟩ := h5.get hy
    rw [List.getElem?_map, hr] at e1
    cases e1
    have hrw : r.length = g.length := ok.wide r (List.mem_of_getElem? hr)
    obtain ⟨z, hz⟩ : ∃ z, r[a]? = some z := ⟨_, List.getElem?_eq_getElem (by omega)⟩
    have ez : tg L st a = z := by rw [tg_at hr, List.getD_eq_getElem?_getD, hz]; rfl
    have hzl : z < L.length := ok.inn r (List.mem_of_getElem? hr) z (List.mem_of_getElem? hz)
    cases e2 with
    | @tup b ws ds k1 n k2 =>
      obtain rfl := dds_nats k2
      refine g_name (i := 3) ?_ C.nd
      refine b_cons (s_set (i := 2) (e_ix (e_ix (e_fld (v := .ref rq) (e_name 0 (v := .ref p) ⟨rfl, h1, e_name 2 (v := nV st) (ix_t (sqt_all h4) (v := .ref b) (atI_nat hy) ?_)⟩) CL.c CL.n2 rfl))) C.nd)
      refine e_sindex (e_fld (v := .str g) (e_name 0 (v := .ref p) ⟨rfl, h1, g, rfl, e_name 3 (v := .str ⟨#[sg g a]⟩) ⟨sg g a, a, rfl, signs_nodup ok.sg, sg_at hag, ?_⟩⟩) CL.c CL.n1 rfl)
      refine ix_t (sqt_all k1) (v := nV z) (atI_nat (nth_nat hz)) (b_nil ⟨⟨_, by rw [er, ez]; rfl⟩, rfl, by rw [er, ez]; exact hzl⟩)
  · rintro σ H2 ⟨⟨v3, rfl⟩, rfl, hlt⟩
    have e : u.take ((lineS g u).cps.size) = u := by
      refine List.take_of_length_le ?_
      rw [← Array.length_toList, hll, List.length_map]
      exact Nat.le_refl _
    rw [e] at hlt ⊢
    exact b_cons (s_ret (e_name 2 (v := nV (Mc.gRun (tg L) 0 u)) (hQ H2 But.refl hlt)))
/-! ### __contains__ -/
theorem line_isLine {g : Str} {u : List Nat} (hu : Mc.Wd g.length u) : isLine g (.str (lineS g u)) = true := by
  show ((lineS g u).cps.toList.all fun c => decide (c ∈ g.cps.toList)) = true
  rw [show (lineS g u).cps.toList = u.map (sg g) from sOf_list, List.all_eq_true]
  intro c hc
  obtain ⟨a, ha, rfl⟩ := List.mem_map.mp hc
  exact decide_eq_true (List.mem_of_getElem? (sg_at (hu a ha)))
def spHas (CM : Addr) : Sp := fun vs H Q _ => ∃ (p : Addr) (g : Str) (L : List (List Nat)) (LA : List Bool) (u : List Nat), vs = [.ref p, .str (lineS g u)] ∧ IsMach CM g L LA H p ∧ OkM g L LA ∧ 0 < L.length ∧ Mc.Wd g.length u ∧ u.length ≤ 1000000 ∧ ∀ H', But [] H H' → Q (bV (langOf L LA u)) H'
theorem scHas : FnScope ["self", "value"] ["self", "value"] (defScope (clsAt (top 51) 13)) := ⟨rfl, rfl, rfl, by decide +kernel, rfl, by decide +kernel, by decide +kernel⟩
theorem d_hasM (B : Blt mg base) (CL : ClsM K CM) (D : MethAt K CM "__contains__" "Machine.__contains__" (clsAt (top 51) 13)) (D1 : Def P w K mg base 1 "is_line" (top 20) ["signs", "value"] (spLine K)) (D2 : Def P w K mg base 1 "end_of" (top 46) ["machine", "line"] (spEndOf CM)) :
    MethOk P w K mg base 2 CM "__contains__" ["self", "value"] (spHas CM) := by
  obtain ⟨f, oc, doc, pm, cdv, ct, od, an, osl, hp, lk, hcd⟩ := D.ex
  refine ⟨f, _, hp, fnok_body B lk hcd scHas (fun vs H Q E ⟨_, _, _, _, _, e, _⟩ => by rw [e]; rfl) fun A outer s H vs Q E C h => ?_, Binds.all fun us hl => match us, hl with | [_, _], _ => rfl⟩
  obtain ⟨p, g, L, LA, u, rfl, hM, ok, hpos, hu, hul, hQ⟩ := h
  obtain ⟨dx, rq, bq, h1, h2, h3⟩ := hM.ex
  have hlen : (lineS g u).length ≤ 16777216 := by
    show (lineS g u).cps.size ≤ _
    rw [← Array.length_toList, show (lineS g u).cps.toList = u.map (sg g) from sOf_list, List.length_map]
    omega
  refine b_cons (s_ret (e_and (e_call C D1 (a_cons (e_fld (v := .str g) (e_name 0 (v := .ref p) ⟨rfl, h1, a_cons (e_name 1 (v := .str (lineS g u)) (a_nil ?_))⟩) CL.c CL.n1 rfl)) rfl (fun _ _ _ _ _ _ us hl => match us, hl with | [_, _], _ => rfl))))
  refine ⟨g, _, [], .str (lineS g u), rfl, .str _, by show (lineS g u).length ≤ _; rw [sizeLine_eq]; exact hlen, fun H1 b1 => ⟨true, by rw [line_isLine hu], ?_⟩⟩
  show wE _ _ _ _ _
  refine e_one (e_ix (e_fld (v := .ref bq) (e_name 0 (v := .ref p) ⟨rfl, b1 _ _ (by simp) h1, e_call C D2 (a_cons (e_name 0 (v := .ref p) (a_cons (e_name 1 (v := .str (lineS g u)) (a_nil ?_))))) rfl (fun _ _ _ _ _ _ us hl => match us, hl with | [_, _], _ => rfl)⟩) CL.c CL.n3 rfl))
  refine ⟨p, g, L, LA, u, rfl, hM.but b1, ok, hpos, hu, fun H2 b2 hlt => ?_⟩
  have b12 := b1.trans b2
  refine ix_sq (acc_sq (h3.but b12)).all (v := bV (accOf LA (Mc.gRun (tg L) 0 u))) (atI_nat (acc_at (by rw [ok.len]; exact hlt))) (hQ H2 b12)
end
end K14

set_option Elab.async false
set_option linter.all false
set_option maxRecDepth 100000
set_option maxHeartbeats 4000000
namespace K14
open PySem PySem.Spec PyProof.Rows L2 Z
theorem mkm_spec {CM : Addr} {g : Str} {R : List (List Nat)} {es : List Nat} {v ev : V} {H : Hp} {Q : Addr → Hp → Prop} {E : XK} (hg : strSigns g = true) (hv : RowsAt H v R) (ok : RowsOk g.length R) (hfew : R.length < 40) (he : NatsAt H ev es) (nd : es.Nodup) (hes : ∀ x ∈ es, x < R.length)
    (k : ∀ r L LA H', But [] H H' → H r = none → IsMach CM g L LA H' r → L.length ≤ R.length → Least g.length L LA (langOf R (endsA R.length es)) → Q r H') :
    ∀ r dx, H r = none → H dx = none → dx ≠ r → spInitM CM (.ref r :: ([.str g, v, ev] ++ [nV 300])) (upd (upd H dx (.own r)) r (.ins CM dx [])) (fun v H2 => v = .non ∧ Q r H2) E := fun r dx hr hdx nd' => by
  have bn : But [] H (upd (upd H dx (.own r)) r (.ins CM dx [])) := (But.new hdx).trans (But.new (by rw [upd_ne nd'.symm]; exact hr))
  exact ⟨r, dx, g, v, ev, nV 300, R, es, rfl, hg, upd_same, hv.but bn, ok, hfew, he.but bn, nd, hes, .inr ⟨300, rfl, by omega⟩, fun L LA H' b hM hL hLe => ⟨rfl, k r L LA H' (but_late bn b fun q hq => by rw [List.mem_singleton.mp hq]; exact hr) hr hM hL hLe⟩⟩
/-- the same with a limit of its own -/
theorem mkn_spec {CM : Addr} {g : Str} {R : List (List Nat)} {es : List Nat} {v ev : V} {H : Hp} {Q : Addr → Hp → Prop} {E : XK} (hg : strSigns g = true) (hv : RowsAt H v R) (ok : RowsOk g.length R) (hfew : R.length < 40) (he : NatsAt H ev es) (nd : es.Nodup) (hes : ∀ x ∈ es, x < R.length)
    (k : ∀ r L LA H', But [] H H' → H r = none → IsMach CM g L LA H' r → L.length ≤ R.length → Least g.length L LA (langOf R (endsA R.length es)) → Q r H') :
    ∀ r dx, H r = none → H dx = none → dx ≠ r → spInitM CM (.ref r :: ([.str g, v, ev, .non] ++ [])) (upd (upd H dx (.own r)) r (.ins CM dx [])) (fun v H2 => v = .non ∧ Q r H2) E := fun r dx hr hdx nd' => by
  have bn : But [] H (upd (upd H dx (.own r)) r (.ins CM dx [])) := (But.new hdx).trans (But.new (by rw [upd_ne nd'.symm]; exact hr))
  exact ⟨r, dx, g, v, ev, .non, R, es, rfl, hg, upd_same, hv.but bn, ok, hfew, he.but bn, nd, hes, .inl rfl, fun L LA H' b hM hL hLe => ⟨rfl, k r L LA H' (but_late bn b fun q hq => by rw [List.mem_singleton.mp hq]; exact hr) hr hM hL hLe⟩⟩
/-- Machine(..) -/
structure MakeM (P : Program) (w : World) (K : PySem.W.Frag) (mg : Str → Option Value) (base : Heap) (CM : Addr) : Prop where
  pos : ∃ ds, Vals [nV 300] ds ∧ MakeOk P w K mg base 6 "Machine" CM mPs (spInitM CM) fun fd => Binds K fd mPs ds
  key : ∃ its : List Value, MakeOk P w K mg base 6 "Machine" CM mPs (spInitM CM) fun fd => KBn K fd mPs 1 ["ends", "rows", "signs"] (fun us ws => us ++ (ws.reverse ++ its)) (fun vs zs => vs ++ (zs.reverse ++ [nV 300]))
  all : MakeOk P w K mg base 6 "Machine" CM mPs (spInitM CM) fun fd => Binds K fd mPs []
section
variable {P : Program} {w : World} {K : PySem.W.Frag} {mg : Str → Option Value} {base : Heap} {CM f : Addr} {fd : FuncData}
theorem binds_pos (F : FunD K "__init__" "Machine.__init__" (defArgs (clsAt (top 51) 1)) (defBody (clsAt (top 51) 1)) (defScope (clsAt (top 51) 1)) [nV 300] [] f fd) : ∃ ds, Vals [nV 300] ds ∧ Binds K fd mPs ds := by
  refine FunD.binds1 F 4 0 (by simp) rfl fun T kV doc pm an cdv ct us its l1 l2 => ?_
  match us, its, l1, l2 with
  | [a, b, c, d], [e], _, _ => exact ⟨_, rfl, rfl⟩
theorem binds_all (F : FunD K "__init__" "Machine.__init__" (defArgs (clsAt (top 51) 1)) (defBody (clsAt (top 51) 1)) (defScope (clsAt (top 51) 1)) [nV 300] [] f fd) : Binds K fd mPs [] := by
  obtain ⟨ds, hv, hb⟩ := FunD.binds1 (ps := mPs) F 5 1 (by simp) rfl fun T kV doc pm an cdv ct us its l1 l2 => by
    match us, its, l1, l2 with
    | [a, b, c, d, x], [e], _, _ => exact ⟨_, rfl, rfl⟩
  cases hv
  exact hb
theorem binds_key (F : FunD K "__init__" "Machine.__init__" (defArgs (clsAt (top 51) 1)) (defBody (clsAt (top 51) 1)) (defScope (clsAt (top 51) 1)) [nV 300] [] f fd) :
    ∃ its : List Value, KBn K fd mPs 1 ["ends", "rows", "signs"] (fun us ws => us ++ (ws.reverse ++ its)) (fun vs zs => vs ++ (zs.reverse ++ [nV 300])) := by
  refine FunD.kbindsD F 1 ["ends", "rows", "signs"] (fun us its ws => us ++ (ws.reverse ++ its)) (by simp) (fun r1 r2 r3 => r1.append ((vals_rev r3).append r2)) fun T kV doc pm an cdv ct us its ws l1 l2 l3 => ?_
  match us, its, ws, l1, l2, l3 with
  | [a], [e], [x, y, z], _, _, _ => exact ⟨_, rfl, rfl⟩
end
structure InitM (K : PySem.W.Frag) (CM : Addr) : Prop where
  ex : ∃ (f : Addr) (oc dV kV doc pm cdv ct : Value) (od an : Option Addr) (osl : Array (Option Value)), Mk K CM f ∧ K.lookup f = some ⟨oc, od, .func (PySem.W.fnOf "__init__" "Machine.__init__" (defArgs (clsAt (top 51) 1)) (defBody (clsAt (top 51) 1)) (defScope (clsAt (top 51) 1)) dV kV doc pm an cdv ct), osl⟩ ∧ PySem.W.codeIn K cdv "Machine.__init__" = true ∧ DflV K dV [nV 300] ∧ PySem.W.keepIn K (.ref f) = true
theorem initM_mk {K : PySem.W.Frag} {CM f T : Addr} {oc kV doc pm cdv ct : Value} {od an : Option Addr} {osl : Array (Option Value)} {dd : Option Addr} {sl : Array (Option Value)} {its : Array Value} {n : Nat} (a1 : PySem.W.makesIn K CM = true) (a2 : PySem.W.findIn K (.ref CM) "__init__" = some (some (.ref f))) (a3 : PySem.W.isFn K (.ref f) = true) (a4 : PySem.W.keepIn K (.ref CM) = true)
    (a5 : K.lookup f = some ⟨oc, od, .func (PySem.W.fnOf "__init__" "Machine.__init__" (defArgs (clsAt (top 51) 1)) (defBody (clsAt (top 51) 1)) (defScope (clsAt (top 51) 1)) (.ref T) kV doc pm an cdv ct), osl⟩) (a6 : PySem.W.codeIn K cdv "Machine.__init__" = true) (a7 : PySem.W.keepIn K (.ref f) = true)
    (a8 : K.lookup T = some ⟨.type "tuple", dd, .seq its n, sl⟩) (a9 : Vals [nV 300] its.toList) : InitM K CM :=
  ⟨f, oc, .ref T, kV, doc, pm, cdv, ct, od, an, osl, ⟨a1, a2, a3, a4⟩, a5, a6, .inr ⟨by simp, T, _, its.toList, n, rfl, a8, by rw [Array.toArray_toList], a9⟩, a7⟩
theorem InitM.make {P : Program} {w : World} {K : PySem.W.Frag} {mg : Str → Option Value} {base : Heap} {CM : Addr} (h : InitM K CM) (B : Blt mg base) (CL : ClsM K CM) (g : mg "Machine" = some (.ref CM))
    (D1 : Def P w K mg base 2 "want_signs" (top 19) ["value"] (spFine K areSigns)) (D2 : Def P w K mg base 5 "want_rows" (top 27) ["signs", "rows"] spRows) (D3 : Def P w K mg base 4 "want_ends" (top 28) ["ends", "many"] spEnds)
    (D4 : Def P w K mg base 1 "marked" (top 36) ["many", "ends"] spMarked) (D5 : Def P w K mg base 3 "least_parts" (top 35) ["rows", "accepts"] spParts) : MakeM P w K mg base CM := by
  obtain ⟨f, oc, dV, kV, doc, pm, cdv, ct, od, an, osl, mk, lk, hcd, hD, kp⟩ := h.ex
  have F : FunD K "__init__" "Machine.__init__" (defArgs (clsAt (top 51) 1)) (defBody (clsAt (top 51) 1)) (defScope (clsAt (top 51) 1)) [nV 300] [] f (PySem.W.fnOf "__init__" "Machine.__init__" (defArgs (clsAt (top 51) 1)) (defBody (clsAt (top 51) 1)) (defScope (clsAt (top 51) 1)) dV kV doc pm an cdv ct) := ⟨⟨oc, od, dV, kV, doc, pm, an, cdv, ct, osl, rfl, lk, hcd, hD, .inl rfl⟩, kp⟩
  have ini := d_initM (P := P) (w := w) B CL lk hcd D1 D2 D3 D4 D5
  obtain ⟨ds, hv, hb⟩ := binds_pos F
  obtain ⟨its, hk⟩ := binds_key F
  exact ⟨⟨ds, hv, f, _, g, mk, ini, hb⟩, ⟨its, f, _, g, mk, ini, hk⟩, ⟨f, _, g, mk, ini, binds_all F⟩⟩
end K14

set_option Elab.async false
set_option linter.all false
set_option maxRecDepth 100000
set_option maxHeartbeats 4000000
namespace K14
open PySem PySem.Spec PyProof.Rows L2 Z
/-! ### plain: ends, languages (parts of G3, G4, G8) -/
theorem mk_step {wd : Nat} {R : List (List Nat)} {A : List Bool} {s a : Nat} (ha : a < wd) : (mk wd R A).step wd s a = tg R s a := by
  show (R.getD ((s * wd + a) / wd) []).getD ((s * wd + a) % wd) 0 = _
  have d1 : (s * wd + a) / wd = s := by rw [Nat.mul_comm, Nat.mul_add_div (by omega), Nat.div_eq_of_lt ha, Nat.add_zero]
  have d2 : (s * wd + a) % wd = a := by rw [Nat.mul_comm, Nat.mul_add_mod, Nat.mod_eq_of_lt ha]
  rw [d1, d2]
  rfl
theorem mk_in {wd : Nat} {R : List (List Nat)} {A : List Bool} (ok : RowsOk wd R) : (mk wd R A).In wd := ⟨ok.pos, fun c hc => by
  obtain ⟨h1, h2, h3⟩ := Mc.code_div hc
  have hr : R[c / wd]? = some (R[c / wd]'h1) := List.getElem?_eq_getElem h1
  have hm := List.mem_of_getElem? hr
  have hw := ok.wide _ hm
  show (R.getD (c / wd) []).getD (c % wd) 0 < R.length
  rw [List.getD_eq_getElem?_getD (l := R), hr]
  show (R[c / wd]'h1).getD (c % wd) 0 < R.length
  rw [List.getD_eq_getElem?_getD, List.getElem?_eq_getElem (by rw [hw]; exact h2)]
  exact ok.inn _ hm _ (List.getElem_mem _)⟩
theorem endsA_len {n : Nat} {es : List Nat} : (endsA n es).length = n := by unfold endsA; rw [List.length_map, List.length_range]
theorem endsA_acc {n s : Nat} {es : List Nat} (h : s < n) : accOf (endsA n es) s = decide (s ∈ es) := by
  show (endsA n es).getD s false = _
  unfold endsA
  rw [List.getD_eq_getElem?_getD, List.getElem?_map, List.getElem?_range h]
  rfl
theorem inV_dec (x : Nat) (l : List Nat) : inV (nV x) (l.map nV) = decide (x ∈ l) := by
  by_cases h : x ∈ l
  · rw [decide_eq_true h]
    simp only [inV, List.any_map, List.any_eq_true]
    exact ⟨x, h, by show decide ((x : Int) = x) = true; simp⟩
  · rw [decide_eq_false h]
    exact inV_nats h
theorem mk_lang {wd : Nat} {R : List (List Nat)} {A : List Bool} {w : List Nat} (hw : Mc.Wd wd w) : (mk wd R A).lang wd 0 w = langOf R A w := by
  have : ∀ (w : List Nat) (s : Nat), Mc.Wd wd w → (mk wd R A).run wd s w = Mc.gRun (tg R) s w := by
    intro w
    induction w with
    | nil => exact fun s _ => rfl
    | cons a w ih =>
      intro s hw
      show (mk wd R A).run wd ((mk wd R A).step wd s a) w = Mc.gRun (tg R) (tg R s a) w
      rw [mk_step (hw a (by simp))]
      exact ih _ fun b hb => hw b (List.mem_cons_of_mem _ hb)
  show accOf A ((mk wd R A).run wd 0 w) = _
  rw [this w 0 hw]
  rfl
theorem mem_ends {A : List Bool} {s : Nat} : s ∈ endsOf A ↔ s < A.length ∧ accOf A s = true := by
  unfold endsOf
  rw [List.mem_filter, List.mem_range]
theorem endsA_ends {n : Nat} {A : List Bool} (h : A.length = n) : endsA n (endsOf A) = A := by
  refine List.ext_getElem (by rw [endsA_len, h]) fun i h1 h2 => ?_
  have e1 := endsA_acc (n := n) (s := i) (es := endsOf A) (by omega)
  have e2 : accOf A i = A[i] := by
    show A.getD i false = _
    rw [List.getD_eq_getElem?_getD, List.getElem?_eq_getElem h2]; rfl
  have e3 : accOf (endsA n (endsOf A)) i = (endsA n (endsOf A))[i] := by
    show (endsA n (endsOf A)).getD i false = _
    rw [List.getD_eq_getElem?_getD, List.getElem?_eq_getElem h1]; rfl
  rw [← e3, e1, ← e2]
  have : (i ∈ endsOf A) ↔ accOf A i = true := by rw [mem_ends]; exact ⟨fun z => z.2, fun z => ⟨h2, z⟩⟩
  by_cases c : accOf A i = true
  · rw [c, decide_eq_true (this.mpr c)]
  · rw [decide_eq_false (fun z => c (this.mp z))]
    exact (Bool.eq_false_iff.mpr c).symm
theorem ends_inj {n : Nat} {A A' : List Bool} (h : A.length = n) (h' : A'.length = n) (e : endsOf A = endsOf A') : A = A' := by
  rw [← endsA_ends h, e, endsA_ends h']
theorem ends_nodup {A : List Bool} : (endsOf A).Nodup := List.Pairwise.filter _ List.nodup_range
theorem Least.rowsOk {g : Str} {L : List (List Nat)} {LA : List Bool} {lang : List Nat → Bool} (h : Least g.length L LA lang) (hg : strSigns g = true) (hf : L.length ≤ 40) : RowsOk g.length L := by
  have ok := h.okM hg hf
  have hl := strSigns_len hg
  exact ⟨h.canon.inn.1, by omega, ok.wide, ok.inn⟩
end K14

set_option Elab.async false
set_option linter.all false
set_option maxRecDepth 100000
set_option maxHeartbeats 4000000
/-! x in o, o an instance with an own __contains__ -/
namespace Z
open PySem PySem.Spec PyProof.Rows L2
section
variable {X : Cx} {k : Nat} {W : WX} {H : Hp} {Q : VK}
theorem c_inO {sp : Sp} {ps : List Str} {C a dx : Addr} {fs : List (Str × V)} {x : V} (Cc : Cxt X k W) (M : MethOk X.prog X.w X.K X.mg X.base k C "__contains__" ps sp) (ha : H a = some (.ins C dx fs))
    (h : sp [.ref a, x] H (fun v H' => ∃ b, v = .bl b ∧ Q (.bl b) H') (fun _ _ _ => False)) : oW X (compareOp .In) x (.ref a) H Q := by
  obtain ⟨f, fd, hmm, F, hb⟩ := M.ex
  refine ⟨fun pins s σ u v I rx ry => ?_⟩
  obtain rfl : v = Value.ref a := ry
  obtain ⟨mA, J, _⟩ := ins_get I.hok ha
  obtain ⟨od, J, _⟩ := J.look
  obtain ⟨m, hF⟩ := I.fr
  have rc := run_fnR (σ := σ) (pins := pins) (Q := fun v H' => ∃ b, v = .bl b ∧ Q (.bl b) H') (us := [Value.ref a, u]) (vs := [V.ref a, x]) (F.raw hb .nil) Cc.room (passes0 Cc.tk) I (.cons rfl (.cons rx .nil)) (by rw [List.append_nil]; exact h)
  refine PySem.W.in_K hF I.ok.mod.kin J hmm.at_ hmm.fn (wpAny_call (codeAny_mono rc fun r s' hq => ?_))
  cases r with
  | error e => exact hq
  | ok fl =>
    cases fl with
    | ret w' =>
      obtain ⟨v', H', I', rv, b, rfl, q⟩ := hq
      obtain rfl : w' = Value.bool b := rv
      exact wpAny_truthy_bool ⟨.bl b, H', I', rfl, q⟩
    | next => exact False.elim hq
    | brk => exact False.elim hq
    | cont => exact False.elim hq
end
end Z

set_option Elab.async false
set_option linter.all false
set_option maxRecDepth 100000
set_option maxHeartbeats 4000000
/-! -o, o an instance with an own __neg__ -/
namespace Z
open PySem PySem.Spec PyProof.Rows L2
section
variable {M : Model} {A : Around} {E : Value → Shared → Prop} {s : Shared} {K : PySem.W.Frag} {x C f : Addr} {ox : Obj} {od : Option Obj}
open PySem.W in
theorem special_K {name : Str} {args : List Value} {Q : Option Value → Shared → Prop} (X : K.In s.heap) (I : InstAt s.heap x ox C od) (hs : findIn K (.ref C) name = some (some (.ref f))) (hf : isFn K (.ref f) = true)
    (h : wpAny M A (call (.ref f) (.ref x :: args)) (fun v => Q (some v)) E s) : wpAny M A (callSpecial? (.ref x) name args []) Q E s := by
  unfold callSpecial?
  refine wpAny_bind (wpAny_bind (I.type.here ((looks_findIn X hs).here ?_)))
  refine wpAny_holding (wpAny_bind ((bind_fn X _ (beq_iff_eq.mp hf)).here ?_))
  dsimp only
  exact wpAny_bind (wpAny_mono h (fun _ _ z => wpAny_pure z) fun _ _ z => z)
end
section
variable {X : Cx} {k : Nat} {W : WX} {H : Hp} {Q : VK}
theorem u_negO {sp : Sp} {ps : List Str} {C a dx : Addr} {fs : List (Str × V)} (Cc : Cxt X k W) (M : MethOk X.prog X.w X.K X.mg X.base k C "__neg__" ps sp) (ha : H a = some (.ins C dx fs)) (h : sp [.ref a] H Q (fun _ _ _ => False)) : uW X (unaryOp .USub) (.ref a) H Q := by
  obtain ⟨f, fd, hmm, F, hb⟩ := M.ex
  refine ⟨fun pins s σ u I rx => ?_⟩
  obtain rfl : u = Value.ref a := rx
  obtain ⟨mA, J, _⟩ := ins_get I.hok ha
  obtain ⟨od, J, _⟩ := J.look
  have rc := run_fnR (σ := σ) (pins := pins) (Q := Q) (us := [Value.ref a]) (vs := [V.ref a]) (F.raw hb .nil) Cc.room (passes0 Cc.tk) I (.cons rfl .nil) (by rw [List.append_nil]; exact h)
  unfold unaryOp
  refine wpAny_holding ?_
  dsimp only
  rw [if_neg (by decide)]
  refine wpAny_bind (special_K I.kIn J hmm.at_ hmm.fn (wpAny_call (codeAny_mono rc fun r s' hq => ?_)))
  cases r with
  | error e => exact hq
  | ok fl =>
    cases fl with
    | ret w' => exact wpAny_pure hq
    | next => exact False.elim hq
    | brk => exact False.elim hq
    | cont => exact False.elim hq
end
end Z

set_option Elab.async false
set_option linter.all false
set_option maxRecDepth 100000
set_option maxHeartbeats 4000000
namespace K14
open PySem PySem.Spec PyProof.Rows L2 Z
theorem rowsT_at {H : Hp} {rq : Addr} {L : List (List Nat)} (h : DD [] [] H (.ref rq) (.tuple (L.map rowT))) : RowsAt H (.ref rq) L := ⟨_, h, rfl, by
  show Paired rowD (L.map rowT) L
  induction L with
  | nil => exact .nil
  | cons r L ih => exact .cons ⟨rfl, rfl⟩ (by
      cases h with
      | tup a b c =>
        cases c with
        | cons c1 c2 =>
          clear ih
          have : ∀ M : List (List Nat), Paired rowD (M.map rowT) M := fun M => by
            induction M with
            | nil => exact .nil
            | cons r M ih => exact .cons ⟨rfl, rfl⟩ ih
          exact this L)⟩
def othersOf (A : List Bool) : List Nat := (List.range A.length).filter fun s => !accOf A s
theorem others_lang {L : List (List Nat)} {A : List Bool} {wd : Nat} {w : List Nat} (ok : RowsOk wd L) (hA : A.length = L.length) (hw : Mc.Wd wd w) : langOf L (endsA L.length (othersOf A)) w = !langOf L A w := by
  have run : ∀ (w : List Nat) (s : Nat), s < L.length → Mc.Wd wd w → Mc.gRun (tg L) s w < L.length := by
    intro w
    induction w with
    | nil => exact fun s hs _ => hs
    | cons a w ih =>
      intro s hs hw
      have ha : a < wd := hw a (by simp)
      have hlt : tg L s a < L.length := by
        have := (mk_in (A := []) ok).step hs ha
        rw [mk_step ha] at this
        exact this
      exact ih _ hlt fun b hb => hw b (List.mem_cons_of_mem _ hb)
  have hr := run w 0 ok.pos hw
  show accOf _ (Mc.gRun (tg L) 0 w) = !accOf _ (Mc.gRun (tg L) 0 w)
  rw [endsA_acc hr]
  have : (Mc.gRun (tg L) 0 w ∈ othersOf A) ↔ accOf A (Mc.gRun (tg L) 0 w) = false := by
    unfold othersOf
    rw [List.mem_filter, List.mem_range]
    simp [hA, hr]
  cases e : accOf A (Mc.gRun (tg L) 0 w) with
  | true => rw [decide_eq_false (fun z => by rw [this.mp z] at e; cases e)]; rfl
  | false => rw [decide_eq_true (this.mpr e)]; rfl
section
variable {P : Program} {w : World} {K : PySem.W.Frag} {mg : Str → Option Value} {base : Heap} {CM : Addr}
def spNeg (CM : Addr) : Sp := fun vs H Q _ => ∃ (p : Addr) (g : Str) (L : List (List Nat)) (LA : List Bool), vs = [.ref p] ∧ IsMach CM g L LA H p ∧ strSigns g = true ∧ RowsOk g.length L ∧ LA.length = L.length ∧ L.length < 40 ∧
  ∀ o L' LA' H', But [] H H' → IsMach CM g L' LA' H' o → L'.length ≤ L.length → Least g.length L' LA' (langOf L (endsA L.length (othersOf LA))) → Q (.ref o) H'
theorem scNeg : FnScope ["self", "others", "state", "is_end"] ["self"] (defScope (clsAt (top 51) 17)) := ⟨rfl, rfl, rfl, by decide +kernel, rfl, by decide +kernel, by decide +kernel⟩
theorem d_negM (B : Blt mg base) (CL : ClsM K CM) (D : MethAt K CM "__neg__" "Machine.__neg__" (clsAt (top 51) 17)) (MM : MakeM P w K mg base CM) : MethOk P w K mg base 8 CM "__neg__" ["self"] (spNeg CM) := by
  obtain ⟨f, oc, doc, pm, cdv, ct, od, an, osl, hp, lk, hcd⟩ := D.ex
  refine ⟨f, _, hp, fnok_body B lk hcd scNeg (fun vs H Q E ⟨_, _, _, _, e, _⟩ => by rw [e]; rfl) fun A outer s H vs Q E C h => ?_, Binds.all fun us hl => match us, hl with | [_], _ => rfl⟩
  obtain ⟨p, g, L, LA, rfl, hM, hg, ok, hA, hfew, hQ⟩ := h
  obtain ⟨dx, rq, bq, h1, h2, h3⟩ := hM.ex
  refine b_cons (s_setLc (i := 1) [("state", 2), ("is_end", 3)] C (i_enumSq B (acc_sq h3).all (fun Q q => e_fld (v := .ref bq) (e_name 0 (v := .ref p) ⟨rfl, h1, q⟩) CL.c CL.n3 rfl) fun J G wk hG => ?_))
  refine ⟨_, G, _, wk, fun Dl hDl => ⟨fun i H' => But [] H H' ∧ H' Dl = some (.lst (((List.range i).filter fun s => !accOf LA s).map nV)), ⟨But.new hDl, upd_same⟩, fun i H' _ h => hG [] H' h.1 (by simp), ?_, ?_⟩⟩
  · rintro i x H2 H3 hi ⟨b2, hD2⟩ ⟨t, x1, y1, rfl, ht, rfl, e1, e2⟩
    cases e1
    have e2 : (LA.map bV)[i]? = some y1 := e2
    rw [List.length_map] at hi
    rw [acc_at hi] at e2
    cases e2
    intro s H0 Ca cl fp
    refine g_tup (gs_cons (g_name (i := 2) (gs_cons (g_name (i := 3) (gs_nil ⟨rfl, ?_⟩) C.nd)) C.nd)) rfl (.inl (.inl upd_same))
    have bt : But [] H2 (upd H2 t (.tup [nV i, bV (accOf LA i)])) := But.new ht
    have hD3 := bt _ _ (by simp) hD2
    have b3 := b2.trans bt
    refine fun s H0 Ca cl fp => eIf (pts_one pT) (t_not (t_val (e_name 3 (v := bV (accOf LA i)) ⟨_, rfl, ?_⟩)))
    have hfl : ((List.range i).filter fun s => !accOf LA s).length ≤ i := by
      have := List.length_filter_le (fun s => !accOf LA s) (List.range i)
      rw [List.length_range] at this
      exact this
    split
    · rename_i e
      refine fun s H0 Ca cl fp => e_name 2 (v := nV i) ⟨_, hD3, by rw [List.length_map, sizeLine_eq]; omega, fun q o na e2 => ?_, ?_⟩
      · rw [upd_ne (ne_of_none e2 hDl)]
        exact b3 _ _ na e2
      · rw [upd_same, List.range_succ, List.filter_append, List.filter_cons, if_pos e, List.map_append]
        rfl
    · rename_i e
      refine ⟨b3, ?_⟩
      rw [hD3, List.range_succ, List.filter_append, List.filter_cons, if_neg e, List.filter_nil, List.append_nil]
  · rintro H2 ⟨b2, hD2⟩
    rw [List.length_map] at hD2
    have hD2 : H2 Dl = some (.lst ((othersOf LA).map nV)) := hD2
    have h1' := b2 _ _ (by simp) h1
    refine b_cons (s_ret (e_make (E := fun _ _ _ => False) (C.mono (by decide)) MM.all .nil (fun _ _ _ _ z => z.elim) (a_cons (e_fld (v := .str g) (e_name 0 (v := .ref p) ⟨rfl, h1', a_cons (e_fld (v := .ref rq) (e_name 0 (v := .ref p) ⟨rfl, h1', a_cons (e_name 1 (v := .ref Dl) (a_cons (e_none (a_nil ?_))))⟩) CL.c CL.n2 rfl)⟩) CL.c CL.n1 rfl))))
    refine mkn_spec hg (rowsT_at (h2.but b2)) ok hfew ⟨.list ((othersOf LA).map nD), .lst (.inl (.inl hD2)) (by simp) nats_dds, rfl, rfl⟩ (List.Pairwise.filter _ List.nodup_range) (fun x hx => by rw [← hA]; exact List.mem_range.mp (List.mem_filter.mp hx).1) fun o L' LA' H3 b3 _ hM3 hl hLe => hQ o L' LA' H3 (b2.trans b3) hM3 hl hLe
end
end K14

set_option Elab.async false
set_option linter.all false
set_option maxRecDepth 100000
set_option maxHeartbeats 4000000
/-! a class held by a local name is called; C.m(..), m a classmethod -/
namespace Z
open PySem PySem.Spec PyProof.Rows L2
section
variable {X : Cx} {CX : CXT} {k : Nat} {W : WX} {σ : L2.St} {H : Hp} {e : Expr} {es : List Expr} {pos p : Pos} {Q : VK} {x a : Str} {C f : Addr} {fd : FuncData} {ps : List Str} {sp : Sp} {ds : List Value} {dvs : List V} {E : XK} {t : TA} {i : Nat}
theorem pe_makeV (M : Mk X.K C f) (F : FnOk X.prog X.w X.K X.mg X.base CX k f fd ps sp) (hr : Room (k + 1) X.A) (hN : X.N[i]? = some a) (hv : Vis X.env.scope a) (hb : Binds X.K fd ps ds) (hd : Vals dvs ds) (hx : Passes CX X E)
    (ha : PA X (e :: es) t) (hdb : (a == ("__debug__" : Str)) = false) (hcd : (a == ("__classdict__" : Str)) = false) (he : starEach (e :: es) X.env = (false, eval e X.env) :: starEach es X.env) (hpl : (backTo pos (starEach es X.env)).any (·.1) = false) :
    PE X (.Call (.Name a p) (e :: es) [] pos) fun σ H Q => σ[i]? = some (some (.ref C)) ∧ tMake C sp dvs E t σ H Q := by
  refine ⟨fun pins s σ H Q I ⟨hs, h⟩ => ?_⟩
  refine wpAny_Call_Name_kw (thn ((pe_var (pos := p) (i := i) hN hv hdb hcd).run pins s σ H (fun v H1 => v = .ref C ∧ H1 = H) I ⟨.ref C, hs, rfl, rfl⟩) fun u s1 ⟨v, H1, I1, r1, q1⟩ => ?_)
  obtain ⟨ev, eH⟩ := q1
  subst ev
  rw [eH] at I1
  obtain rfl : u = Value.ref C := r1
  refine PySem.W.callWith_K (h₀ := X.base) I1.ok.mod.kin M.kp (thn (ha.run pos pins s1 σ H _ I1 h) fun us s2 ⟨vs, H2, I2, r, q⟩ => ⟨I2.kIn, ?_⟩) he hpl
  exact run_make M F hr hb hd hx I2 r q
/-- x(e, ..), x a local name that holds the class at C -/
theorem e_makeV (i : Nat) {j : Nat} {y : Str} (Cc : Cxt X (j + 1) W) (M : MakeOk X.prog X.w X.K X.mg X.base j y C ps sp fun fd => Binds X.K fd ps ds) (hd : Vals dvs ds) (hW : ∀ cls d σ H, E cls d H → W cls d σ H) (hs : σ[i]? = some (some (.ref C)))
    (h : wA X (e :: es) σ H fun vs H1 => ∀ r dx, H1 r = none → H1 dx = none → dx ≠ r → sp (.ref r :: (vs ++ dvs)) (upd (upd H1 dx (.own r)) r (.ins C dx [])) (fun v H2 => v = .non ∧ Q (.ref r) H2) E) (hN : X.N[i]? = some a := by rfl)
    (hv : Vis X.env.scope a := by first | exact Or.inl rfl | exact Or.inr (Or.inl rfl) | exact Or.inr (Or.inr rfl)) (hdb : (a == ("__debug__" : Str)) = false := by decide) (hcd : (a == ("__classdict__" : Str)) = false := by decide)
    (he : starEach (e :: es) X.env = (false, eval e X.env) :: starEach es X.env := by rfl) (hpl : (backTo pos (starEach es X.env)).any (·.1) = false := by rfl) :
    wE X (.Call (.Name a p) (e :: es) [] pos) σ H Q := by
  obtain ⟨g, fd, hm, mk, F, hb⟩ := M.ex
  exact eE (pe_makeV mk F Cc.room hN hv hb hd (passesE Cc.tk hW) pA hdb hcd he hpl) ⟨hs, h⟩
end
/-- a classmethod m of the class at C, its promise (the class is its first value) -/
structure CMethOk (P : Program) (w : World) (K : PySem.W.Frag) (mg : Str → Option Value) (base : Heap) (k : Nat) (C : Addr) (m : Str) (sp : Sp) : Prop where
  ex : ∃ mc p g, ClX.CRead K C mc ∧ ClX.CMet K C mc m p g ∧ FnR P w K mg base (L2.CX P w) k g sp
theorem cmeth_of {P : Program} {w : World} {K : PySem.W.Frag} {mg : Str → Option Value} {base : Heap} {k : Nat} {C : Addr} {m : Str} {sp : Sp} {mc : Value} {p g : Addr} {fd : FuncData} {ps : List Str} (r : ClX.CRead K C mc) (c : ClX.CMet K C mc m p g) (F : FnOk P w K mg base (L2.CX P w) k g fd ps sp) (hb : Binds K fd ps []) : CMethOk P w K mg base k C m sp :=
  ⟨mc, p, g, r, c, (F.raw hb .nil).imp fun vs H Q E h => by rw [List.append_nil]; exact h⟩
section
variable {X : Cx} {k : Nat} {W : WX} {σ : L2.St} {H : Hp} {o e : Expr} {es : List Expr} {pos apos : Pos} {Q : VK} {m : Str}
theorem e_cmeth {sp : Sp} {C : Addr} {j : Nat} (Cc : Cxt X j W) (M : CMethOk X.prog X.w X.K X.mg X.base j C m sp) (h : wE X o σ H fun x H1 => x = .ref C ∧ wA X (e :: es) σ H1 fun vs H2 => sp (.ref C :: vs) H2 Q fun _ _ _ => False)
    (hb : attributeBase o m X.env (eval o X.env) = eval o X.env := by rfl) (hf : methodCallForm ((e :: es).length + 0) (backTo pos (starEach (e :: es) X.env)) (backToKw pos (keywordEach [] X.env)) = true := by rfl) (hl : (apos.endLine == pos.line) = true := by rfl)
    (hst : starEach (e :: es) X.env = (false, eval e X.env) :: starEach es X.env := by rfl) (hpl : (backTo pos (starEach es X.env)).any (·.1) = false := by rfl) :
    wE X (.Call (.Attribute o m apos) (e :: es) [] pos) σ H Q := by
  obtain ⟨mc, p, g, r, c, F⟩ := M.ex
  exact eE (ClX.pe_cmeth (pl := plainOf o X.env) pE r c F Cc.room (passes0 Cc.tk) pA hst hpl (meth_eval hb hf hl)) (wE_mono h fun x H1 ⟨e1, q⟩ => ⟨e1, q⟩)
end
end Z

set_option Elab.async false
set_option linter.all false
set_option maxRecDepth 100000
set_option maxHeartbeats 4000000
namespace K14
open PySem PySem.Spec PyProof.Rows L2 Z
/-- a classmethod of the text, where its code stands -/
structure CMethAt (K : PySem.W.Frag) (CM : Addr) (m q : Str) (st : Stmt) : Prop where
  ex : ∃ (p g : Addr) (mc oc doc pm cdv ct : Value) (od an : Option Addr) (osl : Array (Option Value)), ClX.CRead K CM mc ∧ ClX.CMet K CM mc m p g ∧ K.lookup g = some ⟨oc, od, .func (PySem.W.fnOf m q (defArgs st) (defBody st) (defScope st) .none .none doc pm an cdv ct), osl⟩ ∧ PySem.W.codeIn K cdv q = true
theorem flat_one {v : V} (n : Nat) : (List.replicate n [v]).flatten = List.replicate n v := by
  induction n with
  | zero => rfl
  | succ n ih => rw [List.replicate_succ, List.flatten_cons, ih, List.replicate_succ]; rfl
theorem zero_rows {g : Str} (hg : strSigns g = true) : RowsOk g.length [List.replicate g.length 0] := ⟨by simp, by simp, fun r hr => by rw [List.mem_singleton.mp hr, List.length_replicate], fun r hr x hx => by
  rw [List.mem_singleton.mp hr] at hx
  rw [List.eq_of_mem_replicate hx]; simp⟩
section
variable {P : Program} {w : World} {K : PySem.W.Frag} {mg : Str → Option Value} {base : Heap} {CM : Addr}
def spOne (CM : Addr) (es : List Nat) : Sp := fun vs H Q _ => ∃ g : Str, vs = [.ref CM, .str g] ∧ strSigns g = true ∧ ∀ o L LA H', But [] H H' → IsMach CM g L LA H' o → L.length ≤ 1 → Least g.length L LA (langOf [List.replicate g.length 0] (endsA 1 es)) → Q (.ref o) H'
theorem scEv : FnScope ["cls", "signs"] ["cls", "signs"] (defScope (clsAt (top 51) 2)) := ⟨rfl, rfl, rfl, by decide +kernel, rfl, by decide +kernel, by decide +kernel⟩
theorem scNo : FnScope ["cls", "signs"] ["cls", "signs"] (defScope (clsAt (top 51) 3)) := ⟨rfl, rfl, rfl, by decide +kernel, rfl, by decide +kernel, by decide +kernel⟩
theorem d_every (B : Blt mg base) (D : CMethAt K CM "every" "Machine.every" (clsAt (top 51) 2)) (D1 : Def P w K mg base 2 "want_signs" (top 19) ["value"] (spFine K areSigns)) (MM : MakeM P w K mg base CM) : CMethOk P w K mg base 8 CM "every" (spOne CM [0]) := by
  obtain ⟨p, f, mc, oc, doc, pm, cdv, ct, od, an, osl, cr, cm, lk, hcd⟩ := D.ex
  refine cmeth_of cr cm (fnok_body B lk hcd scEv (fun vs H Q E ⟨_, e, _⟩ => by rw [e]; rfl) fun A outer s H vs Q E C h => ?_) (Binds.all fun us hl => match us, hl with | [_, _], _ => rfl)
  obtain ⟨g, rfl, hg, hQ⟩ := h
  have gl := strSigns_len hg
  have sz : ∀ n, n ≤ 16777216 → n ≤ sizeLine := fun n h => by rw [sizeLine_eq]; exact h
  refine b_cons (s_expr (e_call (C.mono (by decide)) D1 (a_cons (e_name 1 (v := .str g) (a_nil ?_))) rfl (fun _ _ _ _ _ _ us hl => match us, hl with | [_], _ => rfl)))
  refine ⟨_, [], .str g, rfl, .str g, sz _ (by omega), hg, fun H1 b1 => ?_⟩
  obtain ⟨dvs, hvd, MP⟩ := MM.pos
  refine b_cons (s_ret (e_makeV 0 (E := fun _ _ _ => False) (C.mono (by decide)) MP hvd (fun _ _ _ _ z => z.elim) rfl (a_cons (e_name 1 (v := .str g) (a_cons (e_lst (a_cons (e_bin (e_lst (a_cons (e_int (a_nil ⟨sz 1 (by decide), fun zq hzq => ?_⟩)))))))))))) 
  refine e_len B (e_name 1 (v := .str g) ⟨g.length, ⟨sz _ (by omega), rfl⟩, ?_⟩)
  refine o_rep (n := g.length) (xs := [.int 0]) upd_same (sz _ (by show 1 * g.length ≤ _; omega)) (by omega) fun rq hrq => ?_
  rw [flat_one]
  have b2 : But [] H1 (upd H1 zq (.lst [.int 0])) := But.new hzq
  have b3 : But [] (upd H1 zq (.lst [.int 0])) (upd (upd H1 zq (.lst [.int 0])) rq (.lst (List.replicate g.length (.int 0)))) := But.new hrq
  have hr3 : upd (upd H1 zq (.lst [.int 0])) rq (.lst (List.replicate g.length (.int 0))) rq = some (.lst ((List.replicate g.length 0).map nV)) := by rw [upd_same, List.map_replicate]; rfl
  have b13 := b2.trans b3
  generalize upd (upd H1 zq (.lst [.int 0])) rq (.lst (List.replicate g.length (.int 0))) = H3 at hr3 b13 ⊢
  refine a_nil ⟨sz 1 (by decide), fun lq hlq => ?_⟩
  have b4 : But [] H3 (upd H3 lq (.lst [.ref rq])) := But.new hlq
  have hl4 : upd H3 lq (.lst [.ref rq]) lq = some (.lst [.ref rq]) := upd_same
  have hr4 := b4 _ _ (by simp) hr3
  have b14 := b13.trans b4
  generalize upd H3 lq (.lst [.ref rq]) = H4 at hl4 hr4 b14 ⊢
  refine a_cons (e_lst (a_cons (e_int (a_nil ⟨sz 1 (by decide), fun eq heq => a_nil ?_⟩))))
  have b5 : But [] H4 (upd H4 eq (.lst (([0] : List Nat).map nV))) := But.new heq
  have hl5 := b5 _ _ (by simp) hl4
  have hr5 := b5 _ _ (by simp) hr4
  exact mkm_spec (R := [List.replicate g.length 0]) (es := [0]) hg ⟨.list [.list ((List.replicate g.length 0).map nD)], .lst (.inl (.inl hl5)) (by simp) (.cons (.lst (.inl (.inl hr5)) (by simp) nats_dds) .nil), rfl, .cons ⟨rfl, rfl⟩ .nil⟩ (zero_rows hg) (by simp) ⟨.list (([0] : List Nat).map nD), .lst (.inl (.inl upd_same)) (by simp) (nats_dds (ns := [0])), rfl, rfl⟩ (by simp) (by simp) fun o L LA H' b _ hM hL hLe => hQ o L LA H' (b1.trans (b14.trans (b5.trans b))) hM hL hLe
theorem d_nothing (B : Blt mg base) (D : CMethAt K CM "nothing" "Machine.nothing" (clsAt (top 51) 3)) (D1 : Def P w K mg base 2 "want_signs" (top 19) ["value"] (spFine K areSigns)) (MM : MakeM P w K mg base CM) : CMethOk P w K mg base 8 CM "nothing" (spOne CM []) := by
  obtain ⟨p, f, mc, oc, doc, pm, cdv, ct, od, an, osl, cr, cm, lk, hcd⟩ := D.ex
  refine cmeth_of cr cm (fnok_body B lk hcd scNo (fun vs H Q E ⟨_, e, _⟩ => by rw [e]; rfl) fun A outer s H vs Q E C h => ?_) (Binds.all fun us hl => match us, hl with | [_, _], _ => rfl)
  obtain ⟨g, rfl, hg, hQ⟩ := h
  have gl := strSigns_len hg
  have sz : ∀ n, n ≤ 16777216 → n ≤ sizeLine := fun n h => by rw [sizeLine_eq]; exact h
  refine b_cons (s_expr (e_call (C.mono (by decide)) D1 (a_cons (e_name 1 (v := .str g) (a_nil ?_))) rfl (fun _ _ _ _ _ _ us hl => match us, hl with | [_], _ => rfl)))
  refine ⟨_, [], .str g, rfl, .str g, sz _ (by omega), hg, fun H1 b1 => ?_⟩
  obtain ⟨dvs, hvd, MP⟩ := MM.pos
  refine b_cons (s_ret (e_makeV 0 (E := fun _ _ _ => False) (C.mono (by decide)) MP hvd (fun _ _ _ _ z => z.elim) rfl (a_cons (e_name 1 (v := .str g) (a_cons (e_lst (a_cons (e_bin (e_lst (a_cons (e_int (a_nil ⟨sz 1 (by decide), fun zq hzq => ?_⟩)))))))))))) 
  refine e_len B (e_name 1 (v := .str g) ⟨g.length, ⟨sz _ (by omega), rfl⟩, ?_⟩)
  refine o_rep (n := g.length) (xs := [.int 0]) upd_same (sz _ (by show 1 * g.length ≤ _; omega)) (by omega) fun rq hrq => ?_
  rw [flat_one]
  have b2 : But [] H1 (upd H1 zq (.lst [.int 0])) := But.new hzq
  have b3 : But [] (upd H1 zq (.lst [.int 0])) (upd (upd H1 zq (.lst [.int 0])) rq (.lst (List.replicate g.length (.int 0)))) := But.new hrq
  have hr3 : upd (upd H1 zq (.lst [.int 0])) rq (.lst (List.replicate g.length (.int 0))) rq = some (.lst ((List.replicate g.length 0).map nV)) := by rw [upd_same, List.map_replicate]; rfl
  have b13 := b2.trans b3
  generalize upd (upd H1 zq (.lst [.int 0])) rq (.lst (List.replicate g.length (.int 0))) = H3 at hr3 b13 ⊢
  refine a_nil ⟨sz 1 (by decide), fun lq hlq => ?_⟩
  have b4 : But [] H3 (upd H3 lq (.lst [.ref rq])) := But.new hlq
  have hl4 : upd H3 lq (.lst [.ref rq]) lq = some (.lst [.ref rq]) := upd_same
  have hr4 := b4 _ _ (by simp) hr3
  have b14 := b13.trans b4
  generalize upd H3 lq (.lst [.ref rq]) = H4 at hl4 hr4 b14 ⊢
  refine a_cons (e_lst (a_nil ⟨sz 0 (by decide), fun eq heq => a_nil ?_⟩))
  have b5 : But [] H4 (upd H4 eq (.lst (([] : List Nat).map nV))) := But.new heq
  have hl5 := b5 _ _ (by simp) hl4
  have hr5 := b5 _ _ (by simp) hr4
  exact mkm_spec (R := [List.replicate g.length 0]) (es := []) hg ⟨.list [.list ((List.replicate g.length 0).map nD)], .lst (.inl (.inl hl5)) (by simp) (.cons (.lst (.inl (.inl hr5)) (by simp) nats_dds) .nil), rfl, .cons ⟨rfl, rfl⟩ .nil⟩ (zero_rows hg) (by simp) ⟨.list (([] : List Nat).map nD), .lst (.inl (.inl upd_same)) (by simp) (nats_dds (ns := [])), rfl, rfl⟩ (by simp) (by simp) fun o L LA H' b _ hM hL hLe => hQ o L LA H' (b1.trans (b14.trans (b5.trans b))) hM hL hLe
end
end K14

set_option Elab.async false
set_option linter.all false
set_option maxRecDepth 100000
set_option maxHeartbeats 4000000
/-! zip of two sources of any kind (lists, tuples, texts): as a loop, with a target of several names or one name; list(zip(..)) -/
namespace Z
open PySem PySem.Spec PyProof.Rows L2
open Sem (wp)
/-- what is gone through -/
inductive Kd
  | l (a : Addr)
  | t (a : Addr)
  | s (x : Str)
theorem vals_back : ∀ {xs : List V} {us : List Value} {i : Nat} {u : Value}, Vals xs us → us[i]? = some u → ∃ x, xs[i]? = some x ∧ RelV x u
  | _, _, _, _, .nil, h => by simp at h
  | _, _, 0, _, .cons r _, h => by
    simp at h
    subst h
    exact ⟨_, rfl, r⟩
  | _, _, i + 1, _, .cons _ r, h => by
    obtain ⟨x, h1, h2⟩ := vals_back (i := i) r (by simpa using h)
    exact ⟨x, by simpa using h1, h2⟩
namespace Kd
def val : Kd → V
  | .l a => .ref a
  | .t a => .ref a
  | .s x => .str x
def own : Kd → List Addr
  | .l a => [a]
  | .t a => [a]
  | .s _ => []
def src (K : PySem.W.Frag) (H : Hp) : Kd → List V → Prop
  | .l a, xs => SqL K H a xs
  | .t a, xs => SqT K H a xs
  | .s x, xs => xs = signs x
def at_ (h : Heap) (I : Addr) (i : Nat) : Kd → Prop
  | .l a => h.IsListIter I a i
  | .t a => h.IsTupleIter I a i
  | .s x => ∃ t, h.IsStrIter I (strIterType x) x t i
theorem at_obj {h : Heap} {I : Addr} {i : Nat} : ∀ {k : Kd}, k.at_ h I i → ∃ o, h.get? I = some o ∧ ∀ v, o.data ≠ .cell v
  | .l _, ⟨o, e, _, d⟩ => ⟨o, e, fun v q => by rw [d] at q; cases q⟩
  | .t _, ⟨o, e, _, d⟩ => ⟨o, e, fun v q => by rw [d] at q; cases q⟩
  | .s _, ⟨_, o, e, _, d⟩ => ⟨o, e, fun v q => by rw [d] at q; cases q⟩
theorem at_keep {h h' : Heap} {I : Addr} {i : Nat} (k' : ∀ o, h.get? I = some o → h'.get? I = some o) : ∀ {k : Kd}, k.at_ h I i → k.at_ h' I i
  | .l _, ⟨o, e, r⟩ => ⟨o, k' o e, r⟩
  | .t _, ⟨o, e, r⟩ => ⟨o, k' o e, r⟩
  | .s _, ⟨tk, o, e, r⟩ => ⟨tk, o, k' o e, r⟩
theorem src_inj {X : Cx} {pins : List (Addr × Obj)} {σ : L2.St} {H : Hp} {s : Shared} (I : Inv X pins σ H s) {xs ys : List V} : ∀ {k : Kd}, k.src X.K H xs → k.src X.K H ys → xs = ys
  | .l _, h1, h2 => I.list_inj h1 h2
  | .t _, h1, h2 => I.tuple_inj h1 h2
  | .s _, h1, h2 => (show xs = _ from h1).trans (show ys = _ from h2).symm
theorem own_lt {X : Cx} {pins : List (Addr × Obj)} {σ : L2.St} {H : Hp} {s : Shared} (I : Inv X pins σ H s) {xs : List V} : ∀ {k : Kd}, k.src X.K H xs → ∀ a ∈ k.own, a < s.heap.objs.size
  | .l a, h, b, hb => by
    rw [List.mem_singleton.mp hb]
    obtain ⟨its, _, ⟨o, _, e, _⟩, _⟩ := I.list h
    exact Heap.lt_size e
  | .t a, h, b, hb => by
    rw [List.mem_singleton.mp hb]
    obtain ⟨its, _, ⟨o, e, _⟩, _⟩ := I.tuple h
    exact Heap.lt_size e
  | .s _, _, b, hb => nomatch hb
theorem draws {X : Cx} {pins : List (Addr × Obj)} {σ : L2.St} {H : Hp} {s : Shared} {A : Around} (hA : A.handled = none) (I : Inv X pins σ H s) {xs : List V} {J : Addr} {i : Nat} : ∀ {k : Kd}, k.src X.K H xs → k.at_ s.heap J i → (∀ a ∈ k.own, a ≠ J) →
    ∃ (P : Nat → Value → Prop) (St : Nat → Heap → Prop), Draws X.prog X.w A.in1 J (J :: k.own) xs.length P St ∧ St i s.heap ∧ (∀ j h, St j h → k.at_ h J j) ∧ ∀ j u, P j u → ∃ x, xs[j]? = some x ∧ RelV x u
  | .l a, h, h1, n => by
    obtain ⟨its, rv, p, _⟩ := I.list h
    have e := rv.length
    have D := Draws.list (prog := X.prog) (w := X.w) (A := A.in1) hA J a (n a (by simp [own])) its.toArray
    rw [show its.toArray.size = xs.length from e.symm] at D
    refine ⟨_, _, D, ⟨h1, p.isList⟩, fun j h st => st.1, fun j u hu => ?_⟩
    have hu : its[j]? = some u := by simpa using hu
    exact vals_back rv hu
  | .t a, h, h1, n => by
    obtain ⟨its, rv, p, _⟩ := I.tuple h
    have e := rv.length
    have D := Draws.tuple (prog := X.prog) (w := X.w) (A := A.in1) hA J a (n a (by simp [own])) its.toArray
    rw [show its.toArray.size = xs.length from e.symm] at D
    refine ⟨_, _, D, ⟨h1, p⟩, fun j h st => st.1, fun j u hu => ?_⟩
    have hu : its[j]? = some u := by simpa using hu
    exact vals_back rv hu
  | .s x, h, h1, n => by
    obtain ⟨tk, h1⟩ := h1
    have h : xs = signs x := h
    have e : xs.length = x.cps.size := by rw [h, signs, List.length_map, Array.length_toList]
    have D := Draws.text (prog := X.prog) (w := X.w) (A := A.in1) hA J x tk
    rw [← e] at D
    refine ⟨_, _, D, h1, fun j h st => ⟨tk, st⟩, fun j u hu => ?_⟩
    obtain ⟨c, v, hc, rfl⟩ := hu
    refine ⟨.str ⟨#[c]⟩, ?_, ⟨v, rfl⟩⟩
    rw [h, signs, List.getElem?_map, Array.getElem?_toList, hc]
    rfl
end Kd

/-! ### a zip, whether or not its last tuple is still out -/
abbrev IsZipQ (h : Heap) (z TI TO : Addr) (q : Value) (f : Bool) : Prop :=
  h.get? z = some { cls := .type "zip", dict := none, data := .fields #[q, .bool f, .bool false, .ref TI, .ref TO], slots := #[] }
def OutQ (q : Value) : Prop := q = .none ∨ ∃ T : Addr, q = rawInt T
section
variable {prog : Program} {w : World} {A : Around} {E : Value → Shared → Prop} {s : Shared} {z TI TO i1 i2 : Addr} {fp1 fp2 : List Addr} {n1 n2 i : Nat} {P1 P2 : Nat → Value → Prop} {St1 St2 : Nat → Heap → Prop} {a1 a2 q : Value} {f : Bool}
theorem alive0 {a : Addr} {Q : Option Obj → Shared → Prop} (h : Q (s.heap.get? a) s) : wpAny (model prog w) A (loadIfAlive a) Q E s := fun _ _ _ => h
theorem free_or_held {Q : Bool → Shared → Prop} (hz : IsZipQ s.heap z TI TO q f) (hq : OutQ q) (ht : Q true s) (hf : ∀ (h' : Heap) (T : Addr), q = rawInt T → IsZipQ h' z TI TO (rawInt T) true → Heap.SameBut z s.heap h' → Q false { s with heap := h' }) :
    wpAny (model prog w) A (Builtin.SmallTypes.ownedTupleIsFree (.ref z)) Q E s := by
  unfold Builtin.SmallTypes.ownedTupleIsFree
  rcases hq with rfl | ⟨T, rfl⟩
  · exact wpAny_bind (wpAny_field hz rfl (x := .none) rfl (wpAny_pure ht))
  · refine wpAny_bind (wpAny_field hz rfl (x := rawInt T) rfl ?_)
    show wpAny _ _ (loadIfAlive ((T : Int).toNat) >>= _) _ _ _
    rw [Int.toNat_natCast]
    cases hT : s.heap.get? T with
    | some oT =>
      refine wpAny_bind (PySem.W.kdx_alive hT ?_)
      simp only [Option.isNone_some, Bool.false_eq_true, if_false]
      refine wpAny_bind (wpAny_field hz rfl (x := .bool f) rfl ?_)
      cases f with
      | true =>
        rw [if_neg (show ¬ ((Value.bool true != Value.bool true) = true) from Bool.false_ne_true)]
        exact wpAny_pure (hf s.heap T rfl hz (Heap.SameBut.refl _ _))
      | false =>
        rw [if_pos (show (Value.bool false != Value.bool true) = true from rfl)]
        exact wpAny_bind (wpAny_setField_rec hz (by simp) fun h₁ hz₁ hs₁ => wpAny_pure (hf h₁ T rfl hz₁ hs₁))
    | none =>
      refine wpAny_bind (alive0 ?_)
      rw [hT]
      exact wpAny_pure ht
/-- one more pair, whether the last one is out or not -/
theorem zq_item {Q : Value → Shared → Prop} (S : ZipSep2 z TI TO i1 i2 fp1 fp2) (D1 : Draws prog w A i1 fp1 n1 P1 St1) (D2 : Draws prog w A i2 fp2 n2 P2 St2) (hz : IsZipQ s.heap z TI TO q f) (hq : OutQ q)
    (hTI : IsPair s.heap TI (.ref i1) (.ref i2)) (hTO : IsPair s.heap TO a1 a2) (k1 : St1 i s.heap) (k2 : St2 i s.heap) (l1 : i < n1) (l2 : i < n2)
    (hQ : ∀ x y b1 b2 h' tk q' f', P1 i x → P2 i y → IsZipQ h' z TI TO q' f' → OutQ q' → (q = .none → q' = rawInt s.heap.objs.size ∧ f' = false) → IsPair h' TO b1 b2 → St1 (i + 1) h' → St2 (i + 1) h' → IsPair h' s.heap.objs.size x y →
      (∀ c o, c ≠ z → c ≠ TO → c ≠ i1 → c ≠ i2 → s.heap.get? c = some o → h'.get? c = some o) → Q (.ref s.heap.objs.size) { s with heap := h', toks := tk }) :
    wpAny (model prog w) A (Builtin.«zip.__next__» ⟨[.ref z], []⟩) (fun fin s' => ∃ v, fin = .done (.ret v) ∧ Q v s') E s := by
  obtain ⟨hA, gA, dA, tA, oA⟩ := s
  show wpAny _ _ (field (.ref z) 2 >>= _) _ _ _
  refine wpAny_bind (wpAny_field hz rfl (x := .bool false) rfl ?_)
  show wpAny _ _ (field (.ref z) 3 >>= _) _ _ _
  refine wpAny_bind (wpAny_field hz rfl (x := .ref TI) rfl (wpAny_bind (wpAny_seqItems hTI rfl ?_)))
  show wpAny _ _ (Builtin.SmallTypes.ownedTupleIsFree (.ref z) >>= _) _ _ _
  refine wpAny_bind (free_or_held hz hq ?_ fun hB T eT zB sB => ?_)
  · simp only [if_true]
    refine wpAny_bind (wpAny_rule (wpAny_bind (wpAny_field hz rfl (x := .ref TO) rfl (wpAny_bind (wpAny_setField_rec hz (by simp) fun hB zB sB => ?_)))))
    have zB : IsZipQ hB z TI TO .ellipsis f := zB
    have sB : Heap.SameBut z hA hB := sB
    simp only [List.zipIdx_cons, List.zipIdx_nil, List.forIn_cons, List.forIn_nil]
    refine wpAny_bind (wpAny_bind (wpAny_bind (wpAny_onRaise ?_)))
    show wpAny _ _ (Builtin.SmallTypes.nextOf (.ref i1) >>= _) _ _ ⟨hB, gA, dA, tA, oA⟩
    refine wpAny_bind (D1.item i _ _ _ l1 (D1.over k1 sB S.zf1) fun x hC tC px kx sC => wpAny_pure ?_)
    have sC : Heap.SameBut i1 hB hC := sC
    have oC : IsPair hC TO a1 a2 := sC.extBut _ _ S.Ti1 (sB.extBut _ _ S.TOz hTO)
    refine wpAny_bind (wpAny_seqItems (s := ⟨hC, gA, dA, tC, oA⟩) oC rfl (wpAny_bind (updateSeq_IsTupOf2 (s := ⟨hC, gA, dA, tC, oA⟩) oC fun hD oD sD => wpAny_bind (wpAny_letGo (wpAny_pure ?_)))))
    have oD : IsPair hD TO x a2 := oD
    have sD : Heap.SameBut TO hC hD := sD
    refine wpAny_bind (wpAny_bind (wpAny_onRaise ?_))
    show wpAny _ _ (Builtin.SmallTypes.nextOf (.ref i2) >>= _) _ _ ⟨hD, gA, dA, tC, oA⟩
    refine wpAny_bind (D2.item i _ _ _ l2 (D2.over (D2.over (D2.over k2 sB S.zf2) sC S.sep1_2) sD S.Tf2) fun y hF tF py ky sF => wpAny_pure ?_)
    have sF : Heap.SameBut i2 hD hF := sF
    have oF : IsPair hF TO x a2 := sF.extBut _ _ S.Ti2 oD
    refine wpAny_bind (wpAny_seqItems (s := ⟨hF, gA, dA, tF, oA⟩) oF rfl (wpAny_bind (updateSeq_IsTupOf2 (s := ⟨hF, gA, dA, tF, oA⟩) oF fun hG oG sG => wpAny_bind (wpAny_letGo (wpAny_pure (wpAny_pure ?_))))))
    have oG : IsPair hG TO x y := oG
    have sG : Heap.SameBut TO hF hG := sG
    refine wpAny_bind (wpAny_seqItems (s := ⟨hG, gA, dA, tF, oA⟩) oG rfl (wpAny_bind (wpAny_newTuple ?_)))
    have sz : hG.objs.size = hA.objs.size := by rw [sG.1, sF.1, sD.1, sC.1, sB.1]
    have zG : IsZipQ hG z TI TO .ellipsis f := sG.extBut _ _ S.TOz.symm (sF.extBut _ _ S.zi2 (sD.extBut _ _ S.TOz.symm (sC.extBut _ _ S.zi1 zB)))
    have kp : ∀ c o, c ≠ z → c ≠ TO → c ≠ i1 → c ≠ i2 → hA.get? c = some o → hG.get? c = some o := fun c o c1 c2 c3 c4 e => sG.extBut _ _ c2 (sF.extBut _ _ c4 (sD.extBut _ _ c2 (sC.extBut _ _ c3 (sB.extBut _ _ c1 e))))
    have m1 : St1 (i + 1) hG := D1.over (D1.over (D1.over kx sD S.Tf1) sF S.sep2_1) sG S.Tf1
    have m2 : St2 (i + 1) hG := D2.over ky sG S.Tf2
    have zl : z < hG.objs.size := Heap.lt_size zG
    show wpAny _ _ (Builtin.SmallTypes.ownedTupleHandOut (.ref z) (.ref hG.objs.size) >>= _) _ _ ⟨hG.push { cls := .type "tuple", data := .seq #[x, y] }, gA, dA, tF, oA⟩
    refine wpAny_bind ?_
    unfold Builtin.SmallTypes.ownedTupleHandOut
    have zP : IsZipQ (hG.push { cls := .type "tuple", data := .seq #[x, y] }) z TI TO .ellipsis f := Heap.get?_push_of_some _ zG
    refine wpAny_bind (wpAny_setField_rec zP (by simp) fun hU zU sU => ?_)
    have zU : IsZipQ hU z TI TO (rawInt hG.objs.size) f := zU
    refine wpAny_setField_rec zU (by simp) fun hV zV sV => ?_
    have zV : IsZipQ hV z TI TO (rawInt hG.objs.size) false := zV
    have sU : Heap.SameBut z (hG.push { cls := .type "tuple", data := .seq #[x, y] }) hU := sU
    have sV : Heap.SameBut z hU hV := sV
    have up : ∀ c o, c ≠ z → hG.get? c = some o → hV.get? c = some o := fun c o c1 e => sV.extBut _ _ c1 (sU.extBut _ _ c1 (Heap.get?_push_of_some _ e))
    have pV : IsPair hV hG.objs.size x y := sV.extBut _ _ (Nat.ne_of_gt zl) (sU.extBut _ _ (Nat.ne_of_gt zl) (Heap.get?_push_size _ rfl))
    refine wpAny_pure ⟨_, rfl, ?_⟩
    rw [sz] at pV zV
    show Q (.ref hG.objs.size) ⟨hV, gA, dA, tF, oA⟩
    rw [sz]
    exact hQ x y x y hV tF _ _ px py zV (.inr ⟨_, rfl⟩) (fun _ => ⟨rfl, rfl⟩) (up _ _ S.TOz oG) (D1.frame _ _ _ m1 fun b hb o e => up b o (fun z' => S.zf1 (z' ▸ hb)) e) (D2.frame _ _ _ m2 fun b hb o e => up b o (fun z' => S.zf2 (z' ▸ hb)) e) pV fun c o c1 c2 c3 c4 e => up c o c1 (kp c o c1 c2 c3 c4 e)
  · have sB : Heap.SameBut z hA hB := sB
    simp only [Bool.false_eq_true, if_false]
    refine wpAny_bind ?_
    rw [← Array.forIn_toList]
    simp only [List.forIn_cons, List.forIn_nil]
    refine wpAny_bind (wpAny_bind (wpAny_holding ?_))
    show wpAny _ _ (Builtin.SmallTypes.nextOf (.ref i1) >>= _) _ _ _
    refine wpAny_bind (D1.item i _ _ _ l1 (D1.over k1 sB S.zf1) fun x hC tC px kx sC => wpAny_pure (wpAny_pure ?_))
    have sC : Heap.SameBut i1 hB hC := sC
    refine wpAny_bind (wpAny_bind (wpAny_holding ?_))
    show wpAny _ _ (Builtin.SmallTypes.nextOf (.ref i2) >>= _) _ _ _
    refine wpAny_bind (D2.item i _ _ _ l2 (D2.over (D2.over k2 sB S.zf2) sC S.sep1_2) fun y hF tF py ky sF => wpAny_pure (wpAny_pure (wpAny_pure ?_)))
    have sF : Heap.SameBut i2 hC hF := sF
    show wpAny _ _ (newTuple [x, y] >>= _) _ _ _
    refine wpAny_bind (wpAny_newTuple (wpAny_pure ⟨_, rfl, ?_⟩))
    have sz : hF.objs.size = hA.objs.size := by rw [sF.1, sC.1, sB.1]
    have zF : IsZipQ hF z TI TO (rawInt T) true := sF.extBut _ _ S.zi2 (sC.extBut _ _ S.zi1 zB)
    have oF : IsPair hF TO a1 a2 := sF.extBut _ _ S.Ti2 (sC.extBut _ _ S.Ti1 (sB.extBut _ _ S.TOz hTO))
    have up : ∀ c o, hF.get? c = some o → (hF.push { cls := .type "tuple", data := .seq #[x, y] }).get? c = some o := fun c o e => Heap.get?_push_of_some _ e
    have pV : IsPair (hF.push { cls := .type "tuple", data := .seq #[x, y] }) hF.objs.size x y := Heap.get?_push_size _ rfl
    show Q (.ref hF.objs.size) _
    rw [sz] at pV ⊢
    exact hQ x y a1 a2 _ tF _ _ px py (up _ _ zF) (.inr ⟨T, rfl⟩) (fun z' => by rw [eT] at z'; cases z') (up _ _ oF) (D1.frame _ _ _ (D1.over kx sF S.sep2_1) fun b hb o e => up b o e) (D2.frame _ _ _ ky fun b hb o e => up b o e) pV fun c o c1 c2 c3 c4 e => up c o (sF.extBut _ _ c4 (sC.extBut _ _ c3 (sB.extBut _ _ c1 e)))
theorem zq_end {Q : Fin → Shared → Prop} (S : ZipSep2 z TI TO i1 i2 fp1 fp2) (D1 : Draws prog w A i1 fp1 n1 P1 St1) (D2 : Draws prog w A i2 fp2 n2 P2 St2) (hz : IsZipQ s.heap z TI TO q f) (hq : OutQ q)
    (hTI : IsPair s.heap TI (.ref i1) (.ref i2)) (hTO : IsPair s.heap TO a1 a2) (k1 : St1 i s.heap) (k2 : St2 i s.heap) (l1 : i ≤ n1) (l2 : i ≤ n2) (le : i = n1 ∨ i = n2)
    (hE : ∀ h' tk e, (∀ c o, c ≠ z → c ≠ TO → c ≠ i1 → c ≠ i2 → s.heap.get? c = some o → h'.get? c = some o) → (∃ o, h'.get? e = some o ∧ o.cls = .type "StopIteration") → E (.ref e) { s with heap := h', toks := tk }) :
    wpAny (model prog w) A (Builtin.«zip.__next__» ⟨[.ref z], []⟩) Q E s := by
  obtain ⟨hA, gA, dA, tA, oA⟩ := s
  show wpAny _ _ (field (.ref z) 2 >>= _) _ _ _
  refine wpAny_bind (wpAny_field hz rfl (x := .bool false) rfl ?_)
  show wpAny _ _ (field (.ref z) 3 >>= _) _ _ _
  refine wpAny_bind (wpAny_field hz rfl (x := .ref TI) rfl (wpAny_bind (wpAny_seqItems hTI rfl ?_)))
  show wpAny _ _ (Builtin.SmallTypes.ownedTupleIsFree (.ref z) >>= _) _ _ _
  refine wpAny_bind (free_or_held hz hq ?_ fun hB T eT zB sB => ?_)
  · simp only [if_true]
    refine wpAny_bind (wpAny_rule (wpAny_bind (wpAny_field hz rfl (x := .ref TO) rfl (wpAny_bind (wpAny_setField_rec hz (by simp) fun hB zB sB => ?_)))))
    have zB : IsZipQ hB z TI TO .ellipsis f := zB
    have sB : Heap.SameBut z hA hB := sB
    have out : ∀ (hU : Heap) (tU : Nat) (hV : Heap) (ib : Addr) (e : Addr), ib ≠ z → (∀ c o, c ≠ z → c ≠ TO → c ≠ i1 → c ≠ i2 → hA.get? c = some o → hU.get? c = some o) → IsZipQ hU z TI TO .ellipsis f → (ib = i1 ∨ ib = i2) → Heap.ExtBut ib hU hV → (∃ o, hV.get? e = some o ∧ o.cls = .type "StopIteration") →
        wpAny (model prog w) A (setField (.ref z) 0 .none) (fun _ s' => E (.ref e) s') (fun e' s' => E e' s') ⟨hV, gA, dA, tU, oA⟩ := fun hU tU hV ib e nb kU zU hib eV ⟨oe, he, ce⟩ => by
      have zV : IsZipQ hV z TI TO .ellipsis f := eV _ _ nb.symm zU
      have ne : e ≠ z := fun x => by subst x; rw [zV] at he; cases he; simp at ce
      refine wpAny_setField_rec (s := ⟨hV, gA, dA, tU, oA⟩) zV (by simp) fun hW _ sW => ?_
      have sW : Heap.SameBut z hV hW := sW
      exact hE hW tU e (fun c o c1 c2 c3 c4 x => sW.extBut _ _ c1 (eV _ _ (by rcases hib with r | r <;> rw [r] <;> assumption) (kU c o c1 c2 c3 c4 x))) ⟨oe, sW.extBut _ _ ne he, ce⟩
    simp only [List.zipIdx_cons, List.zipIdx_nil, List.forIn_cons, List.forIn_nil]
    refine wpAny_bind (wpAny_bind (wpAny_bind (wpAny_onRaise ?_)))
    show wpAny _ _ (Builtin.SmallTypes.nextOf (.ref i1) >>= _) _ _ ⟨hB, gA, dA, tA, oA⟩
    by_cases lt1 : i < n1
    · refine wpAny_bind (D1.item i _ _ _ lt1 (D1.over k1 sB S.zf1) fun x hC tC px kx sC => wpAny_pure ?_)
      have sC : Heap.SameBut i1 hB hC := sC
      have oC : IsPair hC TO a1 a2 := sC.extBut _ _ S.Ti1 (sB.extBut _ _ S.TOz hTO)
      refine wpAny_bind (wpAny_seqItems (s := ⟨hC, gA, dA, tC, oA⟩) oC rfl (wpAny_bind (updateSeq_IsTupOf2 (s := ⟨hC, gA, dA, tC, oA⟩) oC fun hD oD sD => wpAny_bind (wpAny_letGo (wpAny_pure ?_)))))
      have sD : Heap.SameBut TO hC hD := sD
      have e2 : i = n2 := by omega
      refine wpAny_bind (wpAny_bind (wpAny_onRaise ?_))
      show wpAny _ _ (Builtin.SmallTypes.nextOf (.ref i2) >>= _) _ _ ⟨hD, gA, dA, tC, oA⟩
      refine wpAny_bind (D2.done ⟨hD, gA, dA, tC, oA⟩ _ _ (by rw [← e2]; exact D2.over (D2.over (D2.over k2 sB S.zf2) sC S.sep1_2) sD S.Tf2) fun hV e eV he => ?_)
      exact out hD tC hV i2 e S.zi2.symm (fun c o c1 c2 c3 c4 x => sD.extBut _ _ c2 (sC.extBut _ _ c3 (sB.extBut _ _ c1 x))) (sD.extBut _ _ S.TOz.symm (sC.extBut _ _ S.zi1 zB)) (.inr rfl) eV he
    · have e1 : i = n1 := by omega
      refine wpAny_bind (D1.done ⟨hB, gA, dA, tA, oA⟩ _ _ (by rw [← e1]; exact D1.over k1 sB S.zf1) fun hV e eV he => ?_)
      exact out hB tA hV i1 e S.zi1.symm (fun c o c1 c2 c3 c4 x => sB.extBut _ _ c1 x) zB (.inl rfl) eV he
  · have sB : Heap.SameBut z hA hB := sB
    simp only [Bool.false_eq_true, if_false]
    refine wpAny_bind ?_
    rw [← Array.forIn_toList]
    simp only [List.forIn_cons, List.forIn_nil]
    refine wpAny_bind (wpAny_bind (wpAny_holding ?_))
    show wpAny _ _ (Builtin.SmallTypes.nextOf (.ref i1) >>= _) _ _ _
    by_cases lt1 : i < n1
    · refine wpAny_bind (D1.item i _ _ _ lt1 (D1.over k1 sB S.zf1) fun x hC tC px kx sC => wpAny_pure (wpAny_pure ?_))
      have sC : Heap.SameBut i1 hB hC := sC
      have e2 : i = n2 := by omega
      refine wpAny_bind (wpAny_bind (wpAny_holding ?_))
      show wpAny _ _ (Builtin.SmallTypes.nextOf (.ref i2) >>= _) _ _ _
      refine wpAny_bind (D2.done _ _ _ (by rw [← e2]; exact D2.over (D2.over k2 sB S.zf2) sC S.sep1_2) fun hV e eV he => ?_)
      have eV : Heap.ExtBut i2 hC hV := eV
      exact hE hV tC e (fun c o c1 c2 c3 c4 x => eV _ _ c4 (sC.extBut _ _ c3 (sB.extBut _ _ c1 x))) he
    · have e1 : i = n1 := by omega
      refine wpAny_bind (D1.done _ _ _ (by rw [← e1]; exact D1.over k1 sB S.zf1) fun hV e eV he => ?_)
      have eV : Heap.ExtBut i1 hB hV := eV
      exact hE hV tA e (fun c o c1 c2 c3 c4 x => eV _ _ c3 (sB.extBut _ _ c1 x)) he

theorem zqn_item {Q : Option Value → Shared → Prop} (S : ZipSep2 z TI TO i1 i2 fp1 fp2) (D1 : Draws prog w A.in1 i1 fp1 n1 P1 St1) (D2 : Draws prog w A.in1 i2 fp2 n2 P2 St2) (hz : IsZipQ s.heap z TI TO q f) (hq : OutQ q)
    (hTI : IsPair s.heap TI (.ref i1) (.ref i2)) (hTO : IsPair s.heap TO a1 a2) (k1 : St1 i s.heap) (k2 : St2 i s.heap) (l1 : i < n1) (l2 : i < n2)
    (hQ : ∀ x y b1 b2 h' tk q' f', P1 i x → P2 i y → IsZipQ h' z TI TO q' f' → OutQ q' → (q = .none → q' = rawInt s.heap.objs.size ∧ f' = false) → IsPair h' TO b1 b2 → St1 (i + 1) h' → St2 (i + 1) h' → IsPair h' s.heap.objs.size x y →
      (∀ c o, c ≠ z → c ≠ TO → c ≠ i1 → c ≠ i2 → s.heap.get? c = some o → h'.get? c = some o) → Q (some (.ref s.heap.objs.size)) { s with heap := h', toks := tk }) :
    wpAny (model prog w) A (pyNext (.ref z)) Q E s := by
  have ty : s.TypeIs (.ref z) "zip" := ⟨_, hz, rfl⟩
  unfold pyNext
  exact wpAny_bind (wpAny_attempt (wpAny_callSpecial?_slot (name := Str.ofString "__next__") ty F.slot_zip_next (wpAny_call_entry F.slot_zip_next ty F.entry_zip_next
    (zq_item S D1 D2 hz hq hTI hTO k1 k2 l1 l2 fun x y b1 b2 h' tk q' f' c1 c2 c3 c4 c5 c6 c7 c8 c9 c10 => wpAny_pure (hQ x y b1 b2 h' tk q' f' c1 c2 c3 c4 c5 c6 c7 c8 c9 c10)) (F.args_zip_next_1 _))))
theorem zqn_end {Q : Option Value → Shared → Prop} (S : ZipSep2 z TI TO i1 i2 fp1 fp2) (D1 : Draws prog w A.in1 i1 fp1 n1 P1 St1) (D2 : Draws prog w A.in1 i2 fp2 n2 P2 St2) (hz : IsZipQ s.heap z TI TO q f) (hq : OutQ q)
    (hTI : IsPair s.heap TI (.ref i1) (.ref i2)) (hTO : IsPair s.heap TO a1 a2) (k1 : St1 i s.heap) (k2 : St2 i s.heap) (l1 : i ≤ n1) (l2 : i ≤ n2) (le : i = n1 ∨ i = n2)
    (hQ : ∀ h' tk, (∀ c o, c ≠ z → c ≠ TO → c ≠ i1 → c ≠ i2 → s.heap.get? c = some o → h'.get? c = some o) → Q none { s with heap := h', toks := tk }) : wpAny (model prog w) A (pyNext (.ref z)) Q E s := by
  have ty : s.TypeIs (.ref z) "zip" := ⟨_, hz, rfl⟩
  unfold pyNext
  refine wpAny_bind (wpAny_attempt (wpAny_callSpecial?_slot (name := Str.ofString "__next__") ty F.slot_zip_next (wpAny_call_entry F.slot_zip_next ty F.entry_zip_next (zq_end S D1 D2 hz hq hTI hTO k1 k2 l1 l2 le fun h' tk e kp ⟨o, ho, hc⟩ => ?_) (F.args_zip_next_1 _))))
  exact wpAny_bind (wpAny_isInstance (T := "StopIteration") (b := true) ⟨o, ho, hc⟩ isSubtype_stop (wpAny_pure (hQ _ _ kp)))
end
/-! ### the loop -/
def ItG (K : PySem.W.Frag) (k1 k2 : Kd) : It :=
  ⟨fun i H => ∃ xs ys, k1.src K H xs ∧ k2.src K H ys ∧ i < xs.length ∧ i < ys.length,
    fun i H v H' => ∃ T x y, v = .ref T ∧ H T = none ∧ H' = upd H T (.tup [x, y]) ∧ (∀ xs, k1.src K H xs → xs[i]? = some x) ∧ ∀ ys, k2.src K H ys → ys[i]? = some y,
    fun i H => ∃ xs ys, k1.src K H xs ∧ k2.src K H ys ∧ i ≤ xs.length ∧ i ≤ ys.length ∧ (i = xs.length ∨ i = ys.length)⟩
theorem walk_G2 {K : PySem.W.Frag} {k1 k2 : Kd} {xs ys : List V} {n : Nat} (hn : n = min xs.length ys.length) : Walk (ItG K k1 k2) n (fun H => k1.src K H xs ∧ k2.src K H ys) (YPair (fun i => xs[i]?) (fun i => ys[i]?)) := by
  subst hn
  exact ⟨fun i H hi ⟨h1, h2⟩ => ⟨xs, ys, h1, h2, by omega, by omega⟩, fun H ⟨h1, h2⟩ => ⟨xs, ys, h1, h2, by omega, by omega, by omega⟩, fun i H v H' _ ⟨h1, h2⟩ ⟨T, x, y, e, hT, e', f1, f2⟩ => ⟨T, x, y, e, hT, e', f1 xs h1, f2 ys h2⟩⟩
def TnZ (k1 k2 : Kd) (z TI TO i1 i2 : Addr) (nm : Bool) (i : Nat) (h : Heap) : Prop := (∃ q f, IsZipQ h z TI TO q f ∧ OutQ q ∧ (nm = false → q = .none ∧ f = false)) ∧ IsPair h TI (.ref i1) (.ref i2) ∧ (∃ x y, IsPair h TO x y) ∧ k1.at_ h i1 i ∧ k2.at_ h i2 i
section
variable {P : Program} {w : World} {K : PySem.W.Frag} {tg : Expr} {z TI TO i1 i2 : Addr} {k1 k2 : Kd} {i : Nat} {h : Heap}
theorem tnz_mem {nm : Bool} (st : TnZ k1 k2 z TI TO i1 i2 nm i h) : ∀ c ∈ [z, TI, TO, i1, i2], ∃ o, h.get? c = some o ∧ ∀ v, o.data ≠ .cell v := fun c hc => by
  obtain ⟨⟨q, f, hz, _⟩, hTI, ⟨x, y, hTO⟩, h1, h2⟩ := st
  have e' : c = z ∨ c = TI ∨ c = TO ∨ c = i1 ∨ c = i2 := by simpa using hc
  rcases e' with rfl | rfl | rfl | rfl | rfl
  · exact ⟨_, hz, fun v q => nomatch q⟩
  · exact ⟨_, hTI, fun v q => nomatch q⟩
  · exact ⟨_, hTO, fun v q => nomatch q⟩
  · exact Kd.at_obj h1
  · exact Kd.at_obj h2
theorem tnz_keep {nm : Bool} {h' : Heap} (st : TnZ k1 k2 z TI TO i1 i2 nm i h) (k : ∀ b ∈ [z, TI, TO, i1, i2], ∀ o, h.get? b = some o → h'.get? b = some o) : TnZ k1 k2 z TI TO i1 i2 nm i h' := by
  obtain ⟨⟨q, f, hz, hq⟩, hTI, ⟨x, y, hTO⟩, h1, h2⟩ := st
  exact ⟨⟨q, f, k z (by simp) _ hz, hq⟩, k TI (by simp) _ hTI, ⟨x, y, k TO (by simp) _ hTO⟩, Kd.at_keep (fun o e => k i1 (by simp) o e) h1, Kd.at_keep (fun o e => k i2 (by simp) o e) h2⟩

theorem iter_zq {prog : Program} {A : Around} {E : Value → Shared → Prop} {s : Shared} {q : Value} {f : Bool} {Q : Value → Shared → Prop} (hz : IsZipQ s.heap z TI TO q f) (k : Q (.ref z) s) : wpAny (model prog w) A (pyIter (.ref z)) Q E s := by
  have ty : s.TypeIs (.ref z) "zip" := ⟨_, hz, rfl⟩
  refine wpAny_pyIter_slot ty F.slot_zip_iter (wpAny_call_entry F.slot_zip_iter ty F.entry_zip_iter ?_ (F.args_zip_iter_1 _))
  exact wpAny_pure ⟨_, rfl, "zip", _, ty, F.slot_zip_next.lookup, k⟩
/-- the walk, for a target whose step ahead of the store keeps the state's form -/
theorem turn_G {nm : Bool} (S : ZipSep2 z TI TO i1 i2 (i1 :: k1.own) (i2 :: k2.own)) (ne1 : ∀ a ∈ k1.own, a ≠ i1) (ne2 : ∀ a ∈ k2.own, a ≠ i2)
    (go : ∀ (A : Around) (E : Value → Shared → Prop) (s : Shared) (T : Addr) (Q : Unit → Shared → Prop) (q : Value) (f : Bool), IsZipQ s.heap z TI TO q f → OutQ q → (nm = false → q = rawInt T ∧ f = false) →
      (∀ h' q' f', IsZipQ h' z TI TO q' f' → OutQ q' → (nm = false → q' = .none ∧ f' = false) → Heap.SameBut z s.heap h' → Q () { s with heap := h' }) → wpAny (model P w) A (letOwnedTupleGo tg (.ref z) (.ref T)) Q E s) :
    Turn P w K tg (ItG K k1 k2) [z, TI, TO, i1, i2] z (TnZ k1 k2 z TI TO i1 i2 nm) where
  mem := by simp
  obj := fun i h st => tnz_mem st
  keep := fun i h h' st k => tnz_keep st k
  item := by
    intro X hP hw hK hc i pins s σ H E I hf st hg
    subst hP hw hK
    have st0 := st
    obtain ⟨⟨q, f, hz, hq, hnm⟩, hTI, ⟨x0, y0, hTO⟩, h1, h2⟩ := st
    obtain ⟨xs, ys, s1, s2, l1, l2⟩ := hg
    have lt : ∀ c ∈ [z, TI, TO, i1, i2], c < s.heap.objs.size := fun c hc => by
      obtain ⟨o, e, _⟩ := tnz_mem st0 c hc
      exact Heap.lt_size e
    have zl := lt z (by simp)
    obtain ⟨P1, St1, D1, t1, f1, g1⟩ := Kd.draws (I.ok.hd hc) I s1 h1 ne1
    obtain ⟨P2, St2, D2, t2, f2, g2⟩ := Kd.draws (I.ok.hd hc) I s2 h2 ne2
    refine zqn_item S D1 D2 hz hq hTI hTO t1 t2 l1 l2 fun u v b1 b2 h' tk q' f' p1 p2 z' hq' hqn TO' t1' t2' hT hk => ⟨_, rfl, ?_⟩
    refine go X.A E { s with heap := h', toks := tk } s.heap.objs.size _ q' f' z' hq' (fun e => hqn (hnm e).1) fun h'' q'' f'' z'' hq'' hn'' sb => ?_
    have sb : Heap.SameBut z h' h'' := sb
    obtain ⟨x, ex, rx⟩ := g1 i u p1
    obtain ⟨y, ey, ry⟩ := g2 i v p2
    have hT2 : IsPair h'' s.heap.objs.size u v := sb.extBut _ _ (Nat.ne_of_gt zl) hT
    have new : ObjOk X.prog X.w (upd H s.heap.objs.size (.tup [x, y])) h'' s.heap.objs.size (.tup [x, y]) := ⟨by show 2 ≤ sizeLine; decide, [u, v], .cons rx (.cons ry .nil), ⟨_, hT2, rfl, _, rfl⟩⟩
    have I1 : Inv X pins σ (upd H s.heap.objs.size (.tup [x, y])) { s with heap := h'', toks := tk } :=
      I.turnedNew (t' := tk) (ch := [z, TI, TO, i1, i2]) (fun c o hb e => sb.extBut c o (fun e' => hb (by simp [e'])) (hk c o (fun e' => hb (by simp [e'])) (fun e' => hb (by simp [e'])) (fun e' => hb (by simp [e'])) (fun e' => hb (by simp [e'])) e)) hf (Nat.le_refl _) new
    refine ⟨.ref s.heap.objs.size, _, I1, rfl, ⟨_, x, y, rfl, I.hok.fresh (Nat.le_refl _), rfl, fun l hl => by rw [Kd.src_inj I hl s1]; exact ex, fun l hl => by rw [Kd.src_inj I hl s2]; exact ey⟩, ⟨⟨q'', f'', z'', hq'', hn''⟩, ?_, ⟨b1, b2, sb.extBut _ _ S.TOz TO'⟩, ?_, ?_⟩, fun c hcm => ?_⟩
    · exact sb.extBut _ _ S.TIz (hk _ _ S.TIz S.TITO S.TIi1 S.TIi2 hTI)
    · exact Kd.at_keep (fun o e => sb.extBut _ _ S.zi1.symm e) (f1 _ _ t1')
    · exact Kd.at_keep (fun o e => sb.extBut _ _ S.zi2.symm e) (f2 _ _ t2')
    · rw [upd_ne (Nat.ne_of_lt (lt c hcm))]
      exact (hf c hcm).1
  done := by
    intro X hP hw hK hc i pins s σ H E I hf st hg
    subst hP hw hK
    obtain ⟨⟨q, f, hz, hq, hnm⟩, hTI, ⟨x0, y0, hTO⟩, h1, h2⟩ := st
    obtain ⟨xs, ys, s1, s2, l1, l2, le⟩ := hg
    obtain ⟨P1, St1, D1, t1, f1, g1⟩ := Kd.draws (I.ok.hd hc) I s1 h1 ne1
    obtain ⟨P2, St2, D2, t2, f2, g2⟩ := Kd.draws (I.ok.hd hc) I s2 h2 ne2
    exact zqn_end S D1 D2 hz hq hTI hTO t1 t2 l1 l2 le fun h' tk hk => ⟨rfl, I.turnedL (t' := tk) (ch := [z, TI, TO, i1, i2]) (fun c o hb e => hk c o (fun e' => hb (by simp [e'])) (fun e' => hb (by simp [e'])) (fun e' => hb (by simp [e'])) (fun e' => hb (by simp [e'])) e) hf⟩
  self := fun A i s Q E st h => by
    obtain ⟨⟨q, f, hz, _⟩, _⟩ := st
    exact iter_zq hz h
theorem go_tup {elts : List Expr} {kk : Nat} {tpos : Pos} (A : Around) (E : Value → Shared → Prop) (s : Shared) (T : Addr) (Q : Unit → Shared → Prop) (q : Value) (f : Bool) (hz : IsZipQ s.heap z TI TO q f) (_ : OutQ q) (hn : false = false → q = rawInt T ∧ f = false)
      (k : ∀ h' q' f', IsZipQ h' z TI TO q' f' → OutQ q' → (false = false → q' = .none ∧ f' = false) → Heap.SameBut z s.heap h' → Q () { s with heap := h' }) : wpAny (model P w) A (letOwnedTupleGo (.Tuple elts kk tpos) (.ref z) (.ref T)) Q E s := by
  obtain ⟨rfl, rfl⟩ := hn rfl
  exact wpAny_letOwnedTupleGo_zip hz fun h' hz' sb => k h' _ _ hz' (.inl rfl) (fun _ => ⟨rfl, rfl⟩) sb
theorem go_name {y : Str} {tpos : Pos} (A : Around) (E : Value → Shared → Prop) (s : Shared) (T : Addr) (Q : Unit → Shared → Prop) (q : Value) (f : Bool) (hz : IsZipQ s.heap z TI TO q f) (hq : OutQ q) (_ : true = false → q = rawInt T ∧ f = false)
      (k : ∀ h' q' f', IsZipQ h' z TI TO q' f' → OutQ q' → (true = false → q' = .none ∧ f' = false) → Heap.SameBut z s.heap h' → Q () { s with heap := h' }) : wpAny (model P w) A (letOwnedTupleGo (.Name y tpos) (.ref z) (.ref T)) Q E s :=
  wpAny_pure (k s.heap q f hz hq (fun e => by cases e) (Heap.SameBut.refl _ _))
end
/-! ### zip begins -/
theorem Kd.begins {X : Cx} {pins : List (Addr × Obj)} {σ : L2.St} {H : Hp} {s : Shared} (I : Inv X pins σ H s) {xs : List V} : ∀ {k : Kd} {u : Value}, k.src X.K H xs → RelV k.val u → ∃ (o : Obj) (Hs : Heap → Prop), Begins u o Hs ∧ Hs s.heap ∧ ∀ h J, h.get? J = some o → k.at_ h J 0
  | .l a, u, h, r => by
    obtain rfl : u = Value.ref a := r
    obtain ⟨its, _, p, _⟩ := I.list h
    exact ⟨_, _, begins_list a its.toArray, p.isList, fun h J e => ⟨_, e, rfl, rfl⟩⟩
  | .t a, u, h, r => by
    obtain rfl : u = Value.ref a := r
    obtain ⟨its, _, p, _⟩ := I.tuple h
    exact ⟨_, _, begins_tuple a its.toArray, p, fun h J e => ⟨_, e, rfl, rfl⟩⟩
  | .s x, u, h, r => by
    obtain ⟨tk, rfl⟩ := r
    exact ⟨_, _, begins_text x tk, trivial, fun h J e => ⟨tk, _, e, rfl, rfl⟩⟩
section
variable {X : Cx} {σ : L2.St} {H : Hp} {a b : Expr} {p pos tpos : Pos} {elts : List Expr} {kk : Nat} {W : WX} {k : Nat}
/-- a zip is made -/
theorem zip_made {pins : List (Addr × Obj)} {s : Shared} {k1 k2 : Kd} {xs ys : List V} {u1 u2 : Value} {Q : Value → Shared → Prop} {E : Value → Shared → Prop} (I : Inv X pins σ H s) (s1 : k1.src X.K H xs) (s2 : k2.src X.K H ys) (r1 : RelV k1.val u1) (r2 : RelV k2.val u2)
    (h : ∀ (h' : Heap), Inv X pins σ H { s with heap := h' } → ZipSep2 (s.heap.objs.size + 4) (s.heap.objs.size + 2) (s.heap.objs.size + 3) s.heap.objs.size (s.heap.objs.size + 1) (s.heap.objs.size :: k1.own) ((s.heap.objs.size + 1) :: k2.own) → (∀ a ∈ k1.own, a < s.heap.objs.size) → (∀ a ∈ k2.own, a < s.heap.objs.size) →
      TnZ k1 k2 (s.heap.objs.size + 4) (s.heap.objs.size + 2) (s.heap.objs.size + 3) s.heap.objs.size (s.heap.objs.size + 1) false 0 h' → h'.objs.size = s.heap.objs.size + 5 → (∀ c o, s.heap.get? c = some o → h'.get? c = some o) →
      (∀ c ∈ [s.heap.objs.size + 4, s.heap.objs.size + 2, s.heap.objs.size + 3, s.heap.objs.size, s.heap.objs.size + 1], FpOk X pins H c) → Q (.ref (s.heap.objs.size + 4)) { s with heap := h' }) :
    wpAny (model X.prog X.w) X.A (call (.type "zip") [u1, u2]) Q E s := by
  obtain ⟨o1, H1, B1, c1, d1⟩ := Kd.begins I s1 r1
  obtain ⟨o2, H2, B2, c2, d2⟩ := Kd.begins I s2 r2
  refine zip_begins2 B1 B2 c1 c2 fun h' hz hTI hTO h1 h2 hsz hk => h h' (I.kept (t' := s.toks) hk) (zip_sep2 (Kd.own_lt I s1) (Kd.own_lt I s2)) (Kd.own_lt I s1) (Kd.own_lt I s2) ⟨⟨_, _, hz, .inl rfl, fun _ => ⟨rfl, rfl⟩⟩, hTI, ⟨_, _, hTO⟩, d1 _ _ h1, d2 _ _ h2⟩ hsz hk fun c hcm => ?_
  have e' : c = s.heap.objs.size + 4 ∨ c = s.heap.objs.size + 2 ∨ c = s.heap.objs.size + 3 ∨ c = s.heap.objs.size ∨ c = s.heap.objs.size + 1 := by simpa using hcm
  have hle : s.heap.objs.size ≤ c := by omega
  exact I.fpOk hle (I.hok.fresh hle)
theorem TnZ.any {k1 k2 : Kd} {z TI TO i1 i2 : Addr} {i : Nat} {h : Heap} {nm : Bool} (t : TnZ k1 k2 z TI TO i1 i2 false i h) : TnZ k1 k2 z TI TO i1 i2 nm i h := by
  obtain ⟨⟨q, f, hz, hq, hn⟩, r⟩ := t
  exact ⟨⟨q, f, hz, hq, fun _ => hn rfl⟩, r⟩
theorem i_zipK {tg : Expr} {R : It → Hp → Prop} (nm : Bool) (B : Blt X.mg X.base) (go : ∀ (z TI TO : Addr) (A : Around) (E : Value → Shared → Prop) (s : Shared) (T : Addr) (Q : Unit → Shared → Prop) (q : Value) (f : Bool), IsZipQ s.heap z TI TO q f → OutQ q → (nm = false → q = rawInt T ∧ f = false) →
      (∀ h' q' f', IsZipQ h' z TI TO q' f' → OutQ q' → (nm = false → q' = .none ∧ f' = false) → Heap.SameBut z s.heap h' → Q () { s with heap := h' }) → wpAny (model X.prog X.w) A (letOwnedTupleGo tg (.ref z) (.ref T)) Q E s)
    (h : wE X a σ H fun v H1 => wE X b σ H1 fun u H2 => ∃ (k1 k2 : Kd) (xs ys : List V), v = k1.val ∧ u = k2.val ∧ k1.src X.K H2 xs ∧ k2.src X.K H2 ys ∧ R (ItG X.K k1 k2) H2) (hg : Gl X "zip" := by rfl)
    (hs : starEach [a, b] X.env = (false, eval a X.env) :: starEach [b] X.env := by rfl) (hs2 : starEach [b] X.env = [(false, eval b X.env)] := by rfl) :
    wI X tg (.Call (.Name "zip" p) [a, b] [] pos) σ H R := by
  have ha : wA X [a, b] σ H fun vs H2 => ∃ (k1 k2 : Kd) (xs ys : List V), vs = [k1.val, k2.val] ∧ k1.src X.K H2 xs ∧ k2.src X.K H2 ys ∧ R (ItG X.K k1 k2) H2 :=
    a_cons (wE_mono h fun v H1 q => a_cons (wE_mono q fun u H2 ⟨k1, k2, xs, ys, e1, e2, r⟩ => a_nil ⟨k1, k2, xs, ys, by rw [e1, e2], r⟩) hs2) hs
  refine ⟨fun pins s I => ?_⟩
  refine Call_ (ld_blt I hg B.zip PyProof.Rows.boot_zip (PyProof.Rows.callWith_type1 (thn (ha.run pos pins _ I) fun us s1 ⟨vs, H1, I1, r1, q1⟩ => ?_) hs (by rw [hs2]; rfl)))
  obtain ⟨k1, k2, xs, ys, ex, c1, c2, q⟩ := q1
  subst ex
  obtain ⟨u1, u2, rfl, ra, rb⟩ := vals2 r1
  refine zip_made I1 c1 c2 ra rb fun h' I2 S w1 w2 st hsz hk fp => ?_
  obtain ⟨⟨_, _, hz, _⟩, _⟩ := id st
  exact iter_zq hz ⟨_, _, _, _, H1, rfl, I2, turn_G (nm := nm) S (fun a ha => Nat.ne_of_lt (w1 a ha)) (fun a ha => Nat.ne_of_lt (Nat.lt_succ_of_lt (w2 a ha))) (go _ _ _), st.any, fp, q⟩
/-- for x, y in zip(a, b) -/
theorem i_zip2 {R : It → Hp → Prop} (B : Blt X.mg X.base) (h : wE X a σ H fun v H1 => wE X b σ H1 fun u H2 => ∃ (k1 k2 : Kd) (xs ys : List V), v = k1.val ∧ u = k2.val ∧ k1.src X.K H2 xs ∧ k2.src X.K H2 ys ∧ R (ItG X.K k1 k2) H2) (hg : Gl X "zip" := by rfl)
    (hs : starEach [a, b] X.env = (false, eval a X.env) :: starEach [b] X.env := by rfl) (hs2 : starEach [b] X.env = [(false, eval b X.env)] := by rfl) :
    wI X (.Tuple elts kk tpos) (.Call (.Name "zip" p) [a, b] [] pos) σ H R := i_zipK false B (fun _ _ _ => go_tup) h hg hs hs2
/-- for p in zip(a, b) -/
theorem i_zip1 {R : It → Hp → Prop} {y : Str} (B : Blt X.mg X.base) (h : wE X a σ H fun v H1 => wE X b σ H1 fun u H2 => ∃ (k1 k2 : Kd) (xs ys : List V), v = k1.val ∧ u = k2.val ∧ k1.src X.K H2 xs ∧ k2.src X.K H2 ys ∧ R (ItG X.K k1 k2) H2) (hg : Gl X "zip" := by rfl)
    (hs : starEach [a, b] X.env = (false, eval a X.env) :: starEach [b] X.env := by rfl) (hs2 : starEach [b] X.env = [(false, eval b X.env)] := by rfl) :
    wI X (.Name y tpos) (.Call (.Name "zip" p) [a, b] [] pos) σ H R := i_zipK true B (fun _ _ _ => go_name) h hg hs hs2
end

/-! ### list(zip(..)) -/
theorem ne_ge {x lo a : Addr} (h : x < lo) (k : lo ≤ a) : a ≠ x := Nat.ne_of_gt (Nat.lt_of_lt_of_le h k)
/-- the pairs that were made -/
def MadeZ (P1 P2 : Nat → Value → Prop) (lo : Addr) (h : Heap) (as : List Addr) : Prop := as.Pairwise (· < ·) ∧ ∀ (j : Nat) (a : Addr), as[j]? = some a → lo ≤ a ∧ ∃ x y, P1 j x ∧ P2 j y ∧ IsPair h a x y
section
variable {prog : Program} {w : World} {A : Around} {s : Shared} {R : Result → Shared → Prop} {z TI TO i1 i2 S lo : Addr} {fp1 fp2 : List Addr} {n1 n2 : Nat} {P1 P2 : Nat → Value → Prop} {St1 St2 : Nat → Heap → Prop}
theorem zq_loop (hh : A.handled = none) (Sp : ZipSep2 z TI TO i1 i2 fp1 fp2) (D1 : Draws prog w A.in1.in1 i1 fp1 n1 P1 St1) (D2 : Draws prog w A.in1.in1 i2 fp2 n2 P2 St2) (res : Value) {hS : Heap} (ns : S ≠ z ∧ S ≠ TI ∧ S ≠ TO ∧ S ∉ fp1 ∧ S ∉ fp2) (hlo : z < lo ∧ TO < lo ∧ i1 < lo ∧ i2 < lo ∧ S < lo) (hn : min n1 n2 ≤ sizeLine)
    (hR : ∀ h' tk acc c as, (∀ b o, b ≠ S → b ≠ z → b ≠ TO → b ≠ i1 → b ≠ i2 → hS.get? b = some o → h'.get? b = some o) → h'.get? S = some { cls := .type "list", dict := none, data := .seq acc c, slots := #[] } → as.length = min n1 n2 → MadeZ P1 P2 lo h' as →
      acc.toList = as.map Value.ref → R (.ok (.ret res)) { s with heap := h', toks := tk }) :
    ∀ (k i : Nat) (h : Heap) (tk c : Nat) (acc : Array Value) (as : List Addr) (q : Value) (f : Bool) (x0 y0 : Value), min n1 n2 - i = k → i ≤ min n1 n2 → IsZipQ h z TI TO q f → OutQ q → IsPair h TI (.ref i1) (.ref i2) → IsPair h TO x0 y0 → St1 i h → St2 i h →
      (∀ b o, b ≠ S → b ≠ z → b ≠ TO → b ≠ i1 → b ≠ i2 → hS.get? b = some o → h.get? b = some o) → h.get? S = some { cls := .type "list", dict := none, data := .seq acc c, slots := #[] } → acc.toList = as.map Value.ref → as.length = i → MadeZ P1 P2 lo h as → lo ≤ h.objs.size →
      codeAny (model prog w) A (.builtin "list.extend.loop" ⟨[.ref S, .ref z, res], []⟩) R { s with heap := h, toks := tk } := by
  intro k
  induction k with
  | zero =>
    intro i h tk c acc as q f x0 y0 hk hi hz hq hTI hTO t1 t2 kp hL ha hal hm _
    refine codeAny_builtin PySem.F.entry_extend_loop ?_
    rw [Around.under_plainId PySem.F.plain_extend_loop _]
    show wpAny _ A.in1 (pyNext (.ref z) >>= _) _ _ _
    refine wpAny_bind (zqn_end (s := { s with heap := h, toks := tk }) (A := A.in1) Sp D1 D2 hz hq hTI hTO t1 t2 (by omega) (by omega) (by omega) fun h' tk' e => ?_)
    refine wpAny_pure (hR h' tk' acc c as (fun b o b1 b2 b3 b4 b5 x => e b o b2 b3 b4 b5 (kp b o b1 b2 b3 b4 b5 x)) (e S _ ns.1 ns.2.2.1 (fun x => ns.2.2.2.1 (x ▸ Sp.mem1)) (fun x => ns.2.2.2.2 (x ▸ Sp.mem2)) hL) (by omega) ⟨hm.1, fun j a hj => ?_⟩ ha)
    obtain ⟨l, x, y, p1, p2, e3⟩ := hm.2 j a hj
    exact ⟨l, x, y, p1, p2, e a _ (ne_ge hlo.1 l) (ne_ge hlo.2.1 l) (ne_ge hlo.2.2.1 l) (ne_ge hlo.2.2.2.1 l) e3⟩
  | succ k ih =>
    intro i h tk c acc as q f x0 y0 hk hi hz hq hTI hTO t1 t2 kp hL ha hal hm hsz
    have sz : acc.size = i := by rw [← Array.length_toList, ha, List.length_map, hal]
    refine codeAny_builtin PySem.F.entry_extend_loop ?_
    rw [Around.under_plainId PySem.F.plain_extend_loop _]
    show wpAny _ A.in1 (pyNext (.ref z) >>= _) _ _ _
    refine wpAny_bind (zqn_item (s := { s with heap := h, toks := tk }) (A := A.in1) Sp D1 D2 hz hq hTI hTO t1 t2 (by omega) (by omega) fun x y b1 b2 h' tk' q' f' p1 p2 z' hq' _ TO' t1' t2' hT e => ?_)
    have hT : IsPair h' h.objs.size x y := hT
    have e : ∀ c o, c ≠ z → c ≠ TO → c ≠ i1 → c ≠ i2 → h.get? c = some o → h'.get? c = some o := e
    have hL' := e S _ ns.1 ns.2.2.1 (fun x => ns.2.2.2.1 (x ▸ Sp.mem1)) (fun x => ns.2.2.2.2 (x ▸ Sp.mem2)) hL
    have up : ∀ b o, b ≠ S → h'.get? b = some o → (h'.update S (Obj.mapSeq (·.push (Value.ref h.objs.size)))).get? b = some o := fun b o hb x => (Heap.get?_update_other _ _ (Ne.symm hb)).trans x
    have nS : h.objs.size ≠ S := ne_ge hlo.2.2.2.2 hsz
    show wpAny _ A.in1 (updateSeq S (·.push (Value.ref h.objs.size)) >>= _) _ _ _
    refine wpAny_bind (wpAny_updateSeq hL' rfl (wpAny_pure ⟨plainId_quiet PySem.F.plain_extend_loop _, ?_⟩) (by rw [sz]; omega) (by show (acc.push (Value.ref h.objs.size)).size ≤ sizeLine + 1; rw [Array.size_push, sz]; omega))
    refine ih (i + 1) _ tk' _ (acc.push (Value.ref h.objs.size)) (as ++ [h.objs.size]) q' f' b1 b2 (by omega) (by omega) (up _ _ ns.1.symm z') hq' (up _ _ ns.2.1.symm (e _ _ Sp.TIz Sp.TITO Sp.TIi1 Sp.TIi2 hTI)) (up _ _ ns.2.2.1.symm TO')
      (D1.frame _ _ _ t1' fun b hb o x => up b o (fun r => ns.2.2.2.1 (r ▸ hb)) x) (D2.frame _ _ _ t2' fun b hb o x => up b o (fun r => ns.2.2.2.2 (r ▸ hb)) x) (fun b o c1 c2 c3 c4 c5 x => up b o c1 (e b o c2 c3 c4 c5 (kp b o c1 c2 c3 c4 c5 x)))
      (Heap.get?_update_self _ hL' rfl) (by rw [Array.toList_push, ha, List.map_append]; rfl) (by rw [List.length_append, hal]; rfl) ⟨List.pairwise_append.mpr ⟨hm.1, List.pairwise_singleton _ _, fun a ha' b hb => ?_⟩, fun j a hj => ?_⟩ ?_
    · rw [List.mem_singleton.mp hb]
      obtain ⟨j, hj⟩ := List.mem_iff_getElem?.mp ha'
      obtain ⟨_, x, y, _, _, e3⟩ := hm.2 j a hj
      exact Heap.lt_size e3
    · rcases Nat.lt_trichotomy j as.length with l1 | l1 | l1
      · rw [List.getElem?_append_left l1] at hj
        obtain ⟨l, x, y, p1, p2, e3⟩ := hm.2 j a hj
        exact ⟨l, x, y, p1, p2, up a _ (ne_ge hlo.2.2.2.2 l) (e a _ (ne_ge hlo.1 l) (ne_ge hlo.2.1 l) (ne_ge hlo.2.2.1 l) (ne_ge hlo.2.2.2.1 l) e3)⟩
      · subst l1
        have hb : h.objs.size = a := by simpa using hj
        subst hb
        exact ⟨hsz, x, y, by rw [hal]; exact p1, by rw [hal]; exact p2, up _ _ nS hT⟩
      · rw [List.getElem?_eq_none (by rw [List.length_append, List.length_singleton]; omega)] at hj
        cases hj
    · exact Nat.le_trans hsz (Nat.le_of_lt (Heap.lt_size (up _ _ nS hT)))
end

theorem nolen_zip : typeLookup (.type "zip") "__len__" = pure none := am_miss_of_fast (by decide +kernel)
theorem nohint_zip : typeLookup (.type "zip") "__length_hint__" = pure none := am_miss_of_fast (by decide +kernel)
section
variable {prog : Program} {w : World} {A : Around} {E : Value → Shared → Prop} {s : Shared} {z TI TO i1 i2 : Addr} {fp1 fp2 : List Addr} {n1 n2 : Nat} {P1 P2 : Nat → Value → Prop} {St1 St2 : Nat → Heap → Prop}
/-- list(..) of a zip that has just begun -/
theorem zq_list {Q : Value → Shared → Prop} {x0 y0 : Value} (hh : A.handled = none) (Sp : ZipSep2 z TI TO i1 i2 fp1 fp2) (D1 : Draws prog w A.in1.in1.in1 i1 fp1 n1 P1 St1) (D2 : Draws prog w A.in1.in1.in1 i2 fp2 n2 P2 St2) (hn : min n1 n2 ≤ sizeLine) (hz : IsZip s.heap z TI TO .none) (hTI : IsPair s.heap TI (.ref i1) (.ref i2)) (hTO : IsPair s.heap TO x0 y0)
    (t1 : St1 0 s.heap) (t2 : St2 0 s.heap) (hf1 : ∀ b ∈ fp1, b < s.heap.objs.size) (hf2 : ∀ b ∈ fp2, b < s.heap.objs.size)
    (hQ : ∀ h' tk acc c as, (∀ b o, b ≠ z → b ≠ TO → b ≠ i1 → b ≠ i2 → s.heap.get? b = some o → h'.get? b = some o) → h'.get? s.heap.objs.size = some { cls := .type "list", dict := none, data := .seq acc c, slots := #[] } → as.length = min n1 n2 → MadeZ P1 P2 (s.heap.objs.size + 1) h' as →
      acc.toList = as.map Value.ref → Q (.ref s.heap.objs.size) { s with heap := h', toks := tk }) : wpAny (model prog w) A (call (.type "list") [.ref z]) Q E s := by
  have lz : z < s.heap.objs.size := Heap.lt_size hz
  have lT : TO < s.heap.objs.size := Heap.lt_size hTO
  have lI : TI < s.heap.objs.size := Heap.lt_size hTI
  have l1 := hf1 _ Sp.mem1
  have l2 := hf2 _ Sp.mem2
  refine callType_codes (Q₁ := fun obj s₁ => obj = .ref s.heap.objs.size ∧ s₁ = { s with heap := s.heap.push { cls := .type "list", data := .seq #[] } }) PySem.F.called_list (PySem.F.typeCall_list_1 _) PySem.F.entry_list_init
    (code_list_new _ ⟨rfl, rfl⟩) fun obj s₁ h₁ => ?_
  obtain ⟨rfl, rfl⟩ := h₁
  have hS : (s.heap.push { cls := .type "list", data := .seq #[] }).get? s.heap.objs.size = some { cls := .type "list", data := .seq #[] } := Heap.get?_push_size _ rfl
  have psh : ∀ b o, s.heap.get? b = some o → (s.heap.push { cls := .type "list", data := .seq #[] }).get? b = some o := fun b o e => Heap.get?_push_of_some _ e
  refine ⟨⟨_, hS, rfl⟩, PySem.F.args_list_init_2 _ _, ?_⟩
  show wpAny _ _ (do let old ← Builtin.List.listItems (.ref s.heap.objs.size); Builtin.List.listUpdate (.ref s.heap.objs.size) (fun _ => #[]); letGo old.toList.reverse; Builtin.List.listExtendWith (.ref s.heap.objs.size) (.ref z) .none) _ _ _
  refine wpAny_bind ?_
  unfold Builtin.List.listItems
  refine wpAny_bind (wpAny_seqItems hS rfl (wpAny_pure ?_))
  show wpAny _ _ (updateSeq s.heap.objs.size (fun _ => #[]) >>= fun _ => letGo (#[] : Array Value).toList.reverse >>= fun _ => Builtin.List.listExtendWith (.ref s.heap.objs.size) (.ref z) .none) _ _ _
  refine wpAny_bind (wpAny_updateSeq hS rfl ?_)
  have hS₂ := Heap.get?_update_self (Obj.mapSeq (fun _ => (#[] : Array Value))) hS rfl
  have oth : ∀ b o, b ≠ s.heap.objs.size → s.heap.get? b = some o → ((s.heap.push { cls := .type "list", data := .seq #[] }).update s.heap.objs.size (Obj.mapSeq (fun _ => (#[] : Array Value)))).get? b = some o :=
    fun b o hb e => (Heap.get?_update_other _ _ (Ne.symm hb)).trans (psh b o e)
  have bel : ∀ {b : Addr}, b < s.heap.objs.size → b ≠ s.heap.objs.size := fun h => Nat.ne_of_lt h
  generalize ((s.heap.push { cls := .type "list", data := .seq #[] }).update s.heap.objs.size (Obj.mapSeq (fun _ => (#[] : Array Value)))) = hB at hS₂ oth ⊢
  refine wpAny_bind (wpAny_letGo ?_)
  have zB := oth _ _ (bel lz) hz
  have ty : (⟨hB, s.gens, s.drawn, s.toks, s.os⟩ : Shared).TypeIs (.ref z) "zip" := ⟨_, zB, rfl⟩
  unfold Builtin.List.listExtendWith
  refine wpAny_bind (wpAny_typeOf ty ?_)
  have h1 : Builtin.List.listSameRef (.ref s.heap.objs.size) (.ref z) = false := by simp [Builtin.List.listSameRef, (bel lz).symm]
  simp only [h1, show (Value.type "zip" == Value.type "list") = false from by decide, show (Value.type "zip" == Value.type "tuple") = false from by decide, Bool.or_false, Bool.false_eq_true, if_false]
  refine wpAny_bind (iter_zq zB ?_)
  refine wpAny_bind (wpAny_holding ?_)
  unfold Builtin.List.listLengthHint
  refine wpAny_bind (wpAny_specialOf ty nolen_zip ?_)
  show wpAny _ _ (specialOf (Value.ref z) (Str.ofString "__length_hint__") >>= _) _ _ _
  refine wpAny_bind (wpAny_specialOf ty nohint_zip (wpAny_pure ?_))
  show wpAny _ _ (rule "list.extend.makes-room" >>= fun _ => Builtin.List.listTouch (.ref s.heap.objs.size) >>= fun _ => again (.builtin "list.extend.loop" ⟨[.ref s.heap.objs.size, .ref z, .none], []⟩)) _ _ _
  refine wpAny_bind (wpAny_rule ?_)
  refine wpAny_bind ?_
  show wpAny _ _ (updateSeq s.heap.objs.size (·.push .none) >>= fun _ => updateSeq s.heap.objs.size (·.pop)) _ _ _
  refine wpAny_bind (wpAny_updateSeq hS₂ rfl ?_)
  have hS₃ := Heap.get?_update_self (Obj.mapSeq (·.push Value.none)) hS₂ rfl
  refine wpAny_updateSeq (hz := by seq_fits) hS₃ rfl ?_
  have hS₄ := Heap.get?_update_self (Obj.mapSeq (·.pop)) hS₃ rfl
  have oth2 : ∀ b o, b ≠ s.heap.objs.size → s.heap.get? b = some o → ((hB.update s.heap.objs.size (Obj.mapSeq (·.push Value.none))).update s.heap.objs.size (Obj.mapSeq (·.pop))).get? b = some o :=
    fun b o hb e => (Heap.get?_update_other _ _ (Ne.symm hb)).trans ((Heap.get?_update_other _ _ (Ne.symm hb)).trans (oth b o hb e))
  generalize ((hB.update s.heap.objs.size (Obj.mapSeq (·.push Value.none))).update s.heap.objs.size (Obj.mapSeq (·.pop))) = hC at hS₄ oth2 ⊢
  refine wpAny_pure ⟨plainId_quiet PySem.F.plain_extend_loop _, ?_⟩
  have o4 : ∀ {b o}, b < s.heap.objs.size → s.heap.get? b = some o → hC.get? b = some o := fun l e => oth2 _ _ (bel l) e
  refine zq_loop (A := A.in1) (s := ⟨hB, s.gens, s.drawn, s.toks, s.os⟩) (lo := s.heap.objs.size + 1) (hS := s.heap) hh Sp D1 D2 .none ⟨(bel lz).symm, (bel lI).symm, (bel lT).symm, fun hm => Nat.lt_irrefl _ (hf1 _ hm), fun hm => Nat.lt_irrefl _ (hf2 _ hm)⟩ ⟨Nat.lt_succ_of_lt lz, Nat.lt_succ_of_lt lT, Nat.lt_succ_of_lt l1, Nat.lt_succ_of_lt l2, Nat.lt_succ_self _⟩ hn
    (fun h' tk acc c as e hL hal hm ha => ⟨rfl, hQ h' tk acc c as (fun b o b1 b2 b3 b4 x => e b o (bel (Heap.lt_size x)) b1 b2 b3 b4 x) hL hal hm ha⟩) (min n1 n2) 0 hC s.toks _ _ [] .none false x0 y0 (Nat.sub_zero _) (Nat.zero_le _) (o4 lz hz) (.inl rfl) (o4 lI hTI) (o4 lT hTO)
    (D1.frame _ _ _ t1 fun b hb o e => o4 (hf1 b hb) e) (D2.frame _ _ _ t2 fun b hb o e => o4 (hf2 b hb) e) (fun b o b1 _ _ _ _ e => oth2 b o b1 e) hS₄ (by simp) rfl ⟨List.Pairwise.nil, fun j a hj => by simp at hj⟩ (Heap.lt_size hS₄)
end

section
variable {X : Cx} {σ : L2.St} {H : Hp} {a b : Expr} {p p2 pos pos2 : Pos} {W : WX} {k : Nat} {Q : VK}
/-- list(zip(a, b)) -/
theorem e_listZip (C : Cxt X k W) (h : wE X a σ H fun v H1 => wE X b σ H1 fun u H2 => ∃ (k1 k2 : Kd) (xs ys : List V), v = k1.val ∧ u = k2.val ∧ k1.src X.K H2 xs ∧ k2.src X.K H2 ys ∧ min xs.length ys.length ≤ 16777216 ∧
      ∀ q vs H', But [] H2 H' → H2 q = none → H' q = some (.lst vs) → vs.length = min xs.length ys.length → (∀ (j : Nat) (v : V), vs[j]? = some v → ∃ T x y, v = .ref T ∧ H' T = some (.tup [x, y]) ∧ xs[j]? = some x ∧ ys[j]? = some y) → Q (.ref q) H')
    (hg : Gl X "list" := by rfl) (hg2 : Gl X "zip" := by rfl) (hs : starEach [a, b] X.env = (false, eval a X.env) :: starEach [b] X.env := by rfl) (hs2 : starEach [b] X.env = [(false, eval b X.env)] := by rfl)
    (hs3 : starEach [.Call (.Name "zip" p2) [a, b] [] pos2] X.env = (false, eval (.Call (.Name "zip" p2) [a, b] [] pos2) X.env) :: starEach [] X.env := by rfl) :
    wE X (.Call (.Name "list" p) [.Call (.Name "zip" p2) [a, b] [] pos2] [] pos) σ H Q := by
  have ha : wA X [a, b] σ H fun vs H2 => ∃ (k1 k2 : Kd) (xs ys : List V), vs = [k1.val, k2.val] ∧ k1.src X.K H2 xs ∧ k2.src X.K H2 ys ∧ min xs.length ys.length ≤ 16777216 ∧
      ∀ q vs H', But [] H2 H' → H2 q = none → H' q = some (.lst vs) → vs.length = min xs.length ys.length → (∀ (j : Nat) (v : V), vs[j]? = some v → ∃ T x y, v = .ref T ∧ H' T = some (.tup [x, y]) ∧ xs[j]? = some x ∧ ys[j]? = some y) → Q (.ref q) H' :=
    a_cons (wE_mono h fun v H1 q => a_cons (wE_mono q fun u H2 ⟨k1, k2, xs, ys, e1, e2, r⟩ => a_nil ⟨k1, k2, xs, ys, by rw [e1, e2], r⟩) hs2) hs
  refine ⟨fun pins s I => ?_⟩
  refine wpAny_Call_Name_kw (ld_blt I hg C.blt.list PyProof.Rows.boot_list (PyProof.Rows.callWith_type1 ?_ hs3 rfl))
  rw [hs3]
  show wpAny _ _ (spliced ((false, eval (.Call (.Name "zip" p2) [a, b] [] pos2) X.env) :: backTo pos (starEach [] X.env))) _ _ s
  refine Calls.spliced_cons ?_
  refine Call_ (ld_blt I hg2 C.blt.zip PyProof.Rows.boot_zip (PyProof.Rows.callWith_type1 (thn (ha.run pos2 pins _ I) fun us s1 ⟨vs, H1, I1, r1, q1⟩ => ?_) hs (by rw [hs2]; rfl)))
  obtain ⟨k1, k2, xs, ys, ex, c1, c2, hmn, q⟩ := q1
  subst ex
  obtain ⟨u1, u2, rfl, ra, rb⟩ := vals2 r1
  refine zip_made I1 c1 c2 ra rb fun h' I2 S w1 w2 st hsz hk fp => ?_
  refine Calls.spliced_nil ?_
  obtain ⟨⟨q0, f0, hz, _, hn0⟩, hTI, ⟨x0, y0, hTO⟩, t1, t2⟩ := id st
  obtain ⟨rfl, rfl⟩ := hn0 rfl
  have hh : X.A.handled = none := I2.ok.hd C.calm
  obtain ⟨P1, St1, D1, d1, _, g1⟩ := Kd.draws (A := X.A.in1.in1) hh I2 c1 t1 (fun a ha => Nat.ne_of_lt (w1 a ha))
  obtain ⟨P2, St2, D2, d2, _, g2⟩ := Kd.draws (A := X.A.in1.in1) hh I2 c2 t2 (fun a ha => Nat.ne_of_lt (Nat.lt_succ_of_lt (w2 a ha)))
  have lb : ∀ {b n : Nat}, n < 5 → b < s1.heap.objs.size + n + 1 → b < h'.objs.size := fun h1 h2 => by rw [hsz]; omega
  have bw1 : ∀ b ∈ s1.heap.objs.size :: k1.own, b < h'.objs.size := fun b hb => by
    rcases List.mem_cons.mp hb with rfl | hb
    · exact lb (n := 0) (by decide) (Nat.lt_succ_self _)
    · exact lb (n := 0) (by decide) (Nat.lt_succ_of_lt (w1 b hb))
  have bw2 : ∀ b ∈ (s1.heap.objs.size + 1) :: k2.own, b < h'.objs.size := fun b hb => by
    rcases List.mem_cons.mp hb with rfl | hb
    · exact lb (n := 1) (by decide) (Nat.lt_succ_self _)
    · exact lb (n := 1) (by decide) (Nat.lt_succ_of_lt (Nat.lt_succ_of_lt (w2 b hb)))
  refine zq_list (s := { s1 with heap := h' }) hh S D1 D2 (by rw [sizeLine_eq]; exact hmn) hz hTI hTO d1 d2 bw1 bw2 fun h'' tk acc c as kp hL hal hm hacc => ?_
  have kp : ∀ b o, b ≠ s1.heap.objs.size + 4 → b ≠ s1.heap.objs.size + 3 → b ≠ s1.heap.objs.size → b ≠ s1.heap.objs.size + 1 → h'.get? b = some o → h''.get? b = some o := kp
  have hL : h''.get? h'.objs.size = some { cls := .type "list", dict := none, data := .seq acc c, slots := #[] } := hL
  have I3 : Inv X pins σ H1 { s1 with heap := h'', toks := tk } := Inv.turnedL (s := { s1 with heap := h' }) (t' := tk) (ch := [s1.heap.objs.size + 4, s1.heap.objs.size + 2, s1.heap.objs.size + 3, s1.heap.objs.size, s1.heap.objs.size + 1]) I2 (fun c o hb e => kp c o (fun e' => hb (by simp [e'])) (fun e' => hb (by simp [e'])) (fun e' => hb (by simp [e'])) (fun e' => hb (by simp [e'])) e) fp
  have nq : H1 h'.objs.size = none := I2.hok.fresh (Nat.le_refl _)
  have hlen : (as.map V.ref).length ≤ sizeLine := by rw [List.length_map, hal, sizeLine_eq]; exact hmn
  have I4 : Inv X pins σ (upd H1 h'.objs.size (.lst (as.map V.ref))) { s1 with heap := h'', toks := tk } :=
    I3.take (h' := h'') (t' := tk) (fun b ob _ e => e) (I2.fpOk (Nat.le_refl _) nq) ⟨hlen, acc.toList, c, by rw [hacc]; exact vals_maps (fun z : Addr => V.ref z) (fun z => Value.ref z) as fun _ _ => rfl, by rw [Array.toArray_toList]; exact hL⟩
  obtain ⟨H2, I5, e1, e2⟩ := L2.DX.takeT (P := fun a vs => ∃ (j : Nat) (x y : V), as[j]? = some a ∧ xs[j]? = some x ∧ ys[j]? = some y ∧ vs = [x, y]) I2 as _ I4 (hm.1.imp fun h => Nat.ne_of_lt h) fun b hb => by
    obtain ⟨j, hj⟩ := List.mem_iff_getElem?.mp hb
    obtain ⟨lo, u, v, p1, p2, e3⟩ := hm.2 j b hj
    obtain ⟨x, ex, rx⟩ := g1 j u p1
    obtain ⟨y, ey, ry⟩ := g2 j v p2
    have lo : h'.objs.size + 1 ≤ b := lo
    refine ⟨Nat.le_of_succ_le lo, ?_, [x, y], ⟨j, x, y, hj, ex, ey, rfl⟩, fun H2 => ⟨by show 2 ≤ sizeLine; decide, [u, v], .cons rx (.cons ry .nil), ⟨_, e3, rfl, _, rfl⟩⟩⟩
    rw [upd_ne (Nat.ne_of_gt lo)]
    exact I2.hok.fresh (Nat.le_of_succ_le lo)
  refine ⟨.ref h'.objs.size, H2, I5, rfl, q h'.objs.size (as.map V.ref) H2 (fun c o _ e => e1 c o (by rw [upd_ne (ne_of_none e nq)]; exact e)) nq (e1 _ _ upd_same) (by rw [List.length_map, hal]) fun j v hv => ?_⟩
  rw [List.getElem?_map, Option.map_eq_some_iff] at hv
  obtain ⟨b, hb, rfl⟩ := hv
  obtain ⟨vs, ⟨j', x, y, hj', ex, ey, rfl⟩, e⟩ := e2 b (List.mem_of_getElem? hb)
  have : j' = j := (List.getElem?_inj (List.getElem?_eq_some_iff.mp hj').1 (hm.1.imp fun h => Nat.ne_of_lt h)).mp (hj'.trans hb.symm)
  subst this
  exact ⟨b, x, y, rfl, e, ex, ey⟩
end
end Z

set_option Elab.async false
set_option linter.all false
set_option maxRecDepth 100000
set_option maxHeartbeats 4000000
/-! {(..): v}; x += e of whole numbers -/
namespace Z
open PySem PySem.Spec PyProof.Rows L2
section
variable {X : Cx} {k : Nat} {W : WX} {σ : L2.St} {H : Hp} {e a b : Expr} {pos pos' : Pos} {Q : VK}
/-- a display with one key, a tuple of ints and texts -/
theorem e_dict1T (C : Cxt X k W) (h : ∀ p, H p = none → wE X a σ (upd H p (.dT [])) fun x H1 => wE X b σ H1 fun y H2 => ∃ (q : Addr) (ks : List Key), x = .ref q ∧ H2 p = some (.dT []) ∧ H2 q = some (.tup (ks.map kV)) ∧ Q (.ref p) (upd H2 p (.dT [(ks, y)]))) :
    wE X (.Dict [some a] [b] pos) σ H Q := by
  refine ⟨fun pins s I => ?_⟩
  have hn := I.hok.fresh (Nat.le_refl s.heap.objs.size)
  have I1 := I.laid (a := s.heap.objs.size) (o := .dT []) (h' := s.heap.push { cls := .type "dict", data := .dict #[] }) (t' := s.toks) (fun _ _ q => Heap.get?_push_of_some _ q) (Nat.le_refl _) (dt_empty s.heap I.big)
  rw [arm_eval_Dict, zip_pairTrees [some a] [b] X.env pos rfl rfl, dictDisplay_pairs (pairTrees [some a] [b] X.env pos) (by simp [pairTrees]) (by simp [pairTrees])]
  refine wpAny_bind (wpAny_standAt (wpAny_bind (wpAny_subDictH (knd := tupleKind (mixKind X.prog X.w)) (Q := fun d s' => wpAny (model X.prog X.w) X.A (pure (Value.ref d)) (EP X pins σ Q) X.xe s') (by have := C.un; show X.A.units < cLine; omega) (by simp [pairTrees]) ?_)))
  refine pairTrees_cons_walk (thn ((h _ hn).run pins _ I1) fun u s1 ⟨x, H1, I2, rx, q1⟩ => thn (q1.run pins s1 I2) fun w2 s2 ⟨y, H2, I3, ry, q, ks, ex, hp, hq, q2⟩ => pairTrees_nil_walk ?_)
  subst ex
  obtain rfl : u = Value.ref q := rx
  obtain ⟨z, hd, xs, rel, dd⟩ := dt_of I3.hok hp
  cases rel
  have hk := key_of (P := X.prog) (w := X.w) I3.hok hq
  refine ⟨[(ks, q, w2)], ⟨rfl, rfl, hk, trivial⟩, dd, fun h' tk dd' hs => wpAny_pure ⟨.ref s.heap.objs.size, _, ?_, rfl, q2⟩⟩
  obtain ⟨q', es, ep, hq', g2, g3, g4, _, g5⟩ := dd'
  have I4 : Inv X pins σ H2 { s2 with toks := tk } := I3.tok _
  refine d_write (s := { s2 with toks := tk }) I4 (by rw [hp]; exact True.intro) hs ⟨q', hq'⟩ ⟨by show 1 ≤ sizeLine; decide, hd, [(ks, q, w2)], .cons ⟨rfl, ?_, ry⟩ .nil, q', es, ep, hq', g2, g3, g4, g5⟩
  rw [upd_ne (ne_of hq hp (fun z => nomatch z))]
  exact hq
/-- x += e -/
theorem s_augAdd {D : Ends} {i : Nat} {x : Str} {v j : Int} (hs : σ[i]? = some (some (.int v))) (h : wE X e σ H fun y H1 => y = .int j ∧ D.nx (σ.set i (some (.int (v + j)))) H1) (hN : X.N.Nodup) (hi : X.N[i]? = some x := by rfl) (hx : Loc X.env.scope x := by first | exact Or.inl rfl | exact Or.inr rfl)
    (hf : X.fn x = true ∨ X.env.scope.names.lookup x = some .local := by first | exact .inl rfl | exact .inr rfl) : wS X (.AugAssign (.Name x pos') .Add e pos) D σ H :=
  eS (ps_aug hN hi hx pE ip_add hf) ⟨.int v, hs, wE_mono h fun y H1 ⟨e1, q⟩ => ⟨v, j, rfl, e1, q⟩⟩
end
end Z

set_option Elab.async false
set_option linter.all false
set_option maxRecDepth 100000
set_option maxHeartbeats 4000000
/-! a lambda with some parameters, handed to a def as its third argument -/
namespace Z
open PySem PySem.Spec PyProof.Rows L2 LamX NdefX
section
variable {X : Cx} {pins : List (Addr × Obj)} {σ : L2.St} {H : Hp} {s : Shared} {k : Nat} {W : WX}
/-- the lambda is called -/
theorem e_actN {Ng N fr ps : List Str} {js : List Nat} {i : Nat} {x a : Str} {st : Stmt} {g f c' : Addr} {cdg pm ctv : Value} {params : Arguments} {body arg : Expr} {args : List Expr} {scope : Scope} {E0 E : XK} {p1 p2 : Pos} {σZ : L2.St} {HZ : Hp} {Q : VK}
    (C : Cxt X (k + 2) W) (I : Inv X pins σ H s) (S : NScope N ps fr scope) (cp : Caps X (cloFrom X.env.cells scope.names []) fr js) (hf : s.heap.get? f = some (PySem.W.kla_obj "<lambda>" (X.env.qual ++ "<lambda>") params body scope (cloFrom X.env.cells scope.names []) pm c' ctv)) (hfn : H f = none) (hfr : f ∉ frs X.stack)
    (hbind : ∀ us : List Value, us.length = ps.length → bindArgs (PySem.W.kla_fn "<lambda>" (X.env.qual ++ "<lambda>") params body scope (cloFrom X.env.cells scope.names []) pm (.ref c') ctv) ⟨us, []⟩ = pure (ps.zip us))
    {W' : WX} (tk : Takes (hX X Ng x st g cdg s H E0) W') (hW : ∀ cls d σ' H', E cls d H' → W' cls d σ' H')
    (hN : Ng[i]? = some a) (hv : Vis (defScope st) a) (hd : (a == ("__debug__" : Str)) = false) (hcd : (a == ("__classdict__" : Str)) = false)
    (hs : σZ[i]? = some (some (.ref f)))
    (h : wA (hX X Ng x st g cdg s H E0) (arg :: args) σZ HZ fun vs HY => vs.length = ps.length ∧ HY c' = some (CodeO c' (X.env.qual ++ "<lambda>")) ∧ ∀ (A : Around) (outer : List Env) (s' : Shared), Cxt (lam1Cx X N A outer s' HY E params scope f c') k (fun cls d _ H => E cls d H) → wE (lam1Cx X N A outer s' HY E params scope f c') body (startF N vs (js.map (slotAt σ))) HY Q)
    (he : starEach (arg :: args) (hX X Ng x st g cdg s H E0).env = (false, eval arg (hX X Ng x st g cdg s H E0).env) :: starEach args (hX X Ng x st g cdg s H E0).env) (hpl : (backTo p2 (starEach args (hX X Ng x st g cdg s H E0).env)).any (·.1) = false) :
    wE (hX X Ng x st g cdg s H E0) (.Call (.Name a p1) (arg :: args) [] p2) σZ HZ Q := by
  refine ⟨fun pinsZ sZ IZ => ?_⟩
  refine wpAny_Call_Name_kw (thn ((pe_var (pos := p1) (i := i) hN hv hd hcd).run pinsZ sZ σZ HZ (fun v H1 => v = .ref f ∧ H1 = HZ) IZ ⟨.ref f, hs, rfl, rfl⟩) fun u s1 ⟨v, H1, I1, r1, q1⟩ => ?_)
  obtain ⟨ev, eH⟩ := q1
  subst ev
  rw [eH] at I1
  obtain rfl : u = Value.ref f := r1
  have of1 : s1.heap.get? f = some (PySem.W.kla_obj "<lambda>" (X.env.qual ++ "<lambda>") params body scope (cloFrom X.env.cells scope.names []) pm c' ctv) := I1.base.keep f _ hf hfn hfr (fun z => nomatch (show f ∈ ([] : List Addr) from z))
  refine PySem.W.callWith_F (first := []) ⟨_, _, _, _, of1⟩ (thn (h.run p2 pinsZ s1 I1) fun us s2 ⟨vs, H2, I2, r, hvl, hc, hb⟩ => ?_) he hpl
  have of2 : s2.heap.get? f = some (PySem.W.kla_obj "<lambda>" (X.env.qual ++ "<lambda>") params body scope (cloFrom X.env.cells scope.names []) pm c' ctv) := I2.base.keep f _ hf hfn hfr (fun z => nomatch (show f ∈ ([] : List Addr) from z))
  refine ⟨⟨_, _, _, _, of2⟩, ?_⟩
  show wpAny _ _ (call (.ref f) us) _ _ _
  have hul : us.length = ps.length := r.length.symm.trans hvl
  have un : Un (frs X.stack) [] H H2 s.heap s2.heap := I2.base
  have CA : CellsAt (cloFrom X.env.cells scope.names []) fr (js.map (slotAt σ)) s2.heap H2 := cells_un (cells_of I cp) un
  obtain ⟨⟨oc, ws, t, hoc, hdc, hvc⟩, _, _⟩ := I2.hok c' _ hc
  have hr : Room (k + 1) (X.A.deeper (envOfC x (defScope st) s.heap.objs.size g cdg)) := C.room.deeper _
  have rc : codeAny (model X.prog X.w) (X.A.deeper (envOfC x (defScope st) s.heap.objs.size g cdg)) (.call (.ref f) ⟨us, []⟩) (CR (L2.CX X.prog X.w) (envOfC x (defScope st) s.heap.objs.size g cdg :: X.stack) X.prog X.w H2 s2 Q E) s2 := by
    refine PySem.W.kla_callFunE hr.depth of2 rfl S.co S.gen rfl ⟨c', oc, ws, t, rfl, hoc, hdc, hvc⟩ ?_
    rw [hbind us hul]
    refine wpAny_pure (wpAny_newFunctionEnv S.nocell (fun y hy => S.par y.1 (List.of_mem_zip hy).1) (fun h₁ hns hsb => ⟨I2.nolimit.fresh _ hsb, ?_⟩) S.kind)
    show codeAny _ _ (.expr body (envF (lamF X params scope c') f s2.heap.objs.size)) _ _
    have kp : ∀ b o, s2.heap.get? b = some o → h₁.get? b = some o := fun b o e => hsb.extBut b o (Nat.ne_of_lt (Heap.lt_size e)) (Heap.get?_push_of_some _ e)
    have J : Inv (lam1Cx X N (X.A.deeper (envOfC x (defScope st) s.heap.objs.size g cdg)) (envOfC x (defScope st) s.heap.objs.size g cdg :: X.stack) s2 H2 E params scope f c') [] (startF N vs (js.map (slotAt σ))) H2 { s2 with heap := h₁, toks := s2.toks + (ps.zip us).length } :=
      inv_startN (F := lamF X params scope c') (ps := ps) (us := us) S hr.hd I2.env0 hvl r CA hns kp
    have CL : Cxt (lam1Cx X N (X.A.deeper (envOfC x (defScope st) s.heap.objs.size g cdg)) (envOfC x (defScope st) s.heap.objs.size g cdg :: X.stack) s2 H2 E params scope f c') k (fun cls d _ H' => E cls d H') :=
      ⟨hr.deeper _, rfl, S.nd, C.blt, passes_of rfl, takes_of rfl rfl rfl rfl⟩
    refine PySem.W.kla_codeExpr (wpAny_mono ((hb _ _ s2 CL).run [] _ J) (fun v s' hq => ?_) fun e s' hq => hq)
    obtain ⟨w', H', J', rv, q⟩ := hq
    exact ⟨w', H', J'.os, J'.bare, J'.base, J'.hok, rv, q⟩
  refine wpAny_call (codeAny_mono rc fun r s' hq => ?_)
  cases r with
  | error e => exact tk e s' (XE.of_call I2 (fun cls d H' h => hW cls d _ H' h) hq)
  | ok fl =>
    cases fl with
    | ret u => exact I2.after hq
    | next => exact False.elim hq
    | brk => exact False.elim hq
    | cont => exact False.elim hq
/-- x(e0, e1, lambda p, ..: body) -/
theorem e_lam3 {T : List (Addr × Str)} {x a b b2 : Str} {ps : List Str} {st : Stmt} {c P : Addr} {Ng N fr : List Str} {js : List Nat} {params : Arguments} {body e0 e1 : Expr} {scope : Scope} {p lpos pos : Pos} {Q : VK}
    (C : Cxt X (k + 2) W) (D : At X.K X.mg x st) (Sg : FnScope Ng [b, b2, a] (defScope st)) (TB : TabB X.base X.mg c P) (hcode : X.env.code = .ref c) (hmT : (P, X.env.qual ++ "<lambda>") ∈ T) (hu : ∀ p ∈ T, p.1 = P → p.2 = X.env.qual ++ "<lambda>")
    (S : NScope N ps fr scope) (hB : ndefB X.env.scope scope fr = true) (hjs : js.map (fun j => X.N[j]?) = fr.map some)
    (h : wE X e0 σ H fun v0 H00 => wE X e1 σ H00 fun v1 H0 => Tabs T H0 ∧ ∀ (g : Addr) (cdg : Value) (f c' : Addr) (s : Shared) (H1 : Hp), ExtN H0 H1 → Tabs T H1 → H1 c' = some (CodeO c' (X.env.qual ++ "<lambda>")) →
      Cxt (hX X Ng x st g cdg s H1 (fun cls d H' => W cls d σ H')) (k + 1) (fun cls d _ H' => W cls d σ H') →
      (∀ (E : XK) (σZ : L2.St) (HZ : Hp) (Q' : VK) (arg : Expr) (args : List Expr) (p1 p2 : Pos), (∀ cls d H', E cls d H' → W cls d σ H') → σZ[2]? = some (some (.ref f)) →
        (starEach (arg :: args) (hX X Ng x st g cdg s H1 (fun cls d H' => W cls d σ H')).env = (false, eval arg (hX X Ng x st g cdg s H1 (fun cls d H' => W cls d σ H')).env) :: starEach args (hX X Ng x st g cdg s H1 (fun cls d H' => W cls d σ H')).env) → (backTo p2 (starEach args (hX X Ng x st g cdg s H1 (fun cls d H' => W cls d σ H')).env)).any (·.1) = false →
        wA (hX X Ng x st g cdg s H1 (fun cls d H' => W cls d σ H')) (arg :: args) σZ HZ (fun vs HY => vs.length = ps.length ∧ HY c' = some (CodeO c' (X.env.qual ++ "<lambda>")) ∧ ∀ (A : Around) (outer : List Env) (s' : Shared), Cxt (lam1Cx X N A outer s' HY E params scope f c') k (fun cls d _ H => E cls d H) → wE (lam1Cx X N A outer s' HY E params scope f c') body (startF N vs (js.map (slotAt σ))) HY Q') →
        wE (hX X Ng x st g cdg s H1 (fun cls d H' => W cls d σ H')) (.Call (.Name a p1) (arg :: args) [] p2) σZ HZ Q') →
      wB (hX X Ng x st g cdg s H1 (fun cls d H' => W cls d σ H')) (defBody st) { nx := fun _ H' => Q .non H', rt := Q } (start Ng [v0, v1, .ref f]) H1)
    (hN : Ng[2]? = some a := by rfl) (hv : Vis (defScope st) a := by first | exact Or.inl rfl | exact Or.inr (Or.inl rfl) | exact Or.inr (Or.inr rfl)) (hg : Gl X x := by rfl) (hdef : defaultsOf params X.env = ([], []) := by rfl)
    (hbl : ∀ (q : Str) (cl : List (Str × Addr)) (pm cv ctv : Value) (us : List Value), us.length = ps.length → bindArgs (PySem.W.kla_fn "<lambda>" q params body scope cl pm cv ctv) ⟨us, []⟩ = pure (ps.zip us))
    (hbind : ∀ (kV doc pm : Value) (an : Option Addr) (cdv ct : Value) (us : List Value), us.length = ([b, b2, a] : List Str).length → bindArgs (PySem.W.fnOf x x (defArgs st) (defBody st) (defScope st) .none kV doc pm an cdv ct) ⟨us, []⟩ = pure (([b, b2, a] : List Str).zip us) := by exact fun _ _ _ _ _ _ us hl => match us, hl with | [_, _, _], _ => rfl)
    (hdb : (x == ("__debug__" : Str)) = false := by decide) (hd : (a == ("__debug__" : Str)) = false := by decide) (hcd : (a == ("__classdict__" : Str)) = false := by decide)
    (he : starEach [e0, e1, .Lambda params body scope lpos] X.env = (false, eval e0 X.env) :: starEach [e1, .Lambda params body scope lpos] X.env := by rfl) (he2 : starEach [e1, .Lambda params body scope lpos] X.env = (false, eval e1 X.env) :: starEach [.Lambda params body scope lpos] X.env := by rfl) :
    wE X (.Call (.Name x p) [e0, e1, .Lambda params body scope lpos] [] pos) σ H Q := by
  refine ⟨fun pins s I => ?_⟩
  obtain ⟨g, fd, hm, F⟩ := D.ex
  obtain ⟨oc, od, kV, doc, pm, an, cdg, ct, osl, rfl, lk, hcd2⟩ := F.ex
  refine wpAny_Call_Name_kw (ld_glob I hg hm ?_ hdb)
  refine PySem.W.callWith_K (h₀ := X.base) I.ok.mod.kin F.kp ?_ he (by rw [he2]; rfl)
  rw [he, he2]
  show wpAny _ _ (spliced ((false, eval e0 X.env) :: backTo pos ((false, eval e1 X.env) :: starEach [.Lambda params body scope lpos] X.env))) _ _ s
  refine Calls.spliced_cons (thn (h.run pins s I) fun u0 s00 ⟨v0, H00, I00, r0, h⟩ => ?_)
  show wpAny _ _ (spliced ((false, eval e1 X.env) :: backTo pos (starEach [.Lambda params body scope lpos] X.env))) _ _ s00
  refine Calls.spliced_cons (thn (h.run pins s00 I00) fun u1 s0 ⟨v1, H0, I0, r1, hT, h⟩ => ?_)
  show wpAny _ _ (spliced ((false, eval (.Lambda params body scope lpos) X.env) :: backTo pos (starEach [] X.env))) _ _ s0
  have hfree : ∀ y ∈ scope.names, y.2 = .free → ∃ c, X.env.cells.lookup y.1 = some c := fun y hy e => (ndef_free hB y hy e).elim (fun z => I0.ok.has _ (.inl z)) fun z => I0.ok.has _ (.inr z)
  refine Calls.spliced_cons (lam_make2 I0 TB hcode hmT hu hT hdef hfree fun f c' pm' ctv H1 s' I1 eN T1 hf hfn hfr hco => ?_)
  refine Calls.spliced_nil ⟨I1.kIn, ?_⟩
  have cp : Caps X (cloFrom X.env.cells scope.names []) fr js := Caps.made I1.ok (ndef_free hB) (ndef_fr hB) hjs
  have rc : codeAny (model X.prog X.w) X.A (.call (.ref g) ⟨[u0, u1, .ref f], []⟩) (CR (L2.CX X.prog X.w) X.stack X.prog X.w H1 s' Q (fun cls d H' => W cls d σ H')) s' := by
    refine run_ofS (N := Ng) (ps := [b, b2, a]) (us := [u0, u1, .ref f]) (vs := [v0, v1, .ref f]) lk hcd2 Sg (C.room.mono (show k + 1 + 1 ≤ k + 2 from Nat.le_refl _)) I1.env0 (.of_eq (hbind kV doc pm an cdg ct [u0, u1, .ref f] rfl)) (.cons r0 (.cons r1 (.cons rfl .nil))) rfl fun hr' => ?_
    have CZ : Cxt (hX X Ng x st g cdg s' H1 (fun cls d H' => W cls d σ H')) (k + 1) (fun cls d _ H' => W cls d σ H') := ⟨hr', rfl, Sg.nd, C.blt, passes_of rfl, takes_of rfl rfl rfl rfl⟩
    refine ⟨wB _ (defBody st), pB, h g cdg f c' s' H1 eN T1 hco CZ fun E σZ HZ Q' arg args p1 p2 hW hs hst hpl hh => ?_⟩
    exact e_actN C I1 S cp hf hfn hfr (hbl _ _ _ _ _) CZ.tk (fun cls d σ' H' z => hW cls d H' z) hN hv hd hcd hs hh hst hpl
  refine wpAny_call (codeAny_mono rc fun r s2 hq => ?_)
  cases r with
  | error e => exact C.tk e s2 (XE.of_call I1 (fun _ _ _ z => z) hq)
  | ok fl =>
    cases fl with
    | ret u => exact I1.after hq
    | next => exact False.elim hq
    | brk => exact False.elim hq
    | cont => exact False.elim hq
end
end Z

set_option Elab.async false
set_option linter.all false
set_option maxRecDepth 100000
set_option maxHeartbeats 4000000
/-! plain: the first word (the shorter one, then by signs) behind which something is met, by a queue -/
namespace Z
namespace Fst
def pRun {S : Type} (step : S → Nat → S) (s : S) (w : List Nat) : S := w.foldl step s
def lexL : List Nat → List Nat → Prop
  | a :: v, b :: w => a < b ∨ (a = b ∧ lexL v w)
  | _, _ => False
def wlt (v w : List Nat) : Prop := v.length < w.length ∨ (v.length = w.length ∧ lexL v w)
def wle (v w : List Nat) : Prop := v = w ∨ wlt v w
theorem lex_irr : ∀ {v : List Nat}, ¬ lexL v v
  | [], h => h
  | a :: v, h => by
    rcases h with h | ⟨_, h⟩
    · omega
    · exact lex_irr h
theorem lex_trans : ∀ {u v w : List Nat}, lexL u v → lexL v w → lexL u w
  | a :: u, b :: v, c :: w, h, k => by
    rcases h with h | ⟨rfl, h⟩
    · rcases k with k | ⟨rfl, _⟩
      · exact .inl (by omega)
      · exact .inl h
    · rcases k with k | ⟨rfl, k⟩
      · exact .inl k
      · exact .inr ⟨rfl, lex_trans h k⟩
  | [], _, _, h, _ => h.elim
  | _ :: _, [], _, h, _ => h.elim
  | _ :: _, _ :: _, [], _, k => k.elim
theorem lex_snoc : ∀ {v w : List Nat} {a b : Nat}, lexL v w → lexL (v ++ [a]) (w ++ [b])
  | x :: v, y :: w, a, b, h => by
    rcases h with h | ⟨rfl, h⟩
    · exact .inl h
    · exact .inr ⟨rfl, lex_snoc h⟩
  | [], _, _, _, h => h.elim
  | _ :: _, [], _, _, h => h.elim
theorem lex_last {a b : Nat} (h : a < b) : ∀ {v : List Nat}, lexL (v ++ [a]) (v ++ [b])
  | [] => .inl h
  | x :: v => .inr ⟨rfl, lex_last h⟩
theorem wlt_irr {v : List Nat} (h : wlt v v) : False := by
  rcases h with h | ⟨_, h⟩
  · omega
  · exact lex_irr h
theorem wlt_trans {u v w : List Nat} (h : wlt u v) (k : wlt v w) : wlt u w := by
  rcases h with h | ⟨e, h⟩
  · rcases k with k | ⟨e', k⟩
    · exact .inl (by omega)
    · exact .inl (by omega)
  · rcases k with k | ⟨e', k⟩
    · exact .inl (by omega)
    · exact .inr ⟨by omega, lex_trans h k⟩
theorem wlt_snoc {v w : List Nat} {a b : Nat} (h : wlt v w) : wlt (v ++ [a]) (w ++ [b]) := by
  rcases h with h | ⟨e, h⟩
  · exact .inl (by simp; omega)
  · exact .inr ⟨by simp [e], lex_snoc h⟩
theorem wlt_last {a b : Nat} (h : a < b) {v : List Nat} : wlt (v ++ [a]) (v ++ [b]) := .inr ⟨by simp, lex_last h⟩
theorem wlt_nil {w : List Nat} (h : w ≠ []) : wlt [] w := .inl (by
  cases w with
  | nil => exact absurd rfl h
  | cons a r => simp)
theorem wlt_self {w : List Nat} {a : Nat} : wlt w (w ++ [a]) := .inl (by simp)
theorem wle_trans {u v w : List Nat} (h : wle u v) (k : wle v w) : wle u w := by
  rcases h with rfl | h
  · exact k
  · rcases k with rfl | k
    · exact .inr h
    · exact .inr (wlt_trans h k)
theorem wle_snoc {v w : List Nat} {a : Nat} (h : wle v w) : wle (v ++ [a]) (w ++ [a]) := by
  rcases h with rfl | h
  · exact .inl rfl
  · exact .inr (wlt_snoc h)
theorem wle_anti {v w : List Nat} (h : wle v w) (k : wle w v) : v = w := by
  rcases h with h | h
  · exact h
  · rcases k with k | k
    · exact k.symm
    · exact (wlt_irr (wlt_trans h k)).elim
/-- r tells the first word with P -/
def IsFirst (wd : Nat) (P : List Nat → Prop) : Option (List Nat) → Prop
  | none => ∀ w, Mc.Wd wd w → ¬ P w
  | some w => Mc.Wd wd w ∧ P w ∧ ∀ v, Mc.Wd wd v → P v → wle w v
theorem IsFirst.eq {wd : Nat} {P P' : List Nat → Prop} {r r' : Option (List Nat)} (h : IsFirst wd P r) (h' : IsFirst wd P' r') (e : ∀ w, Mc.Wd wd w → (P w ↔ P' w)) : r = r' := by
  cases r with
  | none =>
    cases r' with
    | none => rfl
    | some w' => exact absurd ((e w' h'.1).mpr h'.2.1) (h w' h'.1)
  | some w =>
    cases r' with
    | none => exact absurd ((e w h.1).mp h.2.1) (h' w h.1)
    | some w' => rw [wle_anti (h.2.2 w' h'.1 ((e w' h'.1).mpr h'.2.1)) (h'.2.2 w h.1 ((e w h.1).mp h.2.1))]
variable {S : Type} {wd : Nat} {step : S → Nat → S} {s0 : S} {ws : List (List Nat)} {at_ a : Nat}
/-- a queue of words: all behind the first at_, and of the at_-th one those by signs below a, are met -/
structure Que (wd : Nat) (step : S → Nat → S) (s0 : S) (ws : List (List Nat)) (at_ a : Nat) : Prop where
  zero : ws[0]? = some []
  inc : ws.Pairwise wlt
  wdd : ∀ w ∈ ws, Mc.Wd wd w
  clo : ∀ (i : Nat) (w : List Nat), ws[i]? = some w → ∀ b, b < wd → (i < at_ ∨ (i = at_ ∧ b < a)) → ∃ v ∈ ws, pRun step s0 v = step (pRun step s0 w) b ∧ wle v (w ++ [b])
  org : ∀ v ∈ ws, v = [] ∨ ∃ (i : Nat) (w : List Nat) (b : Nat), ws[i]? = some w ∧ v = w ++ [b] ∧ (i < at_ ∨ (i = at_ ∧ b < a))
theorem run_snoc {s : S} {w : List Nat} {b : Nat} : pRun step s (w ++ [b]) = step (pRun step s w) b := by
  induction w generalizing s with
  | nil => rfl
  | cons c w ih => exact ih
theorem Que.start : Que wd step s0 [[]] 0 0 :=
  ⟨rfl, by simp, fun w hw => by rw [List.mem_singleton.mp hw]; exact (fun b hb => nomatch hb), fun i w _ b _ h => by omega, fun v hv => .inl (List.mem_singleton.mp hv)⟩
theorem Que.below (h : Que wd step s0 ws at_ a) {w : List Nat} (hw : ws[at_]? = some w) : ∀ v ∈ ws, wlt v (w ++ [a]) := fun v hv => by
  rcases h.org v hv with rfl | ⟨i, u, b, hu, rfl, hi | ⟨rfl, hb⟩⟩
  · exact wlt_nil (by simp)
  · have h1 := (List.getElem?_eq_some_iff.mp hu).1
    have h2 := (List.getElem?_eq_some_iff.mp hw).1
    have := List.pairwise_iff_getElem.mp h.inc i at_ h1 h2 hi
    rw [(List.getElem?_eq_some_iff.mp hu).2, (List.getElem?_eq_some_iff.mp hw).2] at this
    exact wlt_snoc this
  · rw [hw] at hu
    cases hu
    exact wlt_last hb
theorem Que.old (h : Que wd step s0 ws at_ a) {w : List Nat} (hw : ws[at_]? = some w) (k : ∃ v ∈ ws, pRun step s0 v = step (pRun step s0 w) a) : Que wd step s0 ws at_ (a + 1) := by
  refine ⟨h.zero, h.inc, h.wdd, fun i u hu b hb hi => ?_, fun v hv => ?_⟩
  · by_cases e : i = at_ ∧ b = a
    · obtain ⟨rfl, rfl⟩ := e
      rw [hw] at hu
      cases hu
      obtain ⟨v, hv, e⟩ := k
      exact ⟨v, hv, e, .inr (h.below hw v hv)⟩
    · exact h.clo i u hu b hb (by omega)
  · rcases h.org v hv with e | ⟨i, u, b, hu, e, hi⟩
    · exact .inl e
    · exact .inr ⟨i, u, b, hu, e, by omega⟩
theorem Que.new (h : Que wd step s0 ws at_ a) {w : List Nat} (hw : ws[at_]? = some w) (ha : a < wd) : Que wd step s0 (ws ++ [w ++ [a]]) at_ (a + 1) := by
  have hl := (List.getElem?_eq_some_iff.mp hw).1
  have old : ∀ {i : Nat} {u : List Nat}, ws[i]? = some u → (ws ++ [w ++ [a]])[i]? = some u := fun {i u} hu => by
    rw [List.getElem?_append_left (List.getElem?_eq_some_iff.mp hu).1]; exact hu
  have wm := List.mem_of_getElem? hw
  refine ⟨old h.zero, ?_, fun v hv => ?_, fun i u hu b hb hi => ?_, fun v hv => ?_⟩
  · rw [List.pairwise_append]
    exact ⟨h.inc, by simp, fun v hv u hu => by rw [List.mem_singleton.mp hu]; exact h.below hw v hv⟩
  · rcases List.mem_append.mp hv with hv | hv
    · exact h.wdd v hv
    · rw [List.mem_singleton.mp hv]
      intro b hb
      rcases List.mem_append.mp hb with hb | hb
      · exact h.wdd w wm b hb
      · rw [List.mem_singleton.mp hb]; exact ha
  · by_cases e : i = at_ ∧ b = a
    · obtain ⟨rfl, rfl⟩ := e
      rw [old hw] at hu
      cases hu
      exact ⟨w ++ [b], by simp, run_snoc, .inl rfl⟩
    · have hu' : ws[i]? = some u := by
        rw [List.getElem?_append_left (by omega)] at hu
        exact hu
      obtain ⟨v, hv, e⟩ := h.clo i u hu' b hb (by omega)
      exact ⟨v, List.mem_append_left _ hv, e⟩
  · rcases List.mem_append.mp hv with hv | hv
    · rcases h.org v hv with e | ⟨i, u, b, hu, e, hi⟩
      · exact .inl e
      · exact .inr ⟨i, u, b, old hu, e, by omega⟩
    · exact .inr ⟨at_, w, a, old hw, List.mem_singleton.mp hv, .inr ⟨rfl, by omega⟩⟩
theorem Que.next (h : Que wd step s0 ws at_ wd) : Que wd step s0 ws (at_ + 1) 0 := by
  refine ⟨h.zero, h.inc, h.wdd, fun i u hu b hb hi => h.clo i u hu b hb (by omega), fun v hv => ?_⟩
  rcases h.org v hv with e | ⟨i, u, b, hu, e, hi⟩
  · exact .inl e
  · exact .inr ⟨i, u, b, hu, e, by omega⟩
theorem Que.lt (h : Que wd step s0 ws at_ a) {i j : Nat} {u v : List Nat} (hu : ws[i]? = some u) (hv : ws[j]? = some v) (hij : i < j) : wlt u v := by
  have := List.pairwise_iff_getElem.mp h.inc i j (List.getElem?_eq_some_iff.mp hu).1 (List.getElem?_eq_some_iff.mp hv).1 hij
  rw [(List.getElem?_eq_some_iff.mp hu).2, (List.getElem?_eq_some_iff.mp hv).2] at this
  exact this
theorem Que.le (h : Que wd step s0 ws at_ a) {i j : Nat} {u v : List Nat} (hu : ws[i]? = some u) (hv : ws[j]? = some v) (hij : i ≤ j) : wle u v := by
  rcases Nat.lt_or_ge i j with hl | hg
  · exact .inr (h.lt hu hv hl)
  · have : i = j := by omega
    subst this
    rw [hu] at hv
    exact .inl (Option.some.inj hv)
theorem Que.len (h : Que wd step s0 ws at_ a) : ∀ {i : Nat} {w : List Nat}, ws[i]? = some w → w.length ≤ i := by
  intro i
  induction i using Nat.strongRecOn with
  | ind i ih =>
    intro w hw
    rcases h.org w (List.mem_of_getElem? hw) with rfl | ⟨j, u, b, hu, rfl, _⟩
    · exact Nat.zero_le _
    · have hj : j < i := by
        rcases Nat.lt_or_ge j i with hl | hg
        · exact hl
        · have h1 := h.le hw hu hg
          have h2 : wlt u (u ++ [b]) := wlt_self
          rcases h1 with e | h1
          · rw [e] at h2; exact (wlt_irr h2).elim
          · exact (wlt_irr (wlt_trans h1 h2)).elim
      have := ih j hj hu
      rw [List.length_append]
      show u.length + 1 ≤ i
      omega
/-- each word has one in the queue that is no later and leads where it leads, or one that is still to come -/
theorem Que.all (h : Que wd step s0 ws at_ 0) : ∀ (v : List Nat), Mc.Wd wd v → ∃ (i : Nat) (w : List Nat), ws[i]? = some w ∧ wle w v ∧ (pRun step s0 w = pRun step s0 v ∨ at_ ≤ i) := by
  have key : ∀ (n : Nat) (v : List Nat), v.length = n → Mc.Wd wd v → ∃ (i : Nat) (w : List Nat), ws[i]? = some w ∧ wle w v ∧ (pRun step s0 w = pRun step s0 v ∨ at_ ≤ i) := by
    intro n
    induction n with
    | zero =>
      intro v hv _
      rw [List.eq_nil_of_length_eq_zero hv]
      exact ⟨0, [], h.zero, .inl rfl, .inl rfl⟩
    | succ n ih =>
      intro v hv hd
      have hne : v ≠ [] := fun z => by rw [z] at hv; cases hv
      have ev := List.dropLast_concat_getLast hne
      generalize v.dropLast = u at ev
      generalize v.getLast hne = b at ev
      subst ev
      have hul : u.length = n := by rw [List.length_append] at hv; exact Nat.succ.inj hv
      obtain ⟨i, w, hw, h1, h2⟩ := ih u hul fun c hc => hd c (List.mem_append_left _ hc)
      by_cases hi : at_ ≤ i
      · exact ⟨i, w, hw, wle_trans h1 (.inr wlt_self), .inr hi⟩
      · have h2 : pRun step s0 w = pRun step s0 u := h2.resolve_right hi
        obtain ⟨x, hx, e1, e2⟩ := h.clo i w hw b (hd b (by simp)) (by omega)
        obtain ⟨j, hj⟩ := List.mem_iff_getElem?.mp hx
        exact ⟨j, x, hj, wle_trans e2 (wle_snoc h1), .inl (by rw [e1, h2, run_snoc])⟩
  exact fun v hd => key v.length v rfl hd
theorem Que.found {good : S → Bool} (h : Que wd step s0 ws at_ 0) {w : List Nat} (hw : ws[at_]? = some w) (hg : good (pRun step s0 w) = true) (hn : ∀ (i : Nat) (u : List Nat), i < at_ → ws[i]? = some u → good (pRun step s0 u) = false) :
    IsFirst wd (fun v => good (pRun step s0 v) = true) (some w) := by
  refine ⟨h.wdd w (List.mem_of_getElem? hw), hg, fun v hd hv => ?_⟩
  obtain ⟨i, u, hu, h1, h2⟩ := h.all v hd
  have hi : at_ ≤ i := by
    rcases h2 with h2 | h2
    · rcases Nat.lt_or_ge i at_ with hl | hg
      · have := hn i u hl hu
        rw [h2, hv] at this
        cases this
      · exact hg
    · exact h2
  exact wle_trans (h.le hw hu hi) h1
theorem Que.none {good : S → Bool} (h : Que wd step s0 ws ws.length 0) (hn : ∀ (i : Nat) (u : List Nat), ws[i]? = some u → good (pRun step s0 u) = false) : IsFirst wd (fun v => good (pRun step s0 v) = true) none := fun v hd hv => by
  obtain ⟨i, u, hu, h1, h2⟩ := h.all v hd
  have hl := (List.getElem?_eq_some_iff.mp hu).1
  rcases h2 with h2 | h2
  · have := hn i u hu
    rw [h2] at this
    have hv : good (pRun step s0 v) = true := hv
    rw [this] at hv
    cases hv
  · omega
end Fst
end Z

set_option Elab.async false
set_option linter.all false
set_option maxRecDepth 100000
set_option maxHeartbeats 4000000
namespace K14
open PySem PySem.Spec PyProof.Rows L2 Z
/-! ### plain: pairs of states -/
def pst (L L' : List (List Nat)) (s : Nat × Nat) (a : Nat) : Nat × Nat := (tg L s.1 a, tg L' s.2 a)
theorem pst_run {L L' : List (List Nat)} : ∀ (u : List Nat) (s : Nat × Nat), Fst.pRun (pst L L') s u = (Mc.gRun (tg L) s.1 u, Mc.gRun (tg L') s.2 u)
  | [], _ => rfl
  | a :: u, s => by
    show Fst.pRun (pst L L') (pst L L' s a) u = _
    rw [pst_run u]
    rfl
theorem lineS_snoc {g : Str} {u : List Nat} {a : Nat} : lineS g u ++ (⟨#[sg g a]⟩ : Str) = lineS g (u ++ [a]) := by
  refine TL.ext_tl ?_
  show (lineS g u ++ (⟨#[sg g a]⟩ : Str)).cps.toList = (lineS g (u ++ [a])).cps.toList
  rw [show (lineS g u ++ (⟨#[sg g a]⟩ : Str)).cps.toList = (lineS g u).cps.toList ++ [sg g a] from TL.tl_append _ _, show (lineS g u).cps.toList = u.map (sg g) from sOf_list, show (lineS g (u ++ [a])).cps.toList = (u ++ [a]).map (sg g) from sOf_list, List.map_append]
  rfl
theorem lineS_len {g : Str} {u : List Nat} : (lineS g u).length = u.length := by
  show (lineS g u).cps.size = _
  rw [← Array.length_toList, show (lineS g u).cps.toList = u.map (sg g) from sOf_list, List.length_map]
theorem tg_lt {L : List (List Nat)} {wd s a : Nat} (hw : ∀ r ∈ L, r.length = wd) (hi : ∀ r ∈ L, ∀ x ∈ r, x < L.length) (hs : s < L.length) (ha : a < wd) : ∃ r, L[s]? = some r ∧ r[a]? = some (tg L s a) ∧ tg L s a < L.length := by
  obtain ⟨r, hr⟩ : ∃ r, L[s]? = some r := ⟨_, List.getElem?_eq_getElem hs⟩
  have hrm := List.mem_of_getElem? hr
  have hl := hw r hrm
  obtain ⟨z, hz⟩ : ∃ z, r[a]? = some z := ⟨_, List.getElem?_eq_getElem (by omega)⟩
  have e : tg L s a = z := by rw [tg_at hr, List.getD_eq_getElem?_getD, hz]; rfl
  exact ⟨r, hr, by rw [e]; exact hz, by rw [e]; exact hi r hrm z (List.mem_of_getElem? hz)⟩
/-- the datum of a word in the queue -/
def entD (g : Str) (L L' : List (List Nat)) (u : List Nat) : PyData := .tuple [.str (lineS g u), nD (Fst.pRun (pst L L') (0, 0) u).1, nD (Fst.pRun (pst L L') (0, 0) u).2]
theorem row_ix {H : Hp} {rq s : Nat} {L : List (List Nat)} {r : List Nat} (h : DD [] [] H (.ref rq) (.tuple (L.map rowT))) (hr : L[s]? = some r) : ∃ (xs : List V) (b : Addr), SqT [] H rq xs ∧ xs[s]? = some (.ref b) ∧ SqT [] H b (r.map nV) := by
  obtain ⟨xs, h4, h5⟩ := tup_parts h
  have hs := (List.getElem?_eq_some_iff.mp hr).1
  have hxl : xs.length = L.length := by rw [h5.length, List.length_map]
  obtain ⟨y, hy⟩ : ∃ y, xs[s]? = some y := ⟨_, List.getElem?_eq_getElem (by omega)⟩
  obtain ⟨dy, e1, e2⟩ := h5.get hy
  rw [List.getElem?_map, hr] at e1
  cases e1
  cases e2 with
  | @tup b ws ds k1 n k2 =>
    obtain rfl := dds_nats k2
    exact ⟨xs, b, h4, hy, k1⟩
theorem ent_ix {l : List Addr} {H : Hp} {xs : List V} {ws : List (List Nat)} {g : Str} {L L' : List (List Nat)} {i : Nat} {u : List Nat} (h : DDs [] l H xs (ws.map (entD g L L'))) (hu : ws[i]? = some u) :
    ∃ T, xs[i]? = some (.ref T) ∧ SqT [] H T [.str (lineS g u), nV (Fst.pRun (pst L L') (0, 0) u).1, nV (Fst.pRun (pst L L') (0, 0) u).2] := by
  have hi := (List.getElem?_eq_some_iff.mp hu).1
  have hl : xs.length = ws.length := by rw [h.length, List.length_map]
  obtain ⟨y, hy⟩ : ∃ y, xs[i]? = some y := ⟨_, List.getElem?_eq_getElem (by omega)⟩
  obtain ⟨dy, e1, e2⟩ := h.get hy
  rw [List.getElem?_map, hu] at e1
  cases e1
  cases e2 with
  | @tup b vs ds k1 n k2 =>
    cases k2 with
    | cons c1 k3 => cases c1; cases k3 with
      | cons c2 k4 => cases c2; cases k4 with
        | cons c3 k5 => cases c3; cases k5; exact ⟨b, hy, k1⟩
abbrev keyP (s : Nat × Nat) : List Key := [kN s.1, kN s.2]
theorem keyP_inj {s t : Nat × Nat} (h : keyP s = keyP t) : s = t := by
  have h1 := List.cons.inj h
  have h2 := (List.cons.inj h1.2).1
  exact Prod.ext (kN_inj h1.1) (kN_inj h2)
theorem pairs_few {n m : Nat} {ps : List (Nat × Nat)} (nd : ps.Nodup) (h : ∀ p ∈ ps, p.1 < n ∧ p.2 < m) : ps.length ≤ n * m := by
  have hm : ∀ p ∈ ps, p.1 * m + p.2 < n * m := fun p hp => by
    obtain ⟨h1, h2⟩ := h p hp
    calc p.1 * m + p.2 < p.1 * m + m := by omega
      _ = (p.1 + 1) * m := by rw [Nat.succ_mul]
      _ ≤ n * m := Nat.mul_le_mul_right m h1
  have hl : (ps.map fun p => p.1 * m + p.2).length ≤ n * m := by
    refine nodup_len ?_ (fun x hx => by obtain ⟨p, hp, rfl⟩ := List.mem_map.mp hx; exact hm p hp)
    refine List.pairwise_map.mpr (List.Pairwise.imp_of_mem (fun {p q} hp hq hpq e => hpq ?_) nd)
    obtain ⟨_, a⟩ := h p hp
    obtain ⟨_, b⟩ := h q hq
    have e1 : (p.1 * m + p.2) / m = p.1 := by rw [Nat.mul_comm, Nat.mul_add_div (by omega), Nat.div_eq_of_lt a, Nat.add_zero]
    have e2 : (q.1 * m + q.2) / m = q.1 := by rw [Nat.mul_comm, Nat.mul_add_div (by omega), Nat.div_eq_of_lt b, Nat.add_zero]
    have e3 : (p.1 * m + p.2) % m = p.2 := by rw [Nat.mul_comm, Nat.mul_add_mod, Nat.mod_eq_of_lt a]
    have e4 : (q.1 * m + q.2) % m = q.2 := by rw [Nat.mul_comm, Nat.mul_add_mod, Nat.mod_eq_of_lt b]
    have e : p.1 * m + p.2 = q.1 * m + q.2 := e
    rw [e, e2] at e1
    rw [e, e4] at e3
    exact Prod.ext e1.symm e3.symm
  rw [List.length_map] at hl
  exact hl
end K14

set_option Elab.async false
set_option linter.all false
set_option maxRecDepth 100000
set_option maxHeartbeats 4000000
namespace K14
open PySem PySem.Spec PyProof.Rows L2 Z
def fpN : List Str := ["one", "other", "is_found", "waiting", "known", "at", "line", "here", "there", "sign", "pair"]
theorem scFp : FnScope fpN ["one", "other", "is_found"] (defScope (top 50)) := ⟨rfl, rfl, rfl, by decide +kernel, rfl, by decide +kernel, by decide +kernel⟩
/-- what is told of the first word -/
def firstV (g : Str) : Option (List Nat) → V
  | none => .non
  | some u => .str (lineS g u)
section
variable {P : Program} {w : World} {K : PySem.W.Frag} {mg : Str → Option Value} {base : Heap} {CM : Addr}
theorem fpl_body {fw : Bool → Bool → Bool} {f fl : Addr} {cdv : Value} {A : Around} {outer : List Env} {s : Shared} {Hc : Hp} {E : XK} {k : Nat} {W : WX} (B : Blt mg base) (CL : ClsM K CM)
    (C : Cxt (bX P w K mg base fpN "first_pair_line" (top 50) f cdv A outer s Hc E) (k + 1) W) (D1 : Def P w K mg base 1 "want_same_signs" (top 22) ["one", "other"] spSame)
    {H : Hp} {p p' : Addr} {g : Str} {L L' : List (List Nat)} {LA LA' : List Bool} {Q : VK} (hM : IsMach CM g L LA H p) (hM' : IsMach CM g L' LA' H p') (ok : OkM g L LA) (ok' : OkM g L' LA') (hpos : 0 < L.length) (hpos' : 0 < L'.length)
    (act : ∀ (σZ : L2.St) (HZ : Hp) (Q' : VK) (arg : Expr) (args : List Expr) (p1 p2 : Pos), σZ[2]? = some (some (.ref fl)) →
      starEach (arg :: args) (bX P w K mg base fpN "first_pair_line" (top 50) f cdv A outer s Hc E).env = (false, eval arg (bX P w K mg base fpN "first_pair_line" (top 50) f cdv A outer s Hc E).env) :: starEach args (bX P w K mg base fpN "first_pair_line" (top 50) f cdv A outer s Hc E).env →
      (backTo p2 (starEach args (bX P w K mg base fpN "first_pair_line" (top 50) f cdv A outer s Hc E).env)).any (·.1) = false →
      wA (bX P w K mg base fpN "first_pair_line" (top 50) f cdv A outer s Hc E) (arg :: args) σZ HZ (fun vs HY => ∃ a b : Bool, vs = [bV a, bV b] ∧ But [] H HY ∧ Q' (bV (fw a b)) HY) →
      wE (bX P w K mg base fpN "first_pair_line" (top 50) f cdv A outer s Hc E) (.Call (.Name "is_found" p1) (arg :: args) [] p2) σZ HZ Q')
    (hQ : ∀ r H', But [] H H' → Fst.IsFirst g.length (fun u => fw (langOf L LA u) (langOf L' LA' u) = true) r → (∀ u, r = some u → u.length ≤ 1600) → Q (firstV g r) H') :
    wB (bX P w K mg base fpN "first_pair_line" (top 50) f cdv A outer s Hc E) (defBody (top 50)) { nx := fun _ H' => Q .non H', rt := Q } (start fpN [.ref p, .ref p', .ref fl]) H := by
  have sz : ∀ n, n ≤ 16777216 → n ≤ sizeLine := fun n h => by rw [sizeLine_eq]; exact h
  have gl := strSigns_len ok.sg
  obtain ⟨dx, rq, bq, h1, h2, h3⟩ := hM.ex
  obtain ⟨dx', rq', bq', h1', h2', h3'⟩ := hM'.ex
  refine b_cons (s_expr (e_call (k := 1) (C.mono (by omega)) D1 (a_cons (e_fld (v := .str g) (e_name 0 (v := .ref p) ⟨rfl, h1, a_cons (e_fld (v := .str g) (e_name 1 (v := .ref p') ⟨rfl, h1', a_nil ?_⟩) CL.c CL.n1 rfl)⟩) CL.c CL.n1 rfl)) rfl (fun _ _ _ _ _ _ us hl => match us, hl with | [_, _], _ => rfl)))
  refine ⟨g, rfl, fun H1 b1 => ?_⟩
  refine b_cons (s_par3 (i := 3) (j := 4) (l := 5) C (a_cons (e_lst (a_cons (e_tup (a_cons (e_str (a_cons (e_int (a_cons (e_int (a_nil ?_))))))))))))
  refine ⟨sz 3 (by decide), fun tq htq => a_nil ?_⟩
  refine ⟨sz 1 (by decide), fun wq hwq => a_cons (e_dict1T C fun kq hkq => e_tup (a_cons (e_int (a_cons (e_int (a_nil ?_))))))⟩
  refine ⟨sz 2 (by decide), fun uq huq => e_bool ?_⟩
  refine ⟨uq, [kN 0, kN 0], rfl, ?_, upd_same, ?_⟩
  · rw [upd_ne (ne_of_none upd_same huq)]; exact upd_same
  refine a_cons (e_int (a_nil ⟨_, _, _, rfl, ?_⟩))
  have b2 : But [] H1 (upd H1 tq (.tup [.str "", .int 0, .int 0])) := But.new htq
  have ht2 : upd H1 tq (.tup [.str "", .int 0, .int 0]) tq = some (.tup [.str "", .int 0, .int 0]) := upd_same
  generalize upd H1 tq (.tup [.str "", .int 0, .int 0]) = H2 at hwq hkq huq b2 ht2 ⊢
  have b3 : But [] H2 (upd H2 wq (.lst [.ref tq])) := But.new hwq
  have hw3 : upd H2 wq (.lst [.ref tq]) wq = some (.lst [.ref tq]) := upd_same
  have hwH : H wq = none := b1.free (b2.free hwq)
  have ntw : tq ≠ wq := ne_of_none ht2 hwq
  generalize upd H2 wq (.lst [.ref tq]) = H3 at hkq huq b3 hw3 ⊢
  have hkH : H kq = none := b1.free (b2.free (b3.free hkq))
  have nwk : wq ≠ kq := ne_of_none hw3 hkq
  have ntk : tq ≠ kq := ne_of_none (b3 _ _ (by simp) ht2) hkq
  have nuk : uq ≠ kq := (ne_of_none (H := upd H3 kq (.dT [])) upd_same huq).symm
  have b36 : But [] H3 (upd (upd (upd H3 kq (.dT [])) uq (.tup [.int 0, .int 0])) kq (.dT [([kN 0, kN 0], .bl true)])) := fun q o na e => by
    have n1 : q ≠ kq := ne_of_none e hkq
    rw [upd_ne n1, upd_ne (ne_of_none (by rw [upd_ne n1]; exact e) huq), upd_ne n1]
    exact e
  have hk6 : upd (upd (upd H3 kq (.dT [])) uq (.tup [.int 0, .int 0])) kq (.dT [([kN 0, kN 0], .bl true)]) kq = some (.dT [([kN 0, kN 0], .bl true)]) := upd_same
  show wB _ _ _ [some (.ref p), some (.ref p'), some (.ref fl), some (.ref wq), some (.ref kq), some (nV 0), none, none, none, none, none] (upd (upd (upd H3 kq (.dT [])) uq (.tup [.int 0, .int 0])) kq (.dT [([kN 0, kN 0], .bl true)]))
  generalize upd (upd (upd H3 kq (.dT [])) uq (.tup [.int 0, .int 0])) kq (.dT [([kN 0, kN 0], .bl true)]) = H6 at b36 hk6 ⊢
  have b06 : But [] H H6 := b1.trans (b2.trans (b3.trans b36))
  have hw6 := b36 _ _ (by simp) hw3
  have ht6 := b36 _ _ (by simp) (b3 _ _ (by simp) ht2)
  let step := pst L L'
  let N := L.length * L'.length
  have hN : N ≤ 40 * 40 := Nat.mul_le_mul ok.few ok'.few
  have runs : ∀ u, Mc.Wd g.length u → (Fst.pRun (pst L L') (0, 0) u).1 < L.length ∧ (Fst.pRun (pst L L') (0, 0) u).2 < L'.length := by
    intro u
    have key : ∀ (u : List Nat) (s : Nat × Nat), Mc.Wd g.length u → s.1 < L.length → s.2 < L'.length → (Fst.pRun (pst L L') s u).1 < L.length ∧ (Fst.pRun (pst L L') s u).2 < L'.length := by
      intro u
      induction u with
      | nil => exact fun s _ a b => ⟨a, b⟩
      | cons c u ih =>
        intro s hd a b
        obtain ⟨_, _, _, r1⟩ := tg_lt ok.wide ok.inn a (hd c (by simp))
        obtain ⟨_, _, _, r2⟩ := tg_lt ok'.wide ok'.inn b (hd c (by simp))
        exact ih _ (fun x hx => hd x (List.mem_cons_of_mem _ hx)) r1 r2
    exact fun hd => key u (0, 0) hd hpos hpos'
  let good : Nat × Nat → Bool := fun s => fw (accOf LA s.1) (accOf LA' s.2)
  have gd : ∀ u, good (Fst.pRun (pst L L') (0, 0) u) = fw (langOf L LA u) (langOf L' LA' u) := fun u => by
    show fw (accOf LA _) (accOf LA' _) = _
    rw [pst_run]
    rfl
  -- what stays while the queue grows
  refine b_cons (s_while C (fun m σ H' => ∃ (at_ : Nat) (ws : List (List Nat)) (xs : List V) (kvs : List (List Key × V)) (v6 v7 v8 v9 v10 : Option V), σ = [some (.ref p), some (.ref p'), some (.ref fl), some (.ref wq), some (.ref kq), some (nV at_), v6, v7, v8, v9, v10] ∧ But [] H H' ∧ H' wq = some (.lst xs) ∧ DDs [] [wq, kq] H' xs (ws.map (entD g L L')) ∧
      H' kq = some (.dT kvs) ∧ kvs.length ≤ ws.length ∧ (∀ s, (valV kvs (keyP s)).isSome = decide (s ∈ ws.map (Fst.pRun (pst L L') (0, 0)))) ∧ (ws.map (Fst.pRun (pst L L') (0, 0))).Nodup ∧ Fst.Que g.length (pst L L') (0, 0) ws at_ 0 ∧ (∀ (i : Nat) (u : List Nat), i < at_ → ws[i]? = some u → good (Fst.pRun (pst L L') (0, 0) u) = false) ∧ at_ ≤ ws.length ∧ m = N - at_) N
    ⟨0, [[]], [.ref tq], [(keyP (0, 0), .bl true)], none, none, none, none, none, rfl, b06, hw6, .cons (.tup (.inl (.inl ht6)) (by simp [ntw, ntk]) (.cons (.str _) (.cons (.int _) (.cons (.int _) .nil)))) .nil, hk6, Nat.le_refl _, fun s => ?_, by simp, Fst.Que.start, fun i u hi => by omega, Nat.zero_le _, rfl⟩ ?_)
  · by_cases e : s = (0, 0)
    · subst e
      simp [valV, List.find?_cons, Fst.pRun]
    · have n1 : ¬ (keyP (0, 0) = keyP s) := fun z => e (keyP_inj z).symm
      have n2 : ¬ (s ∈ [([] : List Nat)].map (Fst.pRun (pst L L') (0, 0))) := fun z => e (by simpa [Fst.pRun] using z)
      rw [valV_neg n1, decide_eq_false n2]
      rfl
  rintro m σ H7 ⟨at_, ws, xs, kvs, v6, v7, v8, v9, v10, rfl, b7, hw7, hdd7, hk7, hkl, hks, hnd, que, hng, hat, rfl⟩
  have hxl : xs.length = ws.length := by rw [hdd7.length, List.length_map]
  have hwsN : ws.length ≤ N := by
    have := pairs_few hnd (n := L.length) (m := L'.length) (fun q hq => by
      obtain ⟨u, hu, rfl⟩ := List.mem_map.mp hq
      exact runs u (que.wdd u hu))
    rwa [List.length_map] at this
  refine t_cmp (e_name 5 (v := nV at_) (e_len B (e_name 3 (v := .ref wq) ⟨xs.length, .inl ⟨_, .inl (.inl hw7), rfl⟩, c_lt ⟨decide (at_ < ws.length), ?_, ite_b (fun e => ?_) fun e => ?_⟩⟩)))
  · congr 1; rw [decide_eq_decide]; omega
  · have hlt : at_ < ws.length := of_decide_eq_true e
    obtain ⟨u, hu⟩ : ∃ u, ws[at_]? = some u := ⟨_, List.getElem?_eq_getElem hlt⟩
    obtain ⟨T, hT, hTs⟩ := ent_ix hdd7 hu
    have hud : Mc.Wd g.length u := que.wdd u (List.mem_of_getElem? hu)
    obtain ⟨rs, rt⟩ := runs u hud
    have gu := gd u
    obtain ⟨st, hst⟩ : ∃ st, Fst.pRun (pst L L') (0, 0) u = st := ⟨_, rfl⟩
    obtain ⟨s0, t0⟩ := st
    rw [hst] at hTs rs rt gu
    have rs : s0 < L.length := rs
    have rt : t0 < L'.length := rt
    have hul : u.length ≤ 1600 := by have := que.len hu; omega
    refine b_cons (s_asg (e_ix (e_name 3 (v := .ref wq) (e_name 5 (v := nV at_) (ix_l (.inl (.inl hw7)) (v := .ref T) (atI_nat hT) ?_)))))
    refine g_tup (gs_cons (g_name (i := 6) (gs_cons (g_name (i := 7) (gs_cons (g_name (i := 8) (gs_nil ?_) C.nd)) C.nd)) C.nd)) rfl (sqt_all hTs)
    have hM7 := hM.but b7
    have hM7' := hM'.but b7
    have h17 := b7 _ _ (by simp) h1
    have h17' := b7 _ _ (by simp) h1'
    refine b_cons (s_if (t_val (act _ _ _ _ _ _ _ rfl rfl rfl ?_)))
    refine a_cons (e_ix (e_fld (v := .ref bq) (e_name 0 (v := .ref p) ⟨rfl, h17, e_name 7 (v := nV s0) (ix_sq (acc_sq (h3.but b7)).all (v := bV (accOf LA s0)) (atI_nat (acc_at (by rw [ok.len]; exact rs))) ?_)⟩) CL.c CL.n3 rfl))
    refine a_cons (e_ix (e_fld (v := .ref bq') (e_name 1 (v := .ref p') ⟨rfl, h17', e_name 8 (v := nV t0) (ix_sq (acc_sq (h3'.but b7)).all (v := bV (accOf LA' t0)) (atI_nat (acc_at (by rw [ok'.len]; exact rt))) ?_)⟩) CL.c CL.n3 rfl))
    refine a_nil ⟨_, _, rfl, b7, _, rfl, ite_b (fun e2 => ?_) (fun e2 => b_nil ?_)⟩
    · refine b_cons (s_ret (e_name 6 (v := .str (lineS g u)) (hQ (some u) H7 b7 ?_ (fun v h => by cases h; exact hul))))
      obtain ⟨f1, f2, f3⟩ := que.found (good := good) hu (by rw [hst]; exact e2) (fun i v hi hv => hng i v hi hv)
      exact ⟨f1, (gd u).symm.trans f2, fun v hv hg => f3 v hv ((gd v).trans hg)⟩
    obtain ⟨rxs, rb, q4, q5, q6⟩ := row_ix (h2.but b7) (L := L) (List.getElem?_eq_getElem rs)
    obtain ⟨rxs', rb', q4', q5', q6'⟩ := row_ix (h2'.but b7) (L := L') (List.getElem?_eq_getElem rt)
    refine b_cons (s_for C (i_zip2 B ?_))
    refine e_fld (v := .str g) (e_name 0 (v := .ref p) ⟨rfl, h17, e_listZip C ?_⟩) CL.c CL.n1 rfl
    refine e_ix (e_fld (v := .ref rq) (e_name 0 (v := .ref p) ⟨rfl, h17, e_name 7 (v := nV s0) (ix_t (sqt_all q4) (v := .ref rb) (atI_nat q5) ?_)⟩) CL.c CL.n2 rfl)
    refine e_ix (e_fld (v := .ref rq') (e_name 1 (v := .ref p') ⟨rfl, h17', e_name 8 (v := nV t0) (ix_t (sqt_all q4') (v := .ref rb') (atI_nat q5') ?_)⟩) CL.c CL.n2 rfl)
    have wl : (L[s0]).length = g.length := ok.wide _ (List.getElem_mem rs)
    have wl' : (L'[t0]).length = g.length := ok'.wide _ (List.getElem_mem rt)
    have hmin : min ((L[s0]).map nV).length ((L'[t0]).map nV).length = g.length := by rw [List.length_map, List.length_map, wl, wl', Nat.min_self]
    refine ⟨.t rb, .t rb', _, _, rfl, rfl, sqt_all q6, sqt_all q6', by rw [hmin]; omega, fun zq vs H8 b8 hzn hz hvl hve => ?_⟩
    rw [hmin] at hvl
    have gsl : (Z.signs g).length = g.length := by rw [Z.signs, List.length_map, Array.length_toList]; rfl
    have nzw : zq ∉ [wq, kq] := by simp [(ne_of_none hw7 hzn).symm, (ne_of_none hk7 hzn).symm]
    have b08 := b7.trans b8
    have xsN : ws.length ≤ 1600 := by omega
    refine ⟨.s g, .l zq, Z.signs g, vs, rfl, rfl, rfl, .inl (.inl hz), g.length, _, _, walk_G2 (by rw [gsl, hvl, Nat.min_self]), fun j σ H' => (∃ v9 v10, σ = [some (.ref p), some (.ref p'), some (.ref fl), some (.ref wq), some (.ref kq), some (nV at_), some (.str (lineS g u)), some (nV s0), some (nV t0), v9, v10]) ∧ But [] H H' ∧ But [wq, kq] H8 H' ∧ ∃ (ws' : List (List Nat)) (xs' : List V) (kvs' : List (List Key × V)),
      H' wq = some (.lst xs') ∧ DDs [] [wq, kq] H' xs' (ws'.map (entD g L L')) ∧ H' kq = some (.dT kvs') ∧ kvs'.length ≤ ws'.length ∧ (∀ s, (valV kvs' (keyP s)).isSome = decide (s ∈ ws'.map (Fst.pRun (pst L L') (0, 0)))) ∧ (ws'.map (Fst.pRun (pst L L') (0, 0))).Nodup ∧ Fst.Que g.length (pst L L') (0, 0) ws' at_ j ∧
      (∀ (i : Nat) (u : List Nat), i ≤ at_ → ws'[i]? = some u → good (Fst.pRun (pst L L') (0, 0) u) = false) ∧ ws'[at_]? = some u,
      ⟨⟨v9, v10, rfl⟩, b08, But.refl, ws, xs, kvs, b8 _ _ (by simp) hw7, hdd7.but b8.of, b8 _ _ (by simp) hk7, hkl, hks, hnd, que, fun i v hi hv => ?_, hu⟩, fun j σ H' _ h => ⟨rfl, h.2.2.1.sql nzw (.inl (.inl hz))⟩, ?_, ?_⟩
    · by_cases ei : i = at_
      · subst ei
        rw [hu] at hv
        cases hv
        rw [hst]; exact e2
      · exact hng i v (by omega) hv
    · rintro j x σ H9 H10 hj ⟨⟨v9, v10, rfl⟩, b9, b89, ws', xs', kvs', hw9, hdd9, hk9, hkl9, hks9, hnd9, que9, hng9, hu9⟩ ⟨T2, x1, y1, rfl, hT2, rfl, e3, e4⟩
      have e3 : (Z.signs g)[j]? = some x1 := e3
      have e4 : vs[j]? = some y1 := e4
      rw [Z.signs, List.getElem?_map, sg_at hj] at e3
      cases e3
      obtain ⟨Tp, a, b, rfl, hTp, ea, eb⟩ := hve j y1 e4
      obtain ⟨_, tr, ta, tl⟩ := tg_lt ok.wide ok.inn rs hj
      obtain ⟨_, tr', ta', tl'⟩ := tg_lt ok'.wide ok'.inn rt hj
      rw [List.getElem?_eq_getElem rs] at tr
      rw [List.getElem?_eq_getElem rt] at tr'
      cases tr
      cases tr'
      rw [nth_nat ta] at ea
      rw [nth_nat ta'] at eb
      cases ea
      cases eb
      have nTp : Tp ∉ [wq, kq] := by
        have h1 := b8 _ _ (by simp) hw7
        have h2 := b8 _ _ (by simp) hk7
        simp only [List.mem_cons, List.not_mem_nil, or_false]
        rintro (rfl | rfl)
        · rw [h1] at hTp; cases hTp
        · rw [h2] at hTp; cases hTp
      have bt : But [] H9 (upd H9 T2 (.tup [.str ⟨#[sg g j]⟩, .ref Tp])) := But.new hT2
      refine g_tup (gs_cons (g_name (i := 9) (gs_cons (g_name (i := 10) (gs_nil ?_) C.nd)) C.nd)) rfl (.inl (.inl upd_same))
      have hw10 := bt _ _ (by simp) hw9
      have hk10 := bt _ _ (by simp) hk9
      have hdd10 := hdd9.but bt.of
      have b10 := b9.trans bt
      have b810 := b89.trans bt.of
      generalize upd H9 T2 (.tup [.str ⟨#[sg g j]⟩, .ref Tp]) = H10 at hw10 hk10 hdd10 b10 b810 ⊢
      have hTp10 : H10 Tp = some (.tup [nV (tg L s0 j), nV (tg L' t0 j)]) := b810 _ _ nTp hTp
      have est : pst L L' (Fst.pRun (pst L L') (0, 0) u) j = (tg L s0 j, tg L' t0 j) := by rw [hst]; rfl
      have ws9 : ws'.length ≤ 1600 := by
        have := pairs_few hnd9 (n := L.length) (m := L'.length) (fun q hq => by
          obtain ⟨u, hu, rfl⟩ := List.mem_map.mp hq
          exact runs u (que9.wdd u hu))
        rw [List.length_map] at this
        have : ws'.length ≤ N := this
        omega
      have xl9 : xs'.length = ws'.length := by rw [hdd9.length, List.length_map]
      refine b_cons (s_ifB (decide ((tg L s0 j, tg L' t0 j) ∉ ws'.map (Fst.pRun (pst L L') (0, 0)))) ?_ (fun e5 H11 b11 => ?_) (fun e5 H11 b11 => b_nil (b_nil ?_)))
      · refine t_cmp (e_name 10 (v := .ref Tp) (e_name 4 (v := .ref kq) (c_notInD C (DGet.t (k := keyP (tg L s0 j, tg L' t0 j)) hk10 hTp10) ⟨_, rfl, ?_, But.refl⟩)))
        rw [hks9, Bool.eq_iff_iff]
        simp
      · have hnx := of_decide_eq_true e5
        have hk11 := b11 _ _ (by simp) hk10
        have hw11 := b11 _ _ (by simp) hw10
        have hTp11 := b11 _ _ (by simp) hTp10
        refine b_cons (s_asg (e_bool (g_sub (e_name 4 (v := .ref kq) (e_name 10 (v := .ref Tp) (set_d C (DPut.t (k := keyP (tg L s0 j, tg L' t0 j)) hk11 hTp11 (sz _ (by omega))) ?_))))))
        have nkT : Tp ≠ kq := by intro z; exact nTp (by rw [z]; simp)
        have hw12 : upd H11 kq (.dT (putK kvs' (keyP (tg L s0 j, tg L' t0 j)) (.bl true))) wq = some (.lst xs') := by rw [upd_ne nwk]; exact hw11
        have hT12 : upd H11 kq (.dT (putK kvs' (keyP (tg L s0 j, tg L' t0 j)) (.bl true))) Tp = some (.tup [nV (tg L s0 j), nV (tg L' t0 j)]) := by rw [upd_ne nkT]; exact hTp11
        have hk12 : upd H11 kq (.dT (putK kvs' (keyP (tg L s0 j, tg L' t0 j)) (.bl true))) kq = some (.dT (putK kvs' (keyP (tg L s0 j, tg L' t0 j)) (.bl true))) := upd_same
        have b12 : But [wq, kq] H11 (upd H11 kq (.dT (putK kvs' (keyP (tg L s0 j, tg L' t0 j)) (.bl true)))) := But.at (by simp)
        have bH12 : But [] H (upd H11 kq (.dT (putK kvs' (keyP (tg L s0 j, tg L' t0 j)) (.bl true)))) := fun q o na e => by
          rw [upd_ne (ne_of_none e hkH)]; exact b11 _ _ (by simp) (b10 _ _ na e)
        have hdd12 := (hdd10.but b11.of).but b12
        have b812 := (b810.trans b11.of).trans b12
        generalize upd H11 kq (.dT (putK kvs' (keyP (tg L s0 j, tg L' t0 j)) (.bl true))) = H12 at hw12 hT12 hk12 bH12 hdd12 b812 ⊢
        have lu : (lineS g u).length = u.length := lineS_len
        refine b_cons (s_expr (e_append (e_name 3 (v := .ref wq) ⟨wq, rfl, ⟨_, hw12⟩, e_tup ?_⟩)))
        refine a_cons (e_bin (e_name 6 (v := .str (lineS g u)) (e_name 9 (v := .str ⟨#[sg g j]⟩) (o_adds (by rw [lu]; exact sz _ (by show u.length + 1 ≤ _; omega)) ?_))))
        rw [lineS_snoc]
        refine a_cons (e_ix (e_name 10 (v := .ref Tp) (e_int (ix_t (.inl (.inl hT12)) (v := nV (tg L s0 j)) rfl ?_))))
        refine a_cons (e_ix (e_name 10 (v := .ref Tp) (e_int (ix_t (.inl (.inl hT12)) (v := nV (tg L' t0 j)) rfl ?_))))
        refine a_nil ⟨sz 3 (by decide), fun eq heq => ?_⟩
        have be : But [] H12 (upd H12 eq (.tup [.str (lineS g (u ++ [j])), nV (tg L s0 j), nV (tg L' t0 j)])) := But.new heq
        have he13 : upd H12 eq (.tup [.str (lineS g (u ++ [j])), nV (tg L s0 j), nV (tg L' t0 j)]) eq = some (.tup [.str (lineS g (u ++ [j])), nV (tg L s0 j), nV (tg L' t0 j)]) := upd_same
        have hw13 := be _ _ (by simp) hw12
        have hk13 := be _ _ (by simp) hk12
        have hdd13 := hdd12.but be.of
        have b813 := b812.trans be.of
        have bH13 := bH12.trans be
        have new : eq ∉ [wq, kq] := by simp [(ne_of_none hw12 heq).symm, (ne_of_none hk12 heq).symm]
        generalize upd H12 eq (.tup [.str (lineS g (u ++ [j])), nV (tg L s0 j), nV (tg L' t0 j)]) = H13 at he13 hw13 hk13 hdd13 b813 bH13 ⊢
        refine ⟨xs', hw13, sz _ (by omega), b_nil (b_nil ?_)⟩
        have bz : But [wq, kq] H13 (upd H13 wq (.lst (xs' ++ [.ref eq]))) := But.at (by simp)
        have erun : Fst.pRun (pst L L') (0, 0) (u ++ [j]) = (tg L s0 j, tg L' t0 j) := by rw [Fst.run_snoc, est]
        refine ⟨⟨_, _, rfl⟩, fun q o na e => ?_, b813.trans bz, ws' ++ [u ++ [j]], xs' ++ [.ref eq], _, upd_same, ?_, by rw [upd_ne nwk.symm]; exact hk13, ?_, fun t => ?_, ?_, que9.new hu9 hj, fun i v hi hv => ?_, by rw [List.getElem?_append_left (List.getElem?_eq_some_iff.mp hu9).1]; exact hu9⟩
        · rw [upd_ne (ne_of_none e hwH)]
          exact bH13 _ _ na e
        · rw [List.map_append]
          refine DDs.append (hdd13.but bz) (.cons ?_ .nil)
          refine DD.but bz ?_
          show DD [] [wq, kq] H13 (.ref eq) (.tuple [.str (lineS g (u ++ [j])), nD (Fst.pRun (pst L L') (0, 0) (u ++ [j])).1, nD (Fst.pRun (pst L L') (0, 0) (u ++ [j])).2])
          rw [erun]
          exact .tup (.inl (.inl he13)) new (.cons (.str _) (.cons (.int _) (.cons (.int _) .nil)))
        · have := length_putK kvs' (keyP (tg L s0 j, tg L' t0 j)) (.bl true)
          rw [List.length_append]
          show _ ≤ ws'.length + 1
          omega
        · rw [valV_put, List.map_append]
          by_cases e6 : keyP t = keyP (tg L s0 j, tg L' t0 j)
          · rw [if_pos e6]
            have := keyP_inj e6
            subst this
            simp [erun]
          · rw [if_neg e6, hks9 t, decide_eq_decide]
            have : t ≠ (tg L s0 j, tg L' t0 j) := fun z => e6 (by rw [z])
            simp [erun, this]
        · rw [List.map_append, List.nodup_append]
          refine ⟨hnd9, by simp, fun a ha b hb => ?_⟩
          rw [List.map_singleton, List.mem_singleton, erun] at hb
          subst hb
          exact fun z => hnx (by rw [← z]; exact ha)
        · rw [List.getElem?_append_left (by have := (List.getElem?_eq_some_iff.mp hu9).1; omega)] at hv
          exact hng9 i v hi hv
      · have hin : (tg L s0 j, tg L' t0 j) ∈ ws'.map (Fst.pRun (pst L L') (0, 0)) := by simpa using e5
        obtain ⟨v, hv, ev⟩ := List.mem_map.mp hin
        exact ⟨⟨_, _, rfl⟩, b10.trans b11, b810.trans b11.of, ws', xs', kvs', b11 _ _ (by simp) hw10, hdd10.but b11.of, b11 _ _ (by simp) hk10, hkl9, hks9, hnd9, que9.old hu9 ⟨v, hv, by rw [ev, est]⟩, hng9, hu9⟩
    · rintro σ H9 ⟨⟨v9, v10, rfl⟩, b9, b89, ws', xs', kvs', hw9, hdd9, hk9, hkl9, hks9, hnd9, que9, hng9, hu9⟩
      have at9 := (List.getElem?_eq_some_iff.mp hu9).1
      have ws9 : ws'.length ≤ N := by
        have := pairs_few hnd9 (n := L.length) (m := L'.length) (fun q hq => by
          obtain ⟨u, hu, rfl⟩ := List.mem_map.mp hq
          exact runs u (que9.wdd u hu))
        rwa [List.length_map] at this
      refine b_cons (s_augAdd (i := 5) (v := (at_ : Nat)) (j := 1) rfl (e_int ⟨rfl, b_nil ?_⟩) C.nd)
      exact ⟨N - (at_ + 1), by omega, at_ + 1, ws', xs', kvs', _, _, _, _, _, rfl, b9, hw9, hdd9, hk9, hkl9, hks9, hnd9, que9.next, fun i v hi hv => hng9 i v (by omega) hv, at9, rfl⟩
  · have hge : ws.length ≤ at_ := by have := of_decide_eq_false e; omega
    have eat : at_ = ws.length := by omega
    subst eat
    refine b_cons (s_ret (e_none (hQ none H7 b7 ?_ (fun u h => by cases h))))
    have fn := que.none (good := good) (fun i u hu => hng i u (List.getElem?_eq_some_iff.mp hu).1 hu)
    exact fun v hv hg => fn v hv ((gd v).trans hg)
end
end K14

set_option Elab.async false
set_option linter.all false
set_option maxRecDepth 100000
set_option maxHeartbeats 4000000
/-! o.m(x=e); methods whose code object is known -/
namespace Z
open PySem PySem.Spec PyProof.Rows L2
/-- a method with one argument, by place and by its name -/
structure MethK (P : Program) (w : World) (K : PySem.W.Frag) (mg : Str → Option Value) (base : Heap) (k : Nat) (C : Addr) (m y : Str) (sp : Sp) : Prop where
  ex : ∃ g fd, Meth K C m g ∧ FnOk P w K mg base (L2.CX P w) k g fd ["self", y] sp ∧ Binds K fd ["self", y] [] ∧ ∀ u v, bindArgs fd ⟨[u], [(y, v)]⟩ = pure [(("self" : Str), u), (y, v)]
section
variable {P : Program} {w : World} {K : PySem.W.Frag} {mg : Str → Option Value} {base : Heap} {k : Nat} {C : Addr} {m y : Str} {sp : Sp}
theorem MethK.ok (M : MethK P w K mg base k C m y sp) : MethOk P w K mg base k C m ["self", y] sp := let ⟨g, fd, h1, h2, h3, _⟩ := M.ex; ⟨g, fd, h1, h2, h3⟩
end
section
variable {X : Cx} {k : Nat} {W : WX} {σ : L2.St} {H : Hp} {o e : Expr} {pos apos kpos : Pos} {Q : VK} {m y : Str}
theorem e_methK {sp : Sp} {C : Addr} (Cc : Cxt X k W) (c : Cls X.K C) (M : MethK X.prog X.w X.K X.mg X.base k C m y sp) (h : wE X o σ H fun x H1 => ∃ (r dx : Addr) (fs : List (Str × V)), x = .ref r ∧ H1 r = some (.ins C dx fs) ∧ fs.lookup m = none ∧ wE X e σ H1 fun v H2 => sp [.ref r, v] H2 Q fun cls d H' => W cls d σ H')
    (hb : attributeBase o m X.env (eval o X.env) = eval o X.env := by rfl) (hf : methodCallForm (([] : List Expr).length + 1) (backTo pos (starEach [] X.env)) (backToKw pos (keywordEach [⟨some y, e, kpos⟩] X.env)) = true := by rfl) (hl : (apos.endLine == pos.line) = true := by rfl)
    (hall : (backToKw pos (keywordEach [⟨some y, e, kpos⟩] X.env)).all (·.1.isSome) = true := by rfl) (hks : (backToKw pos (keywordEach [⟨some y, e, kpos⟩] X.env)).filterMap (·.1) = [y] := by rfl)
    (hpl : ((backTo pos (starEach [] X.env)).any (·.1) || (backToKw pos (keywordEach [⟨some y, e, kpos⟩] X.env)).any (·.1.isNone)) = false := by rfl) :
    wE X (.Call (.Attribute o m apos) [] [⟨some y, e, kpos⟩] pos) σ H Q := by
  obtain ⟨g, fd, hm, F, hbd, hkb⟩ := M.ex
  refine ⟨fun pins s I => ?_⟩
  have ht : eval (.Call (.Attribute o m apos) [] [⟨some y, e, kpos⟩] pos) X.env = (do
      let ov ← eval o X.env
      standAt apos.atName
      let (f, first) ← holding [ov] (getMethod ov m (plainOf o X.env))
      callWith pos f first (backTo pos (starEach [] X.env)) (backToKw pos (keywordEach [⟨some y, e, kpos⟩] X.env))) := by
    show (do let ov ← attributeBase o m X.env (eval o X.env); standAt apos.atName; methodCall o m apos pos X.env ov (([] : List Expr).length + 1) (backTo pos (starEach [] X.env)) (backToKw pos (keywordEach [⟨some y, e, kpos⟩] X.env))) = _
    rw [hb]
    congr 1
    funext ov
    congr 1
    funext _
    exact mcall_line hf hl
  refine PySem.W.methodCall_KW (pl := plainOf o X.env) (thn (h.run pins s I) fun u s1 ⟨x, H1, I1, rx, r, dx, fs, ex, ea, l, q⟩ => ?_) ht
  subst ex
  obtain rfl : u = Value.ref r := rx
  refine getmeth_ok I1 ea c hm l ?_
  have hk : wK X [⟨some y, e, kpos⟩] σ H1 fun zs H2 => ∃ v, zs = [v] ∧ sp [.ref r, v] H2 Q (fun cls d H' => W cls d σ H') := k_cons (wE_mono q fun v H2 q => k_nil ⟨v, rfl, q⟩)
  refine PySem.W.callWith_KW0 (h₀ := X.base) I1.ok.mod.kin hm.kp hall (thn (hk.run pos pins s1 I1) fun us s2 ⟨vs, H2, I2, rv, v, ev, q2⟩ => ⟨I2.kIn, ?_⟩) hpl
  subst ev
  obtain ⟨u2, rfl, r2⟩ : ∃ u2, us = [u2] ∧ RelV v u2 := by
    cases rv with
    | cons a b => cases b; exact ⟨_, rfl, a⟩
  rw [hks]
  exact ran (us := [.ref r]) (us' := [.ref r, u2]) (vs' := [.ref r, v]) Cc F (.of_eq (hkb (.ref r) u2)) I2 (.cons rfl (.cons r2 .nil)) q2
end
end Z

set_option Elab.async false
set_option linter.all false
set_option maxRecDepth 100000
set_option maxHeartbeats 4000000
namespace K14
open PySem PySem.Spec PyProof.Rows L2 Z LamX NdefX
def qOf (m : Str) : Str := (m ++ ".<locals>.") ++ "<lambda>"
structure MethAtC (K : PySem.W.Frag) (CR : Addr) (m q : Str) (st : Stmt) (c : Addr) : Prop where
  ex : ∃ (f : Addr) (oc doc pm ct : Value) (od an : Option Addr) (osl : Array (Option Value)), Meth K CR m f ∧ K.lookup f = some ⟨oc, od, .func (PySem.W.fnOf m q (defArgs st) (defBody st) (defScope st) .none .none doc pm an (.ref c) ct), osl⟩ ∧ PySem.W.codeIn K (.ref c) q = true
/-- what a method that walks pairs takes and gives -/
def spFp (CM : Addr) (T : List (Addr × Str)) (fw : Bool → Bool → Bool) (out : Str → Option (List Nat) → V) : Sp := fun vs H Q _ => ∃ (p p' : Addr) (g : Str) (L L' : List (List Nat)) (LA LA' : List Bool), vs = [.ref p, .ref p'] ∧ IsMach CM g L LA H p ∧ IsMach CM g L' LA' H p' ∧ OkM g L LA ∧ OkM g L' LA' ∧ 0 < L.length ∧ 0 < L'.length ∧ Tabs T H ∧
  ∀ r H', Ex [] H H' → Tabs T H' → Fst.IsFirst g.length (fun u => fw (langOf L LA u) (langOf L' LA' u) = true) r → (∀ u, r = some u → u.length ≤ 1600) → Q (out g r) H'
def spFp1 (CM : Addr) (T : List (Addr × Str)) : Sp := fun vs H Q _ => ∃ (p : Addr) (g : Str) (L : List (List Nat)) (LA : List Bool), vs = [.ref p] ∧ IsMach CM g L LA H p ∧ OkM g L LA ∧ 0 < L.length ∧ Tabs T H ∧
  ∀ r H', Ex [] H H' → Tabs T H' → Fst.IsFirst g.length (fun u => langOf L LA u = true) r → (∀ u, r = some u → u.length ≤ 1600) → Q (firstV g r) H'
theorem scUl : FnScope ["self", "other"] ["self", "other"] (defScope (clsAt (top 51) 19)) := ⟨rfl, rfl, rfl, by decide +kernel, rfl, by decide +kernel, by decide +kernel⟩
theorem scIw : FnScope ["self", "other"] ["self", "other"] (defScope (clsAt (top 51) 18)) := ⟨rfl, rfl, rfl, by decide +kernel, rfl, by decide +kernel, by decide +kernel⟩
theorem scFl : FnScope ["self"] ["self"] (defScope (clsAt (top 51) 20)) := ⟨rfl, rfl, rfl, by decide +kernel, rfl, by decide +kernel, by decide +kernel⟩
section
variable {P : Program} {w : World} {K : PySem.W.Frag} {mg : Str → Option Value} {base : Heap} {CM : Addr}
theorem tabs_exN {T : List (Addr × Str)} {H H' : Hp} (b : But [] H H') (t : Tabs T H) : Tabs T H' := tabs_new t b
theorem d_unlike {T : List (Addr × Str)} {c Pt : Addr} (B : Blt mg base) (CL : ClsM K CM) (D : MethAtC K CM "unlike_line" "Machine.unlike_line" (clsAt (top 51) 19) c) (TB : TabB base mg c Pt) (hm : (Pt, qOf "Machine.unlike_line") ∈ T) (hu : ∀ p ∈ T, p.1 = Pt → p.2 = qOf "Machine.unlike_line")
    (D1 : Def P w K mg base 1 "want_same_signs" (top 22) ["one", "other"] spSame) (D2 : At K mg "first_pair_line" (top 50)) : MethK P w K mg base 5 CM "unlike_line" "other" (spFp CM T (fun a b => a != b) firstV) := by
  obtain ⟨f, oc, doc, pm, ct, od, an, osl, hp, lk, hcd⟩ := D.ex
  refine ⟨f, _, hp, fnok_body B lk hcd scUl (fun vs H Q E ⟨_, _, _, _, _, _, _, e, _⟩ => by rw [e]; rfl) fun A outer s H vs Q E C h => ?_, Binds.all fun us hl => match us, hl with | [_, _], _ => rfl, fun u v => rfl⟩
  obtain ⟨p, p', g, L, L', LA, LA', rfl, hM, hM', ok, ok', hpos, hpos', hT, hQ⟩ := h
  refine b_cons (s_ret (e_lam3 (k := 2) (T := T) (N := ["here", "there"]) (ps := ["here", "there"]) (fr := []) (js := []) C D2 scFp TB rfl hm hu (nscope_by (by decide +kernel)) (by rfl) rfl (e_name 0 (v := .ref p) (e_name 1 (v := .ref p') ⟨hT, fun g' cdg fl c' s1 H1 eN T1 hco CZ act => ?_⟩)) rfl (.inl rfl) rfl rfl (fun _ _ _ _ _ us hl => match us, hl with | [_, _], _ => rfl)))
  have x01 : Ex [] H H1 := ex_of eN
  refine fpl_body (fw := fun a b => a != b) B CL CZ D1 (hM.exL x01 (by simp)) (hM'.exL x01 (by simp)) ok ok' hpos hpos' (fun σZ HZ Q' arg args p1 p2 hs hst hpl hw => act (fun cls d H' => E cls d H') _ _ _ _ _ _ _ (fun _ _ _ z => z) hs hst hpl (wA_mono hw fun vs HY ⟨a, b, e, bb, q⟩ => ?_)) (fun r H2 b2 hr hl => hQ r H2 (x01.trans b2.ex) (tabs_new T1 b2) hr hl)
  subst e
  refine ⟨rfl, bb _ _ (by simp) hco, fun A' outer' s' CL' => ?_⟩
  refine e_cmp (e_name 0 (v := bV a) (e_name 1 (v := bV b) (c_ne rfl ?_)))
  have : (!decide (bV a = bV b)) = (a != b) := by cases a <;> cases b <;> rfl
  rw [this]
  exact q
theorem firstV_non {g : Str} {r : Option (List Nat)} : decide (firstV g r = V.non) = r.isNone := by cases r <;> rfl
theorem d_within {T : List (Addr × Str)} {c Pt : Addr} (B : Blt mg base) (CL : ClsM K CM) (D : MethAtC K CM "is_within" "Machine.is_within" (clsAt (top 51) 18) c) (TB : TabB base mg c Pt) (hm : (Pt, qOf "Machine.is_within") ∈ T) (hu : ∀ p ∈ T, p.1 = Pt → p.2 = qOf "Machine.is_within")
    (D1 : Def P w K mg base 1 "want_same_signs" (top 22) ["one", "other"] spSame) (D2 : At K mg "first_pair_line" (top 50)) : MethK P w K mg base 5 CM "is_within" "other" (spFp CM T (fun a b => a && !b) fun _ r => .bl r.isNone) := by
  obtain ⟨f, oc, doc, pm, ct, od, an, osl, hp, lk, hcd⟩ := D.ex
  refine ⟨f, _, hp, fnok_body B lk hcd scIw (fun vs H Q E ⟨_, _, _, _, _, _, _, e, _⟩ => by rw [e]; rfl) fun A outer s H vs Q E C h => ?_, Binds.all fun us hl => match us, hl with | [_, _], _ => rfl, fun u v => rfl⟩
  obtain ⟨p, p', g, L, L', LA, LA', rfl, hM, hM', ok, ok', hpos, hpos', hT, hQ⟩ := h
  refine b_cons (s_ret (e_cmp (wE_mono (Q := fun v H2 => ∃ r, v = firstV g r ∧ Ex [] H H2 ∧ Tabs T H2 ∧ Fst.IsFirst g.length (fun u => (langOf L LA u && !langOf L' LA' u) = true) r ∧ (∀ u, r = some u → u.length ≤ 1600)) ?_ (fun v H2 ⟨r, e, x, t, hr, hl⟩ => ?_))))
  rotate_left
  · subst e
    refine e_none (c_isN ?_)
    rw [firstV_non]
    exact hQ r H2 x t hr hl
  refine e_lam3 (k := 2) (T := T) (N := ["here", "there"]) (ps := ["here", "there"]) (fr := []) (js := []) C D2 scFp TB rfl hm hu (nscope_by (by decide +kernel)) (by rfl) rfl (e_name 0 (v := .ref p) (e_name 1 (v := .ref p') ⟨hT, fun g' cdg fl c' s1 H1 eN T1 hco CZ act => ?_⟩)) rfl (.inl rfl) rfl rfl (fun _ _ _ _ _ us hl => match us, hl with | [_, _], _ => rfl)
  have x01 : Ex [] H H1 := ex_of eN
  refine fpl_body (fw := fun a b => a && !b) (Q := fun v H2 => ∃ r, v = firstV g r ∧ Ex [] H H2 ∧ Tabs T H2 ∧ Fst.IsFirst g.length (fun u => (langOf L LA u && !langOf L' LA' u) = true) r ∧ (∀ u, r = some u → u.length ≤ 1600)) B CL CZ D1 (hM.exL x01 (by simp)) (hM'.exL x01 (by simp)) ok ok' hpos hpos' (fun σZ HZ Q' arg args p1 p2 hs hst hpl hw => act (fun cls d H' => E cls d H') _ _ _ _ _ _ _ (fun _ _ _ z => z) hs hst hpl (wA_mono hw fun vs HY ⟨a, b, e, bb, q⟩ => ?_)) (fun r H2 b2 hr hl => ⟨r, rfl, x01.trans b2.ex, tabs_new T1 b2, hr, hl⟩)
  subst e
  refine ⟨rfl, bb _ _ (by simp) hco, fun A' outer' s' CL' => ?_⟩
  refine e_and (e_name 0 (v := bV a) ⟨a, rfl, ite_b (fun e => ?_) fun e => ?_⟩)
  · refine e_one (e_not (e_name 1 (v := bV b) ⟨b, rfl, ?_⟩))
    rw [e] at q
    exact q
  · rw [e] at q
    exact q
theorem d_firstLine {T : List (Addr × Str)} {c Pt : Addr} (B : Blt mg base) (CL : ClsM K CM) (D : MethAtC K CM "first_line" "Machine.first_line" (clsAt (top 51) 20) c) (TB : TabB base mg c Pt) (hm : (Pt, qOf "Machine.first_line") ∈ T) (hu : ∀ p ∈ T, p.1 = Pt → p.2 = qOf "Machine.first_line")
    (D1 : Def P w K mg base 1 "want_same_signs" (top 22) ["one", "other"] spSame) (D2 : At K mg "first_pair_line" (top 50)) : MethOk P w K mg base 5 CM "first_line" ["self"] (spFp1 CM T) := by
  obtain ⟨f, oc, doc, pm, ct, od, an, osl, hp, lk, hcd⟩ := D.ex
  refine ⟨f, _, hp, fnok_body B lk hcd scFl (fun vs H Q E ⟨_, _, _, _, e, _⟩ => by rw [e]; rfl) fun A outer s H vs Q E C h => ?_, Binds.all fun us hl => match us, hl with | [_], _ => rfl⟩
  obtain ⟨p, g, L, LA, rfl, hM, ok, hpos, hT, hQ⟩ := h
  refine b_cons (s_ret (e_lam3 (k := 2) (T := T) (N := ["here", "there"]) (ps := ["here", "there"]) (fr := []) (js := []) C D2 scFp TB rfl hm hu (nscope_by (by decide +kernel)) (by rfl) rfl (e_name 0 (v := .ref p) (e_name 0 (v := .ref p) ⟨hT, fun g' cdg fl c' s1 H1 eN T1 hco CZ act => ?_⟩)) rfl (.inl rfl) rfl rfl (fun _ _ _ _ _ us hl => match us, hl with | [_, _], _ => rfl)))
  have x01 : Ex [] H H1 := ex_of eN
  have hM1 := hM.exL x01 (by simp)
  refine fpl_body (fw := fun a b => a) B CL CZ D1 hM1 hM1 ok ok hpos hpos (fun σZ HZ Q' arg args p1 p2 hs hst hpl hw => act (fun cls d H' => E cls d H') _ _ _ _ _ _ _ (fun _ _ _ z => z) hs hst hpl (wA_mono hw fun vs HY ⟨a, b, e, bb, q⟩ => ?_)) (fun r H2 b2 hr hl => hQ r H2 (x01.trans b2.ex) (tabs_new T1 b2) hr hl)
  subst e
  exact ⟨rfl, bb _ _ (by simp) hco, fun A' outer' s' CL' => e_name 0 (v := bV a) q⟩
end
end K14

set_option Elab.async false
set_option linter.all false
set_option maxRecDepth 100000
set_option maxHeartbeats 4000000
/-! x in a list of data; plain: words found level by level -/
namespace Z
open PySem PySem.Spec PyProof.Rows L2
section
variable {X : Cx} {k : Nat} {W : WX} {H : Hp} {Q : VK}
theorem c_inDD {x y : V} {l m : List Addr} {d : PyData} {ds : List PyData} {n : Nat} (C : Cxt X k W) (h1 : DD X.K l H x d) (h2 : DD X.K m H y (.list ds)) (c1 : CmpZ n d) (c2 : CmpZ n (.list ds)) (hn : n ≤ 64) (q : Q (.bl (ds.any fun z => PyData.eqv z d)) H) : oW X (compareOp .In) x y H Q :=
  oW_of (op_inD (by have := C.un; omega)) ⟨d, ds, h1.dp c1.nod, h2.dp c2.nod, c1.shaped hn, c2.shaped hn, q⟩
theorem c_notInDD {x y : V} {l m : List Addr} {d : PyData} {ds : List PyData} {n : Nat} (C : Cxt X k W) (h1 : DD X.K l H x d) (h2 : DD X.K m H y (.list ds)) (c1 : CmpZ n d) (c2 : CmpZ n (.list ds)) (hn : n ≤ 64) (q : Q (.bl (!ds.any fun z => PyData.eqv z d)) H) : oW X (compareOp .NotIn) x y H Q :=
  oW_of (op_notInD (by have := C.un; omega)) ⟨d, ds, h1.dp c1.nod, h2.dp c2.nod, c1.shaped hn, c2.shaped hn, q⟩
end
namespace Fst
theorem wle_len {v w : List Nat} (h : wle v w) : v.length ≤ w.length := by
  rcases h with rfl | h | ⟨h, _⟩
  · exact Nat.le_refl _
  · omega
  · omega
variable {S : Type} {wd : Nat} {step : S → Nat → S} {s0 : S} {ws : List (List Nat)} {at_ a : Nat}
/-- all words up to the level's length have one in the queue -/
theorem Que.lvl (h : Que wd step s0 ws at_ 0) {n : Nat} (hl : ∀ (i : Nat) (w : List Nat), ws[i]? = some w → at_ ≤ i → w.length = n) : ∀ (v : List Nat), Mc.Wd wd v → v.length ≤ n → ∃ (i : Nat) (w : List Nat), ws[i]? = some w ∧ wle w v ∧ pRun step s0 w = pRun step s0 v := by
  have key : ∀ (m : Nat) (v : List Nat), v.length = m → Mc.Wd wd v → m ≤ n → ∃ (i : Nat) (w : List Nat), ws[i]? = some w ∧ wle w v ∧ pRun step s0 w = pRun step s0 v := by
    intro m
    induction m with
    | zero =>
      intro v hv _ _
      rw [List.eq_nil_of_length_eq_zero hv]
      exact ⟨0, [], h.zero, .inl rfl, rfl⟩
    | succ m ih =>
      intro v hv hd hm
      have hne : v ≠ [] := fun z => by rw [z] at hv; cases hv
      have ev := List.dropLast_concat_getLast hne
      generalize v.dropLast = u at ev
      generalize v.getLast hne = b at ev
      subst ev
      have hul : u.length = m := by rw [List.length_append] at hv; exact Nat.succ.inj hv
      obtain ⟨i, w, hw, h1, h2⟩ := ih u hul (fun c hc => hd c (List.mem_append_left _ hc)) (by omega)
      have hi : i < at_ := by
        rcases Nat.lt_or_ge i at_ with hl' | hg
        · exact hl'
        · have := hl i w hw hg
          have := wle_len h1
          omega
      obtain ⟨x, hx, e1, e2⟩ := h.clo i w hw b (hd b (by simp)) (.inl hi)
      obtain ⟨j, hj⟩ := List.mem_iff_getElem?.mp hx
      exact ⟨j, x, hj, wle_trans e2 (wle_snoc h1), by rw [e1, h2, run_snoc]⟩
  exact fun v hd hv => key v.length v rfl hd hv
theorem Que.foundL {good : S → Bool} (h : Que wd step s0 ws at_ 0) {n j : Nat} (hl : ∀ (i : Nat) (w : List Nat), ws[i]? = some w → at_ ≤ i → w.length = n) (hj : at_ ≤ j) {w : List Nat} (hw : ws[j]? = some w) (hg : good (pRun step s0 w) = true) (hn : ∀ (i : Nat) (u : List Nat), i < j → ws[i]? = some u → good (pRun step s0 u) = false) :
    IsFirst wd (fun v => good (pRun step s0 v) = true) (some w) := by
  refine ⟨h.wdd w (List.mem_of_getElem? hw), hg, fun v hd hv => ?_⟩
  have hwl := hl j w hw hj
  by_cases hvl : v.length ≤ n
  · obtain ⟨i, u, hu, h1, h2⟩ := h.lvl hl v hd hvl
    have hi : j ≤ i := by
      rcases Nat.lt_or_ge i j with hl' | hg'
      · have := hn i u hl' hu
        rw [h2, hv] at this
        cases this
      · exact hg'
    exact wle_trans (h.le hw hu hi) h1
  · exact .inr (.inl (by omega))
end Fst
end Z

set_option Elab.async false
set_option linter.all false
set_option maxRecDepth 100000
set_option maxHeartbeats 4000000
namespace K14
open PySem PySem.Spec PyProof.Rows L2 Z
abbrev nn (p : Nat × Nat) : PyData := .tuple [nD p.1, nD p.2]
abbrev bb (p : Bool × Bool) : PyData := .tuple [.bool p.1, .bool p.2]
theorem nn_any {ps : List (Nat × Nat)} {p : Nat × Nat} : ((ps.map nn).any fun z => PyData.eqv z (nn p)) = decide (p ∈ ps) := by
  induction ps with
  | nil => simp
  | cons q ps ih =>
    rw [List.map_cons, List.any_cons, ih, Bool.eq_iff_iff]
    simp only [PyData.eqv, PyData.eqvAll, Bool.or_eq_true, Bool.and_eq_true, decide_eq_true_eq, beq_iff_eq, List.mem_cons]
    constructor
    · rintro (⟨h1, h2, _⟩ | h)
      · exact .inl (Prod.ext (by omega) (by omega))
      · exact .inr h
    · rintro (h | h)
      · exact .inl ⟨by rw [h], by rw [h], trivial⟩
      · exact .inr h
theorem bb_any {ps : List (Bool × Bool)} {p : Bool × Bool} : ((ps.map bb).any fun z => PyData.eqv z (bb p)) = decide (p ∈ ps) := by
  induction ps with
  | nil => simp
  | cons q ps ih =>
    rw [List.map_cons, List.any_cons, ih, Bool.eq_iff_iff]
    simp only [PyData.eqv, PyData.eqvAll, Bool.or_eq_true, Bool.and_eq_true, decide_eq_true_eq, beq_iff_eq, List.mem_cons]
    constructor
    · rintro (⟨h1, h2, _⟩ | h)
      · exact .inl (Prod.ext h1.symm h2.symm)
      · exact .inr h
    · rintro (h | h)
      · exact .inl ⟨by rw [h], by rw [h], trivial⟩
      · exact .inr h
theorem nn_cmp {ps : List (Nat × Nat)} : CmpZ 2 (.list (ps.map nn)) := CmpZ.list fun d hd => by
  obtain ⟨p, _, rfl⟩ := List.mem_map.mp hd
  exact CmpZ.tuple fun d hd => by
    rcases List.mem_cons.mp hd with rfl | hd
    · exact CmpZ.int
    · rw [List.mem_singleton.mp hd]; exact CmpZ.int
theorem nn_cmp1 {p : Nat × Nat} : CmpZ 2 (nn p) := (CmpZ.tuple (n := 0) fun d hd => by
    rcases List.mem_cons.mp hd with rfl | hd
    · exact CmpZ.int
    · rw [List.mem_singleton.mp hd]; exact CmpZ.int).mono (by decide)
theorem bb_cmp1 {p : Bool × Bool} : CmpZ 2 (bb p) := (CmpZ.tuple (n := 0) fun d hd => by
    rcases List.mem_cons.mp hd with rfl | hd
    · exact CmpZ.bool
    · rw [List.mem_singleton.mp hd]; exact CmpZ.bool).mono (by decide)
theorem bb_cmp {ps : List (Bool × Bool)} : CmpZ 2 (.list (ps.map bb)) := CmpZ.list fun d hd => by
  obtain ⟨p, _, rfl⟩ := List.mem_map.mp hd
  exact CmpZ.tuple fun d hd => by
    rcases List.mem_cons.mp hd with rfl | hd
    · exact CmpZ.bool
    · rw [List.mem_singleton.mp hd]; exact CmpZ.bool
theorem nn_tup (ps : List (Nat × Nat)) : tupOnlyAll (ps.map nn) = true := tupOnlyAll_of fun d hd => by
  obtain ⟨p, _, rfl⟩ := List.mem_map.mp hd
  rfl
theorem ent_tup {g : Str} {L L' : List (List Nat)} (ws : List (List Nat)) : tupOnlyAll (ws.map (entD g L L')) = true := tupOnlyAll_of fun d hd => by
  obtain ⟨p, _, rfl⟩ := List.mem_map.mp hd
  rfl
theorem flat_nats (es : List Nat) : (es.map nV).all flatV = true := List.all_eq_true.mpr fun v hv => by
  obtain ⟨x, _, rfl⟩ := List.mem_map.mp hv
  rfl
/-- the row of a grid, a list -/
theorem grid_ix {l : List Addr} {H : Hp} {q s : Nat} {R : List (List Nat)} {r : List Nat} (h : DD [] l H (.ref q) (gridD R)) (hr : R[s]? = some r) : ∃ (xs : List V) (b : Addr), SqL [] H q xs ∧ xs[s]? = some (.ref b) ∧ SqL [] H b (r.map nV) := by
  cases h with
  | @lst a xs ds k1 n k2 =>
    have hs := (List.getElem?_eq_some_iff.mp hr).1
    have hxl : xs.length = R.length := by rw [k2.length, List.length_map]
    obtain ⟨y, hy⟩ : ∃ y, xs[s]? = some y := ⟨_, List.getElem?_eq_getElem (by omega)⟩
    obtain ⟨dy, e1, e2⟩ := k2.get hy
    rw [List.getElem?_map, hr] at e1
    cases e1
    cases e2 with
    | @lst b ws ds m1 n m2 =>
      obtain rfl := dds_nats m2
      exact ⟨xs, b, k1, hy, m1⟩
theorem list_at {l : List Addr} {H : Hp} {q : Addr} {es : List Nat} (h : DD [] l H (.ref q) (rowL es)) : SqL [] H q (es.map nV) := by
  cases h with
  | @lst a xs ds k1 n k2 =>
    obtain rfl := dds_nats k2
    exact k1
/-- a model as the law holds it -/
structure ModAt (l : List Addr) (H : Hp) (t : Addr) (R : List (List Nat)) (es : List Nat) : Prop where
  ex : ∃ q sq, SqT [] H t [.ref q, .ref sq] ∧ DD [] l H (.ref q) (gridD R) ∧ DD [] l H (.ref sq) (rowL es) ∧ t ∉ l
theorem ModAt.but {l : List Addr} {H H' : Hp} {t : Addr} {R : List (List Nat)} {es : List Nat} (h : ModAt l H t R es) (b : But l H H') : ModAt l H' t R es := by
  obtain ⟨q, sq, h1, h2, h3, h4⟩ := h.ex
  exact ⟨q, sq, b.sqt h4 h1, h2.but b, h3.but b, h4⟩
theorem ModAt.less {l : List Addr} {H : Hp} {t : Addr} {R : List (List Nat)} {es : List Nat} (h : ModAt l H t R es) : ModAt [] H t R es := by
  obtain ⟨q, sq, h1, h2, h3, h4⟩ := h.ex
  exact ⟨q, sq, h1, h2.less (by simp), h3.less (by simp), by simp⟩
theorem ends_dec {n s : Nat} {es : List Nat} (h : s < n) : accOf (endsA n es) s = decide (s ∈ es) := endsA_acc h
end K14

set_option Elab.async false
set_option linter.all false
set_option maxRecDepth 100000
set_option maxHeartbeats 4000000
/-! enumerate(text) -/
namespace Z
open PySem PySem.Spec PyProof.Rows L2
/-- the text's signs, in new pairs -/
def Ites (x : Str) : It :=
  ⟨fun i _ => i < x.cps.size, fun i H v H' => ∃ T c, v = .ref T ∧ H T = none ∧ H' = upd H T (.tup [.int (i : Nat), .str ⟨#[c]⟩]) ∧ x.cps[i]? = some c, fun i _ => i = x.cps.size⟩
theorem turn_enumS {P : Program} {w : World} {K : PySem.W.Frag} {elts : List Expr} {kk : Nat} {tpos : Pos} (x : Str) (t : Tok) (e it : Addr) :
    Turn P w K (.Tuple elts kk tpos) (Ites x) [e, it] e (fun i h => (∃ old, IsEnum h e it ((i : Nat) : Int) old) ∧ h.IsStrIter it (strIterType x) x t i ∧ e ≠ it) where
  mem := by simp
  obj := fun i h st b hb => by
    obtain ⟨⟨old, he⟩, ⟨o, ho, hc, hd⟩, _⟩ := st
    have e' : b = e ∨ b = it := by simpa using hb
    rcases e' with z | z
    · rw [z]; exact ⟨_, he, fun v q => nomatch q⟩
    · rw [z]; exact ⟨o, ho, fun v q => by rw [hd] at q; cases q⟩
  keep := fun i h h' ⟨⟨old, he⟩, ⟨o, ho, r⟩, hne⟩ k => ⟨⟨old, k e (by simp) _ he⟩, ⟨o, k it (by simp) o ho, r⟩, hne⟩
  item := by
    intro X hP hw hK hc i pins s σ H E I hf st hg
    subst hP hw hK
    obtain ⟨⟨old, he⟩, hit, hne⟩ := st
    have el : e < s.heap.objs.size := Heap.lt_size he
    have il : it < s.heap.objs.size := by obtain ⟨_, q, _⟩ := hit; exact Heap.lt_size q
    refine wpAny_pyNext_enum_itemC (Draws.text (show X.A.in1.handled = none from I.ok.hd hc) it x t) he hit hg hne (by simp [hne]) fun u h' tk hP ho hst' hT hsz hk => ?_
    obtain ⟨c, v, ec, rfl⟩ := hP
    refine ⟨_, rfl, wpAny_letOwnedTupleGo_enum (s := { s with heap := h', toks := tk + 1 }) ho fun h'' he' sb => ?_⟩
    have hT2 : h''.get? s.heap.objs.size = some { cls := .type "tuple", data := .seq #[.int i tk, .str ⟨#[c]⟩ v] } := (sb.2 _ (Nat.ne_of_gt el)).trans hT
    have new : ObjOk X.prog X.w (upd H s.heap.objs.size (.tup [.int (i : Nat), .str ⟨#[c]⟩])) h'' s.heap.objs.size (.tup [.int (i : Nat), .str ⟨#[c]⟩]) :=
      ⟨by show 2 ≤ sizeLine; decide, [.int i tk, .str ⟨#[c]⟩ v], .cons ⟨_, rfl⟩ (.cons ⟨_, rfl⟩ .nil), ⟨_, hT2, rfl, _, rfl⟩⟩
    have I1 : Inv X pins σ (upd H s.heap.objs.size (.tup [.int (i : Nat), .str ⟨#[c]⟩])) { s with heap := h'', toks := tk + 1 } :=
      I.turnedNew (ch := [e, it]) (fun b ob hb q => (sb.2 b (fun z => hb (by simp [z]))).trans (hk b ob (fun z => hb (by simp [z])) (fun z => hb (by simp [z])) q)) hf (Nat.le_refl _) new
    obtain ⟨o2, ho2, r2⟩ := hst'
    refine ⟨.ref s.heap.objs.size, _, I1, rfl, ⟨_, c, rfl, I.hok.fresh (Nat.le_refl _), rfl, ec⟩, ⟨⟨.str ⟨#[c]⟩ v, ?_⟩, ⟨o2, (sb.2 it (Ne.symm hne)).trans ho2, r2⟩, hne⟩, fun b hb => ?_⟩
    · have e1 : ((i + 1 : Nat) : Int) = (i : Int) + 1 := by omega
      rw [e1]; exact he'
    · have hb' : b < s.heap.objs.size := by
        have e' : b = e ∨ b = it := by simpa using hb
        rcases e' with z | z
        · rw [z]; exact el
        · rw [z]; exact il
      rw [upd_ne (Nat.ne_of_lt hb')]
      exact (hf b hb).1
  done := by
    intro X hP hw hK hc i pins s σ H E I hf st hg
    subst hP hw hK
    obtain ⟨⟨old, he⟩, hit, hne⟩ := st
    have hg : i = x.cps.size := hg
    subst hg
    obtain ⟨f0, f1, f2, f3, f4, f5⟩ := hf it (by simp)
    exact wpAny_pyNext_enum_endD (Draws.text (show X.A.in1.handled = none from I.ok.hd hc) it x t) he hit fun h' eb => ⟨rfl, I.turned (t' := s.toks) (fun b o hb q => eb b o hb q) f0 f1 f3 f4 f5⟩
  self := fun A i s Q E ⟨⟨_, he⟩, _⟩ h => wpAny_pyIter_enum he h
section
variable {X : Cx} {σ : L2.St} {H : Hp} {e : Expr} {elts : List Expr} {kk : Nat} {p pos tpos : Pos}
/-- for i, c in enumerate(text) -/
theorem i_enumS {R : It → Hp → Prop} (B : Blt X.mg X.base) (h : wE X e σ H fun v H1 => ∃ x : Str, v = .str x ∧ R (Ites x) H1) (hg : Gl X "enumerate" := by rfl) (hs : starEach [e] X.env = [(false, eval e X.env)] := by rfl) :
    wI X (.Tuple elts kk tpos) (.Call (.Name "enumerate" p) [e] [] pos) σ H R := by
  have ha : wA X [e] σ H fun vs H1 => ∃ x : Str, vs = [.str x] ∧ R (Ites x) H1 := a_cons (wE_mono h fun v H1 ⟨x, e1, r⟩ => a_nil ⟨x, by rw [e1], r⟩) hs
  refine ⟨fun pins s I => ?_⟩
  refine Call_ (ld_blt I hg B.enumerate boot_enumerate (PyProof.Rows.callWith_type1 (thn (ha.run pos pins s I) fun us s1 ⟨vs, H1, I1, r1, q1⟩ => ?_) hs rfl))
  obtain ⟨x, ex, q⟩ := q1
  subst ex
  obtain ⟨u, rfl, t, rfl⟩ := vals1 r1
  refine call_enumerate_str fun h' he hit hsz hk => wpAny_pyIter_enum he ?_
  have I2 : Inv X pins σ H1 { s1 with heap := h' } := I1.kept (t' := s1.toks) hk
  refine ⟨s1.heap.objs.size + 1, [s1.heap.objs.size + 1, s1.heap.objs.size], _, _, H1, rfl, I2, turn_enumS x t (s1.heap.objs.size + 1) s1.heap.objs.size, ⟨⟨.none, he⟩, hit, Nat.succ_ne_self _⟩, fun b hb => ?_, q⟩
  have e' : b = s1.heap.objs.size + 1 ∨ b = s1.heap.objs.size := by simpa using hb
  have hle : s1.heap.objs.size ≤ b := by
    rcases e' with z | z
    · rw [z]; exact Nat.le_add_right _ _
    · rw [z]; exact Nat.le_refl _
  exact I1.fpOk hle (I1.hok.fresh hle)
theorem walk_enumS {x : Str} : Walk (Ites x) x.cps.size (fun _ => True) (fun i H v H' => ∃ T c, v = .ref T ∧ H T = none ∧ H' = upd H T (.tup [.int (i : Nat), .str ⟨#[c]⟩]) ∧ x.cps[i]? = some c) :=
  ⟨fun i _ hi _ => hi, fun _ _ => rfl, fun _ _ _ _ _ _ y => y⟩
end
end Z
namespace Z
open PySem PySem.Spec PyProof.Rows L2
section
variable {X : Cx} {k : Nat} {W : WX} {σ : L2.St} {H : Hp} {a : Expr} {p p2 pos pos2 : Pos} {Q : VK}
/-- list(range(n)) -/
theorem e_listRg1 (C : Cxt X k W) (h : wE X a σ H fun x H1 => ∃ n : Nat, x = .int (n : Int) ∧ n ≤ 1000000 ∧ ∀ q, H1 q = none → Q (.ref q) (upd H1 q (.lst ((List.range n).map fun i => V.int (i : Nat)))))
    (hg : Gl X "list" := by rfl) (hg2 : Gl X "range" := by rfl) (na : starEach [.Call (.Name "range" p2) [a] [] pos2] X.env = (false, eval (.Call (.Name "range" p2) [a] [] pos2) X.env) :: starEach [] X.env := by rfl)
    (hs : starEach [a] X.env = (false, eval a X.env) :: starEach [] X.env := by rfl) : wE X (.Call (.Name "list" p) [.Call (.Name "range" p2) [a] [] pos2] [] pos) σ H Q :=
  eE (pe_listRg C.calm hg C.blt.list (prg_1 hg2 C.blt.range pE hs) na) (wE_mono h fun x H1 ⟨n, e1, hn, q⟩ => ⟨n, e1, RgOk.of_le (by omega) (by omega) (by omega) (by omega), by
    have e : rgV 0 (n : Int) = (List.range n).map fun i => V.int (i : Nat) := by
      unfold rgV
      rw [show ((n : Int) - 0).toNat = n by omega]
      refine List.map_congr_left fun i _ => ?_
      rw [Int.zero_add]
    rw [e]
    exact q⟩)
end
end Z

set_option Elab.async false
set_option linter.all false
set_option maxRecDepth 100000
set_option maxHeartbeats 4000000
namespace K14
open PySem PySem.Spec PyProof.Rows L2 Z
def lfN : List Str := ["alpha", "first", "second", "wanted", "level", "met", "string", "here", "there", "later", "at", "letter", "pair"]
theorem scLf : FnScope lfN ["alpha", "first", "second", "wanted"] (defScope (top 58)) := ⟨rfl, rfl, rfl, by decide +kernel, rfl, by decide +kernel, by decide +kernel⟩
theorem grid_lt {R : List (List Nat)} {wd s a : Nat} (ok : RowsOk wd R) (hs : s < R.length) (ha : a < wd) : ∃ r, R[s]? = some r ∧ r[a]? = some (tg R s a) ∧ tg R s a < R.length := tg_lt ok.wide ok.inn hs ha
section
variable {P : Program} {w : World} {K : PySem.W.Frag} {mg : Str → Option Value} {base : Heap}
def spFirstL : Sp := fun vs H Q _ => ∃ (g : Str) (t1 t2 wq : Addr) (R R' : List (List Nat)) (es es' : List Nat) (wt : List (Bool × Bool)), vs = [.str g, .ref t1, .ref t2, .ref wq] ∧ strSigns g = true ∧ ModAt [] H t1 R es ∧ ModAt [] H t2 R' es' ∧ RowsOk g.length R ∧ RowsOk g.length R' ∧ R.length ≤ 40 ∧ R'.length ≤ 40 ∧ DD [] [] H (.ref wq) (.list (wt.map bb)) ∧
  ∀ r H', But [] H H' → Fst.IsFirst g.length (fun u => decide ((langOf R (endsA R.length es) u, langOf R' (endsA R'.length es') u) ∈ wt) = true) r → (∀ u, r = some u → u.length ≤ 1600) → Q (firstV g r) H'
theorem d_first14 (B : Blt mg base) (D : At K mg "_law_first" (top 58)) : Def P w K mg base 1 "_law_first" (top 58) ["alpha", "first", "second", "wanted"] spFirstL := by
  refine def_of D B scLf (fun vs H Q E ⟨_, _, _, _, _, _, _, _, _, e, _⟩ => by rw [e]; rfl) fun f cdv A outer s H vs Q E hm C h => ?_
  obtain ⟨g, t1, t2, wq, R, R', es, es', wt, rfl, hg, m1, m2, ok, ok', hR, hR', hwt, hQ⟩ := h
  have sz : ∀ n, n ≤ 16777216 → n ≤ sizeLine := fun n h => by rw [sizeLine_eq]; exact h
  have gl := strSigns_len hg
  obtain ⟨q1, e1, f1, f2, f3, _⟩ := m1.ex
  obtain ⟨q2, e2, f4, f5, f6, _⟩ := m2.ex
  refine b_cons (s_par (i := 4) (j := 5) C (a_cons (e_lst (a_cons (e_tup (a_cons (e_str (a_cons (e_int (a_cons (e_int (a_nil ?_))))))))))))
  refine ⟨sz 3 (by decide), fun tq htq => a_nil ?_⟩
  refine ⟨sz 1 (by decide), fun lq hlq => a_cons (e_lst (a_cons (e_tup (a_cons (e_int (a_cons (e_int (a_nil ?_))))))))⟩
  refine ⟨sz 2 (by decide), fun uq huq => a_nil ?_⟩
  refine ⟨sz 1 (by decide), fun mq hmq => a_nil ⟨_, _, rfl, ?_⟩⟩
  have b1 : But [] H (upd H tq (.tup [.str "", .int 0, .int 0])) := But.new htq
  have h1 : upd H tq (.tup [.str "", .int 0, .int 0]) tq = some (.tup [.str "", .int 0, .int 0]) := upd_same
  generalize upd H tq (.tup [.str "", .int 0, .int 0]) = H1 at hlq huq hmq b1 h1 ⊢
  have b2 : But [] H1 (upd H1 lq (.lst [.ref tq])) := But.new hlq
  have h2 : upd H1 lq (.lst [.ref tq]) lq = some (.lst [.ref tq]) := upd_same
  generalize upd H1 lq (.lst [.ref tq]) = H2 at huq hmq b2 h2 ⊢
  have b3 : But [] H2 (upd H2 uq (.tup [.int 0, .int 0])) := But.new huq
  have h3 : upd H2 uq (.tup [.int 0, .int 0]) uq = some (.tup [.int 0, .int 0]) := upd_same
  generalize upd H2 uq (.tup [.int 0, .int 0]) = H3 at hmq b3 h3 ⊢
  have b4 : But [] H3 (upd H3 mq (.lst [.ref uq])) := But.new hmq
  have h4 : upd H3 mq (.lst [.ref uq]) mq = some (.lst [.ref uq]) := upd_same
  have hmH : H mq = none := b1.free (b2.free (b3.free hmq))
  have nlm : lq ≠ mq := ne_of_none (b3 _ _ (by simp) h2) hmq
  show wB _ _ _ [some (.str g), some (.ref t1), some (.ref t2), some (.ref wq), some (.ref lq), some (.ref mq), none, none, none, none, none, none, none] (upd H3 mq (.lst [.ref uq]))
  generalize upd H3 mq (.lst [.ref uq]) = H4 at b4 h4 ⊢
  have b04 : But [] H H4 := b1.trans (b2.trans (b3.trans b4))
  have h24 := b4 _ _ (by simp) (b3 _ _ (by simp) h2)
  have h14 := b4 _ _ (by simp) (b3 _ _ (by simp) (b2 _ _ (by simp) h1))
  have h34 := b4 _ _ (by simp) h3
  let N := R.length * R'.length
  have hN : N ≤ 40 * 40 := Nat.mul_le_mul hR hR'
  have runs : ∀ u, Mc.Wd g.length u → (Fst.pRun (pst R R') (0, 0) u).1 < R.length ∧ (Fst.pRun (pst R R') (0, 0) u).2 < R'.length := by
    intro u
    have key : ∀ (u : List Nat) (s : Nat × Nat), Mc.Wd g.length u → s.1 < R.length → s.2 < R'.length → (Fst.pRun (pst R R') s u).1 < R.length ∧ (Fst.pRun (pst R R') s u).2 < R'.length := by
      intro u
      induction u with
      | nil => exact fun s _ a b => ⟨a, b⟩
      | cons c u ih =>
        intro s hd a b
        obtain ⟨_, _, _, r1⟩ := grid_lt ok a (hd c (by simp))
        obtain ⟨_, _, _, r2⟩ := grid_lt ok' b (hd c (by simp))
        exact ih _ (fun x hx => hd x (List.mem_cons_of_mem _ hx)) r1 r2
    exact fun hd => key u (0, 0) hd ok.pos ok'.pos
  have few : ∀ {ws : List (List Nat)}, (ws.map (Fst.pRun (pst R R') (0, 0))).Nodup → (∀ u ∈ ws, Mc.Wd g.length u) → ws.length ≤ N := fun {ws} nd hd => by
    have := pairs_few nd (n := R.length) (m := R'.length) (fun q hq => by
      obtain ⟨u, hu, rfl⟩ := List.mem_map.mp hq
      exact runs u (hd u hu))
    rwa [List.length_map] at this
  let good : Nat × Nat → Bool := fun s => decide ((decide (s.1 ∈ es), decide (s.2 ∈ es')) ∈ wt)
  have gd : ∀ u, Mc.Wd g.length u → good (Fst.pRun (pst R R') (0, 0) u) = decide ((langOf R (endsA R.length es) u, langOf R' (endsA R'.length es') u) ∈ wt) := fun u hu => by
    obtain ⟨r1, r2⟩ := runs u hu
    rw [pst_run] at r1 r2 ⊢
    show decide ((decide (Mc.gRun (tg R) 0 u ∈ es), decide (Mc.gRun (tg R') 0 u ∈ es')) ∈ wt) = decide ((accOf _ _, accOf _ _) ∈ wt)
    rw [ends_dec r1, ends_dec r2]
  have gdF : ∀ {r}, Fst.IsFirst g.length (fun u => good (Fst.pRun (pst R R') (0, 0) u) = true) r → Fst.IsFirst g.length (fun u => decide ((langOf R (endsA R.length es) u, langOf R' (endsA R'.length es') u) ∈ wt) = true) r := fun {r} h => by
    cases r with
    | none => exact fun v hv hg => h v hv ((gd v hv).trans hg)
    | some u => exact ⟨h.1, (gd u h.1).symm.trans h.2.1, fun v hv hg => h.2.2 v hv ((gd v hv).trans hg)⟩
  refine b_cons (s_while C (fun m σ H' => ∃ (at_ n : Nat) (ws : List (List Nat)) (lq : Addr) (xs ys : List V) (v6 v7 v8 v9 v10 v11 v12 : Option V), σ = [some (.str g), some (.ref t1), some (.ref t2), some (.ref wq), some (.ref lq), some (.ref mq), v6, v7, v8, v9, v10, v11, v12] ∧ But [] H H' ∧ lq ≠ mq ∧ H' lq = some (.lst xs) ∧ DDs [] [] H' xs ((ws.drop at_).map (entD g R R')) ∧
      H' mq = some (.lst ys) ∧ DDs [] [] H' ys ((ws.map (Fst.pRun (pst R R') (0, 0))).map nn) ∧ (ws.map (Fst.pRun (pst R R') (0, 0))).Nodup ∧ Fst.Que g.length (pst R R') (0, 0) ws at_ 0 ∧ (∀ (i : Nat) (u : List Nat), i < at_ → ws[i]? = some u → good (Fst.pRun (pst R R') (0, 0) u) = false) ∧ (∀ (i : Nat) (u : List Nat), ws[i]? = some u → at_ ≤ i → u.length = n) ∧ at_ ≤ ws.length ∧ m = N - at_) N
    ⟨0, 0, [[]], lq, [.ref tq], [.ref uq], none, none, none, none, none, none, none, rfl, b04, nlm, h24, .cons (.tup (.inl (.inl h14)) (by simp) (.cons (.str _) (.cons (.int _) (.cons (.int _) .nil)))) .nil, h4, .cons (.tup (.inl (.inl h34)) (by simp) (.cons (.int _) (.cons (.int _) .nil))) .nil, by simp, Fst.Que.start, fun i u hi => by omega, fun i u hu _ => ?_, Nat.zero_le _, rfl⟩ ?_)
  · have := List.mem_of_getElem? hu
    rw [List.mem_singleton.mp this]; rfl
  rintro m σ H5 ⟨at_, n, ws, lq, xs, ys, v6, v7, v8, v9, v10, v11, v12, rfl, b5, nlm, hl5, hdl5, hm5, hdm5, hnd, que, hng, hlen, hat, rfl⟩
  have wsN := few hnd que.wdd
  have hxl : xs.length = ws.length - at_ := by rw [hdl5.length, List.length_map, List.length_drop]
  refine t_cmp (e_name 4 (v := .ref lq) (e_lst (a_nil ⟨sz 0 (by decide), fun zq hzq => ?_⟩)))
  have bz : But [] H5 (upd H5 zq (.lst [])) := But.new hzq
  refine c_neNil C (.inl (.inl (bz _ _ (by simp) hl5))) (.inl (.inl upd_same)) ⟨_, rfl, ?_⟩
  have hl6 := bz _ _ (by simp) hl5
  have hm6 := bz _ _ (by simp) hm5
  have hdl6 := hdl5.but bz
  have hdm6 := hdm5.but bz
  have b6 := b5.trans bz
  generalize upd H5 zq (.lst []) = H6 at hl6 hm6 hdl6 hdm6 b6 ⊢
  clear hl5 hm5 hdl5 hdm5 b5 bz
  refine ite_b (fun e => ?_) fun e => ?_
  · have hlt : at_ < ws.length := by
      have : xs.length ≠ 0 := fun z => by
        rw [List.length_eq_zero_iff.mp z] at e
        cases e
      omega
    have entW : ∀ {H' : Hp} {ws' : List (List Nat)} {xs' : List V} {i : Nat} {u : List Nat}, DDs [] [] H' xs' (ws'.map (entD g R R')) → ws'[i]? = some u → ∃ T, xs'[i]? = some (.ref T) ∧ SqT [] H' T [.str (lineS g u), nV (Fst.pRun (pst R R') (0, 0) u).1, nV (Fst.pRun (pst R R') (0, 0) u).2] := fun h hu => ent_ix h hu
    -- the level is looked through
    refine b_mid (fun σ H' => ∃ v6 v7 v8, σ = [some (.str g), some (.ref t1), some (.ref t2), some (.ref wq), some (.ref lq), some (.ref mq), v6, v7, v8, v9, v10, v11, v12] ∧ But [] H6 H' ∧ ∀ (i : Nat) (u : List Nat), i < ws.length → ws[i]? = some u → good (Fst.pRun (pst R R') (0, 0) u) = false) (s_for C (i_sq (a := lq) (xs := xs) (.inl (.inl (.inl hl6))) (fun Q q => e_name 4 (v := .ref lq) q) fun J G wk hG => ?_)) ?_
    · refine ⟨_, G, _, wk, fun i σ H' => (∃ v6 v7 v8, σ = [some (.str g), some (.ref t1), some (.ref t2), some (.ref wq), some (.ref lq), some (.ref mq), v6, v7, v8, v9, v10, v11, v12]) ∧ But [] H6 H' ∧ ∀ (j : Nat) (u : List Nat), j < at_ + i → ws[j]? = some u → good (Fst.pRun (pst R R') (0, 0) u) = false,
        ⟨⟨_, _, _, rfl⟩, But.refl, fun j u hj hu => hng j u (by omega) hu⟩, fun i σ H' _ h => hG [] H' h.2.1 (by simp), ?_, ?_⟩
      · rintro i x σ H7 H8 hi ⟨⟨v6, v7, v8, rfl⟩, b7, hgd⟩ ⟨rfl, hx⟩
        have hia : at_ + i < ws.length := by omega
        obtain ⟨u, hu⟩ : ∃ u, ws[at_ + i]? = some u := ⟨_, List.getElem?_eq_getElem hia⟩
        have hu' : (ws.drop at_)[i]? = some u := by rw [List.getElem?_drop]; exact hu
        obtain ⟨T, hT, hTs⟩ := entW hdl6 hu'
        rw [hx] at hT
        cases hT
        have hud := que.wdd u (List.mem_of_getElem? hu)
        obtain ⟨rs, rt⟩ := runs u hud
        refine g_tup (gs_cons (g_name (i := 6) (gs_cons (g_name (i := 7) (gs_cons (g_name (i := 8) (gs_nil ?_) C.nd)) C.nd)) C.nd)) rfl (sqt_all (b7.sqt (by simp) hTs))
        have b07 := b6.trans b7
        refine b_cons (s_if (t_cmp (e_tup (a_cons (e_cmp (e_name 7 (v := nV (Fst.pRun (pst R R') (0, 0) u).1) (e_ix (e_name 1 (v := .ref t1) (e_int (ix_t (sqt_all (b07.sqt (by simp) f1)) (v := .ref e1) rfl ?_)))))))))) 
        refine c_inL (.inl (sql_all (b07.sql (by simp) (list_at f3)))) rfl (flat_nats es) (a_cons (e_cmp (e_name 8 (v := nV (Fst.pRun (pst R R') (0, 0) u).2) (e_ix (e_name 2 (v := .ref t2) (e_int (ix_t (sqt_all (b07.sqt (by simp) f4)) (v := .ref e2) rfl ?_)))))))
        refine c_inL (.inl (sql_all (b07.sql (by simp) (list_at f6)))) rfl (flat_nats es') (a_nil ⟨sz 2 (by decide), fun bq hbq => e_name 3 (v := .ref wq) ?_⟩)
        rw [inV_dec, inV_dec]
        have bb8 : But [] H8 (upd H8 bq (.tup [.bl (decide ((Fst.pRun (pst R R') (0, 0) u).1 ∈ es)), .bl (decide ((Fst.pRun (pst R R') (0, 0) u).2 ∈ es'))])) := But.new hbq
        have hb8 : DD [] [] (upd H8 bq (.tup [.bl (decide ((Fst.pRun (pst R R') (0, 0) u).1 ∈ es)), .bl (decide ((Fst.pRun (pst R R') (0, 0) u).2 ∈ es'))])) (.ref bq) (bb (decide ((Fst.pRun (pst R R') (0, 0) u).1 ∈ es), decide ((Fst.pRun (pst R R') (0, 0) u).2 ∈ es'))) := .tup (.inl (.inl upd_same)) (by simp) (.cons (.bl _) (.cons (.bl _) .nil))
        refine c_inDD C hb8.all (DD.all ((hwt.but b07).but bb8)) bb_cmp1 bb_cmp (by decide) ⟨_, rfl, ?_⟩
        rw [bb_any]
        show if good (Fst.pRun (pst R R') (0, 0) u) = true then _ else _
        refine ite_b (fun e2 => ?_) (fun e2 => b_nil (b_nil ?_))
        · refine b_cons (s_ret (e_name 6 (v := .str (lineS g u)) (hQ (some u) _ (b07.trans bb8) (gdF ?_) (fun v h => by cases h; have := que.len hu; omega))))
          exact que.foundL (good := good) hlen (Nat.le_add_right _ _) hu e2 fun j v hj hv => hgd j v hj hv
        · refine ⟨⟨_, _, _, rfl⟩, b7.trans bb8, fun j v hj hv => ?_⟩
          by_cases ej : j = at_ + i
          · subst ej
            rw [hu] at hv
            cases hv
            exact e2
          · exact hgd j v (by omega) hv
      · rintro σ H7 ⟨⟨v6, v7, v8, rfl⟩, b7, hgd⟩
        exact ⟨v6, v7, v8, rfl, b7, fun i u hi hu => hgd i u (by omega) hu⟩
    rintro σ H7 ⟨v6, v7, v8, rfl, b7, hgd⟩
    -- the next level
    refine b_cons (s_set (i := 9) (e_lst (a_nil ⟨sz 0 (by decide), fun aq haq => ?_⟩)) C.nd)
    have ba : But [] H7 (upd H7 aq (.lst [])) := But.new haq
    have ha8 : upd H7 aq (.lst []) aq = some (.lst []) := upd_same
    have haH : H aq = none := b6.free (b7.free haq)
    have naq : aq ≠ mq := (ne_of_none (b7 _ _ (by simp) hm6) haq).symm
    have nal : aq ≠ lq := (ne_of_none (b7 _ _ (by simp) hl6) haq).symm
    have b78 := b7.trans ba
    have b08 := b6.trans b78
    show wB _ _ _ [some (.str g), some (.ref t1), some (.ref t2), some (.ref wq), some (.ref lq), some (.ref mq), v6, v7, v8, some (.ref aq), v10, v11, v12] (upd H7 aq (.lst []))
    generalize upd H7 aq (.lst []) = H8 at ha8 b78 b08 ⊢
    have hl8 := b78 _ _ (by simp) hl6
    have hm8 := b78 _ _ (by simp) hm6
    have hdl8 := hdl6.but b78
    have hdm8 := hdm6.but b78
    clear ba b7
    have lE : ∀ {H' : Hp} {ys' zs' : List V}, H' mq = some (.lst ys') → H' aq = some (.lst zs') → ∀ q ∈ [mq, aq], ∃ ys, H' q = some (.lst ys) := fun e1 e2 q hq => by
      rcases List.mem_cons.mp hq with hq | hq
      · rw [hq]; exact ⟨_, e1⟩
      · rw [List.mem_singleton.mp hq]; exact ⟨_, e2⟩
    have nlq : lq ∉ [mq, aq] := by simp [nlm, nal.symm]
    refine b_cons (s_for C (i_sq (a := lq) (xs := xs) (.inl (.inl (.inl hl8))) (fun Q q => e_name 4 (v := .ref lq) q) fun J G wk hG => ?_))
    refine ⟨_, G, _, wk, fun i σ H' => (∃ v6 v7 v8 v10 v11 v12, σ = [some (.str g), some (.ref t1), some (.ref t2), some (.ref wq), some (.ref lq), some (.ref mq), v6, v7, v8, some (.ref aq), v10, v11, v12]) ∧ But [] H H' ∧ But [mq, aq] H8 H' ∧ ∃ (ws' : List (List Nat)) (zs ys' : List V), H' aq = some (.lst zs) ∧ DDs [] [] H' zs ((ws'.drop ws.length).map (entD g R R')) ∧ H' mq = some (.lst ys') ∧ DDs [] [] H' ys' ((ws'.map (Fst.pRun (pst R R') (0, 0))).map nn) ∧
      (ws'.map (Fst.pRun (pst R R') (0, 0))).Nodup ∧ Fst.Que g.length (pst R R') (0, 0) ws' (at_ + i) 0 ∧ ws'.take ws.length = ws ∧ (∀ (j : Nat) (u : List Nat), ws'[j]? = some u → ws.length ≤ j → u.length = n + 1),
      ⟨⟨_, _, _, _, _, _, rfl⟩, b08, But.refl, ws, [], ys, ha8, by rw [List.drop_length]; exact .nil, hm8, hdm8, hnd, by simpa using que, List.take_length, fun j u hu hj => by have := (List.getElem?_eq_some_iff.mp hu).1; omega⟩, fun i σ H' _ h => hG _ H' h.2.2.1 nlq, ?_, ?_⟩
    · rintro i x σ H9 H10 hi ⟨⟨v6, v7, v8, v10, v11, v12, rfl⟩, b9, b89, ws', zs, ys', ha9, hda9, hm9, hdm9, hnd9, que9, htk, hln9⟩ ⟨rfl, hx⟩
      have hia : at_ + i < ws.length := by omega
      obtain ⟨u, hu⟩ : ∃ u, ws[at_ + i]? = some u := ⟨_, List.getElem?_eq_getElem hia⟩
      have hu' : (ws.drop at_)[i]? = some u := by rw [List.getElem?_drop]; exact hu
      have huW : ws'[at_ + i]? = some u := by
        have := hu
        rw [← htk, List.getElem?_take, if_pos hia] at this
        exact this
      obtain ⟨T, hT, hTs⟩ := entW hdl8 hu'
      rw [hx] at hT
      cases hT
      have hud := que.wdd u (List.mem_of_getElem? hu)
      obtain ⟨rs, rt⟩ := runs u hud
      have hul := hlen _ _ hu (Nat.le_add_right _ _)
      obtain ⟨st, hst⟩ : ∃ st, Fst.pRun (pst R R') (0, 0) u = st := ⟨_, rfl⟩
      obtain ⟨s0, t0⟩ := st
      rw [hst] at hTs rs rt
      have rs : s0 < R.length := rs
      have rt : t0 < R'.length := rt
      have hT9 : SqT [] H10 T [.str (lineS g u), nV s0, nV t0] := b89.sqt (sqt_lists b89.ex (lE hm8 ha8) hTs) hTs
      refine g_tup (gs_cons (g_name (i := 6) (gs_cons (g_name (i := 7) (gs_cons (g_name (i := 8) (gs_nil ?_) C.nd)) C.nd)) C.nd)) rfl (sqt_all hT9)
      refine b_cons (s_for C (i_enumS B (e_name 0 (v := .str g) ⟨g, rfl, g.length, _, _, walk_enumS, fun j σ H' => (∃ v10 v11 v12, σ = [some (.str g), some (.ref t1), some (.ref t2), some (.ref wq), some (.ref lq), some (.ref mq), some (.str (lineS g u)), some (nV s0), some (nV t0), some (.ref aq), v10, v11, v12]) ∧ But [] H H' ∧ But [mq, aq] H8 H' ∧ ∃ (ws' : List (List Nat)) (zs ys' : List V), H' aq = some (.lst zs) ∧ DDs [] [] H' zs ((ws'.drop ws.length).map (entD g R R')) ∧ H' mq = some (.lst ys') ∧ DDs [] [] H' ys' ((ws'.map (Fst.pRun (pst R R') (0, 0))).map nn) ∧
        (ws'.map (Fst.pRun (pst R R') (0, 0))).Nodup ∧ Fst.Que g.length (pst R R') (0, 0) ws' (at_ + i) j ∧ ws'.take ws.length = ws ∧ (∀ (j : Nat) (u : List Nat), ws'[j]? = some u → ws.length ≤ j → u.length = n + 1) ∧ ws'[at_ + i]? = some u,
        ⟨⟨_, _, _, rfl⟩, b9, b89, ws', zs, ys', ha9, hda9, hm9, hdm9, hnd9, que9, htk, hln9, huW⟩, fun _ _ _ _ _ => trivial, ?_, ?_⟩)))
      · rintro j x σ H11 H12 hj ⟨⟨v10, v11, v12, rfl⟩, b11, b811, ws', zs, ys', ha11, hda11, hm11, hdm11, hnd11, que11, htk11, hln11, hu11⟩ ⟨T2, c, rfl, hT2, rfl, hc⟩
        have hc : g.cps.toList[j]? = some c := by rw [← hc]; exact Array.getElem?_toList
        rw [sg_at hj] at hc
        cases hc
        have ws11 := few hnd11 que11.wdd
        have bt : But [] H11 (upd H11 T2 (.tup [.int (j : Nat), .str ⟨#[sg g j]⟩])) := But.new hT2
        refine g_tup (gs_cons (g_name (i := 10) (gs_cons (g_name (i := 11) (gs_nil ?_) C.nd)) C.nd)) rfl (.inl (.inl upd_same))
        have ha12 := bt _ _ (by simp) ha11
        have hm12 := bt _ _ (by simp) hm11
        have hda12 := hda11.but bt
        have hdm12 := hdm11.but bt
        have b12 := b11.trans bt
        have b812 := b811.trans bt.of
        generalize upd H11 T2 (.tup [.int (j : Nat), .str ⟨#[sg g j]⟩]) = H12 at ha12 hm12 hda12 hdm12 b12 b812 ⊢
        obtain ⟨gx, gb, g1, g2, g3⟩ := grid_ix f2 (List.getElem?_eq_getElem rs)
        obtain ⟨gx', gb', g1', g2', g3'⟩ := grid_ix f5 (List.getElem?_eq_getElem rt)
        obtain ⟨_, tr, ta, tl⟩ := grid_lt ok rs hj
        obtain ⟨_, tr', ta', tl'⟩ := grid_lt ok' rt hj
        rw [List.getElem?_eq_getElem rs] at tr
        rw [List.getElem?_eq_getElem rt] at tr'
        cases tr
        cases tr'
        refine b_cons (s_set (i := 12) (e_tup (a_cons (e_ix (e_ix (e_ix (e_name 1 (v := .ref t1) (e_int (ix_t (sqt_all (b12.sqt (by simp) f1)) (v := .ref q1) rfl (e_name 7 (v := nV s0) (ix_l (sql_all (b12.sql (by simp) g1)) (v := .ref gb) (atI_nat g2) (e_name 10 (v := nV j) (ix_l (sql_all (b12.sql (by simp) g3)) (v := nV (tg R s0 j)) (atI_nat (nth_nat ta)) ?_)))))))))))) C.nd)
        refine a_cons (e_ix (e_ix (e_ix (e_name 2 (v := .ref t2) (e_int (ix_t (sqt_all (b12.sqt (by simp) f4)) (v := .ref q2) rfl (e_name 8 (v := nV t0) (ix_l (sql_all (b12.sql (by simp) g1')) (v := .ref gb') (atI_nat g2') (e_name 10 (v := nV j) (ix_l (sql_all (b12.sql (by simp) g3')) (v := nV (tg R' t0 j)) (atI_nat (nth_nat ta')) (a_nil ⟨sz 2 (by decide), fun pq hpq => ?_⟩)))))))))))
        have bp : But [] H12 (upd H12 pq (.tup [nV (tg R s0 j), nV (tg R' t0 j)])) := But.new hpq
        have hp13 : upd H12 pq (.tup [nV (tg R s0 j), nV (tg R' t0 j)]) pq = some (.tup [nV (tg R s0 j), nV (tg R' t0 j)]) := upd_same
        have ha13 := bp _ _ (by simp) ha12
        have hm13 := bp _ _ (by simp) hm12
        have hda13 := hda12.but bp
        have hdm13 := hdm12.but bp
        have b13 := b12.trans bp
        have b813 := b812.trans bp.of
        show wB _ _ _ [some (.str g), some (.ref t1), some (.ref t2), some (.ref wq), some (.ref lq), some (.ref mq), some (.str (lineS g u)), some (nV s0), some (nV t0), some (.ref aq), some (.int (j : Nat)), some (.str ⟨#[sg g j]⟩), some (.ref pq)] (upd H12 pq (.tup [nV (tg R s0 j), nV (tg R' t0 j)]))
        generalize upd H12 pq (.tup [nV (tg R s0 j), nV (tg R' t0 j)]) = H13 at hp13 ha13 hm13 hda13 hdm13 b13 b813 ⊢
        have hpD : DD [] [] H13 (.ref pq) (nn (tg R s0 j, tg R' t0 j)) := .tup (.inl (.inl hp13)) (by simp) (.cons (.int _) (.cons (.int _) .nil))
        have est : pst R R' (Fst.pRun (pst R R') (0, 0) u) j = (tg R s0 j, tg R' t0 j) := by rw [hst]; rfl
        have erun : Fst.pRun (pst R R') (0, 0) (u ++ [j]) = (tg R s0 j, tg R' t0 j) := by rw [Fst.run_snoc, est]
        have yl : ys'.length = ws'.length := by rw [hdm13.length, List.length_map, List.length_map]
        have zl : zs.length = ws'.length - ws.length := by rw [hda13.length, List.length_map, List.length_drop]
        have wsle : ws.length ≤ ws'.length := by
          have := congrArg List.length htk11
          rw [List.length_take] at this
          omega
        refine b_cons (s_ifB (decide ((tg R s0 j, tg R' t0 j) ∉ ws'.map (Fst.pRun (pst R R') (0, 0)))) ?_ (fun e5 H14 b14 => ?_) (fun e5 H14 b14 => b_nil (b_nil ?_)))
        · refine t_cmp (e_name 12 (v := .ref pq) (e_name 5 (v := .ref mq) (c_notInDD C hpD.all (DD.all (DD.lst (l := []) (.inl (.inl hm13)) (by simp) hdm13)) nn_cmp1 nn_cmp (by decide) ⟨_, rfl, ?_, But.refl⟩)))
          rw [nn_any, Bool.eq_iff_iff]
          simp
        · have hnx := of_decide_eq_true e5
          have hp14 := b14 _ _ (by simp) hp13
          have ha14 := b14 _ _ (by simp) ha13
          have hm14 := b14 _ _ (by simp) hm13
          have hda14 := hda13.but b14
          have hdm14 := hdm13.but b14
          have b014 := b13.trans b14
          have b814 := b813.trans b14.of
          refine b_cons (s_expr (e_append (e_name 5 (v := .ref mq) ⟨mq, rfl, ⟨_, hm14⟩, e_name 12 (v := .ref pq) ⟨_, hm14, sz _ (by omega), ?_⟩⟩)))
          have bm : But [mq] H14 (upd H14 mq (.lst (ys' ++ [.ref pq]))) := But.at (by simp)
          have lm : ∀ q ∈ [mq], ∃ ys, H14 q = some (.lst ys) := fun q hq => by rw [List.mem_singleton.mp hq]; exact ⟨_, hm14⟩
          have npm : pq ≠ mq := fun z => by rw [z, hm14] at hp14; cases hp14
          have ha15 : upd H14 mq (.lst (ys' ++ [.ref pq])) aq = some (.lst zs) := by rw [upd_ne naq]; exact ha14
          have hm15 : upd H14 mq (.lst (ys' ++ [.ref pq])) mq = some (.lst (ys' ++ [.ref pq])) := upd_same
          have hp15 : upd H14 mq (.lst (ys' ++ [.ref pq])) pq = some (.tup [nV (tg R s0 j), nV (tg R' t0 j)]) := by rw [upd_ne npm]; exact hp14
          have hda15 := dds_lists0 bm.ex lm hda14 (ent_tup _)
          have hdm15 := dds_lists0 bm.ex lm hdm14 (nn_tup _)
          have b015 : But [] H (upd H14 mq (.lst (ys' ++ [.ref pq]))) := fun q o na e => by rw [upd_ne (ne_of_none e hmH)]; exact b014 _ _ na e
          have b815 : But [mq, aq] H8 (upd H14 mq (.lst (ys' ++ [.ref pq]))) := b814.trans (bm.mono (by simp))
          generalize upd H14 mq (.lst (ys' ++ [.ref pq])) = H15 at ha15 hm15 hp15 hda15 hdm15 b015 b815 ⊢
          refine b_cons (s_expr (e_append (e_name 9 (v := .ref aq) ⟨aq, rfl, ⟨_, ha15⟩, e_tup ?_⟩)))
          have lu : (lineS g u).length = u.length := lineS_len
          have un : u.length ≤ 1600 := by have := que.len hu; omega
          refine a_cons (e_bin (e_name 6 (v := .str (lineS g u)) (e_name 11 (v := .str ⟨#[sg g j]⟩) (o_adds (by rw [lu]; exact sz _ (by show u.length + 1 ≤ _; omega)) ?_))))
          rw [lineS_snoc]
          refine a_cons (e_ix (e_name 12 (v := .ref pq) (e_int (ix_t (.inl (.inl hp15)) (v := nV (tg R s0 j)) rfl ?_))))
          refine a_cons (e_ix (e_name 12 (v := .ref pq) (e_int (ix_t (.inl (.inl hp15)) (v := nV (tg R' t0 j)) rfl ?_))))
          refine a_nil ⟨sz 3 (by decide), fun nq hnq => ?_⟩
          have be : But [] H15 (upd H15 nq (.tup [.str (lineS g (u ++ [j])), nV (tg R s0 j), nV (tg R' t0 j)])) := But.new hnq
          have hn16 : upd H15 nq (.tup [.str (lineS g (u ++ [j])), nV (tg R s0 j), nV (tg R' t0 j)]) nq = some (.tup [.str (lineS g (u ++ [j])), nV (tg R s0 j), nV (tg R' t0 j)]) := upd_same
          have ha16 := be _ _ (by simp) ha15
          have hm16 := be _ _ (by simp) hm15
          have hp16 := be _ _ (by simp) hp15
          have hda16 := hda15.but be
          have hdm16 := hdm15.but be
          have b016 := b015.trans be
          have b816 := b815.trans be.of
          generalize upd H15 nq (.tup [.str (lineS g (u ++ [j])), nV (tg R s0 j), nV (tg R' t0 j)]) = H16 at hn16 ha16 hm16 hp16 hda16 hdm16 b016 b816 ⊢
          refine ⟨zs, ha16, sz _ (by omega), b_nil (b_nil ?_)⟩
          have bq : But [aq] H16 (upd H16 aq (.lst (zs ++ [.ref nq]))) := But.at (by simp)
          have la : ∀ q ∈ [aq], ∃ ys, H16 q = some (.lst ys) := fun q hq => by rw [List.mem_singleton.mp hq]; exact ⟨_, ha16⟩
          have hnD : DD [] [] H16 (.ref nq) (entD g R R' (u ++ [j])) := by
            show DD [] [] H16 (.ref nq) (.tuple [.str (lineS g (u ++ [j])), nD (Fst.pRun (pst R R') (0, 0) (u ++ [j])).1, nD (Fst.pRun (pst R R') (0, 0) (u ++ [j])).2])
            rw [erun]
            exact .tup (.inl (.inl hn16)) (by simp) (.cons (.str _) (.cons (.int _) (.cons (.int _) .nil)))
          have hpD16 : DD [] [] H16 (.ref pq) (nn (tg R s0 j, tg R' t0 j)) := .tup (.inl (.inl hp16)) (by simp) (.cons (.int _) (.cons (.int _) .nil))
          refine ⟨⟨_, _, _, rfl⟩, fun q o na e => ?_, b816.trans (bq.mono (by simp)), ws' ++ [u ++ [j]], zs ++ [.ref nq], ys' ++ [.ref pq], upd_same, ?_, by rw [upd_ne naq.symm]; exact hm16, ?_, ?_, que11.new hu11 hj, by rw [List.take_append_of_le_length wsle]; exact htk11, fun k v hv hk => ?_, by rw [List.getElem?_append_left (List.getElem?_eq_some_iff.mp hu11).1]; exact hu11⟩
          · rw [upd_ne (ne_of_none e haH)]
            exact b016 _ _ na e
          · rw [List.drop_append_of_le_length wsle, List.map_append]
            exact DDs.append (dds_lists0 bq.ex la hda16 (ent_tup _)) (.cons (dd_lists0 bq.ex la hnD rfl) .nil)
          · rw [List.map_append, List.map_append]
            refine DDs.append (dds_lists0 bq.ex la hdm16 (nn_tup _)) (.cons (dd_lists0 bq.ex la ?_ rfl) .nil)
            rw [erun]
            exact hpD16
          · rw [List.map_append, List.nodup_append]
            refine ⟨hnd11, by simp, fun a ha b hb => ?_⟩
            rw [List.map_singleton, List.mem_singleton, erun] at hb
            subst hb
            exact fun z => hnx (by rw [← z]; exact ha)
          · by_cases ek : k < ws'.length
            · rw [List.getElem?_append_left ek] at hv
              exact hln11 k v hv hk
            · rw [List.getElem?_append_right (by omega)] at hv
              have := List.mem_of_getElem? hv
              rw [List.mem_singleton.mp this, List.length_append, hul]
              rfl
        · have hin : (tg R s0 j, tg R' t0 j) ∈ ws'.map (Fst.pRun (pst R R') (0, 0)) := by simpa using e5
          obtain ⟨v, hv, ev⟩ := List.mem_map.mp hin
          exact ⟨⟨_, _, _, rfl⟩, b13.trans b14, b813.trans b14.of, ws', zs, ys', b14 _ _ (by simp) ha13, hda13.but b14, b14 _ _ (by simp) hm13, hdm13.but b14, hnd11, que11.old hu11 ⟨v, hv, by rw [ev, est]⟩, htk11, hln11, hu11⟩
      · rintro σ H11 ⟨⟨v10, v11, v12, rfl⟩, b11, b811, ws', zs, ys', ha11, hda11, hm11, hdm11, hnd11, que11, htk11, hln11, hu11⟩
        exact b_nil ⟨⟨_, _, _, _, _, _, rfl⟩, b11, b811, ws', zs, ys', ha11, hda11, hm11, hdm11, hnd11, que11.next, htk11, hln11⟩
    · rintro σ H9 ⟨⟨v6, v7, v8, v10, v11, v12, rfl⟩, b9, b89, ws', zs, ys', ha9, hda9, hm9, hdm9, hnd9, que9, htk, hln9⟩
      have ws9 := few hnd9 que9.wdd
      have wsle : ws.length ≤ ws'.length := by
        have := congrArg List.length htk
        rw [List.length_take] at this
        omega
      have e9 : at_ + xs.length = ws.length := by omega
      rw [e9] at que9
      refine b_cons (s_set (i := 4) (e_name 9 (v := .ref aq) (b_nil ?_)) C.nd)
      refine ⟨N - ws.length, by omega, ws.length, n + 1, ws', aq, zs, ys', _, _, _, _, _, _, _, rfl, b9, naq, ha9, hda9, hm9, hdm9, hnd9, que9, fun i u hi hu => hgd i u hi ?_, hln9, wsle, rfl⟩
      rw [← htk, List.getElem?_take, if_pos hi]
      exact hu
  · have hx0 : xs.length = 0 := by
      cases xs with
      | nil => rfl
      | cons a r => cases e
    have eat : at_ = ws.length := by omega
    subst eat
    exact b_cons (s_ret (e_none (hQ none H6 b6 (gdF (que.none (good := good) fun i u hu => hng i u (List.getElem?_eq_some_iff.mp hu).1 hu)) (fun u h => by cases h))))
end
end K14

set_option Elab.async false
set_option linter.all false
set_option maxRecDepth 100000
set_option maxHeartbeats 4000000
namespace K14
open PySem PySem.Spec PyProof.Rows L2 Z
def mv (sp wh s : Nat) : Nat := if sp ≤ s then s - sp else s + wh - sp
theorem mv_lt {sp wh s : Nat} (h : s < wh) (h2 : sp ≤ wh) : mv sp wh s < wh := by unfold mv; split <;> omega
theorem mv_inj {sp wh s t : Nat} (h : s < wh) (h' : t < wh) (h2 : sp ≤ wh) (e : mv sp wh s = mv sp wh t) : s = t := by unfold mv at e; split at e <;> split at e <;> omega
def fronted (sp : Nat) (G : List (List Nat)) : List (List Nat) := (G.drop sp ++ G.take sp).map fun r => r.map (mv sp G.length)
theorem fronted_ok {wd sp : Nat} {G : List (List Nat)} (ok : RowsOk wd G) (h : sp ≤ G.length) : RowsOk wd (fronted sp G) ∧ (fronted sp G).length = G.length := by
  have hl : (fronted sp G).length = G.length := by
    unfold fronted
    rw [List.length_map, List.length_append, List.length_drop, List.length_take]
    omega
  have hm : ∀ r ∈ fronted sp G, ∃ r' ∈ G, r = r'.map (mv sp G.length) := fun r hr => by
    obtain ⟨r', h', rfl⟩ := List.mem_map.mp hr
    rcases List.mem_append.mp h' with h' | h'
    · exact ⟨r', List.mem_of_mem_drop h', rfl⟩
    · exact ⟨r', List.mem_of_mem_take h', rfl⟩
  refine ⟨⟨by rw [hl]; exact ok.pos, by rw [hl]; exact ok.few, fun r hr => ?_, fun r hr x hx => ?_⟩, hl⟩
  · obtain ⟨r', h', rfl⟩ := hm r hr
    rw [List.length_map]; exact ok.wide r' h'
  · obtain ⟨r', h', rfl⟩ := hm r hr
    obtain ⟨y, hy, rfl⟩ := List.mem_map.mp hx
    rw [hl]
    exact mv_lt (ok.inn r' h' y hy) h
theorem dds_take {K : PySem.W.Frag} {l : List Addr} {H : Hp} : ∀ (n : Nat) {vs : List V} {ds : List PyData}, DDs K l H vs ds → DDs K l H (vs.take n) (ds.take n)
  | 0, _, _, _ => .nil
  | n + 1, _, _, .nil => .nil
  | n + 1, _, _, .cons h r => .cons h (dds_take n r)
theorem dds_drop {K : PySem.W.Frag} {l : List Addr} {H : Hp} : ∀ (n : Nat) {vs : List V} {ds : List PyData}, DDs K l H vs ds → DDs K l H (vs.drop n) (ds.drop n)
  | 0, _, _, h => h
  | n + 1, _, _, .nil => .nil
  | n + 1, _, _, .cons h r => dds_drop n r
section
variable {P : Program} {w : World} {K : PySem.W.Frag} {mg : Str → Option Value} {base : Heap}
def spMoved : Sp := fun vs H Q _ => ∃ s sp wh : Nat, vs = [nV s, nV sp, nV wh] ∧ s < wh ∧ sp ≤ wh ∧ ∀ H', But [] H H' → Q (nV (mv sp wh s)) H'
theorem scMv : FnScope ["state", "span", "whole"] ["state", "span", "whole"] (defScope (top 63)) := ⟨rfl, rfl, rfl, by decide +kernel, rfl, by decide +kernel, by decide +kernel⟩
theorem d_moved (B : Blt mg base) (D : At K mg "_law_moved" (top 63)) : Def P w K mg base 1 "_law_moved" (top 63) ["state", "span", "whole"] spMoved := by
  refine def_of D B scMv (fun vs H Q E ⟨_, _, _, e, _⟩ => by rw [e]; rfl) fun f cdv A outer s H vs Q E hm C h => ?_
  obtain ⟨s0, sp, wh, rfl, h1, h2, hQ⟩ := h
  refine b_cons (s_ret (e_if (t_cmp (e_name 0 (v := nV s0) (e_name 1 (v := nV sp) (c_ge ⟨_, rfl, ite_b (fun e => ?_) fun e => ?_⟩))))))
  · have e : (sp : Int) ≤ s0 := of_decide_eq_true e
    refine e_bin (e_name 0 (v := nV s0) (e_name 1 (v := nV sp) (o_sub ?_)))
    have := hQ H But.refl
    rw [mv, if_pos (by omega)] at this
    rw [show (s0 : Int) - (sp : Int) = ((s0 - sp : Nat) : Int) by omega]
    exact this
  · have e : ¬ (sp : Int) ≤ s0 := of_decide_eq_false e
    refine e_bin (e_bin (e_name 0 (v := nV s0) (e_name 2 (v := nV wh) (o_add (e_name 1 (v := nV sp) (o_sub ?_))))))
    have := hQ H But.refl
    rw [mv, if_neg (by omega)] at this
    rw [show (s0 : Int) + (wh : Int) - (sp : Int) = ((s0 + wh - sp : Nat) : Int) by omega]
    exact this
def spFront : Sp := fun vs H Q _ => ∃ (q : Addr) (sp : Nat) (G : List (List Nat)) (l : List Addr), vs = [.ref q, nV sp] ∧ DD [] [] H (.ref q) (gridD G) ∧ sp ≤ G.length ∧ (∀ r ∈ G, ∀ x ∈ r, x < G.length) ∧ (∀ r ∈ G, r.length ≤ 4) ∧ G.length ≤ 40 ∧ (∀ a ∈ l, H a ≠ none) ∧ ∀ r H', But [] H H' → DD [] l H' (.ref r) (gridD (fronted sp G)) → Q (.ref r) H'
theorem scFr : FnScope ["grid", "span", "found", "row", "goal"] ["grid", "span"] (defScope (top 62)) := ⟨rfl, rfl, rfl, by decide +kernel, rfl, by decide +kernel, by decide +kernel⟩
theorem d_fronted (B : Blt mg base) (D : At K mg "_law_fronted" (top 62)) (D1 : Def P w K mg base 1 "_law_moved" (top 63) ["state", "span", "whole"] spMoved) : Def P w K mg base 2 "_law_fronted" (top 62) ["grid", "span"] spFront := by
  refine def_of D B scFr (fun vs H Q E ⟨_, _, _, _, e, _⟩ => by rw [e]; rfl) fun f cdv A outer s H vs Q E hm C h => ?_
  obtain ⟨q, sp, G, l, rfl, hG, hsp, hin, hwd, hfew, hl, hQ⟩ := h
  have sz : ∀ n, n ≤ 16777216 → n ≤ sizeLine := fun n h => by rw [sizeLine_eq]; exact h
  obtain ⟨xs, hq, hxs⟩ : ∃ xs, SqL [] H q xs ∧ DDs [] [] H xs (G.map rowL) := by
    cases hG with
    | lst a b c => exact ⟨_, a, c⟩
  have hxl : xs.length = G.length := by rw [hxs.length, List.length_map]
  refine b_cons (s_set (i := 2) (e_bin (e_slice sl_list (e_name 0 (v := .ref q) (p_some (e_name 1 (v := nV sp) ⟨_, rfl, p_none ⟨q, xs, rfl, sql_all hq, fun s1 hs1 => ?_⟩⟩))))) C.nd)
  have c1 : But [] H (upd H s1 (.lst (cutV xs (some (sp : Int)) none))) := But.new hs1
  refine e_slice sl_list (e_name 0 (v := .ref q) (p_none (p_some (e_name 1 (v := nV sp) ⟨_, rfl, q, xs, rfl, sql_all (c1.sql (by simp) hq), fun s2 hs2 => ?_⟩))))
  rw [cutV_fromV] at c1 hs2
  show oW _ _ _ _ _ _
  rw [cutV_toV, cutV_fromV]
  have n12 : s1 ≠ s2 := ne_of_none upd_same hs2
  refine o_cat (by rw [upd_ne n12, upd_same]) upd_same (sz _ (by rw [List.length_take, List.length_drop]; omega)) fun fq hfq => ?_
  have c2 := But.new (l := []) (o := .lst (xs.take sp)) hs2
  have c3 := But.new (l := []) (o := .lst (xs.drop sp ++ xs.take sp)) hfq
  have hf : upd (upd (upd H s1 (.lst (xs.drop sp))) s2 (.lst (xs.take sp))) fq (.lst (xs.drop sp ++ xs.take sp)) fq = some (.lst (xs.drop sp ++ xs.take sp)) := upd_same
  have b3 := c1.trans (c2.trans c3)
  show wB _ _ _ [some (.ref q), some (nV sp), some (.ref fq), none, none] (upd (upd (upd H s1 (.lst (xs.drop sp))) s2 (.lst (xs.take sp))) fq (.lst (xs.drop sp ++ xs.take sp)))
  generalize upd (upd (upd H s1 (.lst (xs.drop sp))) s2 (.lst (xs.take sp))) fq (.lst (xs.drop sp ++ xs.take sp)) = H3 at hf b3 ⊢
  have hds : DDs [] [] H3 (xs.drop sp ++ xs.take sp) ((G.drop sp ++ G.take sp).map rowL) := by
    have h3 := hxs.but b3
    have := (DDs.append (dds_drop sp h3) (dds_take sp h3))
    rw [← List.map_drop, ← List.map_take, ← List.map_append] at this
    exact this
  generalize xs.drop sp ++ xs.take sp = ys at hf hds
  have hfr : fronted sp G = (G.drop sp ++ G.take sp).map fun r => r.map (mv sp G.length) := rfl
  have hFm : ∀ r ∈ G.drop sp ++ G.take sp, r ∈ G := fun r hr => (List.mem_append.mp hr).elim List.mem_of_mem_drop List.mem_of_mem_take
  have hFl : (G.drop sp ++ G.take sp).length = G.length := by rw [List.length_append, List.length_drop, List.length_take]; omega
  generalize G.drop sp ++ G.take sp = F at hds hfr hFm hFl
  have hyl : ys.length = F.length := by rw [hds.length, List.length_map]
  refine b_cons (s_ret (e_lc [("row", 3)] C (i_sq (a := fq) (xs := ys) (.inl (.inl (.inl hf))) (fun Q q => e_name 2 (v := .ref fq) q) fun J Gw wk hGw => ?_)))
  refine ⟨_, Gw, _, wk, fun Dl hDl => ?_⟩
  have nDf : fq ≠ Dl := ne_of_none hf hDl
  refine ⟨fun i H' => But [] H3 H' ∧ ∃ zs, H' Dl = some (.lst zs) ∧ DDs [] (Dl :: l) H' zs ((F.take i).map fun r => rowL (r.map (mv sp G.length))), ⟨But.new hDl, [], upd_same, .nil⟩, fun i H' _ h => hGw [] H' h.1 (by simp), ?_, ?_⟩
  · rintro i x H4' H4 hi ⟨b4, zs, hz4, hdz⟩ ⟨rfl, hx⟩
    have hiF : i < F.length := by omega
    obtain ⟨r, hr⟩ : ∃ r, F[i]? = some r := ⟨_, List.getElem?_eq_getElem hiF⟩
    obtain ⟨d, e1, e2⟩ := (hds.but b4).get hx
    rw [List.getElem?_map, hr] at e1
    cases e1
    have hrG := hFm r (List.mem_of_getElem? hr)
    have hr4 := hwd r hrG
    refine lc_plain (i := 3) C.nd fun s H0 Ca cl fp => ?_
    obtain ⟨rb, rfl, hrb⟩ : ∃ rb, x = .ref rb ∧ SqL [] H4 rb (r.map nV) := by
      cases e2 with
      | lst a b c => obtain rfl := dds_nats c; exact ⟨_, rfl, a⟩
    refine e_lc [("goal", 4)] (C.blk _ _ _ _ _) (i_sq (a := rb) (xs := r.map nV) (.inl (sql_all hrb)) (fun Q q => e_name 3 (v := .ref rb) q) fun J2 G2 wk2 hG2 => ?_)
    refine ⟨_, G2, _, wk2, fun El hEl => ?_⟩
    refine ⟨fun j H' => But [] H4 H' ∧ H' El = some (.lst (((r.take j).map (mv sp G.length)).map nV)), ⟨But.new hEl, upd_same⟩, fun j H' _ h => hG2 [] H' h.1 (by simp), ?_, ?_⟩
    · rintro j y H5 H6 hj ⟨b5, hE5⟩ ⟨rfl, hy⟩
      rw [List.getElem?_map, Option.map_eq_some_iff] at hy
      obtain ⟨a, ha, rfl⟩ := hy
      refine lc_plain (i := 4) C.nd fun s H0 Ca cl fp => ?_
      refine e_call (k := 1) (((C.blk _ _ _ _ _).blk _ _ _ _ _)) D1 (a_cons (e_name 4 (v := nV a) (a_cons (e_name 1 (v := nV sp) (a_cons (e_len B (e_name 0 (v := .ref q) ⟨G.length, .inl ⟨xs, sql_all ((b3.trans (b4.trans b5)).sql (by simp) hq), hxl.symm⟩, a_nil ?_⟩))))))) rfl (fun _ _ _ _ _ _ us hl => match us, hl with | [_, _, _], _ => rfl)
      refine ⟨a, sp, G.length, rfl, hin r hrG a (List.mem_of_getElem? ha), hsp, fun H7 b7 => ⟨_, b7 _ _ (by simp) hE5, sz _ (by rw [List.length_map, List.length_map, List.length_take]; omega), fun o u na e => ?_, ?_⟩⟩
      · rw [upd_ne (ne_of_none e hEl)]
        exact b7 _ _ na (b5 _ _ na e)
      · rw [upd_same, List.take_succ, ha, List.map_append, List.map_append]
        rfl
    · rintro H5 ⟨b5, hE5⟩
      rw [List.length_map, List.take_length] at hE5
      have nED : El ≠ Dl := (ne_of_none hz4 hEl).symm
      have hz5 := b5 _ _ (by simp) hz4
      have zl : zs.length = i := by rw [hdz.length, List.length_map, List.length_take]; omega
      have bz : But (Dl :: l) H5 (upd H5 Dl (.lst (zs ++ [.ref El]))) := But.at (by simp)
      refine ⟨zs, hz5, sz _ (by omega), fun o u na e => ?_, zs ++ [.ref El], upd_same, ?_⟩
      · rw [upd_ne (ne_of_none e hDl)]
        exact b5 _ _ na (b4 _ _ na e)
      · rw [List.take_succ, hr, List.map_append]
        refine (DDs.append (hdz.but b5.of) (.cons (.lst (.inl (.inl hE5)) (fun z => ?_) nats_dds) .nil)).but bz
        rcases List.mem_cons.mp z with z | z
        · exact nED z
        · exact hl _ z ((b3.trans b4).free hEl)
  · rintro H4 ⟨b4, zs, hz4, hdz⟩
    rw [hyl, List.take_length] at hdz
    refine hQ Dl H4 (b3.trans b4) (.lst (.inl (.inl hz4)) (fun z => hl _ z (b3.free hDl)) ?_)
    rw [hfr, List.map_map]
    exact hdz.less fun q hq => List.mem_cons_of_mem _ hq
end
end K14

set_option Elab.async false
set_option linter.all false
set_option maxRecDepth 100000
set_option maxHeartbeats 4000000
namespace K14
open PySem PySem.Spec PyProof.Rows L2 Z
theorem ixN_natZ {n j : Nat} (hj : j < n) : ixN n (j : Int) = some j := by
  unfold ixN
  rw [if_pos (by omega), if_pos (by omega)]
  simp
def faN : List Str := ["pot", "alpha", "first", "grid", "stops", "state", "span", "path", "at", "place", "row", "turn"]
theorem scFa : FnScope faN ["pot", "alpha", "first"] (defScope (top 61)) := ⟨rfl, rfl, rfl, by decide +kernel, rfl, by decide +kernel, by decide +kernel⟩
section
variable {P : Program} {w : World} {K : PySem.W.Frag} {mg : Str → Option Value} {base : Heap}
def spFar : Sp := fun vs H Q _ => ∃ (p : Addr) (g : Str) (t : Addr) (R : List (List Nat)) (es : List Nat), vs = [.ref p, .str g, .ref t] ∧ Pot H p ∧ strSigns g = true ∧ ModAt [p] H t R es ∧ RowsOk g.length R ∧ R.length ≤ 7 ∧ es.Nodup ∧ (∀ x ∈ es, x < R.length) ∧
  ∀ t' R' es' H', But [p] H H' → Pot H' p → ModAt [p] H' t' R' es' → RowsOk g.length R' → R'.length ≤ 13 → es'.Nodup → (∀ x ∈ es', x < R'.length) → Q (.ref t') H'
theorem d_far (B : Blt mg base) (D : At K mg "_law_far" (top 61)) (D0 : Def P w K mg base 1 "_law_draw" (top 54) drPs spDraw) (D1 : Def P w K mg base 1 "_law_moved" (top 63) ["state", "span", "whole"] spMoved) (D2 : Def P w K mg base 2 "_law_fronted" (top 62) ["grid", "span"] spFront) :
    Def P w K mg base 3 "_law_far" (top 61) ["pot", "alpha", "first"] spFar := by
  refine def_of D B scFa (fun vs H Q E ⟨_, _, _, _, _, e, _⟩ => by rw [e]; rfl) fun f cdv A outer s H vs Q E hm C h => ?_
  obtain ⟨p, g, t, R, es, rfl, hp, hg, hM, ok, hR, hnd, hes, hQ⟩ := h
  have sz : ∀ n, n ≤ 16777216 → n ≤ sizeLine := fun n h => by rw [sizeLine_eq]; exact h
  have gl := strSigns_len hg
  obtain ⟨q0, s0, ht, hq, hs, ntp⟩ := hM.ex
  obtain ⟨xs0, hq0, hxs0⟩ : ∃ xs, SqL [] H q0 xs ∧ DDs [] [p] H xs (R.map rowL) := by
    cases hq with
    | lst a b c => exact ⟨_, a, c⟩
  have nq0p : q0 ∉ [p] := by cases hq with | lst a b c => exact b
  have ns0p : s0 ∉ [p] := by cases hs with | lst a b c => exact b
  have hs1 := list_at hs
  have hxl : xs0.length = R.length := by rw [hxs0.length, List.length_map]
  have hel : es.length ≤ R.length := nodup_len hnd hes
  refine b_cons (s_asg (e_tup (a_cons (e_lc [("row", 10)] C (i_sq (a := q0) (xs := xs0) (.inl (sql_all hq0)) (fun Q q => e_ix (e_name 2 (v := .ref t) (e_int (ix_t (sqt_all ht) (v := .ref q0) rfl q)))) fun J Gw wk hGw => ?_)))))
  refine ⟨_, Gw, _, wk, fun gq hgq => ?_⟩
  have ngp := hp.there hgq
  refine ⟨fun i H' => But [] H H' ∧ ∃ zs, H' gq = some (.lst zs) ∧ DDs [] [gq, p] H' zs ((R.take i).map rowL), ⟨But.new hgq, [], upd_same, .nil⟩, fun i H' _ h => hGw [] H' h.1 (by simp), ?_, ?_⟩
  · rintro i x H4' H4 hi ⟨b4, zs, hz4, hdz⟩ ⟨rfl, hx⟩
    obtain ⟨r, hr⟩ : ∃ r, R[i]? = some r := ⟨_, List.getElem?_eq_getElem (by omega)⟩
    obtain ⟨d, e1, e2⟩ := (hxs0.but b4.of).get hx
    rw [List.getElem?_map, hr] at e1
    cases e1
    obtain ⟨rb, rfl, hrb⟩ : ∃ rb, x = .ref rb ∧ SqL [] H4 rb (r.map nV) := by
      cases e2 with
      | lst a b c => obtain rfl := dds_nats c; exact ⟨_, rfl, a⟩
    refine lc_plain (i := 10) C.nd fun s H0 Ca cl fp => e_listOf B (e_name 10 (v := .ref rb) ⟨rb, r.map nV, rfl, .inl (sql_all hrb), fun El hEl => ?_⟩)
    have bE : But [] H4 (upd H4 El (.lst (r.map nV))) := But.new hEl
    have hE : upd H4 El (.lst (r.map nV)) El = some (.lst (r.map nV)) := upd_same
    have nED : El ≠ gq := (ne_of_none hz4 hEl).symm
    have nEp : El ≠ p := (hp.new b4).there hEl
    have hz5 := bE _ _ (by simp) hz4
    have hd5 := hdz.but bE.of
    have b5 := b4.trans bE
    generalize upd H4 El (.lst (r.map nV)) = H5 at hE hz5 hd5 b5 ⊢
    have bz : But [gq, p] H5 (upd H5 gq (.lst (zs ++ [.ref El]))) := But.at (by simp)
    have zl : zs.length = i := by rw [hd5.length, List.length_map, List.length_take]; omega
    refine ⟨zs, hz5, sz _ (by omega), fun o u na e => ?_, zs ++ [.ref El], upd_same, ?_⟩
    · rw [upd_ne (ne_of_none e hgq)]
      exact b5 _ _ na e
    · rw [List.take_succ, hr, List.map_append]
      exact (DDs.append hd5 (.cons (.lst (.inl (.inl hE)) (by simp [nED, nEp]) nats_dds) .nil)).but bz
  rintro H1 ⟨b1, xs, hg1, hd1⟩
  rw [hxl, List.take_length] at hd1
  refine a_cons (e_listOf B (e_ix (e_name 2 (v := .ref t) (e_int (ix_t (sqt_all (b1.sqt (by simp) ht)) (v := .ref s0) rfl ⟨s0, es.map nV, rfl, .inl (sql_all (b1.sql (by simp) hs1)), fun sq hsq => a_nil ⟨sz 2 (by decide), fun tq htq => ?_⟩⟩)))))
  have b2 : But [] H1 (upd H1 sq (.lst (es.map nV))) := But.new hsq
  have hs2 : upd H1 sq (.lst (es.map nV)) sq = some (.lst (es.map nV)) := upd_same
  have hp2 := (hp.new b1).new b2
  have nsp := (hp.new b1).there hsq
  have nsg : sq ≠ gq := (ne_of_none hg1 hsq).symm
  have hd2 := (hd1.add hsq).but b2.of
  have hg2 := b2 _ _ (by simp) hg1
  have hsH := b1.free hsq
  generalize upd H1 sq (.lst (es.map nV)) = H2 at htq b2 hs2 hp2 hd2 hg2 ⊢
  have b3 : But [] H2 (upd H2 tq (.tup [.ref gq, .ref sq])) := But.new htq
  refine g_tup (gs_cons (g_name (i := 3) (gs_cons (g_name (i := 4) (gs_nil ?_) C.nd)) C.nd)) rfl (.inl (.inl upd_same))
  have hs3 := b3 _ _ (by simp) hs2
  have hg3 := b3 _ _ (by simp) hg2
  have hp3 := hp2.new b3
  have hd3 := hd2.but b3.of
  have b03 := b1.trans (b2.trans b3)
  show wB _ _ _ [some (.ref p), some (.str g), some (.ref t), some (.ref gq), some (.ref sq), none, none, none, none, none, none, none] (upd H2 tq (.tup [.ref gq, .ref sq]))
  generalize upd H2 tq (.tup [.ref gq, .ref sq]) = H3 at hs3 hg3 hp3 hd3 b03 ⊢
  have xl : xs.length = R.length := by rw [hd3.length, List.length_map]
  refine b_cons (s_asg (e_tup (a_cons (e_int (a_cons (e_len B (e_name 3 (v := .ref gq) ⟨xs.length, .inl ⟨_, .inl (.inl hg3), rfl⟩, a_nil ⟨sz 2 (by decide), fun uq huq => ?_⟩⟩)))))))
  have b4 : But [] H3 (upd H3 uq (.tup [.int 0, .int (xs.length : Nat)])) := But.new huq
  refine g_tup (gs_cons (g_name (i := 5) (gs_cons (g_name (i := 6) (gs_nil ?_) C.nd)) C.nd)) rfl (.inl (.inl upd_same))
  have hs4 := b4 _ _ (by simp) hs3
  have hg4 := b4 _ _ (by simp) hg3
  have hp4 := hp3.new b4
  have hd4 := hd3.but b4.of
  have b04 := b03.trans b4
  rw [xl] at *
  show wB _ _ _ [some (.ref p), some (.str g), some (.ref t), some (.ref gq), some (.ref sq), some (nV 0), some (nV R.length), none, none, none, none, none] (upd H3 uq (.tup [.int 0, .int (R.length : Nat)]))
  generalize upd H3 uq (.tup [.int 0, .int (R.length : Nat)]) = H4 at hs4 hg4 hp4 hd4 b04 ⊢
  -- the path
  refine b_cons (s_setLc (i := 7) [("turn", 11)] C (i_range1 B (e_call (C.mono (by decide)) D0 (a_cons (e_name 0 (v := .ref p) (a_cons (e_int (a_nil ?_))))) rfl (fun _ _ _ _ _ _ us hl => match us, hl with | [_, _], _ => rfl))))
  refine ⟨p, 6, rfl, hp4, by decide, by decide, fun r H5 r0 r1 b5 hp5 => ⟨_, rfl, by omega, by omega, ?_⟩⟩
  obtain ⟨n, rfl⟩ := Int.eq_ofNat_of_zero_le r0
  have hn : n ≤ 5 := by omega
  have nlp : ∀ {q : Addr}, q ≠ p → q ∉ [p] := fun h => by simpa using h
  have hs5 := b5 _ _ (nlp nsp) hs4
  have hg5 := b5 _ _ (nlp ngp) hg4
  have hd5 := hd4.but (b5.mono (m := [sq, gq, p]) (by simp))
  have b05 := b04.of.trans b5
  refine ⟨_, _, _, walk_range, fun lq hlq => ?_⟩
  have nlqp := hp5.there hlq
  have nlg : lq ≠ gq := (ne_of_none hg5 hlq).symm
  have nls : lq ≠ sq := (ne_of_none hs5 hlq).symm
  refine ⟨fun i H' => But [p] H5 H' ∧ Pot H' p ∧ ∃ cs : List Nat, H' lq = some (.lst (cs.map nV)) ∧ cs.length = i ∧ ∀ c ∈ cs, c < g.length, ⟨But.new hlq, hp5.new (But.new hlq), [], upd_same, rfl, by simp⟩, fun _ _ _ _ => trivial, ?_, ?_⟩
  · rintro i x H6 H7 hi ⟨b6, hp6, cs, hl6, hcl, hcs⟩ ⟨rfl, rfl⟩
    refine lc_plain (i := 11) C.nd fun s H0 Ca cl fp => ?_
    refine e_call ((C.mono (by decide)).blk _ _ _ _ _) D0 (a_cons (e_name 0 (v := .ref p) (a_cons (e_len B (e_name 1 (v := .str g) ⟨g.length, ⟨sz _ (by omega), rfl⟩, a_nil ?_⟩))))) rfl (fun _ _ _ _ _ _ us hl => match us, hl with | [_, _], _ => rfl)
    refine ⟨p, g.length, rfl, hp6, by omega, by omega, fun z H7 z0 z1 b7 hp7 => ?_⟩
    obtain ⟨z, rfl⟩ := Int.eq_ofNat_of_zero_le z0
    have hi5 : i < 5 := by have : i < (((n : Nat) : Int)).toNat := hi; omega
    refine ⟨_, b7 _ _ (nlp nlqp) hl6, sz _ (by rw [List.length_map]; omega), fun q o na e => ?_, hp7.upd nlqp, cs ++ [z], by rw [upd_same, List.map_append]; rfl, by simp [hcl], fun y hy => ?_⟩
    · rw [upd_ne (ne_of_none e hlq)]
      exact b7 _ _ na (b6 _ _ na e)
    · rcases List.mem_append.mp hy with h | h
      · exact hcs y h
      · rw [List.mem_singleton.mp h]; omega
  rintro H6 ⟨b6, hp6, cs, hl6, hcl, hcs⟩
  have hcn : cs.length = n := by rw [hcl]; omega
  have hs6 := b6 _ _ (nlp nsp) hs5
  have hg6 := b6 _ _ (nlp ngp) hg5
  have hd6 := hd5.but (b6.mono (m := [sq, gq, p]) (by simp))
  have b06 := b05.trans b6
  have hlH : H lq = none := b05.freeL (nlp nlqp) hlq
  clear b5 hp5 hs5 hg5 hd5 b05 hs4 hg4 hp4 hd4 b04 b4 hs3 hg3 hp3 hd3 b03
  show wB _ _ _ [some (.ref p), some (.str g), some (.ref t), some (.ref gq), some (.ref sq), some (nV 0), some (nV R.length), some (.ref lq), none, none, none, none] H6
  refine b_cons (s_for C (i_enum B (e_bin (e_name 7 (v := .ref lq) (e_lst (a_cons (e_int (a_nil ⟨sz 1 (by decide), fun zq hzq => ?_⟩))))))))
  have bz : But [] H6 (upd H6 zq (.lst [.int 0])) := But.new hzq
  refine o_cat (bz _ _ (by simp) hl6) upd_same (sz _ (by rw [List.length_map]; show _ + 1 ≤ _; omega)) fun pq hpq => ?_
  have b7 : But [] (upd H6 zq (.lst [.int 0])) (upd (upd H6 zq (.lst [.int 0])) pq (.lst (cs.map nV ++ [.int 0]))) := But.new hpq
  have hp7 : upd (upd H6 zq (.lst [.int 0])) pq (.lst (cs.map nV ++ [.int 0])) pq = some (.lst ((cs ++ [0]).map nV)) := by rw [upd_same, List.map_append]; rfl
  have b67 := bz.trans b7
  have hpq6 := bz.free hpq
  generalize upd (upd H6 zq (.lst [.int 0])) pq (.lst (cs.map nV ++ [.int 0])) = H7 at hp7 b67 ⊢
  clear b7 bz hzq hpq
  have npg : pq ≠ gq := (ne_of_none hg6 hpq6).symm
  have nps : pq ≠ sq := (ne_of_none hs6 hpq6).symm
  have hs7 := b67 _ _ (by simp) hs6
  have hg7 := b67 _ _ (by simp) hg6
  have hl7 := b67 _ _ (by simp) hl6
  have hd7 := hd6.but b67.of
  have hpo7 := hp6.new b67
  have b07 := b06.trans b67.of
  have hgH : H gq = none := hgq
  have nnb : ∀ {q : Addr}, q ≠ gq → q ≠ sq → q ∉ [gq, sq] := fun a b => by simp [a, b]
  have npgs : p ∉ [gq, sq] := nnb ngp.symm nsp.symm
  have keep : ∀ {H' : Hp}, But [gq, sq] H7 H' → But [p] H H' := fun b q o na e => b q o (nnb (ne_of_none e hgH) (ne_of_none e hsH)) (b07 q o na e)
  have pot7 : ∀ {H' : Hp}, But [gq, sq] H7 H' → Pot H' p := fun b => by
    obtain ⟨x, y, e, r⟩ := hpo7
    exact ⟨x, y, b _ _ npgs e, r⟩
  refine ⟨pq, _, rfl, .inl (.inl hp7), _, _, _, walk_enum (xs := (cs ++ [0]).map nV), fun i σ H' => (∃ (st : Nat) (v8 v9 v10 v11 : Option V), σ = [some (.ref p), some (.str g), some (.ref t), some (.ref gq), some (.ref sq), some (nV st), some (nV R.length), some (.ref lq), v8, v9, v10, v11] ∧ st < R.length) ∧ But [gq, sq] H7 H' ∧ ∃ (xs : List V) (G : List (List Nat)) (es' : List Nat), H' gq = some (.lst xs) ∧ DDs [] [sq, gq, p] H' xs (G.map rowL) ∧ G.length = R.length + i ∧ (∀ r ∈ G, r.length = g.length) ∧ (∀ r ∈ G, ∀ x ∈ r, x < R.length + cs.length + 1) ∧
      H' sq = some (.lst (es'.map nV)) ∧ es'.Nodup ∧ (∀ x ∈ es', x < R.length + i), ⟨⟨0, none, none, none, none, rfl, ok.pos⟩, But.refl, xs, R, es, hg7, hd7, rfl, ok.wide, fun r hr x hx => by have := ok.inn r hr x hx; omega, hs7, hnd, hes⟩, fun i σ H' _ h => .inl (.inl (h.2.1 _ _ (nnb npg nps) hp7)), ?_, ?_⟩
  · rintro i x σ H8 H9 hi ⟨⟨st, v8, v9, v10, v11, rfl, hst⟩, b8, xs, G, es', hg8, hd8, hGl, hGw, hGi, hs8, hnd8, hes8⟩ ⟨T, x1, y1, rfl, hT, rfl, e1, e2⟩
    have e1 : some (V.int (i : Nat)) = some x1 := e1
    have e2 : ((cs ++ [0]).map nV)[i]? = some y1 := e2
    cases e1
    rw [List.getElem?_map, Option.map_eq_some_iff] at e2
    obtain ⟨c, hc, rfl⟩ := e2
    have hi : i < cs.length + 1 := by
      have : i < ((cs ++ [0]).map nV).length := hi
      rw [List.length_map, List.length_append] at this
      exact this
    have bt : But [] H8 (upd H8 T (.tup [.int (i : Nat), nV c])) := But.new hT
    refine g_tup (gs_cons (g_name (i := 8) (gs_cons (g_name (i := 9) (gs_nil ?_) C.nd)) C.nd)) rfl (.inl (.inl upd_same))
    have hg9 := bt _ _ (by simp) hg8
    have hs9 := bt _ _ (by simp) hs8
    have hd9 := hd8.but bt.of
    have b9 : But [gq, sq] H7 (upd H8 T (.tup [.int (i : Nat), nV c])) := b8.trans bt.of
    generalize upd H8 T (.tup [.int (i : Nat), nV c]) = H9 at hg9 hs9 hd9 b9 ⊢
    clear hg8 hs8 hd8 b8 bt hT
    have xl9 : xs.length = R.length + i := by rw [hd9.length, List.length_map, hGl]
    have k9 := keep b9
    obtain ⟨r, hr⟩ : ∃ r, R[st]? = some r := ⟨_, List.getElem?_eq_getElem hst⟩
    have hrm := List.mem_of_getElem? hr
    have hrw := ok.wide r hrm
    -- the row of the state, wherever the heap stands
    have rowAt : ∀ {H' : Hp}, But [p] H H' → ∃ rb, xs0[st]? = some (.ref rb) ∧ SqL [] H' rb (r.map nV) := fun b => by
      obtain ⟨y, hy⟩ : ∃ y, xs0[st]? = some y := ⟨_, List.getElem?_eq_getElem (by omega)⟩
      obtain ⟨d, e3, e4⟩ := (hxs0.but b).get hy
      rw [List.getElem?_map, hr] at e3
      cases e3
      cases e4 with
      | lst a1 b1 c1 => obtain rfl := dds_nats c1; exact ⟨_, hy, a1⟩
    obtain ⟨rb, hrb, hrs⟩ := rowAt k9
    refine b_cons (s_expr (e_append (e_name 3 (v := .ref gq) ⟨gq, rfl, ⟨_, hg9⟩, e_listOf B (e_ix (e_ix (e_name 2 (v := .ref t) (e_int (ix_t (sqt_all (k9.sqt ntp ht)) (v := .ref q0) rfl (e_name 5 (v := nV st) (ix_l (sql_all (k9.sql nq0p hq0)) (v := .ref rb) (atI_nat hrb) ?_)))))))⟩)))
    refine ⟨rb, r.map nV, rfl, .inl (sql_all hrs), fun bq hbq => ?_⟩
    have bb : But [] H9 (upd H9 bq (.lst (r.map nV))) := But.new hbq
    have hb10 : upd H9 bq (.lst (r.map nV)) bq = some (.lst (r.map nV)) := upd_same
    have hg10 := bb _ _ (by simp) hg9
    have hs10 := bb _ _ (by simp) hs9
    have nbg : bq ≠ gq := (ne_of_none hg9 hbq).symm
    have nbs : bq ≠ sq := (ne_of_none hs9 hbq).symm
    have nbp : bq ≠ p := (pot7 b9).there hbq
    have nbl : bq ≠ lq := (ne_of_none (b9 _ _ (nnb nlg nls) hl7) hbq).symm
    have bH7 : H7 bq = none := b9.freeL (nnb nbg nbs) hbq
    generalize upd H9 bq (.lst (r.map nV)) = H10 at bb hb10 hg10 hs10 ⊢
    refine ⟨xs, hg10, sz _ (by omega), ?_⟩
    have bg : But [gq] H10 (upd H10 gq (.lst (xs ++ [.ref bq]))) := But.at (by simp)
    have hg11 : upd H10 gq (.lst (xs ++ [.ref bq])) gq = some (.lst (xs ++ [.ref bq])) := upd_same
    have hb11 : upd H10 gq (.lst (xs ++ [.ref bq])) bq = some (.lst (r.map nV)) := by rw [upd_ne nbg]; exact hb10
    have hs11 : upd H10 gq (.lst (xs ++ [.ref bq])) sq = some (.lst (es'.map nV)) := by rw [upd_ne nsg]; exact hs10
    have b911 : But [gq, sq] H9 (upd H10 gq (.lst (xs ++ [.ref bq]))) := bb.of.trans (bg.mono (by simp))
    generalize upd H10 gq (.lst (xs ++ [.ref bq])) = H11 at hg11 hb11 hs11 b911 ⊢
    clear bg hg10 hs10 hb10 bb
    have b11 := b9.trans b911
    have k11 := keep b11
    have hl11 := b11 _ _ (nnb nlg nls) hl7
    refine b_mid (fun σ H' => σ = [some (.ref p), some (.str g), some (.ref t), some (.ref gq), some (.ref sq), some (nV st), some (nV R.length), some (.ref lq), some (.int (i : Nat)), some (nV c), v10, v11] ∧ But [sq] H11 H' ∧ ∃ es'' : List Nat, H' sq = some (.lst (es''.map nV)) ∧ es''.Nodup ∧ ∀ x ∈ es'', x < R.length + (i + 1)) (s_ifB (decide (st ∈ es) != decide (i = cs.length)) ?_ (fun _ H12 b12 => ?_) (fun _ H12 b12 => ?_)) ?_
    · refine t_cmp (e_cmp (e_name 5 (v := nV st) (e_ix (e_name 2 (v := .ref t) (e_int (ix_t (sqt_all (k11.sqt ntp ht)) (v := .ref s0) rfl ?_))))))
      refine c_inL (.inl (sql_all (k11.sql ns0p hs1))) rfl (flat_nats es) (e_cmp (e_name 8 (v := nV i) (e_len B (e_name 7 (v := .ref lq) ⟨cs.length, .inl ⟨_, .inl (.inl hl11), by simp⟩, c_eq rfl ?_⟩))))
      rw [inV_dec]
      refine c_ne rfl ⟨_, rfl, ?_, But.refl⟩
      have e3 : decide (V.int (i : Nat) = V.int (cs.length : Nat)) = decide (i = cs.length) := by rw [decide_eq_decide, V.int.injEq]; omega
      rw [e3]
      cases decide (st ∈ es) <;> cases decide (i = cs.length) <;> rfl
    · have hs12 := b12 _ _ (by simp) hs11
      refine b_cons (s_expr (e_append (e_name 4 (v := .ref sq) ⟨sq, rfl, ⟨_, hs12⟩, e_bin (e_name 6 (v := nV R.length) (e_name 8 (v := nV i) (o_add ⟨_, hs12, sz _ ?_, b_nil ?_⟩)))⟩)))
      · have := nodup_len hnd8 hes8
        rw [List.length_map]
        omega
      · refine ⟨rfl, (b12.of).trans (But.at (by simp)), es' ++ [R.length + i], by rw [upd_same, List.map_append]; rfl, ?_, fun y hy => ?_⟩
        · rw [List.nodup_append]
          exact ⟨hnd8, by simp, fun a ha b hb e => by rw [List.mem_singleton.mp hb] at e; have := hes8 a ha; omega⟩
        · rcases List.mem_append.mp hy with h | h
          · have := hes8 y h; omega
          · rw [List.mem_singleton.mp h]; omega
    · exact b_nil ⟨rfl, b12.of, es', b12 _ _ (by simp) hs11, hnd8, fun x hx => by have := hes8 x hx; omega⟩
    rintro σ H12 ⟨rfl, b12, es'', hs12, hnd12, hes12⟩
    have n1 : ∀ {q : Addr}, q ≠ sq → q ∉ [sq] := fun h => by simpa using h
    have hg12 := b12 _ _ (n1 nsg.symm) hg11
    have hb12 := b12 _ _ (n1 nbs) hb11
    have b912 : But [gq, sq] H9 H12 := b911.trans (b12.mono (by simp))
    have b712 := b9.trans b912
    have hl12 := b712 _ _ (nnb nlg nls) hl7
    have k12 := keep b712
    have hd12 := hd9.but (b912.mono (m := [sq, gq, p]) (by simp))
    have noB : bq ∉ [sq, gq, p] := by simp [nbs, nbg, nbp]
    have fin : ∀ (r' : List Nat) (H' : Hp), r'.length = g.length → (∀ x ∈ r', x < R.length + cs.length + 1) → H' bq = some (.lst (r'.map nV)) → (∀ q o, q ≠ bq → H12 q = some o → H' q = some o) →
        But [gq, sq] H7 H' ∧ ∃ (xs : List V) (G : List (List Nat)) (es' : List Nat), H' gq = some (.lst xs) ∧ DDs [] [sq, gq, p] H' xs (G.map rowL) ∧ G.length = R.length + (i + 1) ∧ (∀ r ∈ G, r.length = g.length) ∧ (∀ r ∈ G, ∀ x ∈ r, x < R.length + cs.length + 1) ∧ H' sq = some (.lst (es'.map nV)) ∧ es'.Nodup ∧ (∀ x ∈ es', x < R.length + (i + 1)) := fun r' H' w1 w2 w3 w4 => by
      have hd' : DDs [] [sq, gq, p] H' xs (G.map rowL) := hd9.but (fun q o na e => w4 q o (ne_of_none e hbq) (b912 q o (fun z => na (by rcases List.mem_cons.mp z with z | z <;> simp_all)) e))
      refine ⟨fun q o na e => w4 q o (ne_of_none e bH7) (b712 q o na e), xs ++ [.ref bq], G ++ [r'], es'', w4 _ _ nbg.symm hg12, ?_, by rw [List.length_append, hGl]; rfl, fun a ha => ?_, fun a ha => ?_, w4 _ _ nbs.symm hs12, hnd12, hes12⟩
      · rw [List.map_append]
        exact DDs.append hd' (.cons (.lst (.inl (.inl w3)) noB nats_dds) .nil)
      · rcases List.mem_append.mp ha with h | h
        · exact hGw a h
        · rw [List.mem_singleton.mp h]; exact w1
      · rcases List.mem_append.mp ha with h | h
        · exact hGi a h
        · rw [List.mem_singleton.mp h]; exact w2
    refine b_cons (s_ifB (decide (i < cs.length)) ?_ (fun e5 H13 b13 => ?_) (fun e5 H13 b13 => b_nil (b_nil ?_)))
    · refine t_cmp (e_name 8 (v := nV i) (e_len B (e_name 7 (v := .ref lq) ⟨cs.length, .inl ⟨_, .inl (.inl hl12), by simp⟩, c_lt ⟨_, rfl, ?_, But.refl⟩⟩)))
      rw [decide_eq_decide]; omega
    · have hic : i < cs.length := of_decide_eq_true e5
      have hcg : c < g.length := by
        rw [List.getElem?_append_left hic] at hc
        exact hcs c (List.mem_of_getElem? hc)
      have hg13 := b13 _ _ (by simp) hg12
      have hb13 := b13 _ _ (by simp) hb12
      have k13 := k12.trans b13.of
      refine b_cons (s_asg (e_bin (e_bin (e_name 6 (v := nV R.length) (e_name 8 (v := nV i) (o_add (e_int (o_add ?_))))))))
      have e6 : (xs ++ [V.ref bq])[R.length + i]? = some (.ref bq) := by rw [← xl9]; simp
      refine g_sub (e_ix (e_name 3 (v := .ref gq) (e_bin (e_name 6 (v := nV R.length) (e_name 8 (v := nV i) (o_add ?_))))))
      refine ix_l (.inl (.inl hg13)) (v := .ref bq) (by rw [← Int.natCast_add]; exact atI_nat e6) (e_name 9 (v := nV c) (set_l hb13 (ixN_natZ (by rw [List.length_map, hrw]; exact hcg)) ?_))
      obtain ⟨_, tr, ta, tl⟩ := grid_lt ok hst hcg
      rw [hr] at tr
      cases tr
      have hset : (r.map nV).set c (V.int ((R.length : Int) + (i : Nat) + 1)) = (r.set c (R.length + i + 1)).map nV := by
        rw [List.map_set]
        rfl
      rw [hset]
      have w4 : ∀ q o, q ≠ bq → H12 q = some o → (upd H13 bq (.lst ((r.set c (R.length + i + 1)).map nV))) q = some o := fun q o nq e => by rw [upd_ne nq]; exact b13 _ _ (by simp) e
      obtain ⟨fb, fx⟩ := fin (r.set c (R.length + i + 1)) (upd H13 bq (.lst ((r.set c (R.length + i + 1)).map nV))) (by rw [List.length_set]; exact hrw) (fun y hy => by
        rcases List.mem_or_eq_of_mem_set hy with h | h
        · have := ok.inn r hrm y h; omega
        · omega) upd_same w4
      generalize upd H13 bq (.lst ((r.set c (R.length + i + 1)).map nV)) = H14 at fb fx ⊢
      have k14 := keep fb
      obtain ⟨rb2, hrb2, hrs2⟩ := rowAt k14
      refine b_cons (s_set (i := 5) (e_ix (e_ix (e_ix (e_name 2 (v := .ref t) (e_int (ix_t (sqt_all (k14.sqt ntp ht)) (v := .ref q0) rfl (e_name 5 (v := nV st) (ix_l (sql_all (k14.sql nq0p hq0)) (v := .ref rb2) (atI_nat hrb2) (e_name 9 (v := nV c) (ix_l (sql_all hrs2) (v := nV (tg R st c)) (atI_nat (nth_nat ta)) ?_)))))))))) C.nd)
      exact b_nil (b_nil ⟨⟨tg R st c, _, _, _, _, rfl, tl⟩, fb, fx⟩)
    · exact ⟨⟨st, _, _, _, _, rfl, hst⟩, fin r H13 hrw (fun x hx => by have := ok.inn r hrm x hx; omega) (b13 _ _ (by simp) hb12) fun q o _ e => b13 _ _ (by simp) e⟩
  · rintro σ H8 ⟨⟨st, v8, v9, v10, v11, rfl, hst⟩, b8, xs, G, es', hg8, hd8, hGl, hGw, hGi, hs8, hnd8, hes8⟩
    have hlen : ((cs ++ [0]).map nV).length = cs.length + 1 := by simp
    rw [hlen] at hGl hes8
    have xl8 : xs.length = G.length := by rw [hd8.length, List.length_map]
    have hG13 : G.length ≤ 13 := by omega
    have okG : RowsOk g.length G := ⟨by omega, by omega, hGw, fun r hr x hx => by have := hGi r hr x hx; omega⟩
    have k8 := keep b8
    have po8 := pot7 b8
    have hgD : DD [] [] H8 (.ref gq) (gridD G) := .lst (.inl (.inl hg8)) (by simp) (hd8.less (by simp))
    refine b_cons (s_ret (e_tup (a_cons (e_call (C.mono (by decide)) D2 (a_cons (e_name 3 (v := .ref gq) (a_cons (e_name 6 (v := nV R.length) (a_nil ?_))))) rfl (fun _ _ _ _ _ _ us hl => match us, hl with | [_, _], _ => rfl)))))
    refine ⟨gq, R.length, G, [p], rfl, hgD, by omega, okG.inn, fun r hr => by rw [hGw r hr]; omega, by omega, fun a ha => ?_, fun fq H9 b9 hF => ?_⟩
    · rw [List.mem_singleton.mp ha]
      obtain ⟨_, _, e, _⟩ := po8
      rw [e]; simp
    obtain ⟨okF, hFl⟩ := fronted_ok okG (sp := R.length) (by omega)
    have hs9 := b9 _ _ (by simp) hs8
    have hg9 := b9 _ _ (by simp) hg8
    have po9 := po8.new b9
    refine a_cons (e_lc [("state", 5)] C (i_sq (a := sq) (xs := es'.map nV) (.inl (.inl (.inl hs9))) (fun Q q => e_name 4 (v := .ref sq) q) fun J Gw wk hGw => ?_))
    refine ⟨_, Gw, _, wk, fun Dl hDl => ?_⟩
    have nDp := po9.there hDl
    refine ⟨fun j H' => But [] H9 H' ∧ H' Dl = some (.lst (((es'.take j).map (mv R.length G.length)).map nV)), ⟨But.new hDl, upd_same⟩, fun j H' _ h => hGw [] H' h.1 (by simp), ?_, ?_⟩
    · rintro j y H10' H10 hj ⟨b10, hD10⟩ ⟨rfl, hy⟩
      rw [List.getElem?_map, Option.map_eq_some_iff] at hy
      obtain ⟨a, ha, rfl⟩ := hy
      have ham := hes8 a (List.mem_of_getElem? ha)
      have hel : es'.length ≤ 20 := by have := nodup_len hnd8 hes8; omega
      refine lc_plain (i := 5) C.nd fun s H0 Ca cl fp => ?_
      refine e_call (k := 1) ((C.mono (by decide)).blk _ _ _ _ _) D1 (a_cons (e_name 5 (v := nV a) (a_cons (e_name 6 (v := nV R.length) (a_cons (e_len B (e_name 3 (v := .ref gq) ⟨G.length, .inl ⟨xs, .inl (.inl (b10 _ _ (by simp) hg9)), xl8.symm⟩, a_nil ?_⟩))))))) rfl (fun _ _ _ _ _ _ us hl => match us, hl with | [_, _, _], _ => rfl)
      refine ⟨a, R.length, G.length, rfl, by omega, by omega, fun H11 b11 => ⟨_, b11 _ _ (by simp) hD10, sz _ (by rw [List.length_map, List.length_map, List.length_take]; omega), fun o u na e => ?_, ?_⟩⟩
      · rw [upd_ne (ne_of_none e hDl)]
        exact b11 _ _ na (b10 _ _ na e)
      · rw [upd_same, List.take_succ, ha, List.map_append, List.map_append]
        rfl
    · rintro H10 ⟨b10, hD10⟩
      rw [List.length_map, List.take_length] at hD10
      refine a_nil ⟨sz 2 (by decide), fun tq hq => ?_⟩
      have bt : But [] H10 (upd H10 tq (.tup [.ref fq, .ref Dl])) := But.new hq
      have ntq := (po9.new b10).there hq
      refine hQ tq (fronted R.length G) (es'.map (mv R.length G.length)) _ (k8.trans (b9.trans (b10.trans bt)).of) ((po9.new b10).new bt) ⟨fq, Dl, .inl (.inl upd_same), (hF.but b10.of).but bt.of, .lst (.inl (.inl (bt _ _ (by simp) hD10))) (nlp nDp) nats_dds, nlp ntq⟩ okF (by omega) ?_ fun y hy => ?_
      · refine List.pairwise_map.mpr (List.Pairwise.imp_of_mem (fun {a b} ha hb hab e => hab ?_) hnd8)
        exact mv_inj (by have := hes8 a ha; omega) (by have := hes8 b hb; omega) (by omega) e
      · obtain ⟨a, ha, rfl⟩ := List.mem_map.mp hy
        rw [hFl]
        exact mv_lt (by have := hes8 a ha; omega) (by omega)
end
end K14

set_option Elab.async false
set_option linter.all false
set_option maxRecDepth 100000
set_option maxHeartbeats 4000000
namespace K14
open PySem PySem.Spec PyProof.Rows L2 Z
def seN : List Str := ["pot", "alpha", "first", "way", "span", "flipped", "state"]
theorem scSe : FnScope seN ["pot", "alpha", "first"] (defScope (top 60)) := ⟨rfl, rfl, rfl, by decide +kernel, rfl, by decide +kernel, by decide +kernel⟩
section
variable {P : Program} {w : World} {K : PySem.W.Frag} {mg : Str → Option Value} {base : Heap}
theorem d_second (B : Blt mg base) (D : At K mg "_law_second" (top 60)) (D0 : Def P w K mg base 1 "_law_draw" (top 54) drPs spDraw) (D1 : Def P w K mg base 2 "_law_model" (top 57) ["pot", "alpha", "most"] spModel) (D2 : Def P w K mg base 3 "_law_far" (top 61) ["pot", "alpha", "first"] spFar) :
    Def P w K mg base 4 "_law_second" (top 60) ["pot", "alpha", "first"] spFar := by
  refine def_of D B scSe (fun vs H Q E ⟨_, _, _, _, _, e, _⟩ => by rw [e]; rfl) fun f cdv A outer s H vs Q E hm C h => ?_
  obtain ⟨p, g, t, R, es, rfl, hp, hg, hM, ok, hR, hnd, hes, hQ⟩ := h
  have sz : ∀ n, n ≤ 16777216 → n ≤ sizeLine := fun n h => by rw [sizeLine_eq]; exact h
  have gl := strSigns_len hg
  obtain ⟨q0, s0, ht, hq, hs, ntp⟩ := hM.ex
  obtain ⟨xs0, hq0, hxs0, nq0p⟩ : ∃ xs, SqL [] H q0 xs ∧ DDs [] [p] H xs (R.map rowL) ∧ q0 ∉ [p] := by
    cases hq with
    | lst a b c => exact ⟨_, a, c, b⟩
  have ns0p : s0 ∉ [p] := by cases hs with | lst a b c => exact b
  have hs1 := list_at hs
  have hxl : xs0.length = R.length := by rw [hxs0.length, List.length_map]
  have hpos := ok.pos
  have nlp : ∀ {q : Addr}, q ≠ p → q ∉ [p] := fun h => by simpa using h
  refine b_cons (s_par (i := 3) (j := 4) C (a_cons (e_call (C.mono (by decide)) D0 (a_cons (e_name 0 (v := .ref p) (a_cons (e_int (a_nil ?_))))) rfl (fun _ _ _ _ _ _ us hl => match us, hl with | [_, _], _ => rfl))))
  refine ⟨p, 4, rfl, hp, by decide, by decide, fun r H1 r0 r1 b1 hp1 => ?_⟩
  obtain ⟨wy, rfl⟩ := Int.eq_ofNat_of_zero_le r0
  refine a_cons (e_len B (e_ix (e_name 2 (v := .ref t) (e_int (ix_t (sqt_all (b1.sqt ntp ht)) (v := .ref q0) rfl ⟨R.length, .inl ⟨xs0, sql_all (b1.sql nq0p hq0), hxl.symm⟩, a_nil ⟨_, _, rfl, ?_⟩⟩)))))
  show wB _ _ _ [some (.ref p), some (.str g), some (.ref t), some (nV wy), some (nV R.length), none, none] H1
  refine b_cons (s_ifB (decide (wy = 0)) ?_ (fun e H2 b2 => ?_) (fun e H2 b2 => b_nil ?_))
  · refine t_cmp (e_name 3 (v := nV wy) (e_int (c_eq rfl ⟨_, rfl, ?_, But.refl⟩)))
    rw [decide_eq_decide, V.int.injEq]; omega
  · refine b_cons (s_ret (e_call (C.mono (by decide)) D1 (a_cons (e_name 0 (v := .ref p) (a_cons (e_name 1 (v := .str g) (a_cons (e_int (a_nil ?_))))))) rfl (fun _ _ _ _ _ _ us hl => match us, hl with | [_, _, _], _ => rfl)))
    refine ⟨p, g, 6, rfl, by decide, by decide, hp1.new b2, hg, fun t' q' s' R' es' H3 b3 hp3 ht' hq' hs' ok' hR' hnd' hes' => hQ t' R' es' H3 (b1.trans (b2.of.trans b3)) hp3 ⟨q', s', .inl (.inl ht'), hq', hs', nlp (hp3.ne ht' (by intro a b z; cases z))⟩ ok' (by omega) hnd' hes'⟩
  have k2 := b1.trans b2.of
  have hp2 := hp1.new b2
  -- the flipped states
  refine b_mid (fun σ H' => ∃ fq fs, σ = [some (.ref p), some (.str g), some (.ref t), some (nV wy), some (nV R.length), some (.ref fq), none] ∧ But [p] H H' ∧ Pot H' p ∧ H' fq = some (.lst (fs.map nV)) ∧ fq ≠ p) (s_set (i := 5) (wE_mono (Q := fun v H' => ∃ fq fs, v = .ref fq ∧ But [p] H H' ∧ Pot H' p ∧ H' fq = some (.lst ((fs : List Nat).map nV)) ∧ fq ≠ p) (e_if (t_cmp (e_name 3 (v := nV wy) (e_int (c_eq rfl ⟨_, rfl, ite_b (fun e1 => ?_) fun e1 => ?_⟩))))) fun v H' ⟨fq, fs, e, r⟩ => ⟨fq, fs, by rw [e]; rfl, r⟩) C.nd) ?_
  · refine e_lst (a_cons (e_call (C.mono (by decide)) D0 (a_cons (e_name 0 (v := .ref p) (a_cons (e_name 4 (v := nV R.length) (a_nil ?_))))) rfl (fun _ _ _ _ _ _ us hl => match us, hl with | [_, _], _ => rfl)))
    refine ⟨p, R.length, rfl, hp2, by omega, by omega, fun z H3 z0 z1 b3 hp3 => a_nil ⟨sz 1 (by decide), fun fq hfq => ?_⟩⟩
    obtain ⟨z, rfl⟩ := Int.eq_ofNat_of_zero_le z0
    exact ⟨fq, [z], rfl, k2.trans (b3.trans (But.new hfq)), hp3.new (But.new hfq), upd_same, hp3.there hfq⟩
  · refine e_listRg1 C (e_name 4 (v := nV R.length) ⟨R.length, rfl, by omega, fun fq hfq => ⟨fq, List.range R.length, rfl, k2.trans (But.new hfq), hp2.new (But.new hfq), upd_same, hp2.there hfq⟩⟩)
  rintro σ H3 ⟨fq, fs, rfl, k3, hp3, hf3, nfp⟩
  refine b_cons (s_ifB (decide (wy < 3)) ?_ (fun e H4 b4 => ?_) (fun e H4 b4 => b_nil ?_))
  · refine t_cmp (e_name 3 (v := nV wy) (e_int (c_lt ⟨_, rfl, ?_, But.refl⟩)))
    rw [decide_eq_decide]; omega
  · have k4 := k3.trans b4.of
    have hp4 := hp3.new b4
    have hf4 := b4 _ _ (by simp) hf3
    refine b_cons (s_ret (e_tup (a_cons (e_ix (e_name 2 (v := .ref t) (e_int (ix_t (sqt_all (k4.sqt ntp ht)) (v := .ref q0) rfl (a_cons (e_lc [("state", 6)] C (i_range1 B (e_name 4 (v := nV R.length) ⟨_, rfl, by omega, by omega, _, _, _, walk_range, fun Dl hDl => ?_⟩)))))))))) )
    have nDp := hp4.there hDl
    refine ⟨fun j H' => But [] H4 H' ∧ ∃ es' : List Nat, H' Dl = some (.lst (es'.map nV)) ∧ es'.length ≤ j ∧ es'.Nodup ∧ ∀ x ∈ es', x < j, ⟨But.new hDl, [], upd_same, Nat.le_refl _, by simp, by simp⟩, fun _ _ _ _ => trivial, ?_, ?_⟩
    · rintro j y H5 H6 hj ⟨b5, es', hD5, hel, hend, hei⟩ ⟨rfl, rfl⟩
      have hjn : j < R.length := by omega
      have k5 := k4.trans b5.of
      refine lc_test (i := 6) C.nd fun s H0 Ca cl fp => ?_
      refine t_cmp (e_cmp (e_name 6 (v := .int (0 + (j : Int))) (e_ix (e_name 2 (v := .ref t) (e_int (ix_t (sqt_all (k5.sqt ntp ht)) (v := .ref s0) rfl ?_))))))
      rw [Int.zero_add]
      refine c_inL (.inl (sql_all (k5.sql ns0p hs1))) rfl (flat_nats es) (e_cmp (e_name 6 (v := .int (0 + (j : Int))) (e_name 5 (v := .ref fq) ?_)))
      rw [Int.zero_add]
      refine c_inL (.inl (.inl (.inl (b5 _ _ (by simp) hf4)))) rfl (flat_nats fs) (c_ne rfl ⟨_, rfl, ?_⟩)
      split
      · refine fun s H0 Ca cl fp => e_name 6 (v := .int (0 + (j : Int))) ⟨_, hD5, sz _ (by rw [List.length_map]; omega), fun q o na e => ?_, es' ++ [j], by rw [upd_same, List.map_append, Int.zero_add]; rfl, by simp; omega, ?_, fun y hy => ?_⟩
        · rw [upd_ne (ne_of_none e hDl)]
          exact b5 _ _ na e
        · rw [List.nodup_append]
          exact ⟨hend, by simp, fun a ha b hb e => by rw [List.mem_singleton.mp hb] at e; have := hei a ha; omega⟩
        · rcases List.mem_append.mp hy with h | h
          · have := hei y h; omega
          · rw [List.mem_singleton.mp h]; omega
      · exact ⟨b5, es', hD5, by omega, hend, fun x hx => by have := hei x hx; omega⟩
    · rintro H5 ⟨b5, es', hD5, hel, hend, hei⟩
      refine a_nil ⟨sz 2 (by decide), fun tq htq => ?_⟩
      have bt : But [] H5 (upd H5 tq (.tup [.ref q0, .ref Dl])) := But.new htq
      have k6 := (k4.trans b5.of).trans bt.of
      exact hQ tq R es' _ k6 ((hp4.new b5).new bt) ⟨q0, Dl, .inl (.inl upd_same), hq.but k6, .lst (.inl (.inl (bt _ _ (by simp) hD5))) (nlp nDp) nats_dds, nlp ((hp4.new b5).there htq)⟩ ok (by omega) hend fun x hx => by have := hei x hx; omega
  · have k4 := k3.trans b4.of
    refine b_cons (s_ret (e_call (C.mono (by decide)) D2 (a_cons (e_name 0 (v := .ref p) (a_cons (e_name 1 (v := .str g) (a_cons (e_name 2 (v := .ref t) (a_nil ?_))))))) rfl (fun _ _ _ _ _ _ us hl => match us, hl with | [_, _, _], _ => rfl)))
    exact ⟨p, g, t, R, es, rfl, hp3.new b4, hg, hM.but k4, ok, hR, hnd, hes, fun t' R' es' H5 b5 => hQ t' R' es' H5 (k4.trans b5)⟩
end
end K14

set_option Elab.async false
set_option linter.all false
set_option maxRecDepth 100000
set_option maxHeartbeats 4000000
namespace K14
open PySem PySem.Spec PyProof.Rows L2 Z LamX NdefX
theorem SqL.exx {K : PySem.W.Frag} {H H' : Hp} {a : Addr} {xs : List V} (b : Ex [] H H') (h : SqL K H a xs) : SqL K H' a xs := by
  rcases h with h | h
  · rcases h with h | ⟨o, h⟩
    · exact .inl (.inl (b _ _ (by simp) h fun _ z => by cases z))
    · exact .inl (.inr ⟨o, b _ _ (by simp) h fun _ z => by cases z⟩)
  · exact .inr h
theorem SqT.exx {K : PySem.W.Frag} {H H' : Hp} {a : Addr} {xs : List V} (b : Ex [] H H') (h : SqT K H a xs) : SqT K H' a xs := by
  rcases h with h | h
  · rcases h with h | ⟨o, h⟩
    · exact .inl (.inl (b _ _ (by simp) h fun _ z => by cases z))
    · exact .inl (.inr ⟨o, b _ _ (by simp) h fun _ z => by cases z⟩)
  · exact .inr h
theorem ModAt.ex' {H H' : Hp} {t : Addr} {R : List (List Nat)} {es : List Nat} (h : ModAt [] H t R es) (b : Ex [] H H') : ModAt [] H' t R es := by
  obtain ⟨q, sq, h1, h2, h3, h4⟩ := h.ex
  exact ⟨q, sq, SqT.exx b h1, h2.ex b, h3.ex b, h4⟩
/-- a machine that was made of a model -/
structure Told (g : Str) (L : List (List Nat)) (LA : List Bool) (R : List (List Nat)) (es : List Nat) : Prop where
  sg : strSigns g = true
  ok : RowsOk g.length R
  few : R.length ≤ 13
  le : L.length ≤ R.length
  least : Least g.length L LA (langOf R (endsA R.length es))
theorem Told.okM {g : Str} {L : List (List Nat)} {LA : List Bool} {R : List (List Nat)} {es : List Nat} (h : Told g L LA R es) : OkM g L LA := h.least.okM h.sg (by have := h.le; have := h.few; omega)
theorem Told.pos {g : Str} {L : List (List Nat)} {LA : List Bool} {R : List (List Nat)} {es : List Nat} (h : Told g L LA R es) : 0 < L.length := (h.least.rowsOk h.sg (by have := h.le; have := h.few; omega)).pos
theorem Told.lang {g : Str} {L : List (List Nat)} {LA : List Bool} {R : List (List Nat)} {es : List Nat} (h : Told g L LA R es) {u : List Nat} (hu : Mc.Wd g.length u) : langOf L LA u = langOf R (endsA R.length es) u := (mk_lang hu).symm.trans (h.least.lang_ u hu)
def firstD (g : Str) : Option (List Nat) → PyData
  | none => .none
  | some u => .str (lineS g u)
theorem first_dd {l : List Addr} {H : Hp} {g : Str} (r : Option (List Nat)) : DD [] l H (firstV g r) (firstD g r) := by
  cases r with
  | none => exact .non
  | some u => exact .str _
theorem sg_ascii {g : Str} (hg : strSigns g = true) {a : Nat} (h : a < g.length) : sg g a < 128 := strSigns_ascii hg _ (List.mem_of_getElem? (sg_at h))
theorem first_shw {g : Str} {r : Option (List Nat)} (hg : strSigns g = true) (hd : ∀ u, r = some u → Mc.Wd g.length u ∧ u.length ≤ 1600) : ShwZ 0 1600 (firstD g r) := by
  cases r with
  | none => exact ShwZ.none
  | some u =>
    obtain ⟨h1, h2⟩ := hd u rfl
    refine ShwZ.str (fun c hc => ?_) (by rw [lineS_len]; exact h2)
    rw [show (lineS g u).cps.toList = u.map (sg g) from sOf_list] at hc
    obtain ⟨a, ha, rfl⟩ := List.mem_map.mp hc
    exact sg_ascii hg (h1 a ha)
theorem shw_rp {n w : Nat} {d : PyData} (h : ShwZ n w d) (hn : n ≤ 64) (hw : w ≤ 300000) : d.showable = true ∧ d.depth ≤ 64 ∧ d.shown.length ≤ sizeLine := by
  have := h.len
  exact ⟨h.s, Nat.le_trans h.dep hn, by rw [sizeLine_eq]; omega⟩
def prN : List Str := ["alpha", "first", "second", "here", "there", "unlike", "out", "begin", "told"]
theorem scPr : FnScope prN ["alpha", "first", "second", "here", "there"] (defScope (top 59)) := ⟨rfl, rfl, rfl, by decide +kernel, rfl, by decide +kernel, by decide +kernel⟩
section
variable {P : Program} {w : World} {K : PySem.W.Frag} {mg : Str → Option Value} {base : Heap} {CM : Addr}
def spPair (CM : Addr) (T : List (Addr × Str)) : Sp := fun vs H Q _ => ∃ (g : Str) (t1 t2 o1 o2 : Addr) (R R' : List (List Nat)) (es es' : List Nat) (L L' : List (List Nat)) (LA LA' : List Bool), vs = [.str g, .ref t1, .ref t2, .ref o1, .ref o2] ∧ ModAt [] H t1 R es ∧ ModAt [] H t2 R' es' ∧ IsMach CM g L LA H o1 ∧ IsMach CM g L' LA' H o2 ∧ Told g L LA R es ∧ Told g L' LA' R' es' ∧ Tabs T H ∧ ∀ H', Ex [] H H' → Tabs T H' → Q (.bl true) H'
theorem d_pair14 {T : List (Addr × Str)} (B : Blt mg base) (CL : ClsM K CM) (D : At K mg "_law_pair_right" (top 59)) (D1 : Def P w K mg base 1 "_law_first" (top 58) ["alpha", "first", "second", "wanted"] spFirstL)
    (MU : MethK P w K mg base 5 CM "unlike_line" "other" (spFp CM T (fun a b => a != b) firstV)) (MW : MethK P w K mg base 5 CM "is_within" "other" (spFp CM T (fun a b => a && !b) fun _ r => .bl r.isNone)) (MF : MethOk P w K mg base 5 CM "first_line" ["self"] (spFp1 CM T))
    (MQ : MethOk P w K mg base 1 CM "__eq__" ["self", "other"] (spEqB (EqM K CM))) (MH : MethOk P w K mg base 2 CM "__contains__" ["self", "value"] (spHas CM)) (hn : PySem.W.findIn K (.ref CM) "__ne__" = some (some (.builtin "object.__ne__"))) (hmr : PySem.W.mroIn K CM (.type "object") = some true) :
    DefG P w K mg base 6 "_law_pair_right" (top 59) ["alpha", "first", "second", "here", "there"] (spPair CM T) := by
  refine defG_of D B scPr (fun vs H Q E ⟨_, _, _, _, _, _, _, _, _, _, _, _, _, e, _⟩ => by rw [e]; rfl) fun f cdv A outer s H vs Q E hm C gd h => ?_
  obtain ⟨g, t1, t2, o1, o2, R, R', es, es', L, L', LA, LA', rfl, m1, m2, hM, hM', to, to', hT, hQ⟩ := h
  have sz : ∀ n, n ≤ 16777216 → n ≤ sizeLine := fun n h => by rw [sizeLine_eq]; exact h
  have hg := to.sg
  -- what the law finds
  refine b_cons (s_set (i := 5) (e_call (C.mono (by decide)) D1 (a_cons (e_name 0 (v := .str g) (a_cons (e_name 1 (v := .ref t1) (a_cons (e_name 2 (v := .ref t2) (a_cons (e_lst (a_cons (e_tup (a_cons (e_bool (a_cons (e_bool (a_nil ?_))))))))))))))) rfl (fun _ _ _ _ _ _ us hl => match us, hl with | [_, _, _, _], _ => rfl)) C.nd)
  refine ⟨sz 2 (by decide), fun u1 hu1 => a_cons (e_tup (a_cons (e_bool (a_cons (e_bool (a_nil ⟨sz 2 (by decide), fun u2 hu2 => a_nil ⟨sz 2 (by decide), fun w1 hw1 => a_nil ?_⟩⟩))))))⟩
  have b1 : But [] H (upd H u1 (.tup [.bl true, .bl false])) := But.new hu1
  have b2 : But [] (upd H u1 (.tup [.bl true, .bl false])) (upd (upd H u1 (.tup [.bl true, .bl false])) u2 (.tup [.bl false, .bl true])) := But.new hu2
  have b3 : But [] (upd (upd H u1 (.tup [.bl true, .bl false])) u2 (.tup [.bl false, .bl true])) (upd (upd (upd H u1 (.tup [.bl true, .bl false])) u2 (.tup [.bl false, .bl true])) w1 (.lst [.ref u1, .ref u2])) := But.new hw1
  have dw : DD [] [] (upd (upd (upd H u1 (.tup [.bl true, .bl false])) u2 (.tup [.bl false, .bl true])) w1 (.lst [.ref u1, .ref u2])) (.ref w1) (.list ([(true, false), (false, true)].map bb)) :=
    .lst (.inl (.inl upd_same)) (by simp) (.cons (.tup (.inl (.inl (b3 _ _ (by simp) (b2 _ _ (by simp) upd_same)))) (by simp) (.cons (.bl _) (.cons (.bl _) .nil))) (.cons (.tup (.inl (.inl (b3 _ _ (by simp) upd_same))) (by simp) (.cons (.bl _) (.cons (.bl _) .nil))) .nil))
  have b13 := b1.trans (b2.trans b3)
  generalize upd (upd (upd H u1 (.tup [.bl true, .bl false])) u2 (.tup [.bl false, .bl true])) w1 (.lst [.ref u1, .ref u2]) = H1 at dw b13 ⊢
  clear b1 b2 b3 hu1 hu2 hw1
  refine ⟨g, t1, t2, w1, R, R', es, es', _, rfl, hg, m1.but b13, m2.but b13, to.ok, to'.ok, by have := to.few; omega, by have := to'.few; omega, dw, fun r1 H2 c2 f1 l1 => ?_⟩
  have k2 := b13.trans c2
  clear dw b13 c2
  refine b_cons (s_set (i := 6) (e_call (C.mono (by decide)) D1 (a_cons (e_name 0 (v := .str g) (a_cons (e_name 1 (v := .ref t1) (a_cons (e_name 2 (v := .ref t2) (a_cons (e_lst (a_cons (e_tup (a_cons (e_bool (a_cons (e_bool (a_nil ?_))))))))))))))) rfl (fun _ _ _ _ _ _ us hl => match us, hl with | [_, _, _, _], _ => rfl)) C.nd)
  refine ⟨sz 2 (by decide), fun u1 hu1 => a_nil ⟨sz 1 (by decide), fun w1 hw1 => a_nil ?_⟩⟩
  have b1 : But [] H2 (upd H2 u1 (.tup [.bl true, .bl false])) := But.new hu1
  have b3 : But [] (upd H2 u1 (.tup [.bl true, .bl false])) (upd (upd H2 u1 (.tup [.bl true, .bl false])) w1 (.lst [.ref u1])) := But.new hw1
  have dw : DD [] [] (upd (upd H2 u1 (.tup [.bl true, .bl false])) w1 (.lst [.ref u1])) (.ref w1) (.list ([(true, false)].map bb)) :=
    .lst (.inl (.inl upd_same)) (by simp) (.cons (.tup (.inl (.inl (b3 _ _ (by simp) upd_same))) (by simp) (.cons (.bl _) (.cons (.bl _) .nil))) .nil)
  have b13 := b1.trans b3
  generalize upd (upd H2 u1 (.tup [.bl true, .bl false])) w1 (.lst [.ref u1]) = H3 at dw b13 ⊢
  have k3 := k2.trans b13
  clear b1 b3 hu1 hw1
  refine ⟨g, t1, t2, w1, R, R', es, es', _, rfl, hg, m1.but k3, m2.but k3, to.ok, to'.ok, by have := to.few; omega, by have := to'.few; omega, dw, fun r2 H4 c4 f2 l2 => ?_⟩
  have k4 := k3.trans c4
  clear dw b13 c4 k3
  refine b_cons (s_set (i := 7) (e_call (C.mono (by decide)) D1 (a_cons (e_name 0 (v := .str g) (a_cons (e_name 1 (v := .ref t1) (a_cons (e_name 1 (v := .ref t1) (a_cons (e_lst (a_cons (e_tup (a_cons (e_bool (a_cons (e_bool (a_nil ?_))))))))))))))) rfl (fun _ _ _ _ _ _ us hl => match us, hl with | [_, _, _, _], _ => rfl)) C.nd)
  refine ⟨sz 2 (by decide), fun u1 hu1 => a_nil ⟨sz 1 (by decide), fun w1 hw1 => a_nil ?_⟩⟩
  have b1 : But [] H4 (upd H4 u1 (.tup [.bl true, .bl true])) := But.new hu1
  have b3 : But [] (upd H4 u1 (.tup [.bl true, .bl true])) (upd (upd H4 u1 (.tup [.bl true, .bl true])) w1 (.lst [.ref u1])) := But.new hw1
  have dw : DD [] [] (upd (upd H4 u1 (.tup [.bl true, .bl true])) w1 (.lst [.ref u1])) (.ref w1) (.list ([(true, true)].map bb)) :=
    .lst (.inl (.inl upd_same)) (by simp) (.cons (.tup (.inl (.inl (b3 _ _ (by simp) upd_same))) (by simp) (.cons (.bl _) (.cons (.bl _) .nil))) .nil)
  have b13 := b1.trans b3
  generalize upd (upd H4 u1 (.tup [.bl true, .bl true])) w1 (.lst [.ref u1]) = H5 at dw b13 ⊢
  have k5 := k4.trans b13
  clear b1 b3 hu1 hw1
  refine ⟨g, t1, t1, w1, R, R, es, es, _, rfl, hg, m1.but k5, m1.but k5, to.ok, to.ok, by have := to.few; omega, by have := to.few; omega, dw, fun r3 H6 c6 f3 l3 => ?_⟩
  have k6 := k5.trans c6
  clear dw b13 c6 k5 k4 k2 m1 m2
  -- what the machines tell
  have x6 : Ex [] H H6 := k6.ex
  have hM6 := hM.but k6
  have hM6' := hM'.but k6
  have T6 := tabs_new hT k6
  clear k6
  show wB _ _ _ [some (.str g), some (.ref t1), some (.ref t2), some (.ref o1), some (.ref o2), some (firstV g r1), some (firstV g r2), some (firstV g r3), none] H6
  have eU : ∀ {r}, Fst.IsFirst g.length (fun u => (langOf L LA u != langOf L' LA' u) = true) r → r = r1 := fun h => h.eq f1 fun u hu => by
    rw [to.lang hu, to'.lang hu]
    cases langOf R (endsA R.length es) u <;> cases langOf R' (endsA R'.length es') u <;> simp
  have eW : ∀ {r}, Fst.IsFirst g.length (fun u => (langOf L LA u && !langOf L' LA' u) = true) r → r = r2 := fun h => h.eq f2 fun u hu => by
    rw [to.lang hu, to'.lang hu]
    cases langOf R (endsA R.length es) u <;> cases langOf R' (endsA R'.length es') u <;> simp
  have eF : ∀ {r}, Fst.IsFirst g.length (fun u => langOf L LA u = true) r → r = r3 := fun h => h.eq f3 fun u hu => by
    rw [to.lang hu]
    cases langOf R (endsA R.length es) u <;> simp
  have wd1 : ∀ u, r1 = some u → Mc.Wd g.length u ∧ u.length ≤ 1600 := fun u e => ⟨by rw [e] at f1; exact f1.1, l1 u e⟩
  have wd3 : ∀ u, r3 = some u → Mc.Wd g.length u ∧ u.length ≤ 1600 := fun u e => ⟨by rw [e] at f3; exact f3.1, l3 u e⟩
  obtain ⟨dx, rq0, bq0, i1, _, _⟩ := id hM6.ex
  obtain ⟨dx', rq0', bq0', i1', _, _⟩ := id hM6'.ex
  refine b_cons (s_set (i := 8) (e_lst (a_cons (e_meth C CL.c MU.ok (e_name 3 (v := .ref o1) ⟨rfl, i1, rfl, a_cons (e_name 4 (v := .ref o2) (a_nil ?_))⟩)))) C.nd)
  refine ⟨o1, o2, g, L, L', LA, LA', rfl, hM6, hM6', to.okM, to'.okM, to.pos, to'.pos, T6, fun ra H7 x7 T7 fa _ => ?_⟩
  rw [eU fa]
  have hM7 := hM6.exL x7 (by simp)
  have hM7' := hM6'.exL x7 (by simp)
  obtain ⟨dx7, rq7, bq7, i7, _, _⟩ := id hM7.ex
  refine a_cons (e_methK C CL.c MU (e_name 3 (v := .ref o1) ⟨o1, dx7, _, rfl, i7, rfl, e_name 4 (v := .ref o2) ?_⟩))
  refine ⟨o1, o2, g, L, L', LA, LA', rfl, hM7, hM7', to.okM, to'.okM, to.pos, to'.pos, T7, fun rb H8 x8 T8 fb _ => ?_⟩
  rw [eU fb]
  have hM8 := hM7.exL x8 (by simp)
  have hM8' := hM7'.exL x8 (by simp)
  obtain ⟨dx8, rq8, bq8, i8, _, _⟩ := id hM8.ex
  refine a_cons (e_meth0 C CL.c MF (e_name 3 (v := .ref o1) ⟨rfl, i8, rfl, ?_⟩))
  refine ⟨o1, g, L, LA, rfl, hM8, to.okM, to.pos, T8, fun rc H9 x9 T9 fc _ => ?_⟩
  rw [eF fc]
  refine a_nil ⟨sz 3 (by decide), fun tq htq => ?_⟩
  have x69 : Ex [] H H9 := x6.trans (x7.trans (x8.trans x9))
  have hM9 := hM8.exL x9 (by simp)
  have hM9' := hM8'.exL x9 (by simp)
  have bt : But [] H9 (upd H9 tq (.lst [firstV g r1, firstV g r1, firstV g r3])) := But.new htq
  have dt : DD [] [] (upd H9 tq (.lst [firstV g r1, firstV g r1, firstV g r3])) (.ref tq) (.list [firstD g r1, firstD g r1, firstD g r3]) := .lst (.inl (.inl upd_same)) (by simp) (.cons (first_dd _) (.cons (first_dd _) (.cons (first_dd _) .nil)))
  have xA : Ex [] H (upd H9 tq (.lst [firstV g r1, firstV g r1, firstV g r3])) := x69.trans bt.ex
  have hMA := hM9.but bt
  have hMA' := hM9'.but bt
  have TA := tabs_new T9 bt
  show wB _ _ _ [some (.str g), some (.ref t1), some (.ref t2), some (.ref o1), some (.ref o2), some (firstV g r1), some (firstV g r2), some (firstV g r3), some (.ref tq)] (upd H9 tq (.lst [firstV g r1, firstV g r1, firstV g r3]))
  generalize upd H9 tq (.lst [firstV g r1, firstV g r1, firstV g r3]) = HA at dt xA hMA hMA' TA ⊢
  clear hM6 hM6' hM7 hM7' hM8 hM8' hM9 hM9' T6 T7 T8 T9 x6 x7 x8 x9 x69 i1 i1' i7 i8 fa fb fc bt htq
  have sh : ShwZ 1 (3 * 1601) (.list [firstD g r1, firstD g r1, firstD g r3]) := ShwZ.list 3 (fun d hd => by
    simp only [List.mem_cons, List.not_mem_nil, or_false] at hd
    rcases hd with rfl | rfl | rfl
    · exact first_shw hg wd1
    · exact first_shw hg wd1
    · exact first_shw hg wd3) (by simp)
  obtain ⟨p1, p2, p3⟩ := shw_rp sh (by decide) (by decide)
  refine b_cons (s_ifB false ?_ (fun e => by cases e) (fun _ HB bB => b_nil ?_))
  · refine t_cmp (e_repr B gd C.un (e_name 8 (v := .ref tq) ⟨[], _, dt.all, p1, p2, p3, ?_⟩))
    refine e_repr B gd C.un (e_lst (a_cons (e_name 5 (v := firstV g r1) (a_cons (e_name 5 (v := firstV g r1) (a_cons (e_name 7 (v := firstV g r3) (a_nil ⟨sz 3 (by decide), fun zq hzq => ?_⟩))))))))
    refine ⟨[], .list [firstD g r1, firstD g r1, firstD g r3], .lst (.inl (.inl upd_same)) (by simp) (.cons (first_dd _).all (.cons (first_dd _).all (.cons (first_dd _).all .nil))), p1, p2, p3, c_ne rfl ⟨_, rfl, by simp, But.new hzq⟩⟩
  have hMB := hMA.but bB
  have hMB' := hMA'.but bB
  have TB' := tabs_new TA bB
  have xB := xA.trans bB.ex
  clear hMA hMA' TA xA dt bB sh p1 p2 p3
  -- is_within, ==, !=
  obtain ⟨dx, rq0, bq0, i1, _, _⟩ := id hMB.ex
  refine b_cons (s_set (i := 8) (e_lst (a_cons (e_meth C CL.c MW.ok (e_name 3 (v := .ref o1) ⟨rfl, i1, rfl, a_cons (e_name 4 (v := .ref o2) (a_nil ?_))⟩)))) C.nd)
  refine ⟨o1, o2, g, L, L', LA, LA', rfl, hMB, hMB', to.okM, to'.okM, to.pos, to'.pos, TB', fun rd H7 x7 T7 fa _ => ?_⟩
  rw [eW fa]
  have hM7 := hMB.exL x7 (by simp)
  have hM7' := hMB'.exL x7 (by simp)
  obtain ⟨dx7, rq7, bq7, i7, _, _⟩ := id hM7.ex
  refine a_cons (e_methK C CL.c MW (e_name 3 (v := .ref o1) ⟨o1, dx7, _, rfl, i7, rfl, e_name 4 (v := .ref o2) ?_⟩))
  refine ⟨o1, o2, g, L, L', LA, LA', rfl, hM7, hM7', to.okM, to'.okM, to.pos, to'.pos, T7, fun re H8 x8 T8 fb _ => ?_⟩
  rw [eW fb]
  have hM8 := hM7.exL x8 (by simp)
  have hM8' := hM7'.exL x8 (by simp)
  obtain ⟨dx8, rq8, bq8, i8, _, _⟩ := id hM8.ex
  obtain ⟨dx8', rq8', bq8', i8', _, _⟩ := id hM8'.ex
  have eqR : ∀ {H : Hp}, IsMach CM g L LA H o1 → IsMach CM g L' LA' H o2 → EqM K CM (.ref o1) (.ref o2) (decide (g = g ∧ L = L' ∧ LA = LA')) H := fun h1 h2 => ⟨o1, g, L, LA, rfl, h1, .inl ⟨o2, g, L', LA', rfl, h2, rfl⟩⟩
  have eqN : decide (g = g ∧ L = L' ∧ LA = LA') = r1.isNone := by
    cases r1 with
    | none =>
      refine decide_eq_true ?_
      have hl : ∀ u, Mc.Wd g.length u → langOf R (endsA R.length es) u = langOf R' (endsA R'.length es') u := fun u hu => by
        have h1 : ¬ decide ((langOf R (endsA R.length es) u, langOf R' (endsA R'.length es') u) ∈ [(true, false), (false, true)]) = true := f1 u hu
        revert h1
        cases langOf R (endsA R.length es) u <;> cases langOf R' (endsA R'.length es') u <;> simp
      obtain ⟨a, b⟩ := to.least.eq to'.least hl
      exact ⟨rfl, a, b⟩
    | some u =>
      refine decide_eq_false ?_
      rintro ⟨_, rfl, rfl⟩
      have h1 : decide ((langOf R (endsA R.length es) u, langOf R' (endsA R'.length es') u) ∈ [(true, false), (false, true)]) = true := f1.2.1
      rw [← to.lang f1.1, ← to'.lang f1.1] at h1
      revert h1
      cases langOf L LA u <;> simp
  refine a_cons (e_cmp (e_name 3 (v := .ref o1) (e_name 4 (v := .ref o2) (c_eqOO (C.mono (by decide)) MQ i8 i8' (eqR hM8 hM8') fun H9 b9 => ?_))))
  refine a_cons (e_cmp (e_name 3 (v := .ref o1) (e_name 4 (v := .ref o2) (c_neOO (C.mono (by decide)) MQ hn hmr (b9 _ _ (by simp) i8) (b9 _ _ (by simp) i8') (eqR (hM8.but b9) (hM8'.but b9)) fun HA bA => ?_))))
  rw [eqN]
  refine a_nil ⟨sz 4 (by decide), fun uq huq => ?_⟩
  have bu : But [] HA (upd HA uq (.lst [.bl r2.isNone, .bl r2.isNone, .bl r1.isNone, .bl (!r1.isNone)])) := But.new huq
  have b9u := b9.trans (bA.trans bu)
  have du : DD [] [] (upd HA uq (.lst [.bl r2.isNone, .bl r2.isNone, .bl r1.isNone, .bl (!r1.isNone)])) (.ref uq) (.list [.bool r2.isNone, .bool r2.isNone, .bool r1.isNone, .bool (!r1.isNone)]) := .lst (.inl (.inl upd_same)) (by simp) (.cons (.bl _) (.cons (.bl _) (.cons (.bl _) (.cons (.bl _) .nil))))
  have hMC := hM8.but b9u
  have hMC' := hM8'.but b9u
  have TC := tabs_new T8 b9u
  have xC := (xB.trans (x7.trans x8)).trans b9u.ex
  show wB _ _ _ [some (.str g), some (.ref t1), some (.ref t2), some (.ref o1), some (.ref o2), some (firstV g r1), some (firstV g r2), some (firstV g r3), some (.ref uq)] (upd HA uq (.lst [.bl r2.isNone, .bl r2.isNone, .bl r1.isNone, .bl (!r1.isNone)]))
  generalize upd HA uq (.lst [.bl r2.isNone, .bl r2.isNone, .bl r1.isNone, .bl (!r1.isNone)]) = HC at du hMC hMC' TC xC ⊢
  clear hM7 hM7' hM8 hM8' hMB hMB' T7 T8 TB' x7 x8 xB i1 i7 i8 i8' fa fb bu b9 bA b9u huq
  have sh : ShwZ 1 (4 * 1) (.list [.bool r2.isNone, .bool r2.isNone, .bool r1.isNone, .bool (!r1.isNone)]) := ShwZ.list (n := 0) (w := 0) 4 (fun d hd => by
    simp only [List.mem_cons, List.not_mem_nil, or_false] at hd
    rcases hd with rfl | rfl | rfl | rfl <;> exact ShwZ.bool) (by simp)
  obtain ⟨p1, p2, p3⟩ := shw_rp sh (by decide) (by decide)
  refine b_cons (s_ifB false ?_ (fun e => by cases e) (fun _ HD bD => b_nil ?_))
  · refine t_cmp (e_repr B gd C.un (e_name 8 (v := .ref uq) ⟨[], _, du.all, p1, p2, p3, ?_⟩))
    refine e_repr B gd C.un (e_lst (a_cons (e_cmp (e_name 6 (v := firstV g r2) (e_none (c_isN (a_cons (e_cmp (e_name 6 (v := firstV g r2) (e_none (c_isN (a_cons (e_cmp (e_name 5 (v := firstV g r1) (e_none (c_isN (a_cons (e_cmp (e_name 5 (v := firstV g r1) (e_none (c_notN (a_nil ⟨sz 4 (by decide), fun zq hzq => ?_⟩))))))))))))))))))))))
    rw [firstV_non, firstV_non]
    refine ⟨[], .list [.bool r2.isNone, .bool r2.isNone, .bool r1.isNone, .bool (!r1.isNone)], .lst (.inl (.inl upd_same)) (by simp) (.cons (.bl _) (.cons (.bl _) (.cons (.bl _) (.cons (.bl _) .nil)))), p1, p2, p3, c_ne rfl ⟨_, rfl, by simp, But.new hzq⟩⟩
  have hMD := hMC.but bD
  have hMD' := hMC'.but bD
  have TD := tabs_new TC bD
  have xD := xC.trans bD.ex
  clear hMC hMC' TC xC du bD sh p1 p2 p3
  obtain ⟨dx, rq0, bq0, i1, _, _⟩ := id hMD.ex
  obtain ⟨dx', rq0', bq0', i1', _, _⟩ := id hMD'.ex
  refine b_cons (s_ifB false ?_ (fun e => by cases e) (fun _ HE bE => b_nil ?_))
  · refine t_boolop (w_and (t_cmp (e_name 5 (v := firstV g r1) (e_none (c_notN ⟨_, rfl, ite_b (fun e => ?_) fun e => ⟨rfl, But.refl⟩⟩)))))
    rw [firstV_non] at e
    obtain ⟨u, rfl⟩ : ∃ u, r1 = some u := by
      cases r1 with
      | none => cases e
      | some u => exact ⟨u, rfl⟩
    obtain ⟨hud, hul⟩ := wd1 u rfl
    refine w_and1 (t_cmp (e_cmp (e_name 5 (v := .str (lineS g u)) (e_name 3 (v := .ref o1) (c_inO (C.mono (by decide)) MH i1 ⟨o1, g, L, LA, u, rfl, hMD, to.okM, to.pos, hud, by omega, fun HE bE => ⟨_, rfl, ?_⟩⟩)))))
    refine e_cmp (e_name 5 (v := .str (lineS g u)) (e_name 4 (v := .ref o2) (c_inO (C.mono (by decide)) MH (bE _ _ (by simp) i1') ⟨o2, g, L', LA', u, rfl, hMD'.but bE, to'.okM, to'.pos, hud, by omega, fun HF bF => ⟨_, rfl, c_eq rfl ⟨_, rfl, ?_, bE.trans bF⟩⟩⟩)))
    have h1 : decide ((langOf R (endsA R.length es) u, langOf R' (endsA R'.length es') u) ∈ [(true, false), (false, true)]) = true := f1.2.1
    rw [← to.lang hud, ← to'.lang hud] at h1
    revert h1
    cases langOf L LA u <;> cases langOf L' LA' u <;> simp
  have hME := hMD.but bE
  have TE' := tabs_new TD bE
  have xE := xD.trans bE.ex
  obtain ⟨dx, rq0, bq0, i2, _, _⟩ := id hME.ex
  refine b_cons (s_ret (e_or (e_cmp (e_name 7 (v := firstV g r3) (e_none (c_isN ⟨_, rfl, ite_b (fun e => hQ HE xE TE') fun e => ?_⟩))))))
  rw [firstV_non] at e
  obtain ⟨u, rfl⟩ : ∃ u, r3 = some u := by
    cases r3 with
    | none => cases e
    | some u => exact ⟨u, rfl⟩
  obtain ⟨hud, hul⟩ := wd3 u rfl
  refine e_one (e_cmp (e_name 7 (v := .str (lineS g u)) (e_name 3 (v := .ref o1) (c_inO (C.mono (by decide)) MH i2 ⟨o1, g, L, LA, u, rfl, hME, to.okM, to.pos, hud, by omega, fun HF bF => ⟨_, rfl, ?_⟩⟩))))
  have h1 : decide ((langOf R (endsA R.length es) u, langOf R (endsA R.length es) u) ∈ [(true, true)]) = true := f3.2.1
  rw [← to.lang hud] at h1
  have : langOf L LA u = true := by
    revert h1
    cases langOf L LA u <;> simp
  rw [this]
  exact hQ HF (xE.trans bF.ex) (tabs_new TE' bF)
end
end K14

set_option Elab.async false
set_option linter.all false
set_option maxRecDepth 100000
set_option maxHeartbeats 4000000
/-! repr of a list that holds instances with an own __repr__ -/
namespace Z
open PySem PySem.Spec PyProof.Rows L2
/-- the lists at l are being shown, and no other -/
def GdC (l : List Addr) (A : Around) : Prop := ∃ g, A.guards = some g ∧ ∀ b, b ∉ l → Clear g b
theorem GdC.of {A : Around} (h : A.guards = some []) : GdC [] A := ⟨[], h, fun b _ => Clear.nil b⟩
/-- they hold instances -/
def Nod (l : List Addr) (H : Hp) : Prop := ∀ q ∈ l, ∃ (ys : List V) (o C dx : Addr) (fs : List (Str × V)), H q = some (.lst ys) ∧ V.ref o ∈ ys ∧ H o = some (.ins C dx fs)
theorem Nod.nil {H : Hp} : Nod [] H := fun _ h => nomatch h
theorem Nod.but {l : List Addr} {H H' : Hp} (h : Nod l H) (b : But [] H H') : Nod l H' := fun q hq => by
  obtain ⟨ys, o, C, dx, fs, h1, h2, h3⟩ := h q hq
  exact ⟨ys, o, C, dx, fs, b _ _ (by simp) h1, h2, b _ _ (by simp) h3⟩
theorem reads_mem {h : Heap} {v : Value} : ∀ {vs : List Value} {ds : List PyData} {as : List Addr}, ReadsAll h vs ds as → v ∈ vs → ∃ d as', Reads h v d as'
  | _, _, _, .nil, hv => nomatch hv
  | _, _, _, .cons r rs, hv => by
    rcases List.mem_cons.mp hv with rfl | hv
    · exact ⟨_, _, r⟩
    · exact reads_mem rs hv
theorem vals_mem : ∀ {xs : List V} {us : List Value} {x : V}, Vals xs us → x ∈ xs → ∃ u ∈ us, RelV x u
  | _, _, _, .nil, h => nomatch h
  | _, _, _, .cons r rs, h => by
    rcases List.mem_cons.mp h with rfl | h
    · exact ⟨_, List.mem_cons_self .., r⟩
    · obtain ⟨u, hu, ru⟩ := vals_mem rs h
      exact ⟨u, List.mem_cons_of_mem _ hu, ru⟩
/-- what holds an instance is no datum -/
theorem Nod.reads {X : Cx} {pins : List (Addr × Obj)} {σ : L2.St} {H : Hp} {s : Shared} {l : List Addr} (h : Nod l H) (I : Inv X pins σ H s) {q : Addr} (hq : q ∈ l) {d : PyData} {as : List Addr} (r : Reads s.heap (.ref q) d as) : False := by
  obtain ⟨ys, o, C, dx, fs, h1, h2, h3⟩ := h q hq
  obtain ⟨its, rv, ⟨ob, n, e1, e2, _, e3⟩, _⟩ := I.list (show SqL X.K H q ys from .inl (.inl h1))
  obtain ⟨u, hu, ru⟩ := vals_mem rv h2
  obtain rfl : u = Value.ref o := ru
  obtain ⟨mA, O, _⟩ := ins_get I.hok h3
  have eo := O.obj
  have noR : ∀ {d : PyData} {as : List Addr}, ¬ Reads s.heap (.ref o) d as := fun {d as} r => by
    cases r with
    | list g1 g2 _ _ => rw [eo] at g1; cases g1; cases g2
    | tuple g1 g2 _ _ => rw [eo] at g1; cases g1; cases g2
    | dict g1 g2 _ _ _ => rw [eo] at g1; cases g1; cases g2
  cases r with
  | list g1 g2 g3 g4 =>
    rw [e1] at g1
    cases g1
    rw [e3] at g3
    cases g3
    obtain ⟨d', as', r'⟩ := reads_mem g4 (by simpa using hu)
    exact noR r'
  | tuple g1 g2 _ _ => rw [e1] at g1; cases g1; rw [e2] at g2; exact absurd (Value.type.inj g2) (by decide)
  | dict g1 g2 _ _ _ => rw [e1] at g1; cases g1; rw [e2] at g2; exact absurd (Value.type.inj g2) (by decide)
theorem Nod.clear {X : Cx} {pins : List (Addr × Obj)} {σ : L2.St} {H : Hp} {s : Shared} {l : List Addr} {g : List Code} (h : Nod l H) (I : Inv X pins σ H s) (hc : ∀ b, b ∉ l → Clear g b) {n : Nat} {bs : List Addr} (hb : ReadAtMost s.heap n bs) : ∀ b ∈ bs, Clear g b := fun b hm => by
  obtain ⟨d, as, r, _⟩ := hb b hm
  exact hc b fun hl => h.reads I hl r
section
variable {X : Cx} {σ : L2.St} {H : Hp} {e : Expr} {pos : Pos} {Q : VK}
/-- a list of data is shown while other lists are being shown -/
theorem objRepr_list {pins : List (Addr × Obj)} {s : Shared} {l : List Addr} {m : List Addr} {q : Addr} {ds : List PyData} {A : Around} {E : Value → Shared → Prop} {Q : Value → Shared → Prop} (Y : SysFree X) (hg : GdC l A) (hn : Nod l H) (hu : A.units + 66 < cLine) (I : Inv X pins σ H s) (hd : DD X.K m H (.ref q) (.list ds)) (hr : rp (.list ds) = true)
    (hQ : ∀ h' u tk, (∀ b o, s.heap.get? b = some o → h'.get? b = some o) → Q (.str (PyData.list ds).shown u) { s with heap := h', toks := tk }) : wpAny (model X.prog X.w) A (pyReprObj (.ref q)) Q E s := by
  obtain ⟨hs, hdp, hz⟩ := rp_len hr
  obtain ⟨as, r, na⟩ := DD.reads Y I hd (show RelV (.ref q) (.ref q) from rfl)
  obtain ⟨g, hg1, hg2⟩ := hg
  have r0 := r
  cases r with
  | @list a o vs n xs as h1 h2 h3 h4 =>
    have hz' : (listText (PyData.shownAll ds)).length ≤ sizeLine := by simpa only [PyData.shown] using hz
    obtain ⟨bs, hb, hk⟩ := ReprAllK.of_readsAll (prog := X.prog) (w := X.w) h4 (by simpa [PyData.showable] using hs) (fun hx hm => na (List.mem_cons_of_mem _ hm)) (fun t ht => Nat.le_trans (listText_mem_le ht) hz')
    have hna : q ∉ bs := not_mem_of_deeper r0 (by simp only [PyData.depth]; omega) hb
    have hdp : PyData.depthAll ds + 1 ≤ 64 := by simpa only [PyData.depth] using hdp
    have cl : ∀ b ∈ q :: bs, Clear g b := fun b hm => by
      rcases List.mem_cons.mp hm with rfl | hm
      · exact hg2 b fun hl => hn.reads I hl r0
      · exact hn.clear I hg2 hb b hm
    simp only [PyData.shown] at hQ
    obtain ⟨l0⟩ := vs
    cases l0 with
    | nil =>
      have h4' : ReadsAll s.heap [] ds _ := h4
      cases h4'
      simp only [PyData.shownAll, listText_nil] at hQ
      refine wpAny_pyReprObj_slot (by omega) ⟨o, h1, h2⟩ F.slot_list_repr.toG ?_
      exact call_list_repr_empty ⟨o, h1, h2⟩ h1 h3 ⟨_, _, rfl, hQ s.heap _ _ fun _ _ e => e⟩
    | cons x l1 =>
      exact wpAny_pyReprObj_listK h1 h2 h3 hna (by simpa using hk.length_eq) (fun i y e => hk.item i y (by simpa using e)) hg1 cl (by omega) (fun _ _ e => e) hQ hz'
/-- {x!r}: a list of data, while lists are being shown -/
theorem e_fmtRC {l : List Addr} (B : Blt X.mg X.base) (hg : GdC l X.A) (hu : X.A.units + 66 < cLine) (h : wE X e σ H fun x H1 => ∃ m ds q, x = .ref q ∧ DD X.K m H1 x (.list ds) ∧ rp (.list ds) = true ∧ Nod l H1 ∧ Q (.str (PyData.list ds).shown) H1) : wE X (.FormattedValue e 114 none pos) σ H Q := by
  refine ⟨fun pins s I => ?_⟩
  refine wpAny_FormattedValue_repr (thn (h.run pins s I) fun v s1 hv => ?_)
  obtain ⟨x, H1, I1, r1, m, ds, q0, rfl, hd, hr, hn, q⟩ := hv
  obtain rfl : v = Value.ref q0 := r1
  refine objRepr_list B.sys hg hn hu I1 hd hr (fun h' u tk k => ?_)
  exact wpAny_formatField_str ⟨.str _, H1, I1.kept k, ⟨_, rfl⟩, q⟩ ⟨.str _, H1, (I1.kept (t' := tk) k).tok _, ⟨_, rfl⟩, q⟩ (rp_len hr).2.2
end
/-! ### the promise of an own __repr__ -/
structure GFnC (P : Program) (w : World) (K : PySem.W.Frag) (mg : Str → Option Value) (base : Heap) (k : Nat) (f : Addr) (fd : FuncData) (ps : List Str) (sp : Sp) : Prop where
  len : ∀ vs H Q E, sp vs H Q E → vs.length = ps.length
  run : ∀ (A : Around) (outer : List Env) (s : Shared) (H : Hp) (args : Args) (us : List Value) (vs : List V) (Q : VK) (E : XK) (l : List Addr), Room k A → GdC l A → Nod l H → Env0 P w K mg base A outer s H → BindsTo s fd args (ps.zip us) → Vals vs us → sp vs H Q E →
    codeAny (model P w) A (.call (.ref f) args) (CR (L2.CX P w) outer P w H s Q E) s
structure MethC (P : Program) (w : World) (K : PySem.W.Frag) (mg : Str → Option Value) (base : Heap) (k : Nat) (C : Addr) (m : Str) (ps : List Str) (sp : Sp) : Prop where
  ex : ∃ f fd, Meth K C m f ∧ GFnC P w K mg base k f fd ps sp ∧ Binds K fd ps []
section
variable {P : Program} {w : World} {K : PySem.W.Frag} {mg : Str → Option Value} {base : Heap}
theorem GFnC.g {k : Nat} {f : Addr} {fd : FuncData} {ps : List Str} {sp : Sp} (F : GFnC P w K mg base k f fd ps sp) : GFn P w K mg base k f fd ps sp := ⟨F.len, fun A outer s H args us vs Q E hr hg => F.run A outer s H args us vs Q E [] hr (GdC.of hg) Nod.nil⟩
theorem MethC.g {k : Nat} {C : Addr} {m : Str} {ps : List Str} {sp : Sp} (M : MethC P w K mg base k C m ps sp) : MethG P w K mg base k C m ps sp := let ⟨f, fd, h1, h2, h3⟩ := M.ex; ⟨f, fd, h1, h2.g, h3⟩
theorem gfnc_body {k : Nat} {x0 x : Str} {st : Stmt} {f : Addr} {oc dV kV doc pm cdv ct : Value} {od an : Option Addr} {osl : Array (Option Value)} {N ps : List Str} {sp : Sp} (B : Blt mg base)
    (lk : K.lookup f = some ⟨oc, od, .func (PySem.W.fnOf x0 x (defArgs st) (defBody st) (defScope st) dV kV doc pm an cdv ct), osl⟩) (hcd : PySem.W.codeIn K cdv x = true)
    (S : FnScope N ps (defScope st)) (len : ∀ vs H Q E, sp vs H Q E → vs.length = ps.length)
    (body : ∀ (A : Around) (outer : List Env) (s : Shared) (H : Hp) (vs : List V) (Q : VK) (E : XK) (l : List Addr), Cxt (bX P w K mg base N x st f cdv A outer s H E) k (fun cls d _ H => E cls d H) → GdC l (bX P w K mg base N x st f cdv A outer s H E).A → Nod l H → sp vs H Q E →
      wB (bX P w K mg base N x st f cdv A outer s H E) (defBody st) { nx := fun _ H' => Q .non H', rt := Q } (start N vs) H) :
    GFnC P w K mg base (k + 1) f (PySem.W.fnOf x0 x (defArgs st) (defBody st) (defScope st) dV kV doc pm an cdv ct) ps sp :=
  ⟨len, fun A outer s H args us vs Q E l hr hg hn e0 hb r hsp => LamX.run_ofS lk hcd S hr e0 hb r (len _ _ _ _ hsp) fun hr' => ⟨wB _ (defBody st), pB, body A outer s H vs Q E l ⟨hr', rfl, S.nd, B, passes_of rfl, takes_of rfl rfl rfl rfl⟩ hg hn hsp⟩⟩
end

/-! ### the list is shown -/
theorem strs_back : ∀ {ts : List Str} {us : List Value}, Vals (ts.map V.str) us → ∃ dn : List (Str × Tok), us = strValues dn ∧ dn.map (·.1) = ts
  | [], _, r => by
    cases r
    exact ⟨[], rfl, rfl⟩
  | t :: ts, _, r => by
    cases r with
    | cons h r =>
      obtain ⟨dn, rfl, e⟩ := strs_back r
      obtain ⟨u, rfl⟩ := h
      exact ⟨(t, u) :: dn, rfl, by rw [List.map_cons, e]⟩
section
variable {X : Cx} {k : Nat} {W : WX} {σ : L2.St} {H : Hp} {e : Expr} {p pos : Pos} {Q : VK} {C : Addr} {sp : Sp} {ps : List Str}
/-- v is an instance that is shown as t wherever the heap stands -/
def ShI (C : Addr) (sp : Sp) (H0 : Hp) (v : V) (t : Str) : Prop := ∃ (o dx : Addr) (fs : List (Str × V)), v = .ref o ∧ H0 o = some (.ins C dx fs) ∧ ∀ H', But [] H0 H' → sp [.ref o] H' (fun v H'' => v = .str t ∧ But [] H' H'') fun _ _ _ => False
theorem gd_under {l : List Addr} {A : Around} {a : Addr} {rest : List Value} (hg : GdC l A) : GdC (a :: l) (A.under (.builtin "list.__repr__.loop" ⟨.ref a :: rest, []⟩)) := by
  obtain ⟨g, h1, h2⟩ := hg
  exact ⟨_, guards_under_guard (isGuard_list_loop _) h1, fun b hb => (h2 b fun z => hb (List.mem_cons_of_mem _ z)).cons (a := a) fun z => hb (by rw [z]; exact List.mem_cons_self ..)⟩
theorem under_depth {A : Around} {args : Args} : (A.under (.builtin "list.__repr__.loop" args)).depth = A.depth + 1 := by
  simp [Around.under, Code.weight, Code.isCreation, Code.isGuard, Code.isCaller, Code.frames, Code.isFrame, guardIds]
theorem room_under {n : Nat} {A : Around} {args : Args} (r : Room (n + 1) A) : Room n (A.under (.builtin "list.__repr__.loop" args)) := by
  refine ⟨r.hd, ?_, ?_⟩
  · have := r.dp
    have e : (A.under (.builtin "list.__repr__.loop" args)).depth = A.depth + 1 := under_depth
    rw [e]
    omega
  · rw [units_under_list_loop]
    have := r.un
    omega
/-- an instance is shown within a list -/
theorem under_ins {pins : List (Addr × Obj)} {s : Shared} {A : Around} {l : List Addr} {b : Nat} {o dx : Addr} {fs : List (Str × V)} {t : Str} {Q' : Str → Shared → Prop} {j : Nat} (Cc : Cxt X k W) (sb : Sub X j A) (hg : GdC l A) (hn : Nod l H) (M : MethC X.prog X.w X.K X.mg X.base j C "__repr__" ps sp) (I : Inv X pins σ H s) (hb : b ≤ sizeLine) (ho : H o = some (.ins C dx fs))
    (hsp : sp [.ref o] H (fun v H' => v = .str t ∧ But [] H H') fun _ _ _ => False) (hQ : ∀ s' H', Inv X pins σ H' s' → But [] H H' → Q' t s') : wpAny (model X.prog X.w) A (pyReprUnder b (.ref o)) Q' X.xe s := by
  obtain ⟨f, fd, hmm, F, hbd⟩ := M.ex
  obtain ⟨mA, J, _⟩ := ins_get I.hok ho
  obtain ⟨od, J, _⟩ := J.look
  refine wpAny_pyReprUnder_ref hb ?_
  unfold pyReprObjUnder pyReprObjBy
  refine wpAny_bind (wpAny_cRoomFor sb.room.units0 ?_)
  refine wpAny_bind (wpAny_bind (J.type.here ((PySem.W.looks_findIn I.kIn hmm.at_).here ?_)))
  show wpAny _ _ (if (some (Value.ref f)).isNone = true then _ else _) _ _ _
  rw [if_neg (by simp)]
  have e0 : Env0 X.prog X.w X.K X.mg X.base A X.stack s H := by
    have e := I.env0
    exact ⟨by rw [sb.fr]; exact e.frames, e.mod, e.bs, e.bsz, e.funs, e.frf, e.hok, e.bare⟩
  have hl := F.len _ _ _ _ hsp
  have cl : wpAny (model X.prog X.w) A (call (.ref f) [.ref o]) (fun v s' => ∃ u, v = .str t u ∧ Q' t s') X.xe s := by
    refine wpAny_call (codeAny_mono (F.run A X.stack s H ⟨[.ref o], []⟩ [.ref o] [.ref o] _ _ l sb.room hg hn e0 (by
      have := hbd s [.ref o] I.kIn (by simpa using hl)
      simpa using this) (.cons rfl .nil) hsp) fun r s' hq => ?_)
    cases r with
    | error e => exact passes0 Cc.tk pins σ H s e s' I hq
    | ok fl =>
      cases fl with
      | ret w =>
        obtain ⟨z, H', I', rz, ez, bb⟩ := I.after hq
        subst ez
        obtain ⟨u, rfl⟩ := rz
        exact ⟨u, rfl, hQ s' H' I' bb⟩
      | next => exact False.elim hq
      | brk => exact False.elim hq
      | cont => exact False.elim hq
  have tw : reprUnder? (.ref f) = none := rfl
  have fin : wpAny (model X.prog X.w) A ((match reprUnder? (.ref f), ([.ref o] : List Value) with
      | some twin, [self] => call twin [self, rawInt b]
      | _, _ => call (.ref f) (([.ref o] : List Value) ++ [])) >>= fun v => pure (some v)) (fun r s' => ∃ u, r = some (.str t u) ∧ Q' t s') X.xe s := by
    show wpAny _ _ (call (.ref f) [.ref o] >>= fun v => pure (some v)) _ _ _
    refine wpAny_bind (wpAny_mono cl (fun v s' ⟨u, ev, q⟩ => wpAny_pure ⟨u, by rw [ev], q⟩) fun _ _ z => z)
  refine wpAny_bind (wpAny_mono (Q := fun r s' => ∃ u, r = some (.str t u) ∧ Q' t s') ?_ (fun r s' ⟨u, er, q⟩ => ?_) fun _ _ z => z)
  · unfold callSpecialIfBoundBy? bindSpecialIfBound?
    refine wpAny_holding (wpAny_bind (wpAny_bind (wpAny_bind (J.type.here ((PySem.W.looks_findIn I.kIn hmm.at_).here ?_)))))
    refine wpAny_bind (wpAny_askSetting (wpAny_ite ?_))
    split
    · exact wpAny_bind ((PySem.W.bind_fn I.kIn _ (beq_iff_eq.mp hmm.fn)).here (wpAny_pure (by exact fin)))
    · exact wpAny_tryCatch (wpAny_bind ((PySem.W.bind_fn I.kIn _ (beq_iff_eq.mp hmm.fn)).here (wpAny_pure (by exact fin))))
  · subst er
    exact wpAny_bind (wpAny_isInstance (T := "str") (b := true) rfl isSubtype_str_str (wpAny_pure ⟨t, u, rfl, q⟩))

theorem under_frames {A : Around} {args : Args} : (A.under (.builtin "list.__repr__.loop" args)).frames = A.frames := by
  first | rfl | simp [Around.under, Code.envs, pushEnvs]
theorem sub_under {n : Nat} {A : Around} {args : Args} (s : Sub X (n + 1) A) : Sub X n (A.under (.builtin "list.__repr__.loop" args)) := ⟨room_under s.room, by rw [under_frames]; exact s.fr⟩
theorem repr_loopI {pins : List (Addr × Obj)} {A : Around} {l : List Addr} {a P : Addr} {xs : List V} {ts : List Str} {H0 : Hp} {j : Nat} {R : Result → Shared → Prop} (Cc : Cxt X k W) (sb : Sub X (j + 1) A) (hg : GdC l A) (M : MethC X.prog X.w X.K X.mg X.base j C "__repr__" ps sp) (hne : a ≠ P) (hlen : ts.length = xs.length) (hsz : (listText ts).length ≤ sizeLine)
    (hnod : ∀ H, But [] H0 H → H a = some (.lst xs) → Nod (a :: l) H) (hT : ∀ (i : Nat) (x : V), xs[i]? = some x → ∃ t, ts[i]? = some t ∧ ShI C sp H0 x t)
    (hE : ∀ e s', X.xe e s' → R (.error e) s') (hR : ∀ s' H' u, Inv X pins σ H' s' → But [] H0 H' → R (.ok (.ret (.str (listText ts) u))) s') (hP0 : H0 P = none) :
    ∀ (n i : Nat) (s : Shared) (H : Hp), xs.length - i = n → i ≤ xs.length → Inv X pins σ H s → But [] H0 H → H a = some (.lst xs) → H P = some (.lst ((ts.take i).map V.str)) →
      codeAny (model X.prog X.w) A (.builtin "list.__repr__.loop" ⟨[.ref a, rawInt i, .ref P, rawInt ((piled (ts.take i) : Nat) : Int)], []⟩) R s := by
  have hX : (listText ts).length = (textFrom 0 "[" ts).length + 1 := by
    show (textFrom 0 "[" ts ++ "]").length = _
    rw [strLen_append]; rfl
  have hL := textFrom_len ts 0 "["
  have h2 : ∀ t ∈ ts, t.length ≤ sizeLine := fun t ht => by have := hL.2.1 t ht; omega
  have h1 : ts.length ≤ sizeLine := by
    have := hL.1
    rw [if_neg (Nat.lt_irrefl 0)] at this
    omega
  have h3 := piled_le_listText ts
  intro n
  induction n with
  | zero =>
    intro i s H hk hi I b0 ha hP
    obtain ⟨its, rv, ⟨oa, na, e1, e2, _, e3⟩, _⟩ := I.list (show SqL X.K H a xs from .inl (.inl ha))
    obtain ⟨itp, rp', ⟨oP, nP, p1, p2, p4, p3⟩, _⟩ := I.list (show SqL X.K H P _ from .inl (.inl hP))
    have il := rv.length
    have hin : i = xs.length := by omega
    refine codeAny_builtin F.entry_list_repr_loop ?_
    show wpAny _ _ (Builtin.«list.__repr__.loop» ⟨[.ref a, .int i 0, .ref P, .int ((piled (ts.take i) : Nat) : Int) 0], []⟩) _ _ s
    rw [repr_loop_tree]
    refine wpAny_bind (wpAny_listItems e1 e3 ?_)
    have hnone : its.toArray[(i : Int).toNat]? = none := by simp; omega
    simp only [hnone]
    unfold reprEnd
    refine wpAny_bind (wpAny_listItems p1 p3 ?_)
    obtain ⟨dn, ed, et⟩ : ∃ dn : List (Str × Tok), itp = strValues dn ∧ dn.map (·.1) = ts.take i := strs_back rp'
    rw [show itp.toArray.toList = strValues dn by rw [ed], PySem.repr_fold]
    refine wpAny_bind (wpAny_pure ?_)
    have hall : dn.map (·.1) = ts := by rw [et, hin, ← hlen, List.take_length]
    rw [hall]
    refine wpAny_bind (wpAny_mkStr (wpAny_pure ?_) hsz)
    exact hR _ H _ (I.tok _) b0
  | succ n ih =>
    intro i s H hk hi I b0 ha hP
    obtain ⟨its, rv, ⟨oa, na, e1, e2, _, e3⟩, _⟩ := I.list (show SqL X.K H a xs from .inl (.inl ha))
    have il := rv.length
    have hlt : i < xs.length := by omega
    obtain ⟨x, hx⟩ : ∃ x, xs[i]? = some x := ⟨_, List.getElem?_eq_getElem hlt⟩
    obtain ⟨u, hu, ru⟩ := rv.get hx
    obtain ⟨t, ht, o, dx, fs, rfl, ho, hsp⟩ := hT i x hx
    obtain rfl : u = Value.ref o := ru
    have htl := h2 t (List.mem_of_getElem? ht)
    have hp1 := piled_take_succ ht
    have hp2 := piled_take_le ts (i + 1)
    refine codeAny_builtin F.entry_list_repr_loop ?_
    show wpAny _ _ (Builtin.«list.__repr__.loop» ⟨[.ref a, .int i 0, .ref P, .int ((piled (ts.take i) : Nat) : Int) 0], []⟩) _ _ s
    rw [repr_loop_tree]
    refine wpAny_bind (wpAny_listItems e1 e3 ?_)
    have hsome : its.toArray[(i : Int).toNat]? = some (Value.ref o) := by simpa using hu
    simp only [hsome]
    rw [Int.toNat_natCast]
    refine wpAny_bind (wpAny_holding (wpAny_mono (under_ins Cc (sub_under sb) (gd_under hg) (hnod H b0 ha) M I (by omega) (b0 _ _ (by simp) ho) (hsp H b0) (Q' := fun z s' => z = t ∧ ∃ H', Inv X pins σ H' s' ∧ But [] H H') fun s' H' I' b' => ⟨rfl, H', I', b'⟩) (fun z s' ⟨ez, H', I', b'⟩ => ?_) fun e s' he => hE e s' he))
    subst ez
    have hP' := b' _ _ (by simp) hP
    have ha' := b' _ _ (by simp) ha
    refine wpAny_bind (wpAny_mkStr ?_ htl)
    refine wpAny_bind ?_
    show wpAny _ _ (updateSeq P _) _ _ _
    obtain ⟨_, itp, n2, rp', pe⟩ := (show ObjOk X.prog X.w H' s'.heap P (.lst ((ts.take i).map V.str)) from I'.hok P _ hP')
    have isz : itp.toArray.size ≤ sizeLine := by
      have := rp'.length
      rw [List.length_map, List.length_take] at this
      rw [List.size_toArray]
      omega
    refine wpAny_updateSeq pe rfl (wpAny_pure ⟨F.quiet_list_repr_loop _, ?_⟩) isz
    have q1 : ((i : Int) + 1) = ((i + 1 : Nat) : Int) := by omega
    have q2 : piled (ts.take i) + (z.length + 2) = piled (ts.take (i + 1)) := by omega
    rw [q1, q2]
    have mu : Mut (H' P) := by rw [hP']; exact True.intro
    have new : ObjOk X.prog X.w (upd H' P (.lst ((ts.take (i + 1)).map V.str))) (s'.heap.update P (Obj.mapSeq (·.push (Value.str z s'.toks)))) P (.lst ((ts.take (i + 1)).map V.str)) := by
      have v2 : Vals ((ts.take (i + 1)).map V.str) (itp ++ [Value.str z s'.toks]) := by
        rw [List.take_add_one, ht, List.map_append]
        exact rp'.append (.cons ⟨_, rfl⟩ .nil)
      have up := Heap.get?_update_self (Obj.mapSeq (·.push (Value.str z s'.toks))) pe rfl
      have ea : (itp ++ [Value.str z s'.toks]).toArray = itp.toArray.push (Value.str z s'.toks) := by simp
      have up2 : ∃ c, (s'.heap.update P (Obj.mapSeq (·.push (Value.str z s'.toks)))).get? P = some { cls := .type "list", data := .seq (itp ++ [Value.str z s'.toks]).toArray c } := by
        rw [ea]
        exact ⟨_, up⟩
      obtain ⟨c, up2⟩ := up2
      exact ⟨by rw [List.length_map, List.length_take]; omega, itp ++ [Value.str z s'.toks], c, v2, up2⟩
    have I2 : Inv X pins σ (upd H' P (.lst ((ts.take (i + 1)).map V.str))) { s' with heap := s'.heap.update P (Obj.mapSeq (·.push (Value.str z s'.toks))), toks := s'.toks + 1 } :=
      I'.write (t' := s'.toks + 1) (e := P) mu (.inl rfl) (fun b u hb e => (Heap.get?_update_other _ _ (Ne.symm hb)).trans e) ⟨_, Heap.get?_update_self _ pe rfl⟩ new
    refine ih (i + 1) _ _ (by omega) hlt I2 (fun q o na e => ?_) (by rw [upd_ne hne]; exact ha') upd_same
    rw [upd_ne (ne_of_none e hP0)]
    exact b' _ _ na (b0 _ _ na e)

/-- repr([o, ..]) -/
theorem e_reprL {p : Pos} (Cc : Cxt X (k + 4) W) (gd : Gd X) (M : MethC X.prog X.w X.K X.mg X.base k C "__repr__" ps sp) (h : wE X e σ H fun v H1 => ∃ (a : Addr) (xs : List V) (ts : List Str), v = .ref a ∧ H1 a = some (.lst xs) ∧ xs ≠ [] ∧ ts.length = xs.length ∧ (listText ts).length ≤ sizeLine ∧
      (∀ (i : Nat) (x : V), xs[i]? = some x → ∃ t, ts[i]? = some t ∧ ShI C sp H1 x t) ∧ ∀ H', But [] H1 H' → Q (.str (listText ts)) H')
    (hgl : Gl X "repr" := by rfl) (hs : starEach [e] X.env = [(false, eval e X.env)] := by rfl) : wE X (.Call (.Name "repr" p) [e] [] pos) σ H Q := by
  refine e_B (id := "repr") (a_cons (wE_mono h fun x H1 ⟨a, xs, ts, e1, ha, hne, hlen, hsz, hT, q⟩ => a_nil ⟨fun pins s σ us I r => ?_⟩) hs) Cc.blt.repr PyProof.Rows.boot_repr hgl (by decide) (by decide) hs rfl
  subst e1
  obtain ⟨u, rfl, r1⟩ := vals1 r
  obtain rfl : u = Value.ref a := r1
  obtain ⟨its, rv, ⟨oa, na, o1, o2, o4, o3⟩, hz⟩ := I.list (show SqL X.K H1 a xs from .inl (.inl ha))
  have sb : Sub X (k + 4) X.A := ⟨Cc.room, rfl⟩
  have s1 := sb.in1
  obtain ⟨x, hx⟩ : ∃ x, xs[0]? = some x := by
    cases xs with
    | nil => exact absurd rfl hne
    | cons x r => exact ⟨x, rfl⟩
  obtain ⟨y, l0, rfl⟩ : ∃ y l0, its = y :: l0 := by
    cases its with
    | nil => have := rv.length; cases xs with
      | nil => exact absurd rfl hne
      | cons _ _ => cases this
    | cons y l0 => exact ⟨y, l0, rfl⟩
  refine call_repr_slot (by have := Cc.un; omega) ⟨oa, o1, o2⟩ F.slot_list_repr.toG ?_
  have gdc : GdC [] X.A.in1 := GdC.of gd
  obtain ⟨g, hg1, hg2⟩ := id gdc
  refine wpAny_call (codeAny_call_builtin F.slot_list_repr.plain F.entry_list_repr (F.slot_list_repr.check _ _ _ _ _ _ _ _ ⟨oa, o1, o2⟩ (F.args_list_repr_1 _) ?_))
  show wpAny _ X.A.in1.in1 (Builtin.listReprAt 0 ⟨[.ref a], []⟩) _ _ s
  refine wpAny_list_repr_head (A := X.A.in1.in1) hg1 (fun v rest kw hm => listSameRef_of_ne (hg2 a (by simp) _ _ _ _ hm)) o1 o3 ?_
  refine wpAny_bind (m := newList []) (wpAny_newObj_type ?_)
  refine wpAny_pure ⟨F.quiet_list_repr_loop _, ?_⟩
  have nP : H1 s.heap.objs.size = none := I.hok.fresh (Nat.le_refl _)
  have naP : a ≠ s.heap.objs.size := ne_of_none ha nP
  have I1 : Inv X pins σ (upd H1 s.heap.objs.size (.lst [])) { s with heap := s.heap.push { cls := .type "list", data := .seq ([] : List Value).toArray } } := I.laid (a := s.heap.objs.size) (o := .lst []) (t' := s.toks) (fun b o e => Heap.get?_push_of_some _ e) (Nat.le_refl _) ⟨by show 0 ≤ sizeLine; exact Nat.zero_le _, [], 0, .nil, Heap.get?_push_size _ rfl⟩
  have key := repr_loopI (X := X) (σ := σ) (pins := pins) (A := X.A.in1) (l := []) (a := a) (P := s.heap.objs.size) (xs := xs) (ts := ts) (H0 := H1) (j := k) (C := C) (sp := sp) (ps := ps) (R := callEnd (fun r s₁ => ∃ x t, r = .str x t ∧ EP X pins σ Q r s₁) X.xe) Cc (s1.mono (by omega)) gdc M naP hlen hsz (fun H b0 ha' q hq => ?_) hT (fun e s' he => he)
    (fun s' H' u I' b' => ⟨_, _, rfl, .str (listText ts), H', I', ⟨_, rfl⟩, q H' b'⟩) nP xs.length 0 { s with heap := s.heap.push { cls := .type "list", data := .seq ([] : List Value).toArray } } (upd H1 s.heap.objs.size (.lst [])) (Nat.sub_zero _) (Nat.zero_le _) I1 (But.new nP) (by rw [upd_ne naP]; exact ha) upd_same
  · exact key
  · have hq : q = a := by simpa using hq
    subst hq
    obtain ⟨t, _, o, dx, fs, rfl, ho, _⟩ := hT 0 x hx
    exact ⟨xs, o, C, dx, fs, ha', List.mem_of_getElem? hx, b0 _ _ (by simp) ho⟩
end
end Z

set_option Elab.async false
set_option linter.all false
set_option maxRecDepth 100000
set_option maxHeartbeats 4000000
namespace K14
open PySem PySem.Spec PyProof.Rows L2 Z LamX NdefX
theorem shownM_len {g : Str} {L : List (List Nat)} {LA : List Bool} (ok : OkM g L LA) : (shownM g L LA).length ≤ 200000 := by
  have l1 := (rows_shw ok).len
  have l6 := (ends_shw ok).len
  have l2 := (ShwZ.str (n := 0) (w := 4) (strSigns_ascii ok.sg) (strSigns_len ok.sg).1).len
  have l3 : ("Machine(" : Str).length = 8 := rfl
  have l4 : (", " : Str).length = 2 := rfl
  have l5 : (")" : Str).length = 1 := rfl
  have l0 : (Str.empty).length = 0 := rfl
  unfold shownM
  rw [app_len, app_len, app_len, app_len, app_len, app_len, app_len, l0, l3, l4, l5]
  omega
section
variable {P : Program} {w : World} {K : PySem.W.Frag} {mg : Str → Option Value} {base : Heap} {CM : Addr}
theorem d_reprC (B : Blt mg base) (CL : ClsM K CM) (D : MethAt K CM "__repr__" "Machine.__repr__" (clsAt (top 51) 26)) (D1 : Def P w K mg base 1 "ends_of" (top 37) ["accepts"] spEndsOf) : MethC P w K mg base 2 CM "__repr__" ["self"] (spReprM CM) := by
  obtain ⟨f, oc, doc, pm, cdv, ct, od, an, osl, hp, lk, hcd⟩ := D.ex
  refine ⟨f, _, hp, gfnc_body B lk hcd scRp (fun vs H Q E ⟨_, _, _, _, e, _⟩ => by rw [e]; rfl) fun A outer s H vs Q E l C gd hn h => ?_, Binds.all fun us hl => match us, hl with | [_], _ => rfl⟩
  obtain ⟨p, g, L, LA, rfl, hR, ok, hQ⟩ := h
  obtain ⟨dx, rq, bq, h1, h2, h3⟩ := hR.ex
  obtain ⟨xs, h4, h5⟩ := tup_parts h2
  have shw := rows_shw ok
  have she := ends_shw ok
  have l1 := shw.len
  have l6 := she.len
  have l2 := (ShwZ.str (n := 0) (w := 4) (strSigns_ascii ok.sg) (strSigns_len ok.sg).1).len
  have l3 : ("Machine(" : Str).length = 8 := rfl
  have l4 : (", " : Str).length = 2 := rfl
  have l5 : (")" : Str).length = 1 := rfl
  have l0 : (Str.empty).length = 0 := rfl
  have sz : ∀ n, n ≤ 16777216 → n ≤ sizeLine := fun n h => by rw [sizeLine_eq]; exact h
  have eg : reprText g = (PyData.str g).shown := (PyData.shown_str g).symm
  have hla : LA.length ≤ 1000 := by have := ok.len; have := ok.few; omega
  refine b_cons (s_ret (e_joined ?_))
  refine e_str ⟨_, rfl, sz _ (by rw [app_len, l0, l3]; decide), ?_⟩
  refine e_fmtRS (e_fld (v := .str g) (e_name 0 (v := .ref p) ⟨rfl, h1, g, rfl, ?_, ?_⟩) CL.c CL.n1 rfl)
  · rw [eg]; exact sz _ (by omega)
  rw [eg]
  refine ⟨_, rfl, sz _ (by rw [app_len, app_len, l0, l3]; omega), ?_⟩
  refine e_str ⟨_, rfl, sz _ (by rw [app_len, app_len, app_len, l0, l3, l4]; omega), ?_⟩
  refine e_fmtRC B gd C.un (e_listOf B (e_fld (v := .ref rq) (e_name 0 (v := .ref p) ⟨rfl, h1, ⟨rq, xs, rfl, .inr (sqt_all h4), fun q hq => ?_⟩⟩) CL.c CL.n2 rfl))
  have b1 : But [] H (upd H q (.lst xs)) := But.new hq
  refine ⟨[], L.map rowT, q, rfl, (DD.lst (.inl (.inl upd_same)) (by simp) (h5.but b1)).all, shw.rp (by decide) (by decide), hn.but b1, _, rfl, sz _ (by rw [app_len, app_len, app_len, app_len, l0, l3, l4]; omega), ?_⟩
  refine e_str ⟨_, rfl, sz _ (by rw [app_len, app_len, app_len, app_len, app_len, l0, l3, l4]; omega), ?_⟩
  refine e_fmtRC B gd C.un (e_call C D1 (a_cons (e_fld (v := .ref bq) (e_name 0 (v := .ref p) ⟨rfl, b1 _ _ (by simp) h1, a_nil ?_⟩) CL.c CL.n3 rfl)) rfl (fun _ _ _ _ _ _ us hl => match us, hl with | [_], _ => rfl))
  refine ⟨bq, LA, rfl, acc_sq (h3.but b1), hla, fun q2 H2 b2 hqn hq2 => ?_⟩
  refine ⟨[], (endsOf LA).map nD, q2, rfl, (DD.lst (.inl (.inl hq2)) (by simp) nats_dds).all, she.rp (by decide) (by decide), (hn.but b1).but b2, _, rfl, sz _ (by rw [app_len, app_len, app_len, app_len, app_len, app_len, l0, l3, l4]; omega), ?_⟩
  refine e_str ⟨_, rfl, sz _ (by rw [app_len, app_len, app_len, app_len, app_len, app_len, app_len, l0, l3, l4, l5]; omega), ?_⟩
  exact hQ _ (b1.trans b2)
end
/-! ### what the pieces tell -/
theorem firstV_scal {g : Str} {r r' : Option (List Nat)} : scal (firstV g r) (firstV g r') = true := by cases r <;> cases r' <;> rfl
theorem run_zero {w : Nat} : ∀ {u : List Nat}, Mc.gRun (tg [List.replicate w 0]) 0 u = 0 := by
  intro u
  have : ∀ (u : List Nat) (s : Nat), s = 0 → Mc.gRun (tg [List.replicate w 0]) s u = 0 := by
    intro u
    induction u with
    | nil => exact fun s h => h
    | cons a u ih =>
      intro s h
      refine ih _ ?_
      subst h
      show (([List.replicate w 0].getD 0 []).getD a 0) = 0
      show (List.replicate w 0).getD a 0 = 0
      rw [List.getD_eq_getElem?_getD, List.getElem?_replicate]
      split <;> rfl
  exact this u 0 rfl
theorem every_lang {w : Nat} {u : List Nat} : langOf [List.replicate w 0] (endsA 1 [0]) u = true := by
  unfold langOf
  rw [run_zero]
  rfl
theorem none_lang {w : Nat} {u : List Nat} : langOf [List.replicate w 0] (endsA 1 []) u = false := by
  unfold langOf
  rw [run_zero]
  rfl
/-- a machine of a language -/
structure Mach14 (g : Str) (L : List (List Nat)) (LA : List Bool) (lang : List Nat → Bool) : Prop where
  few : L.length ≤ 13
  least : Least g.length L LA lang
theorem Mach14.okM {g : Str} {L : List (List Nat)} {LA : List Bool} {f : List Nat → Bool} (h : Mach14 g L LA f) (hg : strSigns g = true) : OkM g L LA := h.least.okM hg (by have := h.few; omega)
theorem Mach14.pos {g : Str} {L : List (List Nat)} {LA : List Bool} {f : List Nat → Bool} (h : Mach14 g L LA f) (hg : strSigns g = true) : 0 < L.length := (h.least.rowsOk hg (by have := h.few; omega)).pos
theorem Mach14.lang {g : Str} {L : List (List Nat)} {LA : List Bool} {f : List Nat → Bool} (h : Mach14 g L LA f) {u : List Nat} (hu : Mc.Wd g.length u) : langOf L LA u = f u := (mk_lang hu).symm.trans (h.least.lang_ u hu)
theorem Told.mach {g : Str} {L : List (List Nat)} {LA : List Bool} {R : List (List Nat)} {es : List Nat} (h : Told g L LA R es) : Mach14 g L LA (langOf R (endsA R.length es)) := ⟨by have := h.le; have := h.few; omega, h.least⟩
end K14

set_option Elab.async false
set_option linter.all false
set_option maxRecDepth 100000
set_option maxHeartbeats 4000000
namespace Z
open PySem PySem.Spec PyProof.Rows L2
section
variable {X : Cx} {k : Nat} {W : WX} {σ : L2.St} {H : Hp} {o e : Expr} {es : List Expr} {pos apos : Pos} {Q : VK} {m : Str}
/-- o.m(), where what o is, is found on the way -/
theorem e_meth0X {sp : Sp} {C : Addr} {j : Nat} {ps : List Str} (Cc : Cxt X j W) (c : Cls X.K C) (M : MethOk X.prog X.w X.K X.mg X.base j C m ps sp) (h : wE X o σ H fun x H1 => ∃ (r dx : Addr) (fs : List (Str × V)), x = .ref r ∧ H1 r = some (.ins C dx fs) ∧ fs.lookup m = none ∧ sp [.ref r] H1 Q fun _ _ _ => False)
    (hb : attributeBase o m X.env (eval o X.env) = eval o X.env := by rfl) (hf : methodCallForm (([] : List Expr).length + 0) (backTo pos (starEach [] X.env)) (backToKw pos (keywordEach [] X.env)) = true := by rfl) (hl : (apos.endLine == pos.line) = true := by rfl) :
    wE X (.Call (.Attribute o m apos) [] [] pos) σ H Q := by
  obtain ⟨g, fd, hm, F, hbd⟩ := M.ex
  exact eE (pe_meth0 (pl := plainOf o X.env) pE c hm F Cc.room hbd .nil (passes0 Cc.tk) (meth_eval hb hf hl)) (wE_mono h fun x H1 ⟨r, dx, fs, e1, h1, n, q⟩ => by subst e1; exact ⟨r, dx, fs, rfl, h1, n, q⟩)
end
end Z

set_option Elab.async false
set_option linter.all false
set_option maxRecDepth 100000
set_option maxHeartbeats 4000000
namespace K14
open PySem PySem.Spec PyProof.Rows L2 Z LamX NdefX
def rtN : List Str := ["pot", "alpha", "first", "second", "here", "there", "spelt", "every", "none", "begin", "told", "last"]
theorem scRt : FnScope rtN ["pot"] (defScope (top 64)) := ⟨rfl, rfl, rfl, by decide +kernel, rfl, by decide +kernel, by decide +kernel⟩
/-- the two models and the two machines stand -/
structure Two (CM : Addr) (T : List (Addr × Str)) (g : Str) (t1 t2 o1 o2 : Addr) (R R' : List (List Nat)) (es es' : List Nat) (L L' : List (List Nat)) (LA LA' : List Bool) (H : Hp) : Prop where
  m1 : ModAt [] H t1 R es
  m2 : ModAt [] H t2 R' es'
  h1 : IsMach CM g L LA H o1
  h2 : IsMach CM g L' LA' H o2
  tb : Tabs T H
theorem Two.go {CM : Addr} {T : List (Addr × Str)} {g : Str} {t1 t2 o1 o2 : Addr} {R R' : List (List Nat)} {es es' : List Nat} {L L' : List (List Nat)} {LA LA' : List Bool} {H H' : Hp} (h : Two CM T g t1 t2 o1 o2 R R' es es' L L' LA LA' H) (x : Ex [] H H') (t : Tabs T H') : Two CM T g t1 t2 o1 o2 R R' es es' L L' LA LA' H' := ⟨h.m1.ex' x, h.m2.ex' x, h.h1.exL x (by simp), h.h2.exL x (by simp), t⟩
theorem Two.new {CM : Addr} {T : List (Addr × Str)} {g : Str} {t1 t2 o1 o2 : Addr} {R R' : List (List Nat)} {es es' : List Nat} {L L' : List (List Nat)} {LA LA' : List Bool} {H H' : Hp} (h : Two CM T g t1 t2 o1 o2 R R' es es' L L' LA LA' H) (b : But [] H H') : Two CM T g t1 t2 o1 o2 R R' es es' L L' LA LA' H' := h.go b.ex (tabs_new h.tb b)
theorem first_w {w : Nat} {f : List Nat → Bool} (h : f [] = true) : Fst.IsFirst w (fun u => f u = true) (some []) := by
  refine ⟨fun _ z => ?_, h, fun v _ _ => ?_⟩
  · cases z
  · cases v with
    | nil => exact .inl rfl
    | cons a v => exact .inr (.inl (by simp))
theorem text2_len {a b : Str} (ha : a.length ≤ 200000) (hb : b.length ≤ 200000) : (listText [a, b]).length ≤ 16777216 := by
  have e1 : (Str.ofString "[").length = 1 := rfl
  have e2 : (Str.ofString "]").length = 1 := rfl
  have e3 : (Str.ofString ", ").length = 2 := rfl
  have e4 : (Str.ofString "").length = 0 := rfl
  show (((((Str.ofString "[" ++ Str.ofString "") ++ a) ++ Str.ofString ", ") ++ b) ++ Str.ofString "]").length ≤ 16777216
  rw [app_len, app_len, app_len, app_len, app_len, e1, e2, e3, e4]
  omega
section
variable {P : Program} {w : World} {K : PySem.W.Frag} {mg : Str → Option Value} {base : Heap} {CM : Addr}
def spRight (CM : Addr) (T : List (Addr × Str)) : Sp := fun vs H Q _ => ∃ p : Addr, vs = [.ref p] ∧ Pot H p ∧ Tabs T H ∧ ∀ H', Ex [p] H H' → Tabs T H' → Q (.bl true) H'
theorem d_right14 {T : List (Addr × Str)} (B : Blt mg base) (CL : ClsM K CM) (hC : mg "Machine" = some (.ref CM)) (D : At K mg "_law_right" (top 64)) (MM : MakeM P w K mg base CM) (D1 : Def P w K mg base 2 "_law_alpha" (top 56) ["pot", "least", "most"] spAlpha)
    (D2 : Def P w K mg base 2 "_law_model" (top 57) ["pot", "alpha", "most"] spModel) (D3 : Def P w K mg base 4 "_law_second" (top 60) ["pot", "alpha", "first"] spFar) (D4 : DefG P w K mg base 6 "_law_pair_right" (top 59) ["alpha", "first", "second", "here", "there"] (spPair CM T))
    (MR : MethC P w K mg base 2 CM "__repr__" ["self"] (spReprM CM)) (ME : CMethOk P w K mg base 8 CM "every" (spOne CM [0])) (MO : CMethOk P w K mg base 8 CM "nothing" (spOne CM [])) (MN : MethOk P w K mg base 8 CM "__neg__" ["self"] (spNeg CM))
    (MU : MethK P w K mg base 5 CM "unlike_line" "other" (spFp CM T (fun a b => a != b) firstV)) (MF : MethOk P w K mg base 5 CM "first_line" ["self"] (spFp1 CM T)) (MQ : MethOk P w K mg base 1 CM "__eq__" ["self", "other"] (spEqB (EqM K CM))) :
    DefG P w K mg base 9 "_law_right" (top 64) ["pot"] (spRight CM T) := by
  refine defG_of D B scRt (fun vs H Q E ⟨_, e, _⟩ => by rw [e]; rfl) fun f cdv A outer s H vs Q E hm C gd h => ?_
  obtain ⟨p, rfl, hp, hT, hQ⟩ := h
  have sz : ∀ n, n ≤ 16777216 → n ≤ sizeLine := fun n h => by rw [sizeLine_eq]; exact h
  obtain ⟨dvs, hvd, MP⟩ := MM.pos
  refine b_cons (s_set (i := 1) (e_call (C.mono (by decide)) D1 (a_cons (e_name 0 (v := .ref p) (a_cons (e_int (a_cons (e_int (a_nil ?_))))))) rfl (fun _ _ _ _ _ _ us hl => match us, hl with | [_, _, _], _ => rfl)) C.nd)
  refine ⟨p, rfl, hp, fun g H1 hg b1 hp1 => ?_⟩
  have gl := strSigns_len hg
  refine b_cons (s_set (i := 2) (e_call (C.mono (by decide)) D2 (a_cons (e_name 0 (v := .ref p) (a_cons (e_name 1 (v := .str g) (a_cons (e_int (a_nil ?_))))))) rfl (fun _ _ _ _ _ _ us hl => match us, hl with | [_, _, _], _ => rfl)) C.nd)
  refine ⟨p, g, 6, rfl, by decide, by decide, hp1, hg, fun t1 q1 s1 R es H2 b2 hp2 ht hq hs ok hR hnd hes => ?_⟩
  have mo1 : ModAt [p] H2 t1 R es := ⟨q1, s1, .inl (.inl ht), hq, hs, by simpa using (hp2.ne ht (by intro a b z; cases z))⟩
  clear ht hq hs
  refine b_cons (s_set (i := 3) (e_call (C.mono (by decide)) D3 (a_cons (e_name 0 (v := .ref p) (a_cons (e_name 1 (v := .str g) (a_cons (e_name 2 (v := .ref t1) (a_nil ?_))))))) rfl (fun _ _ _ _ _ _ us hl => match us, hl with | [_, _, _], _ => rfl)) C.nd)
  refine ⟨p, g, t1, R, es, rfl, hp2, hg, mo1, ok, hR, hnd, hes, fun t2 R' es' H3 b3 hp3 mo2 ok' hR' hnd' hes' => ?_⟩
  have k3 : Ex [p] H H3 := ((b1.trans b2).trans b3).ex
  have T3 : Tabs T H3 := tabs_but hT ((b1.trans b2).trans b3) hp.lsts
  have n1 := (mo1.but b3).less
  have n2 := mo2.less
  clear mo1 mo2 b1 b2 b3 hp hp1 hp2 hp3 hT
  show wB _ _ _ [some (.ref p), some (.str g), some (.ref t1), some (.ref t2), none, none, none, none, none, none, none, none] H3
  -- the two machines
  obtain ⟨q1, s1, ht1, hq1, hs1, _⟩ := id n1.ex
  obtain ⟨q2, s2, ht2, hq2, hs2, _⟩ := id n2.ex
  refine b_cons (s_par (i := 4) (j := 5) C (a_cons (e_make (E := fun _ _ _ => False) (C.mono (by decide)) MP hvd (fun _ _ _ _ z => z.elim) (a_cons (e_name 1 (v := .str g) (a_cons (e_ix (e_name 2 (v := .ref t1) (e_int (ix_t (sqt_all ht1) (v := .ref q1) rfl (a_cons (e_ix (e_name 2 (v := .ref t1) (e_int (ix_t (sqt_all ht1) (v := .ref s1) rfl (a_nil ?_))))))))))))))))
  refine mkm_spec hg (grid_rows hq1) ok (by omega) (list_nats hs1) hnd hes fun o1 L LA H4 b4 _ hM hL hLe => ?_
  have n1' := n1.but b4
  have n2' := n2.but b4
  clear ht2 hq2 hs2
  obtain ⟨q2, s2, ht2, hq2, hs2, _⟩ := id n2'.ex
  refine a_cons (e_make (E := fun _ _ _ => False) (C.mono (by decide)) MP hvd (fun _ _ _ _ z => z.elim) (a_cons (e_name 1 (v := .str g) (a_cons (e_ix (e_name 3 (v := .ref t2) (e_int (ix_t (sqt_all ht2) (v := .ref q2) rfl (a_cons (e_ix (e_name 3 (v := .ref t2) (e_int (ix_t (sqt_all ht2) (v := .ref s2) rfl (a_nil ?_))))))))))))))
  refine mkm_spec hg (grid_rows hq2) ok' (by omega) (list_nats hs2) hnd' hes' fun o2 L' LA' H5 b5 _ hM' hL' hLe' => a_nil ⟨_, _, rfl, ?_⟩
  have to : Told g L LA R es := ⟨hg, ok, by omega, hL, hLe⟩
  have to' : Told g L' LA' R' es' := ⟨hg, ok', by omega, hL', hLe'⟩
  have S5 : Two CM T g t1 t2 o1 o2 R R' es es' L L' LA LA' H5 := ⟨n1'.but b5, n2'.but b5, hM.but b5, hM', tabs_new (tabs_new T3 b4) b5⟩
  have k5 := k3.trans ((b4.trans b5).ex.mono (by simp))
  clear ht1 hq1 hs1 ht2 hq2 hs2 n1 n2 n1' n2' hM hM' b4 b5 T3 k3 hL hLe hL' hLe'
  show wB _ _ _ [some (.ref p), some (.str g), some (.ref t1), some (.ref t2), some (.ref o1), some (.ref o2), none, none, none, none, none, none] H5
  -- they are shown
  have ls : (listText [shownM g L LA, shownM g L' LA']).length ≤ sizeLine := sz _ (text2_len (shownM_len to.okM) (shownM_len to'.okM))
  have shi : ∀ {H6 : Hp}, Two CM T g t1 t2 o1 o2 R R' es es' L L' LA LA' H6 → ∀ (i : Nat) (x : V), [V.ref o1, V.ref o2][i]? = some x → ∃ t, [shownM g L LA, shownM g L' LA'][i]? = some t ∧ ShI CM (spReprM CM) H6 x t := fun S i x e => by
    match i, e with
    | 0, e =>
      cases e
      obtain ⟨dx, rq, bq, h1, _⟩ := id S.h1.ex
      exact ⟨_, rfl, o1, dx, _, rfl, h1, fun H' b => ⟨o1, g, L, LA, rfl, S.h1.but b, to.okM, fun H'' b' => ⟨rfl, b'⟩⟩⟩
    | 1, e =>
      cases e
      obtain ⟨dx, rq, bq, h1, _⟩ := id S.h2.ex
      exact ⟨_, rfl, o2, dx, _, rfl, h1, fun H' b => ⟨o2, g, L', LA', rfl, S.h2.but b, to'.okM, fun H'' b' => ⟨rfl, b'⟩⟩⟩
    | n + 2, e => cases e
  refine b_cons (s_set (i := 6) (e_reprL (C.mono (by decide)) gd MR (e_lst (a_cons (e_name 4 (v := .ref o1) (a_cons (e_name 5 (v := .ref o2) (a_nil ⟨sz 2 (by decide), fun aq haq => ⟨aq, _, [shownM g L LA, shownM g L' LA'], rfl, upd_same, by simp, rfl, ls, shi (S5.new (But.new haq)), fun H6 b6 => ?_⟩⟩))))))) C.nd)
  have S6 := (S5.new (But.new haq)).new b6
  have k6 := k5.trans (((But.new haq).trans b6).ex.mono (by simp))
  clear S5 k5 b6 haq
  -- the pairs are right
  refine b_cons (s_if (t_boolop (w_or (t_not (t_val (e_callG (C.mono (by decide)) gd D4 (a_cons (e_name 1 (v := .str g) (a_cons (e_name 2 (v := .ref t1) (a_cons (e_name 3 (v := .ref t2) (a_cons (e_name 4 (v := .ref o1) (a_cons (e_name 5 (v := .ref o2) (a_nil ?_))))))))))) rfl (fun _ _ _ _ _ _ us hl => match us, hl with | [_, _, _, _, _], _ => rfl)))))))
  refine ⟨g, t1, t2, o1, o2, R, R', es, es', L, L', LA, LA', rfl, S6.m1, S6.m2, S6.h1, S6.h2, to, to', S6.tb, fun H7 x7 T7 => ⟨true, rfl, ?_⟩⟩
  have S7 := S6.go x7 T7
  have k7 := k6.trans (x7.mono (by simp))
  clear S6 k6 x7 T7
  show wW _ _ _ _ _
  refine w_or1 (t_not (t_val (e_callG (C.mono (by decide)) gd D4 (a_cons (e_name 1 (v := .str g) (a_cons (e_name 3 (v := .ref t2) (a_cons (e_name 2 (v := .ref t1) (a_cons (e_name 5 (v := .ref o2) (a_cons (e_name 4 (v := .ref o1) (a_nil ?_))))))))))) rfl (fun _ _ _ _ _ _ us hl => match us, hl with | [_, _, _, _, _], _ => rfl))))
  refine ⟨g, t2, t1, o2, o1, R', R, es', es, L', L, LA', LA, rfl, S7.m2, S7.m1, S7.h2, S7.h1, to', to, S7.tb, fun H8 x8 T8 => ⟨true, rfl, ?_⟩⟩
  have S8 := S7.go x8 T8
  have k8 := k7.trans (x8.mono (by simp))
  clear S7 k7 x8 T8
  refine b_nil ?_
  obtain ⟨q1, s1, ht1, hq1, hs1, _⟩ := id S8.m1.ex
  have hs1' := list_at hs1
  refine b_cons (s_if (t_not (t_val (e_callG (C.mono (by decide)) gd D4 (a_cons (e_name 1 (v := .str g) (a_cons (e_name 2 (v := .ref t1) (a_cons (e_name 2 (v := .ref t1) (a_cons (e_name 4 (v := .ref o1) (a_cons (e_make (E := fun _ _ _ => False) (C.mono (by decide)) MP hvd (fun _ _ _ _ z => z.elim) (a_cons (e_name 1 (v := .str g) (a_cons (e_ix (e_name 2 (v := .ref t1) (e_int (ix_t (sqt_all ht1) (v := .ref q1) rfl (a_cons (e_tupleOf B (e_ix (e_name 2 (v := .ref t1) (e_int (ix_t (sqt_all ht1) (v := .ref s1) rfl ⟨s1, es.map nV, rfl, .inl ⟨sql_all hs1', fun tq htq => a_nil ?_⟩⟩))))))))))))))))))))))) rfl (fun _ _ _ _ _ _ us hl => match us, hl with | [_, _, _, _, _], _ => rfl)))))
  have b9 : But [] H8 (upd H8 tq (.tup (es.map nV))) := But.new htq
  refine mkm_spec hg ((grid_rows hq1).but b9) ok (by omega) ⟨.tuple (es.map nD), .tup (.inl (.inl upd_same)) (by simp) nats_dds, rfl, rfl⟩ hnd hes fun o3 L3 LA3 H9 b3 _ hM3 hL3 hLe3 => a_nil ?_
  have to3 : Told g L3 LA3 R es := ⟨hg, ok, by omega, hL3, hLe3⟩
  have S9 := (S8.new b9).new b3
  have k9 := k8.trans ((b9.trans b3).ex.mono (by simp))
  clear S8 k8 b9 b3 htq ht1 hq1 hs1 hs1'
  refine ⟨g, t1, t1, o1, o3, R, R, es, es, L, L3, LA, LA3, rfl, S9.m1, S9.m1, S9.h1, hM3, to, to3, S9.tb, fun H10 x10 T10 => ⟨true, rfl, ?_⟩⟩
  have S10 := S9.go x10 T10
  have k10 := k9.trans (x10.mono (by simp))
  clear S9 k9 x10 T10 hM3 to3 hL3 hLe3
  refine b_nil ?_
  -- every, none
  refine b_cons (s_par (i := 7) (j := 8) C (a_cons (e_cmeth C ME (e_glob (v := .ref CM) ⟨rfl, a_cons (e_name 1 (v := .str g) (a_nil ?_))⟩ hC rfl))))
  refine ⟨g, rfl, hg, fun oe LE AE H11 b11 hE hE1 hEL => ?_⟩
  refine a_cons (e_cmeth C MO (e_glob (v := .ref CM) ⟨rfl, a_cons (e_name 1 (v := .str g) (a_nil ?_))⟩ hC rfl))
  refine ⟨g, rfl, hg, fun on LN AN H12 b12 hN hN1 hNL => a_nil ⟨_, _, rfl, ?_⟩⟩
  have S12 := (S10.new b11).new b12
  have k12 := k10.trans ((b11.trans b12).ex.mono (by simp))
  have hE12 := hE.but b12
  have mE : Mach14 g LE AE (langOf [List.replicate g.length 0] (endsA 1 [0])) := ⟨by omega, hEL⟩
  have mN : Mach14 g LN AN (langOf [List.replicate g.length 0] (endsA 1 [])) := ⟨by omega, hNL⟩
  clear S10 k10 b11 b12 hE
  show wB _ _ _ [some (.ref p), some (.str g), some (.ref t1), some (.ref t2), some (.ref o1), some (.ref o2), some (.str (listText [shownM g L LA, shownM g L' LA'])), some (.ref oe), some (.ref on), none, none, none] H12
  have mL := to.mach
  -- begin
  obtain ⟨dx, rq0, bq0, i1, _, _⟩ := id S12.h1.ex
  refine b_cons (s_set (i := 9) (e_meth0 (C.mono (by decide)) CL.c MF (e_name 4 (v := .ref o1) ⟨rfl, i1, rfl, ?_⟩)) C.nd)
  refine ⟨o1, g, L, LA, rfl, S12.h1, to.okM, to.pos, S12.tb, fun rb H13 x13 T13 fb lb => ?_⟩
  have S13 := S12.go x13 T13
  have k13 := k12.trans (x13.mono (by simp))
  have hE13 := hE12.exL x13 (by simp)
  have hN13 := hN.exL x13 (by simp)
  clear S12 k12 x13 T13 hE12 hN i1
  -- told
  obtain ⟨dx, rq0, bq0, i1, _, _⟩ := id hE13.ex
  refine b_cons (s_set (i := 10) (e_lst (a_cons (e_meth0 (C.mono (by decide)) CL.c MF (e_name 7 (v := .ref oe) ⟨rfl, i1, rfl, ?_⟩)))) C.nd)
  refine ⟨oe, g, LE, AE, rfl, hE13, mE.okM hg, mE.pos hg, S13.tb, fun r1 H14 x14 T14 f1 _ => ?_⟩
  obtain rfl : r1 = some [] := f1.eq (first_w (w := g.length) (f := fun _ => true) rfl) fun u hu => by rw [mE.lang hu, every_lang]
  have S14 := S13.go x14 T14
  have k14 := k13.trans (x14.mono (by simp))
  have hE14 := hE13.exL x14 (by simp)
  have hN14 := hN13.exL x14 (by simp)
  clear S13 k13 x14 T14 hE13 hN13 i1 f1
  obtain ⟨dx, rq0, bq0, i1, _, _⟩ := id hN14.ex
  refine a_cons (e_meth0 (C.mono (by decide)) CL.c MF (e_name 8 (v := .ref on) ⟨rfl, i1, rfl, ?_⟩))
  refine ⟨on, g, LN, AN, rfl, hN14, mN.okM hg, mN.pos hg, S14.tb, fun r2 H15 x15 T15 f2 _ => ?_⟩
  obtain rfl : r2 = none := f2.eq (r' := none) (P' := fun _ => False) (fun _ _ z => z) fun u hu => by rw [mN.lang hu, none_lang]; simp
  have S15 := S14.go x15 T15
  have k15 := k14.trans (x15.mono (by simp))
  have hE15 := hE14.exL x15 (by simp)
  have hN15 := hN14.exL x15 (by simp)
  clear S14 k14 x15 T15 hE14 hN14 i1 f2
  obtain ⟨dx, rq0, bq0, i1, _, _⟩ := id hN15.ex
  refine a_cons (e_meth (C.mono (by decide)) CL.c MU.ok (e_name 8 (v := .ref on) ⟨rfl, i1, rfl, a_cons (e_name 4 (v := .ref o1) (a_nil ?_))⟩))
  refine ⟨on, o1, g, LN, L, AN, LA, rfl, hN15, S15.h1, mN.okM hg, to.okM, mN.pos hg, to.pos, S15.tb, fun r3 H16 x16 T16 f3 _ => ?_⟩
  obtain rfl : r3 = rb := f3.eq fb fun u hu => by rw [mN.lang hu, none_lang]; simp
  have S16 := S15.go x16 T16
  have k16 := k15.trans (x16.mono (by simp))
  have hE16 := hE15.exL x16 (by simp)
  have hN16 := hN15.exL x16 (by simp)
  clear S15 k15 x16 T16 hE15 hN15 i1 f3
  obtain ⟨dx, rq0, bq0, i1, _, _⟩ := id hN16.ex
  refine a_cons (e_meth (C.mono (by decide)) CL.c MU.ok (e_name 8 (v := .ref on) ⟨rfl, i1, rfl, a_cons (e_name 8 (v := .ref on) (a_nil ?_))⟩))
  refine ⟨on, on, g, LN, LN, AN, AN, rfl, hN16, hN16, mN.okM hg, mN.okM hg, mN.pos hg, mN.pos hg, S16.tb, fun r4 H17 x17 T17 f4 _ => ?_⟩
  obtain rfl : r4 = none := f4.eq (r' := none) (P' := fun _ => False) (fun _ _ z => z) fun u hu => by simp
  have S17 := S16.go x17 T17
  have k17 := k16.trans (x17.mono (by simp))
  have hE17 := hE16.exL x17 (by simp)
  clear S16 k16 x17 T17 hE16 hN16 i1 f4
  refine a_nil ⟨sz 4 (by decide), fun tq htq => ?_⟩
  have b18 : But [] H17 (upd H17 tq (.lst [firstV g (some []), firstV g none, firstV g r3, firstV g none])) := But.new htq
  have ht18 : upd H17 tq (.lst [firstV g (some []), firstV g none, firstV g r3, firstV g none]) tq = some (.lst [firstV g (some []), firstV g none, firstV g r3, firstV g none]) := upd_same
  show wB _ _ _ [some (.ref p), some (.str g), some (.ref t1), some (.ref t2), some (.ref o1), some (.ref o2), some (.str (listText [shownM g L LA, shownM g L' LA'])), some (.ref oe), some (.ref on), some (firstV g r3), some (.ref tq), none] (upd H17 tq (.lst [firstV g (some []), firstV g none, firstV g r3, firstV g none]))
  generalize upd H17 tq (.lst [firstV g (some []), firstV g none, firstV g r3, firstV g none]) = H18 at b18 ht18 ⊢
  have S18 := S17.new b18
  have k18 := k17.trans (b18.ex.mono (by simp))
  have hE18 := hE17.but b18
  clear S17 k17 b18 hE17 htq
  have sh : ShwZ 1 (5 * 1601) (.list [firstD g (some []), firstD g none, firstD g r3, firstD g none, firstD g none]) := ShwZ.list 5 (fun d hd => by
    have w0 : Mc.Wd g.length [] := fun _ z => by cases z
    have n0 : ∀ u, some ([] : List Nat) = some u → Mc.Wd g.length u ∧ u.length ≤ 1600 := fun u e => by
      cases e
      exact ⟨w0, by decide⟩
    have nn : ∀ u, (none : Option (List Nat)) = some u → Mc.Wd g.length u ∧ u.length ≤ 1600 := fun u e => by cases e
    have nb : ∀ u, r3 = some u → Mc.Wd g.length u ∧ u.length ≤ 1600 := fun u e => ⟨by rw [e] at fb; exact fb.1, lb u e⟩
    simp only [List.mem_cons, List.not_mem_nil, or_false] at hd
    rcases hd with rfl | rfl | rfl | rfl | rfl
    · exact first_shw hg n0
    · exact first_shw hg nn
    · exact first_shw hg nb
    · exact first_shw hg nn
    · exact first_shw hg nn) (by simp)
  obtain ⟨p1, p2, p3⟩ := shw_rp sh (by decide) (by decide)
  obtain ⟨dx, rq0, bq0, i1, _, _⟩ := id S18.h1.ex
  refine b_cons (s_if (t_cmp (e_repr B gd C.un (e_bin (e_name 10 (v := .ref tq) (e_lst (a_cons (e_meth (C.mono (by decide)) CL.c MU.ok (e_name 4 (v := .ref o1) ⟨rfl, i1, rfl, a_cons (e_name 4 (v := .ref o1) (a_nil ?_))⟩)))))))))
  refine ⟨o1, o1, g, L, L, LA, LA, rfl, S18.h1, S18.h1, to.okM, to.okM, to.pos, to.pos, S18.tb, fun r5 H19 x19 T19 f5 _ => ?_⟩
  obtain rfl : r5 = none := f5.eq (r' := none) (P' := fun _ => False) (fun _ _ z => z) fun u hu => by simp
  have S19 := S18.go x19 T19
  have k19 := k18.trans (x19.mono (by simp))
  have hE19 := hE18.exL x19 (by simp)
  have ht19 := x19.lst (by simp) ht18
  clear S18 k18 x19 T19 hE18 ht18 i1 f5
  refine a_nil ⟨sz 1 (by decide), fun wq hwq => o_cat ((show But [] H19 (upd H19 wq (.lst [firstV g none])) from But.new hwq) _ _ (by simp) ht19) upd_same (sz 5 (by decide)) fun cq hcq => ?_⟩
  have b20 : But [] H19 (upd (upd H19 wq (.lst [firstV g none])) cq (.lst ([firstV g (some []), firstV g none, firstV g r3, firstV g none] ++ [firstV g none]))) := (But.new hwq).trans (But.new hcq)
  have hc20 : upd (upd H19 wq (.lst [firstV g none])) cq (.lst ([firstV g (some []), firstV g none, firstV g r3, firstV g none] ++ [firstV g none])) cq = some (.lst [firstV g (some []), firstV g none, firstV g r3, firstV g none, firstV g none]) := upd_same
  generalize upd (upd H19 wq (.lst [firstV g none])) cq (.lst ([firstV g (some []), firstV g none, firstV g r3, firstV g none] ++ [firstV g none])) = H20 at b20 hc20 ⊢
  have dsq : ∀ {H : Hp}, DDs [] [] H [firstV g (some []), firstV g none, firstV g r3, firstV g none, firstV g none] [firstD g (some []), firstD g none, firstD g r3, firstD g none, firstD g none] := .cons (first_dd _) (.cons (first_dd _) (.cons (first_dd _) (.cons (first_dd _) (.cons (first_dd _) .nil))))
  have dq : DD [] [] H20 (.ref cq) (.list [firstD g (some []), firstD g none, firstD g r3, firstD g none, firstD g none]) := .lst (.inl (.inl hc20)) (by simp) dsq
  refine ⟨[], _, dq.all, p1, p2, p3, ?_⟩
  refine e_repr B gd C.un (e_lst (a_cons (e_str (a_cons (e_none (a_cons (e_name 9 (v := firstV g r3) (a_cons (e_none (a_cons (e_none (a_nil ⟨sz 5 (by decide), fun zq hzq => ?_⟩))))))))))))
  have b21 : But [] H20 (upd H20 zq (.lst [firstV g (some []), firstV g none, firstV g r3, firstV g none, firstV g none])) := But.new hzq
  have hz21 : upd H20 zq (.lst [firstV g (some []), firstV g none, firstV g r3, firstV g none, firstV g none]) zq = some (.lst [firstV g (some []), firstV g none, firstV g r3, firstV g none, firstV g none]) := upd_same
  refine ⟨[], .list [firstD g (some []), firstD g none, firstD g r3, firstD g none, firstD g none], DD.all (.lst (.inl (.inl hz21)) (by simp) dsq), p1, p2, p3, c_ne rfl ⟨false, by simp, ?_⟩⟩
  have S21 := (S19.new b20).new b21
  have k21 := k19.trans ((b20.trans b21).ex.mono (by simp))
  have hE21 := (hE19.but b20).but b21
  show wB _ _ _ [some (.ref p), some (.str g), some (.ref t1), some (.ref t2), some (.ref o1), some (.ref o2), some (.str (listText [shownM g L LA, shownM g L' LA'])), some (.ref oe), some (.ref on), some (firstV g r3), some (.ref tq), none] (upd H20 zq (.lst [firstV g (some []), firstV g none, firstV g r3, firstV g none, firstV g none]))
  generalize upd H20 zq (.lst [firstV g (some []), firstV g none, firstV g r3, firstV g none, firstV g none]) = H21 at S21 k21 hE21 ⊢
  clear S19 k19 hE19 ht19 b20 b21 hz21 hc20 dq dsq hzq hwq hcq sh p1 p2 p3
  refine b_nil ?_
  -- last
  obtain ⟨dx, rq0, bq0, i1, _, _⟩ := id S21.h1.ex
  refine b_cons (s_set (i := 11) (e_meth0X (C.mono (by decide)) CL.c MF (e_un (e_name 4 (v := .ref o1) (u_negO C MN i1 ?_)))) C.nd)
  have okL := to.least.rowsOk hg (by have := to.le; have := to.few; omega)
  refine ⟨o1, g, L, LA, rfl, S21.h1, hg, okL, to.least.len, by have := to.le; have := to.few; omega, fun o5 L5 A5 H22 b22 h5 hl5 hLe5 => ?_⟩
  have m5 : Mach14 g L5 A5 (langOf L (endsA L.length (othersOf LA))) := ⟨by have := to.le; have := to.few; omega, hLe5⟩
  have S22 := S21.new b22
  have k22 := k21.trans (b22.ex.mono (by simp))
  have hE22 := hE21.but b22
  clear S21 k21 b22 hE21 i1
  obtain ⟨dx5, rq5, bq5, i5, _, _⟩ := id h5.ex
  refine ⟨o5, dx5, _, rfl, i5, rfl, o5, g, L5, A5, rfl, h5, m5.okM hg, m5.pos hg, S22.tb, fun rl H23 x23 T23 fl ll => ?_⟩
  have S23 := S22.go x23 T23
  have k23 := k22.trans (x23.mono (by simp))
  have hE23 := hE22.exL x23 (by simp)
  clear S22 k22 x23 T23 hE22 i5 h5
  show wB _ _ _ [some (.ref p), some (.str g), some (.ref t1), some (.ref t2), some (.ref o1), some (.ref o2), some (.str (listText [shownM g L LA, shownM g L' LA'])), some (.ref oe), some (.ref on), some (firstV g r3), some (.ref tq), some (firstV g rl)] H23
  have lneg : ∀ u, Mc.Wd g.length u → langOf L5 A5 u = !langOf L LA u := fun u hu => (m5.lang hu).trans (others_lang okL to.least.len hu)
  obtain ⟨dx, rq0, bq0, i1, _, _⟩ := id hE23.ex
  refine b_cons (s_if (t_boolop (w_or (t_cmp (e_meth (C.mono (by decide)) CL.c MU.ok (e_name 7 (v := .ref oe) ⟨rfl, i1, rfl, a_cons (e_name 4 (v := .ref o1) (a_nil ?_))⟩))))))
  refine ⟨oe, o1, g, LE, L, AE, LA, rfl, hE23, S23.h1, mE.okM hg, to.okM, mE.pos hg, to.pos, S23.tb, fun r6 H24 x24 T24 f6 _ => ?_⟩
  obtain rfl : r6 = rl := f6.eq fl fun u hu => by rw [mE.lang hu, every_lang, lneg u hu]; simp
  have S24 := S23.go x24 T24
  have k24 := k23.trans (x24.mono (by simp))
  have hE24 := hE23.exL x24 (by simp)
  clear S23 k23 x24 T24 hE23 i1 f6
  refine e_name 11 (v := firstV g r6) (c_ne firstV_scal ⟨false, by simp, ?_⟩)
  show wW _ _ _ _ _
  obtain ⟨dx, rq0, bq0, i1, _, _⟩ := id S24.h1.ex
  obtain ⟨dx', rq0', bq0', i1', _, _⟩ := id hE24.ex
  have eN : decide (g = g ∧ L = LE ∧ LA = AE) = r6.isNone := by
    cases r6 with
    | none =>
      refine decide_eq_true ?_
      have hl : ∀ u, Mc.Wd g.length u → langOf R (endsA R.length es) u = langOf [List.replicate g.length 0] (endsA 1 [0]) u := fun u hu => by
        have h1 : ¬ langOf L5 A5 u = true := fl u hu
        rw [lneg u hu] at h1
        rw [every_lang, ← to.lang hu]
        revert h1
        cases langOf L LA u <;> simp
      obtain ⟨a, b⟩ := to.least.eq hEL hl
      exact ⟨rfl, a, b⟩
    | some u =>
      refine decide_eq_false ?_
      rintro ⟨_, e1, e2⟩
      have h1 : langOf L5 A5 u = true := fl.2.1
      rw [lneg u fl.1, e1, e2, mE.lang fl.1, every_lang] at h1
      cases h1
  refine w_or1 (t_cmp (e_cmp (e_name 11 (v := firstV g r6) (e_none (c_isN (e_cmp (e_name 4 (v := .ref o1) (e_name 7 (v := .ref oe) (c_eqOO (C.mono (by decide)) MQ i1 i1' ⟨o1, g, L, LA, rfl, S24.h1, .inl ⟨oe, g, LE, AE, rfl, hE24, rfl⟩⟩ fun H25 b25 => ?_)))))))))
  rw [firstV_non, eN]
  refine c_ne rfl ⟨false, by simp, ?_⟩
  have S25 := S24.new b25
  have k25 := k24.trans (b25.ex.mono (by simp))
  clear S24 k24 b25 hE24 i1 i1'
  refine b_nil ?_
  refine b_cons (s_ret (e_and (e_cmp (e_reprL (C.mono (by decide)) gd MR (e_lst (a_cons (e_name 4 (v := .ref o1) (a_cons (e_name 5 (v := .ref o2) (a_nil ⟨sz 2 (by decide), fun aq haq => ⟨aq, _, [shownM g L LA, shownM g L' LA'], rfl, upd_same, by simp, rfl, ls, shi (S25.new (But.new haq)), fun H6 b6 => e_name 6 (v := .str (listText [shownM g L LA, shownM g L' LA'])) (c_eq rfl ⟨true, by simp, ?_⟩)⟩⟩))))))))))
  have S26 := (S25.new (But.new haq)).new b6
  have k26 := k25.trans (((But.new haq).trans b6).ex.mono (by simp))
  clear S25 k25 b6 haq
  obtain ⟨dx, rq0, bq0, i1, _, _⟩ := id S26.h1.ex
  refine e_one (e_cmp (e_meth0 (C.mono (by decide)) CL.c MF (e_name 4 (v := .ref o1) ⟨rfl, i1, rfl, ?_⟩)))
  refine ⟨o1, g, L, LA, rfl, S26.h1, to.okM, to.pos, S26.tb, fun r7 H27 x27 T27 f7 _ => ?_⟩
  obtain rfl : r7 = r3 := f7.eq fb fun u hu => Iff.rfl
  refine e_name 9 (v := firstV g r7) (c_eq firstV_scal ?_)
  rw [decide_eq_true rfl]
  exact hQ H27 (k26.trans (x27.mono (by simp))) T27
end
end K14

set_option Elab.async false
set_option linter.all false
set_option maxRecDepth 100000
set_option maxHeartbeats 4000000
namespace K14
open PySem PySem.Spec PyProof.Rows L2 Z LamX NdefX
theorem exl_late {H0 H1 H2 : Hp} {l : List Addr} (a : But [] H0 H1) (b : Ex l H1 H2) (n : ∀ q ∈ l, H0 q = none) : Ex [] H0 H2 := fun q o _ e h => b q o (fun z => by rw [n q z] at e; cases e) (a q o (by simp) e) h
def tabs14 (P1 P2 P3 : Addr) : List (Addr × Str) := [(P1, qOf "Machine.unlike_line"), (P2, qOf "Machine.is_within"), (P3, qOf "Machine.first_line")]
section
variable {P : Program} {w : World} {K : PySem.W.Frag} {mg : Str → Option Value} {base : Heap} {CM : Addr}
/-! ### the law -/
def spLaw14 (K : PySem.W.Frag) (T : List (Addr × Str)) : Sp := fun vs H Q _ => ∃ (a : Addr) (ns : List Int), vs = [.ref a] ∧ SqL K H a (ns.map V.int) ∧ ns.length ≤ 63 ∧ Tabs T H ∧ ∀ H', Q (.bl true) H'
theorem scLw : FnScope ["script", "k"] ["script"] (defScope (top 65)) := ⟨rfl, rfl, rfl, by decide +kernel, rfl, by decide +kernel, by decide +kernel⟩
theorem d_law14 {T : List (Addr × Str)} (B : Blt mg base) (D : At K mg "law" (top 65)) (D1 : Def P w K mg base 1 "_law_pot" (top 53) ["script", "k"] (spPotMk K)) (D2 : DefG P w K mg base 9 "_law_right" (top 64) ["pot"] (spRight CM T)) :
    DefG P w K mg base 10 "law" (top 65) ["script"] (spLaw14 K T) := by
  refine defG_of D B scLw (fun vs H Q E ⟨_, _, e, _⟩ => by rw [e]; rfl) fun f cdv A outer s H vs Q E hm C g h => ?_
  obtain ⟨a, ns, rfl, ha, hn, hT, hQ⟩ := h
  refine b_cons (s_ret (e_all C (e_lc [("k", 1)] C (i_range1 B (e_max2 C (e_int (e_min2 C (e_len B (e_name 0 (v := .ref a) ?_)))))))))
  refine ⟨ns.length, .inl ⟨_, ha, by simp⟩, e_int ⟨_, _, rfl, rfl, _, _, rfl, rfl, ?_⟩⟩
  have hj : ∃ j : Nat, j ≤ 4 ∧ (if (if (4 : Int) < ((ns.length : Nat) : Int) then (4 : Int) else ((ns.length : Nat) : Int)) > 1 then (if (4 : Int) < ((ns.length : Nat) : Int) then (4 : Int) else ((ns.length : Nat) : Int)) else 1) = (j : Int) := by
    by_cases h4 : (4 : Int) < ((ns.length : Nat) : Int)
    · rw [if_pos h4]
      exact ⟨4, by decide, rfl⟩
    · rw [if_neg h4]
      by_cases h1 : ((ns.length : Nat) : Int) > 1
      · rw [if_pos h1]
        exact ⟨ns.length, by omega, rfl⟩
      · rw [if_neg h1]
        exact ⟨1, by decide, rfl⟩
  obtain ⟨j, j4, ej⟩ := hj
  refine ⟨_, rfl, ?_⟩
  rw [ej]
  refine ⟨by omega, by omega, j, _, _, walk_range, fun Dl hDl => ⟨fun i H' => Ex [] H H' ∧ Tabs T H' ∧ H' Dl = some (.lst (List.replicate i (.bl true))), ⟨(But.new hDl).ex, tabs_new hT (But.new hDl), upd_same⟩, fun _ _ _ _ => trivial, ?_, ?_⟩⟩
  · rintro i x H3 H' hi ⟨x3, T3, hD3⟩ ⟨rfl, rfl⟩
    refine lc_plain (i := 1) C.nd fun s H0 Ca cl fp => e_callG (C.blk _ _ _ _ _) g D2 (a_cons (e_call ((C.mono (by decide)).blk _ _ _ _ _) D1 (a_cons (e_name 0 (v := .ref a) (a_cons (e_name 1 (a_nil ?_))))) rfl (fun _ _ _ _ _ _ us hl => match us, hl with | [_, _], _ => rfl))) rfl (fun _ _ _ _ _ _ us hl => match us, hl with | [_], _ => rfl)
    refine ⟨a, ns, i, by simp, x3.sql (by simp) ha, by omega, by omega, fun p H4 b4 hpn hp4 => a_nil ⟨p, rfl, hp4, tabs_new T3 b4, fun H5 x5 T5 => ?_⟩⟩
    have x35 : Ex [] H' H5 := exl_late b4 x5 fun q hq => by rw [List.mem_singleton.mp hq]; exact hpn
    have hD5 := x35.lst (by simp) hD3
    refine ⟨_, hD5, by rw [List.length_replicate, sizeLine_eq]; omega, fun q o _ e h => ?_, tabs_but T5 (But.at (l := [Dl]) (by simp)) (fun q hq => ⟨List.replicate i (.bl true), by rw [List.mem_singleton.mp hq]; exact hD5⟩), ?_⟩
    · rw [upd_ne (ne_of_none e hDl)]
      exact (x3.trans x35) q o (by simp) e h
    · rw [upd_same, ← List.replicate_succ']
  · rintro H3 ⟨x3, T3, hD3⟩
    refine ⟨Dl, List.replicate j true, rfl, .inl (.inl (by rw [hD3, List.map_replicate])), ?_⟩
    rw [show (List.replicate j true).all id = true by simp]
    exact hQ H3
end
end K14

set_option Elab.async false
set_option linter.all false
set_option maxRecDepth 100000
set_option maxHeartbeats 4000000
namespace K14
open PySem PySem.Spec PyProof.Rows L2 Z LamX NdefX
theorem meth_mk {K : PySem.W.Frag} {CR f : Addr} {m q : Str} {st : Stmt} {oc doc pm cdv ct : Value} {od an : Option Addr} {osl : Array (Option Value)} (a1 : PySem.W.findIn K (.ref CR) m = some (some (.ref f))) (a2 : PySem.W.isFn K (.ref f) = true)
    (a3 : PySem.W.keepIn K (.ref f) = true) (a5 : K.lookup f = some ⟨oc, od, .func (PySem.W.fnOf m q (defArgs st) (defBody st) (defScope st) .none .none doc pm an cdv ct), osl⟩) (a6 : PySem.W.codeIn K cdv q = true) : MethAt K CR m q st :=
  ⟨f, oc, doc, pm, cdv, ct, od, an, osl, ⟨a1, a2, a3⟩, a5, a6⟩
theorem methc_mk {K : PySem.W.Frag} {CR f c : Addr} {m q : Str} {st : Stmt} {oc doc pm ct : Value} {od an : Option Addr} {osl : Array (Option Value)} (a1 : PySem.W.findIn K (.ref CR) m = some (some (.ref f))) (a2 : PySem.W.isFn K (.ref f) = true)
    (a3 : PySem.W.keepIn K (.ref f) = true) (a5 : K.lookup f = some ⟨oc, od, .func (PySem.W.fnOf m q (defArgs st) (defBody st) (defScope st) .none .none doc pm an (.ref c) ct), osl⟩) (a6 : PySem.W.codeIn K (.ref c) q = true) : MethAtC K CR m q st c :=
  ⟨f, oc, doc, pm, ct, od, an, osl, ⟨a1, a2, a3⟩, a5, a6⟩
theorem cfound_mk {K : PySem.W.Frag} {C p : Addr} {m : Str} (a3 : PySem.W.findIn K (.type "type") m = some none) (a4 : PySem.W.findIn K (.ref C) m = some (some (.ref p))) (a5 : PySem.W.typeIn K (.ref p) = some (.type "classmethod")) (a6 : PySem.W.specialIn K (.ref p) "__get__" = some (some (.builtin "classmethod.__get__"))) :
    PySem.W.findCls K (.ref C) (.type "type") m = some (.get (.builtin "classmethod.__get__") (.ref p) .none (.ref C)) := by
  unfold PySem.W.findCls
  rw [a3]
  show ((PySem.W.findIn K (.ref C) m).bind _) = _
  rw [a4]
  simp only [Option.bind_some]
  rw [if_neg (show ¬ PySem.Builtin.heldUnderItsOwnName m (.ref p) = true from fun z => by cases z), a5]
  simp only [Option.bind_some]
  rw [if_neg (by decide), a6]
  rfl
theorem cmeth_mk {K : PySem.W.Frag} {C p g : Addr} {m q : Str} {st : Stmt} {oc doc pm cdv ct : Value} {od an : Option Addr} {osl : Array (Option Value)} {rest : List Value} (a1 : PySem.W.readsIn K C (.type "type") = true) (a2 : PySem.W.specialIn K (.ref C) "__getattribute__" = some (some (.builtin "type.__getattribute__")))
    (a3 : PySem.W.findIn K (.type "type") m = some none) (a4 : PySem.W.findIn K (.ref C) m = some (some (.ref p))) (a5 : PySem.W.typeIn K (.ref p) = some (.type "classmethod")) (a6 : PySem.W.specialIn K (.ref p) "__get__" = some (some (.builtin "classmethod.__get__")))
    (a7 : PySem.W.recIn K p "classmethod" = some (.ref g :: rest)) (a8 : PySem.W.fnIn K g = true) (a9 : K.lookup g = some ⟨oc, od, .func (PySem.W.fnOf m q (defArgs st) (defBody st) (defScope st) .none .none doc pm an cdv ct), osl⟩) (a10 : PySem.W.codeIn K cdv q = true) : CMethAt K C m q st :=
  ⟨p, g, .type "type", oc, doc, pm, cdv, ct, od, an, osl, ⟨a1, a2⟩, ⟨cfound_mk a3 a4 a5 a6, ⟨rest, a7⟩, a8⟩, a9, a10⟩
theorem tabs14_u {P1 P2 P3 : Addr} (h : P1 ≠ P2 ∧ P1 ≠ P3 ∧ P2 ≠ P3) : (∀ p ∈ tabs14 P1 P2 P3, p.1 = P1 → p.2 = qOf "Machine.unlike_line") ∧ (∀ p ∈ tabs14 P1 P2 P3, p.1 = P2 → p.2 = qOf "Machine.is_within") ∧ (∀ p ∈ tabs14 P1 P2 P3, p.1 = P3 → p.2 = qOf "Machine.first_line") := by
  obtain ⟨a, b, c⟩ := h
  refine ⟨fun p hp e => ?_, fun p hp e => ?_, fun p hp e => ?_⟩
  · simp only [tabs14, List.mem_cons, List.not_mem_nil, or_false] at hp
    rcases hp with rfl | rfl | rfl
    · exact rfl
    · exact absurd e.symm a
    · exact absurd e.symm b
  · simp only [tabs14, List.mem_cons, List.not_mem_nil, or_false] at hp
    rcases hp with rfl | rfl | rfl
    · exact absurd e a
    · exact rfl
    · exact absurd e.symm c
  · simp only [tabs14, List.mem_cons, List.not_mem_nil, or_false] at hp
    rcases hp with rfl | rfl | rfl
    · exact absurd e b
    · exact absurd e c
    · exact rfl

structure Facts (K : PySem.W.Frag) (w : World) (mg : Str → Option Value) (CM c1 c2 c3 : Addr) : Prop where
  g_Machine : mg "Machine" = some (.ref CM)
  B : BltN mg
  T : Consts mg
  a_are_signs : At K mg "are_signs" (top 18)
  a_is_integer : At K mg "is_integer" (top 15)
  a_is_list : At K mg "is_list" (top 17)
  a_is_line : At K mg "is_line" (top 20)
  a_want_signs : At K mg "want_signs" (top 19)
  a_is_count : At K mg "is_count" (top 16)
  a_is_state : At K mg "is_state" (top 25)
  a_is_row : At K mg "is_row" (top 26)
  a_want_rows : At K mg "want_rows" (top 27)
  a_want_ends : At K mg "want_ends" (top 28)
  a_marked : At K mg "marked" (top 36)
  a_reached : At K mg "reached" (top 29)
  a_numbered : At K mg "numbered" (top 30)
  a_first_marks : At K mg "first_marks" (top 33)
  TF : ConstsF mg
  a_class_numbers : At K mg "class_numbers" (top 34)
  a_least_parts : At K mg "least_parts" (top 35)
  iM : InitM K CM
  CL : ClsM K CM
  a_ends_of : At K mg "ends_of" (top 37)
  m_Machine___repr__ : MethAt K CM "__repr__" "Machine.__repr__" (clsAt (top 51) 26)
  IC_Machine : C8.InsC K CM
  hdd : PySem.W.hasDictIn K CM = true
  hty : PySem.W.typeIn K (.ref CM) = some (.type "type")
  m_Machine___eq__ : MethAt K CM "__eq__" "Machine.__eq__" (clsAt (top 51) 25)
  a_want_same_signs : At K mg "want_same_signs" (top 22)
  a_end_of : At K mg "end_of" (top 46)
  m_Machine___contains__ : MethAt K CM "__contains__" "Machine.__contains__" (clsAt (top 51) 13)
  cE : CMethAt K CM "every" "Machine.every" (clsAt (top 51) 2)
  cO : CMethAt K CM "nothing" "Machine.nothing" (clsAt (top 51) 3)
  m_Machine___neg__ : MethAt K CM "__neg__" "Machine.__neg__" (clsAt (top 51) 17)
  mU : MethAtC K CM "unlike_line" "Machine.unlike_line" (clsAt (top 51) 19) c1
  a_first_pair_line : At K mg "first_pair_line" (top 50)
  mW : MethAtC K CM "is_within" "Machine.is_within" (clsAt (top 51) 18) c2
  mF : MethAtC K CM "first_line" "Machine.first_line" (clsAt (top 51) 20) c3
  a_law_pot : At K mg "_law_pot" (top 53)
  a_law_draw : At K mg "_law_draw" (top 54)
  a_law_alpha : At K mg "_law_alpha" (top 56)
  a_law_model : At K mg "_law_model" (top 57)
  a_law_moved : At K mg "_law_moved" (top 63)
  a_law_fronted : At K mg "_law_fronted" (top 62)
  a_law_far : At K mg "_law_far" (top 61)
  a_law_second : At K mg "_law_second" (top 60)
  a_law_first : At K mg "_law_first" (top 58)
  a_law_pair_right : At K mg "_law_pair_right" (top 59)
  hne_Machine : PySem.W.findIn K (.ref CM) "__ne__" = some (some (.builtin "object.__ne__"))
  a_law_right : At K mg "_law_right" (top 64)
  a_law : At K mg "law" (top 65)
theorem law_def {P : Program} {w : World} {K : PySem.W.Frag} {mg : Str → Option Value} {base : Heap} {CM c1 c2 c3 P1 P2 P3 : Addr} (F : Facts K w mg CM c1 c2 c3) (S : SysAt base) (hne : P1 ≠ P2 ∧ P1 ≠ P3 ∧ P2 ≠ P3) (TB1 : TabB base mg c1 P1) (TB2 : TabB base mg c2 P2) (TB3 : TabB base mg c3 P3) : DefG P w K mg base 10 "law" (top 65) ["script"] (spLaw14 K (tabs14 P1 P2 P3)) := by
  have B := F.B.at S
  have areS : Def P w K mg base 1 "are_signs" (top 18) ["value"] (sp1 K areSigns) := d_areSigns B F.a_are_signs F.T
  have isInt : Def P w K mg base 1 "is_integer" (top 15) ["value"] (sp1 K isInteger) := d_isInteger B F.a_is_integer
  have isList : Def P w K mg base 1 "is_list" (top 17) ["value"] (sp1 K isSeq) := d_isList B F.a_is_list
  have isLine : Def P w K mg base 1 "is_line" (top 20) ["signs", "value"] (spLine K) := d_isLine B F.a_is_line
  have fineS := d_fineSigns B F.a_want_signs areS
  have isCount := d_isCount B F.a_is_count isInt
  have isState := d_isState B F.a_is_state isCount
  have isRow := d_isRow B F.a_is_row isList isState
  have wantRows := d_wantRows B F.a_want_rows isList isRow
  have wantEnds := d_wantEnds B F.a_want_ends isList isState
  have marked : Def P w K mg base 1 "marked" (top 36) ["many", "ends"] spMarked := d_marked B F.a_marked
  have reached : Def P w K mg base 1 "reached" (top 29) ["rows"] spReached := d_reached B F.a_reached
  have numB : Def P w K mg base 1 "numbered" (top 30) ["marks"] spNumB := d_numB B F.a_numbered
  have numT : Def P w K mg base 1 "numbered" (top 30) ["marks"] spNumT := d_numT B F.a_numbered
  have first : Def P w K mg base 1 "first_marks" (top 33) ["rows", "some", "accepts"] spFirst := d_first B F.a_first_marks F.TF
  have classes := d_classes B F.a_class_numbers reached first numB numT
  have parts := d_parts B F.a_least_parts classes
  have MM : MakeM P w K mg base CM := F.iM.make B F.CL F.g_Machine fineS wantRows wantEnds marked parts
  have endsOf' : Def P w K mg base 1 "ends_of" (top 37) ["accepts"] spEndsOf := d_endsOf B F.a_ends_of
  have MR := d_reprC B F.CL F.m_Machine___repr__ endsOf'
  have MQ : MethOk P w K mg base 1 CM "__eq__" ["self", "other"] (spEqB (EqM K CM)) := d_eqM B F.CL F.IC_Machine F.hdd F.hty F.g_Machine F.m_Machine___eq__
  have same : Def P w K mg base 1 "want_same_signs" (top 22) ["one", "other"] spSame := d_same B F.a_want_same_signs
  have endO : Def P w K mg base 1 "end_of" (top 46) ["machine", "line"] (spEndOf CM) := d_end B F.CL F.a_end_of
  have MH := d_hasM B F.CL F.m_Machine___contains__ isLine endO
  have ME := d_every B F.cE fineS MM
  have MO := d_nothing B F.cO fineS MM
  have MN := d_negM B F.CL F.m_Machine___neg__ MM
  have MU := d_unlike (T := tabs14 P1 P2 P3) B F.CL F.mU TB1 (by unfold tabs14; simp only [List.mem_cons, true_or, or_true]) (tabs14_u hne).1 same F.a_first_pair_line
  have MW := d_within (T := tabs14 P1 P2 P3) B F.CL F.mW TB2 (by unfold tabs14; simp only [List.mem_cons, true_or, or_true]) (tabs14_u hne).2.1 same F.a_first_pair_line
  have MF := d_firstLine (T := tabs14 P1 P2 P3) B F.CL F.mF TB3 (by unfold tabs14; simp only [List.mem_cons, true_or, or_true]) (tabs14_u hne).2.2 same F.a_first_pair_line
  have pot : Def P w K mg base 1 "_law_pot" (top 53) ["script", "k"] (spPotMk K) := d_pot B F.a_law_pot
  have draw := d_draw (P := P) (w := w) (K := K) B F.a_law_draw
  have alpha := d_alpha B F.a_law_alpha draw
  have model := d_model B F.a_law_model draw
  have moved := d_moved (P := P) (w := w) (K := K) B F.a_law_moved
  have fronted := d_fronted B F.a_law_fronted moved
  have far := d_far B F.a_law_far draw moved fronted
  have second := d_second B F.a_law_second draw model far
  have firstL := d_first14 (P := P) (w := w) (K := K) B F.a_law_first
  have pair := d_pair14 B F.CL F.a_law_pair_right firstL MU MW MF MQ MH F.hne_Machine F.IC_Machine.hm
  have right := d_right14 B F.CL F.g_Machine F.a_law_right MM alpha model second pair MR ME MO MN MU MF MQ
  exact d_law14 B F.a_law pot right
/-- the law's promise at the head's heap -/
theorem law_at {l : PySem.W.OpenLaw} {w : World} {K : PySem.W.Frag} {mg : Str → Option Value} {h : Heap} {fa CM c1 c2 c3 P1 P2 P3 : Addr} (F : Facts K w mg CM c1 c2 c3) (hfa : mg "law" = some (.ref fa)) (hne : P1 ≠ P2 ∧ P1 ≠ P3 ∧ P2 ≠ P3) (hT1 : h.get? P1 = some { cls := .none, data := .fields #[] }) (nT1 : K.lookup P1 = none) (hC1 : PySem.W.CodeHd h c1 P1) (hT2 : h.get? P2 = some { cls := .none, data := .fields #[] }) (nT2 : K.lookup P2 = none) (hC2 : PySem.W.CodeHd h c2 P2) (hT3 : h.get? P3 = some { cls := .none, data := .fields #[] }) (nT3 : K.lookup P3 = none) (hC3 : PySem.W.CodeHd h c3 P3) :
    LawG l w K 10 63 "script" mg fa h := by
  refine ⟨[(c1, P1), (c2, P2), (c3, P3)], spLaw14 K (tabs14 P1 P2 P3), fun p hp => ?_, fun p hp => ?_, fun p hp => ?_, fun H a ns hn hb hT hS => ?_, fun base KB G S hTB => ?_⟩
  ·
    simp only [List.mem_cons, List.not_mem_nil, or_false] at hp
    rcases hp with rfl | rfl | rfl
    · exact hT1
    · exact hT2
    · exact hT3
  ·
    simp only [List.mem_cons, List.not_mem_nil, or_false] at hp
    rcases hp with rfl | rfl | rfl
    · exact nT1
    · exact nT2
    · exact nT3
  ·
    simp only [List.mem_cons, List.not_mem_nil, or_false] at hp
    rcases hp with rfl | rfl | rfl
    · exact hC1
    · exact hC2
    · exact hC3
  · refine ⟨a, ns, rfl, hS, hn, fun p hp => ?_, fun _ => rfl⟩
    simp only [tabs14, List.mem_cons, List.not_mem_nil, or_false] at hp
    rcases hp with rfl | rfl | rfl
    · exact TabS.nil (hT (c1, P1) (by simp))
    · exact TabS.nil (hT (c2, P2) (by simp))
    · exact TabS.nil (hT (c3, P3) (by simp))
  · obtain ⟨f2, kV2, doc2, pm2, an2, cdv2, ct2, hm2, kp2, G2⟩ := (law_def (P := l.prog) (w := w) F S hne (hTB (c1, P1) (by simp)) (hTB (c2, P2) (by simp)) (hTB (c3, P3) (by simp))).ex
    have e2 := hfa.symm.trans hm2
    cases e2
    exact ⟨_, fun s u => .of_eq rfl, G2⟩
end K14

set_option Elab.async false
set_option linter.all false
open PySem PySem.W PyProof.Rows
set_option maxRecDepth 100000 in
set_option maxHeartbeats 0 in
theorem PySem.Challenge.cw_frontlines_k14_least_lines_holds : PySem.Challenge.rw_frontlines_k14_least_lines.Holds := by
  w_on; o_law
  refine HH.top (by assumption) (by rfl) (by rfl) (by rfl) ?hw ?hc
  (case hw => w_witness2)
  k_fill
  refine Z.walk_G (n := 63) (k := 10) (x := "script") rfl (by decide) rfl ⟨rfl, by decide, by decide⟩ (fun w h Y => PySem.W.km_in_of Y) (by first | rfl | kernel_rfl) ?F
  intro w mg fa h Y KX G hmg
  have tabs := PySem.W.km_tabs_of Y
  have B : Z.BltN mg := by
    refine' Z.bltn_mk KX G ?a1 ?a2 ?a3 ?a4 ?a5 ?a6 ?a7 ?a8 ?a9 ?a10 ?a11 ?a12 ?a13 ?a14 ?a15 ?a16 ?a17 ?a18 ?a19 ?a20 ?a21 ?a22 <;> k_is
  refine' K14.law_at (P1 := 514) (P2 := 507) (P3 := 521) ⟨(W.mg_of KX G ?g_Machineg1),
      B,
      ⟨(Z.const_mk KX G ?tac1 ?tar), (Z.const_mk KX G ?tbc1 ?tbr), (Z.const_mk KX G ?tcc1 ?tcr)⟩,
      Z.at_mk KX G ?da_are_signs1 ?da_are_signs2 ?da_are_signs3 ?da_are_signs4,
      Z.at_mk KX G ?da_is_integer1 ?da_is_integer2 ?da_is_integer3 ?da_is_integer4,
      Z.at_mk KX G ?da_is_list1 ?da_is_list2 ?da_is_list3 ?da_is_list4,
      Z.at_mk KX G ?da_is_line1 ?da_is_line2 ?da_is_line3 ?da_is_line4,
      Z.at_mk KX G ?da_want_signs1 ?da_want_signs2 ?da_want_signs3 ?da_want_signs4,
      Z.at_mk KX G ?da_is_count1 ?da_is_count2 ?da_is_count3 ?da_is_count4,
      Z.at_mk KX G ?da_is_state1 ?da_is_state2 ?da_is_state3 ?da_is_state4,
      Z.at_mk KX G ?da_is_row1 ?da_is_row2 ?da_is_row3 ?da_is_row4,
      Z.at_mk KX G ?da_want_rows1 ?da_want_rows2 ?da_want_rows3 ?da_want_rows4,
      Z.at_mk KX G ?da_want_ends1 ?da_want_ends2 ?da_want_ends3 ?da_want_ends4,
      Z.at_mk KX G ?da_marked1 ?da_marked2 ?da_marked3 ?da_marked4,
      Z.at_mk KX G ?da_reached1 ?da_reached2 ?da_reached3 ?da_reached4,
      Z.at_mk KX G ?da_numbered1 ?da_numbered2 ?da_numbered3 ?da_numbered4,
      Z.at_mk KX G ?da_first_marks1 ?da_first_marks2 ?da_first_marks3 ?da_first_marks4,
      ⟨(Z.const_mk KX G ?fac1 ?far)⟩,
      Z.at_mk KX G ?da_class_numbers1 ?da_class_numbers2 ?da_class_numbers3 ?da_class_numbers4,
      Z.at_mk KX G ?da_least_parts1 ?da_least_parts2 ?da_least_parts3 ?da_least_parts4,
      K14.initM_mk ?iM1 ?iM2 ?iM3 ?iM4 ?iM5 ?iM6 ?iM7 ?iM8 ?iMv,
      ⟨⟨?clCL1, ?clCL2, ?clCL3, ?clCL4⟩, ?naCL1, ?naCL2, ?naCL3⟩,
      Z.at_mk KX G ?da_ends_of1 ?da_ends_of2 ?da_ends_of3 ?da_ends_of4,
      K14.meth_mk ?m_Machine___repr___1 ?m_Machine___repr___2 ?m_Machine___repr___3 ?m_Machine___repr___4 ?m_Machine___repr___5,
      ⟨⟨?icIC_Machine1, ?icIC_Machine2, ?icIC_Machine3, ?icIC_Machine4⟩, ?ihIC_Machine1, ?ihIC_Machine2, ?ihIC_Machine3, ?ihIC_Machine4, Z.kit_ref ?ikIC_Machine1 ?ikIC_Machine2 ?ikIC_Machine3⟩,
      ?hdd1,
      ?hty1,
      K14.meth_mk ?m_Machine___eq___1 ?m_Machine___eq___2 ?m_Machine___eq___3 ?m_Machine___eq___4 ?m_Machine___eq___5,
      Z.at_mk KX G ?da_want_same_signs1 ?da_want_same_signs2 ?da_want_same_signs3 ?da_want_same_signs4,
      Z.at_mk KX G ?da_end_of1 ?da_end_of2 ?da_end_of3 ?da_end_of4,
      K14.meth_mk ?m_Machine___contains___1 ?m_Machine___contains___2 ?m_Machine___contains___3 ?m_Machine___contains___4 ?m_Machine___contains___5,
      K14.cmeth_mk ?cE1 ?cE2 ?cE3 ?cE4 ?cE5 ?cE6 ?cE7 ?cE8 ?cE9 ?cE10,
      K14.cmeth_mk ?cO1 ?cO2 ?cO3 ?cO4 ?cO5 ?cO6 ?cO7 ?cO8 ?cO9 ?cO10,
      K14.meth_mk ?m_Machine___neg___1 ?m_Machine___neg___2 ?m_Machine___neg___3 ?m_Machine___neg___4 ?m_Machine___neg___5,
      K14.methc_mk ?mU1 ?mU2 ?mU3 ?mU4 ?mU5,
      Z.at_mk KX G ?da_first_pair_line1 ?da_first_pair_line2 ?da_first_pair_line3 ?da_first_pair_line4,
      K14.methc_mk ?mW1 ?mW2 ?mW3 ?mW4 ?mW5,
      K14.methc_mk ?mF1 ?mF2 ?mF3 ?mF4 ?mF5,
      Z.at_mk KX G ?da_law_pot1 ?da_law_pot2 ?da_law_pot3 ?da_law_pot4,
      Z.at_mk KX G ?da_law_draw1 ?da_law_draw2 ?da_law_draw3 ?da_law_draw4,
      Z.at_mk KX G ?da_law_alpha1 ?da_law_alpha2 ?da_law_alpha3 ?da_law_alpha4,
      Z.at_mk KX G ?da_law_model1 ?da_law_model2 ?da_law_model3 ?da_law_model4,
      Z.at_mk KX G ?da_law_moved1 ?da_law_moved2 ?da_law_moved3 ?da_law_moved4,
      Z.at_mk KX G ?da_law_fronted1 ?da_law_fronted2 ?da_law_fronted3 ?da_law_fronted4,
      Z.at_mk KX G ?da_law_far1 ?da_law_far2 ?da_law_far3 ?da_law_far4,
      Z.at_mk KX G ?da_law_second1 ?da_law_second2 ?da_law_second3 ?da_law_second4,
      Z.at_mk KX G ?da_law_first1 ?da_law_first2 ?da_law_first3 ?da_law_first4,
      Z.at_mk KX G ?da_law_pair_right1 ?da_law_pair_right2 ?da_law_pair_right3 ?da_law_pair_right4,
      ?hne_Machine1,
      Z.at_mk KX G ?da_law_right1 ?da_law_right2 ?da_law_right3 ?da_law_right4,
      Z.at_mk KX G ?da_law1 ?da_law2 ?da_law3 ?da_law4⟩ hmg (by decide) (tabs 514 (by simp)) ?nT1 (W.codeHd_of_K KX ?hC1) (tabs 507 (by simp)) ?nT2 (W.codeHd_of_K KX ?hC2) (tabs 521 (by simp)) ?nT3 (W.codeHd_of_K KX ?hC3)
  (case g_Machineg1 => k_is)
  (case tac1 => k_is)
  (case tar => exact ⟨_, rfl⟩)
  (case tbc1 => k_is)
  (case tbr => exact ⟨_, rfl⟩)
  (case tcc1 => k_is)
  (case tcr => exact ⟨_, rfl⟩)
  (case da_are_signs1 => k_is)
  (case da_are_signs2 => k_is)
  (case da_are_signs3 => k_is)
  (case da_are_signs4 => k_is)
  (case da_is_integer1 => k_is)
  (case da_is_integer2 => k_is)
  (case da_is_integer3 => k_is)
  (case da_is_integer4 => k_is)
  (case da_is_list1 => k_is)
  (case da_is_list2 => k_is)
  (case da_is_list3 => k_is)
  (case da_is_list4 => k_is)
  (case da_is_line1 => k_is)
  (case da_is_line2 => k_is)
  (case da_is_line3 => k_is)
  (case da_is_line4 => k_is)
  (case da_want_signs1 => k_is)
  (case da_want_signs2 => k_is)
  (case da_want_signs3 => k_is)
  (case da_want_signs4 => k_is)
  (case da_is_count1 => k_is)
  (case da_is_count2 => k_is)
  (case da_is_count3 => k_is)
  (case da_is_count4 => k_is)
  (case da_is_state1 => k_is)
  (case da_is_state2 => k_is)
  (case da_is_state3 => k_is)
  (case da_is_state4 => k_is)
  (case da_is_row1 => k_is)
  (case da_is_row2 => k_is)
  (case da_is_row3 => k_is)
  (case da_is_row4 => k_is)
  (case da_want_rows1 => k_is)
  (case da_want_rows2 => k_is)
  (case da_want_rows3 => k_is)
  (case da_want_rows4 => k_is)
  (case da_want_ends1 => k_is)
  (case da_want_ends2 => k_is)
  (case da_want_ends3 => k_is)
  (case da_want_ends4 => k_is)
  (case da_marked1 => k_is)
  (case da_marked2 => k_is)
  (case da_marked3 => k_is)
  (case da_marked4 => k_is)
  (case da_reached1 => k_is)
  (case da_reached2 => k_is)
  (case da_reached3 => k_is)
  (case da_reached4 => k_is)
  (case da_numbered1 => k_is)
  (case da_numbered2 => k_is)
  (case da_numbered3 => k_is)
  (case da_numbered4 => k_is)
  (case da_first_marks1 => k_is)
  (case da_first_marks2 => k_is)
  (case da_first_marks3 => k_is)
  (case da_first_marks4 => k_is)
  (case fac1 => k_is)
  (case far => exact ⟨_, rfl⟩)
  (case da_class_numbers1 => k_is)
  (case da_class_numbers2 => k_is)
  (case da_class_numbers3 => k_is)
  (case da_class_numbers4 => k_is)
  (case da_least_parts1 => k_is)
  (case da_least_parts2 => k_is)
  (case da_least_parts3 => k_is)
  (case da_least_parts4 => k_is)
  (case iM1 => k_is)
  (case iM2 => k_is)
  (case iM3 => k_is)
  (case iM4 => k_is)
  (case iM5 => k_is)
  (case iM6 => k_is)
  (case iM7 => k_is)
  (case iM8 => k_is)
  (case iMv => exact .cons ⟨_, rfl⟩ .nil)
  (case naCL1 => unfold L2.NoAttr; k_is)
  (case naCL2 => unfold L2.NoAttr; k_is)
  (case naCL3 => unfold L2.NoAttr; k_is)
  (case clCL1 => k_is)
  (case clCL2 => k_is)
  (case clCL3 => k_is)
  (case clCL4 => k_is)
  (case da_ends_of1 => k_is)
  (case da_ends_of2 => k_is)
  (case da_ends_of3 => k_is)
  (case da_ends_of4 => k_is)
  (case m_Machine___repr___1 => k_is)
  (case m_Machine___repr___2 => k_is)
  (case m_Machine___repr___3 => k_is)
  (case m_Machine___repr___4 => k_is)
  (case m_Machine___repr___5 => k_is)
  (case icIC_Machine1 => k_is)
  (case icIC_Machine2 => k_is)
  (case icIC_Machine3 => k_is)
  (case icIC_Machine4 => k_is)
  (case ihIC_Machine1 => k_is)
  (case ihIC_Machine2 => k_is)
  (case ihIC_Machine3 => k_is)
  (case ihIC_Machine4 => k_is)
  (case ikIC_Machine1 => k_is)
  (case ikIC_Machine2 => k_is)
  (case ikIC_Machine3 => k_is)
  (case hdd1 => k_is)
  (case hty1 => k_is)
  (case m_Machine___eq___1 => k_is)
  (case m_Machine___eq___2 => k_is)
  (case m_Machine___eq___3 => k_is)
  (case m_Machine___eq___4 => k_is)
  (case m_Machine___eq___5 => k_is)
  (case da_want_same_signs1 => k_is)
  (case da_want_same_signs2 => k_is)
  (case da_want_same_signs3 => k_is)
  (case da_want_same_signs4 => k_is)
  (case da_end_of1 => k_is)
  (case da_end_of2 => k_is)
  (case da_end_of3 => k_is)
  (case da_end_of4 => k_is)
  (case m_Machine___contains___1 => k_is)
  (case m_Machine___contains___2 => k_is)
  (case m_Machine___contains___3 => k_is)
  (case m_Machine___contains___4 => k_is)
  (case m_Machine___contains___5 => k_is)
  (case cE1 => k_is)
  (case cE2 => k_is)
  (case cE3 => k_is)
  (case cE4 => k_is)
  (case cE5 => k_is)
  (case cE6 => k_is)
  (case cE7 => k_is)
  (case cE8 => k_is)
  (case cE9 => k_is)
  (case cE10 => k_is)
  (case cO1 => k_is)
  (case cO2 => k_is)
  (case cO3 => k_is)
  (case cO4 => k_is)
  (case cO5 => k_is)
  (case cO6 => k_is)
  (case cO7 => k_is)
  (case cO8 => k_is)
  (case cO9 => k_is)
  (case cO10 => k_is)
  (case m_Machine___neg___1 => k_is)
  (case m_Machine___neg___2 => k_is)
  (case m_Machine___neg___3 => k_is)
  (case m_Machine___neg___4 => k_is)
  (case m_Machine___neg___5 => k_is)
  (case mU1 => k_is)
  (case mU2 => k_is)
  (case mU3 => k_is)
  (case mU4 => k_is)
  (case mU5 => k_is)
  (case da_first_pair_line1 => k_is)
  (case da_first_pair_line2 => k_is)
  (case da_first_pair_line3 => k_is)
  (case da_first_pair_line4 => k_is)
  (case mW1 => k_is)
  (case mW2 => k_is)
  (case mW3 => k_is)
  (case mW4 => k_is)
  (case mW5 => k_is)
  (case mF1 => k_is)
  (case mF2 => k_is)
  (case mF3 => k_is)
  (case mF4 => k_is)
  (case mF5 => k_is)
  (case da_law_pot1 => k_is)
  (case da_law_pot2 => k_is)
  (case da_law_pot3 => k_is)
  (case da_law_pot4 => k_is)
  (case da_law_draw1 => k_is)
  (case da_law_draw2 => k_is)
  (case da_law_draw3 => k_is)
  (case da_law_draw4 => k_is)
  (case da_law_alpha1 => k_is)
  (case da_law_alpha2 => k_is)
  (case da_law_alpha3 => k_is)
  (case da_law_alpha4 => k_is)
  (case da_law_model1 => k_is)
  (case da_law_model2 => k_is)
  (case da_law_model3 => k_is)
  (case da_law_model4 => k_is)
  (case da_law_moved1 => k_is)
  (case da_law_moved2 => k_is)
  (case da_law_moved3 => k_is)
  (case da_law_moved4 => k_is)
  (case da_law_fronted1 => k_is)
  (case da_law_fronted2 => k_is)
  (case da_law_fronted3 => k_is)
  (case da_law_fronted4 => k_is)
  (case da_law_far1 => k_is)
  (case da_law_far2 => k_is)
  (case da_law_far3 => k_is)
  (case da_law_far4 => k_is)
  (case da_law_second1 => k_is)
  (case da_law_second2 => k_is)
  (case da_law_second3 => k_is)
  (case da_law_second4 => k_is)
  (case da_law_first1 => k_is)
  (case da_law_first2 => k_is)
  (case da_law_first3 => k_is)
  (case da_law_first4 => k_is)
  (case da_law_pair_right1 => k_is)
  (case da_law_pair_right2 => k_is)
  (case da_law_pair_right3 => k_is)
  (case da_law_pair_right4 => k_is)
  (case hne_Machine1 => k_is)
  (case da_law_right1 => k_is)
  (case da_law_right2 => k_is)
  (case da_law_right3 => k_is)
  (case da_law_right4 => k_is)
  (case da_law1 => k_is)
  (case da_law2 => k_is)
  (case da_law3 => k_is)
  (case da_law4 => k_is)
  (case hC1 => first | rfl | kernel_rfl)
  (case nT1 => first | rfl | kernel_rfl)
  (case hC2 => first | rfl | kernel_rfl)
  (case nT2 => first | rfl | kernel_rfl)
  (case hC3 => first | rfl | kernel_rfl)
  (case nT3 => first | rfl | kernel_rfl)
#print axioms PySem.Challenge.cw_frontlines_k14_least_lines_holds

