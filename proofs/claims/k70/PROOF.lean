import PyProof.Rows.All
import Wide.All
import OpenK.AllK
import Wide.FinOn
import HandS.ForMost
import HandS.ForExc
import HandS.TryMany
import HandS.ExcInit
import HandS.ExcField
import HandS.IsInst
import HandS.Lambda
import HandS.Nested
import HandS.EndTab
import HandS.Walk
import HandS.Zip
import HandS.ExcIs
import KE.KExcIs
import HandS.HeadWalk
import PyProof.Draws
import HandS.Text
import HandS.Dict
import PySem.Challenge.RW_frontlines_k70_pieces_told_and_refused
set_option Elab.async false
set_option linter.all false
set_option maxRecDepth 100000
set_option maxHeartbeats 4000000
/-! The weakest readings: each judgement of the hand layer turned into a predicate of the goal, so that a body is gone through from left to right. -/
namespace Z
open PySem PySem.Spec PyProof.Rows L2


/-! ### the judgements -/
structure wE (X : Cx) (e : Expr) (σ : L2.St) (H : Hp) (Q : VK) : Prop where
  run : ∀ pins s, Inv X pins σ H s → wpAny (model X.prog X.w) X.A (eval e X.env) (EP X pins σ Q) X.xe s
structure wT (X : Cx) (e : Expr) (σ : L2.St) (H : Hp) (Q : Bool → Hp → Prop) : Prop where
  run : ∀ pins s, Inv X pins σ H s → wpAny (model X.prog X.w) X.A (isTrue e X.env (eval e X.env)) (TP X pins σ Q) X.xe s
structure wW (X : Cx) (e : Expr) (σ : L2.St) (H : Hp) (Q : Bool → Hp → Prop) : Prop where
  run : ∀ whole pins s, Inv X pins σ H s → wpAny (model X.prog X.w) X.A (isTrue e X.env whole) (TP X pins σ Q) X.xe s
structure wA (X : Cx) (es : List Expr) (σ : L2.St) (H : Hp) (Q : List V → Hp → Prop) : Prop where
  run : ∀ pos pins s, Inv X pins σ H s → wpAny (model X.prog X.w) X.A (spliced (backTo pos (starEach es X.env))) (AP X pins σ Q) X.xe s
structure wK (X : Cx) (kws : List Keyword) (σ : L2.St) (H : Hp) (Q : List V → Hp → Prop) : Prop where
  run : ∀ pos pins s, Inv X pins σ H s → wpAny (model X.prog X.w) X.A (evalAll ((backToKw pos (keywordEach kws X.env)).map (·.2))) (AP X pins σ Q) X.xe s
structure wS (X : Cx) (st : Stmt) (D : Ends) (σ : L2.St) (H : Hp) : Prop where
  run : ∀ pins s, Inv X pins σ H s → wpAny (model X.prog X.w) X.A (exec st X.env) (SP X pins D) X.xe s
structure wB (X : Cx) (sts : List Stmt) (D : Ends) (σ : L2.St) (H : Hp) : Prop where
  run : ∀ pins s, Inv X pins σ H s → wpAny (model X.prog X.w) X.A (execs sts X.env) (SP X pins D) X.xe s
structure wG (X : Cx) (tg : Expr) (v : V) (σ : L2.St) (H : Hp) (Q : L2.St → Hp → Prop) : Prop where
  run : ∀ pins s u, Inv X pins σ H s → RelV v u → wpAny (model X.prog X.w) X.A (assign tg X.env u) (fun _ s' => ∃ σ' H', Inv X pins σ' H' s' ∧ Q σ' H') X.xe s
structure wGs (X : Cx) (ts : List Expr) (vs : List V) (σ : L2.St) (H : Hp) (Q : L2.St → Hp → Prop) : Prop where
  run : ∀ pins s us, Inv X pins σ H s → Vals vs us → wpAny (model X.prog X.w) X.A (assignInOrder ((assignEach ts X.env).map (·.2)) us) (fun _ s' => ∃ σ' H', Inv X pins σ' H' s' ∧ Q σ' H') X.xe s
structure wI (X : Cx) (tg iter : Expr) (σ : L2.St) (H : Hp) (R : It → Hp → Prop) : Prop where
  run : ∀ pins s, Inv X pins σ H s → wpAny (model X.prog X.w) X.A (eval iter X.env) (fun v s1 => wpAny (model X.prog X.w) X.A (pyIter v) (PIE X pins σ tg R) X.xe s1) X.xe s
structure wIf (X : Cx) (ifs : List Expr) (σ : L2.St) (H : Hp) (Q : Bool → Hp → Prop) : Prop where
  run : ∀ pins s, Inv X pins σ H s →
    wpAny (model X.prog X.w) X.A (forIn ifs true fun c r => if r = true then do let ok ← isTrue c X.env (eval c X.env); pure (ForInStep.yield ok) else pure (ForInStep.yield r)) (TP X pins σ Q) X.xe s

section
variable {X : Cx} {e a b c : Expr} {es : List Expr} {st : Stmt} {sts : List Stmt} {σ : L2.St} {H : Hp}
theorem pE : PE X e (wE X e) := ⟨fun pins s _ _ _ I h => h.run pins s I⟩
theorem pT : PT X e (wT X e) := ⟨fun pins s _ _ _ I h => h.run pins s I⟩
theorem pW : PW X e (wW X e) := ⟨fun wh pins s _ _ _ I h => h.run wh pins s I⟩
theorem pA : PA X es (wA X es) := ⟨fun pos pins s _ _ _ I h => h.run pos pins s I⟩
theorem pK {kws : List Keyword} : PK X kws (wK X kws) := ⟨fun pos pins s _ _ _ I h => h.run pos pins s I⟩
theorem pS : PS X st (wS X st) := ⟨fun pins s _ _ _ I h => h.run pins s I⟩
theorem pB : PSs X sts (wB X sts) := ⟨fun pins s _ _ _ I h => h.run pins s I⟩
theorem pG : PG X e (wG X e) := ⟨fun pins s _ _ _ u _ I r h => h.run pins s u I r⟩
theorem pGs : PGs X es (wGs X es) := ⟨fun pins s _ _ _ us _ I r h => h.run pins s us I r⟩
theorem pI {tg iter : Expr} : PI X tg iter (wI X tg iter) := ⟨fun pins s _ _ _ I h => h.run pins s I⟩
theorem pIf : PTs X es (wIf X es) := ⟨fun pins s _ _ _ I h => h.run pins s I⟩
theorem eE {t : TE} {Q : VK} (p : PE X e t) (h : t σ H Q) : wE X e σ H Q := ⟨fun pins s I => p.run pins s σ H Q I h⟩
theorem eT {t : TT} {Q : Bool → Hp → Prop} (p : PT X e t) (h : t σ H Q) : wT X e σ H Q := ⟨fun pins s I => p.run pins s σ H Q I h⟩
theorem eW {t : TT} {Q : Bool → Hp → Prop} (p : PW X e t) (h : t σ H Q) : wW X e σ H Q := ⟨fun wh pins s I => p.run wh pins s σ H Q I h⟩
theorem eA {t : TA} {Q : List V → Hp → Prop} (p : PA X es t) (h : t σ H Q) : wA X es σ H Q := ⟨fun pos pins s I => p.run pos pins s σ H Q I h⟩
theorem eK {kws : List Keyword} {t : TA} {Q : List V → Hp → Prop} (p : PK X kws t) (h : t σ H Q) : wK X kws σ H Q := ⟨fun pos pins s I => p.run pos pins s σ H Q I h⟩
theorem eS {t : TS} {D : Ends} (p : PS X st t) (h : t D σ H) : wS X st D σ H := ⟨fun pins s I => p.run pins s σ H D I h⟩
theorem eB {t : TS} {D : Ends} (p : PSs X sts t) (h : t D σ H) : wB X sts D σ H := ⟨fun pins s I => p.run pins s σ H D I h⟩
theorem eG {t : TG} {v : V} {Q : L2.St → Hp → Prop} (p : PG X e t) (h : t v σ H Q) : wG X e v σ H Q := ⟨fun pins s u I r => p.run pins s σ H v u Q I r h⟩
theorem eGs {t : TGs} {vs : List V} {Q : L2.St → Hp → Prop} (p : PGs X es t) (h : t vs σ H Q) : wGs X es vs σ H Q := ⟨fun pins s us I r => p.run pins s σ H vs us Q I r h⟩
theorem eI {tg iter : Expr} {t : TI} {R : It → Hp → Prop} (p : PI X tg iter t) (h : t σ H R) : wI X tg iter σ H R := ⟨fun pins s I => p.run pins s σ H R I h⟩
theorem eIf {t : TT} {Q : Bool → Hp → Prop} (p : PTs X es t) (h : t σ H Q) : wIf X es σ H Q := ⟨fun pins s I => p.run pins s σ H Q I h⟩

theorem wE_mono {Q Q' : VK} (h : wE X e σ H Q) (k : ∀ v H', Q v H' → Q' v H') : wE X e σ H Q' := ⟨fun pins s I => thn (h.run pins s I) fun _ _ ⟨v, H', I', r, q⟩ => ⟨v, H', I', r, k v H' q⟩⟩
theorem wT_mono {Q Q' : Bool → Hp → Prop} (h : wT X e σ H Q) (k : ∀ v H', Q v H' → Q' v H') : wT X e σ H Q' := ⟨fun pins s I => thn (h.run pins s I) fun b _ ⟨H', I', q⟩ => ⟨H', I', k b H' q⟩⟩

/-! ### statements -/
theorem b_nil {D : Ends} (h : D.nx σ H) : wB X [] D σ H := eB pss_nil h
theorem b_cons {D : Ends} (h : wS X st { D with nx := wB X sts D } σ H) : wB X (st :: sts) D σ H := eB (pss_cons pS pB) h
theorem s_pass {D : Ends} {pos : Pos} (h : D.nx σ H) : wS X (.Pass pos) D σ H := eS ps_pass h
theorem s_break {D : Ends} {pos : Pos} (h : D.bk σ H) : wS X (.Break pos) D σ H := eS ps_break h
theorem s_continue {D : Ends} {pos : Pos} (h : D.ct σ H) : wS X (.Continue pos) D σ H := eS ps_continue h
theorem s_if {D : Ends} {c : Expr} {u v : List Stmt} {pos : Pos} (h : wT X c σ H fun b H1 => if b = true then wB X u D σ H1 else wB X v D σ H1) : wS X (.If c u v pos) D σ H := eS (ps_if pT pB pB) h
theorem s_ret {D : Ends} {pos : Pos} (h : wE X e σ H D.rt) : wS X (.Return (some e) pos) D σ H := eS (ps_ret pE) h
theorem s_retN {D : Ends} {pos : Pos} (h : D.rt .non H) : wS X (.Return none pos) D σ H := eS ps_retN h
theorem s_expr {D : Ends} {pos : Pos} (h : wE X e σ H fun _ H1 => D.nx σ H1) (hs : swapsWith e none pos.line X.env = pure false := by rfl) : wS X (.Expr e pos) D σ H := eS (ps_expr pE hs) h
/-- name = value -/
theorem s_set {D : Ends} {i : Nat} {x : Str} {pos pos' : Pos} (h : wE X e σ H fun v H1 => D.nx (σ.set i (some v)) H1) (hN : X.N.Nodup) (hi : X.N[i]? = some x := by rfl) (hx : Loc X.env.scope x := by first | exact Or.inl rfl | exact Or.inr rfl)
    (hs : swapsWith e (some (.Name x pos')) pos.line X.env = pure false := by rfl) (hf : X.fn x = true ∨ X.env.scope.names.lookup x = some .local := by first | exact .inl rfl | exact .inr rfl) : wS X (.Assign [.Name x pos'] e pos) D σ H := eS (ps_set hN hi hx pE hs hf) h
theorem s_asg {D : Ends} {tg : Expr} {pos : Pos} (h : wE X e σ H fun v H1 => wG X tg v σ H1 D.nx) (hs : swapsWithSole [tg] e pos.line X.env = pure false := by rfl) (hw : swappedStores [tg] e X.env = pure none := by rfl)
    (h1 : (assignEach [tg] X.env).map (·.2) = [assign tg X.env] := by rfl) : wS X (.Assign [tg] e pos) D σ H := eS (ps_asg pE pG hs hw h1) h
theorem g_name {i : Nat} {x : Str} {pos : Pos} {v : V} {Q : L2.St → Hp → Prop} (h : Q (σ.set i (some v)) H) (hN : X.N.Nodup) (hi : X.N[i]? = some x := by rfl) (hx : Loc X.env.scope x := by first | exact Or.inl rfl | exact Or.inr rfl)
    (hf : X.fn x = true ∨ X.env.scope.names.lookup x = some .local := by first | exact .inl rfl | exact .inr rfl) : wG X (.Name x pos) v σ H Q := eG (pg_name hN hi hx hf) h
theorem gs_nil {Q : L2.St → Hp → Prop} (h : Q σ H) : wGs X [] [] σ H Q := eGs pgs_nil ⟨rfl, h⟩
theorem gs_cons {v : V} {vs : List V} {Q : L2.St → Hp → Prop} (h : wG X e v σ H fun σ' H' => wGs X es vs σ' H' Q) (hs : (assignEach (e :: es) X.env).map (·.2) = assign e X.env :: (assignEach es X.env).map (·.2) := by rfl) :
    wGs X (e :: es) (v :: vs) σ H Q := eGs (pgs_cons pG pGs hs) ⟨v, vs, rfl, h⟩
theorem g_tup {k : Nat} {pos : Pos} {p : Addr} {xs : List V} {Q : L2.St → Hp → Prop} (h : wGs X es xs σ H Q) (hc : X.calm = true) (hq : SqT X.K H p xs) (hn : (assignEach es X.env).length = xs.length := by rfl)
    (hst : (assignEach es X.env).findIdx? (·.1) = none := by rfl) : wG X (.Tuple es k pos) (.ref p) σ H Q := eG (pg_tup hc pGs hn hst) ⟨p, xs, rfl, hq, rfl, h⟩
/-- o[i] = v -/
structure sW (X : Cx) (o i v : V) (H : Hp) (Q : Hp → Prop) : Prop where
  run : ∀ pins s σ ov iv u, Inv X pins σ H s → RelV o ov → RelV i iv → RelV v u → wpAny (model X.prog X.w) X.A (setItem ov iv u) (fun _ s' => ∃ H', Inv X pins σ H' s' ∧ Q H') X.xe s
theorem g_sub {o i : Expr} {pos : Pos} {v : V} {Q : L2.St → Hp → Prop} (h : wE X o σ H fun ov H1 => wE X i σ H1 fun iv H2 => sW X ov iv v H2 fun H3 => Q σ H3)
    (ha : ∀ v, assign (.Subscript o i pos) X.env v = (do
      let ov ← holding [v] (eval o X.env)
      let iv ← holding [v, ov] (eval i X.env)
      standAt pos
      holding [v, ov, iv] (setItem ov iv v)
      release [v, ov, iv] []) := by intro _; rfl) : wG X (.Subscript o i pos) v σ H Q :=
  eG (pg_sub pE pE (t := sW X) (fun pins s σ H o i v ov iv u Q I r1 r2 r3 h => h.run pins s σ ov iv u I r1 r2 r3) ha) h
theorem sW_of {t : TSet} {o i v : V} {Q : Hp → Prop} (p : PSet X t) (h : t o i v H Q) : sW X o i v H Q := ⟨fun pins s σ ov iv u I r1 r2 r3 => p pins s σ H o i v ov iv u Q I r1 r2 r3 h⟩

/-! ### expressions -/
theorem e_name (i : Nat) {x : Str} {pos : Pos} {v : V} {Q : VK} (h : Q v H) (hs : σ[i]? = some (some v) := by rfl) (hN : X.N[i]? = some x := by rfl) (hv : Vis X.env.scope x := by first | exact Or.inl rfl | exact Or.inr (Or.inl rfl) | exact Or.inr (Or.inr rfl))
    (hd : (x == ("__debug__" : Str)) = false := by decide) (hcd : (x == ("__classdict__" : Str)) = false := by decide) : wE X (.Name x pos) σ H Q := eE (pe_var hN hv hd hcd) ⟨v, hs, h⟩
theorem e_glob {x : Str} {pos : Pos} {v : V} {u : Value} {Q : VK} (h : Q v H) (hm : X.mg x = some u) (r : RelV v u) (hg : Gl X x := by rfl) (hd : (x == ("__debug__" : Str)) = false := by decide) : wE X (.Name x pos) σ H Q := eE (pe_glob hg hm r hd) h
theorem e_blt {x : Str} {pos : Pos} {v : V} {u : Value} {Q : VK} (h : Q v H) (hm : X.mg x = none) (hv : bootBuiltins x = some u) (r : RelV v u) (hg : Gl X x := by rfl) (hn : x ≠ "__name__" := by decide) (hd : (x == ("__debug__" : Str)) = false := by decide) :
    wE X (.Name x pos) σ H Q := eE (pe_bltn hg hm hv r hn hd) h
theorem e_int {i : Int} {j} {pos : Pos} {Q : VK} (h : Q (.int i) H) : wE X (.Constant (.int i) j pos) σ H Q := eE pe_int h
theorem e_str {x : Str} {j} {pos : Pos} {Q : VK} (h : Q (.str x) H) : wE X (.Constant (.str x) j pos) σ H Q := eE pe_str h
theorem e_bool {b : Bool} {j} {pos : Pos} {Q : VK} (h : Q (.bl b) H) : wE X (.Constant (.bool b) j pos) σ H Q := eE pe_bl h
theorem e_none {j} {pos : Pos} {Q : VK} (h : Q .non H) : wE X (.Constant .none j pos) σ H Q := eE pe_non h
/-- an operation on two values -/
structure oW (X : Cx) (f : Value → Value → Sem Value) (x y : V) (H : Hp) (Q : VK) : Prop where
  run : ∀ pins s σ v u, Inv X pins σ H s → RelV x v → RelV y u → wpAny (model X.prog X.w) X.A (f v u) (EP X pins σ Q) X.xe s
theorem oR {f : Value → Value → Sem Value} : OpR X f (oW X f) := fun pins s σ _ _ _ v u _ I rx ry h => h.run pins s σ v u I rx ry
theorem oW_of {f : Value → Value → Sem Value} {r : R2} {x y : V} {Q : VK} (p : OpR X f r) (h : r x y H Q) : oW X f x y H Q := ⟨fun pins s σ v u I rx ry => p pins s σ H x y v u Q I rx ry h⟩
structure uW (X : Cx) (f : Value → Sem Value) (x : V) (H : Hp) (Q : VK) : Prop where
  run : ∀ pins s σ v, Inv X pins σ H s → RelV x v → wpAny (model X.prog X.w) X.A (f v) (EP X pins σ Q) X.xe s
theorem uW_of {f : Value → Sem Value} {r : V → Hp → VK → Prop} {x : V} {Q : VK} (p : UnR X f r) (h : r x H Q) : uW X f x H Q := ⟨fun pins s σ v I rx => p pins s σ H x v Q I rx h⟩
theorem e_bin {op : Operator} {pos : Pos} {Q : VK} (h : wE X a σ H fun x H1 => wE X b σ H1 fun y H2 => oW X (binaryOp op) x y H2 Q) : wE X (.BinOp a op b pos) σ H Q := eE (pe_op oR pE pE) h
theorem e_un {op : UnaryOp} {pos : Pos} {Q : VK} (h : wE X a σ H fun x H1 => uW X (unaryOp op) x H1 Q) : wE X (.UnaryOp op a pos) σ H Q := eE (pe_un (r := uW X (unaryOp op)) (fun pins s σ _ _ v _ I rx h => h.run pins s σ v I rx) pE) h
theorem e_cmp {op : CmpOp} {pos : Pos} {Q : VK} (h : wE X a σ H fun x H1 => wE X b σ H1 fun y H2 => oW X (compareOp op) x y H2 Q) (hm : behindInMarks op b = false := by first | exact nomark _ | rfl) :
    wE X (.Compare a [op] [b] pos) σ H Q := eE (pe_cmpR oR pE pE hm) h
theorem t_cmp {op : CmpOp} {pos : Pos} {Q : Bool → Hp → Prop} (h : wE X a σ H fun x H1 => wE X b σ H1 fun y H2 => oW X (compareOp op) x y H2 fun v H3 => ∃ k, v = .bl k ∧ Q k H3) (hm : behindInMarks op b = false := by first | exact nomark _ | rfl) :
    wT X (.Compare a [op] [b] pos) σ H Q := eT (pt_cmpR oR pE pE hm) h
theorem t_chain {op op' : CmpOp} {pos : Pos} {Q : Bool → Hp → Prop} (h : wE X a σ H fun x H1 => wE X b σ H1 fun y H2 => oW X (compareOp op) x y H2 fun z H3 => ∃ k, z = .bl k ∧
      (if k = true then wE X c σ H3 fun w' H4 => oW X (compareOp op') y w' H4 (fun v H5 => ∃ k, v = .bl k ∧ Q k H5) else ∃ k, V.bl false = .bl k ∧ Q k H3)) (hm : lastMarks [op, op'] [b, c] = false := by with_unfolding_all rfl) :
    wT X (.Compare a [op, op'] [b, c] pos) σ H Q := eT (pt_chain oR oR pE pE pE hm) h
theorem t_not {pos : Pos} {Q : Bool → Hp → Prop} (h : wT X a σ H fun c H1 => Q (!c) H1) : wT X (.UnaryOp .Not a pos) σ H Q := eT (pt_not pT) h
theorem e_not {pos : Pos} {Q : VK} (h : wE X a σ H fun x H1 => ∃ c, x = .bl c ∧ Q (.bl (!c)) H1) : wE X (.UnaryOp .Not a pos) σ H Q := eE (pe_not pE) h
theorem t_boolop {op} {pos : Pos} {Q : Bool → Hp → Prop} (h : wW X (.BoolOp op es pos) σ H Q) : wT X (.BoolOp op es pos) σ H Q := eT pW.pt h
theorem w_and1 {pos : Pos} {Q : Bool → Hp → Prop} (h : wT X a σ H Q) : wW X (.BoolOp .And [a] pos) σ H Q := eW (pw_and1 pT) h
theorem w_or1 {pos : Pos} {Q : Bool → Hp → Prop} (h : wT X a σ H Q) : wW X (.BoolOp .Or [a] pos) σ H Q := eW (pw_or1 pT) h
theorem w_and {rest : List Expr} {pos : Pos} {Q : Bool → Hp → Prop} (h : wT X a σ H fun c H1 => if c = true then wW X (.BoolOp .And (b :: rest) pos) σ H1 Q else Q false H1) : wW X (.BoolOp .And (a :: b :: rest) pos) σ H Q := eW (pw_and pT pW) h
theorem w_or {rest : List Expr} {pos : Pos} {Q : Bool → Hp → Prop} (h : wT X a σ H fun c H1 => if c = true then Q true H1 else wW X (.BoolOp .Or (b :: rest) pos) σ H1 Q) : wW X (.BoolOp .Or (a :: b :: rest) pos) σ H Q := eW (pw_or pT pW) h
theorem e_one {op} {pos : Pos} {Q : VK} (h : wE X a σ H Q) : wE X (.BoolOp op [a] pos) σ H Q := eE (pe_one pE) h
theorem e_and {rest : List Expr} {pos : Pos} {Q : VK} (h : wE X a σ H fun x H1 => ∃ c, x = .bl c ∧ if c = true then wE X (.BoolOp .And (b :: rest) pos) σ H1 Q else Q (.bl false) H1) : wE X (.BoolOp .And (a :: b :: rest) pos) σ H Q := eE (pe_and pE pE) h
theorem e_or {rest : List Expr} {pos : Pos} {Q : VK} (h : wE X a σ H fun x H1 => ∃ c, x = .bl c ∧ if c = true then Q (.bl true) H1 else wE X (.BoolOp .Or (b :: rest) pos) σ H1 Q) : wE X (.BoolOp .Or (a :: b :: rest) pos) σ H Q := eE (pe_or pE pE) h
theorem e_if {pos : Pos} {Q : VK} (h : wT X c σ H fun k H1 => if k = true then wE X a σ H1 Q else wE X b σ H1 Q) : wE X (.IfExp c a b pos) σ H Q := eE (pe_ifExp pT pE pE) h
/-- an expression whose value is a bool, as a test -/
theorem t_val {Q : Bool → Hp → Prop} (h : wE X e σ H fun x H1 => ∃ c, x = .bl c ∧ Q c H1) (he : ∀ whole, isTrue e X.env whole = (do let v ← whole; standAt e.pos; holding [v] (truthy v)) := by intro _; rfl) : wT X e σ H Q := eT (pt_val pE he) h
theorem t_truth {Q : Bool → Hp → Prop} (h : wE X e σ H fun x H1 => ∃ k, TruV X.K x H1 k ∧ Q k H1) (he : ∀ whole, isTrue e X.env whole = (do let v ← whole; standAt e.pos; holding [v] (truthy v)) := by intro _; rfl) : wT X e σ H Q := eT (pt_truth pE he) h
theorem a_nil {Q : List V → Hp → Prop} (h : Q [] H) : wA X [] σ H Q := eA pa_nil h
theorem a_cons {Q : List V → Hp → Prop} (h : wE X e σ H fun x H1 => wA X es σ H1 fun xs H2 => Q (x :: xs) H2) (hs : starEach (e :: es) X.env = (false, eval e X.env) :: starEach es X.env := by rfl) : wA X (e :: es) σ H Q := eA (pa_cons pE pA hs) h
theorem k_nil {Q : List V → Hp → Prop} (h : Q [] H) : wK X [] σ H Q := eK pk_nil h
theorem k_cons {nm : Option Str} {kpos : Pos} {kws : List Keyword} {Q : List V → Hp → Prop} (h : wE X e σ H fun x H1 => wK X kws σ H1 fun xs H2 => Q (x :: xs) H2) : wK X (⟨nm, e, kpos⟩ :: kws) σ H Q := eK (pk_cons pE pK) h
theorem e_tup {x1} {pos : Pos} {Q : VK} (h : wA X es σ H fun xs H1 => xs.length ≤ sizeLine ∧ ∀ p, H1 p = none → Q (.ref p) (upd H1 p (.tup xs))) : wE X (.Tuple es x1 pos) σ H Q := eE (pe_tup pA) h
theorem e_lst {pos : Pos} {Q : VK} (h : wA X es σ H fun xs H1 => xs.length ≤ sizeLine ∧ ∀ p, H1 p = none → Q (.ref p) (upd H1 p (.lst xs))) : wE X (.List es pos) σ H Q := eE (pe_lst pA) h
end
end Z

set_option Elab.async false
set_option linter.all false
set_option maxRecDepth 100000
set_option maxHeartbeats 4000000
namespace Z
open PySem PySem.Spec PyProof.Rows L2

/-- the built-in names that no def of the text hides -/
structure Blt (mg : Str → Option Value) (base : Heap) : Prop where
  sys : ∃ o es ep, base.get? sysModules = some o ∧ o.data = .dict es ep
  len : mg "len" = none
  range : mg "range" = none
  min : mg "min" = none
  max : mg "max" = none
  abs : mg "abs" = none
  int : mg "int" = none
  str : mg "str" = none
  bool : mg "bool" = none
  list : mg "list" = none
  tuple : mg "tuple" = none
  dict : mg "dict" = none
  isinstance : mg "isinstance" = none
  all : mg "all" = none
  any : mg "any" = none
  sum : mg "sum" = none
  zip : mg "zip" = none
  repr : mg "repr" = none
  divmod : mg "divmod" = none
  sorted : mg "sorted" = none
  enumerate : mg "enumerate" = none
  reversed : mg "reversed" = none
  valueError : mg "ValueError" = none

/-- where a body runs: the room, no guard of repr on the stack, what a raised error is wished to meet -/
structure Cxt (X : Cx) (k : Nat) (W : WX) : Prop where
  room : Room k X.A
  gd : X.A.guards = some []
  calm : X.calm = true
  nd : X.N.Nodup
  blt : Blt X.mg X.base
  po : PassesOwn (model X.prog X.w) X.A X.env X.xe
  tk : Takes X W
abbrev W0 : WX := fun _ _ _ _ => False
theorem takesW0 {X : Cx} : Takes X W0 := fun _ _ ⟨_, _, _, _, _, _, _, _, _, _, _, _, _, _, _, _, z⟩ => z.elim
theorem Cxt.mono {X : Cx} {j k : Nat} {W : WX} (C : Cxt X k W) (h : j ≤ k) : Cxt X j W := ⟨C.room.mono h, C.gd, C.calm, C.nd, C.blt, C.po, C.tk⟩
theorem Cxt.blk {X : Cx} {k : Nat} {W : WX} (C : Cxt X k W) (s : Shared) (H : Hp) (scope : Scope) (cenv : Env) (fp : List Addr) : Cxt (X.blk s H scope cenv fp) k W0 :=
  ⟨C.room, C.gd, C.calm, C.nd, C.blt, PassesOwn.never, takesW0⟩

/-! ### a def's promise, where no guard of repr stands -/
structure GFn (P : Program) (w : World) (K : PySem.W.Frag) (mg : Str → Option Value) (base : Heap) (k : Nat) (f : Addr) (fd : FuncData) (ps : List Str) (sp : Sp) : Prop where
  len : ∀ vs H Q E, sp vs H Q E → vs.length = ps.length
  run : ∀ (A : Around) (outer : List Env) (s : Shared) (H : Hp) (args : Args) (us : List Value) (vs : List V) (Q : VK) (E : XK), Room k A → A.guards = some [] → Env0 P w K mg base A outer s H → BindsTo s fd args (ps.zip us) → Vals vs us → sp vs H Q E →
    codeAny (model P w) A (.call (.ref f) args) (CR (L2.CX P w) outer P w H s Q E) s
/-- a def of the text under its name -/
structure Def (P : Program) (w : World) (K : PySem.W.Frag) (mg : Str → Option Value) (base : Heap) (k : Nat) (x : Str) (st : Stmt) (ps : List Str) (sp : Sp) : Prop where
  ex : ∃ (f : Addr) (kV doc pm : Value) (an : Option Addr) (cdv ct : Value), mg x = some (.ref f) ∧ PySem.W.keepIn K (.ref f) = true ∧
    GFn P w K mg base k f (PySem.W.fnOf x x (defArgs st) (defBody st) (defScope st) .none kV doc pm an cdv ct) ps sp
/-- what the head tells of it -/
structure At (K : PySem.W.Frag) (mg : Str → Option Value) (x : Str) (st : Stmt) : Prop where
  ex : ∃ (f : Addr) (fd : FuncData), mg x = some (.ref f) ∧ Fun K x x st f fd

section
variable {P : Program} {w : World} {K : PySem.W.Frag} {mg : Str → Option Value} {base : Heap}
theorem Def.mono {j k : Nat} {x : Str} {st : Stmt} {ps : List Str} {sp : Sp} (D : Def P w K mg base j x st ps sp) (h : j ≤ k) : Def P w K mg base k x st ps sp := by
  obtain ⟨f, kV, doc, pm, an, cdv, ct, h1, h2, h3⟩ := D.ex
  exact ⟨f, kV, doc, pm, an, cdv, ct, h1, h2, h3.len, fun A outer s H args us vs Q E hr => h3.run A outer s H args us vs Q E (hr.mono h)⟩
/-- the body's context -/
abbrev bX (P : Program) (w : World) (K : PySem.W.Frag) (mg : Str → Option Value) (base : Heap) (N : List Str) (x : Str) (st : Stmt) (f : Addr) (cdv : Value) (A : Around) (outer : List Env) (s : Shared) (H : Hp) (E : XK) : Cx :=
  cxOf (L2.CX P w) P w K mg base N x (defScope st) f cdv A outer s H E
/-- THE RULE for a def -/
theorem gfn_body {k : Nat} {x0 x : Str} {st : Stmt} {f : Addr} {oc kV doc pm cdv ct : Value} {od an : Option Addr} {osl : Array (Option Value)} {N ps : List Str} {sp : Sp} (B : Blt mg base)
    (lk : K.lookup f = some ⟨oc, od, .func (PySem.W.fnOf x0 x (defArgs st) (defBody st) (defScope st) .none kV doc pm an cdv ct), osl⟩) (hcd : PySem.W.codeIn K cdv x = true)
    (S : FnScope N ps (defScope st)) (len : ∀ vs H Q E, sp vs H Q E → vs.length = ps.length)
    (body : ∀ (cdv : Value) (A : Around) (outer : List Env) (s : Shared) (H : Hp) (vs : List V) (Q : VK) (E : XK), Cxt (bX P w K mg base N x st f cdv A outer s H E) k (fun cls d _ H => E cls d H) → sp vs H Q E →
      wB (bX P w K mg base N x st f cdv A outer s H E) (defBody st) { nx := fun _ H' => Q .non H', rt := Q } (start N vs) H) :
    GFn P w K mg base (k + 1) f (PySem.W.fnOf x0 x (defArgs st) (defBody st) (defScope st) .none kV doc pm an cdv ct) ps sp := by
  refine ⟨len, fun A outer s H args us vs Q E hr hgd e0 hb r hsp => ?_⟩
  have hl := len _ _ _ _ hsp
  have KX : K.In s.heap := e0.mod.kin.keeps fun b o e => (e0.bs b o e).1
  have lim : s.heap.NoLimit := e0.mod.nolimit.keeps fun b o e => (e0.bs b o e).1
  have hkind : ∀ y ∈ ps.zip us, (defScope st).names.lookup y.1 = some .local ∨ ((defScope st).names.lookup y.1 = some .cell ∧ ((cellsFrom (s.heap.objs.size + 1) (defScope st).names []).lookup y.1).isSome = true) := by
    intro y hy
    rcases S.par y.1 (List.of_mem_zip (a := y.1) (b := y.2) hy).1 with q | q
    · exact .inl q
    · exact .inr ⟨q, PySem.W.cellsFrom_some _ _ _ (.inl q)⟩
  refine codeAny_call_function hr.depth (KX _ _ lk) rfl S.co S.gen rfl (PySem.W.codeRec_of KX hcd) (hb _ _ _ _ ?_)
  refine wpAny_newFunctionEnv_cells S.kind hkind fun env he s1 x1 => ?_
  subst he
  refine ⟨lim.keeps x1.toInCall.keep, codeAny_func ?_⟩
  have C : Cxt (bX P w K mg base N x st f cdv A outer s H E) k (fun cls d _ H => E cls d H) :=
    ⟨hr.deeper _, hgd, rfl, S.nd, B, passes_of rfl, takes_of rfl rfl rfl rfl⟩
  refine wpAny_mono ((body cdv A outer s H vs Q E C hsp).run [] s1 (inv_start S hr.hd e0 hl r x1)) (fun fl s' hs => ?_) fun e s' hs => hs
  cases fl with
  | ret u =>
    obtain ⟨v, σ', H', J, rv, q⟩ := hs
    exact ⟨v, H', J.os, J.bare, J.base, J.hok, rv, q⟩
  | next =>
    obtain ⟨σ', H', J, q⟩ := hs
    exact ⟨.non, H', J.os, J.bare, J.base, J.hok, rfl, q⟩
  | brk => exact hs.elim fun _ h => h.elim fun _ h => h.2.elim
  | cont => exact hs.elim fun _ h => h.elim fun _ h => h.2.elim
theorem def_of {k : Nat} {x : Str} {st : Stmt} {N ps : List Str} {sp : Sp} (D : At K mg x st) (B : Blt mg base) (S : FnScope N ps (defScope st)) (len : ∀ vs H Q E, sp vs H Q E → vs.length = ps.length)
    (body : ∀ (f : Addr) (cdv : Value) (A : Around) (outer : List Env) (s : Shared) (H : Hp) (vs : List V) (Q : VK) (E : XK), mg x = some (.ref f) → Cxt (bX P w K mg base N x st f cdv A outer s H E) k (fun cls d _ H => E cls d H) → sp vs H Q E →
      wB (bX P w K mg base N x st f cdv A outer s H E) (defBody st) { nx := fun _ H' => Q .non H', rt := Q } (start N vs) H) : Def P w K mg base (k + 1) x st ps sp := by
  obtain ⟨f, fd, hm, F⟩ := D.ex
  obtain ⟨oc, od, kV, doc, pm, an, cdv, ct, osl, rfl, lk, hcd⟩ := F.ex
  exact ⟨f, kV, doc, pm, an, cdv, ct, hm, F.kp, gfn_body B lk hcd S len fun cdv A outer s H vs Q E C h => body f cdv A outer s H vs Q E hm C h⟩
end

/-! ### calls of the text's defs -/
section
variable {X : Cx} {k : Nat} {W : WX} {σ : L2.St} {H : Hp} {x : Str} {st : Stmt} {ps : List Str} {sp : Sp} {e : Expr} {es : List Expr} {p pos : Pos} {Q : VK}
theorem ran {f : Addr} {fd : FuncData} {us : List Value} {kw : List (Str × Value)} {us' : List Value} {vs' : List V} {pins : List (Addr × Obj)} {s : Shared} (C : Cxt X k W) (F : GFn X.prog X.w X.K X.mg X.base k f fd ps sp)
    (hb : BindsTo s fd ⟨us, kw⟩ (ps.zip us')) (I : Inv X pins σ H s) (r : Vals vs' us') (h : sp vs' H Q (fun cls d H' => W cls d σ H')) : wpAny (model X.prog X.w) X.A (call (.ref f) us kw) (EP X pins σ Q) X.xe s := by
  refine wpAny_call (codeAny_mono (F.run X.A X.stack s H ⟨us, kw⟩ us' vs' Q _ C.room C.gd I.env0 hb r h) fun r s' hq => ?_)
  cases r with
  | error e => exact C.tk e s' (XE.of_call I (fun _ _ _ z => z) hq)
  | ok fl =>
    cases fl with
    | ret u => exact I.after hq
    | next => exact False.elim hq
    | brk => exact False.elim hq
    | cont => exact False.elim hq
theorem e_call (C : Cxt X k W) (D : Def X.prog X.w X.K X.mg X.base k x st ps sp)
    (h : wA X (e :: es) σ H fun vs H1 => sp vs H1 Q (fun cls d H' => W cls d σ H')) (hg : Gl X x := by rfl)
    (hbind : ∀ (kV doc pm : Value) (an : Option Addr) (cdv ct : Value) (us : List Value), us.length = ps.length → bindArgs (PySem.W.fnOf x x (defArgs st) (defBody st) (defScope st) .none kV doc pm an cdv ct) ⟨us, []⟩ = pure (ps.zip us))
    (hdb : (x == ("__debug__" : Str)) = false := by decide) (he : starEach (e :: es) X.env = (false, eval e X.env) :: starEach es X.env := by rfl) (hpl : (backTo pos (starEach es X.env)).any (·.1) = false := by rfl) :
    wE X (.Call (.Name x p) (e :: es) [] pos) σ H Q := by
  obtain ⟨f, kV, doc, pm, an, cdv, ct, hm, hk, F⟩ := D.ex
  refine ⟨fun pins s I => ?_⟩
  refine wpAny_Call_Name_kw (ld_glob I hg hm ?_ hdb)
  refine PySem.W.callWith_K (h₀ := X.base) I.ok.mod.kin hk (thn (h.run pos pins s I) fun us s1 ⟨vs, H1, I1, r, q⟩ => ⟨I1.kIn, ?_⟩) he hpl
  exact ran C F (.of_eq (hbind kV doc pm an cdv ct us (r.length.symm.trans (F.len _ _ _ _ q)))) I1 r q
theorem e_call0 (C : Cxt X k W) (D : Def X.prog X.w X.K X.mg X.base k x st [] sp) (h : sp [] H Q (fun cls d H' => W cls d σ H')) (hg : Gl X x := by rfl)
    (hbind : ∀ (kV doc pm : Value) (an : Option Addr) (cdv ct : Value), bindArgs (PySem.W.fnOf x x (defArgs st) (defBody st) (defScope st) .none kV doc pm an cdv ct) ⟨[], []⟩ = pure [] := by intros; rfl)
    (hdb : (x == ("__debug__" : Str)) = false := by decide) : wE X (.Call (.Name x p) [] [] pos) σ H Q := by
  obtain ⟨f, kV, doc, pm, an, cdv, ct, hm, hk, F⟩ := D.ex
  refine ⟨fun pins s I => ?_⟩
  refine wpAny_Call_Name_kw (ld_glob I hg hm ?_ hdb)
  exact PySem.W.callWith_K0 I.kIn hk (ran (us := []) (us' := []) C F (.of_eq (hbind kV doc pm an cdv ct)) I .nil h)
/-- f(k = a, ..), nothing by its place -/
theorem e_callK0 {kws : List Keyword} {ks : List Str} {g : {α : Type} → List α → List α} (C : Cxt X k W) (D : Def X.prog X.w X.K X.mg X.base k x st ps sp)
    (h : wK X kws σ H fun zs H1 => sp (g zs) H1 Q (fun cls d H' => W cls d σ H')) (hrel : ∀ {vs : List V} {us : List Value}, Vals vs us → Vals (g vs) (g us)) (hg : Gl X x := by rfl)
    (hbind : ∀ (kV doc pm : Value) (an : Option Addr) (cdv ct : Value) (us : List Value), (g us).length = ps.length → bindArgs (PySem.W.fnOf x x (defArgs st) (defBody st) (defScope st) .none kV doc pm an cdv ct) ⟨[], ks.zip us⟩ = pure (ps.zip (g us)))
    (hall : (backToKw pos (keywordEach kws X.env)).all (·.1.isSome) = true := by rfl) (hks : (backToKw pos (keywordEach kws X.env)).filterMap (·.1) = ks := by rfl)
    (hdb : (x == ("__debug__" : Str)) = false := by decide)
    (hpl : ((backTo pos (starEach [] X.env)).any (·.1) || (backToKw pos (keywordEach kws X.env)).any (·.1.isNone)) = false := by rfl) : wE X (.Call (.Name x p) [] kws pos) σ H Q := by
  obtain ⟨f, kV, doc, pm, an, cdv, ct, hm, hk, F⟩ := D.ex
  refine ⟨fun pins s I => ?_⟩
  refine wpAny_Call_Name_kw (ld_glob I hg hm ?_ hdb)
  refine PySem.W.callWith_KW0 (h₀ := X.base) I.ok.mod.kin hk hall (thn (h.run pos pins s I) fun us s1 ⟨vs, H1, I1, r, q⟩ => ⟨I1.kIn, ?_⟩) hpl
  rw [hks]
  have r2 := hrel r
  exact ran (us := []) C F (.of_eq (hbind kV doc pm an cdv ct us (r2.length.symm.trans (F.len _ _ _ _ q)))) I1 r2 q
end

/-! ### loops -/
section
variable {X : Cx} {k : Nat} {W : WX} {σ : L2.St} {H : Hp} {e a b c : Expr} {es : List Expr} {p pos : Pos}
theorem s_for {D : Ends} {tg iter : Expr} {body : List Stmt} (C : Cxt X k W)
    (h : wI X tg iter σ H fun J H1 => ∃ n G Y, Walk J n G Y ∧ ∃ Pv : Nat → L2.St → Hp → Prop, Pv 0 σ H1 ∧ (∀ i σ H, i ≤ n → Pv i σ H → G H) ∧
      (∀ i x σ H H', i < n → Pv i σ H → Y i H x H' → wG X tg x σ H' fun σ2 H2 => wB X body { D with nx := Pv (i + 1), ct := Pv (i + 1), bk := D.nx } σ2 H2) ∧ ∀ σ H, Pv n σ H → D.nx σ H)
    (hs : ∀ x, foldedSetIterable iter X.env x = pure x := by intro _; rfl) : wS X (.For tg iter body [] pos) D σ H := by
  refine eS (ps_for C.po C.calm pI pG pB hs) ⟨fun pins s I => ?_⟩
  refine wpAny_mono (h.run pins s I) (fun v s1 hv => ?_) fun _ _ z => z
  refine wpAny_mono hv (fun it s2 hi => ?_) fun _ _ z => z
  obtain ⟨itv, fp, tn, J, H', e1, I1, T, t0, f1, n, G, Y, w, Pv, h0, hG, hs, hd⟩ := hi
  exact ⟨itv, fp, tn, J, H', e1, I1, T, t0, f1, for_it w Pv h0 hG hs hd⟩
theorem wI_mono {tg iter : Expr} {R R' : It → Hp → Prop} (h : wI X tg iter σ H R) (k : ∀ J H', R J H' → R' J H') : wI X tg iter σ H R' := ⟨fun pins s I =>
  thn (h.run pins s I) fun v s1 hv => thn hv fun it s2 ⟨itv, fp, tn, J, H', e1, I1, T, t0, f1, r⟩ => ⟨itv, fp, tn, J, H', e1, I1, T, t0, f1, k J H' r⟩⟩
/-- the readings within a comprehension's block, whatever its context -/
def wEb (X : Cx) (scope : Scope) (e : Expr) : TE := fun σ H Q => ∀ (s : Shared) (H0 : Hp) (C : Addr) (cl : List (Str × Addr)) (fp : List Addr), wE (X.blk s H0 scope (compEnvC scope cl C X.env) fp) e σ H Q
def wGb (X : Cx) (scope : Scope) (e : Expr) : TG := fun v σ H Q => ∀ (s : Shared) (H0 : Hp) (C : Addr) (cl : List (Str × Addr)) (fp : List Addr), wG (X.blk s H0 scope (compEnvC scope cl C X.env) fp) e v σ H Q
def wIfb (X : Cx) (scope : Scope) (es : List Expr) : TT := fun σ H Q => ∀ (s : Shared) (H0 : Hp) (C : Addr) (cl : List (Str × Addr)) (fp : List Addr), wIf (X.blk s H0 scope (compEnvC scope cl C X.env) fp) es σ H Q
/-- one turn of a comprehension: x the item, D the list under way -/
def LcTurn (X : Cx) (scope : Scope) (vs : List Nat) (tg : Expr) (ifs : List Expr) (elt : Expr) (σ : L2.St) (D : Addr) (x : V) (H : Hp) (Nx : Hp → Prop) : Prop :=
  wGb X scope tg x (wipe σ vs) H fun σ2 H2 => wipe σ2 vs = wipe σ vs ∧ wIfb X scope ifs σ2 H2 fun b H3 =>
    if b = true then wEb X scope elt σ2 H3 fun y H4 => ∃ acc, H4 D = some (.lst acc) ∧ acc.length < sizeLine ∧ Nx (upd H4 D (.lst (acc ++ [y]))) else Nx H3
theorem e_lc {Q : VK} {elt tg iter : Expr} {ifs : List Expr} {scope : Scope} (own : List (Str × Nat)) (C : Cxt X k W)
    (h : wI X tg iter σ H fun J H1 => ∃ n G Y, Walk J n G Y ∧ ∀ D, H1 D = none → ∃ Pv : Nat → Hp → Prop, Pv 0 (upd H1 D (.lst [])) ∧ (∀ i H, i ≤ n → Pv i H → G H) ∧
      (∀ i x H H', i < n → Pv i H → Y i H x H' → LcTurn X scope (own.map (·.2)) tg ifs elt σ D x H' (Pv (i + 1))) ∧ ∀ H, Pv n H → Q (.ref D) H)
    (ok : BlkOk X.N X.env.scope scope own := by exact blkOk_by (by first | rfl | kernel_rfl)) (hs : ∀ x, foldedSetIterable iter X.env x = pure x := by intro _; rfl) :
    wE X (.ListComp elt [⟨tg, iter, ifs, 0⟩] scope pos) σ H Q := by
  refine eE (pe_lc (g := wGb X scope tg) (tt := wIfb X scope ifs) (te := wEb X scope elt) C.calm C.nd pI ok (fun s H C cl fp => ⟨fun pins s' σ' H' v u Q' I r hh => (hh s H C cl fp).run pins s' u I r⟩)
    (fun s H C cl fp => ⟨fun pins s' σ' H' Q' I hh => (hh s H C cl fp).run pins s' I⟩) (fun s H C cl fp => ⟨fun pins s' σ' H' Q' I hh => (hh s H C cl fp).run pins s' I⟩) hs) ?_
  refine wI_mono h fun J H1 hh => ?_
  obtain ⟨n, G, Y, w, hD⟩ := hh
  intro D hn
  obtain ⟨Pv, h0, hG, ht, hd⟩ := hD D hn
  exact lc_it w Pv h0 hG ht hd
theorem s_setLc {D : Ends} {i : Nat} {y : Str} {py spos : Pos} {elt tg iter : Expr} {ifs : List Expr} {scope : Scope} (own : List (Str × Nat)) (C : Cxt X k W)
    (h : wI X tg iter σ H fun J H1 => ∃ n G Y, Walk J n G Y ∧ ∀ L, H1 L = none → ∃ Pv : Nat → Hp → Prop, Pv 0 (upd H1 L (.lst [])) ∧ (∀ i H, i ≤ n → Pv i H → G H) ∧
      (∀ i x H H', i < n → Pv i H → Y i H x H' → LcTurn X scope (own.map (·.2)) tg ifs elt σ L x H' (Pv (i + 1))) ∧ ∀ H, Pv n H → D.nx (σ.set i (some (.ref L))) H)
    (hi : X.N[i]? = some y := by rfl) (hyl : X.env.scope.names.lookup y = some .local := by rfl)
    (hsw : swapsWith (.ListComp elt [⟨tg, iter, ifs, 0⟩] scope pos) (some (.Name y py)) spos.line X.env = pure true := by exact sw_true rfl rfl rfl (by first | rfl | kernel_rfl))
    (ok : BlkOk X.N X.env.scope scope own := by exact blkOk_by (by first | rfl | kernel_rfl)) (hs : ∀ x, foldedSetIterable iter X.env x = pure x := by intro _; rfl) :
    wS X (.Assign [.Name y py] (.ListComp elt [⟨tg, iter, ifs, 0⟩] scope pos) spos) D σ H := by
  refine eS (ps_setLc (g := wGb X scope tg) (tt := wIfb X scope ifs) (te := wEb X scope elt) C.calm C.nd hi hyl hsw pI ok (fun s H C cl fp => ⟨fun pins s' σ' H' v u Q' I r hh => (hh s H C cl fp).run pins s' u I r⟩)
    (fun s H C cl fp => ⟨fun pins s' σ' H' Q' I hh => (hh s H C cl fp).run pins s' I⟩) (fun s H C cl fp => ⟨fun pins s' σ' H' Q' I hh => (hh s H C cl fp).run pins s' I⟩) hs) ?_
  refine wI_mono h fun J H1 hh => ?_
  obtain ⟨n, G, Y, w, hD⟩ := hh
  intro L hn
  obtain ⟨Pv, h0, hG, ht, hd⟩ := hD L hn
  exact lc_it w Pv h0 hG ht hd
/-- a block without tests, its target a name -/
theorem lc_plain {scope : Scope} {vs : List Nat} {i : Nat} {y : Str} {elt : Expr} {D : Addr} {x : V} {Nx : Hp → Prop} (hN : X.N.Nodup)
    (h : wEb X scope elt ((wipe σ vs).set i (some x)) H fun y H4 => ∃ acc, H4 D = some (.lst acc) ∧ acc.length < sizeLine ∧ Nx (upd H4 D (.lst (acc ++ [y])))) (hw : wipe ((wipe σ vs).set i (some x)) vs = wipe σ vs := by rfl) (hi : X.N[i]? = some y := by rfl)
    (hx : Loc (relS scope X.env.scope) y := by first | exact Or.inl rfl | exact Or.inr rfl) (hf : (scope.names.lookup y == some .cell) = true ∨ (relS scope X.env.scope).names.lookup y = some .local := by first | exact .inl rfl | exact .inr rfl) :
    LcTurn X scope vs (.Name y p) [] elt σ D x H Nx := by
  intro s H0 C cl fp
  refine g_name (i := i) ?_ hN hi hx hf
  refine ⟨hw, fun s H0 C cl fp => eIf pts_nil ?_⟩
  exact h

/-! ### what is walked -/
theorem i_list {tg : Expr} {R : It → Hp → Prop} (h : wE X e σ H fun x H1 => ∃ a, x = .ref a ∧ (∃ xs, SqL X.K H1 a xs) ∧ R (Itl X.K a) H1) : wI X tg e σ H R := eI (pi_list pE) h
theorem i_tup {tg : Expr} {R : It → Hp → Prop} (h : wE X e σ H fun x H1 => ∃ a, x = .ref a ∧ (∃ xs, SqT X.K H1 a xs) ∧ R (Itt X.K a) H1) : wI X tg e σ H R := eI (pi_tup pE) h
theorem i_str {tg : Expr} {R : It → Hp → Prop} (h : wE X e σ H fun v H1 => ∃ x, v = .str x ∧ R (Its x) H1) : wI X tg e σ H R := eI (pi_str pE) h
theorem i_range1 {tg : Expr} {R : It → Hp → Prop} (B : Blt X.mg X.base) (h : wE X a σ H fun v H1 => ∃ j : Int, v = .int j ∧ -(2 ^ 62) ≤ j ∧ j < 2 ^ 62 ∧ R (Itr 0 j.toNat) H1) (hg : Gl X "range" := by rfl)
    (hs : starEach [a] X.env = [(false, eval a X.env)] := by rfl) : wI X tg (.Call (.Name "range" p) [a] [] pos) σ H R :=
  eI (pi_range1 hg B.range pA hs) (a_cons (wE_mono h fun v H1 ⟨j, e1, h1, h2, r⟩ => a_nil ⟨j, by rw [e1], h1, h2, r⟩) hs)
theorem i_range2 {tg : Expr} {R : It → Hp → Prop} (B : Blt X.mg X.base) (h : wE X a σ H fun v H1 => wE X b σ H1 fun u H2 => ∃ i j : Int, v = .int i ∧ u = .int j ∧ (-(2 ^ 62) ≤ i ∧ i < 2 ^ 62 ∧ -(2 ^ 62) ≤ j ∧ j < 2 ^ 62) ∧ R (Itr i (j - i).toNat) H2) (hg : Gl X "range" := by rfl)
    (hs : starEach [a, b] X.env = [(false, eval a X.env), (false, eval b X.env)] := by rfl) (hs2 : starEach [b] X.env = [(false, eval b X.env)] := by rfl) : wI X tg (.Call (.Name "range" p) [a, b] [] pos) σ H R :=
  eI (pi_range2 hg B.range pA hs hs2) (a_cons (wE_mono h fun v H1 q => a_cons (wE_mono q fun u H2 ⟨i, j, e1, e2, h1, r⟩ => a_nil ⟨i, j, by rw [e1, e2], h1, r⟩) hs2) (by rw [hs, hs2]))
theorem i_range3 {tg : Expr} {R : It → Hp → Prop} (B : Blt X.mg X.base) (h : wA X [a, b, c] σ H fun vs H1 => ∃ (i j c : Int) (n : Nat), vs = [.int i, .int j, .int c] ∧ RgC i j c n ∧ R (Itc i c n) H1) (hg : Gl X "range" := by rfl)
    (hs : starEach [a, b, c] X.env = (false, eval a X.env) :: starEach [b, c] X.env := by rfl) (hpl : (backTo pos (starEach [b, c] X.env)).any (·.1) = false := by rfl) : wI X tg (.Call (.Name "range" p) [a, b, c] [] pos) σ H R := eI (pi_range3 hg B.range pA hs hpl) h
theorem i_enum {R : It → Hp → Prop} {elts : List Expr} {kk : Nat} {tpos : Pos} (B : Blt X.mg X.base) (h : wE X e σ H fun v H1 => ∃ a xs, v = .ref a ∧ SqL X.K H1 a xs ∧ R (Ite X.K a) H1) (hg : Gl X "enumerate" := by rfl) (hs : starEach [e] X.env = [(false, eval e X.env)] := by rfl) :
    wI X (.Tuple elts kk tpos) (.Call (.Name "enumerate" p) [e] [] pos) σ H R :=
  eI (pi_enum hg B.enumerate pA hs) (a_cons (wE_mono h fun v H1 ⟨a, xs, e1, h1, r⟩ => a_nil ⟨a, xs, by rw [e1], h1, r⟩) hs)
end

/-! ### built-ins -/
structure cW (X : Cx) (f : Value) (xs : List V) (H : Hp) (Q : VK) : Prop where
  run : ∀ pins s σ us, Inv X pins σ H s → Vals xs us → wpAny (model X.prog X.w) X.A (call f us) (EP X pins σ Q) X.xe s
theorem cR {X : Cx} {f : Value} : CallR X f (cW X f) := fun pins s σ _ _ us _ I r h => h.run pins s σ us I r
theorem cW_of {X : Cx} {f : Value} {r : List V → Hp → VK → Prop} {xs : List V} {H : Hp} {Q : VK} (p : CallR X f r) (h : r xs H Q) : cW X f xs H Q := ⟨fun pins s σ us I rv => p pins s σ H xs us Q I rv h⟩
section
variable {X : Cx} {k : Nat} {W : WX} {σ : L2.St} {H : Hp} {x : Str} {e a b : Expr} {es : List Expr} {p pos : Pos} {Q : VK}
theorem e_B {id : String} (h : wA X (e :: es) σ H fun vs H1 => cW X (.builtin id) vs H1 Q) (hm : X.mg x = none) (hv : bootBuiltins x = some (.builtin id)) (hg : Gl X x := by rfl) (hn : x ≠ "__name__" := by decide) (hdb : (x == ("__debug__" : Str)) = false := by decide)
    (he : starEach (e :: es) X.env = (false, eval e X.env) :: starEach es X.env := by rfl) (hpl : (backTo pos (starEach es X.env)).any (·.1) = false := by rfl) : wE X (.Call (.Name x p) (e :: es) [] pos) σ H Q := eE (pe_callB cR hg hm hv pA hn hdb he hpl) h
theorem e_Ty {T : String} (h : wA X (e :: es) σ H fun vs H1 => cW X (.type T) vs H1 Q) (hm : X.mg x = none) (hv : bootBuiltins x = some (.type T)) (hg : Gl X x := by rfl) (hn : x ≠ "__name__" := by decide) (hdb : (x == ("__debug__" : Str)) = false := by decide)
    (he : starEach (e :: es) X.env = (false, eval e X.env) :: starEach es X.env := by rfl) (hpl : (backTo pos (starEach es X.env)).any (·.1) = false := by rfl) : wE X (.Call (.Name x p) (e :: es) [] pos) σ H Q := eE (pe_callTy cR hg hm hv pA hn hdb he hpl) h
theorem e_len (B : Blt X.mg X.base) (h : wE X a σ H fun x H1 => ∃ n, LenV X.K x H1 n ∧ Q (.int n) H1) (hg : Gl X "len" := by rfl) (hs : starEach [a] X.env = [(false, eval a X.env)] := by rfl) : wE X (.Call (.Name "len" p) [a] [] pos) σ H Q :=
  e_B (id := "len") (a_cons (wE_mono h fun x H1 ⟨n, l, q⟩ => a_nil (cW_of call_len ⟨x, n, rfl, l, q⟩)) hs) B.len PySem.boot_len hg (by decide) (by decide) hs rfl
theorem e_abs (B : Blt X.mg X.base) (h : wE X a σ H fun x H1 => ∃ i, x = .int i ∧ Q (.int (if i < 0 then -i else i)) H1) (hg : Gl X "abs" := by rfl) (hs : starEach [a] X.env = [(false, eval a X.env)] := by rfl) : wE X (.Call (.Name "abs" p) [a] [] pos) σ H Q :=
  e_B (id := "abs") (a_cons (wE_mono h fun x H1 ⟨n, l, q⟩ => a_nil (cW_of call_abs ⟨n, by rw [l], q⟩)) hs) B.abs PyProof.Rows.boot_abs hg (by decide) (by decide) hs rfl
theorem e_int1 (B : Blt X.mg X.base) (h : wE X a σ H fun x H1 => ∃ i, x = .int i ∧ Q (.int i) H1) (hg : Gl X "int" := by rfl) (hs : starEach [a] X.env = [(false, eval a X.env)] := by rfl) : wE X (.Call (.Name "int" p) [a] [] pos) σ H Q :=
  e_Ty (T := "int") (a_cons (wE_mono h fun x H1 ⟨n, l, q⟩ => a_nil (cW_of call_int1 (.inl ⟨n, by rw [l], q⟩))) hs) B.int PyProof.Rows.boot_int hg (by decide) (by decide) hs rfl
theorem e_max2 (C : Cxt X k W) (h : wE X a σ H fun x H1 => wE X b σ H1 fun y H2 => ∃ i j, x = .int i ∧ y = .int j ∧ Q (.int (if j > i then j else i)) H2) (hg : Gl X "max" := by rfl) (hs : starEach [a, b] X.env = (false, eval a X.env) :: starEach [b] X.env := by rfl)
    (hs2 : starEach [b] X.env = [(false, eval b X.env)] := by rfl) : wE X (.Call (.Name "max" p) [a, b] [] pos) σ H Q :=
  e_B (id := "max") (a_cons (wE_mono h fun x H1 q => a_cons (wE_mono q fun y H2 ⟨i, j, e1, e2, q⟩ => a_nil (cW_of (call_max2 C.calm) ⟨i, j, by rw [e1, e2], q⟩)) hs2) hs) C.blt.max PyProof.Rows.boot_max hg (by decide) (by decide) hs (by rw [hs2]; rfl)
theorem e_min2 (C : Cxt X k W) (h : wE X a σ H fun x H1 => wE X b σ H1 fun y H2 => ∃ i j, x = .int i ∧ y = .int j ∧ Q (.int (if j < i then j else i)) H2) (hg : Gl X "min" := by rfl) (hs : starEach [a, b] X.env = (false, eval a X.env) :: starEach [b] X.env := by rfl)
    (hs2 : starEach [b] X.env = [(false, eval b X.env)] := by rfl) : wE X (.Call (.Name "min" p) [a, b] [] pos) σ H Q :=
  e_B (id := "min") (a_cons (wE_mono h fun x H1 q => a_cons (wE_mono q fun y H2 ⟨i, j, e1, e2, q⟩ => a_nil (cW_of (call_min2 C.calm) ⟨i, j, by rw [e1, e2], q⟩)) hs2) hs) C.blt.min PyProof.Rows.boot_min hg (by decide) (by decide) hs (by rw [hs2]; rfl)
theorem e_divmod (B : Blt X.mg X.base) (h : wE X a σ H fun x H1 => wE X b σ H1 fun y H2 => ∃ i j, x = .int i ∧ y = .int j ∧ CDiv i j ∧ ∀ p, H2 p = none → Q (.ref p) (upd H2 p (.tup [.int (i / j), .int (i % j)]))) (hg : Gl X "divmod" := by rfl)
    (hs : starEach [a, b] X.env = (false, eval a X.env) :: starEach [b] X.env := by rfl) (hs2 : starEach [b] X.env = [(false, eval b X.env)] := by rfl) : wE X (.Call (.Name "divmod" p) [a, b] [] pos) σ H Q :=
  e_B (id := "divmod") (a_cons (wE_mono h fun x H1 q => a_cons (wE_mono q fun y H2 ⟨i, j, e1, e2, q⟩ => a_nil (cW_of call_divmod ⟨i, j, by rw [e1, e2], q⟩)) hs2) hs) B.divmod PyProof.Rows.boot_divmod hg (by decide) (by decide) hs (by rw [hs2]; rfl)
theorem e_all (C : Cxt X k W) (h : wE X a σ H fun x H1 => ∃ (q : Addr) (bs : List Bool), x = .ref q ∧ SqL X.K H1 q (bs.map V.bl) ∧ Q (.bl (bs.all id)) H1) (hg : Gl X "all" := by rfl) (hs : starEach [a] X.env = [(false, eval a X.env)] := by rfl) : wE X (.Call (.Name "all" p) [a] [] pos) σ H Q :=
  e_B (id := "all") (a_cons (wE_mono h fun x H1 ⟨n, bs, e1, l, q⟩ => a_nil (cW_of (cr_all C.calm) ⟨n, bs, by rw [e1], l, q⟩)) hs) C.blt.all PyProof.Rows.boot_all hg (by decide) (by decide) hs rfl
theorem e_any (C : Cxt X k W) (h : wE X a σ H fun x H1 => ∃ (q : Addr) (bs : List Bool), x = .ref q ∧ SqL X.K H1 q (bs.map V.bl) ∧ Q (.bl (bs.any id)) H1) (hg : Gl X "any" := by rfl) (hs : starEach [a] X.env = [(false, eval a X.env)] := by rfl) : wE X (.Call (.Name "any" p) [a] [] pos) σ H Q :=
  e_B (id := "any") (a_cons (wE_mono h fun x H1 ⟨n, bs, e1, l, q⟩ => a_nil (cW_of (cr_any C.calm) ⟨n, bs, by rw [e1], l, q⟩)) hs) C.blt.any PyProof.Rows.boot_any hg (by decide) (by decide) hs rfl

/-! ### subscripts, slices, methods -/
/-- v[i], by values -/
structure iW (X : Cx) (x y : V) (H : Hp) (Q : VK) : Prop where
  run : ∀ (value slice : Expr) pins s σ v u, Inv X pins σ H s → RelV x v → RelV y u → subscripted slice false v u = operate [v, u] (getItem v u) → wpAny (model X.prog X.w) X.A (subscriptTail value slice v u) (EP X pins σ Q) X.xe s
theorem e_ix (h : wE X a σ H fun x H1 => wE X b σ H1 fun y H2 => iW X x y H2 Q) (hs : PlainIx b := by exact fun _ _ => rfl) : wE X (.Subscript a b pos) σ H Q :=
  eE (pe_ix (r := iW X) (fun value slice pins s σ _ _ _ v u _ I rx ry h he => h.run value slice pins s σ v u I rx ry he) pE pE hs) h
theorem iW_of {r : R2} {x y : V} (p : IxR X r) (h : r x y H Q) : iW X x y H Q := ⟨fun value slice pins s σ v u I rx ry he => p value slice pins s σ H x y v u Q I rx ry h he⟩
theorem ix_l {q : Addr} {xs : List V} {i : Int} {v : V} (hq : SqL X.K H q xs) (ha : atI xs i = some v) (h : Q v H) : iW X (.ref q) (.int i) H Q := iW_of ix_list ⟨q, xs, i, v, rfl, rfl, hq, ha, h⟩
theorem ix_t {q : Addr} {xs : List V} {i : Int} {v : V} (hq : SqT X.K H q xs) (ha : atI xs i = some v) (h : Q v H) : iW X (.ref q) (.int i) H Q := iW_of ix_tup ⟨q, xs, i, v, rfl, rfl, hq, ha, h⟩
theorem ix_s {z : Str} {i : Int} {c : Nat} (hz : z.length ≤ sizeLine) (ha : atI z.cps.toList i = some c) (h : Q (.str ⟨#[c]⟩) H) : iW X (.str z) (.int i) H Q := iW_of ix_str ⟨z, i, c, rfl, rfl, hz, ha, h⟩
theorem set_l {q : Addr} {xs : List V} {i : Int} {j : Nat} {v : V} {R : Hp → Prop} (hq : H q = some (.lst xs)) (hj : ixN xs.length i = some j) (h : R (upd H q (.lst (xs.set j v)))) : sW X (.ref q) (.int i) v H R := sW_of set_list ⟨q, xs, i, j, rfl, rfl, hq, hj, h⟩
end
end Z

set_option Elab.async false
set_option linter.all false
set_option maxRecDepth 100000
set_option maxHeartbeats 4000000
/-! Data: what a value holds as a whole; none of its lists and dicts among l (those that may change) -/
namespace Z
open PySem PySem.Spec PyProof.Rows L2

/-- all but what stands at l is as it was -/
def But (l : List Addr) (H H' : Hp) : Prop := ∀ q o, q ∉ l → H q = some o → H' q = some o
theorem But.refl {l : List Addr} {H : Hp} : But l H H := fun _ _ _ h => h
theorem But.trans {l : List Addr} {H H1 H2 : Hp} (a : But l H H1) (b : But l H1 H2) : But l H H2 := fun q o n h => b q o n (a q o n h)
theorem But.new {l : List Addr} {H : Hp} {p : Addr} {o : HO} (h : H p = none) : But l H (upd H p o) := fun q u _ e => by rw [upd_ne (ne_of_none e h)]; exact e
theorem But.at {l : List Addr} {H : Hp} {p : Addr} {o : HO} (h : p ∈ l) : But l H (upd H p o) := fun q u n e => by
  have : q ≠ p := fun z => n (z ▸ h)
  rw [upd_ne this]; exact e
theorem But.mono {l m : List Addr} {H H' : Hp} (a : But l H H') (h : ∀ q ∈ l, q ∈ m) : But m H H' := fun q o n e => a q o (fun z => n (h q z)) e
theorem But.of {H H' : Hp} {l : List Addr} (a : But [] H H') : But l H H' := a.mono fun _ h => nomatch h
theorem But.free {H H' : Hp} (a : But [] H H') {p : Addr} (h : H' p = none) : H p = none := by
  cases e : H p with
  | none => rfl
  | some o => rw [a p o (by simp) e] at h; cases h
theorem But.freeL {l : List Addr} {H H' : Hp} (a : But l H H') {p : Addr} (n : p ∉ l) (h : H' p = none) : H p = none := by
  cases e : H p with
  | none => rfl
  | some o => rw [a p o n e] at h; cases h
theorem But.sql {K : PySem.W.Frag} {l : List Addr} {H H' : Hp} {a : Addr} {xs : List V} (b : But l H H') (n : a ∉ l) (h : SqL K H a xs) : SqL K H' a xs := by
  rcases h with (h | ⟨o, h⟩) | h
  · exact .inl (.inl (b _ _ n h))
  · exact .inl (.inr ⟨o, b _ _ n h⟩)
  · exact .inr h
theorem But.sqt {K : PySem.W.Frag} {l : List Addr} {H H' : Hp} {a : Addr} {xs : List V} (b : But l H H') (n : a ∉ l) (h : SqT K H a xs) : SqT K H' a xs := by
  rcases h with (h | ⟨o, h⟩) | h
  · exact .inl (.inl (b _ _ n h))
  · exact .inl (.inr ⟨o, b _ _ n h⟩)
  · exact .inr h

def keyD : Key → PyData
  | .inl i => .int i
  | .inr x => .str x
mutual
inductive DD (K : PySem.W.Frag) (l : List Addr) (H : Hp) : V → PyData → Prop
  | non : DD K l H .non .none
  | bl (b : Bool) : DD K l H (.bl b) (.bool b)
  | int (i : Int) : DD K l H (.int i) (.int i)
  | str (x : Str) : DD K l H (.str x) (.str x)
  | lst {a : Addr} {xs : List V} {ds : List PyData} : SqL K H a xs → a ∉ l → DDs K l H xs ds → DD K l H (.ref a) (.list ds)
  | tup {a : Addr} {xs : List V} {ds : List PyData} : SqT K H a xs → a ∉ l → DDs K l H xs ds → DD K l H (.ref a) (.tuple ds)
  | dct {a : Addr} {kvs : List (Key × V)} {ds : List PyData} : H a = some (.dK kvs) → a ∉ l → DDs K l H (kvs.map (·.2)) ds → DD K l H (.ref a) (.dict ((kvs.map fun q => keyD q.1).zip ds))
inductive DDs (K : PySem.W.Frag) (l : List Addr) (H : Hp) : List V → List PyData → Prop
  | nil : DDs K l H [] []
  | cons {v : V} {vs : List V} {d : PyData} {ds : List PyData} : DD K l H v d → DDs K l H vs ds → DDs K l H (v :: vs) (d :: ds)
end
section
variable {K : PySem.W.Frag} {l m : List Addr} {H H' : Hp}
mutual
theorem DD.but (b : But l H H') : ∀ {v : V} {d : PyData}, DD K l H v d → DD K l H' v d
  | _, _, .non => .non
  | _, _, .bl x => .bl x
  | _, _, .int x => .int x
  | _, _, .str x => .str x
  | _, _, .lst h n r => .lst (b.sql n h) n (DDs.but b r)
  | _, _, .tup h n r => .tup (b.sqt n h) n (DDs.but b r)
  | _, _, .dct h n r => .dct (b _ _ n h) n (DDs.but b r)
theorem DDs.but (b : But l H H') : ∀ {vs : List V} {ds : List PyData}, DDs K l H vs ds → DDs K l H' vs ds
  | _, _, .nil => .nil
  | _, _, .cons h r => .cons (DD.but b h) (DDs.but b r)
end
mutual
theorem DD.less (b : ∀ q ∈ m, q ∈ l) : ∀ {v : V} {d : PyData}, DD K l H v d → DD K m H v d
  | _, _, .non => .non
  | _, _, .bl x => .bl x
  | _, _, .int x => .int x
  | _, _, .str x => .str x
  | _, _, .lst h n r => .lst h (fun z => n (b _ z)) (DDs.less b r)
  | _, _, .tup h n r => .tup h (fun z => n (b _ z)) (DDs.less b r)
  | _, _, .dct h n r => .dct h (fun z => n (b _ z)) (DDs.less b r)
theorem DDs.less (b : ∀ q ∈ m, q ∈ l) : ∀ {vs : List V} {ds : List PyData}, DDs K l H vs ds → DDs K m H vs ds
  | _, _, .nil => .nil
  | _, _, .cons h r => .cons (DD.less b h) (DDs.less b r)
end
theorem DDs.length : ∀ {vs : List V} {ds : List PyData}, DDs K l H vs ds → vs.length = ds.length
  | _, _, .nil => rfl
  | _, _, .cons _ r => congrArg Nat.succ (DDs.length r)
theorem DDs.get : ∀ {vs : List V} {ds : List PyData} {i : Nat} {v : V}, DDs K l H vs ds → vs[i]? = some v → ∃ d, ds[i]? = some d ∧ DD K l H v d
  | _, _, _, _, .nil, h => by simp at h
  | _, _, 0, _, .cons h _, e => by simp at e; subst e; exact ⟨_, rfl, h⟩
  | _, _, i + 1, _, .cons _ r, e => by
    obtain ⟨d, h1, h2⟩ := DDs.get (i := i) r (by simpa using e)
    exact ⟨d, by simpa using h1, h2⟩
theorem DDs.strs : ∀ ys : List Str, DDs K l H (ys.map V.str) (ys.map PyData.str)
  | [] => .nil
  | y :: ys => .cons (.str y) (DDs.strs ys)
theorem DDs.append : ∀ {vs ws : List V} {ds es : List PyData}, DDs K l H vs ds → DDs K l H ws es → DDs K l H (vs ++ ws) (ds ++ es)
  | _, _, _, _, .nil, s => s
  | _, _, _, _, .cons h r, s => .cons h (DDs.append r s)
mutual
theorem DD.dp : ∀ {v : V} {d : PyData}, DD K l H v d → d.hasDict = false → Dp K H v d
  | _, _, .non, _ => .non
  | _, _, .bl x, _ => .bl x
  | _, _, .int x, _ => .int x
  | _, _, .str x, _ => .str x
  | _, _, .lst h n r, e => .lst h (DDs.dp r (by simpa [PyData.hasDict] using e))
  | _, _, .tup h n r, e => .tup h (DDs.dp r (by simpa [PyData.hasDict] using e))
  | _, _, .dct h n r, e => by simp [PyData.hasDict] at e
theorem DDs.dp : ∀ {vs : List V} {ds : List PyData}, DDs K l H vs ds → PyData.hasDictAll ds = false → DpAll K H vs ds
  | _, _, .nil, _ => .nil
  | _, _, .cons h r, e => by
    simp only [PyData.hasDictAll, Bool.or_eq_false_iff] at e
    exact .cons (DD.dp h e.1) (DDs.dp r e.2)
end
end

/-! ### what is read of it -/
theorem keyD_reads {h : Heap} {k : Key} {v : Value} (e : keyIs k v = true) : Reads h v (keyD k) [] := by
  rcases keyIs_shape e with ⟨i, t, rfl, rfl⟩ | ⟨x, t, rfl, rfl⟩
  · exact .int i t
  · exact .str x t
section
variable {X : Cx} {pins : List (Addr × Obj)} {σ : L2.St} {l : List Addr} {H : Hp} {s : Shared}
/-- at sysModules there is no list and no tracked dict -/
abbrev SysFree (X : Cx) : Prop := ∃ o es ep, X.base.get? sysModules = some o ∧ o.data = .dict es ep
theorem sys_noL (Y : SysFree X) (I : Inv X pins σ H s) {a : Addr} {xs : List V} (h : SqL X.K H a xs) : a ≠ sysModules := fun z => by
  subst z
  obtain ⟨o, es, ep, h1, h2⟩ := Y
  obtain ⟨its, rv, ⟨o', n, ho, hc, _, hd⟩, _⟩ := I.list h
  rw [(I.bs _ _ h1).1] at ho
  cases ho
  rw [h2] at hd
  cases hd
theorem sys_noD (Y : SysFree X) (I : Inv X pins σ H s) {a : Addr} {u : HO} (h : H a = some u) : a ≠ sysModules := fun z => by
  subst z
  obtain ⟨o, es, ep, h1, h2⟩ := Y
  rw [(I.bs _ _ h1).2] at h
  cases h
theorem readsAll_keys {P : Program} {w : World} (h : Heap) : ∀ {kvs : List (Key × V)} {vs : List (Key × Value)} {es : List DictEntry}, KV kvs vs → Pairs (mixKind P w) es vs → ReadsAll h (es.map (·.key)) (kvs.map fun q => keyD q.1) []
  | _, _, _, .nil, .nil => .nil
  | _, _, _, .cons r1 r, .cons e1 e2 e => by
    have q := readsAll_keys h r e
    have k1 := keyD_reads (h := h) (show keyIs _ _ = true from e1)
    rw [← r1.1] at k1
    exact ReadsAll.cons k1 q
theorem pairs_vals {P : Program} {w : World} : ∀ {es : List DictEntry} {vs : List (Key × Value)}, Pairs (mixKind P w) es vs → es.map (·.val) = vs.map (·.2)
  | _, _, .nil => rfl
  | _, _, .cons _ e2 e => by rw [List.map_cons, List.map_cons, e2, pairs_vals e]
theorem vals_of {kvs : List (Key × V)} {vs : List (Key × Value)} (r : KV kvs vs) : Vals (kvs.map (·.2)) (vs.map (·.2)) := by
  induction r with
  | nil => exact .nil
  | cons h _ ih => exact .cons h.2 ih
mutual
theorem DD.reads (Y : SysFree X) (I : Inv X pins σ H s) : ∀ {v : V} {d : PyData} {u : Value}, DD X.K l H v d → RelV v u → ∃ as, Reads s.heap u d as ∧ sysModules ∉ as
  | _, _, _, .non, r => by cases r; exact ⟨_, Reads.none, by simp⟩
  | _, _, _, .bl b, r => by cases r; exact ⟨_, Reads.bool b, by simp⟩
  | _, _, _, .int i, r => by obtain ⟨t, rfl⟩ := r; exact ⟨_, Reads.int i t, by simp⟩
  | _, _, _, .str x, r => by obtain ⟨t, rfl⟩ := r; exact ⟨_, Reads.str x t, by simp⟩
  | _, _, _, .lst h n ha, r => by
    cases r
    have ne := sys_noL Y I h
    obtain ⟨its, rv, ⟨o, n, ho, hc, _, hd⟩, _⟩ := I.list h
    obtain ⟨as, hr, na⟩ := DDs.reads Y I ha rv
    exact ⟨_, Reads.list ho hc hd hr, by simp [na, Ne.symm ne]⟩
  | _, _, _, .tup h n ha, r => by
    cases r
    obtain ⟨its, rv, ⟨o, ho, hc, n, hd⟩, _⟩ := I.tuple h
    obtain ⟨as, hr, na⟩ := DDs.reads Y I ha rv
    exact ⟨_, Reads.tuple ho hc hd hr, na⟩
  | _, _, _, .dct (a := a) (kvs := kvs) (ds := ds) h n ha, r => by
    cases r
    have ne := sys_noD Y I h
    obtain ⟨_, _, vs, rk, o, es, ep, ho, hx, hd, _, hp, _⟩ := I.hok a _ h
    have hv := pairs_vals hp
    obtain ⟨as, hr, na⟩ := DDs.reads Y I ha (vals_of rk)
    have hl := DDs.length ha
    refine ⟨_, Reads.dict (as := []) (bs := as) ho hx.1 hd ?_ ?_, by simp [na, Ne.symm ne]⟩
    · rw [List.map_fst_zip (by simpa using Nat.le_of_eq hl)]
      exact readsAll_keys _ rk hp
    · rw [List.map_snd_zip (by simpa using Nat.le_of_eq hl.symm), hv]
      exact hr
theorem DDs.reads (Y : SysFree X) (I : Inv X pins σ H s) : ∀ {vs : List V} {ds : List PyData} {us : List Value}, DDs X.K l H vs ds → Vals vs us → ∃ as, ReadsAll s.heap us ds as ∧ sysModules ∉ as
  | _, _, _, .nil, .nil => ⟨_, ReadsAll.nil, by simp⟩
  | _, _, _, .cons h r, .cons r1 r2 => by
    obtain ⟨as, q1, n1⟩ := DD.reads Y I h r1
    obtain ⟨bs, q2, n2⟩ := DDs.reads Y I r r2
    exact ⟨_, ReadsAll.cons q1 q2, by simp [n1, n2]⟩
end
/-! ### repr -/
theorem call_reprD (Y : SysFree X) (hg : X.A.guards = some []) (hu : X.A.units + 66 < cLine) : CallR X (.builtin "repr") (fun xs H Q => ∃ v l d, xs = [v] ∧ DD X.K l H v d ∧ d.showable = true ∧ d.depth ≤ 64 ∧ d.shown.length ≤ sizeLine ∧ Q (.str d.shown) H) := by
  intro pins s σ H xs us Q I r h
  obtain ⟨v, l, d, rfl, hd, hs, hdp, hz, q⟩ := h
  obtain ⟨u, rfl, r1⟩ := vals1 r
  have fin : ∀ {h' : Heap} {t tk}, (∀ b o, s.heap.get? b = some o → h'.get? b = some o) → EP X pins σ Q (.str d.shown t) { s with heap := h', toks := tk } := fun k => ⟨.str d.shown, H, I.kept k, ⟨_, rfl⟩, q⟩
  cases hd with
  | non =>
    cases r1
    rw [PyData.shown_none] at fin
    exact PySem.P.repr_of_none (fin fun _ _ e => e)
  | bl b =>
    cases r1
    rw [PyData.shown_bool] at fin
    refine PySem.P.repr_of_bool ?_
    have := fin (t := s.toks) (tk := s.toks + 1) (h' := s.heap) fun _ _ e => e
    cases b <;> exact this
  | int i =>
    obtain ⟨t, rfl⟩ := r1
    rw [PyData.shown_int] at fin
    exact PySem.P.repr_of_int (by simpa [PyData.showable] using hs) (fin fun _ _ e => e)
  | str x =>
    obtain ⟨t, rfl⟩ := r1
    rw [PyData.shown_str] at fin hz
    exact PySem.P.repr_of_str (fin fun _ _ e => e) hz
  | @lst a xs ds h1 h2 h3 =>
    obtain rfl : u = Value.ref a := r1
    obtain ⟨as, hr, na⟩ := DD.reads Y I (.lst h1 h2 h3) (u := .ref a) rfl
    exact repr_of_reads' hr hs (fun _ => na) hg (by omega) (fun _ _ e => e) (fun h' u tk k => fin k) hz
  | @tup a xs ds h1 h2 h3 =>
    obtain rfl : u = Value.ref a := r1
    obtain ⟨as, hr, na⟩ := DD.reads Y I (.tup h1 h2 h3) (u := .ref a) rfl
    exact repr_of_reads' hr hs (fun _ => na) hg (by omega) (fun _ _ e => e) (fun h' u tk k => fin k) hz
  | @dct a kvs ds h1 h2 h3 =>
    obtain rfl : u = Value.ref a := r1
    obtain ⟨as, hr, na⟩ := DD.reads Y I (.dct h1 h2 h3) (u := .ref a) rfl
    exact repr_of_reads' hr hs (fun _ => na) hg (by omega) (fun _ _ e => e) (fun h' u tk k => fin k) hz
end
end Z

set_option Elab.async false
set_option linter.all false
set_option maxRecDepth 100000
set_option maxHeartbeats 4000000
namespace Z
open PySem PySem.Spec PyProof.Rows L2

/-! ### repr, isinstance, == of data -/
section
variable {X : Cx} {k : Nat} {W : WX} {σ : L2.St} {H : Hp} {x : Str} {e a b : Expr} {es : List Expr} {p pos : Pos} {Q : VK}
theorem e_repr (B : Blt X.mg X.base) (hg : X.A.guards = some []) (hu : X.A.units + 66 < cLine)
    (h : wE X a σ H fun v H1 => ∃ l d, DD X.K l H1 v d ∧ d.showable = true ∧ d.depth ≤ 64 ∧ d.shown.length ≤ sizeLine ∧ Q (.str d.shown) H1) (hgl : Gl X "repr" := by rfl) (hs : starEach [a] X.env = [(false, eval a X.env)] := by rfl) :
    wE X (.Call (.Name "repr" p) [a] [] pos) σ H Q :=
  e_B (id := "repr") (a_cons (wE_mono h fun v H1 ⟨l, d, h1, h2, h3, h4, q⟩ => a_nil (cW_of (call_reprD B.sys hg hu) ⟨v, l, d, rfl, h1, h2, h3, h4, q⟩)) hs) B.repr PyProof.Rows.boot_repr hgl (by decide) (by decide) hs rfl
theorem Cxt.un (C : Cxt X k W) : X.A.units + 66 < cLine := by have := C.room.un; omega
/-- the name of a data's type -/
def tyD : PyData → String
  | .none => "NoneType" | .bool _ => "bool" | .int _ => "int" | .str _ => "str" | .list _ => "list" | .tuple _ => "tuple" | .dict _ => "dict"
theorem DD.tyx {K : PySem.W.Frag} {l : List Addr} {v : V} {d : PyData} (h : DD K l H v d) : TyX K H v (.type (tyD d)) := by
  cases h with
  | non => exact .base .non
  | bl b => exact .base (.bl b)
  | int i => exact .base (.int i)
  | str x => exact .base (.str x)
  | lst h1 h2 h3 =>
    rcases h1 with (h1 | ⟨o, h1⟩) | ⟨o, its, n, h1, h4, _⟩
    · exact .base (.lst h1)
    · exact .base (.frz h1)
    · exact .kList h1 h4
  | tup h1 h2 h3 =>
    rcases h1 with (h1 | ⟨o, h1⟩) | ⟨o, its, n, h1, h4, _⟩
    · exact .base (.tup h1)
    · exact .fTuple h1
    · exact .kTuple h1 h4
  | dct h1 h2 h3 => exact .base (.dK h1)
def isInt : PyData → Bool | .int _ => true | .bool _ => true | _ => false
def isBool : PyData → Bool | .bool _ => true | _ => false
def isStr : PyData → Bool | .str _ => true | _ => false
def isList : PyData → Bool | .list _ => true | _ => false
def isTuple : PyData → Bool | .tuple _ => true | _ => false
def isDict : PyData → Bool | .dict _ => true | _ => false
theorem kit_int : ∀ d : PyData, kitB (tyD d) "int" = some (isInt d)
  | .none => (by decide +kernel : kitB "NoneType" "int" = some false)
  | .bool _ => (by decide +kernel : kitB "bool" "int" = some true)
  | .int _ => (by decide +kernel : kitB "int" "int" = some true)
  | .str _ => (by decide +kernel : kitB "str" "int" = some false)
  | .list _ => (by decide +kernel : kitB "list" "int" = some false)
  | .tuple _ => (by decide +kernel : kitB "tuple" "int" = some false)
  | .dict _ => (by decide +kernel : kitB "dict" "int" = some false)
theorem kit_bool : ∀ d : PyData, kitB (tyD d) "bool" = some (isBool d)
  | .none => (by decide +kernel : kitB "NoneType" "bool" = some false)
  | .bool _ => (by decide +kernel : kitB "bool" "bool" = some true)
  | .int _ => (by decide +kernel : kitB "int" "bool" = some false)
  | .str _ => (by decide +kernel : kitB "str" "bool" = some false)
  | .list _ => (by decide +kernel : kitB "list" "bool" = some false)
  | .tuple _ => (by decide +kernel : kitB "tuple" "bool" = some false)
  | .dict _ => (by decide +kernel : kitB "dict" "bool" = some false)
theorem kit_str : ∀ d : PyData, kitB (tyD d) "str" = some (isStr d)
  | .none => (by decide +kernel : kitB "NoneType" "str" = some false)
  | .bool _ => (by decide +kernel : kitB "bool" "str" = some false)
  | .int _ => (by decide +kernel : kitB "int" "str" = some false)
  | .str _ => (by decide +kernel : kitB "str" "str" = some true)
  | .list _ => (by decide +kernel : kitB "list" "str" = some false)
  | .tuple _ => (by decide +kernel : kitB "tuple" "str" = some false)
  | .dict _ => (by decide +kernel : kitB "dict" "str" = some false)
theorem kit_list : ∀ d : PyData, kitB (tyD d) "list" = some (isList d)
  | .none => (by decide +kernel : kitB "NoneType" "list" = some false)
  | .bool _ => (by decide +kernel : kitB "bool" "list" = some false)
  | .int _ => (by decide +kernel : kitB "int" "list" = some false)
  | .str _ => (by decide +kernel : kitB "str" "list" = some false)
  | .list _ => (by decide +kernel : kitB "list" "list" = some true)
  | .tuple _ => (by decide +kernel : kitB "tuple" "list" = some false)
  | .dict _ => (by decide +kernel : kitB "dict" "list" = some false)
theorem kit_tuple : ∀ d : PyData, kitB (tyD d) "tuple" = some (isTuple d)
  | .none => (by decide +kernel : kitB "NoneType" "tuple" = some false)
  | .bool _ => (by decide +kernel : kitB "bool" "tuple" = some false)
  | .int _ => (by decide +kernel : kitB "int" "tuple" = some false)
  | .str _ => (by decide +kernel : kitB "str" "tuple" = some false)
  | .list _ => (by decide +kernel : kitB "list" "tuple" = some false)
  | .tuple _ => (by decide +kernel : kitB "tuple" "tuple" = some true)
  | .dict _ => (by decide +kernel : kitB "dict" "tuple" = some false)
theorem kit_dict : ∀ d : PyData, kitB (tyD d) "dict" = some (isDict d)
  | .none => (by decide +kernel : kitB "NoneType" "dict" = some false)
  | .bool _ => (by decide +kernel : kitB "bool" "dict" = some false)
  | .int _ => (by decide +kernel : kitB "int" "dict" = some false)
  | .str _ => (by decide +kernel : kitB "str" "dict" = some false)
  | .list _ => (by decide +kernel : kitB "list" "dict" = some false)
  | .tuple _ => (by decide +kernel : kitB "tuple" "dict" = some false)
  | .dict _ => (by decide +kernel : kitB "dict" "dict" = some true)
/-- isinstance(a, T), T a built-in type -/
theorem e_isi {T : Str} {n : String} {r : PyData → Bool} (B : Blt X.mg X.base) (hk : ∀ d, kitB (tyD d) n = some (r d)) (hT : X.mg T = none) (hv : bootBuiltins T = some (.type n))
    (h : wE X a σ H fun v H1 => ∃ l d, DD X.K l H1 v d ∧ Q (.bl (r d)) H1) {pT : Pos} (hgT : Gl X T := by rfl) (hnT : T ≠ "__name__" := by decide) (hdT : (T == ("__debug__" : Str)) = false := by decide) (hgl : Gl X "isinstance" := by rfl)
    (hs : starEach [a, .Name T pT] X.env = (false, eval a X.env) :: starEach [.Name T pT] X.env := by rfl) (hs2 : starEach [.Name T pT] X.env = [(false, eval (.Name T pT) X.env)] := by rfl) :
    wE X (.Call (.Name "isinstance" p) [a, .Name T pT] [] pos) σ H Q :=
  e_B (id := "isinstance") (a_cons (wE_mono h fun v H1 ⟨l, d, h1, q⟩ => a_cons (e_blt (v := .ty n) (a_nil (cW_of call_isi ⟨v, .ty n, _, _, r d, rfl, .ty n, h1.tyx, kit_ty (hk d), q⟩)) hT hv rfl hgT hnT hdT) hs2) hs)
    B.isinstance PyProof.Rows.boot_isinstance hgl (by decide) (by decide) hs (by rw [hs2]; rfl)
/-- isinstance(a, (T, U)), two built-in types -/
theorem e_isi2 {T U : Str} {n m : String} {r : PyData → Bool} {r' : PyData → Bool} (B : Blt X.mg X.base) (hk : ∀ d, kitB (tyD d) n = some (r d)) (hk' : ∀ d, kitB (tyD d) m = some (r' d)) (hT : X.mg T = none) (hv : bootBuiltins T = some (.type n)) (hU : X.mg U = none) (hv' : bootBuiltins U = some (.type m))
    {pT pU pt : Pos} {kt} (h : wE X a σ H fun v H1 => ∃ l d, DD X.K l H1 v d ∧ ∀ H2, But [] H1 H2 → Q (.bl (r d || r' d)) H2) (hgT : Gl X T := by rfl) (hnT : T ≠ "__name__" := by decide) (hdT : (T == ("__debug__" : Str)) = false := by decide) (hgU : Gl X U := by rfl) (hnU : U ≠ "__name__" := by decide) (hdU : (U == ("__debug__" : Str)) = false := by decide) (hgl : Gl X "isinstance" := by rfl)
    (hs : starEach [a, .Tuple [.Name T pT, .Name U pU] kt pt] X.env = (false, eval a X.env) :: starEach [.Tuple [.Name T pT, .Name U pU] kt pt] X.env := by rfl) (hs2 : starEach [.Tuple [.Name T pT, .Name U pU] kt pt] X.env = [(false, eval (.Tuple [.Name T pT, .Name U pU] kt pt) X.env)] := by rfl)
    (hs3 : starEach [.Name T pT, .Name U pU] X.env = (false, eval (.Name T pT) X.env) :: starEach [.Name U pU] X.env := by rfl) (hs4 : starEach [.Name U pU] X.env = [(false, eval (.Name U pU) X.env)] := by rfl) :
    wE X (.Call (.Name "isinstance" p) [a, .Tuple [.Name T pT, .Name U pU] kt pt] [] pos) σ H Q := by
  refine e_B (id := "isinstance") (a_cons (wE_mono h fun v H1 ⟨l, d, h1, q⟩ => a_cons (e_tup (a_cons (e_blt (v := .ty n) (a_cons (e_blt (v := .ty m) (a_nil ⟨by show 2 ≤ sizeLine; decide, fun t ht => ?_⟩) hU hv' rfl hgU hnU hdU) hs4) hT hv rfl hgT hnT hdT) hs3)) hs2) hs)
    B.isinstance PyProof.Rows.boot_isinstance hgl (by decide) (by decide) hs (by rw [hs2]; rfl)
  refine a_nil (cW_of call_isiT ⟨v, t, [.ty n, .ty m], _, [.type n, .type m], r d || r' d, rfl, upd_same, .cons (.ty n) (.cons (.ty m) .nil), (h1.but (But.new ht)).tyx, ?_, q _ (But.new ht)⟩)
  refine kitAny_cons (kit_ty (hk d)) (fun e1 => ?_) fun e1 => by rw [e1]; rfl
  rw [e1, Bool.false_or]
  exact kitAny_cons (kit_ty (hk' d)) (fun e2 => by rw [e2]; rfl) fun e2 => e2
/-- a == b, a != b: data without dicts, as the library tells it -/
theorem c_eqD {y z : V} {l m : List Addr} {d f : PyData} (C : Cxt X k W) (h1 : DD X.K l H y d) (h2 : DD X.K m H z f) (n1 : SeqAt.shaped d = true) (n2 : SeqAt.shaped f = true) (q : Q (.bl (PyData.eqv d f)) H) : oW X (compareOp .Eq) y z H Q :=
  oW_of (op_eqD C.room.units) ⟨d, f, h1.dp (PyData.hasDict_of_canLay d (SeqAt.canLay_of_shaped n1)), h2.dp (PyData.hasDict_of_canLay f (SeqAt.canLay_of_shaped n2)), n1, n2, q⟩
theorem c_neD {y z : V} {l m : List Addr} {d f : PyData} (C : Cxt X k W) (h1 : DD X.K l H y d) (h2 : DD X.K m H z f) (n1 : SeqAt.shaped d = true) (n2 : SeqAt.shaped f = true) (q : Q (.bl (!PyData.eqv d f)) H) : oW X (compareOp .NotEq) y z H Q :=
  oW_of (op_neD C.room.units) ⟨d, f, h1.dp (PyData.hasDict_of_canLay d (SeqAt.canLay_of_shaped n1)), h2.dp (PyData.hasDict_of_canLay f (SeqAt.canLay_of_shaped n2)), n1, n2, q⟩
end

/-! ### own errors over LineError: one field -/
/-- what the head tells of an error class: it stands at C under the name x -/
structure Err1 (K : PySem.W.Frag) (mg : Str → Option Value) (x f : Str) (C : Addr) (st : Stmt) : Prop where
  gC : mg x = some (.ref C)
  oex : OexC K C
  init : ∃ fI oc od kV doc pm an cdv ct osl, PySem.W.findIn K (.ref C) "__init__" = some (some (.ref fI)) ∧ PySem.W.typeIn K (.ref fI) = some (.type "function") ∧
    K.lookup fI = some ⟨oc, od, .func (PySem.W.fnOf "__init__" (x ++ ".__init__") (defArgs st) (defBody st) (defScope st) .none kV doc pm an cdv ct), osl⟩ ∧ PySem.W.codeIn K cdv (x ++ ".__init__") = true
  no : PySem.W.findIn K (.ref C) f = some none
  xf : XfC K C
  kc : PySem.W.typeIn K (.ref C) = some (.type "type")
/-- the base class LineError, whose __init__ is ValueError's -/
structure Base0 (K : PySem.W.Frag) (mg : Str → Option Value) (b : Str) : Prop where
  ex : ∃ CB, mg b = some (.ref CB) ∧ PySem.W.readsIn K CB (.type "type") = true ∧ PySem.W.specialIn K (.ref CB) "__getattribute__" = some (some (.builtin "type.__getattribute__")) ∧
    PySem.W.findCls K (.ref CB) (.type "type") "__init__" = some (.val (.builtin "ValueError.__init__"))
section
variable {X : Cx} {σ : L2.St} {H : Hp} {Q : VK} {e : Expr} {es : List Expr} {p1 p2 pos : Pos} {b : Str}
theorem e_baseInit {pl : Sem Bool} (B : Base0 X.K X.mg b) (h : wA X (e :: es) σ H fun vs H1 => ∃ (a C : Addr) (ws : List V), vs = .ref a :: ws ∧ ws.length ≤ 1000 ∧ OexC X.K C ∧ H1 a = some (exo a C none) ∧ Q .non H1) (hg : Gl X b) (hdb : (b == ("__debug__" : Str)) = false)
    (hc : eval (.Call (.Attribute (.Name b p1) "__init__" p2) (e :: es) [] pos) X.env = (do
      let ov ← eval (.Name b p1) X.env
      standAt p2.atName
      let (f, first) ← holding [ov] (getMethod ov "__init__" pl)
      callWith pos f first (backTo pos (starEach (e :: es) X.env)) (backToKw pos (keywordEach [] X.env))))
    (he : starEach (e :: es) X.env = (false, eval e X.env) :: starEach es X.env := by rfl) (hpl : (backTo pos (starEach es X.env)).any (·.1) = false := by rfl) :
    wE X (.Call (.Attribute (.Name b p1) "__init__" p2) (e :: es) [] pos) σ H Q := by
  obtain ⟨CB, hm, rd, ga, fc⟩ := B.ex
  refine ⟨fun pins s I => ?_⟩
  refine PySem.W.methodCall_KW (ld_glob I hg hm ?_ hdb) hc
  refine PySem.W.method_cls I.kIn ga (PySem.W.cls_value I.kIn rd fc rfl ?_)
  show wpAny _ _ (callWith pos (Value.builtin "ValueError.__init__") [] (backTo pos (starEach (e :: es) X.env)) []) _ _ _
  refine PyProof.Rows.callWith_method1 (thn (h.run pos pins _ (I.tok _)) fun us s1 ⟨vs, H1, I1, r1, a, C, ws, ev, hl, T, ea, q⟩ => ?_) he hpl
  subst ev
  cases r1 with
  | @cons _ u0 _ ur ra rw' =>
    obtain rfl : u0 = Value.ref a := ra
    have hlen : ur.length ≤ sizeLine := by
      rw [← Paired.length rw', sizeLine_eq]
      omega
    exact oinit_ok T I1 ea hlen fun s' J => ⟨.non, H1, J, rfl, q⟩
end
/-- what an error's __init__ promises -/
def spInit1 (K : PySem.W.Frag) (f : Str) : Sp := fun vs H Q _ => ∃ (a C : Addr) (v : V), vs = [.ref a, v] ∧ OexC K C ∧ PySem.W.findIn K (.ref C) f = some none ∧ H a = some (exo a C none) ∧
  ∀ dx, H dx = none → dx ≠ a → Q .non (upd (upd H dx (exd dx [(f, v)])) a (exo a C (some dx)))
section
variable {P : Program} {w : World} {K : PySem.W.Frag} {mg : Str → Option Value} {base : Heap}
theorem init1_ok {x b f txt : Str} {st : Stmt} {fI : Addr} {oc kV doc pm cdv ct : Value} {od an : Option Addr} {osl : Array (Option Value)} {p1 p2 p3 p4 p5 p6 p7 p8 p9 p10 : Pos} {j : Nat} (B : Base0 K mg b)
    (lk : K.lookup fI = some ⟨oc, od, .func (PySem.W.fnOf "__init__" x (defArgs st) (defBody st) (defScope st) .none kV doc pm an cdv ct), osl⟩) (hcd : PySem.W.codeIn K cdv x = true)
    (S : FnScope ["self", f] ["self", f] (defScope st))
    (hb : defBody st = [.Expr (.Call (.Attribute (.Name b p1) "__init__" p2) [.Name "self" p3, .Constant (.str txt) j p4] [] p5) p6, .Assign [.Attribute (.Name "self" p7) f p8] (.Name f p9) p10])
    (hs : (defScope st).names.lookup ("self" : Str) = some .local) (hf : (defScope st).names.lookup f = some .local) (hg : (defScope st).names.lookup b = some .globalImplicit) (hdb : (b == ("__debug__" : Str)) = false) (hdf : (f == ("__debug__" : Str)) = false) (hdf2 : (f == ("__classdict__" : Str)) = false)
    (hc : ∀ env : Env, env.scope = defScope st → ∃ pl, eval (.Call (.Attribute (.Name b p1) "__init__" p2) [.Name "self" p3, .Constant (.str txt) j p4] [] p5) env = (do
      let ov ← eval (.Name b p1) env
      standAt p2.atName
      let (f, first) ← holding [ov] (getMethod ov "__init__" pl)
      callWith p5 f first (backTo p5 (starEach [.Name "self" p3, .Constant (.str txt) j p4] env)) (backToKw p5 (keywordEach [] env))))
    (hsw : ∀ env : Env, env.scope = defScope st → swapsWith (.Name f p9) (some (.Attribute (.Name "self" p7) f p8)) p10.line env = pure false)
    (hsw2 : ∀ env : Env, env.scope = defScope st → swapsWith (.Call (.Attribute (.Name b p1) "__init__" p2) [.Name "self" p3, .Constant (.str txt) j p4] [] p5) none p6.line env = pure false) :
    FnOk P w K mg base (L2.CX P w) 1 fI (PySem.W.fnOf "__init__" x (defArgs st) (defBody st) (defScope st) .none kV doc pm an cdv ct) ["self", f] (spInit1 K f) := by
  refine fn_of lk hcd S (fun vs H Q E h => ?_) fun A outer s H vs Q E hr h => ⟨wB _ (defBody st), pB, ?_⟩
  · obtain ⟨a, C, v, rfl, _⟩ := h
    rfl
  · obtain ⟨a, C, v, rfl, T, hno, ha, q⟩ := h
    rw [hb]
    obtain ⟨pl, hcc⟩ := hc (envOfC x (defScope st) s.heap.objs.size fI cdv) rfl
    refine b_cons (s_expr (e_baseInit (pl := pl) B ?_ hg hdb hcc) (hsw2 _ rfl))
    refine a_cons (e_name 0 (a_cons (e_str (a_nil ⟨a, C, _, rfl, by simp, T, ha, ?_⟩))) rfl rfl (.inl hs))
    refine b_cons (eS (ps_ost (pE (e := .Name "self" p7)) pE (hsw _ rfl)) ?_)
    refine e_name 1 ?_ rfl rfl (.inl hf) hdf hdf2
    refine e_name 0 ?_ rfl rfl (.inl hs)
    exact ⟨a, C, rfl, T, hno, .inl ⟨ha, fun dx n ne => b_nil (q dx n ne)⟩⟩
end
end Z

set_option Elab.async false
set_option linter.all false
set_option maxRecDepth 100000
set_option maxHeartbeats 4000000
/-! raise and try with own errors of one field -/
namespace Z
open PySem PySem.Spec PyProof.Rows L2

/-- an error class of one field, its __init__ proved -/
structure ErrOk (P : Program) (w : World) (K : PySem.W.Frag) (mg : Str → Option Value) (base : Heap) (x f : Str) (C : Addr) : Prop where
  gC : mg x = some (.ref C)
  oex : OexC K C
  no : PySem.W.findIn K (.ref C) f = some none
  xf : XfC K C
  ex : ∃ fI fd, PySem.W.findIn K (.ref C) "__init__" = some (some (.ref fI)) ∧ PySem.W.typeIn K (.ref fI) = some (.type "function") ∧ FnOk P w K mg base (L2.CX P w) 1 fI fd ["self", f] (spInit1 K f) ∧ Binds K fd ["self", f] []
section
variable {X : Cx} {k : Nat} {W : WX} {σ : L2.St} {H : Hp} {x f : Str} {e : Expr} {C : Addr} {p1 p2 pos : Pos} {D : Ends}
/-- raise X(v) -/
theorem s_raise1 (Cc : Cxt X k W) (E : ErrOk X.prog X.w X.K X.mg X.base x f C) (hr : 2 ≤ k)
    (h : wE X e σ H fun v H1 => ∀ d H', But [] H1 H' → H1 d = none → H' d = some (.xd [(f, v)]) → W (.ref C) (some d) σ H')
    (hg : Gl X x := by rfl) (hdb : (x == ("__debug__" : Str)) = false := by decide) (he : starEach [e] X.env = [(false, eval e X.env)] := by rfl) : wS X (.Raise (some (.Call (.Name x p1) [e] [] p2)) none pos) D σ H := by
  obtain ⟨fI, fd, iC, tI, F, hb⟩ := E.ex
  have hx : Passes (L2.CX X.prog X.w) X (fun _ _ _ => False) := fun pins σ H s e s' I c => passes_call Cc.tk (fun cls d σ' H' z => z.elim) pins σ H s e s' I c
  refine eS (ps_raise Cc.calm Cc.tk (pmk_oex E.oex iC tI F (Cc.room.mono hr) hb .nil hx hg E.gC pA hdb he rfl)) ?_
  refine a_cons (wE_mono h fun v H1 q => a_nil ⟨by simp, fun a ha => ?_⟩) he
  refine ⟨a, C, v, rfl, E.oex, E.no, upd_same, fun dx hd ne => ⟨rfl, dx, [(f, v)], upd_same, by rw [upd_ne ne, upd_same], ?_, ?_⟩⟩
  · rw [upd_ne ne] at hd
    exact hd
  · have hd' : H1 dx = none := by rw [upd_ne ne] at hd; exact hd
    refine q dx _ (fun b o _ hbo => ?_) hd' upd_same
    have nb : b ≠ a := ne_of_none hbo ha
    have nb2 : b ≠ dx := ne_of_none hbo hd'
    rw [upd_ne nb2, del_ne nb, upd_ne nb, upd_ne nb2, upd_ne nb]
    exact hbo
end

/-! ### several clauses, each with its name -/
abbrev Cl := Value × Nat × List Stmt
def wHd (X : Cx) (Wout : WX) (D : Ends) : List Cl → WX
  | [] => Wout
  | (c, i, sts) :: r => fun cls d σ H => ∃ b, PySem.W.exmOne X.K cls c = some b ∧
      (b = true → ∀ (a : Addr) (oe : Obj) (pn : List (Addr × Obj)), Zc cls d oe → (∃ vs, oe.data = .fields vs) → H a = none →
        wB (X.suite a ((a, oe) :: pn)) sts { nx := fun σ' H' => D.nx (σ'.set i none) H', rt := D.rt, bk := fun σ' H' => D.bk (σ'.set i none) H', ct := fun σ' H' => D.ct (σ'.set i none) H' } (σ.set i (some (.ref a))) H) ∧
      (b = false → wHd X Wout D r cls d σ H)
inductive HdsAs (X : Cx) : List ExceptHandler → List Cl → Prop
  | nil : HdsAs X [] []
  | cons {x n : Str} {c : Value} {i : Nat} {b₀ : Stmt} {suite : List Stmt} {np pos' : Pos} {hds : List ExceptHandler} {l : List Cl} (hc : Names X x c) (hi : X.N[i]? = some n) (hln : X.env.kindOf n = some .local) (r : HdsAs X hds l) :
      HdsAs X (.ExceptHandler (some (.Name x np)) (some n) (b₀ :: suite) pos' :: hds) ((c, i, b₀ :: suite) :: l)
section
variable {X : Cx} {k : Nat} {W : WX} {σ : L2.St} {H : Hp} {body : List Stmt} {h₀ : ExceptHandler} {hds : List ExceptHandler} {l : List Cl} {pos : Pos} {D : Ends}
theorem s_try (C : Cxt X k W) (hh : HdsAs X (h₀ :: hds) l) (h : ∀ pn xe, Cxt (X.tr pn xe) k (wHd X W D l) → wB (X.tr pn xe) body D σ H) (hs : X.stack = X.env :: X.outer := by rfl) (hf : X.env.frame = some X.env.locals := by rfl) : wS X (.Try body (h₀ :: hds) [] [] pos) D σ H := by
  refine ⟨fun pins s I => ?_⟩
  have ok := I.ok
  have hfr : X.A.frames = some (X.env :: X.outer) := by rw [ok.frames, hs]
  refine wpAny_Try_except ?_
  refine wpAny_mono ((h (X.pn ++ pins) (fun e s₁ => wpAny (model X.prog X.w) X.A (noteFrame e X.env) (fun _ s₂ => wpAny (model X.prog X.w) X.A (setFlight e none) (fun _ s₃ =>
    wpAny (model X.prog X.w) X.A (handleBy e X.env (h₀ :: hds)) (SP X pins D) X.xe s₃) X.xe s₂) X.xe s₁) ⟨C.room, C.gd, C.calm, C.nd, C.blt, PassesOwn.looking, fun u s' xx => ?_⟩).run [] s (I.toTry _)) (fun f s1 hsp => ?_) (fun e s1 he => he)
  · obtain ⟨a, B, sI, pins', σ', H', cls, d, rfl, J', nb, up, sky, na, os, ag, w⟩ := xx
    have J : Inv X pins σ' H' sI := J'.ofTry ok
    have sky' : Sky B (X.env :: X.outer) a (Zc cls d) X.env.locals s'.heap := by rw [← hs]; exact sky
    show wpAny (model X.prog X.w) X.A (noteFrame (.ref a) X.env) _ _ _
    refine Sky.land Zc.steady hfr hf sky' fun h3 fl3 up3 => ?_
    have J3 : Inv X pins σ' H' { s' with heap := h3 } := J.landed nb fl3.1 (up.trans up3) os ag
    obtain ⟨oe3, vs3, he3, hz3, hd3⟩ := fl3.there
    have notFr : ∀ {h : Heap} {o : Obj} {vs : Array Value}, h.FunFrames B (X.env :: X.outer) → h.get? a = some o → o.data = .fields vs → a ∉ frs (X.env :: X.outer) := fun {h o vs} ff e dd hm => by
      obtain ⟨_, o', e', hnf⟩ := ff.mem hm
      rw [e] at e'; cases e'
      exact hnf _ dd
    have nfr := notFr fl3.2.2.1 he3 hd3
    have nL : a ≠ X.env.locals := fun z => nfr (List.mem_filterMap.mpr ⟨X.env, List.mem_cons_self, by rw [hf, z]⟩)
    have nF : a ∉ X.fs := fun hm => by
      obtain ⟨e, he, q⟩ := List.mem_filterMap.mp hm
      exact nfr (List.mem_filterMap.mpr ⟨e, List.mem_cons_of_mem _ he, q⟩)
    have S3 := J3.suite he3 hd3 na nL nF
    have go : ∀ {hds' : List ExceptHandler} {l' : List Cl}, HdsAs X hds' l' → wHd X W D l' cls d σ' H' →
        wpAny (model X.prog X.w) X.A (handleBy (.ref a) X.env hds') (SP X pins D) X.xe { s' with heap := h3 } := by
      intro hds' l' hk
      induction hk with
      | nil =>
        intro w
        refine wpAny_handleBy_nil ?_
        obtain ⟨k1, k2, k3, oe, vs, T, oT, ts', he, hz, hd, h1, hr⟩ := id fl3
        unfold PySem.passOn
        refine wpAny_bind (wpAny_field he hd h1 ?_)
        rw [if_neg (show ¬ ((Value.ref T == Value.none) = true) from by simp)]
        have fin : wpAny (model X.prog X.w) X.A (setFlight (.ref a) X.env.frame) (fun _ s4 => wpAny (model X.prog X.w) X.A (throw (.ref a) : Sem Flow) (SP X pins D) X.xe s4) X.xe { s' with heap := h3 } := by
          rw [hf]
          refine HandSPX.setFlight_upZ fl3 fun h4 hh4 up4 => wpAny_throw (C.tk _ _ ?_)
          exact ⟨a, B, sI, pins, σ', H', cls, d, rfl, J, nb, (up.trans up3).trans up4, .inr (.inr (by rw [hs]; exact hh4)), na, os, ag, w⟩
        first
          | exact wpAny_bind (wpAny_pure (wpAny_bind fin))
          | exact wpAny_bind fin
      | @cons x n c i b₀ suite np pos' hds2 l2 hc hi hln r ih =>
        intro w
        obtain ⟨b, hb1, hyes, hno⟩ := w
        refine wpAny_handleBy_cons (codeAny_handlers_test ?_) (by intro q; cases q)
        have LT : PySem.W.Looks (model X.prog X.w) h3 (typeOf (.ref a)) cls := fun A Q E s k q => wpAny_typeOf_ref (k _ _ he3) (by rw [hz3.1]; exact q)
        have LM := PySem.W.exm_one (M := model X.prog X.w) (J3.kIn) LT hb1
        have test : ∀ {Q : Value → Shared → Prop} {E : Value → Shared → Prop}, Q c { s' with heap := h3 } → wpAny (model X.prog X.w) (X.A.mark (some (.ref a))) (eval (.Name x np) X.env) Q E { s' with heap := h3 } := fun {Q E} q => by
          obtain ⟨hg, hdbg, hm | ⟨hm, hv, hnn⟩⟩ := hc
          · exact ld_glob (X := X.suite a ((a, oe3) :: (X.pn ++ pins))) S3 hg hm q hdbg
          · exact ld_blt (X := X.suite a ((a, oe3) :: (X.pn ++ pins))) S3 hg hm hv q hnn hdbg
        refine test (LM.here ?_)
        cases b with
        | true =>
          refine codeAny_handlers_suite_as ?_
          refine HandSPX.lands_againZ fl3 fun h4 fl4 up4 => ?_
          have J4 : Inv X pins σ' H' { s' with heap := h4 } := J.landed nb fl4.1 ((up.trans up3).trans up4) os ag
          obtain ⟨oe4, vs4, he4, hz4, hd4⟩ := fl4.there
          have S4 := J4.suite he4 hd4 na nL nF
          have hloc : Loc X.env.scope n := .inl hln
          refine store_ok (X := X.suite a ((a, oe4) :: (X.pn ++ pins))) (v := .ref a) S4 C.nd hi hloc rfl (fun s5 S5 => ?_) (.inr hln)
          refine wpAny_mono ((hyes rfl a oe4 (X.pn ++ pins) hz4 ⟨_, hd4⟩ na).run [] s5 S5) (fun f s6 hsp => ?_) (fun _ _ z => False.elim z)
          have end_ : ∀ {σ6 : L2.St} {H6 : Hp} {Q : Shared → Prop}, Inv (X.suite a ((a, oe4) :: (X.pn ++ pins))) [] σ6 H6 s6 → (∀ s7, Inv X pins (σ6.set i none) H6 s7 → Q s7) →
              wpAny (model X.prog X.w) X.A (do bindName X.env n .none; unbindBehindTheSuite X.env n pos') (fun _ s7 => Q s7) X.xe s6 := fun {σ6 H6 Q} S6 hq => gone_ok (S6.unsuite ok) C.nd hi hln hq
          cases f with
          | next =>
            obtain ⟨σ6, H6, S6, q6⟩ := hsp
            exact end_ S6 fun s7 J7 => ⟨_, _, J7, q6⟩
          | brk =>
            obtain ⟨σ6, H6, S6, q6⟩ := hsp
            exact end_ S6 fun s7 J7 => ⟨_, _, J7, q6⟩
          | cont =>
            obtain ⟨σ6, H6, S6, q6⟩ := hsp
            exact end_ S6 fun s7 J7 => ⟨_, _, J7, q6⟩
          | ret u =>
            obtain ⟨v6, σ6, H6, S6, r6, q6⟩ := hsp
            exact end_ S6 fun s7 J7 => ⟨_, _, _, J7, r6, q6⟩
        | false =>
          show wpAny _ X.A (handleBy (.ref a) X.env hds2) _ _ _
          exact ih (hno rfl)
    exact go hh w
  · cases f with
    | next =>
      obtain ⟨σ', H', J', q⟩ := hsp
      exact wpAny_execs_nil ⟨σ', H', J'.ofTry ok, q⟩
    | brk =>
      obtain ⟨σ', H', J', q⟩ := hsp
      exact ⟨σ', H', J'.ofTry ok, q⟩
    | cont =>
      obtain ⟨σ', H', J', q⟩ := hsp
      exact ⟨σ', H', J'.ofTry ok, q⟩
    | ret u =>
      obtain ⟨v, σ', H', J', r, q⟩ := hsp
      exact ⟨v, σ', H', J'.ofTry ok, r, q⟩
end

/-! ### within a suite -/
section
variable {X : Cx} {σ : L2.St} {H : Hp} {a CE dd : Addr} {oe : Obj} {pn : List (Addr × Obj)} {e : Expr} {pos p : Pos} {f : Str} {Q : VK}
/-- e.f -/
theorem e_xf {v : V} (T : XfC X.K CE) (hno : PySem.W.findIn X.K (.ref CE) f = some none) (hz : Zc (.ref CE) (some dd) oe) (hf : ∃ vs, oe.data = .fields vs)
    (h : wE (X.suite a ((a, oe) :: pn)) e σ H fun x H1 => x = .ref a ∧ H1 dd = some (.xd [(f, v)]) ∧ Q v H1) (hb : attributeBase e f X.env (eval e X.env) = eval e X.env := by rfl) :
    wE (X.suite a ((a, oe) :: pn)) (.Attribute e f pos) σ H Q := by
  refine ⟨fun pins s I => ?_⟩
  refine attr_of hb (thn (h.run pins s I) fun u s1 hh => ?_)
  obtain ⟨x, H1, I1, rx, ex, ea, q⟩ := hh
  subst ex
  obtain rfl : u = Value.ref a := rx
  obtain ⟨ha, _⟩ := I1.pin (a, oe) (List.mem_append_left _ List.mem_cons_self)
  obtain ⟨vs, hd⟩ := hf
  obtain ⟨mA, hns, hr⟩ := (show ObjOk X.prog X.w H1 s1.heap dd (.xd [(f, v)]) from I1.hok dd _ ea)
  obtain ⟨od, ho, hl⟩ := lookIn_ns hns
  obtain ⟨u, hu, ru⟩ := RelO.some_of (v := v) (o := mA f) (by have := hr f; simpa using this)
  have J : PySem.W.InstAt s1.heap a oe CE (some od) := ⟨ha, hz.1, by unfold PySem.W.notCls; rw [hd] <;> rfl, by rw [hz.2]; exact ho⟩
  exact HandSPX.exc_get I1.kIn J T.ga T.gg T.exC (PySem.W.findObj_own T.hdC hno rfl (by rw [hl, hu])) (handed_of ru) ⟨v, H1, I1.tok _, ru, q⟩
/-- isinstance(e, c) of the caught error, whose fields are kept in dd -/
theorem c_isX {c : V} {cv : Value} {b : Bool} {fs : List (Str × V)} (T : ExcC X.K CE) (hz : Zc (.ref CE) (some dd) oe) (hf : ∃ vs, oe.data = .fields vs) (hcv : ∀ u, RelV c u → u = cv) (e1 : PySem.W.kitOne X.K (.ref CE) cv = some b) (hx : H dd = some (.xd fs)) (q : Q (.bl b) H) :
    cW (X.suite a ((a, oe) :: pn)) (.builtin "isinstance") [.ref a, c] H Q := by
  refine ⟨fun pins s σ us I r => ?_⟩
  cases r with
  | cons rx rr =>
    cases rr with
    | cons rt rr =>
      cases rr
      cases rx
      have ec := hcv _ rt
      subst ec
      obtain ⟨hget, _⟩ := I.pin (a, oe) (List.mem_append.mpr (.inl List.mem_cons_self))
      obtain ⟨vs, hv⟩ := hf
      obtain ⟨mA, hns, hr⟩ := (show ObjOk X.prog X.w H s.heap dd (.xd fs) from I.hok dd _ hx)
      obtain ⟨od, ho, hl⟩ := lookIn_ns hns
      have J : PySem.W.InstAt s.heap a oe CE (some od) := ⟨hget, hz.1, by unfold PySem.W.notCls; rw [hv] <;> rfl, by rw [hz.2]; exact ho⟩
      exact PySem.W.kia_one (PySem.W.kitx_exc (by obtain ⟨cd, hc, _⟩ := PySem.W.any_some T.hd; rw [hc]; rfl) T.hg T.hk T.hs T.ha T.hn T.ht T.hm) I.kIn J e1 (fun z => nomatch z) fun tk => ⟨.bl b, H, I.kept (t' := tk) fun _ _ z => z, rfl, q⟩
end
end Z

set_option Elab.async false
set_option linter.all false
set_option maxRecDepth 100000
set_option maxHeartbeats 4000000
/-! a lambda without parameters handed to a def that calls it -/
namespace Z
open PySem PySem.Spec PyProof.Rows L2 LamX
section
variable {X : Cx} {pins : List (Addr × Obj)} {σ : L2.St} {H : Hp} {s : Shared} {k : Nat} {W : WX}
theorem Cxt.lam {A : Around} {outer : List Env} {E : XK} {scope : Scope} {f c' : Addr} (C : Cxt X k W) {j : Nat} (hr : Room j (A.deeper (lamEnv X scope s.heap.objs.size f c'))) (hg : A.guards = some []) :
    Cxt (lamCx X A outer s H E scope f c') j (fun cls d _ H' => E cls d H') :=
  ⟨hr, hg, rfl, C.nd, C.blt, passes_of rfl, takes_of rfl rfl rfl rfl⟩
/-- the context of the def that got the lambda -/
abbrev hX (X : Cx) (N : List Str) (x : Str) (st : Stmt) (g : Addr) (cdg : Value) (s : Shared) (H : Hp) (E : XK) : Cx := bX X.prog X.w X.K X.mg X.base N x st g cdg X.A X.stack s H E
/-- the lambda is called -/
theorem e_act {Ng : List Str} {x a : Str} {st : Stmt} {g f c' : Addr} {cdg pm ctv : Value} {params : Arguments} {body : Expr} {scope : Scope} {pn : List (Addr × Obj)} {xe : Value → Shared → Prop} {W' : WX} {E0 E : XK} {p1 p2 : Pos} {σZ : L2.St} {HZ : Hp} {Q : VK}
    (C : Cxt X (k + 2) W) (I : Inv X pins σ H s) (L : LamS X.env.scope scope) (hf : s.heap.get? f = some (PySem.W.kla_obj "<lambda>" (X.env.qual ++ "<lambda>") params body scope (cloFrom X.env.cells scope.names []) pm c' ctv)) (hfn : H f = none) (hfr : f ∉ frs X.stack)
    (hbind : bindArgs (PySem.W.kla_fn "<lambda>" (X.env.qual ++ "<lambda>") params body scope (cloFrom X.env.cells scope.names []) pm (.ref c') ctv) ⟨[], []⟩ = pure [])
    (tk : Takes ((hX X Ng x st g cdg s H E0).tr pn xe) W') (hW : ∀ cls d H', E cls d H' → W' cls d σZ H')
    (hN : Ng[0]? = some a) (hv : Vis (defScope st) a) (hd : (a == ("__debug__" : Str)) = false) (hcd : (a == ("__classdict__" : Str)) = false)
    (hs : σZ[0]? = some (some (.ref f))) (hc : HZ c' = some (CodeO c' (X.env.qual ++ "<lambda>")))
    (h : ∀ (A : Around) (outer : List Env) (s' : Shared) (H' : Hp), Cxt (lamCx X A outer s' H' E scope f c') k (fun cls d _ H => E cls d H) → wE (lamCx X A outer s' H' E scope f c') body σ HZ Q) :
    wE ((hX X Ng x st g cdg s H E0).tr pn xe) (.Call (.Name a p1) [] [] p2) σZ HZ Q := by
  refine ⟨fun pinsZ sZ IZ => ?_⟩
  refine wpAny_Call_Name_kw (thn ((pe_var (pos := p1) (i := 0) hN hv hd hcd).run pinsZ sZ σZ HZ (fun v H1 => v = .ref f ∧ H1 = HZ) IZ ⟨.ref f, hs, rfl, rfl⟩) fun u s1 ⟨v, H1, I1, r1, q1⟩ => ?_)
  obtain ⟨ev, eH⟩ := q1
  subst ev
  rw [eH] at I1
  obtain rfl : u = Value.ref f := r1
  have of1 : s1.heap.get? f = some (PySem.W.kla_obj "<lambda>" (X.env.qual ++ "<lambda>") params body scope (cloFrom X.env.cells scope.names []) pm c' ctv) := I1.base.keep f _ hf hfn hfr (fun z => nomatch (show f ∈ ([] : List Addr) from z))
  refine PySem.W.callWith_F0 ⟨_, _, _, _, of1⟩ ?_
  have un : Un (frs X.stack) [] H HZ s.heap s1.heap := I1.base
  obtain ⟨⟨oc, vs, t, hoc, hdc, hvc⟩, _, _⟩ := I1.hok c' _ hc
  have hr : Room (k + 1) (X.A.deeper (envOfC x (defScope st) s.heap.objs.size g cdg)) := C.room.deeper _
  have rc : codeAny (model X.prog X.w) (X.A.deeper (envOfC x (defScope st) s.heap.objs.size g cdg)) (.call (.ref f) ⟨[], []⟩) (CR (L2.CX X.prog X.w) (envOfC x (defScope st) s.heap.objs.size g cdg :: X.stack) X.prog X.w HZ s1 Q E) s1 := by
    refine PySem.W.kla_callFunE hr.depth of1 rfl L.co L.gen rfl ⟨c', oc, vs, t, rfl, hoc, hdc, hvc⟩ ?_
    rw [hbind]
    refine wpAny_pure (wpAny_newFunctionEnv (fun y hy => (L.own y hy).2) (fun y hy => absurd hy (by simp)) (fun h₁ hns hsb => ⟨I1.nolimit.fresh _ hsb, ?_⟩) L.kind)
    show codeAny _ _ (.expr body (lamEnv X scope s1.heap.objs.size f c')) _ _
    have kp : ∀ b o, s1.heap.get? b = some o → h₁.get? b = some o := fun b o e => hsb.extBut b o (Nat.ne_of_lt (Heap.lt_size e)) (Heap.get?_push_of_some _ e)
    have J : Inv (lamCx X (X.A.deeper (envOfC x (defScope st) s.heap.objs.size g cdg)) (envOfC x (defScope st) s.heap.objs.size g cdg :: X.stack) s1 HZ E scope f c') [] σ HZ { s1 with heap := h₁, toks := s1.toks + ([] : List (Str × Value)).length } :=
      lam_start2 I L I1.env0 hr.hd un hns kp
    have CL : Cxt (lamCx X (X.A.deeper (envOfC x (defScope st) s.heap.objs.size g cdg)) (envOfC x (defScope st) s.heap.objs.size g cdg :: X.stack) s1 HZ E scope f c') k (fun cls d _ H' => E cls d H') := C.lam (hr.deeper _) C.gd
    refine PySem.W.kla_codeExpr (wpAny_mono ((h _ _ s1 HZ CL).run [] _ J) (fun v s' hq => ?_) fun e s' hq => hq)
    obtain ⟨w', H', J', rv, q⟩ := hq
    exact ⟨w', H', J'.os, J'.bare, J'.base, J'.hok, rv, q⟩
  refine wpAny_call (codeAny_mono rc fun r s' hq => ?_)
  cases r with
  | error e => exact tk e s' (XE.of_call I1 (fun cls d H' h => hW cls d H' h) hq)
  | ok fl =>
    cases fl with
    | ret u => exact I1.after hq
    | next => exact False.elim hq
    | brk => exact False.elim hq
    | cont => exact False.elim hq
/-- x(lambda: body) -/
theorem e_lam {T : List (Addr × Str)} {x a : Str} {st : Stmt} {c P : Addr} {Ng : List Str} {params : Arguments} {body : Expr} {scope : Scope} {p lpos pos : Pos} {Q : VK}
    (C : Cxt X (k + 2) W) (D : At X.K X.mg x st) (S : FnScope Ng [a] (defScope st)) (TB : TabB X.base X.mg c P) (hcode : X.env.code = .ref c) (hmT : (P, X.env.qual ++ "<lambda>") ∈ T) (hu : ∀ p ∈ T, p.1 = P → p.2 = X.env.qual ++ "<lambda>")
    (L : LamS X.env.scope scope) (hT : Tabs T H)
    (h : ∀ (g : Addr) (cdg : Value) (f c' : Addr) (s : Shared) (H1 : Hp), ExtN H H1 → Tabs T H1 → H1 c' = some (CodeO c' (X.env.qual ++ "<lambda>")) →
      Cxt (hX X Ng x st g cdg s H1 (fun cls d H' => W cls d σ H')) (k + 1) (fun cls d _ H' => W cls d σ H') →
      (∀ (W' : WX) (pn : List (Addr × Obj)) (xe : Value → Shared → Prop) (E : XK) (σZ : L2.St) (HZ : Hp) (Q' : VK) (p1 p2 : Pos), Takes ((hX X Ng x st g cdg s H1 (fun cls d H' => W cls d σ H')).tr pn xe) W' → (∀ cls d H', E cls d H' → W' cls d σZ H') →
        σZ[0]? = some (some (.ref f)) → HZ c' = some (CodeO c' (X.env.qual ++ "<lambda>")) →
        (∀ (A : Around) (outer : List Env) (s' : Shared) (H' : Hp), Cxt (lamCx X A outer s' H' E scope f c') k (fun cls d _ H => E cls d H) → wE (lamCx X A outer s' H' E scope f c') body σ HZ Q') →
        wE ((hX X Ng x st g cdg s H1 (fun cls d H' => W cls d σ H')).tr pn xe) (.Call (.Name a p1) [] [] p2) σZ HZ Q') →
      wB (hX X Ng x st g cdg s H1 (fun cls d H' => W cls d σ H')) (defBody st) { nx := fun _ H' => Q .non H', rt := Q } (start Ng [.ref f]) H1)
    (hN : Ng[0]? = some a := by rfl) (hv : Vis (defScope st) a := by first | exact Or.inl rfl | exact Or.inr (Or.inl rfl) | exact Or.inr (Or.inr rfl)) (hg : Gl X x := by rfl) (hdef : defaultsOf params X.env = ([], []) := by rfl)
    (hbl : ∀ (q : Str) (cl : List (Str × Addr)) (pm cv ctv : Value), bindArgs (PySem.W.kla_fn "<lambda>" q params body scope cl pm cv ctv) ⟨[], []⟩ = pure [] := by intros; rfl)
    (hbind : ∀ (kV doc pm : Value) (an : Option Addr) (cdv ct : Value) (us : List Value), us.length = ([a] : List Str).length → bindArgs (PySem.W.fnOf x x (defArgs st) (defBody st) (defScope st) .none kV doc pm an cdv ct) ⟨us, []⟩ = pure (([a] : List Str).zip us) := by exact fun _ _ _ _ _ _ us hl => match us, hl with | [_], _ => rfl)
    (hdb : (x == ("__debug__" : Str)) = false := by decide) (hd : (a == ("__debug__" : Str)) = false := by decide) (hcd : (a == ("__classdict__" : Str)) = false := by decide) :
    wE X (.Call (.Name x p) [.Lambda params body scope lpos] [] pos) σ H Q := by
  refine ⟨fun pins s I => ?_⟩
  obtain ⟨g, fd, hm, F⟩ := D.ex
  obtain ⟨oc, od, kV, doc, pm, an, cdg, ct, osl, rfl, lk, hcd2⟩ := F.ex
  refine wpAny_Call_Name_kw (ld_glob I hg hm ?_ hdb)
  refine PySem.W.callWith_K (h₀ := X.base) I.ok.mod.kin F.kp ?_ (by rfl) (by rfl)
  show wpAny _ _ (spliced ((false, eval (.Lambda params body scope lpos) X.env) :: backTo pos (starEach [] X.env))) _ _ s
  refine Calls.spliced_cons (lam_make2 I TB hcode hmT hu hT hdef (L.has I.ok) fun f c' pm' ctv H1 s' I1 eN T1 hf hfn hfr hco => ?_)
  refine Calls.spliced_nil ⟨I1.kIn, ?_⟩
  have rc : codeAny (model X.prog X.w) X.A (.call (.ref g) ⟨[.ref f], []⟩) (CR (L2.CX X.prog X.w) X.stack X.prog X.w H1 s' Q (fun cls d H' => W cls d σ H')) s' := by
    refine run_ofS (N := Ng) (ps := [a]) (us := [.ref f]) (vs := [.ref f]) lk hcd2 S (C.room.mono (show k + 1 + 1 ≤ k + 2 from Nat.le_refl _)) I1.env0 (.of_eq (hbind kV doc pm an cdg ct [.ref f] rfl)) (.cons rfl .nil) rfl fun hr' => ?_
    have CZ : Cxt (hX X Ng x st g cdg s' H1 (fun cls d H' => W cls d σ H')) (k + 1) (fun cls d _ H' => W cls d σ H') := ⟨hr', C.gd, rfl, S.nd, C.blt, passes_of rfl, takes_of rfl rfl rfl rfl⟩
    refine ⟨wB _ (defBody st), pB, h g cdg f c' s' H1 eN T1 hco CZ fun W' pn xe E σZ HZ Q' p1 p2 tk hW hs hc hh => ?_⟩
    exact e_act C I1 L hf hfn hfr (hbl _ _ _ _ _) tk hW hN hv hd hcd hs hc hh
  refine wpAny_call (codeAny_mono rc fun r s2 hq => ?_)
  cases r with
  | error e => exact C.tk e s2 (XE.of_call I1 (fun _ _ _ z => z) hq)
  | ok fl =>
    cases fl with
    | ret u => exact I1.after hq
    | next => exact False.elim hq
    | brk => exact False.elim hq
    | cont => exact False.elim hq
end
end Z

set_option Elab.async false
set_option linter.all false
set_option maxRecDepth 100000
set_option maxHeartbeats 4000000
/-! the law's own call, where the defs keep GFn; tables of code objects -/
namespace Z
open PySem PySem.Spec PyProof.Rows L2 LamX

/-- a def whose code object is known -/
structure AtC (K : PySem.W.Frag) (mg : Str → Option Value) (x : Str) (st : Stmt) (c : Addr) : Prop where
  ex : ∃ (f : Addr) (oc kV doc pm ct : Value) (od an : Option Addr) (osl : Array (Option Value)), mg x = some (.ref f) ∧ PySem.W.keepIn K (.ref f) = true ∧
    K.lookup f = some ⟨oc, od, .func (PySem.W.fnOf x x (defArgs st) (defBody st) (defScope st) .none kV doc pm an (.ref c) ct), osl⟩ ∧ PySem.W.codeIn K (.ref c) x = true
theorem def_ofC {P : Program} {w : World} {K : PySem.W.Frag} {mg : Str → Option Value} {base : Heap} {k : Nat} {x : Str} {st : Stmt} {c : Addr} {N ps : List Str} {sp : Sp} (D : AtC K mg x st c) (B : Blt mg base) (S : FnScope N ps (defScope st)) (len : ∀ vs H Q E, sp vs H Q E → vs.length = ps.length)
    (body : ∀ (f : Addr) (A : Around) (outer : List Env) (s : Shared) (H : Hp) (vs : List V) (Q : VK) (E : XK), mg x = some (.ref f) → Cxt (bX P w K mg base N x st f (.ref c) A outer s H E) k (fun cls d _ H => E cls d H) → sp vs H Q E →
      wB (bX P w K mg base N x st f (.ref c) A outer s H E) (defBody st) { nx := fun _ H' => Q .non H', rt := Q } (start N vs) H) : Def P w K mg base (k + 1) x st ps sp := by
  obtain ⟨f, oc, kV, doc, pm, ct, od, an, osl, hm, kp, lk, hcd⟩ := D.ex
  refine ⟨f, kV, doc, pm, an, .ref c, ct, hm, kp, len, fun A outer s H args us vs Q E hr hgd e0 hb r hsp => ?_⟩
  have hl := len _ _ _ _ hsp
  exact run_ofS lk hcd S hr e0 hb r hl fun hr' => ⟨wB _ (defBody st), pB, body f A outer s H vs Q E hm ⟨hr', hgd, rfl, S.nd, B, passes_of rfl, takes_of rfl rfl rfl rfl⟩ hsp⟩

/-- the data at sysModules is a dict -/
def SysAt (base : Heap) : Prop := ∃ o es ep, base.get? sysModules = some o ∧ o.data = .dict es ep
theorem law_callG {P : Program} {w : World} {K : PySem.W.Frag} {mg mb : Str → Option Value} {k : Nat} {fa a : Addr} {cs : List (Addr × Addr)} {x : Str} {sp : Sp} {s₁ : Shared} {vs : List Value} {ns : List Int}
    (KX : K.In s₁.heap) (hns : s₁.heap.Ns mainGlobals mg) (hb : s₁.heap.Ns builtinsNs mb) (hbb : ∀ x : Str, x ≠ "__name__" → mb x = bootBuiltins x) (hlim : s₁.heap.NoLimit) (hsy : ∃ mm, s₁.heap.Ns sysModules mm) (hg : s₁.gens = #[])
    (hT : ∀ p ∈ cs, s₁.heap.get? p.2 = some { cls := .none, data := .fields #[] }) (nT : ∀ p ∈ cs, K.lookup p.2 = none) (C : ∀ p ∈ cs, PySem.W.CodeHd s₁.heap p.1 p.2)
    (hbm : ∃ (bm : Addr) (ob : Obj), mg "__builtins__" = some (.ref bm) ∧ bm ≠ builtinsNs ∧ s₁.heap.get? bm = some ob ∧ ob.cls = .type "module" ∧ ob.dict = some builtinsNs ∧ ob.data = .plain)
    (ha : s₁.heap.get? a = some { cls := .type "list", data := .seq vs.toArray }) (hi : IntsAre vs ns) (hl : ns.length ≤ sizeLine) (hr : Room k callerA)
    (F : ∀ base : Heap, K.In base → base.Ns mainGlobals mg → SysAt base → (∀ p ∈ cs, TabB base mg p.1 p.2) → ∃ fd, (∀ (s : Shared) (u : Value), BindsTo s fd ⟨[u], []⟩ [(x, u)]) ∧ GFn P w K mg base k fa fd [x] sp)
    (hsp : ∀ H : Hp, (∀ p ∈ cs, H p.2 = some (.tbl #[])) → SqL K H a (ns.map V.int) → sp [.ref a] H (fun v _ => v = .bl true) fun _ _ _ => False) :
    codeAny (model P w) callerA (.call (.ref fa) ⟨[.ref a], []⟩) (fun r s' => r = .ok (.ret (.bool true)) ∧ OldK s₁.heap s'.heap ∧ s'.os = s₁.os ∧ AllBare s'.gens) s₁ := by
  have rv := vals_ints hi
  have lenV := hi.length
  have isT : ∀ b : Addr, b ∈ cs.map (·.2) → s₁.heap.get? b = some { cls := .none, data := .fields #[] } := fun b hb => by
    obtain ⟨p, hp, e⟩ := List.mem_map.mp hb
    rw [← e]
    exact hT p hp
  have aT : a ∉ cs.map (·.2) := fun z => by
    have q := isT a z
    rw [ha] at q
    have z' : Data.seq vs.toArray _ = Data.fields #[] := congrArg Obj.data (Option.some.inj q)
    cases z'
  have memT : ∀ p ∈ cs, p.2 ∈ cs.map (·.2) := fun p hp => List.mem_map.mpr ⟨p, hp, rfl⟩
  -- what is tracked at the start: the tables, and the script where the text does not hold it
  let H : Hp := fun b => if b ∈ cs.map (·.2) then some (.tbl #[]) else if b = a ∧ K.lookup a = none then some (.frz { cls := .type "list", data := .seq vs.toArray } (.lst (ns.map V.int))) else none
  have HT : ∀ b, b ∈ cs.map (·.2) → H b = some (.tbl #[]) := fun b hb => if_pos hb
  have HA : K.lookup a = none → H a = some (.frz { cls := .type "list", data := .seq vs.toArray } (.lst (ns.map V.int))) := fun e => (if_neg aT).trans (if_pos ⟨rfl, e⟩)
  have Hcase : ∀ b u, H b = some u → (b ∈ cs.map (·.2) ∧ u = .tbl #[]) ∨ (b = a ∧ K.lookup a = none ∧ u = .frz { cls := .type "list", data := .seq vs.toArray } (.lst (ns.map V.int))) := fun b u e => by
    by_cases h1 : b ∈ cs.map (·.2)
    · rw [HT b h1] at e
      cases e
      exact .inl ⟨h1, rfl⟩
    · have e1 : H b = _ := if_neg h1
      rw [e1] at e
      by_cases h2 : b = a ∧ K.lookup a = none
      · rw [if_pos h2] at e
        cases e
        exact .inr ⟨h2.1, h2.2, rfl⟩
      · rw [if_neg h2] at e
        cases e
  have hok : HOk P w H s₁.heap := fun b u e => by
    rcases Hcase b u e with ⟨h1, rfl⟩ | ⟨rfl, h2, rfl⟩
    · exact isT b h1
    · exact ⟨ha, by rw [List.length_map]; exact hl, vs, _, rv, ha⟩
  have hS : SqL K H a (ns.map V.int) := by
    cases hk : K.lookup a with
    | none => exact .inl (.inr ⟨_, HA hk⟩)
    | some o =>
      have e := KX a o hk
      rw [ha] at e
      cases e
      exact .inr ⟨_, vs.toArray, _, hk, rfl, rfl, rfl, by rw [List.size_toArray, lenV]; exact hl, by simpa using rv⟩
  have base_of : ∀ {b : Addr} {o : Obj}, s₁.heap.get? b = some o → H b = none → (hidT s₁.heap H).get? b = some o := fun e n => hidT_get e n
  have noD : ∀ {b : Addr} {o : Obj}, s₁.heap.get? b = some o → (∀ vs n, o.data ≠ .seq vs n) → o.data ≠ .fields #[] → H b = none := fun {b o} e h1 h2 => by
    cases q : H b with
    | none => rfl
    | some u =>
      rcases Hcase b u q with ⟨e', _⟩ | ⟨e', _⟩
      · rw [isT b e'] at e
        cases e
        exact (h2 rfl).elim
      · rw [e', ha] at e
        cases e
        exact (h1 _ _ rfl).elim
  have noA : ∀ {b : Addr} {o : Obj} {es : Array DictEntry} {ep : Nat}, s₁.heap.get? b = some o → o.data = .dict es ep → H b = none := fun {b o es ep} e d => by
    refine noD e (fun vs n z => ?_) fun z => ?_
    · rw [d] at z
      cases z
    · rw [d] at z
      cases z
  have nsK : ∀ {b : Addr} {m : Str → Option Value}, s₁.heap.Ns b m → (hidT s₁.heap H).Ns b m := fun {b m} ⟨o, es, ep, e, d, r⟩ => ⟨o, es, ep, base_of e (noA e d), d, r⟩
  have hKb : K.In (hidT s₁.heap H) := fun b o e => base_of (KX b o e) (by
    cases q : H b with
    | none => rfl
    | some u =>
      rcases Hcase b u q with ⟨e', _⟩ | ⟨e', hk, _⟩
      · obtain ⟨p, hp, ep⟩ := List.mem_map.mp e'
        rw [← ep, nT p hp] at e
        cases e
      · rw [e', hk] at e
        cases e)
  have hM : L2.Mod K mg (hidT s₁.heap H) := ⟨hKb, nsK hns, ⟨mb, nsK hb, hbb⟩, let ⟨mc, h1, h2⟩ := hlim; ⟨mc, nsK h1, h2⟩⟩
  have hSys : SysAt (hidT s₁.heap H) := by
    obtain ⟨mm, hm⟩ := hsy
    obtain ⟨o, es, ep, e, d, _⟩ := nsK hm
    exact ⟨o, es, ep, e, d⟩
  have TB : ∀ p ∈ cs, TabB (hidT s₁.heap H) mg p.1 p.2 := fun p hp => by
    have hTp := hT p hp
    refine ⟨?_, ?_, fun z => ?_⟩
    · obtain ⟨o, us, file, tf, flags, tg, inF, text, tt, e1, r1, r2, r3, r4, r5, r6, r7, r8, hne⟩ := C p hp
      refine ⟨o, us, file, tf, flags, tg, inF, text, tt, base_of e1 (noD e1 (fun vs n z => ?_) fun z => ?_), r1, r2, r3, r4, r5, r6, r7, r8, hne⟩
      · rw [r2] at z
        cases z
      · rw [r2] at z
        cases z
        simp at r3
    · obtain ⟨bm, ob, b1, b2, b3, b4, b5, b6⟩ := hbm
      have nG : bm ≠ mainGlobals := fun q => by
        obtain ⟨o, es, ep, e, hd, _⟩ := hns
        rw [q, e] at b3
        cases b3
        rw [hd] at b6
        cases b6
      have nP : bm ≠ p.2 := fun q => by
        rw [q, hTp] at b3
        cases b3
        cases b6
      refine ⟨bm, ob, b1, b2, nG, nP, base_of b3 (noD b3 (fun vs n z => ?_) fun z => ?_), b4, b5, b6⟩
      · rw [b6] at z
        cases z
      · rw [b6] at z
        cases z
    · obtain ⟨o, es, ep, e, hd, _⟩ := hns
      rw [z, hTp] at e
      cases e
      cases hd
  have e0 : Env0 P w K mg (hidT s₁.heap H) callerA [] s₁ H := ⟨rfl, hM, fun b o e => of_hidT e, Nat.le_of_eq (hidT_size _ _), trivial, fun b hb => absurd (show b ∈ ([] : List Addr) from hb) (by simp), hok, .of_eq hg⟩
  obtain ⟨fd, hbind, hF⟩ := F _ hKb (nsK hns) hSys TB
  refine codeAny_mono (hF.run callerA [] s₁ H ⟨[.ref a], []⟩ [.ref a] [.ref a] _ _ hr rfl e0 (hbind s₁ (.ref a)) (.cons rfl .nil) (hsp H (fun p hp => HT _ (memT p hp)) hS)) fun r s' h => ?_
  cases r with
  | error e =>
    obtain ⟨_, _, _, _, _, _, _, _, _, _, _, _, z⟩ := h
    exact z.elim
  | ok fl =>
    cases fl with
    | next => exact False.elim h
    | brk => exact False.elim h
    | cont => exact False.elim h
    | ret u =>
      obtain ⟨v, H', os, bare, un, hok', r', q⟩ := h
      have q' : v = .bl true := q
      subst q'
      obtain rfl : u = Value.bool true := r'
      have key : ∀ b o, b ∉ cs.map (·.2) → s₁.heap.get? b = some o → s'.heap.get? b = some o := fun b o nb e => by
        cases q : H b with
        | none => exact un.keep b o e q (by intro z; exact absurd (show b ∈ ([] : List Addr) from z) (by simp)) (by simp)
        | some u =>
          rcases Hcase b u q with ⟨z, _⟩ | ⟨_, _, z⟩
          · exact absurd z nb
          · rw [z] at q
            have z2 := un.frzs b _ _ q
            obtain ⟨e1, _⟩ := hok b _ q
            obtain ⟨e2, _⟩ := hok' b _ z2
            rw [e] at e1; cases e1
            exact e2
      have grown : ∀ p ∈ cs, ∃ more : Array Value, s'.heap.get? p.2 = some { cls := .none, data := .fields more } := fun p hp => by
        obtain ⟨more, z⟩ := un.tbls p.2 #[] (HT _ (memT p hp))
        exact ⟨_, hok' p.2 _ z⟩
      refine ⟨rfl, ⟨fun b o e => ?_, fun b o e => ?_⟩, os, bare⟩
      · by_cases hb : b ∈ cs.map (·.2)
        · obtain ⟨p, hp, ep⟩ := List.mem_map.mp hb
          obtain ⟨more, hm⟩ := grown p hp
          rw [← ep] at e ⊢
          rw [hT p hp] at e
          cases e
          exact .inr (.inl ⟨((C p hp).tab (hT p hp)).isCodeTable, rfl, #[], more, rfl, by rw [Array.empty_append]; exact hm⟩)
        · exact .inl (key b o hb e)
      · by_cases hb : b ∈ cs.map (·.2)
        · obtain ⟨p, hp, ep⟩ := List.mem_map.mp hb
          obtain ⟨more, hm⟩ := grown p hp
          rw [← ep]
          exact ⟨_, hm⟩
        · exact ⟨o, key b o hb e⟩
/-- what is known of the law's promise at the head's heap h -/
def LawG (l : PySem.W.OpenLaw) (w : World) (K : PySem.W.Frag) (k n : Nat) (x : Str) (mg : Str → Option Value) (fa : Addr) (h : Heap) : Prop :=
  ∃ (cs : List (Addr × Addr)) (sp : Sp), (∀ p ∈ cs, h.get? p.2 = some { cls := .none, data := .fields #[] }) ∧ (∀ p ∈ cs, K.lookup p.2 = none) ∧ (∀ p ∈ cs, PySem.W.CodeHd h p.1 p.2) ∧
    (∀ (H : Hp) (a : Addr) (ns : List Int), ns.length ≤ n → (∀ z ∈ ns, Builtin.Int.intBits z ≤ 1048576) → (∀ p ∈ cs, H p.2 = some (.tbl #[])) → SqL K H a (ns.map V.int) → sp [.ref a] H (fun v _ => v = .bl true) fun _ _ _ => False) ∧
    ∀ base : Heap, K.In base → base.Ns mainGlobals mg → SysAt base → (∀ p ∈ cs, TabB base mg p.1 p.2) → ∃ fd, (∀ (s : Shared) (u : Value), BindsTo s fd ⟨[u], []⟩ [(x, u)]) ∧ GFn l.prog w K mg base k fa fd [x] sp
theorem walk_G {l : PySem.W.OpenLaw} {n k : Nat} {q : Program} {loose : List Str} {XP : (Str → Option Value) → Heap → Prop} {YP : World → Heap → Prop} {d : DefRec} {K : Params → PySem.W.Frag} {x : Str}
    (hn : l.most = some n) (hn2 : n ≤ sizeLine) (hdf : d.params.defaults = []) (hr : Room k callerA) (hY : ∀ (w : World) (h : Heap), YP w h → (K w.params).In h) (hq : importsNone q = true)
    (F : ∀ (w : World) (mg : Str → Option Value) (fa : Addr) (h : Heap), YP w h → (K w.params).In h → h.Ns mainGlobals mg → mg d.name = some (.ref fa) → LawG l w (K w.params) k n x mg fa h) :
    PySem.W.WalkO q loose XP YP l.row.toRowW d [] (fun f vs => PySem.call f vs) := by
  refine Att.attach_callB hn hdf fun w s₀ s₁ mg mb fa o pm cd doc a vs ns G Y ho hd hcd hmg hobj hints hlen hbits hg => ?_
  have KX := hY w _ Y
  obtain ⟨cs, sp, hT, nT, C, hsp, hF⟩ := F w mg fa _ Y KX G.T.g hmg
  obtain ⟨mm, hmm, _⟩ := (G.T.seer hq).mods
  exact law_callG KX G.T.g G.T.b G.T.builtins G.T.nolimit ⟨mm, hmm⟩ hg hT nT C G.T.bmain hobj hints (Nat.le_trans hlen hn2) hr hF fun H hH hS => hsp H a ns hlen hbits hH hS
end Z

set_option Elab.async false
set_option linter.all false
set_option maxRecDepth 100000
set_option maxHeartbeats 4000000
/-! zip of two texts of ASCII signs -/
namespace Z
open PySem PySem.Spec PyProof.Rows L2
section
variable {prog : Program} {w : World} {A : Around} {E : Value → Shared → Prop} {s : Shared}
abbrev At8 (h : Heap) (a : Addr) (x : Str) (t : Tok) (i : Nat) : Prop := h.IsStrIter a "str_ascii_iterator" x t i
theorem at8_at {h h' : Heap} {a : Addr} {x : Str} {t : Tok} {i : Nat} (y : At8 h a x t i) (k : ∀ o, h.get? a = some o → h'.get? a = some o) : At8 h' a x t i := let ⟨o, e, r⟩ := y; ⟨o, k o e, r⟩
theorem zipS_next_item {z TI TO i1 i2 l1 l2 : Addr} {k1 k2 c d : Nat} {xs ys : Str} {t1 t2 : Tok} {a b : Value} {Q : Value → Shared → Prop} (D : ZipApart z TI TO i1 i2 l1 l2)
    (hz : IsZip s.heap z TI TO .none) (hTI : IsPair s.heap TI (.ref i1) (.ref i2)) (hTO : IsPair s.heap TO a b)
    (h1 : At8 s.heap i1 xs t1 k1) (h2 : At8 s.heap i2 ys t2 k2) (hx : xs.cps[k1]? = some c) (hy : ys.cps[k2]? = some d)
    (hQ : ∀ h' u v, IsZip h' z TI TO (rawInt s.heap.objs.size) → IsPair h' TO (.str ⟨#[c]⟩ u) (.str ⟨#[d]⟩ v) → At8 h' i1 xs t1 (k1 + 1) → At8 h' i2 ys t2 (k2 + 1) → IsPair h' s.heap.objs.size (.str ⟨#[c]⟩ u) (.str ⟨#[d]⟩ v) → h'.objs.size = s.heap.objs.size + 1 →
      (∀ c o, c ≠ z → c ≠ TO → c ≠ i1 → c ≠ i2 → s.heap.get? c = some o → h'.get? c = some o) → Q (.ref s.heap.objs.size) { s with heap := h', toks := s.toks + 2 }) :
    wpAny (model prog w) A (Builtin.«zip.__next__» ⟨[.ref z], []⟩) (fun fin s' => ∃ v, fin = .done (.ret v) ∧ Q v s') E s := by
  obtain ⟨hp, g, dr, tk, os⟩ := s
  show wpAny _ _ (field (.ref z) 2 >>= _) _ _ _
  refine wpAny_bind (wpAny_field hz rfl (x := .bool false) rfl ?_)
  show wpAny _ _ (field (.ref z) 3 >>= _) _ _ _
  refine wpAny_bind (wpAny_field hz rfl (x := .ref TI) rfl ?_)
  refine wpAny_bind (wpAny_seqItems hTI rfl ?_)
  show wpAny _ _ (Builtin.SmallTypes.ownedTupleIsFree (.ref z) >>= _) _ _ _
  refine wpAny_bind ?_
  unfold Builtin.SmallTypes.ownedTupleIsFree
  refine wpAny_bind (wpAny_field hz rfl (x := .none) rfl (wpAny_pure ?_))
  simp only [if_true]
  refine wpAny_bind (wpAny_rule ?_)
  refine wpAny_bind (wpAny_field hz rfl (x := .ref TO) rfl ?_)
  refine wpAny_bind (wpAny_setField_rec hz (by simp) fun h₁ hz₁ hs₁ => ?_)
  replace hz₁ : IsZip h₁ z TI TO .ellipsis := hz₁
  refine wpAny_bind ?_
  simp only [List.zipIdx_cons, List.zipIdx_nil, List.forIn_cons, List.forIn_nil]
  refine wpAny_bind (wpAny_bind (wpAny_onRaise ?_))
  show wpAny _ _ (Builtin.SmallTypes.nextOf (.ref i1) >>= _) _ _ _
  refine wpAny_bind (wpAny_nextOf_ascii_item (Heap.IsStrIter.extBut h1 hs₁.extBut D.i1z) hx fun h₂ h1₂ hs₂ => wpAny_pure ?_)
  have hTO₂ : IsPair h₂ TO a b := hs₂.extBut _ _ D.TOi1 (hs₁.extBut _ _ D.TOz hTO)
  refine wpAny_bind (wpAny_seqItems hTO₂ rfl ?_)
  refine wpAny_bind (wpAny_updateSeq_pair hTO₂ fun h₃ hTO₃ hs₃ => ?_)
  replace hTO₃ : IsPair h₃ TO (.str ⟨#[c]⟩ tk) b := hTO₃
  refine wpAny_bind (wpAny_letGo (wpAny_pure ?_))
  refine wpAny_bind (wpAny_bind (wpAny_onRaise ?_))
  show wpAny _ _ (Builtin.SmallTypes.nextOf (.ref i2) >>= _) _ _ _
  refine wpAny_bind (wpAny_nextOf_ascii_item (((Heap.IsStrIter.extBut h2 hs₁.extBut D.i2z).extBut hs₂.extBut D.i12.symm).extBut hs₃.extBut D.TOi2.symm) hy fun h₄ h2₄ hs₄ => wpAny_pure ?_)
  have hTO₄ : IsPair h₄ TO (.str ⟨#[c]⟩ tk) b := hs₄.extBut _ _ D.TOi2 hTO₃
  refine wpAny_bind (wpAny_seqItems hTO₄ rfl ?_)
  refine wpAny_bind (wpAny_updateSeq_pair hTO₄ fun h₅ hTO₅ hs₅ => ?_)
  replace hTO₅ : IsPair h₅ TO (.str ⟨#[c]⟩ tk) (.str ⟨#[d]⟩ (tk + 1)) := hTO₅
  refine wpAny_bind (wpAny_letGo (wpAny_pure (wpAny_pure ?_)))
  refine wpAny_bind (wpAny_seqItems hTO₅ rfl ?_)
  refine wpAny_bind (wpAny_newTuple ?_)
  have hsz : h₅.objs.size = hp.objs.size := by rw [hs₅.1, hs₄.1, hs₃.1, hs₂.1, hs₁.1]
  have hz₅ : IsZip h₅ z TI TO .ellipsis := hs₅.extBut _ _ D.TOz.symm (hs₄.extBut _ _ D.i2z.symm (hs₃.extBut _ _ D.TOz.symm (hs₂.extBut _ _ D.i1z.symm hz₁)))
  have hk₅ : ∀ c o, c ≠ z → c ≠ TO → c ≠ i1 → c ≠ i2 → hp.get? c = some o → h₅.get? c = some o := fun c o c1 c2 c3 c4 e =>
    hs₅.extBut _ _ c2 (hs₄.extBut _ _ c4 (hs₃.extBut _ _ c2 (hs₂.extBut _ _ c3 (hs₁.extBut _ _ c1 e))))
  have h1₅ : At8 h₅ i1 xs t1 (k1 + 1) := ((Heap.IsStrIter.extBut h1₂ hs₃.extBut D.TOi1.symm).extBut hs₄.extBut D.i12).extBut hs₅.extBut D.TOi1.symm
  have h2₅ : At8 h₅ i2 ys t2 (k2 + 1) := Heap.IsStrIter.extBut h2₄ hs₅.extBut D.TOi2.symm
  have hzlt : z < h₅.objs.size := Heap.lt_size hz₅
  have hTOlt : TO < h₅.objs.size := Heap.lt_size hTO₅
  show wpAny _ _ (Builtin.SmallTypes.ownedTupleHandOut (.ref z) (.ref h₅.objs.size) >>= _) _ _ _
  refine wpAny_bind ?_
  unfold Builtin.SmallTypes.ownedTupleHandOut
  have hz₆ : IsZip (h₅.push { cls := .type "tuple", data := .seq #[.str ⟨#[c]⟩ tk, .str ⟨#[d]⟩ (tk + 1)] }) z TI TO .ellipsis := Heap.get?_push_of_some _ hz₅
  refine wpAny_bind (wpAny_setField_rec hz₆ (by simp) fun h₇ hz₇ hs₇ => ?_)
  replace hz₇ : IsZip h₇ z TI TO (rawInt h₅.objs.size) := hz₇
  refine wpAny_setField_rec hz₇ (by simp) fun h₈ hz₈ hs₈ => ?_
  replace hz₈ : IsZip h₈ z TI TO (rawInt h₅.objs.size) := hz₈
  have up : ∀ c o, c ≠ z → h₅.get? c = some o → h₈.get? c = some o := fun c o c1 e => hs₈.extBut _ _ c1 (hs₇.extBut _ _ c1 (Heap.get?_push_of_some _ e))
  have hT₈ : IsPair h₈ h₅.objs.size (.str ⟨#[c]⟩ tk) (.str ⟨#[d]⟩ (tk + 1)) := hs₈.extBut _ _ (Nat.ne_of_gt hzlt) (hs₇.extBut _ _ (Nat.ne_of_gt hzlt) (Heap.get?_push_size _ rfl))
  have hz8 : h₈.objs.size = h₅.objs.size + 1 := by rw [hs₈.1, hs₇.1, Heap.size_push]
  rw [hsz] at hz₈ hT₈ hz8
  refine wpAny_pure ⟨_, rfl, ?_⟩
  show Q (.ref h₅.objs.size) _
  rw [hsz]
  exact hQ h₈ _ _ hz₈ (up _ _ D.TOz hTO₅) (at8_at h1₅ fun o e => up _ o D.i1z e) (at8_at h2₅ fun o e => up _ o D.i2z e) hT₈ hz8 fun c o c1 c2 c3 c4 e => up c o c1 (hk₅ c o c1 c2 c3 c4 e)
theorem zipS_next_end {z TI TO i1 i2 l1 l2 : Addr} {k1 k2 : Nat} {xs ys : Str} {t1 t2 : Tok} {a b : Value} {Q : Fin → Shared → Prop} (hh : A.handled = none) (D : ZipApart z TI TO i1 i2 l1 l2)
    (hz : IsZip s.heap z TI TO .none) (hTI : IsPair s.heap TI (.ref i1) (.ref i2)) (hTO : IsPair s.heap TO a b)
    (h1 : At8 s.heap i1 xs t1 k1) (h2 : At8 s.heap i2 ys t2 k2) (hend : xs.cps[k1]? = none ∨ ys.cps[k2]? = none)
    (hE : ∀ h' tk' e, (∀ c o, c ≠ z → c ≠ TO → c ≠ i1 → c ≠ i2 → s.heap.get? c = some o → h'.get? c = some o) → (∃ o, h'.get? e = some o ∧ o.cls = .type "StopIteration") → E (.ref e) { s with heap := h', toks := tk' }) :
    wpAny (model prog w) A (Builtin.«zip.__next__» ⟨[.ref z], []⟩) Q E s := by
  obtain ⟨hp, g, dr, tk, os⟩ := s
  show wpAny _ _ (field (.ref z) 2 >>= _) _ _ _
  refine wpAny_bind (wpAny_field hz rfl (x := .bool false) rfl ?_)
  show wpAny _ _ (field (.ref z) 3 >>= _) _ _ _
  refine wpAny_bind (wpAny_field hz rfl (x := .ref TI) rfl ?_)
  refine wpAny_bind (wpAny_seqItems hTI rfl ?_)
  show wpAny _ _ (Builtin.SmallTypes.ownedTupleIsFree (.ref z) >>= _) _ _ _
  refine wpAny_bind ?_
  unfold Builtin.SmallTypes.ownedTupleIsFree
  refine wpAny_bind (wpAny_field hz rfl (x := .none) rfl (wpAny_pure ?_))
  simp only [if_true]
  refine wpAny_bind (wpAny_rule ?_)
  refine wpAny_bind (wpAny_field hz rfl (x := .ref TO) rfl ?_)
  refine wpAny_bind (wpAny_setField_rec hz (by simp) fun h₁ hz₁ hs₁ => ?_)
  replace hz₁ : IsZip h₁ z TI TO .ellipsis := hz₁
  refine wpAny_bind ?_
  simp only [List.zipIdx_cons, List.zipIdx_nil, List.forIn_cons, List.forIn_nil]
  refine wpAny_bind (wpAny_bind (wpAny_onRaise ?_))
  show wpAny _ _ (Builtin.SmallTypes.nextOf (.ref i1) >>= _) _ _ _
  cases hx : xs.cps[k1]? with
  | none =>
    refine wpAny_bind (wpAny_nextOf_ascii_end hh (Heap.IsStrIter.extBut h1 hs₁.extBut D.i1z) hx fun h₂ e hs₂ he => ?_)
    obtain ⟨oe, hoe, hce⟩ := he
    have hz₂ : IsZip h₂ z TI TO .ellipsis := hs₂ _ _ D.i1z.symm hz₁
    have hez : e ≠ z := fun x => by subst x; rw [hz₂] at hoe; cases hoe; simp at hce
    refine wpAny_setField_rec hz₂ (by simp) fun h₃ _ hs₃ => hE h₃ _ e (fun c o c1 _ c3 _ x => hs₃.extBut _ _ c1 (hs₂ _ _ c3 (hs₁.extBut _ _ c1 x))) ⟨oe, hs₃.extBut _ _ hez hoe, hce⟩
  | some x =>
    have hy : ys.cps[k2]? = none := by rcases hend with h | h; rw [hx] at h; cases h; exact h
    refine wpAny_bind (wpAny_nextOf_ascii_item (Heap.IsStrIter.extBut h1 hs₁.extBut D.i1z) hx fun h₂ h1₂ hs₂ => wpAny_pure ?_)
    have hTO₂ : IsPair h₂ TO a b := hs₂.extBut _ _ D.TOi1 (hs₁.extBut _ _ D.TOz hTO)
    refine wpAny_bind (wpAny_seqItems hTO₂ rfl ?_)
    refine wpAny_bind (wpAny_updateSeq_pair hTO₂ fun h₃ hTO₃ hs₃ => ?_)
    refine wpAny_bind (wpAny_letGo (wpAny_pure ?_))
    refine wpAny_bind (wpAny_bind (wpAny_onRaise ?_))
    show wpAny _ _ (Builtin.SmallTypes.nextOf (.ref i2) >>= _) _ _ _
    refine wpAny_bind (wpAny_nextOf_ascii_end hh (((Heap.IsStrIter.extBut h2 hs₁.extBut D.i2z).extBut hs₂.extBut D.i12.symm).extBut hs₃.extBut D.TOi2.symm) hy fun h₄ e hs₄ he => ?_)
    obtain ⟨oe, hoe, hce⟩ := he
    have hz₄ : IsZip h₄ z TI TO .ellipsis := hs₄ _ _ D.i2z.symm (hs₃.extBut _ _ D.TOz.symm (hs₂.extBut _ _ D.i1z.symm hz₁))
    have hez : e ≠ z := fun x => by subst x; rw [hz₄] at hoe; cases hoe; simp at hce
    refine wpAny_setField_rec hz₄ (by simp) fun h₅ _ hs₅ => hE h₅ _ e (fun c o c1 c2 c3 c4 x => hs₅.extBut _ _ c1 (hs₄ _ _ c4 (hs₃.extBut _ _ c2 (hs₂.extBut _ _ c3 (hs₁.extBut _ _ c1 x))))) ⟨oe, hs₅.extBut _ _ hez hoe, hce⟩
theorem pyNext_zipS_item {z TI TO i1 i2 l1 l2 : Addr} {k1 k2 c d : Nat} {xs ys : Str} {t1 t2 : Tok} {a b : Value} {Q : Option Value → Shared → Prop} (D : ZipApart z TI TO i1 i2 l1 l2)
    (hz : IsZip s.heap z TI TO .none) (hTI : IsPair s.heap TI (.ref i1) (.ref i2)) (hTO : IsPair s.heap TO a b)
    (h1 : At8 s.heap i1 xs t1 k1) (h2 : At8 s.heap i2 ys t2 k2) (hx : xs.cps[k1]? = some c) (hy : ys.cps[k2]? = some d)
    (hQ : ∀ h' u v, IsZip h' z TI TO (rawInt s.heap.objs.size) → IsPair h' TO (.str ⟨#[c]⟩ u) (.str ⟨#[d]⟩ v) → At8 h' i1 xs t1 (k1 + 1) → At8 h' i2 ys t2 (k2 + 1) → IsPair h' s.heap.objs.size (.str ⟨#[c]⟩ u) (.str ⟨#[d]⟩ v) → h'.objs.size = s.heap.objs.size + 1 →
      (∀ c o, c ≠ z → c ≠ TO → c ≠ i1 → c ≠ i2 → s.heap.get? c = some o → h'.get? c = some o) → Q (some (.ref s.heap.objs.size)) { s with heap := h', toks := s.toks + 2 }) :
    wpAny (model prog w) A (pyNext (.ref z)) Q E s := by
  have hT : s.TypeIs (.ref z) "zip" := ⟨_, hz, rfl⟩
  unfold pyNext
  exact wpAny_bind (wpAny_attempt (wpAny_callSpecial?_slot (name := Str.ofString "__next__") hT F.slot_zip_next
    (wpAny_call_entry F.slot_zip_next hT F.entry_zip_next
      (zipS_next_item D hz hTI hTO h1 h2 hx hy fun h' u v a1 a2 a3 a4 a5 a6 a7 => wpAny_pure (hQ h' u v a1 a2 a3 a4 a5 a6 a7)) (F.args_zip_next_1 _))))
theorem pyNext_zipS_end {z TI TO i1 i2 l1 l2 : Addr} {k1 k2 : Nat} {xs ys : Str} {t1 t2 : Tok} {a b : Value} {Q : Option Value → Shared → Prop} (hh : A.handled = none) (D : ZipApart z TI TO i1 i2 l1 l2)
    (hz : IsZip s.heap z TI TO .none) (hTI : IsPair s.heap TI (.ref i1) (.ref i2)) (hTO : IsPair s.heap TO a b)
    (h1 : At8 s.heap i1 xs t1 k1) (h2 : At8 s.heap i2 ys t2 k2) (hend : xs.cps[k1]? = none ∨ ys.cps[k2]? = none)
    (hQ : ∀ h' tk', (∀ c o, c ≠ z → c ≠ TO → c ≠ i1 → c ≠ i2 → s.heap.get? c = some o → h'.get? c = some o) → Q none { s with heap := h', toks := tk' }) : wpAny (model prog w) A (pyNext (.ref z)) Q E s := by
  have hT : s.TypeIs (.ref z) "zip" := ⟨_, hz, rfl⟩
  unfold pyNext
  refine wpAny_bind (wpAny_attempt (wpAny_callSpecial?_slot (name := Str.ofString "__next__") hT F.slot_zip_next
    (wpAny_call_entry F.slot_zip_next hT F.entry_zip_next (zipS_next_end hh D hz hTI hTO h1 h2 hend fun h' tk' e hk he => ?_) (F.args_zip_next_1 _))))
  obtain ⟨o, ho, hc⟩ := he
  refine wpAny_bind (wpAny_isInstance (T := "StopIteration") (b := true) ⟨o, ho, hc⟩ isSubtype_stop ?_)
  exact wpAny_pure (hQ _ _ hk)
end
abbrev zipSH1 (h : Heap) (x : Str) (t : Tok) : Heap := h.push { cls := .type "str_ascii_iterator", data := .fields #[.str x t, .int 0 0] }
abbrev zipSH2 (h : Heap) (x y : Str) (t u : Tok) : Heap := (zipSH1 h x t).push { cls := .type "str_ascii_iterator", data := .fields #[.str y u, .int 0 0] }
abbrev zipSH3 (h : Heap) (x y : Str) (t u : Tok) : Heap := (zipSH2 h x y t u).push { cls := .type "tuple", data := .seq #[.ref h.objs.size, .ref (zipSH1 h x t).objs.size] }
abbrev zipSH4 (h : Heap) (x y : Str) (t u : Tok) : Heap := (zipSH3 h x y t u).push { cls := .type "tuple", data := .seq #[.none, .none] }
abbrev zipSH5 (h : Heap) (x y : Str) (t u : Tok) : Heap := (zipSH4 h x y t u).push { cls := .type "zip", data := .fields #[.none, .bool false, .bool false, .ref (zipSH2 h x y t u).objs.size, .ref (zipSH3 h x y t u).objs.size] }
theorem meets_zipS_new (x y : Str) (t u : Tok) (hx : x.cps.all (· < 128) = true) (hy : y.cps.all (· < 128) = true) :
    Meets (Builtin.«zip.__new__» ⟨[.type "zip", .str x t, .str y u], []⟩) (fun _ R s => R (.ok (.ret (.ref (zipSH4 s.heap x y t u).objs.size))) { s with heap := zipSH5 s.heap x y t u }) :=
  .of_wp fun prog w A R s h => by
    obtain ⟨hp, g, d, tk, os⟩ := s
    have hsub := sub_zip
    wp_walk using wpAny_pyIter_ascii hx, wpAny_pyIter_ascii hy
    exact ⟨_, rfl, h⟩
section
variable {prog : Program} {w : World} {A : Around} {E : Value → Shared → Prop} {s : Shared}
theorem call_zipS {x y : Str} {t u : Tok} {Q : Value → Shared → Prop} (hx : x.cps.all (· < 128) = true) (hy : y.cps.all (· < 128) = true)
    (h : ∀ h', IsZip h' (s.heap.objs.size + 4) (s.heap.objs.size + 2) (s.heap.objs.size + 3) .none → IsPair h' (s.heap.objs.size + 2) (.ref s.heap.objs.size) (.ref (s.heap.objs.size + 1)) →
      IsPair h' (s.heap.objs.size + 3) .none .none → At8 h' s.heap.objs.size x t 0 → At8 h' (s.heap.objs.size + 1) y u 0 → h'.objs.size = s.heap.objs.size + 5 →
      (∀ c o, s.heap.get? c = some o → h'.get? c = some o) → Q (.ref (s.heap.objs.size + 4)) { s with heap := h' }) :
    wpAny (model prog w) A (call (.type "zip") [.str x t, .str y u]) Q E s := by
  refine callType_new F.called_zip (by decide) (F.typeCall_zip_2 _ _) (F.newCall_zip_2 _ _) (fun obj => F.args_object_init_3 obj _ _) F.entry_zip_new
    (meets_zipS_new x y t u hx hy) ?_
  have z1 : (zipSH1 s.heap x t).objs.size = s.heap.objs.size + 1 := Heap.size_push ..
  have z2 : (zipSH2 s.heap x y t u).objs.size = s.heap.objs.size + 2 := by rw [Heap.size_push, z1]
  have z3 : (zipSH3 s.heap x y t u).objs.size = s.heap.objs.size + 3 := by rw [Heap.size_push, z2]
  have z4 : (zipSH4 s.heap x y t u).objs.size = s.heap.objs.size + 4 := by rw [Heap.size_push, z3]
  have z5 : (zipSH5 s.heap x y t u).objs.size = s.heap.objs.size + 5 := by rw [Heap.size_push, z4]
  have g5 : (zipSH5 s.heap x y t u).get? (zipSH4 s.heap x y t u).objs.size = some _ := Heap.get?_push_size _ rfl
  have g4 : (zipSH5 s.heap x y t u).get? (zipSH3 s.heap x y t u).objs.size = some _ := Heap.get?_push_of_some _ (Heap.get?_push_size _ rfl)
  have g3 : (zipSH5 s.heap x y t u).get? (zipSH2 s.heap x y t u).objs.size = some _ := Heap.get?_push_of_some _ (Heap.get?_push_of_some _ (Heap.get?_push_size _ rfl))
  have g2 : (zipSH5 s.heap x y t u).get? (zipSH1 s.heap x t).objs.size = some _ := Heap.get?_push_of_some _ (Heap.get?_push_of_some _ (Heap.get?_push_of_some _ (Heap.get?_push_size _ rfl)))
  have g1 : (zipSH5 s.heap x y t u).get? s.heap.objs.size = some _ := Heap.get?_push_of_some _ (Heap.get?_push_of_some _ (Heap.get?_push_of_some _ (Heap.get?_push_of_some _ (Heap.get?_push_size _ rfl))))
  show _ ∧ _
  rw [z2, z3, z4] at g5
  rw [z1, z2] at g3
  rw [z3] at g4
  rw [z1] at g2
  rw [z4]
  exact ⟨⟨_, g5, rfl⟩, h _ g5 g3 g4 ⟨_, g1, rfl, rfl⟩ ⟨_, g2, rfl, rfl⟩ z5 fun c o x =>
    Heap.get?_push_of_some _ (Heap.get?_push_of_some _ (Heap.get?_push_of_some _ (Heap.get?_push_of_some _ (Heap.get?_push_of_some _ x))))⟩
end
/-- the walk: pairs of signs, as long as both have some -/
def ItzS (x y : Str) : It :=
  ⟨fun i H => i < x.cps.size ∧ i < y.cps.size,
    fun i H v H' => ∃ T c d, v = .ref T ∧ H T = none ∧ H' = upd H T (.tup [.str ⟨#[c]⟩, .str ⟨#[d]⟩]) ∧ x.cps[i]? = some c ∧ y.cps[i]? = some d,
    fun i H => x.cps.size ≤ i ∨ y.cps.size ≤ i⟩
theorem turn_zipS {P : Program} {w : World} {K : PySem.W.Frag} {elts : List Expr} {kk : Nat} {tpos : Pos} {x y : Str} {t1 t2 : Tok} {l1 l2 z TI TO i1 i2 : Addr} (D : ZipApart z TI TO i1 i2 l1 l2) :
    Turn P w K (.Tuple elts kk tpos) (ItzS x y) [z, TI, TO, i1, i2] z (fun i h => IsZip h z TI TO .none ∧ IsPair h TI (.ref i1) (.ref i2) ∧ (∃ x y, IsPair h TO x y) ∧ At8 h i1 x t1 i ∧ At8 h i2 y t2 i) where
  mem := by simp
  obj := fun i h st c hc => by
    obtain ⟨hz, hTI, ⟨x, y, hTO⟩, ⟨o1, e1, _, d1⟩, ⟨o2, e2, _, d2⟩⟩ := st
    have e' : c = z ∨ c = TI ∨ c = TO ∨ c = i1 ∨ c = i2 := by simpa using hc
    rcases e' with q | q | q | q | q
    · rw [q]; exact ⟨_, hz, fun v q => nomatch q⟩
    · rw [q]; exact ⟨_, hTI, fun v q => nomatch q⟩
    · rw [q]; exact ⟨_, hTO, fun v q => nomatch q⟩
    · rw [q]; exact ⟨o1, e1, fun v q => by rw [d1] at q; cases q⟩
    · rw [q]; exact ⟨o2, e2, fun v q => by rw [d2] at q; cases q⟩
  keep := fun i h h' st k => by
    obtain ⟨hz, hTI, ⟨x, y, hTO⟩, h1, h2⟩ := st
    exact ⟨k z (by simp) _ hz, k TI (by simp) _ hTI, ⟨x, y, k TO (by simp) _ hTO⟩, at8_at h1 fun o q => k i1 (by simp) o q, at8_at h2 fun o q => k i2 (by simp) o q⟩
  item := by
    intro X hP hw hK hc i pins s σ H E I hf st hg
    subst hP hw hK
    obtain ⟨hz, hTI, ⟨x0, y0, hTO⟩, h1, h2⟩ := st
    obtain ⟨hx, hy⟩ := hg
    obtain ⟨c1, ex⟩ : ∃ c, x.cps[i]? = some c := ⟨_, Array.getElem?_eq_getElem hx⟩
    obtain ⟨c2, ey⟩ : ∃ c, y.cps[i]? = some c := ⟨_, Array.getElem?_eq_getElem hy⟩
    have hzl : z < s.heap.objs.size := Heap.lt_size hz
    refine pyNext_zipS_item D hz hTI hTO h1 h2 ex ey fun h' u v z' TO' h1' h2' hT hsz hk => ?_
    refine ⟨_, rfl, wpAny_letOwnedTupleGo_zip (s := { s with heap := h', toks := s.toks + 2 }) z' fun h'' z'' sb => ?_⟩
    have hT2 : h''.get? s.heap.objs.size = some { cls := .type "tuple", data := .seq #[.str ⟨#[c1]⟩ u, .str ⟨#[c2]⟩ v] } := (sb.2 _ (Nat.ne_of_gt hzl)).trans hT
    have new : ObjOk X.prog X.w (upd H s.heap.objs.size (.tup [.str ⟨#[c1]⟩, .str ⟨#[c2]⟩])) h'' s.heap.objs.size (.tup [.str ⟨#[c1]⟩, .str ⟨#[c2]⟩]) :=
      ⟨by show 2 ≤ sizeLine; decide, [_, _], .cons ⟨u, rfl⟩ (.cons ⟨v, rfl⟩ .nil), ⟨_, hT2, rfl, _, rfl⟩⟩
    have I1 : Inv X pins σ (upd H s.heap.objs.size (.tup [.str ⟨#[c1]⟩, .str ⟨#[c2]⟩])) { s with heap := h'', toks := s.toks + 2 } :=
      I.turnedNew (t' := s.toks + 2) (ch := [z, TI, TO, i1, i2]) (fun c o hb q => (sb.2 c (fun q' => hb (by simp [q']))).trans (hk c o (fun q' => hb (by simp [q'])) (fun q' => hb (by simp [q'])) (fun q' => hb (by simp [q'])) (fun q' => hb (by simp [q'])) q)) hf (Nat.le_refl _) new
    refine ⟨.ref s.heap.objs.size, _, I1, rfl, ⟨_, _, _, rfl, I.hok.fresh (Nat.le_refl _), rfl, ex, ey⟩, ⟨z'', ?_, ⟨.str ⟨#[c1]⟩ u, .str ⟨#[c2]⟩ v, ?_⟩, ?_, ?_⟩, fun c hcm => ?_⟩
    · exact (sb.2 _ D.TIz).trans (hk _ _ D.TIz D.TITO D.TIi1 D.TIi2 hTI)
    · exact (sb.2 _ D.TOz).trans TO'
    · exact at8_at h1' fun o q => (sb.2 _ D.i1z).trans q
    · exact at8_at h2' fun o q => (sb.2 _ D.i2z).trans q
    · have hlt : c < s.heap.objs.size := by
        have e' : c = z ∨ c = TI ∨ c = TO ∨ c = i1 ∨ c = i2 := by simpa using hcm
        rcases e' with q | q | q | q | q
        · rw [q]; exact hzl
        · rw [q]; exact Heap.lt_size hTI
        · rw [q]; exact Heap.lt_size hTO
        · rw [q]; obtain ⟨_, e1, _⟩ := h1; exact Heap.lt_size e1
        · rw [q]; obtain ⟨_, e2, _⟩ := h2; exact Heap.lt_size e2
      rw [upd_ne (Nat.ne_of_lt hlt)]
      exact (hf c hcm).1
  done := by
    intro X hP hw hK hc i pins s σ H E I hf st hg
    subst hP hw hK
    obtain ⟨hz, hTI, ⟨x0, y0, hTO⟩, h1, h2⟩ := st
    have he : x.cps[i]? = none ∨ y.cps[i]? = none := by
      rcases hg with q | q
      · exact .inl (Array.getElem?_eq_none q)
      · exact .inr (Array.getElem?_eq_none q)
    exact pyNext_zipS_end (I.ok.hd hc) D hz hTI hTO h1 h2 he fun h' tk' hk => ⟨rfl, I.turnedL (t' := tk') (ch := [z, TI, TO, i1, i2]) (fun c o hb q =>
      hk c o (fun q' => hb (by simp [q'])) (fun q' => hb (by simp [q'])) (fun q' => hb (by simp [q'])) (fun q' => hb (by simp [q'])) q) hf⟩
  self := fun A i s Q E st h => wpAny_pyIter_zip st.1 h
section
variable {X : Cx} {σ : L2.St} {H : Hp} {e a b : Expr} {p pos tpos : Pos} {elts : List Expr} {kk : Nat}
theorem i_zipS {R : It → Hp → Prop} (B : Blt X.mg X.base) (h : wE X a σ H fun v H1 => wE X b σ H1 fun u H2 => ∃ x y : Str, v = .str x ∧ u = .str y ∧ x.cps.all (· < 128) = true ∧ y.cps.all (· < 128) = true ∧ R (ItzS x y) H2) (hg : Gl X "zip" := by rfl)
    (hs : starEach [a, b] X.env = (false, eval a X.env) :: starEach [b] X.env := by rfl) (hs2 : starEach [b] X.env = [(false, eval b X.env)] := by rfl) :
    wI X (.Tuple elts kk tpos) (.Call (.Name "zip" p) [a, b] [] pos) σ H R := by
  have ha : wA X [a, b] σ H fun vs H2 => ∃ x y : Str, vs = [.str x, .str y] ∧ x.cps.all (· < 128) = true ∧ y.cps.all (· < 128) = true ∧ R (ItzS x y) H2 :=
    a_cons (wE_mono h fun v H1 q => a_cons (wE_mono q fun u H2 ⟨x, y, e1, e2, r⟩ => a_nil ⟨x, y, by rw [e1, e2], r⟩) hs2) hs
  refine ⟨fun pins s I => ?_⟩
  refine Call_ (ld_blt I hg B.zip PyProof.Rows.boot_zip (PyProof.Rows.callWith_type1 (thn (ha.run pos pins _ I) fun us s1 ⟨vs, H1, I1, r1, q1⟩ => ?_) hs (by rw [hs2]; rfl)))
  obtain ⟨x, y, ex, hx, hy, q⟩ := q1
  subst ex
  obtain ⟨u1, u2, rfl, ⟨t1, rfl⟩, ⟨t2, rfl⟩⟩ := vals2 r1
  have fresh5 : ∀ c, c ∈ [s1.heap.objs.size + 4, s1.heap.objs.size + 2, s1.heap.objs.size + 3, s1.heap.objs.size, s1.heap.objs.size + 1] → FpOk X pins H1 c := fun c hcm => by
    have e' : c = s1.heap.objs.size + 4 ∨ c = s1.heap.objs.size + 2 ∨ c = s1.heap.objs.size + 3 ∨ c = s1.heap.objs.size ∨ c = s1.heap.objs.size + 1 := by simpa using hcm
    have hle : s1.heap.objs.size ≤ c := by
      rcases e' with z | z | z | z | z
      · rw [z]; exact Nat.le_add_right _ _
      · rw [z]; exact Nat.le_add_right _ _
      · rw [z]; exact Nat.le_add_right _ _
      · rw [z]; exact Nat.le_refl _
      · rw [z]; exact Nat.le_add_right _ _
    exact I1.fpOk hle (I1.hok.fresh hle)
  obtain ⟨m, ⟨oL, _, _, hoL, _⟩, _⟩ := id I1.loc
  refine call_zipS hx hy fun h' hz hTI hTO h1 h2 hsz hk => wpAny_pyIter_zip hz ?_
  have I2 : Inv X pins σ H1 { s1 with heap := h' } := I1.kept (t' := s1.toks) hk
  exact ⟨s1.heap.objs.size + 4, [s1.heap.objs.size + 4, s1.heap.objs.size + 2, s1.heap.objs.size + 3, s1.heap.objs.size, s1.heap.objs.size + 1], _, _, H1, rfl, I2, turn_zipS (PySem.W.ktu_apart s1.heap.objs.size _ _ (Heap.lt_size hoL) (Heap.lt_size hoL)), ⟨hz, hTI, ⟨_, _, hTO⟩, h1, h2⟩, fresh5, q⟩
end
theorem walk_zipS {x y : Str} {n : Nat} (hn : n = min x.cps.size y.cps.size) : Walk (ItzS x y) n (fun _ => True) (fun i H v H' => ∃ T c d, v = .ref T ∧ H T = none ∧ H' = upd H T (.tup [.str ⟨#[c]⟩, .str ⟨#[d]⟩]) ∧ x.cps[i]? = some c ∧ y.cps[i]? = some d) := by
  subst hn
  exact ⟨fun i _ hi _ => ⟨by omega, by omega⟩, fun _ _ => by show _ ∨ _; omega, fun _ _ _ _ _ _ y => y⟩
end Z

set_option Elab.async false
set_option linter.all false
set_option maxRecDepth 100000
set_option maxHeartbeats 4000000
/-! rules by value, slices, methods -/
namespace Z
open PySem PySem.Spec PyProof.Rows L2
section
variable {X : Cx} {k : Nat} {W : WX} {σ : L2.St} {H : Hp} {e a b o : Expr} {es : List Expr} {p p2 pos : Pos} {Q : VK}
theorem o_add {i j : Int} (q : Q (.int (i + j)) H) : oW X (binaryOp .Add) (.int i) (.int j) H Q := oW_of op_add ⟨i, j, rfl, rfl, q⟩
theorem o_sub {i j : Int} (q : Q (.int (i - j)) H) : oW X (binaryOp .Sub) (.int i) (.int j) H Q := oW_of op_sub ⟨i, j, rfl, rfl, q⟩
theorem o_mul {i j : Int} (h : CMul i j) (q : Q (.int (i * j)) H) : oW X (binaryOp .Mult) (.int i) (.int j) H Q := oW_of op_mul ⟨i, j, rfl, rfl, h, q⟩
theorem o_div {i j : Int} (h : CDiv i j) (q : Q (.int (i / j)) H) : oW X (binaryOp .FloorDiv) (.int i) (.int j) H Q := oW_of op_fdiv ⟨i, j, rfl, rfl, h, q⟩
theorem o_mod {i j : Int} (h : 0 < j) (q : Q (.int (i % j)) H) : oW X (binaryOp .Mod) (.int i) (.int j) H Q := oW_of op_mod ⟨i, j, rfl, rfl, h, q⟩
theorem o_pow {i j : Int} (h : CPow i j) (q : Q (.int (i ^ j.toNat)) H) : oW X (binaryOp .Pow) (.int i) (.int j) H Q := oW_of op_pow ⟨i, j, rfl, rfl, h, q⟩
theorem o_adds {i j : Str} (h : i.length + j.length ≤ sizeLine) (q : Q (.str (i ++ j)) H) : oW X (binaryOp .Add) (.str i) (.str j) H Q := oW_of op_add_str ⟨i, j, rfl, rfl, h, q⟩
theorem u_neg {i : Int} (q : Q (.int (-i)) H) : uW X (unaryOp .USub) (.int i) H Q := uW_of un_neg ⟨i, rfl, q⟩
theorem c_lt {i j : Int} (q : Q (.bl (decide (i < j))) H) : oW X (compareOp .Lt) (.int i) (.int j) H Q := oW_of op_lt ⟨i, j, rfl, rfl, q⟩
theorem c_le {i j : Int} (q : Q (.bl (decide (i ≤ j))) H) : oW X (compareOp .LtE) (.int i) (.int j) H Q := oW_of op_le ⟨i, j, rfl, rfl, q⟩
theorem c_gt {i j : Int} (q : Q (.bl (decide (j < i))) H) : oW X (compareOp .Gt) (.int i) (.int j) H Q := oW_of op_gt ⟨i, j, rfl, rfl, q⟩
theorem c_ge {i j : Int} (q : Q (.bl (decide (j ≤ i))) H) : oW X (compareOp .GtE) (.int i) (.int j) H Q := oW_of op_ge ⟨i, j, rfl, rfl, q⟩
theorem c_eq {x y : V} (h : scal x y = true) (q : Q (.bl (decide (x = y))) H) : oW X (compareOp .Eq) x y H Q := oW_of op_eq ⟨h, q⟩
theorem c_ne {x y : V} (h : scal x y = true) (q : Q (.bl (!decide (x = y))) H) : oW X (compareOp .NotEq) x y H Q := oW_of op_ne ⟨h, q⟩
theorem c_isN {x : V} (q : Q (.bl (decide (x = .non))) H) : oW X (compareOp .Is) x .non H Q := oW_of op_isN ⟨rfl, q⟩
theorem c_notN {x : V} (q : Q (.bl (!decide (x = .non))) H) : oW X (compareOp .IsNot) x .non H Q := oW_of op_notN ⟨rfl, q⟩
theorem c_ltS {i j : Str} (q : Q (.bl (decide (i.cps.toList < j.cps.toList))) H) : oW X (compareOp .Lt) (.str i) (.str j) H Q := oW_of op_lt_str ⟨i, j, rfl, rfl, q⟩
theorem c_inSign {c : Nat} {z : Str} (q : Q (.bl (decide (c ∈ z.cps.toList))) H) : oW X (compareOp .In) (.str ⟨#[c]⟩) (.str z) H Q := oW_of op_in_sign ⟨c, z, rfl, rfl, q⟩
theorem c_inL {x : V} {q : Addr} {xs : List V} (hq : SqL X.K H q xs ∨ SqT X.K H q xs) (fx : flatV x = true) (fs : xs.all flatV = true) (h : Q (.bl (inV x xs)) H) : oW X (compareOp .In) x (.ref q) H Q := oW_of op_in_seq ⟨q, xs, rfl, hq, fx, fs, by exact h⟩
theorem c_notInL {x : V} {q : Addr} {xs : List V} (hq : SqL X.K H q xs ∨ SqT X.K H q xs) (fx : flatV x = true) (fs : xs.all flatV = true) (h : Q (.bl (!inV x xs)) H) : oW X (compareOp .NotIn) x (.ref q) H Q := oW_of op_notIn_seq ⟨q, xs, rfl, hq, fx, fs, by exact h⟩

/-- the part of a slice -/
def wO (X : Cx) (e : Option Expr) : L2.TO := match e with | none => tNoPart | some e => tPart (wE X e)
theorem pO {e : Option Expr} : PO X e (wO X e) := match e with | none => po_none | some _ => po_some pE
theorem e_slice {r : V → Option Int → Option Int → Hp → VK → Prop} {lo hi : Option Expr} (hr : SlR X r) (h : wE X e σ H fun x H1 => wO X lo σ H1 fun l H2 => wO X hi σ H2 fun u H3 => r x l u H3 Q) : wE X (.Subscript e (.Slice lo hi none p2) pos) σ H Q :=
  eE (pe_slice hr pE pO pO) h
theorem p_none {R : Option Int → Hp → Prop} (h : R none H) : wO X none σ H R := h
theorem p_some {R : Option Int → Hp → Prop} (h : wE X e σ H fun x H1 => ∃ i, x = .int i ∧ R (some i) H1) : wO X (some e) σ H R := h
/-- "..".join(xs) -/
theorem e_join {apos : Pos} (h : wE X o σ H fun x H1 => ∃ s : Str, x = .str s ∧ wE X a σ H1 fun y H2 => ∃ q, ∃ ys : List Str, y = .ref q ∧ (SqL X.K H2 q (ys.map V.str) ∨ SqT X.K H2 q (ys.map V.str)) ∧ (ys.map (·.length)).sum + ys.length * s.length ≤ 16777216 ∧ Q (.str (Txt.join s ys)) H2)
    (hs : starEach [a] X.env = [(false, eval a X.env)] := by rfl) (hbase : attributeBase o "join" X.env (eval o X.env) = eval o X.env := by rfl) (hline : (apos.endLine == pos.line) = true := by rfl) : wE X (.Call (.Attribute o "join" apos) [a] [] pos) σ H Q :=
  eE (pe_join pE pE hs hbase hline) (wE_mono h fun x H1 ⟨s, e1, h1⟩ => ⟨⟨s, e1⟩, wE_mono h1 fun y H2 ⟨q, ys, e2, h2, h3, h4⟩ => ⟨s, q, ys, e1, by rw [e2], h2, h3, h4⟩⟩)
/-- xs.append(v) -/
theorem e_append {apos : Pos} (h : wE X o σ H fun x H1 => ∃ q, x = .ref q ∧ (∃ ys, H1 q = some (.lst ys)) ∧ wE X a σ H1 fun y H2 => ∃ xs, H2 q = some (.lst xs) ∧ xs.length < sizeLine ∧ Q .non (upd H2 q (.lst (xs ++ [y]))))
    (hs : starEach [a] X.env = [(false, eval a X.env)] := by rfl) (hbase : attributeBase o "append" X.env (eval o X.env) = eval o X.env := by rfl) (hline : (apos.endLine == pos.line) = true := by rfl)
    (hfew : ((backTo pos (starEach [a] X.env)).all (fun x => !x.1) && (backToKw pos (keywordEach [] X.env)).all (fun x => x.1.isSome) && decide (([a] : List Expr).length + ([] : List Keyword).length + (if ([] : List Keyword).isEmpty then 0 else 1) < 30)) = true := by rfl) :
    wE X (.Call (.Attribute o "append" apos) [a] [] pos) σ H Q :=
  eE (pe_bm PySem.F.plainAttrs_list PySem.F.slot_list_append PySem.F.type_list_append mt_append pE pA hbase hfew hline (by rw [hs]; rfl) rfl)
    (wE_mono h fun x H1 ⟨q, e1, ⟨ys, h0⟩, h1⟩ => ⟨by rw [e1]; exact .inl ⟨rfl, ys, .inl (.inl h0)⟩, a_cons (wE_mono h1 fun y H2 ⟨xs, h2, h3, h4⟩ => a_nil ⟨q, xs, y, e1, rfl, h2, h3, h4⟩) (by rw [hs]; rfl)⟩)
end
end Z

set_option Elab.async false
set_option linter.all false
set_option maxRecDepth 100000
set_option maxHeartbeats 4000000
/-! comprehensions that only read -/
namespace Z
open PySem PySem.Spec PyProof.Rows L2
section
variable {X : Cx} {k : Nat} {W : WX} {σ : L2.St} {H : Hp} {pos : Pos} {Q : VK} {elt tg iter : Expr} {scope : Scope}
/-- one turn that only reads: the item x, the heap H; the target is bound, the element told -/
def MapTurn (X : Cx) (scope : Scope) (vs : List Nat) (tg elt : Expr) (σ : L2.St) (x : V) (H : Hp) (R : V → Prop) : Prop :=
  wGb X scope tg x (wipe σ vs) H fun σ2 H2 => wipe σ2 vs = wipe σ vs ∧ But [] H H2 ∧ wEb X scope elt σ2 H2 fun v H4 => R v ∧ But [] H2 H4
theorem lcM_core {J : It} {n : Nat} {G : Hp → Prop} {Y : Nat → Hp → V → Hp → Prop} {own : List (Str × Nat)} {H1 : Hp} {ys : List V} (w : Walk J n G Y) (hn : ys.length = n) (hz : n ≤ sizeLine) (hG : ∀ H', But [] H1 H' → G H')
    (ht : ∀ i x H2 H', i < n → But [] H1 H2 → Y i H2 x H' → But [] H2 H' ∧ MapTurn X scope (own.map (·.2)) tg elt σ x H' fun v => ys[i]? = some v) {Qd : Addr → Hp → Prop}
    (hq : ∀ D H', But [] H1 H' → H1 D = none → H' D = some (.lst ys) → Qd D H') : ∀ D, H1 D = none → ∃ Pv : Nat → Hp → Prop, Pv 0 (upd H1 D (.lst [])) ∧ (∀ i H, i ≤ n → Pv i H → G H) ∧
      (∀ i x H H', i < n → Pv i H → Y i H x H' → LcTurn X scope (own.map (·.2)) tg [] elt σ D x H' (Pv (i + 1))) ∧ ∀ H, Pv n H → Qd D H := by
  intro D hD
  refine ⟨fun i H' => But [] H1 H' ∧ H' D = some (.lst (ys.take i)), ⟨But.new hD, by rw [upd_same]; rfl⟩, fun i H' _ h => hG H' h.1, ?_, fun H' h => hq D H' h.1 hD (by rw [h.2, ← hn, List.take_length])⟩
  intro i x H2 H' hi hP hY
  obtain ⟨hb, hm⟩ := ht i x H2 H' hi hP.1 hY
  intro s H0 C cl fp
  refine ⟨fun pins s2 u I r => thn ((hm s H0 C cl fp).run pins s2 u I r) fun _ s3 h3 => ?_⟩
  obtain ⟨σ', H3, I3, e1, b3, h3⟩ := h3
  refine ⟨σ', H3, I3, e1, fun s H0 C cl fp => eIf pts_nil ?_⟩
  intro s H0 C cl fp
  refine wE_mono (h3 s H0 C cl fp) fun v H4 ⟨hv, b4⟩ => ?_
  have hD4 : H4 D = some (.lst (ys.take i)) := b4 _ _ (by simp) (b3 _ _ (by simp) (hb _ _ (by simp) hP.2))
  refine ⟨_, hD4, by have := List.length_take_le i ys; rw [List.length_take]; omega, ?_, ?_⟩
  · refine fun q o _ e => ?_
    have ne : q ≠ D := ne_of_none e hD
    rw [upd_ne ne]
    exact b4 _ _ (by simp) (b3 _ _ (by simp) (hb _ _ (by simp) (hP.1 _ _ (by simp) e)))
  · rw [upd_same, List.take_add_one, hv]
    rfl
theorem e_lcM (own : List (Str × Nat)) (C : Cxt X k W)
    (h : wI X tg iter σ H fun J H1 => ∃ n G Y ys, Walk J n G Y ∧ ys.length = n ∧ n ≤ sizeLine ∧ (∀ H', But [] H1 H' → G H') ∧
      (∀ i x H2 H', i < n → But [] H1 H2 → Y i H2 x H' → But [] H2 H' ∧ MapTurn X scope (own.map (·.2)) tg elt σ x H' fun v => ys[i]? = some v) ∧
      ∀ D H', But [] H1 H' → H1 D = none → H' D = some (.lst ys) → Q (.ref D) H')
    (ok : BlkOk X.N X.env.scope scope own := by exact blkOk_by (by first | rfl | kernel_rfl)) (hs : ∀ x, foldedSetIterable iter X.env x = pure x := by intro _; rfl) :
    wE X (.ListComp elt [⟨tg, iter, [], 0⟩] scope pos) σ H Q :=
  e_lc own C (wI_mono h fun J H1 ⟨n, G, Y, ys, w, h1, h2, h3, h4, h5⟩ => ⟨n, G, Y, w, lcM_core w h1 h2 h3 h4 h5⟩) ok hs
/-- the target is a name -/
theorem mt_name {i : Nat} {y : Str} {p : Pos} {vs : List Nat} {x : V} {R : V → Prop} (hN : X.N.Nodup)
    (h : wEb X scope elt ((wipe σ vs).set i (some x)) H fun v H4 => R v ∧ But [] H H4) (hw : wipe ((wipe σ vs).set i (some x)) vs = wipe σ vs := by rfl) (hi : X.N[i]? = some y := by rfl)
    (hx : Loc (relS scope X.env.scope) y := by first | exact Or.inl rfl | exact Or.inr rfl) (hf : (scope.names.lookup y == some .cell) = true ∨ (relS scope X.env.scope).names.lookup y = some .local := by first | exact .inl rfl | exact .inr rfl) :
    MapTurn X scope vs (.Name y p) elt σ x H R := by
  intro s H0 C cl fp
  exact g_name (i := i) ⟨hw, But.refl, h⟩ hN hi hx hf
/-- the target is a pair of names -/
theorem mt_pair {i j : Nat} {y z : Str} {p p' pt : Pos} {kt} {vs : List Nat} {q : Addr} {u v : V} {R : V → Prop} (hc : X.calm = true) (hN : X.N.Nodup) (hq : H q = some (.tup [u, v]))
    (h : wEb X scope elt (((wipe σ vs).set i (some u)).set j (some v)) H fun v H4 => R v ∧ But [] H H4) (hw : wipe (((wipe σ vs).set i (some u)).set j (some v)) vs = wipe σ vs := by rfl) (hi : X.N[i]? = some y := by rfl) (hj : X.N[j]? = some z := by rfl)
    (hx : Loc (relS scope X.env.scope) y := by first | exact Or.inl rfl | exact Or.inr rfl) (hf : (scope.names.lookup y == some .cell) = true ∨ (relS scope X.env.scope).names.lookup y = some .local := by first | exact .inl rfl | exact .inr rfl)
    (hx2 : Loc (relS scope X.env.scope) z := by first | exact Or.inl rfl | exact Or.inr rfl) (hf2 : (scope.names.lookup z == some .cell) = true ∨ (relS scope X.env.scope).names.lookup z = some .local := by first | exact .inl rfl | exact .inr rfl) :
    MapTurn X scope vs (.Tuple [.Name y p, .Name z p'] kt pt) elt σ (.ref q) H R := by
  intro s H0 C cl fp
  refine g_tup (gs_cons (g_name (i := i) (gs_cons (g_name (i := j) (gs_nil ⟨hw, But.refl, h⟩) hN hj hx2 hf2)) hN hi hx hf)) hc (.inl (.inl hq))
/-- if c: u else: v, where the test only reads -/
theorem s_ifB {c : Expr} {u v : List Stmt} {D : Ends} (b : Bool) (ht : wT X c σ H fun x H1 => x = b ∧ But [] H H1) (h1 : b = true → ∀ H1, But [] H H1 → wB X u D σ H1) (h2 : b = false → ∀ H1, But [] H H1 → wB X v D σ H1) : wS X (.If c u v pos) D σ H :=
  s_if (wT_mono ht fun x H1 ⟨e, k⟩ => by
    subst e
    split
    · rename_i e
      exact h1 e H1 k
    · rename_i e
      exact h2 (by simpa using e) H1 k)
theorem ite_b {p q : Prop} {b : Bool} (h1 : b = true → p) (h2 : b = false → q) : if b = true then p else q := by
  cases b with
  | true => exact h1 rfl
  | false => exact h2 rfl
end
end Z

/-! plain: a text in pieces -/
set_option Elab.async false
set_option linter.all false
namespace Z
open PySem PySem.Spec PyProof.Rows L2 TL
def sOf (l : List Nat) : Str := ⟨l.toArray⟩
theorem sOf_list {l : List Nat} : (sOf l).cps.toList = l := by simp [sOf]
theorem sOf_len {l : List Nat} : (sOf l).length = l.length := by show (sOf l).cps.size = _; simp [sOf]
theorem sOf_str (x : Str) : sOf x.cps.toList = x := by cases x; simp [sOf]
theorem str_ext {x y : Str} (h : x.cps.toList = y.cps.toList) : x = y := by rw [← sOf_str x, ← sOf_str y, h]
def chunks (l : List Nat) (n : Nat) : List (List Nat) := if l.length ≤ n then [l] else (List.range ((l.length + n - 1) / n)).map fun i => (l.drop (i * n)).take n
theorem chunk_flat (l : List Nat) (n : Nat) : ∀ m, ((List.range m).map fun i => (l.drop (i * n)).take n).flatten = l.take (m * n)
  | 0 => by simp
  | m + 1 => by
    rw [List.range_succ, List.map_append, List.flatten_append, chunk_flat l n m]
    simp only [List.map_cons, List.map_nil, List.flatten_cons, List.flatten_nil, List.append_nil]
    rw [Nat.add_mul, Nat.one_mul, List.take_add]
theorem up_div {a n : Nat} (hn : 0 < n) : a ≤ (a + n - 1) / n * n := by
  have h := Nat.lt_div_mul_add hn (a := a + n - 1)
  omega
theorem chunks_flatten (l : List Nat) {n : Nat} (hn : 0 < n) : (chunks l n).flatten = l := by
  unfold chunks
  split
  · simp
  · rw [chunk_flat, List.take_of_length_le (up_div hn)]
theorem chunks_length (l : List Nat) {n : Nat} (hn : 0 < n) : (chunks l n).length = max 1 ((l.length + n - 1) / n) := by
  unfold chunks
  split
  · rename_i h
    have : (l.length + n - 1) / n ≤ 1 := by
      rw [← Nat.lt_succ_iff, Nat.div_lt_iff_lt_mul hn]
      omega
    simp only [List.length_singleton]
    omega
  · rename_i h
    rw [List.length_map, List.length_range]
    have : 1 ≤ (l.length + n - 1) / n := by
      rw [Nat.le_div_iff_mul_le hn]
      omega
    omega
theorem chunks_last (l : List Nat) {n : Nat} (hn : 0 < n) : ∀ p ∈ (chunks l n).getLast?, p.length ≤ n := by
  unfold chunks
  split
  · simp_all
  · intro p hp
    obtain ⟨i, hi⟩ : ∃ i, p = (l.drop (i * n)).take n := by
      have := List.mem_of_getLast? hp
      obtain ⟨i, _, e⟩ := List.mem_map.mp this
      exact ⟨i, e.symm⟩
    rw [hi]
    exact List.length_take_le _ _
theorem chunks_each (l : List Nat) {n : Nat} (hn : 0 < n) : ∀ p ∈ chunks l n, p.length ≤ n := by
  unfold chunks
  split
  · simp_all
  · intro p hp
    obtain ⟨i, _, e⟩ := List.mem_map.mp hp
    rw [← e]
    exact List.length_take_le _ _
theorem chunks_init (l : List Nat) {n : Nat} (hn : 0 < n) : ∀ p ∈ (chunks l n).dropLast, p.length = n := by
  unfold chunks
  split
  · simp
  · rename_i h
    intro p hp
    rw [← List.map_dropLast] at hp
    obtain ⟨i, hi, e⟩ := List.mem_map.mp hp
    have hi2 : i + 1 < (l.length + n - 1) / n := by
      obtain ⟨j, hj, ej⟩ := List.getElem_of_mem hi
      rw [List.getElem_dropLast, List.getElem_range] at ej
      rw [List.length_dropLast, List.length_range] at hj
      omega
    have : (i + 2) * n ≤ l.length + n - 1 := by
      rw [← Nat.le_div_iff_mul_le hn]
      omega
    rw [← e, List.length_take, List.length_drop]
    have e2 : (i + 2) * n = i * n + 2 * n := Nat.add_mul i 2 n
    omega
theorem chunks_ne (l : List Nat) {n : Nat} (hn : 0 < n) (hl : l ≠ []) : ∀ p ∈ chunks l n, p ≠ [] := by
  intro p hp hp0
  unfold chunks at hp
  split at hp
  · simp at hp
    exact hl (hp ▸ hp0)
  · obtain ⟨i, hi, e⟩ := List.mem_map.mp hp
    rw [List.mem_range, Nat.lt_iff_add_one_le, Nat.le_div_iff_mul_le hn, Nat.add_mul, Nat.one_mul] at hi
    have h2 : ((l.drop (i * n)).take n).length = 0 := by rw [e, hp0]; rfl
    rw [List.length_take, List.length_drop] at h2
    omega
theorem joinL_nil : ∀ ps : List (List Nat), joinL [] ps = ps.flatten
  | [] => rfl
  | [p] => by simp [joinL]
  | p :: q :: r => by
    have := joinL_nil (q :: r)
    simp only [joinL, List.nil_append, this, List.flatten_cons]
theorem join_nil (ls : List (List Nat)) : Txt.join "" (ls.map sOf) = sOf ls.flatten := by
  apply str_ext
  rw [sOf_list, join_eq]
  have := tl_join "" (ls.map sOf)
  show tl _ = _
  rw [this, List.map_map]
  have e1 : tl "" = [] := rfl
  have e2 : tl ∘ sOf = id := by
    funext l
    exact sOf_list
  rw [e1, joinL_nil, e2, List.map_id]
end Z

set_option Elab.async false
set_option linter.all false
set_option maxRecDepth 100000
set_option maxHeartbeats 4000000
/-! plain: what can be shown -/
namespace Z
open PySem PySem.Spec PyProof.Rows L2 TL
/-- small enough to be shown -/
def rp (d : PyData) : Bool := d.showable && decide (d.depth ≤ 64) && d.leavesShort 40 && decide (d.weight ≤ 300000)
theorem rp_len {d : PyData} (h : rp d = true) : d.showable = true ∧ d.depth ≤ 64 ∧ d.shown.length ≤ sizeLine := by
  simp only [rp, Bool.and_eq_true, decide_eq_true_eq] at h
  have h2 := PyData.shown_le 40 (by decide) d h.1.2
  refine ⟨h.1.1.1, h.1.1.2, ?_⟩
  rw [sizeLine_eq]
  omega
theorem weight_strs : ∀ ys : List Str, PyData.weightAll (ys.map PyData.str) = (ys.map (·.length)).sum + ys.length
  | [] => rfl
  | y :: ys => by
    have := weight_strs ys
    simp only [List.map_cons, PyData.weightAll, List.sum_cons, List.length_cons, PyData.weight, this]
    show y.cps.size + 1 + _ = y.cps.size + _ + _
    omega
theorem depth_strs : ∀ ys : List Str, PyData.depthAll (ys.map PyData.str) ≤ 1
  | [] => by simp [PyData.depthAll]
  | y :: ys => by
    have := depth_strs ys
    simp only [List.map_cons, PyData.depthAll, PyData.depth]
    omega
theorem showable_strs : ∀ ys : List Str, PyData.showableAll (ys.map PyData.str) = true
  | [] => rfl
  | y :: ys => by simp [PyData.showableAll, PyData.showable, showable_strs ys]
theorem leaves_strs : ∀ ys : List Str, (∀ y ∈ ys, ∀ c ∈ y.cps.toList, c < 4294967296) → PyData.leavesShortAll 40 (ys.map PyData.str) = true
  | [], _ => rfl
  | y :: ys, h => by
    simp only [List.map_cons, PyData.leavesShortAll, PyData.leavesShort, leaves_strs ys (fun z hz => h z (by simp [hz])), Bool.and_true, List.all_eq_true, decide_eq_true_eq]
    intro c hc
    exact h y (by simp) c hc
theorem rp_strs {ys : List Str} (hs : (ys.map (·.length)).sum + ys.length ≤ 300000) (hc : ∀ y ∈ ys, ∀ c ∈ y.cps.toList, c < 4294967296) : rp (.list (ys.map PyData.str)) = true := by
  have := depth_strs ys
  have e1 : (PyData.list (ys.map PyData.str)).depth ≤ 64 := by simp only [PyData.depth]; omega
  have e2 : (PyData.list (ys.map PyData.str)).weight ≤ 300000 := by simp only [PyData.weight, weight_strs]; omega
  have e3 : (PyData.list (ys.map PyData.str)).showable = true := by simp only [PyData.showable, showable_strs]
  have e4 : (PyData.list (ys.map PyData.str)).leavesShort 40 = true := by simp only [PyData.leavesShort, leaves_strs ys hc]
  rw [rp, e3, e4, decide_eq_true e1, decide_eq_true e2]
  rfl
theorem rp_str {y : Str} (hs : y.length ≤ 300000) (hc : ∀ c ∈ y.cps.toList, c < 4294967296) : rp (.str y) = true := by
  have e1 : (PyData.str y).depth ≤ 64 := by simp only [PyData.depth]; omega
  have e2 : (PyData.str y).weight ≤ 300000 := by simp only [PyData.weight]; exact hs
  have e3 : (PyData.str y).showable = true := by simp only [PyData.showable]
  have e4 : (PyData.str y).leavesShort 40 = true := by simp only [PyData.leavesShort, List.all_eq_true, decide_eq_true_eq]; exact fun c h => hc c h
  rw [rp, e3, e4, decide_eq_true e1, decide_eq_true e2]
  rfl
section
variable {X : Cx} {k : Nat} {W : WX} {σ : L2.St} {H : Hp} {a : Expr} {p pos : Pos} {Q : VK}
theorem e_rep (B : Blt X.mg X.base) (hg : X.A.guards = some []) (hu : X.A.units + 66 < cLine) (h : wE X a σ H fun v H1 => ∃ l d, DD X.K l H1 v d ∧ rp d = true ∧ Q (.str d.shown) H1) (hgl : Gl X "repr" := by rfl) (hs : starEach [a] X.env = [(false, eval a X.env)] := by rfl) :
    wE X (.Call (.Name "repr" p) [a] [] pos) σ H Q :=
  e_repr B hg hu (wE_mono h fun v H1 ⟨l, d, h1, h2, q⟩ => ⟨l, d, h1, (rp_len h2).1, (rp_len h2).2.1, (rp_len h2).2.2, q⟩) hgl hs
theorem vals_rev : ∀ {vs : List V} {us : List Value}, Vals vs us → Vals vs.reverse us.reverse
  | _, _, .nil => .nil
  | _, _, .cons r h => by
    rw [List.reverse_cons, List.reverse_cons]
    exact (vals_rev h).append (.cons r .nil)
end
end Z

set_option Elab.async false
set_option linter.all false
set_option maxRecDepth 100000
set_option maxHeartbeats 4000000
/-! literals of data; what stays across the making of lambdas -/
namespace Z
open PySem PySem.Spec PyProof.Rows L2 LamX
section
variable {X : Cx} {σ : L2.St} {l : List Addr} {H : Hp} {e a b : Expr} {es : List Expr}
theorem wA_mono {Q Q' : List V → Hp → Prop} (h : wA X es σ H Q) (k : ∀ v H', Q v H' → Q' v H') : wA X es σ H Q' := ⟨fun pos pins s I => thn (h.run pos pins s I) fun _ _ ⟨v, H', I', r, q⟩ => ⟨v, H', I', r, k v H' q⟩⟩
theorem DDs.mem {K : PySem.W.Frag} : ∀ {vs : List V} {ds : List PyData} {v : V}, DDs K l H vs ds → v ∈ vs → ∃ d ∈ ds, DD K l H v d
  | _, _, _, .nil, h => by simp at h
  | _, _, _, .cons h r, e => by
    rcases List.mem_cons.mp e with e | e
    · subst e
      exact ⟨_, by simp, h⟩
    · obtain ⟨d, hd, h'⟩ := DDs.mem r e
      exact ⟨d, by simp [hd], h'⟩
section
variable {K : PySem.W.Frag}
/-- e is told as the datum d, whatever is added to the heap; nothing of it lies at l -/
def Lit (K : PySem.W.Frag) (X : Cx) (l : List Addr) (σ : L2.St) (H : Hp) (e : Expr) (d : PyData) : Prop := ∀ H1, But [] H H1 → wE X e σ H1 fun v H2 => But [] H1 H2 ∧ DD K l H2 v d
def Lits (K : PySem.W.Frag) (X : Cx) (l : List Addr) (σ : L2.St) (H : Hp) (es : List Expr) (ds : List PyData) : Prop := ∀ H1, But [] H H1 → wA X es σ H1 fun vs H2 => But [] H1 H2 ∧ DDs K l H2 vs ds
/-- what stands at l is there -/
def Here (l : List Addr) (H : Hp) : Prop := ∀ q ∈ l, ∃ o, H q = some o
theorem Here.new {p : Addr} {H1 : Hp} (h : Here l H) (b : But [] H H1) (n : H1 p = none) : p ∉ l := fun z => by
  obtain ⟨o, e⟩ := h p z
  rw [b _ _ (by simp) e] at n
  cases n
theorem lit_none {j} {pos : Pos} : Lit K X l σ H (.Constant .none j pos) .none := fun _ _ => e_none ⟨But.refl, .non⟩
theorem lit_int {i : Int} {j} {pos : Pos} : Lit K X l σ H (.Constant (.int i) j pos) (.int i) := fun _ _ => e_int ⟨But.refl, .int i⟩
theorem lit_str {x : Str} {j} {pos : Pos} : Lit K X l σ H (.Constant (.str x) j pos) (.str x) := fun _ _ => e_str ⟨But.refl, .str x⟩
theorem lit_bool {b : Bool} {j} {pos : Pos} : Lit K X l σ H (.Constant (.bool b) j pos) (.bool b) := fun _ _ => e_bool ⟨But.refl, .bl b⟩
theorem lit_neg {i : Int} {j} {pos p2 : Pos} : Lit K X l σ H (.UnaryOp .USub (.Constant (.int i) j pos) p2) (.int (-i)) := fun _ _ => e_un (e_int (u_neg ⟨But.refl, .int _⟩))
theorem lit_pow {i k : Int} {j j'} {pos p2 p3 : Pos} (h : CPow i k) : Lit K X l σ H (.BinOp (.Constant (.int i) j pos) .Pow (.Constant (.int k) j' p2) p3) (.int (i ^ k.toNat)) := fun _ _ => e_bin (e_int (e_int (o_pow h ⟨But.refl, .int _⟩)))
theorem lits_nil : Lits K X l σ H [] [] := fun _ _ => a_nil ⟨But.refl, .nil⟩
theorem lits_cons {d : PyData} {ds : List PyData} (h : Lit K X l σ H e d) (r : Lits K X l σ H es ds) (hs : starEach (e :: es) X.env = (false, eval e X.env) :: starEach es X.env := by rfl) : Lits K X l σ H (e :: es) (d :: ds) := fun H1 b1 =>
  a_cons (wE_mono (h H1 b1) fun v H2 ⟨b2, h2⟩ => wA_mono (r H2 (b1.trans b2)) fun vs H3 ⟨b3, h3⟩ => ⟨b2.trans b3, .cons (h2.but b3.of) h3⟩) hs
theorem lit_lst {ds : List PyData} {pos : Pos} (hl : Here l H) (r : Lits K X l σ H es ds) (hn : ds.length ≤ 16777216 := by decide) : Lit K X l σ H (.List es pos) (.list ds) := fun H1 b1 =>
  e_lst (wA_mono (r H1 b1) fun vs H2 ⟨b2, h2⟩ => ⟨by rw [h2.length, sizeLine_eq]; exact hn, fun p hp => ⟨b2.trans (But.new hp), .lst (.inl (.inl upd_same)) (hl.new (b1.trans b2) hp) (h2.but (But.new hp))⟩⟩)
theorem lit_tup {ds : List PyData} {x1} {pos : Pos} (hl : Here l H) (r : Lits K X l σ H es ds) (hn : ds.length ≤ 16777216 := by decide) : Lit K X l σ H (.Tuple es x1 pos) (.tuple ds) := fun H1 b1 =>
  e_tup (wA_mono (r H1 b1) fun vs H2 ⟨b2, h2⟩ => ⟨by rw [h2.length, sizeLine_eq]; exact hn, fun p hp => ⟨b2.trans (But.new hp), .tup (.inl (.inl upd_same)) (hl.new (b1.trans b2) hp) (h2.but (But.new hp))⟩⟩)
theorem lit_dict0 {pos : Pos} (hl : Here l H) : Lit K X l σ H (.Dict [] [] pos) (.dict []) := fun H1 b1 =>
  eE pe_dnewK fun p hp => ⟨But.new hp, DD.dct (kvs := []) (ds := []) upd_same (hl.new b1 hp) .nil⟩
/-- a list of literals, as a list of values -/
theorem e_lits {ds : List PyData} {pos : Pos} {Q : VK} (hl : Here l H) (r : Lits K X l σ H es ds) (h : ∀ q vs H1, But [] H H1 → H1 q = some (.lst vs) → q ∉ l → DDs K l H1 vs ds → Q (.ref q) H1) (hn : ds.length ≤ 16777216 := by decide) : wE X (.List es pos) σ H Q :=
  e_lst (wA_mono (r H But.refl) fun vs H2 ⟨b2, h2⟩ => ⟨by rw [h2.length, sizeLine_eq]; exact hn, fun p hp => h p vs _ (b2.trans (But.new hp)) upd_same (hl.new b2 hp) (h2.but (But.new hp))⟩)
end
/-! data that is wholly tracked -/
theorem sql_all {K : PySem.W.Frag} {a : Addr} {xs : List V} (h : SqL [] H a xs) : SqL K H a xs := by
  rcases h with h | ⟨o, _, _, h, _⟩
  · exact .inl h
  · cases h
theorem sqt_all {K : PySem.W.Frag} {a : Addr} {xs : List V} (h : SqT [] H a xs) : SqT K H a xs := by
  rcases h with h | ⟨o, _, _, h, _⟩
  · exact .inl h
  · cases h
mutual
theorem DD.all {K : PySem.W.Frag} : ∀ {v : V} {d : PyData}, DD [] l H v d → DD K l H v d
  | _, _, .non => .non
  | _, _, .bl x => .bl x
  | _, _, .int x => .int x
  | _, _, .str x => .str x
  | _, _, .lst h n r => .lst (sql_all h) n (DDs.all r)
  | _, _, .tup h n r => .tup (sqt_all h) n (DDs.all r)
  | _, _, .dct h n r => .dct h n (DDs.all r)
theorem DDs.all {K : PySem.W.Frag} : ∀ {vs : List V} {ds : List PyData}, DDs [] l H vs ds → DDs K l H vs ds
  | _, _, .nil => .nil
  | _, _, .cons h r => .cons (DD.all h) (DDs.all r)
end
theorem sql_there {a : Addr} {xs : List V} (h : SqL [] H a xs) : ∃ o, H a = some o := by
  rcases h with (h | ⟨o, h⟩) | ⟨o, _, _, h, _⟩
  · exact ⟨_, h⟩
  · exact ⟨_, h⟩
  · cases h
theorem sqt_there {a : Addr} {xs : List V} (h : SqT [] H a xs) : ∃ o, H a = some o := by
  rcases h with (h | ⟨o, h⟩) | ⟨o, _, _, h, _⟩
  · exact ⟨_, h⟩
  · exact ⟨_, h⟩
  · cases h
theorem not_new {a t : Addr} (h : ∃ o, H a = some o) (n : a ∉ l) (ht : H t = none) : a ∉ t :: l := fun z => by
  rcases List.mem_cons.mp z with e | e
  · obtain ⟨o, h⟩ := h
    rw [e, ht] at h
    cases h
  · exact n e
mutual
theorem DD.add {t : Addr} (ht : H t = none) : ∀ {v : V} {d : PyData}, DD [] l H v d → DD [] (t :: l) H v d
  | _, _, .non => .non
  | _, _, .bl x => .bl x
  | _, _, .int x => .int x
  | _, _, .str x => .str x
  | _, _, .lst h n r => .lst h (not_new (sql_there h) n ht) (DDs.add ht r)
  | _, _, .tup h n r => .tup h (not_new (sqt_there h) n ht) (DDs.add ht r)
  | _, _, .dct h n r => .dct h (not_new ⟨_, h⟩ n ht) (DDs.add ht r)
theorem DDs.add {t : Addr} (ht : H t = none) : ∀ {vs : List V} {ds : List PyData}, DDs [] l H vs ds → DDs [] (t :: l) H vs ds
  | _, _, .nil => .nil
  | _, _, .cons h r => .cons (DD.add ht h) (DDs.add ht r)
end
end
/-! ### the weak keeping: tables may grow -/
def Ex (l : List Addr) (H H' : Hp) : Prop := ∀ q o, q ∉ l → H q = some o → (∀ ps, o ≠ .tbl ps) → H' q = some o
section
variable {l m : List Addr} {H H1 H2 : Hp}
theorem But.ex (b : But l H H1) : Ex l H H1 := fun q o n e _ => b q o n e
theorem ex_of (b : ExtN H H1) : Ex l H H1 := fun q o _ e n => b q o e n
theorem Ex.refl : Ex l H H := fun _ _ _ h _ => h
theorem Ex.trans (a : Ex l H H1) (b : Ex l H1 H2) : Ex l H H2 := fun q o n e t => b q o n (a q o n e t) t
theorem Ex.mono (a : Ex l H H1) (h : ∀ q ∈ l, q ∈ m) : Ex m H H1 := fun q o n e t => a q o (fun z => n (h q z)) e t
theorem Ex.lst (b : Ex l H H1) {q : Addr} {xs : List V} (n : q ∉ l) (h : H q = some (.lst xs)) : H1 q = some (.lst xs) := b _ _ n h fun ps z => by cases z
theorem Ex.sql {K : PySem.W.Frag} {a : Addr} {xs : List V} (b : Ex l H H1) (n : a ∉ l) (h : SqL K H a xs) : SqL K H1 a xs := by
  rcases h with (h | ⟨o, h⟩) | h
  · exact .inl (.inl (b _ _ n h fun ps z => by cases z))
  · exact .inl (.inr ⟨o, b _ _ n h fun ps z => by cases z⟩)
  · exact .inr h
theorem Ex.sqt {K : PySem.W.Frag} {a : Addr} {xs : List V} (b : Ex l H H1) (n : a ∉ l) (h : SqT K H a xs) : SqT K H1 a xs := by
  rcases h with (h | ⟨o, h⟩) | h
  · exact .inl (.inl (b _ _ n h fun ps z => by cases z))
  · exact .inl (.inr ⟨o, b _ _ n h fun ps z => by cases z⟩)
  · exact .inr h
mutual
theorem DD.ex {K : PySem.W.Frag} (b : Ex l H H1) : ∀ {v : V} {d : PyData}, DD K l H v d → DD K l H1 v d
  | _, _, .non => .non
  | _, _, .bl x => .bl x
  | _, _, .int x => .int x
  | _, _, .str x => .str x
  | _, _, .lst h n r => .lst (b.sql n h) n (DDs.ex b r)
  | _, _, .tup h n r => .tup (b.sqt n h) n (DDs.ex b r)
  | _, _, .dct h n r => .dct (b _ _ n h fun ps z => by cases z) n (DDs.ex b r)
theorem DDs.ex {K : PySem.W.Frag} (b : Ex l H H1) : ∀ {vs : List V} {ds : List PyData}, DDs K l H vs ds → DDs K l H1 vs ds
  | _, _, .nil => .nil
  | _, _, .cons h r => .cons (DD.ex b h) (DDs.ex b r)
end
/-- tables stand where only lists at l change -/
theorem tabs_but {T : List (Addr × Str)} (t : Tabs T H) (b : But l H H1) (hl : ∀ q ∈ l, ∃ xs, H q = some (.lst xs)) : Tabs T H1 := fun p hp => by
  obtain ⟨ps, h1, h2, h3⟩ := t p hp
  have n1 : p.1 ∉ l := fun z => by
    obtain ⟨xs, e⟩ := hl _ z
    rw [h1] at e
    cases e
  refine ⟨ps, b _ _ n1 h1, h2, fun pos cv hc => ?_⟩
  obtain ⟨c, e1, e2⟩ := h3 pos cv hc
  refine ⟨c, e1, b _ _ (fun z => ?_) e2⟩
  obtain ⟨xs, e⟩ := hl _ z
  rw [e2] at e
  unfold CodeO at e
  cases e
theorem tabs_new {T : List (Addr × Str)} (t : Tabs T H) (b : But [] H H1) : Tabs T H1 := tabs_but t b (by simp)
end
/-! ### texts in repr -/
theorem reprChar_ok : ∀ c, c < 128 → ((Builtin.Str.reprChar 34 c).all (fun d => decide (d < 1114112)) && (Builtin.Str.reprChar 39 c).all fun d => decide (d < 1114112)) = true := by decide +kernel
theorem repr_fold {q : Nat} (hq : q = 34 ∨ q = 39) : ∀ (l : List Nat) (acc : Array Nat), (∀ c ∈ l, c < 128) → (∀ c ∈ acc.toList, c < 1114112) → ∀ c ∈ (l.foldl (fun out c => out ++ (Builtin.Str.reprChar q c).toArray) acc).toList, c < 1114112
  | [], acc, _, h => h
  | a :: r, acc, h1, h2 => by
    rw [List.foldl_cons]
    refine repr_fold hq r _ (fun c hc => h1 c (by simp [hc])) fun c hc => ?_
    rw [Array.toList_append, List.mem_append] at hc
    rcases hc with hc | hc
    · exact h2 c hc
    · have h3 := reprChar_ok a (h1 a (by simp))
      simp only [Bool.and_eq_true, List.all_eq_true, decide_eq_true_eq] at h3
      rcases hq with rfl | rfl
      · exact h3.1 c (by simpa using hc)
      · exact h3.2 c (by simpa using hc)
theorem strOk_repr {x : Str} (h : ∀ c ∈ x.cps.toList, c < 128) : PyData.strOk (PyData.str x).shown = true := by
  rw [PyData.shown_str]
  have hq : PySem.reprQuote x = 34 ∨ PySem.reprQuote x = 39 := by
    unfold PySem.reprQuote
    split <;> simp
  have hq2 : PySem.reprQuote x < 1114112 := by rcases hq with e | e <;> omega
  have := repr_fold hq x.cps.toList #[PySem.reprQuote x] h (by simp [hq2])
  unfold PyData.strOk PySem.reprText
  rw [Array.all_eq_true']
  intro c hc
  rw [← Array.foldl_toList] at hc
  simp only [Array.mem_push] at hc
  rcases hc with hc | hc
  · have := this c (Array.mem_toList_iff.mpr hc)
    simpa using this
  · simp [hc, hq2]
end Z

set_option Elab.async false
set_option linter.all false
set_option maxRecDepth 100000
set_option maxHeartbeats 4000000
/-! what the head's facts give -/
namespace Z
open PySem PySem.Spec PyProof.Rows L2
theorem base_call {b txt : Str} {p1 p2 p3 p4 p5 : Pos} {j} (env : Env) (hl : (p2.endLine == p5.line) = true) : eval (.Call (.Attribute (.Name b p1) "__init__" p2) [.Name "self" p3, .Constant (.str txt) j p4] [] p5) env = (do
      let ov ← eval (.Name b p1) env
      standAt p2.atName
      let (f, first) ← holding [ov] (getMethod ov "__init__" (plainOf (.Name b p1) env))
      callWith p5 f first (backTo p5 (starEach [.Name "self" p3, .Constant (.str txt) j p4] env)) (backToKw p5 (keywordEach [] env))) := by
  show (do let ov ← attributeBase (.Name b p1) "__init__" env (eval (.Name b p1) env); standAt p2.atName; methodCall (.Name b p1) "__init__" p2 p5 env ov 2 (backTo p5 (starEach [.Name "self" p3, .Constant (.str txt) j p4] env)) (backToKw p5 (keywordEach [] env))) = _
  have e : attributeBase (.Name b p1) "__init__" env (eval (.Name b p1) env) = eval (.Name b p1) env := rfl
  rw [e]
  congr 1
  funext ov
  congr 1
  funext _
  exact mcall_line rfl hl
/-- the first def of a class text -/
def clsDef (s : Stmt) : Stmt := match s with
  | .ClassDef _ _ _ (b :: _) _ _ _ _ _ _ _ => b
  | s => s
section
variable {P : Program} {w : World} {K : PySem.W.Frag} {mg : Str → Option Value} {base : Heap} {h : Heap}
theorem at_mk {x : Str} {st : Stmt} {f : Addr} {oc kV doc pm cd ct : Value} {od an : Option Addr} {sl : Array (Option Value)} (X : K.In h) (G : h.Ns mainGlobals mg) (a : PySem.W.nsIn K mainGlobals x = some (some (.ref f)))
    (l : K.lookup f = some ⟨oc, od, .func (PySem.W.fnOf x x (defArgs st) (defBody st) (defScope st) .none kV doc pm an cd ct), sl⟩) (c : PySem.W.codeIn K cd x = true) (k : PySem.W.keepIn K (.ref f) = true) : At K mg x st :=
  ⟨f, _, PySem.W.mg_of X G a, fun_mk l c k⟩
theorem atc_mk {x : Str} {st : Stmt} {f cd : Addr} {oc kV doc pm ct : Value} {od an : Option Addr} {sl : Array (Option Value)} (X : K.In h) (G : h.Ns mainGlobals mg) (a : PySem.W.nsIn K mainGlobals x = some (some (.ref f)))
    (l : K.lookup f = some ⟨oc, od, .func (PySem.W.fnOf x x (defArgs st) (defBody st) (defScope st) .none kV doc pm an (.ref cd) ct), sl⟩) (c : PySem.W.codeIn K (.ref cd) x = true) (k : PySem.W.keepIn K (.ref f) = true) : AtC K mg x st cd :=
  ⟨f, oc, kV, doc, pm, ct, od, an, sl, PySem.W.mg_of X G a, k, l, c⟩
theorem base_mk {b : Str} {CB : Addr} (X : K.In h) (G : h.Ns mainGlobals mg) (a : PySem.W.nsIn K mainGlobals b = some (some (.ref CB))) (r : PySem.W.readsIn K CB (.type "type") = true)
    (s : PySem.W.specialIn K (.ref CB) "__getattribute__" = some (some (.builtin "type.__getattribute__"))) (f : PySem.W.findCls K (.ref CB) (.type "type") "__init__" = some (.val (.builtin "ValueError.__init__"))) : Base0 K mg b :=
  ⟨CB, PySem.W.mg_of X G a, r, s, f⟩
theorem oex_mk {C : Addr} {nm q : Str} {N : Addr} {bs bm : List Value} {sn : List Str} {sub : List Value} {ab : Bool} {col : Option Bool} {dd : Option Addr} {m0 m1 m2 m3 m5 : Option Value}
    (xL : K.lookup C = some (excClassObj nm q C N bs bm true sn sub ab col dd m0 m1 m2 m3 m5 "ValueError.__new__")) (hbm : PySem.HandSPX.refsVE bm = true) (sa : PySem.W.findIn K (.ref C) "__setattr__" = some (some (.builtin "object.__setattr__")))
    (eC : PySem.W.subIn K (.ref C) (.type "BaseException") = some true) (tC : PySem.W.typeIn K (.ref C) = some (.type "type")) (kC : PySem.W.keepIn K (.ref C) = true) : OexC K C :=
  ⟨⟨nm, q, N, bs, bm, sn, sub, ab, col, dd, m0, m1, m2, m3, m5, xL, hbm⟩, sa, eC, tC, kC⟩
theorem err_mk {x b f q txt : Str} {st : Stmt} {C fI : Addr} {oc kV doc pm cdv ct : Value} {od an : Option Addr} {osl : Array (Option Value)} {p1 p2 p3 p4 p5 p6 p7 p8 p9 p10 : Pos} {j} (B : Base0 K mg b) (gC : mg x = some (.ref C)) (O : OexC K C) (XF : XfC K C)
    (no : PySem.W.findIn K (.ref C) f = some none) (i1 : PySem.W.findIn K (.ref C) "__init__" = some (some (.ref fI))) (tI : PySem.W.typeIn K (.ref fI) = some (.type "function"))
    (lk : K.lookup fI = some ⟨oc, od, .func (PySem.W.fnOf "__init__" q (defArgs st) (defBody st) (defScope st) .none kV doc pm an cdv ct), osl⟩) (hcd : PySem.W.codeIn K cdv q = true)
    (S : FnScope ["self", f] ["self", f] (defScope st))
    (hb : defBody st = [.Expr (.Call (.Attribute (.Name b p1) "__init__" p2) [.Name "self" p3, .Constant (.str txt) j p4] [] p5) p6, .Assign [.Attribute (.Name "self" p7) f p8] (.Name f p9) p10])
    (hs : (defScope st).names.lookup ("self" : Str) = some .local) (hf : (defScope st).names.lookup f = some .local) (hg : (defScope st).names.lookup b = some .globalImplicit) (hl : (p2.endLine == p5.line) = true)
    (hdb : (b == ("__debug__" : Str)) = false) (hdf : (f == ("__debug__" : Str)) = false) (hdf2 : (f == ("__classdict__" : Str)) = false)
    (hbind : ∀ (kV doc pm : Value) (an : Option Addr) (cdv ct : Value) (us : List Value), us.length = (["self", f] : List Str).length → bindArgs (PySem.W.fnOf "__init__" q (defArgs st) (defBody st) (defScope st) .none kV doc pm an cdv ct) ⟨us, []⟩ = pure ((["self", f] : List Str).zip us)) : ErrOk P w K mg base x f C :=
  ⟨gC, O, no, XF, fI, _, i1, tI, init1_ok B lk hcd S hb hs hf hg hdb hdf hdf2 (fun env _ => ⟨_, base_call env hl⟩) (fun _ _ => rfl) (fun _ _ => rfl), Binds.all fun us hl => hbind kV doc pm an cdv ct us hl⟩
theorem init_mk {C fI : Addr} {q : Str} {st : Stmt} {oc kV doc pm cdv ct : Value} {od an : Option Addr} {osl : Array (Option Value)} (i1 : PySem.W.findIn K (.ref C) "__init__" = some (some (.ref fI))) (i2 : PySem.W.typeIn K (.ref fI) = some (.type "function"))
    (i3 : K.lookup fI = some ⟨oc, od, .func (PySem.W.fnOf "__init__" q (defArgs st) (defBody st) (defScope st) .none kV doc pm an cdv ct), osl⟩) (i4 : PySem.W.codeIn K cdv q = true) :
    ∃ fI oc od kV doc pm an cdv ct osl, PySem.W.findIn K (.ref C) "__init__" = some (some (.ref fI)) ∧ PySem.W.typeIn K (.ref fI) = some (.type "function") ∧ K.lookup fI = some ⟨oc, od, .func (PySem.W.fnOf "__init__" q (defArgs st) (defBody st) (defScope st) .none kV doc pm an cdv ct), osl⟩ ∧ PySem.W.codeIn K cdv q = true :=
  ⟨fI, oc, od, kV, doc, pm, an, cdv, ct, osl, i1, i2, i3, i4⟩
theorem kit_ref {A C : Addr} (h1 : PySem.W.subIn K (.ref A) (.ref C) = some true) (h2 : PySem.W.hasDictIn K C = true) (h3 : PySem.W.typeIn K (.ref C) = some (.type "type")) : PySem.W.kitOne K (.ref A) (.ref C) = some true := by
  obtain ⟨cd, hc, _⟩ := PySem.W.any_some h2
  unfold PySem.W.kitOne PySem.W.kitCls
  split
  · rfl
  · simp [hc, h3, h1]
theorem kit_type {A : Addr} {T : String} (h1 : PySem.W.subIn K (.ref A) (.type T) = some true) (h2 : PySem.W.kitMeta T = true) : PySem.W.kitOne K (.ref A) (.type T) = some true := by
  unfold PySem.W.kitOne PySem.W.kitCls
  split
  · rfl
  · simp [h2, h1]
theorem excC_of {C : Addr} (F : XfC K C) (ha : PySem.W.findIn K (.ref C) "__class__" = some (some (.builtin "object.__class__"))) (hn : PySem.W.specialIn K (.builtin "object.__class__") "__get__" = some (some (.builtin "getset_descriptor.__get__")))
    (ht : PySem.W.takesIn K (.builtin "object.__class__") = some true) (hm : PySem.W.mroIn K C (.type "object") = some true) : ExcC K C := ⟨F.ga, F.gg, F.exC, F.hdC, ha, hn, ht, hm⟩
/-- a constant of the text -/
theorem const_mk {x : Str} {v : V} {u : Value} (X : K.In h) (G : h.Ns mainGlobals mg) (a : PySem.W.nsIn K mainGlobals x = some (some u)) (r : RelV v u) : ∃ u, mg x = some u ∧ RelV v u := ⟨u, PySem.W.mg_of X G a, r⟩
/-- no def hides the built-in names -/
structure BltN (mg : Str → Option Value) : Prop where
  len : mg "len" = none
  range : mg "range" = none
  min : mg "min" = none
  max : mg "max" = none
  abs : mg "abs" = none
  int : mg "int" = none
  str : mg "str" = none
  bool : mg "bool" = none
  list : mg "list" = none
  tuple : mg "tuple" = none
  dict : mg "dict" = none
  isinstance : mg "isinstance" = none
  all : mg "all" = none
  any : mg "any" = none
  sum : mg "sum" = none
  zip : mg "zip" = none
  repr : mg "repr" = none
  divmod : mg "divmod" = none
  sorted : mg "sorted" = none
  enumerate : mg "enumerate" = none
  reversed : mg "reversed" = none
  valueError : mg "ValueError" = none
theorem BltN.at (B : BltN mg) (S : SysAt base) : Blt mg base := ⟨S, B.len, B.range, B.min, B.max, B.abs, B.int, B.str, B.bool, B.list, B.tuple, B.dict, B.isinstance, B.all, B.any, B.sum, B.zip, B.repr, B.divmod, B.sorted, B.enumerate, B.reversed, B.valueError⟩
theorem bltn_mk (X : K.In h) (G : h.Ns mainGlobals mg) (a1 : PySem.W.nsIn K mainGlobals "len" = some none) (a2 : PySem.W.nsIn K mainGlobals "range" = some none) (a3 : PySem.W.nsIn K mainGlobals "min" = some none) (a4 : PySem.W.nsIn K mainGlobals "max" = some none)
    (a5 : PySem.W.nsIn K mainGlobals "abs" = some none) (a6 : PySem.W.nsIn K mainGlobals "int" = some none) (a7 : PySem.W.nsIn K mainGlobals "str" = some none) (a8 : PySem.W.nsIn K mainGlobals "bool" = some none) (a9 : PySem.W.nsIn K mainGlobals "list" = some none)
    (a10 : PySem.W.nsIn K mainGlobals "tuple" = some none) (a11 : PySem.W.nsIn K mainGlobals "dict" = some none) (a12 : PySem.W.nsIn K mainGlobals "isinstance" = some none) (a13 : PySem.W.nsIn K mainGlobals "all" = some none) (a14 : PySem.W.nsIn K mainGlobals "any" = some none)
    (a15 : PySem.W.nsIn K mainGlobals "sum" = some none) (a16 : PySem.W.nsIn K mainGlobals "zip" = some none) (a17 : PySem.W.nsIn K mainGlobals "repr" = some none) (a18 : PySem.W.nsIn K mainGlobals "divmod" = some none) (a19 : PySem.W.nsIn K mainGlobals "sorted" = some none)
    (a20 : PySem.W.nsIn K mainGlobals "enumerate" = some none) (a21 : PySem.W.nsIn K mainGlobals "reversed" = some none) (a22 : PySem.W.nsIn K mainGlobals "ValueError" = some none) : BltN mg :=
  ⟨PySem.W.ns_none_of X G a1, PySem.W.ns_none_of X G a2, PySem.W.ns_none_of X G a3, PySem.W.ns_none_of X G a4, PySem.W.ns_none_of X G a5, PySem.W.ns_none_of X G a6, PySem.W.ns_none_of X G a7, PySem.W.ns_none_of X G a8, PySem.W.ns_none_of X G a9, PySem.W.ns_none_of X G a10,
   PySem.W.ns_none_of X G a11, PySem.W.ns_none_of X G a12, PySem.W.ns_none_of X G a13, PySem.W.ns_none_of X G a14, PySem.W.ns_none_of X G a15, PySem.W.ns_none_of X G a16, PySem.W.ns_none_of X G a17, PySem.W.ns_none_of X G a18, PySem.W.ns_none_of X G a19, PySem.W.ns_none_of X G a20,
   PySem.W.ns_none_of X G a21, PySem.W.ns_none_of X G a22⟩
end
end Z

set_option Elab.async false
set_option linter.all false
set_option maxRecDepth 100000
set_option maxHeartbeats 4000000
namespace K70
open PySem PySem.Spec PyProof.Rows L2 Z
def top (i : Nat) : Stmt := PySem.Challenge.pw_frontlines_k70_pieces_told_and_refused.main.body.getD i (.Pass ⟨0, 0, 0, 0⟩)
/-! ### plain -/
def known : Str := "abcdefghijklmnopqrstuvwxyz0123456789.-=>|"
def isInteger (d : PyData) : Bool := isInt d && !isBool d
def ascends : List Nat → Bool
  | a :: b :: r => decide (a < b) && ascends (b :: r)
  | _ => true
def strSigns (x : Str) : Bool := decide (2 ≤ x.length) && decide (x.length ≤ 4) && x.cps.toList.all (fun c => decide (c ∈ known.cps.toList)) && ascends x.cps.toList
def lenOk : PyData → Bool
  | .str x => decide (2 ≤ x.length) && decide (x.length ≤ 4)
  | _ => false
def areSigns : PyData → Bool
  | .str x => strSigns x
  | _ => false
/-- the constants of the text -/
structure Consts (mg : Str → Option Value) : Prop where
  known : ∃ u, mg "KNOWN_SIGNS" = some u ∧ RelV (.str known) u
  least : ∃ u, mg "LEAST_SIGNS" = some u ∧ RelV (.int 2) u
  most : ∃ u, mg "MOST_SIGNS" = some u ∧ RelV (.int 4) u
  width : ∃ u, mg "MOST_WIDTH" = some u ∧ RelV (.int 4) u
section
variable {P : Program} {w : World} {K : PySem.W.Frag} {mg : Str → Option Value} {base : Heap}
theorem known_ascii : ∀ c, c ∈ known.cps.toList → c < 128 := by decide +kernel
theorem zip_ascends : ∀ l : List Nat, ((l.zip (l.drop 1)).map fun q => decide (q.1 < q.2)).all id = ascends l
  | [] => rfl
  | [_] => rfl
  | a :: b :: r => by
    have ih := zip_ascends (b :: r)
    simp only [List.drop_succ_cons, List.drop_zero, List.zip_cons_cons, List.map_cons, List.all_cons, id_eq, ascends] at ih ⊢
    rw [← ih]
theorem lt_one {a b : Nat} : decide ((⟨#[a]⟩ : Str).cps.toList < (⟨#[b]⟩ : Str).cps.toList) = decide (a < b) := by
  rw [decide_eq_decide]
  show [a] < [b] ↔ a < b
  simp [List.cons_lt_cons_iff]
/-- one datum in, a bool out, nothing changed -/
def fits : PyData → Prop
  | .str x => x.length ≤ sizeLine
  | _ => True
def sp1 (K : PySem.W.Frag) (f : PyData → Bool) : Sp := fun vs H Q _ => ∃ v l d, vs = [v] ∧ DD K l H v d ∧ fits d ∧ ∀ H', But [] H H' → Q (.bl (f d)) H'
theorem sp1_len {f : PyData → Bool} : ∀ vs H Q E, sp1 K f vs H Q E → vs.length = (["value"] : List Str).length := fun vs H Q E ⟨v, l, d, e, _⟩ => by rw [e]; rfl
theorem sc9 : FnScope ["value"] ["value"] (defScope (top 9)) := ⟨rfl, rfl, rfl, by decide +kernel, rfl, by decide +kernel, by decide +kernel⟩
theorem d_isInteger (B : Blt mg base) (D : At K mg "is_integer" (top 9)) : Def P w K mg base 1 "is_integer" (top 9) ["value"] (sp1 K isInteger) := by
  refine def_of D B sc9 sp1_len fun f cdv A outer s H vs Q E hm C h => ?_
  obtain ⟨v, l, d, rfl, hd, hf, q⟩ := h
  refine b_cons (s_ret (e_and (e_isi B kit_int B.int PyProof.Rows.boot_int (e_name 0 ⟨l, d, hd, isInt d, rfl, ?_⟩))))
  split
  · refine e_one (e_not (e_isi B kit_bool B.bool PyProof.Rows.boot_bool (e_name 0 ⟨l, d, hd, isBool d, rfl, ?_⟩)))
    have := q H But.refl
    simpa [isInteger, *] using this
  · have := q H But.refl
    simpa [isInteger, *] using this
theorem sc10 : FnScope ["value", "sign", "one", "other"] ["value"] (defScope (top 10)) := ⟨rfl, rfl, rfl, by decide +kernel, rfl, by decide +kernel, by decide +kernel⟩
theorem d_areSigns (B : Blt mg base) (D : At K mg "are_signs" (top 10)) (T : Consts mg) : Def P w K mg base 1 "are_signs" (top 10) ["value"] (sp1 K areSigns) := by
  refine def_of D B sc10 sp1_len fun f cdv A outer s H vs Q E hm C h => ?_
  obtain ⟨v, l, d, rfl, hd, hf, q⟩ := h
  obtain ⟨uK, hK, rK⟩ := T.known
  obtain ⟨u2, h2, r2⟩ := T.least
  obtain ⟨u4, h4, r4⟩ := T.most
  have rd : ∀ {H1}, But [] H H1 → DD K l H1 v d := fun b => hd.but (b.mono (by simp))
  refine b_cons (s_ifB (!lenOk d) ?_ (fun e H1 b1 => ?_) (fun e H1 b1 => ?_))
  · refine t_boolop (w_or (t_not (t_val (e_isi B kit_str B.str PyProof.Rows.boot_str (e_name 0 ⟨l, d, hd, isStr d, rfl, ?_⟩)))))
    refine ite_b (fun e => ⟨?_, But.refl⟩) fun e => ?_
    · cases d <;> simp_all [isStr, lenOk]
    · obtain ⟨x, rfl⟩ : ∃ x, d = .str x := by cases d <;> simp [isStr] at e; exact ⟨_, rfl⟩
      cases hd
      refine w_or1 (t_not (t_chain (e_glob (e_len B (e_name 0 ?_)) h2 r2)))
      refine ⟨x.length, ⟨hf, rfl⟩, c_le ⟨_, rfl, ite_b (fun e => e_glob (c_le ⟨_, rfl, ?_, But.refl⟩) h4 r4) fun e => ⟨_, rfl, ?_, But.refl⟩⟩⟩
      · have e := of_decide_eq_true e
        rw [lenOk, show decide (2 ≤ x.length) = true from decide_eq_true (by omega), Bool.true_and, Bool.not_eq_eq_eq_not, Bool.not_not, decide_eq_decide]
        omega
      · have e := of_decide_eq_false e
        rw [lenOk, show decide (2 ≤ x.length) = false from decide_eq_false (by omega)]
        rfl
  · refine b_cons (s_ret (e_bool ?_))
    have := q H1 b1
    have no : areSigns d = false := by cases d <;> simp_all [areSigns, strSigns, lenOk]; omega
    rwa [no] at this
  · obtain ⟨x, rfl⟩ : ∃ x, d = .str x := by cases d <;> simp [lenOk] at e; exact ⟨_, rfl⟩
    cases hd
    have hx : x.length ≤ sizeLine := hf
    have hsz : x.cps.size = x.length := rfl
    refine b_nil (b_cons (s_ifB (!(x.cps.toList.all fun c => decide (c ∈ known.cps.toList))) ?_ (fun e2 H2 b2 => ?_) (fun e2 H2 b2 => ?_)))
    · refine t_not (t_val (e_all C (e_lcM [("sign", 1)] C (i_str (e_name 0 ?_)))))
      refine ⟨x, rfl, _, _, _, (x.cps.toList.map fun c => V.bl (decide (c ∈ known.cps.toList))), walk_str, by simp, hx, fun _ _ => trivial, fun i y H2 H' hi b2 hy => ?_, fun Da H' b2 hn hl => ⟨Da, x.cps.toList.map fun c => decide (c ∈ known.cps.toList), rfl, .inl (.inl (by rw [hl, List.map_map]; rfl)), _, rfl, ?_, b2⟩⟩
      · obtain ⟨rfl, c, hc, rfl⟩ := hy
        refine ⟨But.refl, mt_name (i := 1) C.nd fun s H0 Ca cl fp => e_cmp (e_name 1 (e_glob (c_inSign ⟨?_, But.refl⟩) hK rK))⟩
        simp [← Array.getElem?_toList] at hc
        simp [hc]
      · simp [Function.comp_def]
    · refine b_cons (s_ret (e_bool ?_))
      have := q H2 (b1.trans b2)
      have no : areSigns (.str x) = false := by simp only [areSigns, strSigns]; simp only [Bool.not_eq_true'] at e2; rw [e2]; simp
      rwa [no] at this
    · have hall : (x.cps.toList.all fun c => decide (c ∈ known.cps.toList)) = true := by simpa using e2
      have asc : ∀ z : Str, (∀ c ∈ z.cps.toList, c ∈ x.cps.toList) → z.cps.all (· < 128) = true := fun z hz => by
        rw [Array.all_eq_true']
        intro c hc
        have := List.all_eq_true.mp hall c (hz c (by simpa using hc))
        simpa using known_ascii c (by simpa using this)
      refine b_nil (b_cons (s_ret (e_all C (e_lcM [("one", 2), ("other", 3)] C (i_zipS B (e_name 0 ?_))))))
      refine e_slice sl_str (e_name 0 ?_)
      refine p_some (e_int ⟨1, rfl, p_none ⟨x, rfl, hx, ?_⟩⟩)
      have hcut : (cutS x (some 1) none).cps.toList = x.cps.toList.drop 1 := by
        show (((x.cps.toList.drop (HT.sIx x.length 0 (some ((1 : Nat) : Int)))).take (HT.sIx x.length x.length none - HT.sIx x.length 0 (some ((1 : Nat) : Int)))).toArray).toList = _
        have hl : x.cps.toList.length = x.length := by simp [hsz]
        rw [HT.sIx_nat, HT.sIx_none, List.toList_toArray]
        by_cases h0 : 1 ≤ x.length
        · rw [Nat.min_eq_left h0, List.take_of_length_le (by rw [List.length_drop]; omega)]
        · have h1 : x.length = 0 := by omega
          have h2 : x.cps.toList = [] := List.eq_nil_of_length_eq_zero (by omega)
          simp [h2]
      refine ⟨x, _, rfl, rfl, asc x (fun _ h => h), asc _ (fun c hc => by rw [hcut] at hc; exact List.mem_of_mem_drop hc), _, _, _, ((x.cps.toList.zip (x.cps.toList.drop 1)).map fun q => V.bl (decide (q.1 < q.2))), walk_zipS rfl, ?_, ?_, fun _ _ => trivial, fun i y H3 H' hi b3 hy => ?_, fun Da H' b3 hn hl => ?_⟩
      · rw [← Array.length_toList (xs := (cutS x (some 1) none).cps), hcut]
        simp
      · omega
      · obtain ⟨T, c, c', rfl, hT, rfl, hc, hc'⟩ := hy
        refine ⟨But.new hT, mt_pair (i := 2) (j := 3) rfl C.nd upd_same fun s H0 Ca cl fp => e_cmp (e_name 2 (e_name 3 (c_ltS ⟨?_, But.refl⟩)))⟩
        rw [← Array.getElem?_toList] at hc hc'
        rw [hcut] at hc'
        rw [List.getElem?_map, (List.getElem?_zip_eq_some (z := (c, c'))).mpr ⟨hc, hc'⟩, lt_one]
        rfl
      · refine ⟨Da, (x.cps.toList.zip (x.cps.toList.drop 1)).map fun q => decide (q.1 < q.2), rfl, .inl (.inl (by rw [hl, List.map_map]; rfl)), ?_⟩
        rw [zip_ascends]
        have := q H' (b1.trans (b2.trans b3))
        have e3 : areSigns (.str x) = ascends x.cps.toList := by
          simp only [areSigns, strSigns, hall]
          have : lenOk (.str x) = true := by simpa using e
          simp only [lenOk] at this
          rw [this]
          rfl
        rwa [e3] at this
/-! ### the refusals -/
/-- one datum is wanted: None, or the error of the class at C with it -/
def spWant (K : PySem.W.Frag) (f : PyData → Bool) (C : Addr) : Sp := fun vs H Q E => ∃ v l d, vs = [v] ∧ DD K l H v d ∧ fits d ∧ (f d = true → ∀ H', But [] H H' → Q .non H') ∧
  (f d = false → ∀ dd H', But [] H H' → H' dd = some (.xd [("value", v)]) → E (.ref C) (some dd) H')
theorem DD.fit {l : List Addr} {H : Hp} {v : V} {d : PyData} (h : DD K l H v d) (H' : Hp) (b : But [] H H') : DD K l H' v d := h.but (b.mono (by simp))
theorem sc11 : FnScope ["value"] ["value"] (defScope (top 11)) := ⟨rfl, rfl, rfl, by decide +kernel, rfl, by decide +kernel, by decide +kernel⟩
theorem d_wantSigns {CS : Addr} (B : Blt mg base) (D : At K mg "want_signs" (top 11)) (D1 : Def P w K mg base 1 "are_signs" (top 10) ["value"] (sp1 K areSigns)) (E1 : ErrOk P w K mg base "InvalidSigns" "value" CS) :
    Def P w K mg base 3 "want_signs" (top 11) ["value"] (spWant K areSigns CS) := by
  refine def_of D B sc11 (fun vs H Q E ⟨v, l, d, e, _⟩ => by rw [e]; rfl) fun f cdv A outer s H vs Q E hm C h => ?_
  obtain ⟨v, l, d, rfl, hd, hf, q1, q2⟩ := h
  refine b_cons (s_ifB (!areSigns d) ?_ (fun e H1 b1 => ?_) (fun e H1 b1 => ?_))
  · refine t_not (t_val (e_call (C.mono (by decide)) (D1.mono (Nat.le_refl _)) (a_cons (e_name 0 (a_nil ?_))) rfl (fun _ _ _ _ _ _ us hl => match us, hl with | [_], _ => rfl)))
    exact ⟨v, l, d, rfl, hd, hf, fun H' b => ⟨_, rfl, rfl, b⟩⟩
  · refine b_cons (s_raise1 C E1 (by decide) (e_name 0 fun dd H' b2 hn hx => ?_))
    exact q2 (by simpa using e) dd H' (b1.trans b2) hx
  · exact b_nil (b_nil (q1 (by simpa using e) H1 b1))
/-! ### lines -/
def isLine (g : Str) : PyData → Bool
  | .str x => x.cps.toList.all fun c => decide (c ∈ g.cps.toList)
  | _ => false
def spLine (K : PySem.W.Frag) : Sp := fun vs H Q _ => ∃ g v l d, vs = [.str g, v] ∧ DD K l H v d ∧ fits d ∧ ∀ H', But [] H H' → Q (.bl (isLine g d)) H'
theorem sc12 : FnScope ["signs", "value", "sign"] ["signs", "value"] (defScope (top 12)) := ⟨rfl, rfl, rfl, by decide +kernel, rfl, by decide +kernel, by decide +kernel⟩
theorem d_isLine (B : Blt mg base) (D : At K mg "is_line" (top 12)) : Def P w K mg base 1 "is_line" (top 12) ["signs", "value"] (spLine K) := by
  refine def_of D B sc12 (fun vs H Q E ⟨g, v, l, d, e, _⟩ => by rw [e]; rfl) fun f cdv A outer s H vs Q E hm C h => ?_
  obtain ⟨g, v, l, d, rfl, hd, hf, q⟩ := h
  refine b_cons (s_ret (e_and (e_isi B kit_str B.str PyProof.Rows.boot_str (e_name 1 ⟨l, d, hd, isStr d, rfl, ite_b (fun e => ?_) fun e => ?_⟩))))
  · obtain ⟨x, rfl⟩ : ∃ x, d = .str x := by cases d <;> simp [isStr] at e; exact ⟨_, rfl⟩
    cases hd
    refine e_one (e_all C (e_lcM [("sign", 2)] C (i_str (e_name 1 ?_))))
    refine ⟨x, rfl, _, _, _, (x.cps.toList.map fun c => V.bl (decide (c ∈ g.cps.toList))), walk_str, by simp, hf, fun _ _ => trivial, fun i y H2 H' hi b2 hy => ?_, fun Da H' b2 hn hl => ⟨Da, x.cps.toList.map fun c => decide (c ∈ g.cps.toList), rfl, .inl (.inl (by rw [hl, List.map_map]; rfl)), ?_⟩⟩
    · obtain ⟨rfl, c, hc, rfl⟩ := hy
      refine ⟨But.refl, mt_name (i := 2) C.nd fun s H0 Ca cl fp => e_cmp (e_name 2 (e_name 0 (c_inSign ⟨?_, But.refl⟩)))⟩
      simp [← Array.getElem?_toList] at hc
      simp [hc]
    · have := q H' b2
      simpa [isLine, Function.comp_def] using this
  · have := q H But.refl
    have no : isLine g d = false := by cases d <;> simp_all [isLine, isStr]
    rwa [no] at this
def spWantLine (K : PySem.W.Frag) (C : Addr) : Sp := fun vs H Q E => ∃ g v l d, vs = [.str g, v] ∧ DD K l H v d ∧ fits d ∧ (isLine g d = true → ∀ H', But [] H H' → Q .non H') ∧
  (isLine g d = false → ∀ dd H', But [] H H' → H' dd = some (.xd [("value", v)]) → E (.ref C) (some dd) H')
theorem sc13 : FnScope ["signs", "line"] ["signs", "line"] (defScope (top 13)) := ⟨rfl, rfl, rfl, by decide +kernel, rfl, by decide +kernel, by decide +kernel⟩
theorem d_wantLine {CL : Addr} (B : Blt mg base) (D : At K mg "want_line" (top 13)) (D1 : Def P w K mg base 1 "is_line" (top 12) ["signs", "value"] (spLine K)) (E1 : ErrOk P w K mg base "InvalidLine" "value" CL) :
    Def P w K mg base 3 "want_line" (top 13) ["signs", "line"] (spWantLine K CL) := by
  refine def_of D B sc13 (fun vs H Q E ⟨g, v, l, d, e, _⟩ => by rw [e]; rfl) fun f cdv A outer s H vs Q E hm C h => ?_
  obtain ⟨g, v, l, d, rfl, hd, hf, q1, q2⟩ := h
  refine b_cons (s_ifB (!isLine g d) ?_ (fun e H1 b1 => ?_) (fun e H1 b1 => ?_))
  · refine t_not (t_val (e_call (C.mono (by decide)) D1 (a_cons (e_name 0 (a_cons (e_name 1 (a_nil ?_))))) rfl (fun _ _ _ _ _ _ us hl => match us, hl with | [_, _], _ => rfl)))
    exact ⟨g, v, l, d, rfl, hd, hf, fun H' b => ⟨_, rfl, rfl, b⟩⟩
  · refine b_cons (s_raise1 C E1 (by decide) (e_name 1 fun dd H' b2 hn hx => ?_))
    exact q2 (by simpa using e) dd H' (b1.trans b2) hx
  · exact b_nil (b_nil (q1 (by simpa using e) H1 b1))
/-! ### widths -/
def isWidth : PyData → Bool
  | .int i => decide (1 ≤ i) && decide (i ≤ 4)
  | _ => false
theorem sc16 : FnScope ["width"] ["width"] (defScope (top 16)) := ⟨rfl, rfl, rfl, by decide +kernel, rfl, by decide +kernel, by decide +kernel⟩
theorem d_wantWidth {CW : Addr} (B : Blt mg base) (D : At K mg "want_width" (top 16)) (T : Consts mg) (D1 : Def P w K mg base 1 "is_integer" (top 9) ["value"] (sp1 K isInteger)) (E1 : ErrOk P w K mg base "InvalidWidth" "value" CW) :
    Def P w K mg base 3 "want_width" (top 16) ["width"] (spWant K isWidth CW) := by
  refine def_of D B sc16 (fun vs H Q E ⟨v, l, d, e, _⟩ => by rw [e]; rfl) fun f cdv A outer s H vs Q E hm C h => ?_
  obtain ⟨v, l, d, rfl, hd, hf, q1, q2⟩ := h
  obtain ⟨u4, h4, r4⟩ := T.width
  refine b_cons (s_ifB (!isWidth d) ?_ (fun e H1 b1 => ?_) (fun e H1 b1 => ?_))
  · refine t_boolop (w_or (t_not (t_val (e_call (C.mono (by decide)) D1 (a_cons (e_name 0 (a_nil ?_))) rfl (fun _ _ _ _ _ _ us hl => match us, hl with | [_], _ => rfl)))))
    refine ⟨v, l, d, rfl, hd, hf, fun H' b => ⟨isInteger d, rfl, ite_b (fun e => ⟨?_, b⟩) fun e => ?_⟩⟩
    · cases d <;> simp_all [isInteger, isWidth, Z.isInt, Z.isBool]
    · obtain ⟨i, rfl⟩ : ∃ i, d = .int i := by cases d <;> simp [isInteger, Z.isInt, Z.isBool] at e; exact ⟨_, rfl⟩
      cases hd
      refine w_or1 (t_not (t_chain (e_int (e_name 0 (c_le ⟨_, rfl, ite_b (fun e => e_glob (c_le ⟨_, rfl, ?_, b⟩) h4 r4) fun e => ⟨_, rfl, ?_, b⟩⟩)))))
      · simp only [isWidth]; rw [e]; simp
      · simp only [isWidth]; rw [e]; simp
  · refine b_cons (s_raise1 C E1 (by decide) (e_name 0 fun dd H' b2 hn hx => ?_))
    exact q2 (by simpa using e) dd H' (b1.trans b2) hx
  · exact b_nil (b_nil (q1 (by simpa using e) H1 b1))
/-! ### pieces -/
def piecesOf (x : Str) (n : Nat) : List Str := (chunks x.cps.toList n).map sOf
def spPieces : Sp := fun vs H Q _ => ∃ (x : Str) (n : Nat), vs = [.str x, .int n] ∧ 1 ≤ n ∧ n ≤ 4 ∧ x.length ≤ 1000000 ∧ ∀ p H', But [] H H' → H p = none → H' p = some (.lst ((piecesOf x n).map V.str)) → Q (.ref p) H'
theorem sc17 : FnScope ["line", "width", "at"] ["line", "width"] (defScope (top 17)) := ⟨rfl, rfl, rfl, by decide +kernel, rfl, by decide +kernel, by decide +kernel⟩
theorem range_up {a n : Nat} (hn : 1 ≤ n) (hn4 : n ≤ 4) (ha : a ≤ 1000000) : RgC 0 (a : Nat) (n : Nat) ((a + n - 1) / n) := by
  have e : Builtin.Range.rangeSize 0 (a : Int) (n : Int) = (((a + n - 1) / n : Nat) : Int) := by
    rw [PyProof.Rows.rangeSize_pos (by omega) (by omega), Int.natCast_ediv]
    congr 1
    omega
  have h2 : (a + n - 1) / n ≤ a + n - 1 := Nat.div_le_self _ _
  refine ⟨by omega, by omega, ?_, e⟩
  unfold Builtin.Range.small
  rw [e]
  simp only [Builtin.Range.rangeFitsLong, Bool.and_eq_true, Bool.or_eq_true, decide_eq_true_eq, beq_iff_eq]
  have hc : ((n : Int) > 0) := by omega
  simp only [hc, if_true]
  generalize (a + n - 1) / n = m at *
  clear e
  refine ⟨by omega, .inr ?_⟩
  simp only [Bool.and_eq_true, decide_eq_true_eq]
  omega
theorem d_piecesOf (B : Blt mg base) (D : At K mg "pieces_of" (top 17)) : Def P w K mg base 1 "pieces_of" (top 17) ["line", "width"] spPieces := by
  refine def_of D B sc17 (fun vs H Q E ⟨x, n, e, _⟩ => by rw [e]; rfl) fun f cdv A outer s H vs Q E hm C h => ?_
  obtain ⟨x, n, rfl, n1, n4, hx, q⟩ := h
  have hl : x.cps.toList.length = x.length := by simp; rfl
  have hsx : x.length ≤ sizeLine := by rw [sizeLine_eq]; omega
  have hl' : ∀ k, (x.cps.toList.drop k).length = x.length - k := fun k => by rw [List.length_drop, hl]
  refine b_cons (s_ifB (decide (x.length ≤ n)) ?_ (fun e H1 b1 => ?_) (fun e H1 b1 => ?_))
  · refine t_cmp (e_len B (e_name 0 ?_))
    refine ⟨x.length, ⟨hsx, rfl⟩, e_name 1 (c_le ⟨_, rfl, ?_, But.refl⟩)⟩
    rw [decide_eq_decide]; omega
  · refine b_cons (s_ret (e_lst (a_cons (e_name 0 (a_nil ⟨by rw [sizeLine_eq]; exact (by decide : 1 ≤ 16777216), fun p hp => ?_⟩)))))
    refine q p _ (b1.trans (But.new hp)) (b1.free hp) ?_
    rw [upd_same, piecesOf, chunks, if_pos (by rw [hl]; exact of_decide_eq_true e)]
    simp [sOf_str]
  · have hc : ¬ x.cps.toList.length ≤ n := by rw [hl]; exact of_decide_eq_false e
    refine b_nil (b_cons (s_ret (e_lcM [("at", 2)] C (i_range3 B (a_cons (e_int (a_cons (e_len B (e_name 0 ?_)) )))))))
    refine ⟨x.length, ⟨hsx, rfl⟩, a_cons (e_name 1 (a_nil ⟨_, _, _, _, rfl, range_up n1 n4 hx, _, _, _, (piecesOf x n).map V.str, walk_rangeC, ?_, ?_, fun _ _ => trivial, fun i y H2 H' hi b2 hy => ?_, fun Da H' b2 hn hl => ?_⟩))⟩
    · rw [piecesOf, chunks, if_neg hc, hl]; simp
    · have := Nat.div_le_self (x.length + n - 1) n
      rw [sizeLine_eq]; omega
    · obtain ⟨rfl, rfl⟩ := hy
      refine ⟨But.refl, mt_name (i := 2) C.nd fun s H0 Ca cl fp => e_slice sl_str (e_name 0 (p_some (e_name 2 ⟨_, rfl, p_some (e_bin (e_name 2 (e_name 1 (o_add ⟨_, rfl, x, rfl, hsx, ?_, But.refl⟩))))⟩)))⟩
      rw [piecesOf, chunks, if_neg hc, hl, List.map_map, List.map_map, List.getElem?_map, List.getElem?_range hi]
      have e1 : (0 : Int) + ((i : Nat) : Int) * ((n : Nat) : Int) = ((i * n : Nat) : Int) := by push_cast; omega
      have e2 : (((i * n : Nat) : Int) + ((n : Nat) : Int)) = ((i * n + n : Nat) : Int) := by push_cast; omega
      rw [e1, e2]
      simp only [Option.map_some, Function.comp, Option.some.injEq, V.str.injEq]
      apply str_ext
      rw [sOf_list]
      show _ = (((x.cps.toList.drop (HT.sIx x.length 0 (some ((i * n : Nat) : Int)))).take (HT.sIx x.length x.length (some ((i * n + n : Nat) : Int)) - HT.sIx x.length 0 (some ((i * n : Nat) : Int)))).toArray).toList
      rw [HT.sIx_nat, HT.sIx_nat, List.toList_toArray]
      have hi2 : i * n ≤ x.length := by
        have : (i + 1) * n ≤ x.length + n - 1 := by
          rw [← Nat.le_div_iff_mul_le (by omega)]
          exact hi
        rw [Nat.add_mul] at this
        omega
      rw [Nat.min_eq_left hi2]
      by_cases h3 : i * n + n ≤ x.length
      · rw [Nat.min_eq_left h3]
        congr 1
        omega
      · rw [Nat.min_eq_right (by omega)]
        rw [List.take_of_length_le (Nat.le_trans (Nat.le_of_eq (hl' _)) (by omega)), List.take_of_length_le (Nat.le_trans (Nat.le_of_eq (hl' _)) (by omega))]
    · exact q Da H' (b1.trans b2) (b1.free hn) hl
/-- pieces(signs, line, width) -/
def spCut (K : PySem.W.Frag) (CS CL CW : Addr) : Sp := fun vs H Q E => ∃ v1 v2 v3 l1 l2 l3 d1 d2 d3, vs = [v1, v2, v3] ∧ DD K l1 H v1 d1 ∧ DD K l2 H v2 d2 ∧ DD K l3 H v3 d3 ∧ fits d1 ∧ fits d2 ∧ fits d3 ∧
  (areSigns d1 = false → ∀ dd H', But [] H H' → H' dd = some (.xd [("value", v1)]) → E (.ref CS) (some dd) H') ∧
  (areSigns d1 = true → ∀ g, d1 = .str g → (isLine g d2 = false → ∀ dd H', But [] H H' → H' dd = some (.xd [("value", v2)]) → E (.ref CL) (some dd) H') ∧
    (isLine g d2 = true → (isWidth d3 = false → ∀ dd H', But [] H H' → H' dd = some (.xd [("value", v3)]) → E (.ref CW) (some dd) H') ∧
      (isWidth d3 = true → ∀ x n, d2 = .str x → d3 = .int n → x.length ≤ 1000000 ∧ ∀ p H', But [] H H' → H p = none → H' p = some (.lst ((piecesOf x n.toNat).map V.str)) → Q (.ref p) H')))
theorem sc18 : FnScope ["signs", "line", "width"] ["signs", "line", "width"] (defScope (top 18)) := ⟨rfl, rfl, rfl, by decide +kernel, rfl, by decide +kernel, by decide +kernel⟩
theorem d_pieces {CS CL CW : Addr} (B : Blt mg base) (D : At K mg "pieces" (top 18)) (D1 : Def P w K mg base 3 "want_signs" (top 11) ["value"] (spWant K areSigns CS)) (D2 : Def P w K mg base 3 "want_line" (top 13) ["signs", "line"] (spWantLine K CL))
    (D3 : Def P w K mg base 3 "want_width" (top 16) ["width"] (spWant K isWidth CW)) (D4 : Def P w K mg base 1 "pieces_of" (top 17) ["line", "width"] spPieces) : Def P w K mg base 4 "pieces" (top 18) ["signs", "line", "width"] (spCut K CS CL CW) := by
  refine def_of D B sc18 (fun vs H Q E ⟨_, _, _, _, _, _, _, _, _, e, _⟩ => by rw [e]; rfl) fun f cdv A outer s H vs Q E hm C h => ?_
  obtain ⟨v1, v2, v3, l1, l2, l3, d1, d2, d3, rfl, h1, h2, h3, f1, f2, f3, q1, q2⟩ := h
  refine b_cons (s_expr (e_call C D1 (a_cons (e_name 0 (a_nil ?_))) rfl (fun _ _ _ _ _ _ us hl => match us, hl with | [_], _ => rfl)))
  refine ⟨v1, l1, d1, rfl, h1, f1, fun e1 H1 b1 => ?_, q1⟩
  obtain ⟨g, rfl⟩ : ∃ g, d1 = .str g := by cases d1 <;> simp [areSigns] at e1; exact ⟨_, rfl⟩
  cases h1
  obtain ⟨q3, q4⟩ := q2 e1 g rfl
  refine b_cons (s_expr (e_call C D2 (a_cons (e_name 0 (a_cons (e_name 1 (a_nil ?_))))) rfl (fun _ _ _ _ _ _ us hl => match us, hl with | [_, _], _ => rfl)))
  refine ⟨g, v2, l2, d2, rfl, h2.but b1.of, f2, fun e2 H2 b2 => ?_, fun e dd H' b => q3 e dd H' (b1.trans b)⟩
  have b12 := b1.trans b2
  obtain ⟨q5, q6⟩ := q4 e2
  refine b_cons (s_expr (e_call C D3 (a_cons (e_name 2 (a_nil ?_))) rfl (fun _ _ _ _ _ _ us hl => match us, hl with | [_], _ => rfl)))
  refine ⟨v3, l3, d3, rfl, h3.but b12.of, f3, fun e3 H3 b3 => ?_, fun e dd H' b => q5 e dd H' (b12.trans b)⟩
  have b123 := b12.trans b3
  obtain ⟨x, rfl⟩ : ∃ g, d2 = .str g := by cases d2 <;> simp [isLine] at e2; exact ⟨_, rfl⟩
  obtain ⟨n, rfl⟩ : ∃ g, d3 = .int g := by cases d3 <;> simp [isWidth] at e3; exact ⟨_, rfl⟩
  cases h2
  cases h3
  obtain ⟨hx, q7⟩ := q6 e3 x n rfl rfl
  simp only [isWidth, Bool.and_eq_true, decide_eq_true_eq] at e3
  refine b_cons (s_ret (e_call (C.mono (by decide)) D4 (a_cons (e_name 1 (a_cons (e_name 2 (a_nil ?_))))) rfl (fun _ _ _ _ _ _ us hl => match us, hl with | [_, _], _ => rfl)))
  refine ⟨x, n.toNat, by rw [Int.toNat_of_nonneg (by omega)], by omega, by omega, hx, fun p H' b hp hl => q7 p H' (b123.trans b) (b123.free hp) hl⟩
end
end K70

set_option Elab.async false
set_option linter.all false
set_option maxRecDepth 100000
set_option maxHeartbeats 4000000
namespace K70
open PySem PySem.Spec PyProof.Rows L2 Z
/-! ### what is drawn -/
def Pot (H : Hp) (p : Addr) : Prop := ∃ a b : Int, H p = some (.lst [.int a, .int b]) ∧ 0 ≤ b ∧ b < 2 ^ 63
theorem Pot.new {H H' : Hp} {p : Addr} (h : Pot H p) (b : But [] H H') : Pot H' p := let ⟨x, y, e, r⟩ := h; ⟨x, y, b _ _ (by simp) e, r⟩
section
variable {P : Program} {w : World} {K : PySem.W.Frag} {mg : Str → Option Value} {base : Heap}
def spPotMk (K : PySem.W.Frag) : Sp := fun vs H Q _ => ∃ (q : Addr) (ns : List Int) (k : Nat), vs = [.ref q, .int k] ∧ SqL K H q (ns.map V.int) ∧ k ≤ 100 ∧ ns.length ≤ 1000 ∧ ∀ p H', But [] H H' → H p = none → Pot H' p → Q (.ref p) H'
theorem scPot : FnScope ["script", "k", "start"] ["script", "k"] (defScope (top 20)) := ⟨rfl, rfl, rfl, by decide +kernel, rfl, by decide +kernel, by decide +kernel⟩
theorem d_pot (B : Blt mg base) (D : At K mg "_law_pot" (top 20)) : Def P w K mg base 1 "_law_pot" (top 20) ["script", "k"] (spPotMk K) := by
  refine def_of D B scPot (fun vs H Q E ⟨_, _, _, e, _⟩ => by rw [e]; rfl) fun f cdv A outer s H vs Q E hm C h => ?_
  obtain ⟨q, ns, k, rfl, hq, hk, hn, hQ⟩ := h
  have hq' : ∀ {H1}, But [] H H1 → SqL K H1 q (ns.map V.int) := fun b => b.sql (by simp) hq
  have fin : ∀ (j : Int) (H1 : Hp), But [] H H1 → wB (bX P w K mg base ["script", "k", "start"] "_law_pot" (top 20) f cdv A outer s H E) ((defBody (top 20)).drop 2) { nx := fun _ H' => Q .non H', rt := Q } [some (.ref q), some (.int k), some (.int j)] H1 := fun j H1 b1 => by
    refine b_cons (s_ret (e_lst (a_cons (e_max2 C (e_int (e_bin (e_name 2 (e_bin (e_int (e_int ?_))))))))))
    refine o_pow ⟨by decide, by decide, by decide⟩ (o_sub ⟨_, _, rfl, rfl, ?_⟩)
    refine a_cons (e_bin (e_bin (e_int1 B (e_bin (e_bin (e_bin (e_bin (e_int1 B (e_name 2 ⟨j, rfl, e_int ?_⟩)))))))))
    have m1 := Int.emod_nonneg j (show (2147483549 : Int) ≠ 0 by decide)
    have m2 := Int.emod_lt_of_pos j (show (0 : Int) < 2147483549 by decide)
    refine o_mod (by decide) (e_int (o_mul (.inl ⟨by omega, by omega⟩) (e_bin (e_int (e_name 1 (o_mul (.inl ⟨by decide, by decide⟩) (o_add (e_int (o_add ⟨_, rfl, e_int (o_mod (by decide) (e_int (o_add (a_nil ⟨?_, fun p hp => ?_⟩)))) ⟩)))))))))
    · rw [sizeLine_eq]; exact (by decide : 2 ≤ 16777216)
    · have x1 := Int.emod_nonneg (j % 2147483549 * 48271 + 7919 * k + 61) (show (2147483587 : Int) ≠ 0 by decide)
      have x2 := Int.emod_lt_of_pos (j % 2147483549 * 48271 + 7919 * k + 61) (show (0 : Int) < 2147483587 by decide)
      exact hQ p _ (b1.trans (But.new hp)) (b1.free hp) ⟨_, _, upd_same, by omega, by omega⟩
  refine b_cons (s_set (i := 2) (e_bin (e_bin (e_int (e_name 1 ?_)))) C.nd)
  refine o_mul (.inl ⟨by decide, by decide⟩) (e_int (o_add ?_))
  refine b_cons (s_ifB (decide (k < ns.length)) ?_ (fun e H1 b1 => ?_) (fun e H1 b1 => ?_))
  · refine t_cmp (e_name 1 (e_len B (e_name 0 ?_)))
    refine ⟨ns.length, .inl ⟨_, hq, by simp⟩, c_lt ⟨_, rfl, ?_, But.refl⟩⟩
    rw [decide_eq_decide]; omega
  · have hlt : k < ns.length := of_decide_eq_true e
    refine b_cons (s_set (i := 2) (e_abs B (e_ix (e_name 0 (e_name 1 (ix_l (hq' b1) (v := .int ns[k]) ?_ ⟨_, rfl, b_nil (fin _ H1 b1)⟩))))) C.nd)
    exact atI_nat (by simp [hlt])
  · exact b_nil (fin _ H1 b1)
def spDraw : Sp := fun vs H Q _ => ∃ (p : Addr) (n : Int), vs = [.ref p, .int n] ∧ Pot H p ∧ 0 < n ∧ n < 1073741824 ∧ ∀ (r : Int) H', 0 ≤ r → r < n → But [p] H H' → Pot H' p → Q (.int r) H'
theorem scDraw : FnScope ["pot", "sides", "digit"] ["pot", "sides"] (defScope (top 21)) := ⟨rfl, rfl, rfl, by decide +kernel, rfl, by decide +kernel, by decide +kernel⟩
theorem d_draw (B : Blt mg base) (D : At K mg "_law_draw" (top 21)) : Def P w K mg base 1 "_law_draw" (top 21) ["pot", "sides"] spDraw := by
  refine def_of D B scDraw (fun vs H Q E ⟨_, _, e, _⟩ => by rw [e]; rfl) fun f cdv A outer s H vs Q E hm C h => ?_
  obtain ⟨p, n, rfl, ⟨a, b, hp, b0, b1⟩, n0, n1, hQ⟩ := h
  have sq : SqL K H p [.int a, .int b] := .inl (.inl hp)
  refine b_cons (s_ifB (decide (0 < a)) ?_ (fun e H1 b1 => ?_) (fun e H1 b1 => ?_))
  · refine t_cmp (e_ix (e_name 0 (e_int (ix_l sq (v := .int a) rfl (e_int (c_gt ⟨_, rfl, rfl, But.refl⟩))))))
  · have hp1 := b1 _ _ (by simp) hp
    refine b_cons (s_asg (e_divmod B (e_ix (e_name 0 (e_int (ix_l (.inl (.inl hp1)) (v := .int a) rfl (e_name 1 ?_)))))))
    refine ⟨a, n, rfl, rfl, ⟨n0, n1⟩, fun t ht => ?_⟩
    have hpt : p ≠ t := ne_of_none hp1 ht
    refine g_tup (gs_cons (g_sub (e_name 0 (e_int (set_l (j := 0) (by rw [upd_ne hpt]; exact hp1) rfl ?_))))) rfl (.inl (.inl upd_same))
    refine gs_cons (g_name (i := 2) (gs_nil (b_cons (s_ret (e_name 2 ?_)))) C.nd)
    refine hQ _ _ (Int.emod_nonneg _ (by omega)) (Int.emod_lt_of_pos _ n0) ((b1.of.trans (But.new ht)).trans (But.at (by simp))) ⟨_, _, upd_same, b0, by assumption⟩
  · have hp1 := b1 _ _ (by simp) hp
    refine b_nil (b_cons (s_asg (e_bin (e_int1 B (e_bin (e_bin (e_ix (e_name 0 (e_int (ix_l (.inl (.inl hp1)) (v := .int b) rfl (e_int ?_)))))))))))
    refine o_mul (.inr ⟨by decide, by decide⟩) (e_int (o_add ⟨_, rfl, e_int (o_mod (by decide) (g_sub (e_name 0 (e_int (set_l (j := 1) hp1 rfl ?_)))))⟩))
    have x1 := Int.emod_nonneg (b * 40699 + 30013) (show (2147483587 : Int) ≠ 0 by decide)
    have x2 := Int.emod_lt_of_pos (b * 40699 + 30013) (show (0 : Int) < 2147483587 by decide)
    generalize (b * 40699 + 30013) % 2147483587 = b' at x1 x2 ⊢
    refine b_cons (s_ret (e_bin (e_int1 B (e_bin (e_bin (e_int1 B (e_bin (e_ix (e_name 0 (e_int (ix_l (.inl (.inl upd_same)) (v := .int b') rfl (e_ix (e_name 0 (e_int (ix_l (.inl (.inl upd_same)) (v := .int b') rfl ?_)))))))))))))))
    refine o_mul (.inl ⟨by omega, by omega⟩) ⟨_, rfl, e_int (o_mod (by decide) (e_int (o_div ⟨by decide, by decide⟩ ⟨_, rfl, e_name 1 (o_mod n0 ?_)⟩)))⟩
    exact hQ _ _ (Int.emod_nonneg _ (by omega)) (Int.emod_lt_of_pos _ n0) (b1.of.trans (But.at (by simp))) ⟨_, _, upd_same, by omega, by omega⟩
end
end K70

set_option Elab.async false
set_option linter.all false
set_option maxRecDepth 100000
set_option maxHeartbeats 4000000
namespace K70
open PySem PySem.Spec PyProof.Rows L2 Z
section
variable {P : Program} {w : World} {K : PySem.W.Frag} {mg : Str → Option Value} {base : Heap}
def spPick (K : PySem.W.Frag) : Sp := fun vs H Q _ => ∃ p, Pot H p ∧
  ((∃ q xs, vs = [.ref p, .ref q] ∧ q ≠ p ∧ SqL K H q xs ∧ 0 < xs.length ∧ xs.length < 1000000 ∧ ∀ v ∈ xs, ∀ H', But [p] H H' → Pot H' p → Q v H') ∨
   (∃ z : Str, vs = [.ref p, .str z] ∧ 0 < z.length ∧ z.length < 1000000 ∧ ∀ c ∈ z.cps.toList, ∀ H', But [p] H H' → Pot H' p → Q (.str ⟨#[c]⟩) H'))
theorem scPick : FnScope ["pot", "some"] ["pot", "some"] (defScope (top 22)) := ⟨rfl, rfl, rfl, by decide +kernel, rfl, by decide +kernel, by decide +kernel⟩
theorem d_pick (B : Blt mg base) (D : At K mg "_law_pick" (top 22)) (D1 : Def P w K mg base 1 "_law_draw" (top 21) ["pot", "sides"] spDraw) : Def P w K mg base 2 "_law_pick" (top 22) ["pot", "some"] (spPick K) := by
  refine def_of D B scPick (fun vs H Q E ⟨_, _, h⟩ => by rcases h with ⟨_, _, e, _⟩ | ⟨_, e, _⟩ <;> (rw [e]; rfl)) fun f cdv A outer s H vs Q E hm C h => ?_
  obtain ⟨p, hp, ⟨q, xs, rfl, hqp, hq, x0, x1, hQ⟩ | ⟨z, rfl, x0, x1, hQ⟩⟩ := h
  · refine b_cons (s_ret (e_ix (e_name 1 (e_call C D1 (a_cons (e_name 0 (a_cons (e_len B (e_name 1 ?_))))) rfl (fun _ _ _ _ _ _ us hl => match us, hl with | [_, _], _ => rfl)))))
    refine ⟨xs.length, .inl ⟨xs, hq, rfl⟩, a_nil ⟨p, xs.length, rfl, hp, by omega, by omega, fun r H' r0 r1 b hp' => ?_⟩⟩
    obtain ⟨j, rfl⟩ := Int.eq_ofNat_of_zero_le r0
    have hj : j < xs.length := by omega
    exact ix_l (b.sql (by simpa using hqp) hq) (atI_nat (List.getElem?_eq_getElem hj)) (hQ _ (List.getElem_mem hj) H' b hp')
  · refine b_cons (s_ret (e_ix (e_name 1 (e_call C D1 (a_cons (e_name 0 (a_cons (e_len B (e_name 1 ?_))))) rfl (fun _ _ _ _ _ _ us hl => match us, hl with | [_, _], _ => rfl)))))
    have hz : z.length ≤ sizeLine := by rw [sizeLine_eq]; omega
    refine ⟨z.length, ⟨hz, rfl⟩, a_nil ⟨p, z.length, rfl, hp, by omega, by omega, fun r H' r0 r1 b hp' => ?_⟩⟩
    obtain ⟨j, rfl⟩ := Int.eq_ofNat_of_zero_le r0
    have hj : j < z.cps.toList.length := by have : z.cps.toList.length = z.length := by simp; rfl
                                            omega
    exact ix_s hz (atI_nat (List.getElem?_eq_getElem hj)) (hQ _ (List.getElem_mem hj) H' b hp')
/-! ### pieces told -/
def spTold : Sp := fun vs H Q _ => ∃ (g v : Str) (n : Nat), vs = [.str g, .str v, .int n] ∧ strSigns g = true ∧ isLine g (.str v) = true ∧ v.length ≤ 1000 ∧ 1 ≤ n ∧ n ≤ 4 ∧ ∀ H', But [] H H' → Q (.bl true) H'
theorem strSigns_len {g : Str} (h : strSigns g = true) : g.length ≤ 4 ∧ 2 ≤ g.length := by
  simp only [strSigns, Bool.and_eq_true, decide_eq_true_eq] at h
  exact ⟨h.1.1.2, h.1.1.1⟩
theorem strSigns_mem {g : Str} (h : strSigns g = true) : ∀ c ∈ g.cps.toList, c < 128 := by
  simp only [strSigns, Bool.and_eq_true, List.all_eq_true, decide_eq_true_eq] at h
  exact fun c hc => known_ascii c (h.1.2 c hc)
theorem pieces_sum {v : Str} {n : Nat} (hn : 0 < n) : ((piecesOf v n).map (·.length)).sum = v.length := by
  have h := chunks_flatten v.cps.toList hn
  have h2 : (chunks v.cps.toList n).flatten.length = v.length := by rw [h]; simp; rfl
  rw [List.length_flatten] at h2
  rw [piecesOf, List.map_map, ← h2]
  rfl
theorem pieces_len {v : Str} {n : Nat} (hn : 0 < n) : (piecesOf v n).length = max 1 ((v.length + n - 1) / n) := by
  rw [piecesOf, List.length_map, chunks_length _ hn]
  try rfl
theorem pieces_mem {v : Str} {n : Nat} (hn : 0 < n) {y : Str} (hy : y ∈ piecesOf v n) {c : Nat} (hc : c ∈ y.cps.toList) : c ∈ v.cps.toList := by
  obtain ⟨l, hl, rfl⟩ := List.mem_map.mp hy
  rw [sOf_list] at hc
  rw [← chunks_flatten v.cps.toList hn]
  exact List.mem_flatten.mpr ⟨l, hl, hc⟩
theorem scTold : FnScope ["glyphs", "verse", "wide", "told", "kept", "part"] ["glyphs", "verse", "wide"] (defScope (top 23)) := ⟨rfl, rfl, rfl, by decide +kernel, rfl, by decide +kernel, by decide +kernel⟩
theorem d_told {CS CL CW : Addr} (B : Blt mg base) (D : At K mg "_law_told_right" (top 23)) (D1 : Def P w K mg base 4 "pieces" (top 18) ["signs", "line", "width"] (spCut K CS CL CW)) :
    Def P w K mg base 5 "_law_told_right" (top 23) ["glyphs", "verse", "wide"] spTold := by
  refine def_of D B scTold (fun vs H Q E ⟨_, _, _, e, _⟩ => by rw [e]; rfl) fun f cdv A outer s H vs Q E hm C h => ?_
  obtain ⟨g, v, n, rfl, hg, hv, hvl, n1, n4, hQ⟩ := h
  have hvs : v.length ≤ sizeLine := by rw [sizeLine_eq]; omega
  have hgl := strSigns_len hg
  have hw : isWidth (.int (n : Int)) = true := by simp only [isWidth, Bool.and_eq_true, decide_eq_true_eq]; omega
  have call : ∀ (H : Hp) (R : VK) (E' : XK), (∀ p H', But [] H H' → H p = none → H' p = some (.lst ((piecesOf v n).map V.str)) → R (.ref p) H') → spCut K CS CL CW [.str g, .str v, .int n] H R E' := fun H R E' hR => by
    refine ⟨_, _, _, [], [], [], .str g, .str v, .int n, rfl, .str g, .str v, .int n, by show g.length ≤ _; rw [sizeLine_eq]; omega, hvs, trivial, fun e => ?_, fun _ g' e => ?_⟩
    · rw [areSigns, hg] at e; cases e
    · cases e
      refine ⟨fun e => (by rw [hv] at e; cases e), fun _ => ⟨fun e => (by rw [hw] at e; cases e), fun _ x m e1 e2 => ?_⟩⟩
      cases e1
      cases e2
      exact ⟨by omega, by simpa using hR⟩
  have hmem : ∀ c ∈ v.cps.toList, c < 4294967296 := fun c hc => by
    simp only [isLine, List.all_eq_true, decide_eq_true_eq] at hv
    have := strSigns_mem hg c (hv c hc)
    omega
  have hlen := pieces_len (v := v) (n := n) (by omega)
  have hcnt : (piecesOf v n).length ≤ 2000 := by
    have := Nat.div_le_self (v.length + n - 1) n
    omega
  have hrp : rp (.list ((piecesOf v n).map PyData.str)) = true := rp_strs (by rw [pieces_sum (by omega)]; omega) fun y hy c hc => hmem c (pieces_mem (by omega) hy hc)
  refine b_cons (s_set (i := 3) (e_call C D1 (a_cons (e_name 0 (a_cons (e_name 1 (a_cons (e_name 2 (a_nil ?_))))))) rfl (fun _ _ _ _ _ _ us hl => match us, hl with | [_, _, _], _ => rfl)) C.nd)
  refine call _ _ _ fun q H1 b1 hq hl => ?_
  have dd : ∀ {H2}, But [] H1 H2 → DD K [] H2 (.ref q) (.list ((piecesOf v n).map PyData.str)) := fun b => .lst (.inl (.inl (b _ _ (by simp) hl))) (by simp) (DDs.strs _)
  refine b_cons (s_set (i := 4) (e_rep B C.gd C.un (e_name 3 ⟨[], _, dd But.refl, hrp, ?_⟩)) C.nd)
  have sq : ∀ {H2}, But [] H1 H2 → SqL K H2 q ((piecesOf v n).map V.str) := fun b => .inl (.inl (b _ _ (by simp) hl))
  have hpos : 0 < n := by omega
  have hne : piecesOf v n ≠ [] := fun e => by rw [e] at hlen; simp at hlen; omega
  obtain ⟨ini, las, hsplit⟩ : ∃ ini las, piecesOf v n = ini ++ [las] := ⟨_, _, (List.dropLast_concat_getLast hne).symm⟩
  have hdrop : (piecesOf v n).dropLast = ini := by rw [hsplit]; simp
  have hini : ∀ y ∈ ini, y.length = n := fun y hy => by
    rw [← hdrop, piecesOf, ← List.map_dropLast] at hy
    obtain ⟨l, hl, rfl⟩ := List.mem_map.mp hy
    rw [sOf_len]
    exact chunks_init _ hpos l hl
  have hlas : las.length ≤ n := by
    have hm : las ∈ piecesOf v n := by rw [hsplit]; simp
    obtain ⟨l, hl, rfl⟩ := List.mem_map.mp hm
    rw [sOf_len]
    exact chunks_each _ hpos l hl
  -- the first test
  refine b_cons (s_ifB false ?_ (fun e => by cases e) (fun _ H2 b2 => ?_))
  · refine t_boolop (w_or (t_not (t_val (e_isi B kit_list B.list PyProof.Rows.boot_list (e_name 3 ⟨[], _, dd But.refl, true, rfl, ite_b (fun e => by cases e) fun _ => ?_⟩)))))
    refine w_or (t_cmp (e_join (e_str ⟨"", rfl, e_name 3 ⟨q, piecesOf v n, rfl, .inl (sq But.refl), ?_, e_name 1 (c_ne rfl ⟨_, rfl, ite_b (fun e => ?_) fun _ => ?_⟩)⟩⟩)))
    · rw [pieces_sum hpos]
      show v.length + (piecesOf v n).length * 0 ≤ _
      omega
    · rw [piecesOf, Z.join_nil, chunks_flatten _ hpos, sOf_str] at e
      simp at e
    · refine w_or1 (t_cmp (e_len B (e_name 3 (v := .ref q) ⟨(piecesOf v n).length, .inl ⟨_, sq But.refl, by simp⟩, e_max2 C (e_int (e_bin (e_bin (e_bin (e_len B (e_name 1 ?_))))))⟩)))
      refine ⟨v.length, ⟨hvs, rfl⟩, e_name 2 (o_add (e_int (o_sub (e_name 2 (v := .int n) (o_div (by exact ⟨by omega, by omega⟩) ⟨_, _, rfl, rfl, c_ne rfl ⟨_, rfl, ?_, But.refl⟩⟩)))))⟩
      have e1 : ((v.length : Int) + (n : Int) - 1) / (n : Int) = (((v.length + n - 1) / n : Nat) : Int) := by
        rw [Int.natCast_ediv]
        congr 1
        omega
      rw [e1, hlen]
      simp only [Bool.not_eq_eq_eq_not, Bool.not_false, decide_eq_true_eq, V.int.injEq]
      split <;> omega
  -- the second test
  have b12 := b1.trans b2
  refine b_nil (b_cons (s_ifB false ?_ (fun e => by cases e) (fun _ H3 b3 => ?_)))
  · have hcut : cutV ((piecesOf v n).map V.str) none (some (-1)) = ini.map V.str := by
      rw [hsplit]
      show ((((ini ++ [las]).map V.str).drop 0).take ((-1 + (((ini ++ [las]).map V.str).length : Int)).toNat - 0)) = _
      simp
      rw [show (-1 + ((ini.length : Int) + 1)).toNat = ini.length by omega]
      simp
    refine t_boolop (w_or (t_val (e_any C (e_lcM [("part", 5)] C (i_list (e_slice sl_list (e_name 3 (p_none (p_some (e_un (e_int (u_neg ⟨_, rfl, q, _, rfl, sq b2, fun r hr => ⟨r, rfl, ⟨_, .inl (.inl upd_same)⟩, ?_⟩⟩))))))))))))
    rw [hcut]
    refine ⟨_, _, _, ini.map fun _ => V.bl false, walk_list (xs := ini.map V.str), by simp, by simp; rw [sizeLine_eq]; have := congrArg List.length hsplit; simp at this; omega, fun H' b => .inl (.inl (b _ _ (by simp) upd_same)), fun i x H4 H' hi b4 hy => ?_, fun Da H' b4 hn hDa => ⟨Da, ini.map fun _ => false, rfl, .inl (.inl (by rw [hDa, List.map_map]; rfl)), ?_⟩⟩
    · obtain ⟨rfl, hx⟩ := hy
      rw [List.getElem?_map, Option.map_eq_some_iff] at hx
      obtain ⟨y, hy, rfl⟩ := hx
      have hyl := hini y (List.mem_of_getElem? hy)
      refine ⟨But.refl, mt_name (i := 5) C.nd fun s H0 Ca cl fp => e_cmp (e_len B (e_name 5 (v := .str y) ⟨n, ⟨by rw [sizeLine_eq]; omega, hyl.symm⟩, e_name 2 (v := .int n) (c_ne rfl ⟨?_, But.refl⟩)⟩))⟩
      rw [List.getElem?_map, hy]
      simp
    · have e0 : (ini.map fun _ => false).any id = false := by
        rw [List.any_eq_false]
        intro b hb
        obtain ⟨_, _, rfl⟩ := List.mem_map.mp hb
        exact Bool.false_ne_true
      rw [e0]
      have b24 := (But.new hr).trans b4
      refine ⟨false, rfl, ite_b (fun e => by cases e) fun _ => ?_⟩
      have hsz : las.length ≤ sizeLine := by rw [sizeLine_eq]; omega
      refine w_or (t_cmp (e_len B (e_ix (e_name 3 (v := .ref q) (e_un (e_int (u_neg (ix_l (sq (b2.trans b24)) (v := .str las) ?_ ⟨las.length, ⟨hsz, rfl⟩, e_name 2 (v := .int n) (c_gt ⟨_, rfl, ite_b (fun e => ?_) fun _ => ?_⟩)⟩))))))))
      · rw [hsplit, List.map_append]
        exact atI_last _ _
      · have := of_decide_eq_true e
        omega
      · have flat : ((piecesOf v n).map V.str).all flatV = true := by simp [List.all_map, flatV]
        refine w_or1 (t_boolop (w_and (t_cmp (e_str (e_name 3 (v := .ref q) (c_inL (.inl (sq (b2.trans b24))) rfl flat ⟨_, rfl, ite_b (fun e => ?_) fun _ => ⟨rfl, b24⟩⟩))))))
        refine w_and1 (t_cmp (e_name 1 (e_str (c_ne rfl ⟨_, rfl, ?_, b24⟩))))
        have hv0 : v = "" := by
          simp only [inV, List.any_map, List.any_eq_true, Function.comp, eqV, beq_iff_eq] at e
          obtain ⟨y, hy, e⟩ := e
          by_cases h0 : v.cps.toList = []
          · apply str_ext
            rw [h0]
            rfl
          · obtain ⟨l, hl, rfl⟩ := List.mem_map.mp hy
            refine absurd ?_ (chunks_ne _ hpos h0 l hl)
            rw [← sOf_list (l := l), e]
            rfl
        rw [hv0]
        simp
  have b13 := b12.trans b3
  have b23 := b2.trans b3
  refine b_nil (b_cons (s_expr (e_append (e_name 3 ⟨q, rfl, ⟨_, b23 _ _ (by simp) hl⟩, e_str ⟨_, b23 _ _ (by simp) hl, by rw [sizeLine_eq, List.length_map]; omega, ?_⟩⟩))))
  refine b_cons (s_ret (e_cmp (e_rep B C.gd C.un (e_callK0 (ks := ["width", "line", "signs"]) (g := fun l => l.reverse) C D1 (k_cons (e_name 2 (k_cons (e_name 1 (k_cons (e_name 0 (k_nil ?_))))))) vals_rev rfl (fun _ _ _ _ _ _ us hl => match us, (List.length_reverse (as := us)).symm.trans hl with | [_, _, _], _ => rfl)))))
  refine call _ _ _ fun q2 H5 b5 hq2 hl2 => ?_
  refine ⟨[], _, .lst (.inl (.inl hl2)) (by simp) (DDs.strs _), hrp, e_name 4 (c_eq rfl ?_)⟩
  have e9 : decide (V.str (PyData.list ((piecesOf v n).map PyData.str)).shown = V.str (PyData.list ((piecesOf v n).map PyData.str)).shown) = true := by simp
  rw [e9]
  refine hQ _ ?_
  have b05 : But [q] H1 H5 := (b23.of.trans (But.at (by simp))).trans b5.of
  intro a o _ ha
  have haq : a ≠ q := ne_of_none ha hq
  exact b05 _ _ (by simp [haq]) (b1 _ _ (by simp) ha)
end
end K70

set_option Elab.async false
set_option linter.all false
set_option maxRecDepth 100000
set_option maxHeartbeats 4000000
namespace K70
open PySem PySem.Spec PyProof.Rows L2 Z LamX
theorem boot_VE : bootBuiltins "ValueError" = some (.type "ValueError") := by decide +kernel
/-- the error classes: LineError at CE, the three over it -/
structure Errs (K : PySem.W.Frag) (mg : Str → Option Value) (CE CS CL CW : Addr) : Prop where
  gE : mg "LineError" = some (.ref CE)
  gS : mg "InvalidSigns" = some (.ref CS)
  gL : mg "InvalidLine" = some (.ref CL)
  gW : mg "InvalidWidth" = some (.ref CW)
  SS : PySem.W.exmOne K (.ref CS) (.ref CS) = some true
  LS : PySem.W.exmOne K (.ref CL) (.ref CS) = some false
  LL : PySem.W.exmOne K (.ref CL) (.ref CL) = some true
  WS : PySem.W.exmOne K (.ref CW) (.ref CS) = some false
  WL : PySem.W.exmOne K (.ref CW) (.ref CL) = some false
  WW : PySem.W.exmOne K (.ref CW) (.ref CW) = some true
  kS : PySem.W.kitOne K (.ref CS) (.ref CE) = some true
  kL : PySem.W.kitOne K (.ref CL) (.ref CE) = some true
  kW : PySem.W.kitOne K (.ref CW) (.ref CE) = some true
  vS : PySem.W.kitOne K (.ref CS) (.type "ValueError") = some true
  xS : ExcC K CS
  xL : ExcC K CL
  xW : ExcC K CW
  nS : PySem.W.findIn K (.ref CS) "value" = some none
  nL : PySem.W.findIn K (.ref CL) "value" = some none
  nW : PySem.W.findIn K (.ref CW) "value" = some none
  fS : XfC K CS
  fL : XfC K CL
  fW : XfC K CW
def Tag (CS CL CW C0 : Addr) (tag : Str) : Prop := (C0 = CS ∧ tag = "signs") ∨ (C0 = CL ∧ tag = "line") ∨ (C0 = CW ∧ tag = "width")
/-- what an error is told as -/
def EHeard (K : PySem.W.Frag) (CS CL CW : Addr) (l : List Addr) (H : Hp) (Q : VK) : XK := fun cls dd H2 => ∃ C0 tag a v l' d, cls = .ref C0 ∧ Tag CS CL CW C0 tag ∧ dd = some a ∧ H2 a = some (.xd [("value", v)]) ∧ DD K l' H2 v d ∧ rp d = true ∧ But l H H2 ∧
  ∀ p H3, But [] H2 H3 → H3 p = some (.lst [.str tag, .str d.shown, .bl true]) → Q (.ref p) H3
theorem scHeard : FnScope ["call", "told", "e"] ["call"] (defScope (top 24)) := ⟨rfl, rfl, rfl, by decide +kernel, rfl, by decide +kernel, by decide +kernel⟩
section
variable {X : Cx} {k : Nat} {W : WX} {σ : L2.St} {H : Hp} {Q : VK}
theorem e_heard {CE CS CL CW : Addr} {T : List (Addr × Str)} {c P : Addr} {params : Arguments} {body : Expr} {scope : Scope} {p lpos pos : Pos} (l : List Addr)
    (C : Cxt X (k + 2) W) (D : At X.K X.mg "_law_heard" (top 24)) (ER : Errs X.K X.mg CE CS CL CW) (TB : TabB X.base X.mg c P) (hcode : X.env.code = .ref c) (hmT : (P, X.env.qual ++ "<lambda>") ∈ T) (hu : ∀ p ∈ T, p.1 = P → p.2 = X.env.qual ++ "<lambda>")
    (L : LamS X.env.scope scope) (hT : Tabs T H) (hl : ∀ q ∈ l, ∃ xs, H q = some (.lst xs))
    (h : ∀ H1, ExtN H H1 → Tabs T H1 → ∀ (f c' : Addr) (A : Around) (outer : List Env) (s' : Shared) (H' : Hp), Cxt (lamCx X A outer s' H' (EHeard X.K CS CL CW l H1 Q) scope f c') k (fun cls d _ H => EHeard X.K CS CL CW l H1 Q cls d H) →
      wE (lamCx X A outer s' H' (EHeard X.K CS CL CW l H1 Q) scope f c') body σ H1 fun v H2 => But l H1 H2 ∧ ∀ q, H2 q = some (.lst [.str "none"]) → Q (.ref q) H2)
    (hg : Gl X "_law_heard" := by rfl) (hdef : defaultsOf params X.env = ([], []) := by rfl)
    (hbl : ∀ (q : Str) (cl : List (Str × Addr)) (pm cv ctv : Value), bindArgs (PySem.W.kla_fn "<lambda>" q params body scope cl pm cv ctv) ⟨[], []⟩ = pure [] := by intros; rfl) :
    wE X (.Call (.Name "_law_heard" p) [.Lambda params body scope lpos] [] pos) σ H Q := by
  refine e_lam C D scHeard TB hcode hmT hu L hT (fun g cdg f c' s H1 eN T1 hco CZ act => ?_) rfl (.inl rfl) hg hdef hbl
  refine b_cons (s_set (i := 1) (e_lst (a_cons (e_str (a_nil ⟨by rw [sizeLine_eq]; exact (by decide : 1 ≤ 16777216), fun q hq => ?_⟩)))) CZ.nd)
  have eN2 : ExtN H (upd H1 q (.lst [.str "none"])) := eN.trans (ExtN.of fun b o e => by rw [upd_ne (ne_of_none e hq)]; exact e)
  have T2 : Tabs T (upd H1 q (.lst [.str "none"])) := T1.ext fun b o e => by rw [upd_ne (ne_of_none e hq)]; exact e
  have hco2 : upd H1 q (.lst [.str "none"]) c' = some (CodeO c' (X.env.qual ++ "<lambda>")) := by rw [upd_ne (ne_of_none hco hq)]; exact hco
  have hql : q ∉ l := fun hm => by
    obtain ⟨xs, e⟩ := hl q hm
    have := eN q _ e (fun ps z => by cases z)
    rw [this] at hq
    cases hq
  refine b_cons (s_try CZ (.cons (c := .ref CS) (i := 2) ⟨rfl, by decide, .inl ER.gS⟩ rfl rfl (.cons (c := .ref CL) (i := 2) ⟨rfl, by decide, .inl ER.gL⟩ rfl rfl (.cons (c := .ref CW) (i := 2) ⟨rfl, by decide, .inl ER.gW⟩ rfl rfl .nil))) fun pn xe Ct => ?_)
  refine b_cons (s_expr (act _ pn xe (EHeard X.K CS CL CW l (upd H1 q (.lst [.str "none"])) Q) _ _ _ _ _ Ct.tk (fun cls dd H' hE => ?_) rfl hco2 (fun A outer s' H' Cl => wE_mono (h _ eN2 T2 f c' A outer s' H' Cl) fun v H2 ⟨b2, hq2⟩ => ?_)))
  · obtain ⟨C0, tag, a, v, l', d, rfl, ht, rfl, ha, hd, hrp, hb, hQ⟩ := hE
    have z3 : 3 ≤ sizeLine := by rw [sizeLine_eq]; exact (by decide : 3 ≤ 16777216)
    rcases ht with ⟨rfl, rfl⟩ | ⟨rfl, rfl⟩ | ⟨rfl, rfl⟩
    · refine ⟨true, ER.SS, fun _ a1 oe pn hz hf na => ?_, fun e => by cases e⟩
      refine b_cons (s_set (i := 1) (e_lst (a_cons (e_str (a_cons (e_rep CZ.blt CZ.gd CZ.un (e_xf ER.fS ER.nS hz hf (e_name 2 ⟨rfl, ha, l', d, hd, hrp, a_cons ?_⟩))))))) CZ.nd)
      have fin : ∀ q2 H3, H' q2 = none → H3 = upd H' q2 (.lst [.str "signs", .str d.shown, .bl true]) → Q (.ref q2) H3 := fun q2 H3 hn e => hQ q2 H3 (by rw [e]; exact But.new hn) (by rw [e]; exact upd_same)
      refine e_and (e_B (id := "isinstance") (a_cons (e_name 2 (a_cons (e_glob (a_nil (c_isX (c := .ref CE) ER.xS hz hf (fun u r => r) ER.kS ha ⟨true, rfl, e_one (e_B (id := "isinstance") (a_cons (e_name 2 (a_cons (e_blt (v := .ty "ValueError") (a_nil (c_isX (c := .ty "ValueError") ER.xS hz hf (fun u r => r) ER.vS ha ?_)) CZ.blt.valueError boot_VE rfl)))) CZ.blt.isinstance PyProof.Rows.boot_isinstance)⟩)) ER.gE rfl)))) CZ.blt.isinstance PyProof.Rows.boot_isinstance)
      exact a_nil ⟨z3, fun q2 hn => b_nil (b_cons (s_ret (e_name 1 (fin q2 _ hn rfl))))⟩
    · refine ⟨false, ER.LS, fun e => (by cases e), fun _ => ⟨true, ER.LL, fun _ a1 oe pn hz hf na => ?_, fun e => by cases e⟩⟩
      refine b_cons (s_set (i := 1) (e_lst (a_cons (e_str (a_cons (e_rep CZ.blt CZ.gd CZ.un (e_xf ER.fL ER.nL hz hf (e_name 2 ⟨rfl, ha, l', d, hd, hrp, a_cons ?_⟩))))))) CZ.nd)
      have fin : ∀ q2 H3, H' q2 = none → H3 = upd H' q2 (.lst [.str "line", .str d.shown, .bl true]) → Q (.ref q2) H3 := fun q2 H3 hn e => hQ q2 H3 (by rw [e]; exact But.new hn) (by rw [e]; exact upd_same)
      refine e_B (id := "isinstance") (a_cons (e_name 2 (a_cons (e_glob (a_nil (c_isX (c := .ref CE) ER.xL hz hf (fun u r => r) ER.kL ha ?_)) ER.gE rfl)))) CZ.blt.isinstance PyProof.Rows.boot_isinstance
      exact a_nil ⟨z3, fun q2 hn => b_nil (b_cons (s_ret (e_name 1 (fin q2 _ hn rfl))))⟩
    · refine ⟨false, ER.WS, fun e => (by cases e), fun _ => ⟨false, ER.WL, fun e => (by cases e), fun _ => ⟨true, ER.WW, fun _ a1 oe pn hz hf na => ?_, fun e => by cases e⟩⟩⟩
      refine b_cons (s_set (i := 1) (e_lst (a_cons (e_str (a_cons (e_rep CZ.blt CZ.gd CZ.un (e_xf ER.fW ER.nW hz hf (e_name 2 ⟨rfl, ha, l', d, hd, hrp, a_cons ?_⟩))))))) CZ.nd)
      have fin : ∀ q2 H3, H' q2 = none → H3 = upd H' q2 (.lst [.str "width", .str d.shown, .bl true]) → Q (.ref q2) H3 := fun q2 H3 hn e => hQ q2 H3 (by rw [e]; exact But.new hn) (by rw [e]; exact upd_same)
      refine e_B (id := "isinstance") (a_cons (e_name 2 (a_cons (e_glob (a_nil (c_isX (c := .ref CE) ER.xW hz hf (fun u r => r) ER.kW ha ?_)) ER.gE rfl)))) CZ.blt.isinstance PyProof.Rows.boot_isinstance
      exact a_nil ⟨z3, fun q2 hn => b_nil (b_cons (s_ret (e_name 1 (fin q2 _ hn rfl))))⟩
  · refine b_nil (b_cons (s_ret (e_name 1 ?_)))
    exact hq2 q (b2 _ _ hql upd_same)
end
end K70

set_option Elab.async false
set_option linter.all false
set_option maxRecDepth 100000
set_option maxHeartbeats 4000000
namespace K70
open PySem PySem.Spec PyProof.Rows L2 Z LamX
section
variable {P : Program} {w : World} {K : PySem.W.Frag} {mg : Str → Option Value} {base : Heap}
/-- what is told of a refused datum -/
def okD (d : PyData) : Bool := rp d && PyData.strOk d.shown && (match d with | .str x => decide (x.length ≤ 1000000) | _ => true)
theorem okD_fits {d : PyData} (h : okD d = true) : K70.fits d := by
  cases d <;> simp [okD, K70.fits] at h ⊢
  rw [sizeLine_eq]; omega
def aliens : List PyData := [.none, .int 3, .str "", .str "a", .str "a-", .str "--", .str "-A", .str "-a>", .list [.str "-", .str "a"], .tuple [.str "-a"], .str "-0123", .str "- a", .bool true, .str "aa"]
def stranges (v : Str) : List PyData := [.none, .int 7, .str "b", .str "-b", .str "A", .list [.str "-"], .tuple [.str "-"], .dict [], .bool true, .str "a a", .str (v ++ "!"), .str "_"]
def odds : List PyData := [.none, .int 0, .int 5, .int (-1), .bool true, .str "2", .tuple [.int 1], .list [.int 2], .int (10 ^ (18 + 11)), .dict []]
theorem aliens_ok : ∀ d ∈ aliens, okD d = true ∧ areSigns d = false := by
  intro d hd
  simp only [aliens, List.mem_cons, List.not_mem_nil, or_false] at hd
  rcases hd with rfl | rfl | rfl | rfl | rfl | rfl | rfl | rfl | rfl | rfl | rfl | rfl | rfl | rfl <;> decide +kernel
theorem odds_ok : ∀ d ∈ odds, okD d = true ∧ isWidth d = false := by
  intro d hd
  simp only [odds, List.mem_cons, List.not_mem_nil, or_false] at hd
  rcases hd with rfl | rfl | rfl | rfl | rfl | rfl | rfl | rfl | rfl | rfl <;> decide +kernel
def glyphSets : List Str := ["-a", "->a", "-.a", "=>a", "-.>a", "0aq"]
theorem glyphs_ok : ∀ g ∈ glyphSets, strSigns g = true ∧ (∀ x ∈ (["b", "-b", "A", "a a", "_"] : List Str), isLine g (.str x) = false) ∧ 33 ∉ g.cps.toList := by decide +kernel
theorem stranges_ok {g v : Str} (hg : g ∈ glyphSets) (hv : isLine g (.str v) = true) (hl : v.length ≤ 1000) : ∀ d ∈ stranges v, okD d = true ∧ isLine g d = false := by
  intro d hd
  obtain ⟨h1, h2, h3⟩ := glyphs_ok g hg
  have happ : (v ++ "!" : Str).cps.toList = v.cps.toList ++ [33] := TL.tl_append v "!"
  have hlen : (v ++ "!" : Str).length = v.length + 1 := by
    have := congrArg List.length happ
    rw [Array.length_toList, List.length_append, Array.length_toList] at this
    exact this
  have hc : ∀ c ∈ (v ++ "!" : Str).cps.toList, c < 128 := fun c hc => by
    rw [happ, List.mem_append] at hc
    rcases hc with hc | hc
    · simp only [isLine, List.all_eq_true, decide_eq_true_eq] at hv
      exact strSigns_mem h1 c (hv c hc)
    · simp at hc
      omega
  simp only [stranges, List.mem_cons, List.not_mem_nil, or_false] at hd
  rcases hd with rfl | rfl | rfl | rfl | rfl | rfl | rfl | rfl | rfl | rfl | rfl | rfl
  · exact ⟨by decide +kernel, rfl⟩
  · exact ⟨by decide +kernel, rfl⟩
  · exact ⟨by decide +kernel, h2 _ (by simp)⟩
  · exact ⟨by decide +kernel, h2 _ (by simp)⟩
  · exact ⟨by decide +kernel, h2 _ (by simp)⟩
  · exact ⟨by decide +kernel, rfl⟩
  · exact ⟨by decide +kernel, rfl⟩
  · exact ⟨by decide +kernel, rfl⟩
  · exact ⟨by decide +kernel, rfl⟩
  · exact ⟨by decide +kernel, h2 _ (by simp)⟩
  · refine ⟨?_, ?_⟩
    · have e1 : rp (.str (v ++ "!")) = true := rp_str (by omega) fun c h => by have := hc c h; omega
      have e2 := strOk_repr hc
      simp only [okD, e1, e2, Bool.true_and, decide_eq_true_eq]
      omega
    · simp only [isLine]
      rw [happ, List.all_append]
      have : decide ((33 : Nat) ∈ g.cps.toList) = false := decide_eq_false h3
      simp only [List.all_cons, List.all_nil, this, Bool.false_and, Bool.and_false]
  · exact ⟨by decide +kernel, h2 _ (by simp)⟩
end
end K70

set_option Elab.async false
set_option linter.all false
set_option maxRecDepth 100000
set_option maxHeartbeats 4000000
namespace K70
open PySem PySem.Spec PyProof.Rows L2 Z LamX
section
variable {P : Program} {w : World} {K : PySem.W.Frag} {mg : Str → Option Value} {base : Heap}
def lamQ : Str := ("_law_refused_right" ++ ".<locals>.") ++ "<lambda>"
abbrev tabsR (Pt : Addr) : List (Addr × Str) := [(Pt, lamQ)]
def spRef (K : PySem.W.Frag) (Pt : Addr) : Sp := fun vs H Q _ => ∃ (p : Addr) (g v : Str), vs = [.ref p, .str g, .str v] ∧ g ∈ glyphSets ∧ isLine g (.str v) = true ∧ v.length ≤ 1000 ∧ Pot H p ∧ Tabs (tabsR Pt) H ∧
  ∀ H', Ex [p] H H' → Pot H' p → Tabs (tabsR Pt) H' → Q (.bl true) H'
theorem scRef : FnScope ["pot", "glyphs", "verse", "alien", "strange", "odd", "told", "due"] ["pot", "glyphs", "verse"] (defScope (top 25)) := ⟨rfl, rfl, rfl, by decide +kernel, rfl, by decide +kernel, by decide +kernel⟩
theorem Pot.here {H : Hp} {p : Addr} (h : Pot H p) : Here [p] H := fun q hq => by
  obtain ⟨a, b, e, _⟩ := h
  rw [List.mem_singleton.mp hq]
  exact ⟨_, e⟩
theorem Pot.lsts {H : Hp} {p : Addr} (h : Pot H p) : ∀ q ∈ [p], ∃ xs, H q = some (.lst xs) := fun q hq => by
  obtain ⟨a, b, e, _⟩ := h
  rw [List.mem_singleton.mp hq]
  exact ⟨_, e⟩
theorem Pot.ne {H : Hp} {p q : Addr} {x : Str} {r : List V} (h : Pot H p) (e : H q = some (.lst (.str x :: r))) : q ≠ p := fun z => by
  obtain ⟨a, b, e2, _⟩ := h
  rw [z, e2] at e
  cases e
theorem Pot.exn {H H' : Hp} {p : Addr} (h : Pot H p) (e : ExtN H H') : Pot H' p := let ⟨a, b, x, r⟩ := h; ⟨a, b, e _ _ x (fun ps z => by cases z), r⟩
theorem Pot.there {H : Hp} {p : Addr} (h : Pot H p) {t : Addr} (n : H t = none) : t ≠ p := fun z => by
  obtain ⟨a, b, x, _⟩ := h
  rw [z, x] at n
  cases n
theorem refs_ne {H : Hp} {q t a : Addr} {x : Str} {r r' : List V} (h : H q = some (.lst (.str x :: r))) (h' : H t = some (.lst (.ref a :: r'))) : q ≠ t := fun z => by
  rw [z, h'] at h
  cases h
/-- what is held on the way -/
structure RS (p Pt : Addr) (l : List Addr) (al st od : V) (da ds dO : PyData) (H : Hp) : Prop where
  pot : Pot H p
  tab : Tabs (tabsR Pt) H
  dA : DD [] l H al da
  dS : DD [] l H st ds
  dO : DD [] l H od dO
section
variable {p Pt : Addr} {l : List Addr} {al st od : V} {da ds dO : PyData} {H H7 H8 H9 : Hp}
theorem RS.go (R : RS p Pt l al st od da ds dO H) (hpl : p ∈ l) (e : ExtN H H7) (t : Tabs (tabsR Pt) H7) (b : But [p] H7 H8) (hp8 : Pot H8 p) (c : But [] H8 H9) : RS p Pt l al st od da ds dO H9 ∧ Ex [p] H H9 := by
  have x : Ex [p] H H9 := (ex_of e).trans (b.ex.trans c.of.ex)
  have xl : Ex l H H9 := x.mono fun q hq => by rw [List.mem_singleton.mp hq]; exact hpl
  exact ⟨⟨hp8.new c, tabs_new (tabs_but t b (R.pot.exn e).lsts) c, R.dA.ex xl, R.dS.ex xl, R.dO.ex xl⟩, x⟩
theorem RS.new (R : RS p Pt l al st od da ds dO H) {t : Addr} {o : HO} (n : H t = none) : RS p Pt (t :: l) al st od da ds dO (upd H t o) :=
  ⟨R.pot.new (But.new n), tabs_new R.tab (But.new n), (R.dA.add n).but (But.new n), (R.dS.add n).but (But.new n), (R.dO.add n).but (But.new n)⟩
theorem RS.set (R : RS p Pt l al st od da ds dO H) {t : Addr} {xs ys : List V} (h : H t = some (.lst xs)) (ht : t ∈ l) (n : t ≠ p) : RS p Pt l al st od da ds dO (upd H t (.lst ys)) := by
  have b : But [t] H (upd H t (.lst ys)) := But.at (by simp)
  have bl : But l H (upd H t (.lst ys)) := b.mono fun q hq => by rw [List.mem_singleton.mp hq]; exact ht
  refine ⟨?_, tabs_but R.tab b (fun q hq => ⟨xs, by rw [List.mem_singleton.mp hq]; exact h⟩), R.dA.but bl, R.dS.but bl, R.dO.but bl⟩
  obtain ⟨a, b, x, r⟩ := R.pot
  exact ⟨a, b, by rw [upd_ne n.symm]; exact x, r⟩
end
/-- what is due, as a datum -/
def dueD (da ds dO : PyData) : PyData := .list [.list [.str "signs", .str da.shown, .bool true], .list [.str "line", .str ds.shown, .bool true], .list [.str "width", .str dO.shown, .bool true], .list [.str "none"]]
theorem due_ok {da ds dO : PyData} (h1 : okD da = true) (h2 : okD ds = true) (h3 : okD dO = true) : SeqAt.shaped (dueD da ds dO) = true ∧ PyData.eqv (dueD da ds dO) (dueD da ds dO) = true := by
  simp only [okD, Bool.and_eq_true] at h1 h2 h3
  have e : (dueD da ds dO).canLay0 = true := by
    simp only [dueD, PyData.canLay0, PyData.canLayAll0, h1.1.2, h2.1.2, h3.1.2, Bool.and_true]
    decide +kernel
  refine ⟨?_, SeqAt.eqv_refl _ e⟩
  unfold SeqAt.shaped
  rw [e]
  simp [dueD, PyData.depth, PyData.depthAll]
theorem d_ref {CE CS CL CW c Pt : Addr} (B : Blt mg base) (D : AtC K mg "_law_refused_right" (top 25) c) (TB : TabB base mg c Pt) (D1 : Def P w K mg base 2 "_law_pick" (top 22) ["pot", "some"] (spPick K)) (D0 : Def P w K mg base 1 "_law_draw" (top 21) ["pot", "sides"] spDraw)
    (D2 : Def P w K mg base 4 "pieces" (top 18) ["signs", "line", "width"] (spCut K CS CL CW)) (D3 : At K mg "_law_heard" (top 24)) (ER : Errs K mg CE CS CL CW) :
    Def P w K mg base 8 "_law_refused_right" (top 25) ["pot", "glyphs", "verse"] (spRef K Pt) := by
  refine def_ofC D B scRef (fun vs H Q E ⟨_, _, _, e, _⟩ => by rw [e]; rfl) fun f A outer s H vs Q E hm C h => ?_
  obtain ⟨p, g, v, rfl, hg, hv, hvl, hp, hT, hQ⟩ := h
  have hvs : v.length + 1 ≤ sizeLine := by rw [sizeLine_eq]; omega
  -- alien
  refine b_cons (s_set (i := 3) (e_call (C.mono (by decide)) D1 (a_cons (e_name 0 (a_cons (e_lits (K := []) (l := [p]) (ds := aliens) hp.here (lits_cons lit_none (lits_cons lit_int (lits_cons lit_str (lits_cons lit_str (lits_cons lit_str (lits_cons lit_str (lits_cons lit_str (lits_cons lit_str
    (lits_cons (lit_lst hp.here (lits_cons lit_str (lits_cons lit_str lits_nil))) (lits_cons (lit_tup hp.here (lits_cons lit_str lits_nil)) (lits_cons lit_str (lits_cons lit_str (lits_cons lit_bool (lits_cons lit_str lits_nil)))))))))))))) fun q vs H1 b1 hq hqp hd => a_nil ?_)))) rfl (fun _ _ _ _ _ _ us hl => match us, hl with | [_, _], _ => rfl)) C.nd)
  refine ⟨p, hp.new b1, .inl ⟨q, vs, rfl, by simpa using hqp, .inl (.inl hq), by rw [hd.length]; decide, by rw [hd.length]; decide, fun al hal H2 b2 hp2 => ?_⟩⟩
  obtain ⟨da, hda, dA⟩ := DDs.mem (hd.but b2) hal
  obtain ⟨okA, noA⟩ := aliens_ok da hda
  have x2 : Ex [p] H H2 := (b1.of.trans b2).ex
  have t2 : Tabs (tabsR Pt) H2 := tabs_but (tabs_new hT b1) b2 (hp.new b1).lsts
  clear hd hq hqp hal
  -- strange
  refine b_cons (s_set (i := 4) (e_call (C.mono (by decide)) D1 (a_cons (e_name 0 (a_cons (e_lits (K := []) (l := [p]) (ds := stranges v) hp2.here (lits_cons lit_none (lits_cons lit_int (lits_cons lit_str (lits_cons lit_str (lits_cons lit_str
    (lits_cons (lit_lst hp2.here (lits_cons lit_str lits_nil)) (lits_cons (lit_tup hp2.here (lits_cons lit_str lits_nil)) (lits_cons (lit_dict0 hp2.here) (lits_cons lit_bool (lits_cons lit_str (lits_cons (fun H1 b1 => e_bin (e_name 2 (e_str ?_))) (lits_cons lit_str lits_nil)))))))))))) (fun q vs H3 b3 hq hqp hd => a_nil ?_) (by simp [stranges]))))) rfl (fun _ _ _ _ _ _ us hl => match us, hl with | [_, _], _ => rfl)) C.nd)
  · exact o_adds hvs ⟨But.refl, .str _⟩
  refine ⟨p, hp2.new b3, .inl ⟨q, vs, rfl, by simpa using hqp, .inl (.inl hq), by rw [hd.length]; simp [stranges], by rw [hd.length]; simp [stranges], fun st hst H4 b4 hp4 => ?_⟩⟩
  obtain ⟨ds, hds, dS⟩ := DDs.mem (hd.but b4) hst
  obtain ⟨okS, noS⟩ := stranges_ok hg hv hvl ds hds
  have b24 : But [p] H2 H4 := b3.of.trans b4
  have x4 : Ex [p] H H4 := x2.trans b24.ex
  have t4 : Tabs (tabsR Pt) H4 := tabs_but (tabs_new t2 b3) b4 (hp2.new b3).lsts
  have dA4 := dA.but b24
  clear hd hq hqp hst
  -- odd
  refine b_cons (s_set (i := 5) (e_call (C.mono (by decide)) D1 (a_cons (e_name 0 (a_cons (e_lits (K := []) (l := [p]) (ds := odds) hp4.here (lits_cons lit_none (lits_cons lit_int (lits_cons lit_int (lits_cons lit_neg (lits_cons lit_bool (lits_cons lit_str
    (lits_cons (lit_tup hp4.here (lits_cons lit_int lits_nil)) (lits_cons (lit_lst hp4.here (lits_cons lit_int lits_nil)) (lits_cons (lit_pow ⟨by decide, by decide, by decide⟩) (lits_cons (lit_dict0 hp4.here) lits_nil)))))))))) (fun q vs H5 b5 hq hqp hd => a_nil ?_) (by decide))))) rfl (fun _ _ _ _ _ _ us hl => match us, hl with | [_, _], _ => rfl)) C.nd)
  refine ⟨p, hp4.new b5, .inl ⟨q, vs, rfl, by simpa using hqp, .inl (.inl hq), by rw [hd.length]; decide, by rw [hd.length]; decide, fun od hod H6 b6 hp6 => ?_⟩⟩
  obtain ⟨dO, hdO, dOO⟩ := DDs.mem (hd.but b6) hod
  obtain ⟨okO, noO⟩ := odds_ok dO hdO
  have b46 : But [p] H4 H6 := b5.of.trans b6
  have x6 : Ex [p] H H6 := x4.trans b46.ex
  have t6 : Tabs (tabsR Pt) H6 := tabs_but (tabs_new t4 b5) b6 (hp4.new b5).lsts
  have dA6 := dA4.but b46
  have dS6 := dS.but b46
  clear hd hq hqp hod
  have hgs := glyphs_ok g hg
  have hgd : areSigns (.str g) = true := hgs.1
  have hgf : K70.fits (.str g) := by have := strSigns_len hgs.1; show g.length ≤ _; rw [sizeLine_eq]; omega
  have hvf : K70.fits (.str v) := by show v.length ≤ _; omega
  have rpA : rp da = true := by simp only [okD, Bool.and_eq_true] at okA; exact okA.1.1
  have rpS : rp ds = true := by simp only [okD, Bool.and_eq_true] at okS; exact okS.1.1
  have rpO : rp dO = true := by simp only [okD, Bool.and_eq_true] at okO; exact okO.1.1
  have R6 : RS p Pt [p] al st od da ds dO H6 := ⟨hp6, t6, dA6, dS6, dOO⟩
  have hpm : p ∈ [p] := by simp
  have one : ∀ n, n ≤ 16777216 → n ≤ sizeLine := fun n h => by rw [sizeLine_eq]; exact h
  -- told, first
  refine b_cons (s_set (i := 6) (e_lst (a_cons (e_heard (k := 5) [p] C D3 ER TB rfl (List.mem_singleton.mpr rfl) (fun q hq _ => by rw [List.mem_singleton.mp hq]) (lamS_by rfl) R6.tab R6.pot.lsts fun H7 eN T7 f c' A' outer' s' Hs CXl => ?_)) ) C.nd)
  refine e_call (CXl.mono (by decide)) D2 (a_cons (e_name 3 (a_cons (e_name 4 (a_cons (e_name 5 (a_nil ?_))))))) rfl (fun _ _ _ _ _ _ us hl => match us, hl with | [_, _, _], _ => rfl)
  refine ⟨al, st, od, [p], [p], [p], da, ds, dO, rfl, ((R6.dA.ex (ex_of eN)).all), ((R6.dS.ex (ex_of eN)).all), ((R6.dO.ex (ex_of eN)).all), okD_fits okA, okD_fits okS, okD_fits okO, fun _ dd H8 b8 hx => ?_, fun e => by rw [noA] at e; cases e⟩
  refine ⟨CS, "signs", dd, al, [p], da, rfl, .inl ⟨rfl, rfl⟩, rfl, hx, ((R6.dA.ex (ex_of eN)).all).but b8.of, rpA, b8.of, fun q1 H9 b9 hq1 => a_nil ⟨one 1 (by decide), fun tq htq => ?_⟩⟩
  obtain ⟨R9, x9⟩ := R6.go hpm eN T7 b8.of ((R6.pot.exn eN).new b8) b9
  have R10 := R9.new (o := .lst [.ref q1]) htq
  have hq1' : upd H9 tq (.lst [.ref q1]) q1 = some (.lst [.str "signs", .str da.shown, .bl true]) := by rw [upd_ne (ne_of_none hq1 htq)]; exact hq1
  have ntp : tq ≠ p := R9.pot.there htq
  have ht10 : upd H9 tq (.lst [.ref q1]) tq = some (.lst [.ref q1]) := upd_same
  have X06 : Ex [p] H (upd H9 tq (.lst [.ref q1])) := x6.trans (x9.trans (But.new htq).ex)
  have ntq : ∀ q o, q ∉ [p] → H q = some o → (∀ ps, o ≠ .tbl ps) → q ≠ tq := fun q o n e t => ne_of_none ((x6.trans x9) q o n e t) htq
  generalize upd H9 tq (.lst [.ref q1]) = H10 at R10 hq1' ht10 X06 ⊢
  have hpm2 : p ∈ [tq, p] := by simp
  clear R9 x9 htq hq1 b9 hx b8 T7 eN
  have nq1t : q1 ≠ tq := refs_ne hq1' ht10
  have nq1p : q1 ≠ p := R10.pot.ne hq1'
  -- second
  refine b_cons (s_expr (e_append (e_name 6 ⟨tq, rfl, ⟨_, ht10⟩, e_heard (k := 5) [p] C D3 ER TB rfl (List.mem_singleton.mpr rfl) (fun q hq _ => by rw [List.mem_singleton.mp hq]) (lamS_by rfl) R10.tab R10.pot.lsts fun H7 eN T7 f c' A' outer' s' Hs CXl => ?_⟩)))
  refine e_call (CXl.mono (by decide)) D2 (a_cons (e_name 1 (a_cons (e_name 4 (a_cons (e_name 5 (a_nil ?_))))))) rfl (fun _ _ _ _ _ _ us hl => match us, hl with | [_, _, _], _ => rfl)
  refine ⟨.str g, st, od, [tq, p], [tq, p], [tq, p], .str g, ds, dO, rfl, .str g, ((R10.dS.ex (ex_of eN)).all), ((R10.dO.ex (ex_of eN)).all), hgf, okD_fits okS, okD_fits okO, (fun e => by rw [hgd] at e; cases e), fun _ g' eg => ?_⟩
  cases eg
  refine ⟨fun _ dd H8 b8 hx => ?_, fun e => by rw [noS] at e; cases e⟩
  refine ⟨CL, "line", dd, st, [tq, p], ds, rfl, .inr (.inl ⟨rfl, rfl⟩), rfl, hx, ((R10.dS.ex (ex_of eN)).all).but b8.of, rpS, b8.of, fun q2 H9 b9 hq2 => ?_⟩
  obtain ⟨R9, x9⟩ := R10.go hpm2 eN T7 b8.of ((R10.pot.exn eN).new b8) b9
  have ht9 := x9.lst (by simpa using ntp) ht10
  have hq19 := x9.lst (by simpa using nq1p) hq1'
  have nq2t : q2 ≠ tq := refs_ne hq2 ht9
  have nq2p : q2 ≠ p := R9.pot.ne hq2
  refine ⟨_, ht9, by rw [sizeLine_eq]; exact (by decide : 1 < 16777216), ?_⟩
  have R11 := R9.set (ys := [.ref q1] ++ [.ref q2]) ht9 (by simp) ntp
  have hq1'' : upd H9 tq (.lst ([.ref q1] ++ [.ref q2])) q1 = some (.lst [.str "signs", .str da.shown, .bl true]) := by rw [upd_ne nq1t]; exact hq19
  have hq2'' : upd H9 tq (.lst ([.ref q1] ++ [.ref q2])) q2 = some (.lst [.str "line", .str ds.shown, .bl true]) := by rw [upd_ne nq2t]; exact hq2
  have ht11 : upd H9 tq (.lst ([.ref q1] ++ [.ref q2])) tq = some (.lst [.ref q1, .ref q2]) := upd_same
  have X11 : Ex [p] H (upd H9 tq (.lst ([.ref q1] ++ [.ref q2]))) := fun q o n e t => by rw [upd_ne (ntq q o n e t)]; exact (X06.trans x9) q o n e t
  generalize upd H9 tq (.lst ([.ref q1] ++ [.ref q2])) = H11 at R11 hq1'' hq2'' ht11 X11 ⊢
  clear R9 x9 ht9 hq19 hq2 b9 hx b8 T7 eN R10 hq1' ht10 X06
  -- third
  refine b_cons (s_expr (e_append (e_name 6 ⟨tq, rfl, ⟨_, ht11⟩, e_heard (k := 5) [p] C D3 ER TB rfl (List.mem_singleton.mpr rfl) (fun q hq _ => by rw [List.mem_singleton.mp hq]) (lamS_by rfl) R11.tab R11.pot.lsts fun H7 eN T7 f c' A' outer' s' Hs CXl => ?_⟩)))
  refine e_call (CXl.mono (by decide)) D2 (a_cons (e_name 1 (a_cons (e_name 2 (a_cons (e_name 5 (a_nil ?_))))))) rfl (fun _ _ _ _ _ _ us hl => match us, hl with | [_, _, _], _ => rfl)
  refine ⟨.str g, .str v, od, [tq, p], [tq, p], [tq, p], .str g, .str v, dO, rfl, .str g, .str v, ((R11.dO.ex (ex_of eN)).all), hgf, hvf, okD_fits okO, (fun e => by rw [hgd] at e; cases e), fun _ g' eg => ?_⟩
  cases eg
  refine ⟨(fun e => by rw [hv] at e; cases e), fun _ => ⟨fun _ dd H8 b8 hx => ?_, fun e => by rw [noO] at e; cases e⟩⟩
  refine ⟨CW, "width", dd, od, [tq, p], dO, rfl, .inr (.inr ⟨rfl, rfl⟩), rfl, hx, ((R11.dO.ex (ex_of eN)).all).but b8.of, rpO, b8.of, fun q3 H9 b9 hq3 => ?_⟩
  obtain ⟨R9, x9⟩ := R11.go hpm2 eN T7 b8.of ((R11.pot.exn eN).new b8) b9
  have ht9 := x9.lst (by simpa using ntp) ht11
  have hq19 := x9.lst (by simpa using nq1p) hq1''
  have hq29 := x9.lst (by simpa using nq2p) hq2''
  have nq3t : q3 ≠ tq := refs_ne hq3 ht9
  have nq3p : q3 ≠ p := R9.pot.ne hq3
  refine ⟨_, ht9, by rw [sizeLine_eq]; exact (by decide : 2 < 16777216), ?_⟩
  have R12 := R9.set (ys := [.ref q1, .ref q2] ++ [.ref q3]) ht9 (by simp) ntp
  have h1a : upd H9 tq (.lst ([.ref q1, .ref q2] ++ [.ref q3])) q1 = some (.lst [.str "signs", .str da.shown, .bl true]) := by rw [upd_ne nq1t]; exact hq19
  have h2a : upd H9 tq (.lst ([.ref q1, .ref q2] ++ [.ref q3])) q2 = some (.lst [.str "line", .str ds.shown, .bl true]) := by rw [upd_ne nq2t]; exact hq29
  have h3a : upd H9 tq (.lst ([.ref q1, .ref q2] ++ [.ref q3])) q3 = some (.lst [.str "width", .str dO.shown, .bl true]) := by rw [upd_ne nq3t]; exact hq3
  have ht12 : upd H9 tq (.lst ([.ref q1, .ref q2] ++ [.ref q3])) tq = some (.lst [.ref q1, .ref q2, .ref q3]) := upd_same
  have X12 : Ex [p] H (upd H9 tq (.lst ([.ref q1, .ref q2] ++ [.ref q3]))) := fun q o n e t => by rw [upd_ne (ntq q o n e t)]; exact (X11.trans x9) q o n e t
  generalize upd H9 tq (.lst ([.ref q1, .ref q2] ++ [.ref q3])) = H12 at R12 h1a h2a h3a ht12 X12 ⊢
  clear R9 x9 ht9 hq19 hq29 hq3 b9 hx b8 T7 eN R11 hq1'' hq2'' ht11 X11
  -- fourth
  refine b_cons (s_expr (e_append (e_name 6 ⟨tq, rfl, ⟨_, ht12⟩, e_heard (k := 5) [p] C D3 ER TB rfl (List.mem_singleton.mpr rfl) (fun q hq _ => by rw [List.mem_singleton.mp hq]) (lamS_by rfl) R12.tab R12.pot.lsts fun H7 eN T7 f c' A' outer' s' Hs CXl => ?_⟩)))
  refine e_call (CXl.mono (by decide)) D2 (a_cons (e_name 1 (a_cons (e_name 2 (a_cons (e_bin (e_int (e_call (CXl.mono (by decide)) D0 (a_cons (e_name 0 (a_cons (e_int (a_nil ?_))))) rfl (fun _ _ _ _ _ _ us hl => match us, hl with | [_, _], _ => rfl))))))))) rfl (fun _ _ _ _ _ _ us hl => match us, hl with | [_, _, _], _ => rfl)
  refine ⟨p, 4, rfl, R12.pot.exn eN, by decide, by decide, fun r H8 r0 r4 b8 hp8 => o_add (a_nil ?_)⟩
  refine ⟨.str g, .str v, .int (1 + r), [], [], [], .str g, .str v, .int (1 + r), rfl, .str g, .str v, .int _, hgf, hvf, trivial, (fun e => by rw [hgd] at e; cases e), fun _ g' eg => ?_⟩
  cases eg
  have hw : isWidth (.int (1 + r)) = true := by simp only [isWidth, Bool.and_eq_true, decide_eq_true_eq]; omega
  refine ⟨(fun e => by rw [hv] at e; cases e), fun _ => ⟨(fun e => by rw [hw] at e; cases e), fun _ x n e1 e2 => ⟨?_, fun pp H8' b8' _ _ => ⟨b8.trans b8'.of, fun q4 hq4 => ?_⟩⟩⟩⟩
  · cases e1; omega
  obtain ⟨R9, x9⟩ := R12.go hpm2 eN T7 b8 hp8 b8'
  have ht9 := x9.lst (by simpa using ntp) ht12
  have h1b := x9.lst (by simpa using nq1p) h1a
  have h2b := x9.lst (by simpa using nq2p) h2a
  have h3b := x9.lst (by simpa using nq3p) h3a
  have nq4t : q4 ≠ tq := refs_ne hq4 ht9
  have nq4p : q4 ≠ p := R9.pot.ne hq4
  refine ⟨_, ht9, by rw [sizeLine_eq]; exact (by decide : 3 < 16777216), ?_⟩
  have R13 := R9.set (ys := [.ref q1, .ref q2, .ref q3] ++ [.ref q4]) ht9 (by simp) ntp
  have h1c : upd H8' tq (.lst ([.ref q1, .ref q2, .ref q3] ++ [.ref q4])) q1 = some (.lst [.str "signs", .str da.shown, .bl true]) := by rw [upd_ne nq1t]; exact h1b
  have h2c : upd H8' tq (.lst ([.ref q1, .ref q2, .ref q3] ++ [.ref q4])) q2 = some (.lst [.str "line", .str ds.shown, .bl true]) := by rw [upd_ne nq2t]; exact h2b
  have h3c : upd H8' tq (.lst ([.ref q1, .ref q2, .ref q3] ++ [.ref q4])) q3 = some (.lst [.str "width", .str dO.shown, .bl true]) := by rw [upd_ne nq3t]; exact h3b
  have h4c : upd H8' tq (.lst ([.ref q1, .ref q2, .ref q3] ++ [.ref q4])) q4 = some (.lst [.str "none"]) := by rw [upd_ne nq4t]; exact hq4
  have ht13 : upd H8' tq (.lst ([.ref q1, .ref q2, .ref q3] ++ [.ref q4])) tq = some (.lst [.ref q1, .ref q2, .ref q3, .ref q4]) := upd_same
  have X13 : Ex [p] H (upd H8' tq (.lst ([.ref q1, .ref q2, .ref q3] ++ [.ref q4]))) := fun q o n e t => by rw [upd_ne (ntq q o n e t)]; exact (X12.trans x9) q o n e t
  generalize upd H8' tq (.lst ([.ref q1, .ref q2, .ref q3] ++ [.ref q4])) = H13 at R13 h1c h2c h3c h4c ht13 X13 ⊢
  clear R9 x9 ht9 h1b h2b h3b hq4 b8 b8' T7 eN R12 h1a h2a h3a ht12 X12 hp8
  -- what is due
  have told : ∀ {H'}, But [] H13 H' → DD K [] H' (.ref tq) (dueD da ds dO) := fun b => .lst (.inl (.inl (b _ _ (by simp) ht13))) (by simp)
    (.cons (.lst (.inl (.inl (b _ _ (by simp) h1c))) (by simp) (.cons (.str _) (.cons (.str _) (.cons (.bl _) .nil))))
    (.cons (.lst (.inl (.inl (b _ _ (by simp) h2c))) (by simp) (.cons (.str _) (.cons (.str _) (.cons (.bl _) .nil))))
    (.cons (.lst (.inl (.inl (b _ _ (by simp) h3c))) (by simp) (.cons (.str _) (.cons (.str _) (.cons (.bl _) .nil))))
    (.cons (.lst (.inl (.inl (b _ _ (by simp) h4c))) (by simp) (.cons (.str _) .nil)) .nil))))
  refine b_cons (s_set (i := 7) (e_lst (a_cons (e_lst (a_cons (e_str (a_cons (e_rep B C.gd C.un (e_name 3 ⟨_, da, R13.dA.all, rpA, a_cons (e_bool (a_nil ⟨one 3 (by decide), fun d1 hd1 => ?_⟩))⟩)))))))) C.nd)
  refine a_cons (e_lst (a_cons (e_str (a_cons (e_rep B C.gd C.un (e_name 4 ⟨_, ds, (R13.dS.all).but (But.new hd1), rpS, a_cons (e_bool (a_nil ⟨one 3 (by decide), fun d2 hd2 => ?_⟩))⟩))))))
  refine a_cons (e_lst (a_cons (e_str (a_cons (e_rep B C.gd C.un (e_name 5 ⟨_, dO, (R13.dO.all).but ((But.new hd1).trans (But.new hd2)), rpO, a_cons (e_bool (a_nil ⟨one 3 (by decide), fun d3 hd3 => ?_⟩))⟩))))))
  refine a_cons (e_lst (a_cons (e_str (a_nil ⟨one 1 (by decide), fun d4 hd4 => a_nil ⟨one 4 (by decide), fun dq hdq => ?_⟩⟩))))
  have c5 := But.new (l := []) (o := .lst [.ref d1, .ref d2, .ref d3, .ref d4]) hdq
  have c4 := (But.new (l := []) (o := .lst [.str "none"]) hd4).trans c5
  have c3 := (But.new (l := []) (o := .lst [.str "width", .str dO.shown, .bl true]) hd3).trans c4
  have c2 := (But.new (l := []) (o := .lst [.str "line", .str ds.shown, .bl true]) hd2).trans c3
  have c1 := (But.new (l := []) (o := .lst [.str "signs", .str da.shown, .bl true]) hd1).trans c2
  have e1 := c2 _ _ (by simp) (upd_same (a := d1) (o := .lst [.str "signs", .str da.shown, .bl true]))
  have e2 := c3 _ _ (by simp) (upd_same (a := d2) (o := .lst [.str "line", .str ds.shown, .bl true]))
  have e3 := c4 _ _ (by simp) (upd_same (a := d3) (o := .lst [.str "width", .str dO.shown, .bl true]))
  have e4 := c5 _ _ (by simp) (upd_same (a := d4) (o := .lst [.str "none"]))
  obtain ⟨sh, ev⟩ := due_ok okA okS okO
  have tld := told c1
  have due : DD K [] _ (.ref dq) (dueD da ds dO) := .lst (.inl (.inl (upd_same (a := dq) (o := .lst [.ref d1, .ref d2, .ref d3, .ref d4])))) (by simp)
    (.cons (.lst (.inl (.inl e1)) (by simp) (.cons (.str _) (.cons (.str _) (.cons (.bl _) .nil))))
    (.cons (.lst (.inl (.inl e2)) (by simp) (.cons (.str _) (.cons (.str _) (.cons (.bl _) .nil))))
    (.cons (.lst (.inl (.inl e3)) (by simp) (.cons (.str _) (.cons (.str _) (.cons (.bl _) .nil))))
    (.cons (.lst (.inl (.inl e4)) (by simp) (.cons (.str _) .nil)) .nil))))
  refine b_cons (s_ret (e_cmp (e_name 6 (e_name 7 (c_eqD C tld due sh sh ?_)))))
  rw [ev]
  exact hQ _ (X13.trans c1.of.ex) (R13.pot.new c1) (tabs_new R13.tab c1)
end
end K70

set_option Elab.async false
set_option linter.all false
set_option maxRecDepth 100000
set_option maxHeartbeats 4000000
namespace K70
open PySem PySem.Spec PyProof.Rows L2 Z LamX
theorem sql_keep {K : PySem.W.Frag} {H H' : Hp} {a : Addr} {xs : List V} (h : SqL K H a xs) (k : ∀ o, H a = some o → (∀ ps, o ≠ .tbl ps) → H' a = some o) : SqL K H' a xs := by
  rcases h with (h | ⟨o, h⟩) | h
  · exact .inl (.inl (k _ h fun ps z => by cases z))
  · exact .inl (.inr ⟨o, k _ h fun ps z => by cases z⟩)
  · exact .inr h
section
variable {P : Program} {w : World} {K : PySem.W.Frag} {mg : Str → Option Value} {base : Heap}
def spRight (Pt : Addr) : Sp := fun vs H Q _ => ∃ p, vs = [.ref p] ∧ Pot H p ∧ Tabs (tabsR Pt) H ∧ ∀ H', Ex [p] H H' → Pot H' p → Tabs (tabsR Pt) H' → Q (.bl true) H'
theorem scRight : FnScope ["pot", "glyphs", "verse", "turn", "wide"] ["pot"] (defScope (top 26)) := ⟨rfl, rfl, rfl, by decide +kernel, rfl, by decide +kernel, by decide +kernel⟩
theorem d_right {Pt : Addr} (B : Blt mg base) (D : At K mg "_law_right" (top 26)) (D1 : Def P w K mg base 2 "_law_pick" (top 22) ["pot", "some"] (spPick K)) (D2 : Def P w K mg base 5 "_law_told_right" (top 23) ["glyphs", "verse", "wide"] spTold)
    (D3 : Def P w K mg base 8 "_law_refused_right" (top 25) ["pot", "glyphs", "verse"] (spRef K Pt)) : Def P w K mg base 9 "_law_right" (top 26) ["pot"] (spRight Pt) := by
  refine def_of D B scRight (fun vs H Q E ⟨_, e, _⟩ => by rw [e]; rfl) fun f cdv A outer s H vs Q E hm C h => ?_
  obtain ⟨p, rfl, hp, hT, hQ⟩ := h
  -- glyphs
  refine b_cons (s_set (i := 1) (e_call (C.mono (by decide)) D1 (a_cons (e_name 0 (a_cons (e_lits (K := []) (l := [p]) (ds := glyphSets.map .str) hp.here (lits_cons lit_str (lits_cons lit_str (lits_cons lit_str (lits_cons lit_str (lits_cons lit_str (lits_cons lit_str lits_nil)))))) (fun q vs H1 b1 hq hqp hd => a_nil ?_))))) rfl (fun _ _ _ _ _ _ us hl => match us, hl with | [_, _], _ => rfl)) C.nd)
  refine ⟨p, hp.new b1, .inl ⟨q, vs, rfl, by simpa using hqp, .inl (.inl hq), by rw [hd.length]; decide, by rw [hd.length]; decide, fun gv hgv H2 b2 hp2 => ?_⟩⟩
  obtain ⟨dg, hdg, dG⟩ := DDs.mem (hd.but b2) hgv
  obtain ⟨g, hg, rfl⟩ := List.mem_map.mp hdg
  cases dG
  have x2 : Ex [p] H H2 := (b1.of.trans b2).ex
  have t2 : Tabs (tabsR Pt) H2 := tabs_but (tabs_new hT b1) b2 (hp.new b1).lsts
  clear hd hq hqp hgv hdg
  have hgl := strSigns_len (glyphs_ok g hg).1
  -- verse
  refine b_cons (s_set (i := 2) (e_join (e_str ⟨"", rfl, e_lc [("turn", 3)] C (i_range1 B (e_call (C.mono (by decide)) D1 (a_cons (e_name 0 (a_cons (e_lits (K := []) (l := [p]) (ds := [.int 0, .int 1, .int 2, .int 3, .int 4, .int 5, .int 8, .int 12, .int 40]) hp2.here (lits_cons lit_int (lits_cons lit_int (lits_cons lit_int (lits_cons lit_int (lits_cons lit_int (lits_cons lit_int (lits_cons lit_int (lits_cons lit_int (lits_cons lit_int lits_nil))))))))) (fun q vs H3 b3 hq hqp hd => a_nil ?_))))) rfl (fun _ _ _ _ _ _ us hl => match us, hl with | [_, _], _ => rfl)))⟩)) C.nd)
  refine ⟨p, hp2.new b3, .inl ⟨q, vs, rfl, by simpa using hqp, .inl (.inl hq), by rw [hd.length]; decide, by rw [hd.length]; decide, fun nv hnv H4 b4 hp4 => ?_⟩⟩
  obtain ⟨dn, hdn, dN⟩ := DDs.mem (hd.but b4) hnv
  obtain ⟨n, rfl, n0, n40⟩ : ∃ n : Int, dn = .int n ∧ 0 ≤ n ∧ n ≤ 40 := by
    simp only [List.mem_cons, List.not_mem_nil, or_false] at hdn
    rcases hdn with rfl | rfl | rfl | rfl | rfl | rfl | rfl | rfl | rfl <;> exact ⟨_, rfl, by decide, by decide⟩
  cases dN
  have b24 : But [p] H2 H4 := b3.of.trans b4
  have x4 : Ex [p] H H4 := x2.trans b24.ex
  have t4 : Tabs (tabsR Pt) H4 := tabs_but (tabs_new t2 b3) b4 (hp2.new b3).lsts
  clear hd hq hqp hnv hdn
  refine ⟨n, rfl, by omega, by omega, n.toNat, _, _, walk_range, fun Dl hDl => ⟨fun i H' => But [p] H4 H' ∧ Pot H' p ∧ ∃ ys : List Nat, ys.length = i ∧ (∀ c ∈ ys, c ∈ g.cps.toList) ∧ H' Dl = some (.lst (ys.map fun c => V.str ⟨#[c]⟩)), ⟨But.new hDl, hp4.new (But.new hDl), [], rfl, by simp, upd_same⟩, fun _ _ _ _ => trivial, ?_, ?_⟩⟩
  · rintro i x H5 H' hi ⟨b5, hp5, ys, hy, hyg, hD5⟩ ⟨rfl, rfl⟩
    refine lc_plain (i := 3) C.nd fun s H0 Ca cl fp => ?_
    refine e_call ((C.mono (by decide)).blk _ _ _ _ _) D1 (a_cons (e_name 0 (a_cons (e_name 1 (a_nil ?_))))) rfl (fun _ _ _ _ _ _ us hl => match us, hl with | [_, _], _ => rfl)
    refine ⟨p, hp5, .inr ⟨g, rfl, by omega, by omega, fun c hc H6 b6 hp6 => ?_⟩⟩
    have nDp : Dl ≠ p := hp4.there hDl
    refine ⟨_, b6 _ _ (by simpa using nDp) hD5, by rw [sizeLine_eq, List.length_map]; omega, fun q o nq e => ?_, ?_, ys ++ [c], by simp [hy], ?_, ?_⟩
    · have nqD : q ≠ Dl := ne_of_none e hDl
      rw [upd_ne nqD]
      exact b6 _ _ nq (b5 _ _ nq e)
    · obtain ⟨a, b, e, r⟩ := hp6
      exact ⟨a, b, by rw [upd_ne nDp.symm]; exact e, r⟩
    · intro c' hc'
      rcases List.mem_append.mp hc' with h | h
      · exact hyg c' h
      · rw [List.mem_singleton.mp h]; exact hc
    · rw [upd_same]; simp
  · rintro H5 ⟨b5, hp5, ys, hy, hyg, hD5⟩
    have e1 : (ys.map fun c => (⟨#[c]⟩ : Str)) = (ys.map fun c => [c]).map sOf := by rw [List.map_map]; rfl
    have hv : (sOf ys).length ≤ 1000 := by rw [sOf_len]; omega
    refine ⟨Dl, ys.map fun c => (⟨#[c]⟩ : Str), rfl, .inl (.inl (.inl (by rw [hD5, List.map_map]; rfl))), ?_, ?_⟩
    · have e2 : ((ys.map fun c => (⟨#[c]⟩ : Str)).map (·.length)).sum = ys.length := by
        clear hy hyg hD5 e1 hv
        induction ys with
        | nil => rfl
        | cons c r ih => simp only [List.map_cons, List.sum_cons, ih, List.length_cons]; show 1 + r.length = _; omega
      rw [e2]
      show ys.length + _ * 0 ≤ _
      omega
    rw [e1, Z.join_nil]
    have e3 : (ys.map fun c => [c]).flatten = ys := by
      clear hy hyg hD5 e1 hv
      induction ys with
      | nil => rfl
      | cons c r ih => simp only [List.map_cons, List.flatten_cons, ih]; rfl
    rw [e3]
    have hvl : isLine g (.str (sOf ys)) = true := by
      simp only [isLine, List.all_eq_true, decide_eq_true_eq, sOf_list]
      exact hyg
    have x5 : Ex [p] H H5 := x4.trans b5.ex
    have t5 : Tabs (tabsR Pt) H5 := tabs_but t4 b5 hp4.lsts
    refine b_cons (s_ifB false ?_ (fun e => by cases e) (fun _ H6 b6 => ?_))
    · refine t_not (t_val (e_all C (e_lcM [("wide", 4)] C (i_tup (e_tup (a_cons (e_int (a_cons (e_int (a_cons (e_int (a_cons (e_int (a_nil ⟨by rw [sizeLine_eq]; exact (by decide : 4 ≤ 16777216), fun tp htp => ?_⟩))))))))))))))
      refine ⟨tp, rfl, ⟨_, .inl (.inl upd_same)⟩, _, _, _, [.bl true, .bl true, .bl true, .bl true], walk_tup (xs := [.int 1, .int 2, .int 3, .int 4]), rfl, by rw [sizeLine_eq]; exact (by decide : 4 ≤ 16777216), fun H' b => .inl (.inl (b _ _ (by simp) upd_same)), fun i x H7 H' hi b7 hy' => ?_, fun Da H' b7 hn hl => ⟨Da, [true, true, true, true], rfl, .inl (.inl hl), _, rfl, rfl, (But.new htp).trans b7⟩⟩
      obtain ⟨rfl, hx⟩ := hy'
      have : ∃ m : Nat, x = .int m ∧ 1 ≤ m ∧ m ≤ 4 ∧ ([.bl true, .bl true, .bl true, .bl true] : List V)[i]? = some (.bl true) := by
        match i, hi with
        | 0, _ => cases hx; exact ⟨1, rfl, by decide, by decide, rfl⟩
        | 1, _ => cases hx; exact ⟨2, rfl, by decide, by decide, rfl⟩
        | 2, _ => cases hx; exact ⟨3, rfl, by decide, by decide, rfl⟩
        | 3, _ => cases hx; exact ⟨4, rfl, by decide, by decide, rfl⟩
      obtain ⟨m, rfl, m1, m4, hm⟩ := this
      refine ⟨But.refl, mt_name (i := 4) C.nd fun s H0 Ca cl fp => ?_⟩
      refine e_call ((C.mono (by decide)).blk _ _ _ _ _) D2 (a_cons (e_name 1 (a_cons (e_name 2 (a_cons (e_name 4 (a_nil ?_))))))) rfl (fun _ _ _ _ _ _ us hl => match us, hl with | [_, _, _], _ => rfl)
      exact ⟨g, sOf ys, m, rfl, (glyphs_ok g hg).1, hvl, hv, m1, m4, fun H' b => ⟨hm, b⟩⟩
    · refine b_nil (b_cons (s_ret (e_call C D3 (a_cons (e_name 0 (a_cons (e_name 1 (a_cons (e_name 2 (a_nil ?_))))))) rfl (fun _ _ _ _ _ _ us hl => match us, hl with | [_, _, _], _ => rfl))))
      exact ⟨p, g, sOf ys, rfl, hg, hvl, hv, hp5.new b6, tabs_new t5 b6, fun H' x hp' t' => hQ H' (x5.trans (b6.of.ex.trans x)) hp' t'⟩
end
end K70

set_option Elab.async false
set_option linter.all false
set_option maxRecDepth 100000
set_option maxHeartbeats 4000000
namespace K70
open PySem PySem.Spec PyProof.Rows L2 Z LamX
section
variable {P : Program} {w : World} {K : PySem.W.Frag} {mg : Str → Option Value} {base : Heap}
def spLaw (K : PySem.W.Frag) (Pt : Addr) : Sp := fun vs H Q _ => ∃ (a : Addr) (ns : List Int), vs = [.ref a] ∧ SqL K H a (ns.map V.int) ∧ ns.length ≤ 63 ∧ Tabs (tabsR Pt) H ∧ ∀ H', Q (.bl true) H'
theorem scLaw : FnScope ["script", "k", "pot", "turn"] ["script"] (defScope (top 27)) := ⟨rfl, rfl, rfl, by decide +kernel, rfl, by decide +kernel, by decide +kernel⟩
theorem d_law {Pt : Addr} (B : Blt mg base) (D : At K mg "law" (top 27)) (D1 : Def P w K mg base 1 "_law_pot" (top 20) ["script", "k"] (spPotMk K)) (D2 : Def P w K mg base 9 "_law_right" (top 26) ["pot"] (spRight Pt)) :
    Def P w K mg base 10 "law" (top 27) ["script"] (spLaw K Pt) := by
  refine def_of D B scLaw (fun vs H Q E ⟨_, _, e, _⟩ => by rw [e]; rfl) fun f cdv A outer s H vs Q E hm C h => ?_
  obtain ⟨a, ns, rfl, ha, hn, hT, hQ⟩ := h
  refine b_cons (s_for C (i_range1 B (e_max2 C (e_int (e_min2 C (e_len B (e_name 0 ?_)))))))
  refine ⟨ns.length, .inl ⟨_, ha, by simp⟩, e_int ⟨_, _, rfl, rfl, _, _, rfl, rfl, ?_⟩⟩
  have hj : ∃ j : Nat, j ≤ 4 ∧ (if (if (4 : Int) < (ns.length : Nat) then (4 : Int) else (ns.length : Nat)) > 1 then (if (4 : Int) < (ns.length : Nat) then (4 : Int) else (ns.length : Nat)) else 1) = (j : Int) := by
    by_cases h4 : (4 : Int) < (ns.length : Nat)
    · rw [if_pos h4]
      exact ⟨4, by decide, rfl⟩
    · rw [if_neg h4]
      by_cases h1 : ((ns.length : Nat) : Int) > 1
      · rw [if_pos h1]
        exact ⟨ns.length, by omega, rfl⟩
      · rw [if_neg h1]
        exact ⟨1, by decide, rfl⟩
  obtain ⟨j, j4, ej⟩ := hj
  refine ⟨_, rfl, ?_⟩
  rw [ej]
  refine ⟨by omega, by omega, j, _, _, walk_range, fun i σ H' => (∃ v1 v2, σ = [some (.ref a), v1, v2, none]) ∧ SqL K H' a (ns.map V.int) ∧ Tabs (tabsR Pt) H', ⟨⟨none, none, rfl⟩, ha, hT⟩, fun _ _ _ _ _ => trivial, ?_, ?_⟩
  · rintro i x σ H1 H' hi ⟨⟨v1, v2, rfl⟩, ha1, hT1⟩ ⟨rfl, rfl⟩
    refine g_name (i := 1) ?_ C.nd
    refine b_cons (s_set (i := 2) (e_call (C.mono (by decide)) D1 (a_cons (e_name 0 (a_cons (e_name 1 (a_nil ?_))))) rfl (fun _ _ _ _ _ _ us hl => match us, hl with | [_, _], _ => rfl)) C.nd)
    refine ⟨a, ns, i, by simp, ha1, by omega, by omega, fun p H2 b2 hpn hp2 => ?_⟩
    have t2 := tabs_new hT1 b2
    have ha2 : SqL K H2 a (ns.map V.int) := sql_keep ha1 fun o e _ => b2 _ _ (by simp) e
    have keepA : ∀ {H3}, Ex [p] H2 H3 → SqL K H3 a (ns.map V.int) := fun x => sql_keep ha1 fun o e t => x _ _ (by
      have : a ≠ p := fun z => by rw [z, hpn] at e; cases e
      simpa using this) (b2 _ _ (by simp) e) t
    refine b_cons (s_if (t_not (t_val (e_all C (e_lc [("turn", 3)] C (i_range1 B (e_int ⟨6, rfl, by decide, by decide, 6, _, _, walk_range, fun Dl hDl => ?_⟩)))))))
    refine ⟨fun m H' => Ex [p] H2 H' ∧ Pot H' p ∧ Tabs (tabsR Pt) H' ∧ H' Dl = some (.lst (List.replicate m (.bl true))), ⟨(But.new hDl).ex, hp2.new (But.new hDl), tabs_new t2 (But.new hDl), upd_same⟩, fun _ _ _ _ => trivial, ?_, ?_⟩
    · rintro m x H3 H' hm3 ⟨x3, hp3, t3, hD3⟩ ⟨rfl, rfl⟩
      refine lc_plain (i := 3) C.nd fun s H0 Ca cl fp => ?_
      refine e_call (C.blk _ _ _ _ _) D2 (a_cons (e_name 2 (a_nil ?_))) rfl (fun _ _ _ _ _ _ us hl => match us, hl with | [_], _ => rfl)
      have nDp : Dl ≠ p := hp2.there hDl
      refine ⟨p, rfl, hp3, t3, fun H4 x4 hp4 t4 => ?_⟩
      have hD4 := x4.lst (by simpa using nDp) hD3
      refine ⟨_, hD4, by rw [sizeLine_eq, List.length_replicate]; omega, fun q o nq e t => ?_, ?_, ?_, ?_⟩
      · rw [upd_ne (ne_of_none e hDl)]
        exact x4 _ _ nq (x3 _ _ nq e t) t
      · obtain ⟨u, v, e, r⟩ := hp4
        exact ⟨u, v, by rw [upd_ne nDp.symm]; exact e, r⟩
      · exact tabs_but t4 (But.at (l := [Dl]) (by simp)) fun q hq => ⟨List.replicate m (.bl true), by rw [List.mem_singleton.mp hq]; exact hD4⟩
      · rw [upd_same, List.replicate_succ']
    · rintro H5 ⟨x5, hp5, t5, hD5⟩
      refine ⟨Dl, List.replicate 6 true, rfl, .inl (.inl hD5), _, rfl, ?_⟩
      refine ite_b (fun e => by cases e) fun _ => b_nil (b_nil ?_)
      exact ⟨⟨_, _, rfl⟩, keepA x5, t5⟩
  · rintro σ H1 ⟨_, ha1, hT1⟩
    exact b_cons (s_ret (e_bool (hQ _)))
end
end K70

set_option Elab.async false
set_option linter.all false
set_option maxRecDepth 100000
set_option maxHeartbeats 4000000
namespace K70
open PySem PySem.Spec PyProof.Rows L2 Z LamX
structure Facts (K : PySem.W.Frag) (mg : Str → Option Value) (CE CS CL CW c Pt : Addr) : Prop where
  B : BltN mg
  T : Consts mg
  B0 : Base0 K mg "LineError"
  ER : Errs K mg CE CS CL CW
  oS : OexC K CS
  oL : OexC K CL
  oW : OexC K CW
  iS : ∃ fI oc od kV doc pm an cdv ct osl, PySem.W.findIn K (.ref CS) "__init__" = some (some (.ref fI)) ∧ PySem.W.typeIn K (.ref fI) = some (.type "function") ∧ K.lookup fI = some ⟨oc, od, .func (PySem.W.fnOf "__init__" "InvalidSigns.__init__" (defArgs (clsDef (top 2))) (defBody (clsDef (top 2))) (defScope (clsDef (top 2))) .none kV doc pm an cdv ct), osl⟩ ∧ PySem.W.codeIn K cdv "InvalidSigns.__init__" = true
  iL : ∃ fI oc od kV doc pm an cdv ct osl, PySem.W.findIn K (.ref CL) "__init__" = some (some (.ref fI)) ∧ PySem.W.typeIn K (.ref fI) = some (.type "function") ∧ K.lookup fI = some ⟨oc, od, .func (PySem.W.fnOf "__init__" "InvalidLine.__init__" (defArgs (clsDef (top 3))) (defBody (clsDef (top 3))) (defScope (clsDef (top 3))) .none kV doc pm an cdv ct), osl⟩ ∧ PySem.W.codeIn K cdv "InvalidLine.__init__" = true
  iW : ∃ fI oc od kV doc pm an cdv ct osl, PySem.W.findIn K (.ref CW) "__init__" = some (some (.ref fI)) ∧ PySem.W.typeIn K (.ref fI) = some (.type "function") ∧ K.lookup fI = some ⟨oc, od, .func (PySem.W.fnOf "__init__" "InvalidWidth.__init__" (defArgs (clsDef (top 4))) (defBody (clsDef (top 4))) (defScope (clsDef (top 4))) .none kV doc pm an cdv ct), osl⟩ ∧ PySem.W.codeIn K cdv "InvalidWidth.__init__" = true
  a9 : At K mg "is_integer" (top 9)
  a10 : At K mg "are_signs" (top 10)
  a11 : At K mg "want_signs" (top 11)
  a12 : At K mg "is_line" (top 12)
  a13 : At K mg "want_line" (top 13)
  a16 : At K mg "want_width" (top 16)
  a17 : At K mg "pieces_of" (top 17)
  a18 : At K mg "pieces" (top 18)
  a20 : At K mg "_law_pot" (top 20)
  a21 : At K mg "_law_draw" (top 21)
  a22 : At K mg "_law_pick" (top 22)
  a23 : At K mg "_law_told_right" (top 23)
  a24 : At K mg "_law_heard" (top 24)
  a25 : AtC K mg "_law_refused_right" (top 25) c
  a26 : At K mg "_law_right" (top 26)
  a27 : At K mg "law" (top 27)
theorem law_def {P : Program} {w : World} {K : PySem.W.Frag} {mg : Str → Option Value} {base : Heap} {CE CS CL CW c Pt : Addr} (F : Facts K mg CE CS CL CW c Pt) (S : SysAt base) (TB : TabB base mg c Pt) : Def P w K mg base 10 "law" (top 27) ["script"] (spLaw K Pt) := by
  have B := F.B.at S
  have scI2 : FnScope ["self", "value"] ["self", "value"] (defScope (clsDef (top 2))) := ⟨rfl, rfl, rfl, by decide +kernel, rfl, by decide +kernel, by decide +kernel⟩
  have scI3 : FnScope ["self", "value"] ["self", "value"] (defScope (clsDef (top 3))) := ⟨rfl, rfl, rfl, by decide +kernel, rfl, by decide +kernel, by decide +kernel⟩
  have scI4 : FnScope ["self", "value"] ["self", "value"] (defScope (clsDef (top 4))) := ⟨rfl, rfl, rfl, by decide +kernel, rfl, by decide +kernel, by decide +kernel⟩
  obtain ⟨_, _, _, _, _, _, _, _, _, _, s1, s2, s3, s4⟩ := F.iS
  obtain ⟨_, _, _, _, _, _, _, _, _, _, l1, l2, l3, l4⟩ := F.iL
  obtain ⟨_, _, _, _, _, _, _, _, _, _, w1, w2, w3, w4⟩ := F.iW
  have ES : ErrOk P w K mg base "InvalidSigns" "value" CS := err_mk F.B0 F.ER.gS F.oS F.ER.fS F.ER.nS s1 s2 s3 s4 scI2 rfl rfl rfl rfl rfl (by decide) (by decide) (by decide) fun _ _ _ _ _ _ us hl => match us, hl with | [_, _], _ => rfl
  have EL : ErrOk P w K mg base "InvalidLine" "value" CL := err_mk F.B0 F.ER.gL F.oL F.ER.fL F.ER.nL l1 l2 l3 l4 scI3 rfl rfl rfl rfl rfl (by decide) (by decide) (by decide) fun _ _ _ _ _ _ us hl => match us, hl with | [_, _], _ => rfl
  have EW : ErrOk P w K mg base "InvalidWidth" "value" CW := err_mk F.B0 F.ER.gW F.oW F.ER.fW F.ER.nW w1 w2 w3 w4 scI4 rfl rfl rfl rfl rfl (by decide) (by decide) (by decide) fun _ _ _ _ _ _ us hl => match us, hl with | [_, _], _ => rfl
  have D9 : Def P w K mg base 1 "is_integer" (top 9) ["value"] (sp1 K isInteger) := d_isInteger B F.a9
  have D10 : Def P w K mg base 1 "are_signs" (top 10) ["value"] (sp1 K areSigns) := d_areSigns B F.a10 F.T
  have D11 := d_wantSigns B F.a11 D10 ES
  have D12 : Def P w K mg base 1 "is_line" (top 12) ["signs", "value"] (spLine K) := d_isLine B F.a12
  have D13 := d_wantLine B F.a13 D12 EL
  have D16 := d_wantWidth B F.a16 F.T D9 EW
  have D17 : Def P w K mg base 1 "pieces_of" (top 17) ["line", "width"] spPieces := d_piecesOf B F.a17
  have D18 := d_pieces B F.a18 D11 D13 D16 D17
  have D20 : Def P w K mg base 1 "_law_pot" (top 20) ["script", "k"] (spPotMk K) := d_pot B F.a20
  have D21 : Def P w K mg base 1 "_law_draw" (top 21) ["pot", "sides"] spDraw := d_draw B F.a21
  have D22 := d_pick B F.a22 D21
  have D23 := d_told B F.a23 D18
  have D25 := d_ref B F.a25 TB D22 D21 D18 F.a24 F.ER
  have D26 := d_right B F.a26 D22 D23 D25
  exact d_law B F.a27 D20 D26
/-- the law's promise at the head's heap -/
theorem law_at {l : PySem.W.OpenLaw} {w : World} {K : PySem.W.Frag} {mg : Str → Option Value} {h : Heap} {fa CE CS CL CW c Pt : Addr} (F : Facts K mg CE CS CL CW c Pt) (hfa : mg "law" = some (.ref fa)) (hT : h.get? Pt = some { cls := .none, data := .fields #[] }) (nT : K.lookup Pt = none) (hC : PySem.W.CodeHd h c Pt) :
    LawG l w K 10 63 "script" mg fa h := by
  refine ⟨[(c, Pt)], spLaw K Pt, fun p hp => ?_, fun p hp => ?_, fun p hp => ?_, fun H a ns hn hb hT hS => ?_, fun base KB G S hTB => ?_⟩
  · rw [List.mem_singleton.mp hp]; exact hT
  · rw [List.mem_singleton.mp hp]; exact nT
  · rw [List.mem_singleton.mp hp]; exact hC
  · refine ⟨a, ns, rfl, hS, hn, fun p hp => ?_, fun _ => rfl⟩
    rw [List.mem_singleton.mp hp]
    exact TabS.nil (hT (c, Pt) (by simp))
  · obtain ⟨f2, kV2, doc2, pm2, an2, cdv2, ct2, hm2, kp2, G2⟩ := (law_def (P := l.prog) (w := w) F S (hTB (c, Pt) (by simp))).ex
    have e2 := hfa.symm.trans hm2
    cases e2
    exact ⟨_, fun s u => .of_eq rfl, G2⟩
end K70

set_option Elab.async false
set_option linter.all false
open PySem PySem.W PyProof.Rows
set_option maxRecDepth 100000 in
set_option maxHeartbeats 0 in
theorem PySem.Challenge.cw_frontlines_k70_pieces_told_and_refused_holds : PySem.Challenge.rw_frontlines_k70_pieces_told_and_refused.Holds := by
  w_on; o_law; k_head; (case hw => w_witness2)
  k_fill
  refine Z.walk_G (n := 63) (k := 10) (x := "script") rfl (by decide) rfl ⟨rfl, by decide, by decide⟩ (fun w h Y => PySem.W.km_in_of Y) (by first | rfl | kernel_rfl) ?F
  intro w mg fa h Y KX G hmg
  have tabs := PySem.W.km_tabs_of Y
  have B : Z.BltN mg := by
    refine' Z.bltn_mk KX G ?a1 ?a2 ?a3 ?a4 ?a5 ?a6 ?a7 ?a8 ?a9 ?a10 ?a11 ?a12 ?a13 ?a14 ?a15 ?a16 ?a17 ?a18 ?a19 ?a20 ?a21 ?a22 <;> k_is
  have T : K70.Consts mg := by
    refine' ⟨Z.const_mk KX G ?c1 ?r1, Z.const_mk KX G ?c2 ?r2, Z.const_mk KX G ?c3 ?r3, Z.const_mk KX G ?c4 ?r4⟩
    (case c1 => k_is); (case c2 => k_is); (case c3 => k_is); (case c4 => k_is)
    all_goals exact ⟨_, rfl⟩
  refine' K70.law_at (Pt := 169) ⟨B, T, Z.base_mk KX G ?b1 ?b2 ?b3 ?b4,
      { gE := W.mg_of KX G ?gE, gS := W.mg_of KX G ?gS, gL := W.mg_of KX G ?gL, gW := W.mg_of KX G ?gW,
        fS := ⟨?f1S, ?f2S, ?f3S, ?f4S⟩,
        fL := ⟨?f1L, ?f2L, ?f3L, ?f4L⟩,
        fW := ⟨?f1W, ?f2W, ?f3W, ?f4W⟩,
        SS := W.exm_ref ?e1SS ?e2SS ?e3SS ?e4SS,
        LS := W.exm_ref ?e1LS ?e2LS ?e3LS ?e4LS,
        LL := W.exm_ref ?e1LL ?e2LL ?e3LL ?e4LL,
        WS := W.exm_ref ?e1WS ?e2WS ?e3WS ?e4WS,
        WL := W.exm_ref ?e1WL ?e2WL ?e3WL ?e4WL,
        WW := W.exm_ref ?e1WW ?e2WW ?e3WW ?e4WW,
        kS := Z.kit_ref ?k1S ?k2S ?k3S,
        kL := Z.kit_ref ?k1L ?k2L ?k3L,
        kW := Z.kit_ref ?k1W ?k2W ?k3W,
        vS := Z.kit_type ?vS (by decide +kernel),
        xS := ⟨?x1S, ?x2S, ?x3S, ?x4S, ?x5S, ?x6S, ?x7S, ?x8S⟩,
        xL := ⟨?x1L, ?x2L, ?x3L, ?x4L, ?x5L, ?x6L, ?x7L, ?x8L⟩,
        xW := ⟨?x1W, ?x2W, ?x3W, ?x4W, ?x5W, ?x6W, ?x7W, ?x8W⟩,
        nS := ?nS,
        nL := ?nL,
        nW := ?nW },
      Z.oex_mk ?o1S (?o2S) ?o3S ?o4S ?o5S ?o6S,
      Z.oex_mk ?o1L (?o2L) ?o3L ?o4L ?o5L ?o6L,
      Z.oex_mk ?o1W (?o2W) ?o3W ?o4W ?o5W ?o6W,
      Z.init_mk ?i1S ?i2S ?i3S ?i4S,
      Z.init_mk ?i1L ?i2L ?i3L ?i4L,
      Z.init_mk ?i1W ?i2W ?i3W ?i4W,
      Z.at_mk KX G ?d1_9 ?d2_9 ?d3_9 ?d4_9,
      Z.at_mk KX G ?d1_10 ?d2_10 ?d3_10 ?d4_10,
      Z.at_mk KX G ?d1_11 ?d2_11 ?d3_11 ?d4_11,
      Z.at_mk KX G ?d1_12 ?d2_12 ?d3_12 ?d4_12,
      Z.at_mk KX G ?d1_13 ?d2_13 ?d3_13 ?d4_13,
      Z.at_mk KX G ?d1_16 ?d2_16 ?d3_16 ?d4_16,
      Z.at_mk KX G ?d1_17 ?d2_17 ?d3_17 ?d4_17,
      Z.at_mk KX G ?d1_18 ?d2_18 ?d3_18 ?d4_18,
      Z.at_mk KX G ?d1_20 ?d2_20 ?d3_20 ?d4_20,
      Z.at_mk KX G ?d1_21 ?d2_21 ?d3_21 ?d4_21,
      Z.at_mk KX G ?d1_22 ?d2_22 ?d3_22 ?d4_22,
      Z.at_mk KX G ?d1_23 ?d2_23 ?d3_23 ?d4_23,
      Z.at_mk KX G ?d1_24 ?d2_24 ?d3_24 ?d4_24,
      Z.atc_mk KX G ?d1_25 ?d2_25 ?d3_25 ?d4_25,
      Z.at_mk KX G ?d1_26 ?d2_26 ?d3_26 ?d4_26,
      Z.at_mk KX G ?d1_27 ?d2_27 ?d3_27 ?d4_27⟩
      hmg (tabs 169 (by simp)) ?nT (W.codeHd_of_K KX ?hC)
  (case b1 => k_is)
  (case b2 => k_is)
  (case b3 => k_is)
  (case b4 => k_is)
  (case gE => k_is)
  (case gS => k_is)
  (case gL => k_is)
  (case gW => k_is)
  (case f1S => k_is)
  (case f2S => k_is)
  (case f3S => k_is)
  (case f4S => k_is)
  (case f1L => k_is)
  (case f2L => k_is)
  (case f3L => k_is)
  (case f4L => k_is)
  (case f1W => k_is)
  (case f2W => k_is)
  (case f3W => k_is)
  (case f4W => k_is)
  (case e1SS => k_is)
  (case e2SS => k_is)
  (case e3SS => k_is)
  (case e4SS => k_is)
  (case e1LS => k_is)
  (case e2LS => k_is)
  (case e3LS => k_is)
  (case e4LS => k_is)
  (case e1LL => k_is)
  (case e2LL => k_is)
  (case e3LL => k_is)
  (case e4LL => k_is)
  (case e1WS => k_is)
  (case e2WS => k_is)
  (case e3WS => k_is)
  (case e4WS => k_is)
  (case e1WL => k_is)
  (case e2WL => k_is)
  (case e3WL => k_is)
  (case e4WL => k_is)
  (case e1WW => k_is)
  (case e2WW => k_is)
  (case e3WW => k_is)
  (case e4WW => k_is)
  (case k1S => k_is)
  (case k2S => k_is)
  (case k3S => k_is)
  (case k1L => k_is)
  (case k2L => k_is)
  (case k3L => k_is)
  (case k1W => k_is)
  (case k2W => k_is)
  (case k3W => k_is)
  (case vS => k_is)
  (case x1S => k_is)
  (case x2S => k_is)
  (case x3S => k_is)
  (case x4S => k_is)
  (case x5S => k_is)
  (case x6S => k_is)
  (case x7S => k_is)
  (case x8S => k_is)
  (case x1L => k_is)
  (case x2L => k_is)
  (case x3L => k_is)
  (case x4L => k_is)
  (case x5L => k_is)
  (case x6L => k_is)
  (case x7L => k_is)
  (case x8L => k_is)
  (case x1W => k_is)
  (case x2W => k_is)
  (case x3W => k_is)
  (case x4W => k_is)
  (case x5W => k_is)
  (case x6W => k_is)
  (case x7W => k_is)
  (case x8W => k_is)
  (case nS => k_is)
  (case nL => k_is)
  (case nW => k_is)
  (case o1S => k_is)
  (case o2S => decide +kernel)
  (case o3S => k_is)
  (case o4S => k_is)
  (case o5S => k_is)
  (case o6S => k_is)
  (case o1L => k_is)
  (case o2L => decide +kernel)
  (case o3L => k_is)
  (case o4L => k_is)
  (case o5L => k_is)
  (case o6L => k_is)
  (case o1W => k_is)
  (case o2W => decide +kernel)
  (case o3W => k_is)
  (case o4W => k_is)
  (case o5W => k_is)
  (case o6W => k_is)
  (case i1S => k_is)
  (case i2S => k_is)
  (case i3S => k_is)
  (case i4S => k_is)
  (case i1L => k_is)
  (case i2L => k_is)
  (case i3L => k_is)
  (case i4L => k_is)
  (case i1W => k_is)
  (case i2W => k_is)
  (case i3W => k_is)
  (case i4W => k_is)
  (case d1_9 => k_is)
  (case d2_9 => k_is)
  (case d3_9 => k_is)
  (case d4_9 => k_is)
  (case d1_10 => k_is)
  (case d2_10 => k_is)
  (case d3_10 => k_is)
  (case d4_10 => k_is)
  (case d1_11 => k_is)
  (case d2_11 => k_is)
  (case d3_11 => k_is)
  (case d4_11 => k_is)
  (case d1_12 => k_is)
  (case d2_12 => k_is)
  (case d3_12 => k_is)
  (case d4_12 => k_is)
  (case d1_13 => k_is)
  (case d2_13 => k_is)
  (case d3_13 => k_is)
  (case d4_13 => k_is)
  (case d1_16 => k_is)
  (case d2_16 => k_is)
  (case d3_16 => k_is)
  (case d4_16 => k_is)
  (case d1_17 => k_is)
  (case d2_17 => k_is)
  (case d3_17 => k_is)
  (case d4_17 => k_is)
  (case d1_18 => k_is)
  (case d2_18 => k_is)
  (case d3_18 => k_is)
  (case d4_18 => k_is)
  (case d1_20 => k_is)
  (case d2_20 => k_is)
  (case d3_20 => k_is)
  (case d4_20 => k_is)
  (case d1_21 => k_is)
  (case d2_21 => k_is)
  (case d3_21 => k_is)
  (case d4_21 => k_is)
  (case d1_22 => k_is)
  (case d2_22 => k_is)
  (case d3_22 => k_is)
  (case d4_22 => k_is)
  (case d1_23 => k_is)
  (case d2_23 => k_is)
  (case d3_23 => k_is)
  (case d4_23 => k_is)
  (case d1_24 => k_is)
  (case d2_24 => k_is)
  (case d3_24 => k_is)
  (case d4_24 => k_is)
  (case d1_25 => k_is)
  (case d2_25 => k_is)
  (case d3_25 => k_is)
  (case d4_25 => k_is)
  (case d1_26 => k_is)
  (case d2_26 => k_is)
  (case d3_26 => k_is)
  (case d4_26 => k_is)
  (case d1_27 => k_is)
  (case d2_27 => k_is)
  (case d3_27 => k_is)
  (case d4_27 => k_is)
  (case hC => first | rfl | kernel_rfl)
  (case nT => first | rfl | kernel_rfl)
#print axioms PySem.Challenge.cw_frontlines_k70_pieces_told_and_refused_holds

