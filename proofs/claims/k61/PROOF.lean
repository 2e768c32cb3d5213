import PyProof.Rows.All
import Wide.All
import OpenK.AllK
import Wide.FinOn
import HandS.ForMost
import HandS.ForExc
import HandS.TryMany
import HandS.ExcInit
import HandS.ExcField
import HandS.IsInst
import HandS.Lambda
import HandS.Nested
import HandS.EndTab
import HandS.Walk
import HandS.Zip
import HandS.ExcIs
import KE.KExcIs
import HandS.HeadWalk
import PyProof.Draws
import HandS.Text
import HandS.Dict
import HandS.MakeKwOnly
import HandS.Property
import HandS.Small
import HandS.OwnEq
import HandS.More
import HandS.NoneIn
import HandS.Codes
import HandS.Style
import PySem.Challenge.RW_frontlines_k61_whole_written_trees
set_option Elab.async false
set_option linter.all false
set_option maxRecDepth 100000
set_option maxHeartbeats 4000000
/-! The weakest readings: each judgement of the hand layer turned into a predicate of the goal, so that a body is gone through from left to right. -/
namespace Z
open PySem PySem.Spec PyProof.Rows L2


/-! ### the judgements -/
structure wE (X : Cx) (e : Expr) (σ : L2.St) (H : Hp) (Q : VK) : Prop where
  run : ∀ pins s, Inv X pins σ H s → wpAny (model X.prog X.w) X.A (eval e X.env) (EP X pins σ Q) X.xe s
structure wT (X : Cx) (e : Expr) (σ : L2.St) (H : Hp) (Q : Bool → Hp → Prop) : Prop where
  run : ∀ pins s, Inv X pins σ H s → wpAny (model X.prog X.w) X.A (isTrue e X.env (eval e X.env)) (TP X pins σ Q) X.xe s
structure wW (X : Cx) (e : Expr) (σ : L2.St) (H : Hp) (Q : Bool → Hp → Prop) : Prop where
  run : ∀ whole pins s, Inv X pins σ H s → wpAny (model X.prog X.w) X.A (isTrue e X.env whole) (TP X pins σ Q) X.xe s
structure wA (X : Cx) (es : List Expr) (σ : L2.St) (H : Hp) (Q : List V → Hp → Prop) : Prop where
  run : ∀ pos pins s, Inv X pins σ H s → wpAny (model X.prog X.w) X.A (spliced (backTo pos (starEach es X.env))) (AP X pins σ Q) X.xe s
structure wK (X : Cx) (kws : List Keyword) (σ : L2.St) (H : Hp) (Q : List V → Hp → Prop) : Prop where
  run : ∀ pos pins s, Inv X pins σ H s → wpAny (model X.prog X.w) X.A (evalAll ((backToKw pos (keywordEach kws X.env)).map (·.2))) (AP X pins σ Q) X.xe s
structure wS (X : Cx) (st : Stmt) (D : Ends) (σ : L2.St) (H : Hp) : Prop where
  run : ∀ pins s, Inv X pins σ H s → wpAny (model X.prog X.w) X.A (exec st X.env) (SP X pins D) X.xe s
structure wB (X : Cx) (sts : List Stmt) (D : Ends) (σ : L2.St) (H : Hp) : Prop where
  run : ∀ pins s, Inv X pins σ H s → wpAny (model X.prog X.w) X.A (execs sts X.env) (SP X pins D) X.xe s
structure wG (X : Cx) (tg : Expr) (v : V) (σ : L2.St) (H : Hp) (Q : L2.St → Hp → Prop) : Prop where
  run : ∀ pins s u, Inv X pins σ H s → RelV v u → wpAny (model X.prog X.w) X.A (assign tg X.env u) (fun _ s' => ∃ σ' H', Inv X pins σ' H' s' ∧ Q σ' H') X.xe s
structure wGs (X : Cx) (ts : List Expr) (vs : List V) (σ : L2.St) (H : Hp) (Q : L2.St → Hp → Prop) : Prop where
  run : ∀ pins s us, Inv X pins σ H s → Vals vs us → wpAny (model X.prog X.w) X.A (assignInOrder ((assignEach ts X.env).map (·.2)) us) (fun _ s' => ∃ σ' H', Inv X pins σ' H' s' ∧ Q σ' H') X.xe s
structure wI (X : Cx) (tg iter : Expr) (σ : L2.St) (H : Hp) (R : It → Hp → Prop) : Prop where
  run : ∀ pins s, Inv X pins σ H s → wpAny (model X.prog X.w) X.A (eval iter X.env) (fun v s1 => wpAny (model X.prog X.w) X.A (pyIter v) (PIE X pins σ tg R) X.xe s1) X.xe s
structure wIf (X : Cx) (ifs : List Expr) (σ : L2.St) (H : Hp) (Q : Bool → Hp → Prop) : Prop where
  run : ∀ pins s, Inv X pins σ H s →
    wpAny (model X.prog X.w) X.A (forIn ifs true fun c r => if r = true then do let ok ← isTrue c X.env (eval c X.env); pure (ForInStep.yield ok) else pure (ForInStep.yield r)) (TP X pins σ Q) X.xe s

section
variable {X : Cx} {e a b c : Expr} {es : List Expr} {st : Stmt} {sts : List Stmt} {σ : L2.St} {H : Hp}
theorem pE : PE X e (wE X e) := ⟨fun pins s _ _ _ I h => h.run pins s I⟩
theorem pT : PT X e (wT X e) := ⟨fun pins s _ _ _ I h => h.run pins s I⟩
theorem pW : PW X e (wW X e) := ⟨fun wh pins s _ _ _ I h => h.run wh pins s I⟩
theorem pA : PA X es (wA X es) := ⟨fun pos pins s _ _ _ I h => h.run pos pins s I⟩
theorem pK {kws : List Keyword} : PK X kws (wK X kws) := ⟨fun pos pins s _ _ _ I h => h.run pos pins s I⟩
theorem pS : PS X st (wS X st) := ⟨fun pins s _ _ _ I h => h.run pins s I⟩
theorem pB : PSs X sts (wB X sts) := ⟨fun pins s _ _ _ I h => h.run pins s I⟩
theorem pG : PG X e (wG X e) := ⟨fun pins s _ _ _ u _ I r h => h.run pins s u I r⟩
theorem pGs : PGs X es (wGs X es) := ⟨fun pins s _ _ _ us _ I r h => h.run pins s us I r⟩
theorem pI {tg iter : Expr} : PI X tg iter (wI X tg iter) := ⟨fun pins s _ _ _ I h => h.run pins s I⟩
theorem pIf : PTs X es (wIf X es) := ⟨fun pins s _ _ _ I h => h.run pins s I⟩
theorem eE {t : TE} {Q : VK} (p : PE X e t) (h : t σ H Q) : wE X e σ H Q := ⟨fun pins s I => p.run pins s σ H Q I h⟩
theorem eT {t : TT} {Q : Bool → Hp → Prop} (p : PT X e t) (h : t σ H Q) : wT X e σ H Q := ⟨fun pins s I => p.run pins s σ H Q I h⟩
theorem eW {t : TT} {Q : Bool → Hp → Prop} (p : PW X e t) (h : t σ H Q) : wW X e σ H Q := ⟨fun wh pins s I => p.run wh pins s σ H Q I h⟩
theorem eA {t : TA} {Q : List V → Hp → Prop} (p : PA X es t) (h : t σ H Q) : wA X es σ H Q := ⟨fun pos pins s I => p.run pos pins s σ H Q I h⟩
theorem eK {kws : List Keyword} {t : TA} {Q : List V → Hp → Prop} (p : PK X kws t) (h : t σ H Q) : wK X kws σ H Q := ⟨fun pos pins s I => p.run pos pins s σ H Q I h⟩
theorem eS {t : TS} {D : Ends} (p : PS X st t) (h : t D σ H) : wS X st D σ H := ⟨fun pins s I => p.run pins s σ H D I h⟩
theorem eB {t : TS} {D : Ends} (p : PSs X sts t) (h : t D σ H) : wB X sts D σ H := ⟨fun pins s I => p.run pins s σ H D I h⟩
theorem eG {t : TG} {v : V} {Q : L2.St → Hp → Prop} (p : PG X e t) (h : t v σ H Q) : wG X e v σ H Q := ⟨fun pins s u I r => p.run pins s σ H v u Q I r h⟩
theorem eGs {t : TGs} {vs : List V} {Q : L2.St → Hp → Prop} (p : PGs X es t) (h : t vs σ H Q) : wGs X es vs σ H Q := ⟨fun pins s us I r => p.run pins s σ H vs us Q I r h⟩
theorem eI {tg iter : Expr} {t : TI} {R : It → Hp → Prop} (p : PI X tg iter t) (h : t σ H R) : wI X tg iter σ H R := ⟨fun pins s I => p.run pins s σ H R I h⟩
theorem eIf {t : TT} {Q : Bool → Hp → Prop} (p : PTs X es t) (h : t σ H Q) : wIf X es σ H Q := ⟨fun pins s I => p.run pins s σ H Q I h⟩

theorem wE_mono {Q Q' : VK} (h : wE X e σ H Q) (k : ∀ v H', Q v H' → Q' v H') : wE X e σ H Q' := ⟨fun pins s I => thn (h.run pins s I) fun _ _ ⟨v, H', I', r, q⟩ => ⟨v, H', I', r, k v H' q⟩⟩
theorem wT_mono {Q Q' : Bool → Hp → Prop} (h : wT X e σ H Q) (k : ∀ v H', Q v H' → Q' v H') : wT X e σ H Q' := ⟨fun pins s I => thn (h.run pins s I) fun b _ ⟨H', I', q⟩ => ⟨H', I', k b H' q⟩⟩

/-! ### statements -/
theorem b_nil {D : Ends} (h : D.nx σ H) : wB X [] D σ H := eB pss_nil h
theorem b_cons {D : Ends} (h : wS X st { D with nx := wB X sts D } σ H) : wB X (st :: sts) D σ H := eB (pss_cons pS pB) h
theorem s_pass {D : Ends} {pos : Pos} (h : D.nx σ H) : wS X (.Pass pos) D σ H := eS ps_pass h
theorem s_break {D : Ends} {pos : Pos} (h : D.bk σ H) : wS X (.Break pos) D σ H := eS ps_break h
theorem s_continue {D : Ends} {pos : Pos} (h : D.ct σ H) : wS X (.Continue pos) D σ H := eS ps_continue h
theorem s_if {D : Ends} {c : Expr} {u v : List Stmt} {pos : Pos} (h : wT X c σ H fun b H1 => if b = true then wB X u D σ H1 else wB X v D σ H1) : wS X (.If c u v pos) D σ H := eS (ps_if pT pB pB) h
theorem s_ret {D : Ends} {pos : Pos} (h : wE X e σ H D.rt) : wS X (.Return (some e) pos) D σ H := eS (ps_ret pE) h
theorem s_retN {D : Ends} {pos : Pos} (h : D.rt .non H) : wS X (.Return none pos) D σ H := eS ps_retN h
theorem s_expr {D : Ends} {pos : Pos} (h : wE X e σ H fun _ H1 => D.nx σ H1) (hs : swapsWith e none pos.line X.env = pure false := by rfl) : wS X (.Expr e pos) D σ H := eS (ps_expr pE hs) h
/-- name = value -/
theorem s_set {D : Ends} {i : Nat} {x : Str} {pos pos' : Pos} (h : wE X e σ H fun v H1 => D.nx (σ.set i (some v)) H1) (hN : X.N.Nodup) (hi : X.N[i]? = some x := by rfl) (hx : Loc X.env.scope x := by first | exact Or.inl rfl | exact Or.inr rfl)
    (hs : swapsWith e (some (.Name x pos')) pos.line X.env = pure false := by rfl) (hf : X.fn x = true ∨ X.env.scope.names.lookup x = some .local := by first | exact .inl rfl | exact .inr rfl) : wS X (.Assign [.Name x pos'] e pos) D σ H := eS (ps_set hN hi hx pE hs hf) h
theorem s_asg {D : Ends} {tg : Expr} {pos : Pos} (h : wE X e σ H fun v H1 => wG X tg v σ H1 D.nx) (hs : swapsWithSole [tg] e pos.line X.env = pure false := by rfl) (hw : swappedStores [tg] e X.env = pure none := by rfl)
    (h1 : (assignEach [tg] X.env).map (·.2) = [assign tg X.env] := by rfl) : wS X (.Assign [tg] e pos) D σ H := eS (ps_asg pE pG hs hw h1) h
theorem g_name {i : Nat} {x : Str} {pos : Pos} {v : V} {Q : L2.St → Hp → Prop} (h : Q (σ.set i (some v)) H) (hN : X.N.Nodup) (hi : X.N[i]? = some x := by rfl) (hx : Loc X.env.scope x := by first | exact Or.inl rfl | exact Or.inr rfl)
    (hf : X.fn x = true ∨ X.env.scope.names.lookup x = some .local := by first | exact .inl rfl | exact .inr rfl) : wG X (.Name x pos) v σ H Q := eG (pg_name hN hi hx hf) h
theorem gs_nil {Q : L2.St → Hp → Prop} (h : Q σ H) : wGs X [] [] σ H Q := eGs pgs_nil ⟨rfl, h⟩
theorem gs_cons {v : V} {vs : List V} {Q : L2.St → Hp → Prop} (h : wG X e v σ H fun σ' H' => wGs X es vs σ' H' Q) (hs : (assignEach (e :: es) X.env).map (·.2) = assign e X.env :: (assignEach es X.env).map (·.2) := by rfl) :
    wGs X (e :: es) (v :: vs) σ H Q := eGs (pgs_cons pG pGs hs) ⟨v, vs, rfl, h⟩
theorem g_tup {k : Nat} {pos : Pos} {p : Addr} {xs : List V} {Q : L2.St → Hp → Prop} (h : wGs X es xs σ H Q) (hc : X.calm = true) (hq : SqT X.K H p xs) (hn : (assignEach es X.env).length = xs.length := by rfl)
    (hst : (assignEach es X.env).findIdx? (·.1) = none := by rfl) : wG X (.Tuple es k pos) (.ref p) σ H Q := eG (pg_tup hc pGs hn hst) ⟨p, xs, rfl, hq, rfl, h⟩
/-- o[i] = v -/
structure sW (X : Cx) (o i v : V) (H : Hp) (Q : Hp → Prop) : Prop where
  run : ∀ pins s σ ov iv u, Inv X pins σ H s → RelV o ov → RelV i iv → RelV v u → wpAny (model X.prog X.w) X.A (setItem ov iv u) (fun _ s' => ∃ H', Inv X pins σ H' s' ∧ Q H') X.xe s
theorem g_sub {o i : Expr} {pos : Pos} {v : V} {Q : L2.St → Hp → Prop} (h : wE X o σ H fun ov H1 => wE X i σ H1 fun iv H2 => sW X ov iv v H2 fun H3 => Q σ H3)
    (ha : ∀ v, assign (.Subscript o i pos) X.env v = (do
      let ov ← holding [v] (eval o X.env)
      let iv ← holding [v, ov] (eval i X.env)
      standAt pos
      holding [v, ov, iv] (setItem ov iv v)
      release [v, ov, iv] []) := by intro _; rfl) : wG X (.Subscript o i pos) v σ H Q :=
  eG (pg_sub pE pE (t := sW X) (fun pins s σ H o i v ov iv u Q I r1 r2 r3 h => h.run pins s σ ov iv u I r1 r2 r3) ha) h
theorem sW_of {t : TSet} {o i v : V} {Q : Hp → Prop} (p : PSet X t) (h : t o i v H Q) : sW X o i v H Q := ⟨fun pins s σ ov iv u I r1 r2 r3 => p pins s σ H o i v ov iv u Q I r1 r2 r3 h⟩

/-! ### expressions -/
theorem e_name (i : Nat) {x : Str} {pos : Pos} {v : V} {Q : VK} (h : Q v H) (hs : σ[i]? = some (some v) := by rfl) (hN : X.N[i]? = some x := by rfl) (hv : Vis X.env.scope x := by first | exact Or.inl rfl | exact Or.inr (Or.inl rfl) | exact Or.inr (Or.inr rfl))
    (hd : (x == ("__debug__" : Str)) = false := by decide) (hcd : (x == ("__classdict__" : Str)) = false := by decide) : wE X (.Name x pos) σ H Q := eE (pe_var hN hv hd hcd) ⟨v, hs, h⟩
theorem e_glob {x : Str} {pos : Pos} {v : V} {u : Value} {Q : VK} (h : Q v H) (hm : X.mg x = some u) (r : RelV v u) (hg : Gl X x := by rfl) (hd : (x == ("__debug__" : Str)) = false := by decide) : wE X (.Name x pos) σ H Q := eE (pe_glob hg hm r hd) h
theorem e_blt {x : Str} {pos : Pos} {v : V} {u : Value} {Q : VK} (h : Q v H) (hm : X.mg x = none) (hv : bootBuiltins x = some u) (r : RelV v u) (hg : Gl X x := by rfl) (hn : x ≠ "__name__" := by decide) (hd : (x == ("__debug__" : Str)) = false := by decide) :
    wE X (.Name x pos) σ H Q := eE (pe_bltn hg hm hv r hn hd) h
theorem e_int {i : Int} {j} {pos : Pos} {Q : VK} (h : Q (.int i) H) : wE X (.Constant (.int i) j pos) σ H Q := eE pe_int h
theorem e_str {x : Str} {j} {pos : Pos} {Q : VK} (h : Q (.str x) H) : wE X (.Constant (.str x) j pos) σ H Q := eE pe_str h
theorem e_bool {b : Bool} {j} {pos : Pos} {Q : VK} (h : Q (.bl b) H) : wE X (.Constant (.bool b) j pos) σ H Q := eE pe_bl h
theorem e_none {j} {pos : Pos} {Q : VK} (h : Q .non H) : wE X (.Constant .none j pos) σ H Q := eE pe_non h
/-- an operation on two values -/
structure oW (X : Cx) (f : Value → Value → Sem Value) (x y : V) (H : Hp) (Q : VK) : Prop where
  run : ∀ pins s σ v u, Inv X pins σ H s → RelV x v → RelV y u → wpAny (model X.prog X.w) X.A (f v u) (EP X pins σ Q) X.xe s
theorem oR {f : Value → Value → Sem Value} : OpR X f (oW X f) := fun pins s σ _ _ _ v u _ I rx ry h => h.run pins s σ v u I rx ry
theorem oW_of {f : Value → Value → Sem Value} {r : R2} {x y : V} {Q : VK} (p : OpR X f r) (h : r x y H Q) : oW X f x y H Q := ⟨fun pins s σ v u I rx ry => p pins s σ H x y v u Q I rx ry h⟩
structure uW (X : Cx) (f : Value → Sem Value) (x : V) (H : Hp) (Q : VK) : Prop where
  run : ∀ pins s σ v, Inv X pins σ H s → RelV x v → wpAny (model X.prog X.w) X.A (f v) (EP X pins σ Q) X.xe s
theorem uW_of {f : Value → Sem Value} {r : V → Hp → VK → Prop} {x : V} {Q : VK} (p : UnR X f r) (h : r x H Q) : uW X f x H Q := ⟨fun pins s σ v I rx => p pins s σ H x v Q I rx h⟩
theorem e_bin {op : Operator} {pos : Pos} {Q : VK} (h : wE X a σ H fun x H1 => wE X b σ H1 fun y H2 => oW X (binaryOp op) x y H2 Q) : wE X (.BinOp a op b pos) σ H Q := eE (pe_op oR pE pE) h
theorem e_un {op : UnaryOp} {pos : Pos} {Q : VK} (h : wE X a σ H fun x H1 => uW X (unaryOp op) x H1 Q) : wE X (.UnaryOp op a pos) σ H Q := eE (pe_un (r := uW X (unaryOp op)) (fun pins s σ _ _ v _ I rx h => h.run pins s σ v I rx) pE) h
theorem e_cmp {op : CmpOp} {pos : Pos} {Q : VK} (h : wE X a σ H fun x H1 => wE X b σ H1 fun y H2 => oW X (compareOp op) x y H2 Q) (hm : behindInMarks op b = false := by first | exact nomark _ | rfl) :
    wE X (.Compare a [op] [b] pos) σ H Q := eE (pe_cmpR oR pE pE hm) h
theorem t_cmp {op : CmpOp} {pos : Pos} {Q : Bool → Hp → Prop} (h : wE X a σ H fun x H1 => wE X b σ H1 fun y H2 => oW X (compareOp op) x y H2 fun v H3 => ∃ k, v = .bl k ∧ Q k H3) (hm : behindInMarks op b = false := by first | exact nomark _ | rfl) :
    wT X (.Compare a [op] [b] pos) σ H Q := eT (pt_cmpR oR pE pE hm) h
theorem t_chain {op op' : CmpOp} {pos : Pos} {Q : Bool → Hp → Prop} (h : wE X a σ H fun x H1 => wE X b σ H1 fun y H2 => oW X (compareOp op) x y H2 fun z H3 => ∃ k, z = .bl k ∧
      (if k = true then wE X c σ H3 fun w' H4 => oW X (compareOp op') y w' H4 (fun v H5 => ∃ k, v = .bl k ∧ Q k H5) else ∃ k, V.bl false = .bl k ∧ Q k H3)) (hm : lastMarks [op, op'] [b, c] = false := by with_unfolding_all rfl) :
    wT X (.Compare a [op, op'] [b, c] pos) σ H Q := eT (pt_chain oR oR pE pE pE hm) h
theorem t_not {pos : Pos} {Q : Bool → Hp → Prop} (h : wT X a σ H fun c H1 => Q (!c) H1) : wT X (.UnaryOp .Not a pos) σ H Q := eT (pt_not pT) h
theorem e_not {pos : Pos} {Q : VK} (h : wE X a σ H fun x H1 => ∃ c, x = .bl c ∧ Q (.bl (!c)) H1) : wE X (.UnaryOp .Not a pos) σ H Q := eE (pe_not pE) h
theorem t_boolop {op} {pos : Pos} {Q : Bool → Hp → Prop} (h : wW X (.BoolOp op es pos) σ H Q) : wT X (.BoolOp op es pos) σ H Q := eT pW.pt h
theorem w_and1 {pos : Pos} {Q : Bool → Hp → Prop} (h : wT X a σ H Q) : wW X (.BoolOp .And [a] pos) σ H Q := eW (pw_and1 pT) h
theorem w_or1 {pos : Pos} {Q : Bool → Hp → Prop} (h : wT X a σ H Q) : wW X (.BoolOp .Or [a] pos) σ H Q := eW (pw_or1 pT) h
theorem w_and {rest : List Expr} {pos : Pos} {Q : Bool → Hp → Prop} (h : wT X a σ H fun c H1 => if c = true then wW X (.BoolOp .And (b :: rest) pos) σ H1 Q else Q false H1) : wW X (.BoolOp .And (a :: b :: rest) pos) σ H Q := eW (pw_and pT pW) h
theorem w_or {rest : List Expr} {pos : Pos} {Q : Bool → Hp → Prop} (h : wT X a σ H fun c H1 => if c = true then Q true H1 else wW X (.BoolOp .Or (b :: rest) pos) σ H1 Q) : wW X (.BoolOp .Or (a :: b :: rest) pos) σ H Q := eW (pw_or pT pW) h
theorem e_one {op} {pos : Pos} {Q : VK} (h : wE X a σ H Q) : wE X (.BoolOp op [a] pos) σ H Q := eE (pe_one pE) h
theorem e_and {rest : List Expr} {pos : Pos} {Q : VK} (h : wE X a σ H fun x H1 => ∃ c, x = .bl c ∧ if c = true then wE X (.BoolOp .And (b :: rest) pos) σ H1 Q else Q (.bl false) H1) : wE X (.BoolOp .And (a :: b :: rest) pos) σ H Q := eE (pe_and pE pE) h
theorem e_or {rest : List Expr} {pos : Pos} {Q : VK} (h : wE X a σ H fun x H1 => ∃ c, x = .bl c ∧ if c = true then Q (.bl true) H1 else wE X (.BoolOp .Or (b :: rest) pos) σ H1 Q) : wE X (.BoolOp .Or (a :: b :: rest) pos) σ H Q := eE (pe_or pE pE) h
theorem e_if {pos : Pos} {Q : VK} (h : wT X c σ H fun k H1 => if k = true then wE X a σ H1 Q else wE X b σ H1 Q) : wE X (.IfExp c a b pos) σ H Q := eE (pe_ifExp pT pE pE) h
/-- an expression whose value is a bool, as a test -/
theorem t_val {Q : Bool → Hp → Prop} (h : wE X e σ H fun x H1 => ∃ c, x = .bl c ∧ Q c H1) (he : ∀ whole, isTrue e X.env whole = (do let v ← whole; standAt e.pos; holding [v] (truthy v)) := by intro _; rfl) : wT X e σ H Q := eT (pt_val pE he) h
theorem t_truth {Q : Bool → Hp → Prop} (h : wE X e σ H fun x H1 => ∃ k, TruV X.K x H1 k ∧ Q k H1) (he : ∀ whole, isTrue e X.env whole = (do let v ← whole; standAt e.pos; holding [v] (truthy v)) := by intro _; rfl) : wT X e σ H Q := eT (pt_truth pE he) h
theorem a_nil {Q : List V → Hp → Prop} (h : Q [] H) : wA X [] σ H Q := eA pa_nil h
theorem a_cons {Q : List V → Hp → Prop} (h : wE X e σ H fun x H1 => wA X es σ H1 fun xs H2 => Q (x :: xs) H2) (hs : starEach (e :: es) X.env = (false, eval e X.env) :: starEach es X.env := by rfl) : wA X (e :: es) σ H Q := eA (pa_cons pE pA hs) h
theorem k_nil {Q : List V → Hp → Prop} (h : Q [] H) : wK X [] σ H Q := eK pk_nil h
theorem k_cons {nm : Option Str} {kpos : Pos} {kws : List Keyword} {Q : List V → Hp → Prop} (h : wE X e σ H fun x H1 => wK X kws σ H1 fun xs H2 => Q (x :: xs) H2) : wK X (⟨nm, e, kpos⟩ :: kws) σ H Q := eK (pk_cons pE pK) h
theorem e_tup {x1} {pos : Pos} {Q : VK} (h : wA X es σ H fun xs H1 => xs.length ≤ sizeLine ∧ ∀ p, H1 p = none → Q (.ref p) (upd H1 p (.tup xs))) : wE X (.Tuple es x1 pos) σ H Q := eE (pe_tup pA) h
theorem e_lst {pos : Pos} {Q : VK} (h : wA X es σ H fun xs H1 => xs.length ≤ sizeLine ∧ ∀ p, H1 p = none → Q (.ref p) (upd H1 p (.lst xs))) : wE X (.List es pos) σ H Q := eE (pe_lst pA) h
end
end Z

set_option Elab.async false
set_option linter.all false
set_option maxRecDepth 100000
set_option maxHeartbeats 4000000
namespace Z
open PySem PySem.Spec PyProof.Rows L2

/-- the built-in names that no def of the text hides -/
structure Blt (mg : Str → Option Value) (base : Heap) : Prop where
  sys : ∃ o es ep, base.get? sysModules = some o ∧ o.data = .dict es ep
  len : mg "len" = none
  range : mg "range" = none
  min : mg "min" = none
  max : mg "max" = none
  abs : mg "abs" = none
  int : mg "int" = none
  str : mg "str" = none
  bool : mg "bool" = none
  list : mg "list" = none
  tuple : mg "tuple" = none
  dict : mg "dict" = none
  isinstance : mg "isinstance" = none
  all : mg "all" = none
  any : mg "any" = none
  sum : mg "sum" = none
  zip : mg "zip" = none
  repr : mg "repr" = none
  divmod : mg "divmod" = none
  sorted : mg "sorted" = none
  enumerate : mg "enumerate" = none
  reversed : mg "reversed" = none
  valueError : mg "ValueError" = none

/-- where a body runs: the room, what a raised error is wished to meet -/
structure Cxt (X : Cx) (k : Nat) (W : WX) : Prop where
  room : Room k X.A
  calm : X.calm = true
  nd : X.N.Nodup
  blt : Blt X.mg X.base
  po : PassesOwn (model X.prog X.w) X.A X.env X.xe
  tk : Takes X W
abbrev W0 : WX := fun _ _ _ _ => False
theorem takesW0 {X : Cx} : Takes X W0 := fun _ _ ⟨_, _, _, _, _, _, _, _, _, _, _, _, _, _, _, _, z⟩ => z.elim
theorem Cxt.mono {X : Cx} {j k : Nat} {W : WX} (C : Cxt X k W) (h : j ≤ k) : Cxt X j W := ⟨C.room.mono h, C.calm, C.nd, C.blt, C.po, C.tk⟩
theorem Cxt.blk {X : Cx} {k : Nat} {W : WX} (C : Cxt X k W) (s : Shared) (H : Hp) (scope : Scope) (cenv : Env) (fp : List Addr) : Cxt (X.blk s H scope cenv fp) k W0 :=
  ⟨C.room, C.calm, C.nd, C.blt, PassesOwn.never, takesW0⟩
/-- no guard of repr stands -/
abbrev Gd (X : Cx) : Prop := X.A.guards = some []

/-! ### a def's promise, where no guard of repr stands -/
structure GFn (P : Program) (w : World) (K : PySem.W.Frag) (mg : Str → Option Value) (base : Heap) (k : Nat) (f : Addr) (fd : FuncData) (ps : List Str) (sp : Sp) : Prop where
  len : ∀ vs H Q E, sp vs H Q E → vs.length = ps.length
  run : ∀ (A : Around) (outer : List Env) (s : Shared) (H : Hp) (args : Args) (us : List Value) (vs : List V) (Q : VK) (E : XK), Room k A → A.guards = some [] → Env0 P w K mg base A outer s H → BindsTo s fd args (ps.zip us) → Vals vs us → sp vs H Q E →
    codeAny (model P w) A (.call (.ref f) args) (CR (L2.CX P w) outer P w H s Q E) s
/-- a def of the text under its name: its promise in every place -/
structure Def (P : Program) (w : World) (K : PySem.W.Frag) (mg : Str → Option Value) (base : Heap) (k : Nat) (x : Str) (st : Stmt) (ps : List Str) (sp : Sp) : Prop where
  ex : ∃ (f : Addr) (kV doc pm : Value) (an : Option Addr) (cdv ct : Value), mg x = some (.ref f) ∧ PySem.W.keepIn K (.ref f) = true ∧
    FnOk P w K mg base (L2.CX P w) k f (PySem.W.fnOf x x (defArgs st) (defBody st) (defScope st) .none kV doc pm an cdv ct) ps sp
/-- .. its promise where no guard of repr stands -/
structure DefG (P : Program) (w : World) (K : PySem.W.Frag) (mg : Str → Option Value) (base : Heap) (k : Nat) (x : Str) (st : Stmt) (ps : List Str) (sp : Sp) : Prop where
  ex : ∃ (f : Addr) (kV doc pm : Value) (an : Option Addr) (cdv ct : Value), mg x = some (.ref f) ∧ PySem.W.keepIn K (.ref f) = true ∧
    GFn P w K mg base k f (PySem.W.fnOf x x (defArgs st) (defBody st) (defScope st) .none kV doc pm an cdv ct) ps sp
/-- what the head tells of it -/
structure At (K : PySem.W.Frag) (mg : Str → Option Value) (x : Str) (st : Stmt) : Prop where
  ex : ∃ (f : Addr) (fd : FuncData), mg x = some (.ref f) ∧ Fun K x x st f fd

section
variable {P : Program} {w : World} {K : PySem.W.Frag} {mg : Str → Option Value} {base : Heap}
theorem gfn_of {k : Nat} {f : Addr} {fd : FuncData} {ps : List Str} {sp : Sp} (F : FnOk P w K mg base (L2.CX P w) k f fd ps sp) : GFn P w K mg base k f fd ps sp := ⟨F.len, fun A outer s H args us vs Q E hr _ => F.run A outer s H args us vs Q E hr⟩
theorem Def.g {k : Nat} {x : Str} {st : Stmt} {ps : List Str} {sp : Sp} (D : Def P w K mg base k x st ps sp) : DefG P w K mg base k x st ps sp := by
  obtain ⟨f, kV, doc, pm, an, cdv, ct, h1, h2, h3⟩ := D.ex
  exact ⟨f, kV, doc, pm, an, cdv, ct, h1, h2, gfn_of h3⟩
theorem Def.mono {j k : Nat} {x : Str} {st : Stmt} {ps : List Str} {sp : Sp} (D : Def P w K mg base j x st ps sp) (h : j ≤ k) : Def P w K mg base k x st ps sp := by
  obtain ⟨f, kV, doc, pm, an, cdv, ct, h1, h2, h3⟩ := D.ex
  exact ⟨f, kV, doc, pm, an, cdv, ct, h1, h2, h3.mono h⟩
theorem DefG.mono {j k : Nat} {x : Str} {st : Stmt} {ps : List Str} {sp : Sp} (D : DefG P w K mg base j x st ps sp) (h : j ≤ k) : DefG P w K mg base k x st ps sp := by
  obtain ⟨f, kV, doc, pm, an, cdv, ct, h1, h2, h3⟩ := D.ex
  exact ⟨f, kV, doc, pm, an, cdv, ct, h1, h2, h3.len, fun A outer s H args us vs Q E hr => h3.run A outer s H args us vs Q E (hr.mono h)⟩
/-- the body's context -/
abbrev bX (P : Program) (w : World) (K : PySem.W.Frag) (mg : Str → Option Value) (base : Heap) (N : List Str) (x : Str) (st : Stmt) (f : Addr) (cdv : Value) (A : Around) (outer : List Env) (s : Shared) (H : Hp) (E : XK) : Cx :=
  cxOf (L2.CX P w) P w K mg base N x (defScope st) f cdv A outer s H E
/-- THE RULE for a function object: x0 its name, x its qualified name -/
theorem fnok_body {k : Nat} {x0 x : Str} {st : Stmt} {f : Addr} {oc dV kV doc pm cdv ct : Value} {od an : Option Addr} {osl : Array (Option Value)} {N ps : List Str} {sp : Sp} (B : Blt mg base)
    (lk : K.lookup f = some ⟨oc, od, .func (PySem.W.fnOf x0 x (defArgs st) (defBody st) (defScope st) dV kV doc pm an cdv ct), osl⟩) (hcd : PySem.W.codeIn K cdv x = true)
    (S : FnScope N ps (defScope st)) (len : ∀ vs H Q E, sp vs H Q E → vs.length = ps.length)
    (body : ∀ (A : Around) (outer : List Env) (s : Shared) (H : Hp) (vs : List V) (Q : VK) (E : XK), Cxt (bX P w K mg base N x st f cdv A outer s H E) k (fun cls d _ H => E cls d H) → sp vs H Q E →
      wB (bX P w K mg base N x st f cdv A outer s H E) (defBody st) { nx := fun _ H' => Q .non H', rt := Q } (start N vs) H) :
    FnOk P w K mg base (L2.CX P w) (k + 1) f (PySem.W.fnOf x0 x (defArgs st) (defBody st) (defScope st) dV kV doc pm an cdv ct) ps sp :=
  ⟨len, fun A outer s H args us vs Q E hr e0 hb r hsp => LamX.run_ofS lk hcd S hr e0 hb r (len _ _ _ _ hsp) fun hr' => ⟨wB _ (defBody st), pB, body A outer s H vs Q E ⟨hr', rfl, S.nd, B, passes_of rfl, takes_of rfl rfl rfl rfl⟩ hsp⟩⟩
theorem gfn_body {k : Nat} {x0 x : Str} {st : Stmt} {f : Addr} {oc dV kV doc pm cdv ct : Value} {od an : Option Addr} {osl : Array (Option Value)} {N ps : List Str} {sp : Sp} (B : Blt mg base)
    (lk : K.lookup f = some ⟨oc, od, .func (PySem.W.fnOf x0 x (defArgs st) (defBody st) (defScope st) dV kV doc pm an cdv ct), osl⟩) (hcd : PySem.W.codeIn K cdv x = true)
    (S : FnScope N ps (defScope st)) (len : ∀ vs H Q E, sp vs H Q E → vs.length = ps.length)
    (body : ∀ (A : Around) (outer : List Env) (s : Shared) (H : Hp) (vs : List V) (Q : VK) (E : XK), Cxt (bX P w K mg base N x st f cdv A outer s H E) k (fun cls d _ H => E cls d H) → Gd (bX P w K mg base N x st f cdv A outer s H E) → sp vs H Q E →
      wB (bX P w K mg base N x st f cdv A outer s H E) (defBody st) { nx := fun _ H' => Q .non H', rt := Q } (start N vs) H) :
    GFn P w K mg base (k + 1) f (PySem.W.fnOf x0 x (defArgs st) (defBody st) (defScope st) dV kV doc pm an cdv ct) ps sp :=
  ⟨len, fun A outer s H args us vs Q E hr hg e0 hb r hsp => LamX.run_ofS lk hcd S hr e0 hb r (len _ _ _ _ hsp) fun hr' => ⟨wB _ (defBody st), pB, body A outer s H vs Q E ⟨hr', rfl, S.nd, B, passes_of rfl, takes_of rfl rfl rfl rfl⟩ hg hsp⟩⟩
/-- THE RULE for a def -/
theorem def_of {k : Nat} {x : Str} {st : Stmt} {N ps : List Str} {sp : Sp} (D : At K mg x st) (B : Blt mg base) (S : FnScope N ps (defScope st)) (len : ∀ vs H Q E, sp vs H Q E → vs.length = ps.length)
    (body : ∀ (f : Addr) (cdv : Value) (A : Around) (outer : List Env) (s : Shared) (H : Hp) (vs : List V) (Q : VK) (E : XK), mg x = some (.ref f) → Cxt (bX P w K mg base N x st f cdv A outer s H E) k (fun cls d _ H => E cls d H) → sp vs H Q E →
      wB (bX P w K mg base N x st f cdv A outer s H E) (defBody st) { nx := fun _ H' => Q .non H', rt := Q } (start N vs) H) : Def P w K mg base (k + 1) x st ps sp := by
  obtain ⟨f, fd, hm, F⟩ := D.ex
  obtain ⟨oc, od, kV, doc, pm, an, cdv, ct, osl, rfl, lk, hcd⟩ := F.ex
  exact ⟨f, kV, doc, pm, an, cdv, ct, hm, F.kp, fnok_body B lk hcd S len fun A outer s H vs Q E C h => body f cdv A outer s H vs Q E hm C h⟩
theorem defG_of {k : Nat} {x : Str} {st : Stmt} {N ps : List Str} {sp : Sp} (D : At K mg x st) (B : Blt mg base) (S : FnScope N ps (defScope st)) (len : ∀ vs H Q E, sp vs H Q E → vs.length = ps.length)
    (body : ∀ (f : Addr) (cdv : Value) (A : Around) (outer : List Env) (s : Shared) (H : Hp) (vs : List V) (Q : VK) (E : XK), mg x = some (.ref f) → Cxt (bX P w K mg base N x st f cdv A outer s H E) k (fun cls d _ H => E cls d H) → Gd (bX P w K mg base N x st f cdv A outer s H E) → sp vs H Q E →
      wB (bX P w K mg base N x st f cdv A outer s H E) (defBody st) { nx := fun _ H' => Q .non H', rt := Q } (start N vs) H) : DefG P w K mg base (k + 1) x st ps sp := by
  obtain ⟨f, fd, hm, F⟩ := D.ex
  obtain ⟨oc, od, kV, doc, pm, an, cdv, ct, osl, rfl, lk, hcd⟩ := F.ex
  exact ⟨f, kV, doc, pm, an, cdv, ct, hm, F.kp, gfn_body B lk hcd S len fun A outer s H vs Q E C g h => body f cdv A outer s H vs Q E hm C g h⟩
end

/-! ### calls of the text's defs -/
section
variable {X : Cx} {k : Nat} {W : WX} {σ : L2.St} {H : Hp} {x : Str} {st : Stmt} {ps : List Str} {sp : Sp} {e : Expr} {es : List Expr} {p pos : Pos} {Q : VK}
theorem ran {f : Addr} {fd : FuncData} {us : List Value} {kw : List (Str × Value)} {us' : List Value} {vs' : List V} {pins : List (Addr × Obj)} {s : Shared} (C : Cxt X k W) (F : FnOk X.prog X.w X.K X.mg X.base (L2.CX X.prog X.w) k f fd ps sp)
    (hb : BindsTo s fd ⟨us, kw⟩ (ps.zip us')) (I : Inv X pins σ H s) (r : Vals vs' us') (h : sp vs' H Q (fun cls d H' => W cls d σ H')) : wpAny (model X.prog X.w) X.A (call (.ref f) us kw) (EP X pins σ Q) X.xe s := by
  refine wpAny_call (codeAny_mono (F.run X.A X.stack s H ⟨us, kw⟩ us' vs' Q _ C.room I.env0 hb r h) fun r s' hq => ?_)
  cases r with
  | error e => exact C.tk e s' (XE.of_call I (fun _ _ _ z => z) hq)
  | ok fl =>
    cases fl with
    | ret u => exact I.after hq
    | next => exact False.elim hq
    | brk => exact False.elim hq
    | cont => exact False.elim hq
theorem e_call (C : Cxt X k W) (D : Def X.prog X.w X.K X.mg X.base k x st ps sp)
    (h : wA X (e :: es) σ H fun vs H1 => sp vs H1 Q (fun cls d H' => W cls d σ H')) (hg : Gl X x := by rfl)
    (hbind : ∀ (kV doc pm : Value) (an : Option Addr) (cdv ct : Value) (us : List Value), us.length = ps.length → bindArgs (PySem.W.fnOf x x (defArgs st) (defBody st) (defScope st) .none kV doc pm an cdv ct) ⟨us, []⟩ = pure (ps.zip us))
    (hdb : (x == ("__debug__" : Str)) = false := by decide) (he : starEach (e :: es) X.env = (false, eval e X.env) :: starEach es X.env := by rfl) (hpl : (backTo pos (starEach es X.env)).any (·.1) = false := by rfl) :
    wE X (.Call (.Name x p) (e :: es) [] pos) σ H Q := by
  obtain ⟨f, kV, doc, pm, an, cdv, ct, hm, hk, F⟩ := D.ex
  refine ⟨fun pins s I => ?_⟩
  refine wpAny_Call_Name_kw (ld_glob I hg hm ?_ hdb)
  refine PySem.W.callWith_K (h₀ := X.base) I.ok.mod.kin hk (thn (h.run pos pins s I) fun us s1 ⟨vs, H1, I1, r, q⟩ => ⟨I1.kIn, ?_⟩) he hpl
  exact ran C F (.of_eq (hbind kV doc pm an cdv ct us (r.length.symm.trans (F.len _ _ _ _ q)))) I1 r q
theorem e_call0 (C : Cxt X k W) (D : Def X.prog X.w X.K X.mg X.base k x st [] sp) (h : sp [] H Q (fun cls d H' => W cls d σ H')) (hg : Gl X x := by rfl)
    (hbind : ∀ (kV doc pm : Value) (an : Option Addr) (cdv ct : Value), bindArgs (PySem.W.fnOf x x (defArgs st) (defBody st) (defScope st) .none kV doc pm an cdv ct) ⟨[], []⟩ = pure [] := by intros; rfl)
    (hdb : (x == ("__debug__" : Str)) = false := by decide) : wE X (.Call (.Name x p) [] [] pos) σ H Q := by
  obtain ⟨f, kV, doc, pm, an, cdv, ct, hm, hk, F⟩ := D.ex
  refine ⟨fun pins s I => ?_⟩
  refine wpAny_Call_Name_kw (ld_glob I hg hm ?_ hdb)
  exact PySem.W.callWith_K0 I.kIn hk (ran (us := []) (us' := []) C F (.of_eq (hbind kV doc pm an cdv ct)) I .nil h)
/-- f(k = a, ..), nothing by its place -/
theorem e_callK0 {kws : List Keyword} {ks : List Str} {g : {α : Type} → List α → List α} (C : Cxt X k W) (D : Def X.prog X.w X.K X.mg X.base k x st ps sp)
    (h : wK X kws σ H fun zs H1 => sp (g zs) H1 Q (fun cls d H' => W cls d σ H')) (hrel : ∀ {vs : List V} {us : List Value}, Vals vs us → Vals (g vs) (g us)) (hg : Gl X x := by rfl)
    (hbind : ∀ (kV doc pm : Value) (an : Option Addr) (cdv ct : Value) (us : List Value), (g us).length = ps.length → bindArgs (PySem.W.fnOf x x (defArgs st) (defBody st) (defScope st) .none kV doc pm an cdv ct) ⟨[], ks.zip us⟩ = pure (ps.zip (g us)))
    (hall : (backToKw pos (keywordEach kws X.env)).all (·.1.isSome) = true := by rfl) (hks : (backToKw pos (keywordEach kws X.env)).filterMap (·.1) = ks := by rfl)
    (hdb : (x == ("__debug__" : Str)) = false := by decide)
    (hpl : ((backTo pos (starEach [] X.env)).any (·.1) || (backToKw pos (keywordEach kws X.env)).any (·.1.isNone)) = false := by rfl) : wE X (.Call (.Name x p) [] kws pos) σ H Q := by
  obtain ⟨f, kV, doc, pm, an, cdv, ct, hm, hk, F⟩ := D.ex
  refine ⟨fun pins s I => ?_⟩
  refine wpAny_Call_Name_kw (ld_glob I hg hm ?_ hdb)
  refine PySem.W.callWith_KW0 (h₀ := X.base) I.ok.mod.kin hk hall (thn (h.run pos pins s I) fun us s1 ⟨vs, H1, I1, r, q⟩ => ⟨I1.kIn, ?_⟩) hpl
  rw [hks]
  have r2 := hrel r
  exact ran (us := []) C F (.of_eq (hbind kV doc pm an cdv ct us (r2.length.symm.trans (F.len _ _ _ _ q)))) I1 r2 q
theorem ranG {f : Addr} {fd : FuncData} {us : List Value} {kw : List (Str × Value)} {us' : List Value} {vs' : List V} {pins : List (Addr × Obj)} {s : Shared} (C : Cxt X k W) (g : Gd X) (F : GFn X.prog X.w X.K X.mg X.base k f fd ps sp)
    (hb : BindsTo s fd ⟨us, kw⟩ (ps.zip us')) (I : Inv X pins σ H s) (r : Vals vs' us') (h : sp vs' H Q (fun cls d H' => W cls d σ H')) : wpAny (model X.prog X.w) X.A (call (.ref f) us kw) (EP X pins σ Q) X.xe s := by
  refine wpAny_call (codeAny_mono (F.run X.A X.stack s H ⟨us, kw⟩ us' vs' Q _ C.room g I.env0 hb r h) fun r s' hq => ?_)
  cases r with
  | error e => exact C.tk e s' (XE.of_call I (fun _ _ _ z => z) hq)
  | ok fl =>
    cases fl with
    | ret u => exact I.after hq
    | next => exact False.elim hq
    | brk => exact False.elim hq
    | cont => exact False.elim hq
theorem e_callG (C : Cxt X k W) (hgd : Gd X) (D : DefG X.prog X.w X.K X.mg X.base k x st ps sp)
    (h : wA X (e :: es) σ H fun vs H1 => sp vs H1 Q (fun cls d H' => W cls d σ H')) (hg : Gl X x := by rfl)
    (hbind : ∀ (kV doc pm : Value) (an : Option Addr) (cdv ct : Value) (us : List Value), us.length = ps.length → bindArgs (PySem.W.fnOf x x (defArgs st) (defBody st) (defScope st) .none kV doc pm an cdv ct) ⟨us, []⟩ = pure (ps.zip us))
    (hdb : (x == ("__debug__" : Str)) = false := by decide) (he : starEach (e :: es) X.env = (false, eval e X.env) :: starEach es X.env := by rfl) (hpl : (backTo pos (starEach es X.env)).any (·.1) = false := by rfl) :
    wE X (.Call (.Name x p) (e :: es) [] pos) σ H Q := by
  obtain ⟨f, kV, doc, pm, an, cdv, ct, hm, hk, F⟩ := D.ex
  refine ⟨fun pins s I => ?_⟩
  refine wpAny_Call_Name_kw (ld_glob I hg hm ?_ hdb)
  refine PySem.W.callWith_K (h₀ := X.base) I.ok.mod.kin hk (thn (h.run pos pins s I) fun us s1 ⟨vs, H1, I1, r, q⟩ => ⟨I1.kIn, ?_⟩) he hpl
  exact ranG C hgd F (.of_eq (hbind kV doc pm an cdv ct us (r.length.symm.trans (F.len _ _ _ _ q)))) I1 r q
theorem e_callG0 (C : Cxt X k W) (hgd : Gd X) (D : DefG X.prog X.w X.K X.mg X.base k x st [] sp) (h : sp [] H Q (fun cls d H' => W cls d σ H')) (hg : Gl X x := by rfl)
    (hbind : ∀ (kV doc pm : Value) (an : Option Addr) (cdv ct : Value), bindArgs (PySem.W.fnOf x x (defArgs st) (defBody st) (defScope st) .none kV doc pm an cdv ct) ⟨[], []⟩ = pure [] := by intros; rfl)
    (hdb : (x == ("__debug__" : Str)) = false := by decide) : wE X (.Call (.Name x p) [] [] pos) σ H Q := by
  obtain ⟨f, kV, doc, pm, an, cdv, ct, hm, hk, F⟩ := D.ex
  refine ⟨fun pins s I => ?_⟩
  refine wpAny_Call_Name_kw (ld_glob I hg hm ?_ hdb)
  exact PySem.W.callWith_K0 I.kIn hk (ranG (us := []) (us' := []) C hgd F (.of_eq (hbind kV doc pm an cdv ct)) I .nil h)
/-- f(k = a, ..), nothing by its place -/
theorem e_callGK0 {kws : List Keyword} {ks : List Str} {g : {α : Type} → List α → List α} (C : Cxt X k W) (hgd : Gd X) (D : DefG X.prog X.w X.K X.mg X.base k x st ps sp)
    (h : wK X kws σ H fun zs H1 => sp (g zs) H1 Q (fun cls d H' => W cls d σ H')) (hrel : ∀ {vs : List V} {us : List Value}, Vals vs us → Vals (g vs) (g us)) (hg : Gl X x := by rfl)
    (hbind : ∀ (kV doc pm : Value) (an : Option Addr) (cdv ct : Value) (us : List Value), (g us).length = ps.length → bindArgs (PySem.W.fnOf x x (defArgs st) (defBody st) (defScope st) .none kV doc pm an cdv ct) ⟨[], ks.zip us⟩ = pure (ps.zip (g us)))
    (hall : (backToKw pos (keywordEach kws X.env)).all (·.1.isSome) = true := by rfl) (hks : (backToKw pos (keywordEach kws X.env)).filterMap (·.1) = ks := by rfl)
    (hdb : (x == ("__debug__" : Str)) = false := by decide)
    (hpl : ((backTo pos (starEach [] X.env)).any (·.1) || (backToKw pos (keywordEach kws X.env)).any (·.1.isNone)) = false := by rfl) : wE X (.Call (.Name x p) [] kws pos) σ H Q := by
  obtain ⟨f, kV, doc, pm, an, cdv, ct, hm, hk, F⟩ := D.ex
  refine ⟨fun pins s I => ?_⟩
  refine wpAny_Call_Name_kw (ld_glob I hg hm ?_ hdb)
  refine PySem.W.callWith_KW0 (h₀ := X.base) I.ok.mod.kin hk hall (thn (h.run pos pins s I) fun us s1 ⟨vs, H1, I1, r, q⟩ => ⟨I1.kIn, ?_⟩) hpl
  rw [hks]
  have r2 := hrel r
  exact ranG (us := []) C hgd F (.of_eq (hbind kV doc pm an cdv ct us (r2.length.symm.trans (F.len _ _ _ _ q)))) I1 r2 q
end

/-! ### loops -/
section
variable {X : Cx} {k : Nat} {W : WX} {σ : L2.St} {H : Hp} {e a b c : Expr} {es : List Expr} {p pos : Pos}
theorem s_for {D : Ends} {tg iter : Expr} {body : List Stmt} (C : Cxt X k W)
    (h : wI X tg iter σ H fun J H1 => ∃ n G Y, Walk J n G Y ∧ ∃ Pv : Nat → L2.St → Hp → Prop, Pv 0 σ H1 ∧ (∀ i σ H, i ≤ n → Pv i σ H → G H) ∧
      (∀ i x σ H H', i < n → Pv i σ H → Y i H x H' → wG X tg x σ H' fun σ2 H2 => wB X body { D with nx := Pv (i + 1), ct := Pv (i + 1), bk := D.nx } σ2 H2) ∧ ∀ σ H, Pv n σ H → D.nx σ H)
    (hs : ∀ x, foldedSetIterable iter X.env x = pure x := by intro _; rfl) : wS X (.For tg iter body [] pos) D σ H := by
  refine eS (ps_for C.po C.calm pI pG pB hs) ⟨fun pins s I => ?_⟩
  refine wpAny_mono (h.run pins s I) (fun v s1 hv => ?_) fun _ _ z => z
  refine wpAny_mono hv (fun it s2 hi => ?_) fun _ _ z => z
  obtain ⟨itv, fp, tn, J, H', e1, I1, T, t0, f1, n, G, Y, w, Pv, h0, hG, hs, hd⟩ := hi
  exact ⟨itv, fp, tn, J, H', e1, I1, T, t0, f1, for_it w Pv h0 hG hs hd⟩
theorem wI_mono {tg iter : Expr} {R R' : It → Hp → Prop} (h : wI X tg iter σ H R) (k : ∀ J H', R J H' → R' J H') : wI X tg iter σ H R' := ⟨fun pins s I =>
  thn (h.run pins s I) fun v s1 hv => thn hv fun it s2 ⟨itv, fp, tn, J, H', e1, I1, T, t0, f1, r⟩ => ⟨itv, fp, tn, J, H', e1, I1, T, t0, f1, k J H' r⟩⟩
/-- the readings within a comprehension's block, whatever its context -/
def wEb (X : Cx) (scope : Scope) (e : Expr) : TE := fun σ H Q => ∀ (s : Shared) (H0 : Hp) (C : Addr) (cl : List (Str × Addr)) (fp : List Addr), wE (X.blk s H0 scope (compEnvC scope cl C X.env) fp) e σ H Q
def wGb (X : Cx) (scope : Scope) (e : Expr) : TG := fun v σ H Q => ∀ (s : Shared) (H0 : Hp) (C : Addr) (cl : List (Str × Addr)) (fp : List Addr), wG (X.blk s H0 scope (compEnvC scope cl C X.env) fp) e v σ H Q
def wIfb (X : Cx) (scope : Scope) (es : List Expr) : TT := fun σ H Q => ∀ (s : Shared) (H0 : Hp) (C : Addr) (cl : List (Str × Addr)) (fp : List Addr), wIf (X.blk s H0 scope (compEnvC scope cl C X.env) fp) es σ H Q
/-- one turn of a comprehension: x the item, D the list under way -/
def LcTurn (X : Cx) (scope : Scope) (vs : List Nat) (tg : Expr) (ifs : List Expr) (elt : Expr) (σ : L2.St) (D : Addr) (x : V) (H : Hp) (Nx : Hp → Prop) : Prop :=
  wGb X scope tg x (wipe σ vs) H fun σ2 H2 => wipe σ2 vs = wipe σ vs ∧ wIfb X scope ifs σ2 H2 fun b H3 =>
    if b = true then wEb X scope elt σ2 H3 fun y H4 => ∃ acc, H4 D = some (.lst acc) ∧ acc.length < sizeLine ∧ Nx (upd H4 D (.lst (acc ++ [y]))) else Nx H3
theorem e_lc {Q : VK} {elt tg iter : Expr} {ifs : List Expr} {scope : Scope} (own : List (Str × Nat)) (C : Cxt X k W)
    (h : wI X tg iter σ H fun J H1 => ∃ n G Y, Walk J n G Y ∧ ∀ D, H1 D = none → ∃ Pv : Nat → Hp → Prop, Pv 0 (upd H1 D (.lst [])) ∧ (∀ i H, i ≤ n → Pv i H → G H) ∧
      (∀ i x H H', i < n → Pv i H → Y i H x H' → LcTurn X scope (own.map (·.2)) tg ifs elt σ D x H' (Pv (i + 1))) ∧ ∀ H, Pv n H → Q (.ref D) H)
    (ok : BlkOk X.N X.env.scope scope own := by exact blkOk_by (by first | rfl | kernel_rfl)) (hs : ∀ x, foldedSetIterable iter X.env x = pure x := by intro _; rfl) :
    wE X (.ListComp elt [⟨tg, iter, ifs, 0⟩] scope pos) σ H Q := by
  refine eE (pe_lc (g := wGb X scope tg) (tt := wIfb X scope ifs) (te := wEb X scope elt) C.calm C.nd pI ok (fun s H C cl fp => ⟨fun pins s' σ' H' v u Q' I r hh => (hh s H C cl fp).run pins s' u I r⟩)
    (fun s H C cl fp => ⟨fun pins s' σ' H' Q' I hh => (hh s H C cl fp).run pins s' I⟩) (fun s H C cl fp => ⟨fun pins s' σ' H' Q' I hh => (hh s H C cl fp).run pins s' I⟩) hs) ?_
  refine wI_mono h fun J H1 hh => ?_
  obtain ⟨n, G, Y, w, hD⟩ := hh
  intro D hn
  obtain ⟨Pv, h0, hG, ht, hd⟩ := hD D hn
  exact lc_it w Pv h0 hG ht hd
theorem s_setLc {D : Ends} {i : Nat} {y : Str} {py spos : Pos} {elt tg iter : Expr} {ifs : List Expr} {scope : Scope} (own : List (Str × Nat)) (C : Cxt X k W)
    (h : wI X tg iter σ H fun J H1 => ∃ n G Y, Walk J n G Y ∧ ∀ L, H1 L = none → ∃ Pv : Nat → Hp → Prop, Pv 0 (upd H1 L (.lst [])) ∧ (∀ i H, i ≤ n → Pv i H → G H) ∧
      (∀ i x H H', i < n → Pv i H → Y i H x H' → LcTurn X scope (own.map (·.2)) tg ifs elt σ L x H' (Pv (i + 1))) ∧ ∀ H, Pv n H → D.nx (σ.set i (some (.ref L))) H)
    (hi : X.N[i]? = some y := by rfl) (hyl : X.env.scope.names.lookup y = some .local := by rfl)
    (hsw : swapsWith (.ListComp elt [⟨tg, iter, ifs, 0⟩] scope pos) (some (.Name y py)) spos.line X.env = pure true := by exact sw_true rfl rfl rfl (by first | rfl | kernel_rfl))
    (ok : BlkOk X.N X.env.scope scope own := by exact blkOk_by (by first | rfl | kernel_rfl)) (hs : ∀ x, foldedSetIterable iter X.env x = pure x := by intro _; rfl) :
    wS X (.Assign [.Name y py] (.ListComp elt [⟨tg, iter, ifs, 0⟩] scope pos) spos) D σ H := by
  refine eS (ps_setLc (g := wGb X scope tg) (tt := wIfb X scope ifs) (te := wEb X scope elt) C.calm C.nd hi hyl hsw pI ok (fun s H C cl fp => ⟨fun pins s' σ' H' v u Q' I r hh => (hh s H C cl fp).run pins s' u I r⟩)
    (fun s H C cl fp => ⟨fun pins s' σ' H' Q' I hh => (hh s H C cl fp).run pins s' I⟩) (fun s H C cl fp => ⟨fun pins s' σ' H' Q' I hh => (hh s H C cl fp).run pins s' I⟩) hs) ?_
  refine wI_mono h fun J H1 hh => ?_
  obtain ⟨n, G, Y, w, hD⟩ := hh
  intro L hn
  obtain ⟨Pv, h0, hG, ht, hd⟩ := hD L hn
  exact lc_it w Pv h0 hG ht hd
/-- a block without tests, its target a name -/
theorem lc_plain {scope : Scope} {vs : List Nat} {i : Nat} {y : Str} {elt : Expr} {D : Addr} {x : V} {Nx : Hp → Prop} (hN : X.N.Nodup)
    (h : wEb X scope elt ((wipe σ vs).set i (some x)) H fun y H4 => ∃ acc, H4 D = some (.lst acc) ∧ acc.length < sizeLine ∧ Nx (upd H4 D (.lst (acc ++ [y])))) (hw : wipe ((wipe σ vs).set i (some x)) vs = wipe σ vs := by rfl) (hi : X.N[i]? = some y := by rfl)
    (hx : Loc (relS scope X.env.scope) y := by first | exact Or.inl rfl | exact Or.inr rfl) (hf : (scope.names.lookup y == some .cell) = true ∨ (relS scope X.env.scope).names.lookup y = some .local := by first | exact .inl rfl | exact .inr rfl) :
    LcTurn X scope vs (.Name y p) [] elt σ D x H Nx := by
  intro s H0 C cl fp
  refine g_name (i := i) ?_ hN hi hx hf
  refine ⟨hw, fun s H0 C cl fp => eIf pts_nil ?_⟩
  exact h

/-! ### what is walked -/
theorem i_list {tg : Expr} {R : It → Hp → Prop} (h : wE X e σ H fun x H1 => ∃ a, x = .ref a ∧ (∃ xs, SqL X.K H1 a xs) ∧ R (Itl X.K a) H1) : wI X tg e σ H R := eI (pi_list pE) h
theorem i_tup {tg : Expr} {R : It → Hp → Prop} (h : wE X e σ H fun x H1 => ∃ a, x = .ref a ∧ (∃ xs, SqT X.K H1 a xs) ∧ R (Itt X.K a) H1) : wI X tg e σ H R := eI (pi_tup pE) h
theorem i_str {tg : Expr} {R : It → Hp → Prop} (h : wE X e σ H fun v H1 => ∃ x, v = .str x ∧ R (Its x) H1) : wI X tg e σ H R := eI (pi_str pE) h
theorem i_range1 {tg : Expr} {R : It → Hp → Prop} (B : Blt X.mg X.base) (h : wE X a σ H fun v H1 => ∃ j : Int, v = .int j ∧ -(2 ^ 62) ≤ j ∧ j < 2 ^ 62 ∧ R (Itr 0 j.toNat) H1) (hg : Gl X "range" := by rfl)
    (hs : starEach [a] X.env = [(false, eval a X.env)] := by rfl) : wI X tg (.Call (.Name "range" p) [a] [] pos) σ H R :=
  eI (pi_range1 hg B.range pA hs) (a_cons (wE_mono h fun v H1 ⟨j, e1, h1, h2, r⟩ => a_nil ⟨j, by rw [e1], h1, h2, r⟩) hs)
theorem i_range2 {tg : Expr} {R : It → Hp → Prop} (B : Blt X.mg X.base) (h : wE X a σ H fun v H1 => wE X b σ H1 fun u H2 => ∃ i j : Int, v = .int i ∧ u = .int j ∧ (-(2 ^ 62) ≤ i ∧ i < 2 ^ 62 ∧ -(2 ^ 62) ≤ j ∧ j < 2 ^ 62) ∧ R (Itr i (j - i).toNat) H2) (hg : Gl X "range" := by rfl)
    (hs : starEach [a, b] X.env = [(false, eval a X.env), (false, eval b X.env)] := by rfl) (hs2 : starEach [b] X.env = [(false, eval b X.env)] := by rfl) : wI X tg (.Call (.Name "range" p) [a, b] [] pos) σ H R :=
  eI (pi_range2 hg B.range pA hs hs2) (a_cons (wE_mono h fun v H1 q => a_cons (wE_mono q fun u H2 ⟨i, j, e1, e2, h1, r⟩ => a_nil ⟨i, j, by rw [e1, e2], h1, r⟩) hs2) (by rw [hs, hs2]))
theorem i_range3 {tg : Expr} {R : It → Hp → Prop} (B : Blt X.mg X.base) (h : wA X [a, b, c] σ H fun vs H1 => ∃ (i j c : Int) (n : Nat), vs = [.int i, .int j, .int c] ∧ RgC i j c n ∧ R (Itc i c n) H1) (hg : Gl X "range" := by rfl)
    (hs : starEach [a, b, c] X.env = (false, eval a X.env) :: starEach [b, c] X.env := by rfl) (hpl : (backTo pos (starEach [b, c] X.env)).any (·.1) = false := by rfl) : wI X tg (.Call (.Name "range" p) [a, b, c] [] pos) σ H R := eI (pi_range3 hg B.range pA hs hpl) h
theorem i_enum {R : It → Hp → Prop} {elts : List Expr} {kk : Nat} {tpos : Pos} (B : Blt X.mg X.base) (h : wE X e σ H fun v H1 => ∃ a xs, v = .ref a ∧ SqL X.K H1 a xs ∧ R (Ite X.K a) H1) (hg : Gl X "enumerate" := by rfl) (hs : starEach [e] X.env = [(false, eval e X.env)] := by rfl) :
    wI X (.Tuple elts kk tpos) (.Call (.Name "enumerate" p) [e] [] pos) σ H R :=
  eI (pi_enum hg B.enumerate pA hs) (a_cons (wE_mono h fun v H1 ⟨a, xs, e1, h1, r⟩ => a_nil ⟨a, xs, by rw [e1], h1, r⟩) hs)
end

/-! ### built-ins -/
structure cW (X : Cx) (f : Value) (xs : List V) (H : Hp) (Q : VK) : Prop where
  run : ∀ pins s σ us, Inv X pins σ H s → Vals xs us → wpAny (model X.prog X.w) X.A (call f us) (EP X pins σ Q) X.xe s
theorem cR {X : Cx} {f : Value} : CallR X f (cW X f) := fun pins s σ _ _ us _ I r h => h.run pins s σ us I r
theorem cW_of {X : Cx} {f : Value} {r : List V → Hp → VK → Prop} {xs : List V} {H : Hp} {Q : VK} (p : CallR X f r) (h : r xs H Q) : cW X f xs H Q := ⟨fun pins s σ us I rv => p pins s σ H xs us Q I rv h⟩
section
variable {X : Cx} {k : Nat} {W : WX} {σ : L2.St} {H : Hp} {x : Str} {e a b : Expr} {es : List Expr} {p pos : Pos} {Q : VK}
theorem e_B {id : String} (h : wA X (e :: es) σ H fun vs H1 => cW X (.builtin id) vs H1 Q) (hm : X.mg x = none) (hv : bootBuiltins x = some (.builtin id)) (hg : Gl X x := by rfl) (hn : x ≠ "__name__" := by decide) (hdb : (x == ("__debug__" : Str)) = false := by decide)
    (he : starEach (e :: es) X.env = (false, eval e X.env) :: starEach es X.env := by rfl) (hpl : (backTo pos (starEach es X.env)).any (·.1) = false := by rfl) : wE X (.Call (.Name x p) (e :: es) [] pos) σ H Q := eE (pe_callB cR hg hm hv pA hn hdb he hpl) h
theorem e_Ty {T : String} (h : wA X (e :: es) σ H fun vs H1 => cW X (.type T) vs H1 Q) (hm : X.mg x = none) (hv : bootBuiltins x = some (.type T)) (hg : Gl X x := by rfl) (hn : x ≠ "__name__" := by decide) (hdb : (x == ("__debug__" : Str)) = false := by decide)
    (he : starEach (e :: es) X.env = (false, eval e X.env) :: starEach es X.env := by rfl) (hpl : (backTo pos (starEach es X.env)).any (·.1) = false := by rfl) : wE X (.Call (.Name x p) (e :: es) [] pos) σ H Q := eE (pe_callTy cR hg hm hv pA hn hdb he hpl) h
theorem e_len (B : Blt X.mg X.base) (h : wE X a σ H fun x H1 => ∃ n, LenV X.K x H1 n ∧ Q (.int n) H1) (hg : Gl X "len" := by rfl) (hs : starEach [a] X.env = [(false, eval a X.env)] := by rfl) : wE X (.Call (.Name "len" p) [a] [] pos) σ H Q :=
  e_B (id := "len") (a_cons (wE_mono h fun x H1 ⟨n, l, q⟩ => a_nil (cW_of call_len ⟨x, n, rfl, l, q⟩)) hs) B.len PySem.boot_len hg (by decide) (by decide) hs rfl
theorem e_abs (B : Blt X.mg X.base) (h : wE X a σ H fun x H1 => ∃ i, x = .int i ∧ Q (.int (if i < 0 then -i else i)) H1) (hg : Gl X "abs" := by rfl) (hs : starEach [a] X.env = [(false, eval a X.env)] := by rfl) : wE X (.Call (.Name "abs" p) [a] [] pos) σ H Q :=
  e_B (id := "abs") (a_cons (wE_mono h fun x H1 ⟨n, l, q⟩ => a_nil (cW_of call_abs ⟨n, by rw [l], q⟩)) hs) B.abs PyProof.Rows.boot_abs hg (by decide) (by decide) hs rfl
theorem e_int1 (B : Blt X.mg X.base) (h : wE X a σ H fun x H1 => ∃ i, x = .int i ∧ Q (.int i) H1) (hg : Gl X "int" := by rfl) (hs : starEach [a] X.env = [(false, eval a X.env)] := by rfl) : wE X (.Call (.Name "int" p) [a] [] pos) σ H Q :=
  e_Ty (T := "int") (a_cons (wE_mono h fun x H1 ⟨n, l, q⟩ => a_nil (cW_of call_int1 (.inl ⟨n, by rw [l], q⟩))) hs) B.int PyProof.Rows.boot_int hg (by decide) (by decide) hs rfl
theorem e_max2 (C : Cxt X k W) (h : wE X a σ H fun x H1 => wE X b σ H1 fun y H2 => ∃ i j, x = .int i ∧ y = .int j ∧ Q (.int (if j > i then j else i)) H2) (hg : Gl X "max" := by rfl) (hs : starEach [a, b] X.env = (false, eval a X.env) :: starEach [b] X.env := by rfl)
    (hs2 : starEach [b] X.env = [(false, eval b X.env)] := by rfl) : wE X (.Call (.Name "max" p) [a, b] [] pos) σ H Q :=
  e_B (id := "max") (a_cons (wE_mono h fun x H1 q => a_cons (wE_mono q fun y H2 ⟨i, j, e1, e2, q⟩ => a_nil (cW_of (call_max2 C.calm) ⟨i, j, by rw [e1, e2], q⟩)) hs2) hs) C.blt.max PyProof.Rows.boot_max hg (by decide) (by decide) hs (by rw [hs2]; rfl)
theorem e_min2 (C : Cxt X k W) (h : wE X a σ H fun x H1 => wE X b σ H1 fun y H2 => ∃ i j, x = .int i ∧ y = .int j ∧ Q (.int (if j < i then j else i)) H2) (hg : Gl X "min" := by rfl) (hs : starEach [a, b] X.env = (false, eval a X.env) :: starEach [b] X.env := by rfl)
    (hs2 : starEach [b] X.env = [(false, eval b X.env)] := by rfl) : wE X (.Call (.Name "min" p) [a, b] [] pos) σ H Q :=
  e_B (id := "min") (a_cons (wE_mono h fun x H1 q => a_cons (wE_mono q fun y H2 ⟨i, j, e1, e2, q⟩ => a_nil (cW_of (call_min2 C.calm) ⟨i, j, by rw [e1, e2], q⟩)) hs2) hs) C.blt.min PyProof.Rows.boot_min hg (by decide) (by decide) hs (by rw [hs2]; rfl)
theorem e_divmod (B : Blt X.mg X.base) (h : wE X a σ H fun x H1 => wE X b σ H1 fun y H2 => ∃ i j, x = .int i ∧ y = .int j ∧ CDiv i j ∧ ∀ p, H2 p = none → Q (.ref p) (upd H2 p (.tup [.int (i / j), .int (i % j)]))) (hg : Gl X "divmod" := by rfl)
    (hs : starEach [a, b] X.env = (false, eval a X.env) :: starEach [b] X.env := by rfl) (hs2 : starEach [b] X.env = [(false, eval b X.env)] := by rfl) : wE X (.Call (.Name "divmod" p) [a, b] [] pos) σ H Q :=
  e_B (id := "divmod") (a_cons (wE_mono h fun x H1 q => a_cons (wE_mono q fun y H2 ⟨i, j, e1, e2, q⟩ => a_nil (cW_of call_divmod ⟨i, j, by rw [e1, e2], q⟩)) hs2) hs) B.divmod PyProof.Rows.boot_divmod hg (by decide) (by decide) hs (by rw [hs2]; rfl)
theorem e_all (C : Cxt X k W) (h : wE X a σ H fun x H1 => ∃ (q : Addr) (bs : List Bool), x = .ref q ∧ SqL X.K H1 q (bs.map V.bl) ∧ Q (.bl (bs.all id)) H1) (hg : Gl X "all" := by rfl) (hs : starEach [a] X.env = [(false, eval a X.env)] := by rfl) : wE X (.Call (.Name "all" p) [a] [] pos) σ H Q :=
  e_B (id := "all") (a_cons (wE_mono h fun x H1 ⟨n, bs, e1, l, q⟩ => a_nil (cW_of (cr_all C.calm) ⟨n, bs, by rw [e1], l, q⟩)) hs) C.blt.all PyProof.Rows.boot_all hg (by decide) (by decide) hs rfl
theorem e_any (C : Cxt X k W) (h : wE X a σ H fun x H1 => ∃ (q : Addr) (bs : List Bool), x = .ref q ∧ SqL X.K H1 q (bs.map V.bl) ∧ Q (.bl (bs.any id)) H1) (hg : Gl X "any" := by rfl) (hs : starEach [a] X.env = [(false, eval a X.env)] := by rfl) : wE X (.Call (.Name "any" p) [a] [] pos) σ H Q :=
  e_B (id := "any") (a_cons (wE_mono h fun x H1 ⟨n, bs, e1, l, q⟩ => a_nil (cW_of (cr_any C.calm) ⟨n, bs, by rw [e1], l, q⟩)) hs) C.blt.any PyProof.Rows.boot_any hg (by decide) (by decide) hs rfl

/-! ### subscripts, slices, methods -/
/-- v[i], by values -/
structure iW (X : Cx) (x y : V) (H : Hp) (Q : VK) : Prop where
  run : ∀ (value slice : Expr) pins s σ v u, Inv X pins σ H s → RelV x v → RelV y u → subscripted slice false v u = operate [v, u] (getItem v u) → wpAny (model X.prog X.w) X.A (subscriptTail value slice v u) (EP X pins σ Q) X.xe s
theorem e_ix (h : wE X a σ H fun x H1 => wE X b σ H1 fun y H2 => iW X x y H2 Q) (hs : PlainIx b := by exact fun _ _ => rfl) : wE X (.Subscript a b pos) σ H Q :=
  eE (pe_ix (r := iW X) (fun value slice pins s σ _ _ _ v u _ I rx ry h he => h.run value slice pins s σ v u I rx ry he) pE pE hs) h
theorem iW_of {r : R2} {x y : V} (p : IxR X r) (h : r x y H Q) : iW X x y H Q := ⟨fun value slice pins s σ v u I rx ry he => p value slice pins s σ H x y v u Q I rx ry h he⟩
theorem ix_l {q : Addr} {xs : List V} {i : Int} {v : V} (hq : SqL X.K H q xs) (ha : atI xs i = some v) (h : Q v H) : iW X (.ref q) (.int i) H Q := iW_of ix_list ⟨q, xs, i, v, rfl, rfl, hq, ha, h⟩
theorem ix_t {q : Addr} {xs : List V} {i : Int} {v : V} (hq : SqT X.K H q xs) (ha : atI xs i = some v) (h : Q v H) : iW X (.ref q) (.int i) H Q := iW_of ix_tup ⟨q, xs, i, v, rfl, rfl, hq, ha, h⟩
theorem ix_s {z : Str} {i : Int} {c : Nat} (hz : z.length ≤ sizeLine) (ha : atI z.cps.toList i = some c) (h : Q (.str ⟨#[c]⟩) H) : iW X (.str z) (.int i) H Q := iW_of ix_str ⟨z, i, c, rfl, rfl, hz, ha, h⟩
theorem set_l {q : Addr} {xs : List V} {i : Int} {j : Nat} {v : V} {R : Hp → Prop} (hq : H q = some (.lst xs)) (hj : ixN xs.length i = some j) (h : R (upd H q (.lst (xs.set j v)))) : sW X (.ref q) (.int i) v H R := sW_of set_list ⟨q, xs, i, j, rfl, rfl, hq, hj, h⟩
end
end Z

set_option Elab.async false
set_option linter.all false
set_option maxRecDepth 100000
set_option maxHeartbeats 4000000
/-! Data: what a value holds as a whole; none of its lists and dicts among l (those that may change) -/
namespace Z
open PySem PySem.Spec PyProof.Rows L2

/-- all but what stands at l is as it was -/
def But (l : List Addr) (H H' : Hp) : Prop := ∀ q o, q ∉ l → H q = some o → H' q = some o
theorem But.refl {l : List Addr} {H : Hp} : But l H H := fun _ _ _ h => h
theorem But.trans {l : List Addr} {H H1 H2 : Hp} (a : But l H H1) (b : But l H1 H2) : But l H H2 := fun q o n h => b q o n (a q o n h)
theorem But.new {l : List Addr} {H : Hp} {p : Addr} {o : HO} (h : H p = none) : But l H (upd H p o) := fun q u _ e => by rw [upd_ne (ne_of_none e h)]; exact e
theorem But.at {l : List Addr} {H : Hp} {p : Addr} {o : HO} (h : p ∈ l) : But l H (upd H p o) := fun q u n e => by
  have : q ≠ p := fun z => n (z ▸ h)
  rw [upd_ne this]; exact e
theorem But.mono {l m : List Addr} {H H' : Hp} (a : But l H H') (h : ∀ q ∈ l, q ∈ m) : But m H H' := fun q o n e => a q o (fun z => n (h q z)) e
theorem But.of {H H' : Hp} {l : List Addr} (a : But [] H H') : But l H H' := a.mono fun _ h => nomatch h
theorem But.free {H H' : Hp} (a : But [] H H') {p : Addr} (h : H' p = none) : H p = none := by
  cases e : H p with
  | none => rfl
  | some o => rw [a p o (by simp) e] at h; cases h
theorem But.freeL {l : List Addr} {H H' : Hp} (a : But l H H') {p : Addr} (n : p ∉ l) (h : H' p = none) : H p = none := by
  cases e : H p with
  | none => rfl
  | some o => rw [a p o n e] at h; cases h
theorem But.sql {K : PySem.W.Frag} {l : List Addr} {H H' : Hp} {a : Addr} {xs : List V} (b : But l H H') (n : a ∉ l) (h : SqL K H a xs) : SqL K H' a xs := by
  rcases h with (h | ⟨o, h⟩) | h
  · exact .inl (.inl (b _ _ n h))
  · exact .inl (.inr ⟨o, b _ _ n h⟩)
  · exact .inr h
theorem But.sqt {K : PySem.W.Frag} {l : List Addr} {H H' : Hp} {a : Addr} {xs : List V} (b : But l H H') (n : a ∉ l) (h : SqT K H a xs) : SqT K H' a xs := by
  rcases h with (h | ⟨o, h⟩) | h
  · exact .inl (.inl (b _ _ n h))
  · exact .inl (.inr ⟨o, b _ _ n h⟩)
  · exact .inr h

def keyD : Key → PyData
  | .inl i => .int i
  | .inr x => .str x
mutual
inductive DD (K : PySem.W.Frag) (l : List Addr) (H : Hp) : V → PyData → Prop
  | non : DD K l H .non .none
  | bl (b : Bool) : DD K l H (.bl b) (.bool b)
  | int (i : Int) : DD K l H (.int i) (.int i)
  | str (x : Str) : DD K l H (.str x) (.str x)
  | lst {a : Addr} {xs : List V} {ds : List PyData} : SqL K H a xs → a ∉ l → DDs K l H xs ds → DD K l H (.ref a) (.list ds)
  | tup {a : Addr} {xs : List V} {ds : List PyData} : SqT K H a xs → a ∉ l → DDs K l H xs ds → DD K l H (.ref a) (.tuple ds)
  | dct {a : Addr} {kvs : List (Key × V)} {ds : List PyData} : H a = some (.dK kvs) → a ∉ l → DDs K l H (kvs.map (·.2)) ds → DD K l H (.ref a) (.dict ((kvs.map fun q => keyD q.1).zip ds))
inductive DDs (K : PySem.W.Frag) (l : List Addr) (H : Hp) : List V → List PyData → Prop
  | nil : DDs K l H [] []
  | cons {v : V} {vs : List V} {d : PyData} {ds : List PyData} : DD K l H v d → DDs K l H vs ds → DDs K l H (v :: vs) (d :: ds)
end
section
variable {K : PySem.W.Frag} {l m : List Addr} {H H' : Hp}
mutual
theorem DD.but (b : But l H H') : ∀ {v : V} {d : PyData}, DD K l H v d → DD K l H' v d
  | _, _, .non => .non
  | _, _, .bl x => .bl x
  | _, _, .int x => .int x
  | _, _, .str x => .str x
  | _, _, .lst h n r => .lst (b.sql n h) n (DDs.but b r)
  | _, _, .tup h n r => .tup (b.sqt n h) n (DDs.but b r)
  | _, _, .dct h n r => .dct (b _ _ n h) n (DDs.but b r)
theorem DDs.but (b : But l H H') : ∀ {vs : List V} {ds : List PyData}, DDs K l H vs ds → DDs K l H' vs ds
  | _, _, .nil => .nil
  | _, _, .cons h r => .cons (DD.but b h) (DDs.but b r)
end
mutual
theorem DD.less (b : ∀ q ∈ m, q ∈ l) : ∀ {v : V} {d : PyData}, DD K l H v d → DD K m H v d
  | _, _, .non => .non
  | _, _, .bl x => .bl x
  | _, _, .int x => .int x
  | _, _, .str x => .str x
  | _, _, .lst h n r => .lst h (fun z => n (b _ z)) (DDs.less b r)
  | _, _, .tup h n r => .tup h (fun z => n (b _ z)) (DDs.less b r)
  | _, _, .dct h n r => .dct h (fun z => n (b _ z)) (DDs.less b r)
theorem DDs.less (b : ∀ q ∈ m, q ∈ l) : ∀ {vs : List V} {ds : List PyData}, DDs K l H vs ds → DDs K m H vs ds
  | _, _, .nil => .nil
  | _, _, .cons h r => .cons (DD.less b h) (DDs.less b r)
end
theorem DDs.length : ∀ {vs : List V} {ds : List PyData}, DDs K l H vs ds → vs.length = ds.length
  | _, _, .nil => rfl
  | _, _, .cons _ r => congrArg Nat.succ (DDs.length r)
theorem DDs.get : ∀ {vs : List V} {ds : List PyData} {i : Nat} {v : V}, DDs K l H vs ds → vs[i]? = some v → ∃ d, ds[i]? = some d ∧ DD K l H v d
  | _, _, _, _, .nil, h => by simp at h
  | _, _, 0, _, .cons h _, e => by simp at e; subst e; exact ⟨_, rfl, h⟩
  | _, _, i + 1, _, .cons _ r, e => by
    obtain ⟨d, h1, h2⟩ := DDs.get (i := i) r (by simpa using e)
    exact ⟨d, by simpa using h1, h2⟩
theorem DDs.strs : ∀ ys : List Str, DDs K l H (ys.map V.str) (ys.map PyData.str)
  | [] => .nil
  | y :: ys => .cons (.str y) (DDs.strs ys)
theorem DDs.append : ∀ {vs ws : List V} {ds es : List PyData}, DDs K l H vs ds → DDs K l H ws es → DDs K l H (vs ++ ws) (ds ++ es)
  | _, _, _, _, .nil, s => s
  | _, _, _, _, .cons h r, s => .cons h (DDs.append r s)
mutual
theorem DD.dp : ∀ {v : V} {d : PyData}, DD K l H v d → d.hasDict = false → Dp K H v d
  | _, _, .non, _ => .non
  | _, _, .bl x, _ => .bl x
  | _, _, .int x, _ => .int x
  | _, _, .str x, _ => .str x
  | _, _, .lst h n r, e => .lst h (DDs.dp r (by simpa [PyData.hasDict] using e))
  | _, _, .tup h n r, e => .tup h (DDs.dp r (by simpa [PyData.hasDict] using e))
  | _, _, .dct h n r, e => by simp [PyData.hasDict] at e
theorem DDs.dp : ∀ {vs : List V} {ds : List PyData}, DDs K l H vs ds → PyData.hasDictAll ds = false → DpAll K H vs ds
  | _, _, .nil, _ => .nil
  | _, _, .cons h r, e => by
    simp only [PyData.hasDictAll, Bool.or_eq_false_iff] at e
    exact .cons (DD.dp h e.1) (DDs.dp r e.2)
end
end

/-! ### what is read of it -/
theorem keyD_reads {h : Heap} {k : Key} {v : Value} (e : keyIs k v = true) : Reads h v (keyD k) [] := by
  rcases keyIs_shape e with ⟨i, t, rfl, rfl⟩ | ⟨x, t, rfl, rfl⟩
  · exact .int i t
  · exact .str x t
section
variable {X : Cx} {pins : List (Addr × Obj)} {σ : L2.St} {l : List Addr} {H : Hp} {s : Shared}
/-- at sysModules there is no list and no tracked dict -/
abbrev SysFree (X : Cx) : Prop := ∃ o es ep, X.base.get? sysModules = some o ∧ o.data = .dict es ep
theorem sys_noL (Y : SysFree X) (I : Inv X pins σ H s) {a : Addr} {xs : List V} (h : SqL X.K H a xs) : a ≠ sysModules := fun z => by
  subst z
  obtain ⟨o, es, ep, h1, h2⟩ := Y
  obtain ⟨its, rv, ⟨o', n, ho, hc, _, hd⟩, _⟩ := I.list h
  rw [(I.bs _ _ h1).1] at ho
  cases ho
  rw [h2] at hd
  cases hd
theorem sys_noD (Y : SysFree X) (I : Inv X pins σ H s) {a : Addr} {u : HO} (h : H a = some u) : a ≠ sysModules := fun z => by
  subst z
  obtain ⟨o, es, ep, h1, h2⟩ := Y
  rw [(I.bs _ _ h1).2] at h
  cases h
theorem readsAll_keys {P : Program} {w : World} (h : Heap) : ∀ {kvs : List (Key × V)} {vs : List (Key × Value)} {es : List DictEntry}, KV kvs vs → Pairs (mixKind P w) es vs → ReadsAll h (es.map (·.key)) (kvs.map fun q => keyD q.1) []
  | _, _, _, .nil, .nil => .nil
  | _, _, _, .cons r1 r, .cons e1 e2 e => by
    have q := readsAll_keys h r e
    have k1 := keyD_reads (h := h) (show keyIs _ _ = true from e1)
    rw [← r1.1] at k1
    exact ReadsAll.cons k1 q
theorem pairs_vals {P : Program} {w : World} : ∀ {es : List DictEntry} {vs : List (Key × Value)}, Pairs (mixKind P w) es vs → es.map (·.val) = vs.map (·.2)
  | _, _, .nil => rfl
  | _, _, .cons _ e2 e => by rw [List.map_cons, List.map_cons, e2, pairs_vals e]
theorem vals_of {kvs : List (Key × V)} {vs : List (Key × Value)} (r : KV kvs vs) : Vals (kvs.map (·.2)) (vs.map (·.2)) := by
  induction r with
  | nil => exact .nil
  | cons h _ ih => exact .cons h.2 ih
mutual
theorem DD.reads (Y : SysFree X) (I : Inv X pins σ H s) : ∀ {v : V} {d : PyData} {u : Value}, DD X.K l H v d → RelV v u → ∃ as, Reads s.heap u d as ∧ sysModules ∉ as
  | _, _, _, .non, r => by cases r; exact ⟨_, Reads.none, by simp⟩
  | _, _, _, .bl b, r => by cases r; exact ⟨_, Reads.bool b, by simp⟩
  | _, _, _, .int i, r => by obtain ⟨t, rfl⟩ := r; exact ⟨_, Reads.int i t, by simp⟩
  | _, _, _, .str x, r => by obtain ⟨t, rfl⟩ := r; exact ⟨_, Reads.str x t, by simp⟩
  | _, _, _, .lst h n ha, r => by
    cases r
    have ne := sys_noL Y I h
    obtain ⟨its, rv, ⟨o, n, ho, hc, _, hd⟩, _⟩ := I.list h
    obtain ⟨as, hr, na⟩ := DDs.reads Y I ha rv
    exact ⟨_, Reads.list ho hc hd hr, by simp [na, Ne.symm ne]⟩
  | _, _, _, .tup h n ha, r => by
    cases r
    obtain ⟨its, rv, ⟨o, ho, hc, n, hd⟩, _⟩ := I.tuple h
    obtain ⟨as, hr, na⟩ := DDs.reads Y I ha rv
    exact ⟨_, Reads.tuple ho hc hd hr, na⟩
  | _, _, _, .dct (a := a) (kvs := kvs) (ds := ds) h n ha, r => by
    cases r
    have ne := sys_noD Y I h
    obtain ⟨_, _, vs, rk, o, es, ep, ho, hx, hd, _, hp, _⟩ := I.hok a _ h
    have hv := pairs_vals hp
    obtain ⟨as, hr, na⟩ := DDs.reads Y I ha (vals_of rk)
    have hl := DDs.length ha
    refine ⟨_, Reads.dict (as := []) (bs := as) ho hx.1 hd ?_ ?_, by simp [na, Ne.symm ne]⟩
    · rw [List.map_fst_zip (by simpa using Nat.le_of_eq hl)]
      exact readsAll_keys _ rk hp
    · rw [List.map_snd_zip (by simpa using Nat.le_of_eq hl.symm), hv]
      exact hr
theorem DDs.reads (Y : SysFree X) (I : Inv X pins σ H s) : ∀ {vs : List V} {ds : List PyData} {us : List Value}, DDs X.K l H vs ds → Vals vs us → ∃ as, ReadsAll s.heap us ds as ∧ sysModules ∉ as
  | _, _, _, .nil, .nil => ⟨_, ReadsAll.nil, by simp⟩
  | _, _, _, .cons h r, .cons r1 r2 => by
    obtain ⟨as, q1, n1⟩ := DD.reads Y I h r1
    obtain ⟨bs, q2, n2⟩ := DDs.reads Y I r r2
    exact ⟨_, ReadsAll.cons q1 q2, by simp [n1, n2]⟩
end
/-! ### repr -/
theorem call_reprD (Y : SysFree X) (hg : X.A.guards = some []) (hu : X.A.units + 66 < cLine) : CallR X (.builtin "repr") (fun xs H Q => ∃ v l d, xs = [v] ∧ DD X.K l H v d ∧ d.showable = true ∧ d.depth ≤ 64 ∧ d.shown.length ≤ sizeLine ∧ Q (.str d.shown) H) := by
  intro pins s σ H xs us Q I r h
  obtain ⟨v, l, d, rfl, hd, hs, hdp, hz, q⟩ := h
  obtain ⟨u, rfl, r1⟩ := vals1 r
  have fin : ∀ {h' : Heap} {t tk}, (∀ b o, s.heap.get? b = some o → h'.get? b = some o) → EP X pins σ Q (.str d.shown t) { s with heap := h', toks := tk } := fun k => ⟨.str d.shown, H, I.kept k, ⟨_, rfl⟩, q⟩
  cases hd with
  | non =>
    cases r1
    rw [PyData.shown_none] at fin
    exact PySem.P.repr_of_none (fin fun _ _ e => e)
  | bl b =>
    cases r1
    rw [PyData.shown_bool] at fin
    refine PySem.P.repr_of_bool ?_
    have := fin (t := s.toks) (tk := s.toks + 1) (h' := s.heap) fun _ _ e => e
    cases b <;> exact this
  | int i =>
    obtain ⟨t, rfl⟩ := r1
    rw [PyData.shown_int] at fin
    exact PySem.P.repr_of_int (by simpa [PyData.showable] using hs) (fin fun _ _ e => e)
  | str x =>
    obtain ⟨t, rfl⟩ := r1
    rw [PyData.shown_str] at fin hz
    exact PySem.P.repr_of_str (fin fun _ _ e => e) hz
  | @lst a xs ds h1 h2 h3 =>
    obtain rfl : u = Value.ref a := r1
    obtain ⟨as, hr, na⟩ := DD.reads Y I (.lst h1 h2 h3) (u := .ref a) rfl
    exact repr_of_reads' hr hs (fun _ => na) hg (by omega) (fun _ _ e => e) (fun h' u tk k => fin k) hz
  | @tup a xs ds h1 h2 h3 =>
    obtain rfl : u = Value.ref a := r1
    obtain ⟨as, hr, na⟩ := DD.reads Y I (.tup h1 h2 h3) (u := .ref a) rfl
    exact repr_of_reads' hr hs (fun _ => na) hg (by omega) (fun _ _ e => e) (fun h' u tk k => fin k) hz
  | @dct a kvs ds h1 h2 h3 =>
    obtain rfl : u = Value.ref a := r1
    obtain ⟨as, hr, na⟩ := DD.reads Y I (.dct h1 h2 h3) (u := .ref a) rfl
    exact repr_of_reads' hr hs (fun _ => na) hg (by omega) (fun _ _ e => e) (fun h' u tk k => fin k) hz
end
end Z

set_option Elab.async false
set_option linter.all false
set_option maxRecDepth 100000
set_option maxHeartbeats 4000000
namespace Z
open PySem PySem.Spec PyProof.Rows L2

/-! ### repr, isinstance, == of data -/
section
variable {X : Cx} {k : Nat} {W : WX} {σ : L2.St} {H : Hp} {x : Str} {e a b : Expr} {es : List Expr} {p pos : Pos} {Q : VK}
theorem e_repr (B : Blt X.mg X.base) (hg : X.A.guards = some []) (hu : X.A.units + 66 < cLine)
    (h : wE X a σ H fun v H1 => ∃ l d, DD X.K l H1 v d ∧ d.showable = true ∧ d.depth ≤ 64 ∧ d.shown.length ≤ sizeLine ∧ Q (.str d.shown) H1) (hgl : Gl X "repr" := by rfl) (hs : starEach [a] X.env = [(false, eval a X.env)] := by rfl) :
    wE X (.Call (.Name "repr" p) [a] [] pos) σ H Q :=
  e_B (id := "repr") (a_cons (wE_mono h fun v H1 ⟨l, d, h1, h2, h3, h4, q⟩ => a_nil (cW_of (call_reprD B.sys hg hu) ⟨v, l, d, rfl, h1, h2, h3, h4, q⟩)) hs) B.repr PyProof.Rows.boot_repr hgl (by decide) (by decide) hs rfl
theorem Cxt.un (C : Cxt X k W) : X.A.units + 66 < cLine := by have := C.room.un; omega
/-- the name of a data's type -/
def tyD : PyData → String
  | .none => "NoneType" | .bool _ => "bool" | .int _ => "int" | .str _ => "str" | .list _ => "list" | .tuple _ => "tuple" | .dict _ => "dict"
theorem DD.tyx {K : PySem.W.Frag} {l : List Addr} {v : V} {d : PyData} (h : DD K l H v d) : TyX K H v (.type (tyD d)) := by
  cases h with
  | non => exact .base .non
  | bl b => exact .base (.bl b)
  | int i => exact .base (.int i)
  | str x => exact .base (.str x)
  | lst h1 h2 h3 =>
    rcases h1 with (h1 | ⟨o, h1⟩) | ⟨o, its, n, h1, h4, _⟩
    · exact .base (.lst h1)
    · exact .base (.frz h1)
    · exact .kList h1 h4
  | tup h1 h2 h3 =>
    rcases h1 with (h1 | ⟨o, h1⟩) | ⟨o, its, n, h1, h4, _⟩
    · exact .base (.tup h1)
    · exact .fTuple h1
    · exact .kTuple h1 h4
  | dct h1 h2 h3 => exact .base (.dK h1)
def isInt : PyData → Bool | .int _ => true | .bool _ => true | _ => false
def isBool : PyData → Bool | .bool _ => true | _ => false
def isStr : PyData → Bool | .str _ => true | _ => false
def isList : PyData → Bool | .list _ => true | _ => false
def isTuple : PyData → Bool | .tuple _ => true | _ => false
def isDict : PyData → Bool | .dict _ => true | _ => false
theorem kit_int : ∀ d : PyData, kitB (tyD d) "int" = some (isInt d)
  | .none => (by decide +kernel : kitB "NoneType" "int" = some false)
  | .bool _ => (by decide +kernel : kitB "bool" "int" = some true)
  | .int _ => (by decide +kernel : kitB "int" "int" = some true)
  | .str _ => (by decide +kernel : kitB "str" "int" = some false)
  | .list _ => (by decide +kernel : kitB "list" "int" = some false)
  | .tuple _ => (by decide +kernel : kitB "tuple" "int" = some false)
  | .dict _ => (by decide +kernel : kitB "dict" "int" = some false)
theorem kit_bool : ∀ d : PyData, kitB (tyD d) "bool" = some (isBool d)
  | .none => (by decide +kernel : kitB "NoneType" "bool" = some false)
  | .bool _ => (by decide +kernel : kitB "bool" "bool" = some true)
  | .int _ => (by decide +kernel : kitB "int" "bool" = some false)
  | .str _ => (by decide +kernel : kitB "str" "bool" = some false)
  | .list _ => (by decide +kernel : kitB "list" "bool" = some false)
  | .tuple _ => (by decide +kernel : kitB "tuple" "bool" = some false)
  | .dict _ => (by decide +kernel : kitB "dict" "bool" = some false)
theorem kit_str : ∀ d : PyData, kitB (tyD d) "str" = some (isStr d)
  | .none => (by decide +kernel : kitB "NoneType" "str" = some false)
  | .bool _ => (by decide +kernel : kitB "bool" "str" = some false)
  | .int _ => (by decide +kernel : kitB "int" "str" = some false)
  | .str _ => (by decide +kernel : kitB "str" "str" = some true)
  | .list _ => (by decide +kernel : kitB "list" "str" = some false)
  | .tuple _ => (by decide +kernel : kitB "tuple" "str" = some false)
  | .dict _ => (by decide +kernel : kitB "dict" "str" = some false)
theorem kit_list : ∀ d : PyData, kitB (tyD d) "list" = some (isList d)
  | .none => (by decide +kernel : kitB "NoneType" "list" = some false)
  | .bool _ => (by decide +kernel : kitB "bool" "list" = some false)
  | .int _ => (by decide +kernel : kitB "int" "list" = some false)
  | .str _ => (by decide +kernel : kitB "str" "list" = some false)
  | .list _ => (by decide +kernel : kitB "list" "list" = some true)
  | .tuple _ => (by decide +kernel : kitB "tuple" "list" = some false)
  | .dict _ => (by decide +kernel : kitB "dict" "list" = some false)
theorem kit_tuple : ∀ d : PyData, kitB (tyD d) "tuple" = some (isTuple d)
  | .none => (by decide +kernel : kitB "NoneType" "tuple" = some false)
  | .bool _ => (by decide +kernel : kitB "bool" "tuple" = some false)
  | .int _ => (by decide +kernel : kitB "int" "tuple" = some false)
  | .str _ => (by decide +kernel : kitB "str" "tuple" = some false)
  | .list _ => (by decide +kernel : kitB "list" "tuple" = some false)
  | .tuple _ => (by decide +kernel : kitB "tuple" "tuple" = some true)
  | .dict _ => (by decide +kernel : kitB "dict" "tuple" = some false)
theorem kit_dict : ∀ d : PyData, kitB (tyD d) "dict" = some (isDict d)
  | .none => (by decide +kernel : kitB "NoneType" "dict" = some false)
  | .bool _ => (by decide +kernel : kitB "bool" "dict" = some false)
  | .int _ => (by decide +kernel : kitB "int" "dict" = some false)
  | .str _ => (by decide +kernel : kitB "str" "dict" = some false)
  | .list _ => (by decide +kernel : kitB "list" "dict" = some false)
  | .tuple _ => (by decide +kernel : kitB "tuple" "dict" = some false)
  | .dict _ => (by decide +kernel : kitB "dict" "dict" = some true)
/-- isinstance(a, T), T a built-in type -/
theorem e_isi {T : Str} {n : String} {r : PyData → Bool} (B : Blt X.mg X.base) (hk : ∀ d, kitB (tyD d) n = some (r d)) (hT : X.mg T = none) (hv : bootBuiltins T = some (.type n))
    (h : wE X a σ H fun v H1 => ∃ l d, DD X.K l H1 v d ∧ Q (.bl (r d)) H1) {pT : Pos} (hgT : Gl X T := by rfl) (hnT : T ≠ "__name__" := by decide) (hdT : (T == ("__debug__" : Str)) = false := by decide) (hgl : Gl X "isinstance" := by rfl)
    (hs : starEach [a, .Name T pT] X.env = (false, eval a X.env) :: starEach [.Name T pT] X.env := by rfl) (hs2 : starEach [.Name T pT] X.env = [(false, eval (.Name T pT) X.env)] := by rfl) :
    wE X (.Call (.Name "isinstance" p) [a, .Name T pT] [] pos) σ H Q :=
  e_B (id := "isinstance") (a_cons (wE_mono h fun v H1 ⟨l, d, h1, q⟩ => a_cons (e_blt (v := .ty n) (a_nil (cW_of call_isi ⟨v, .ty n, _, _, r d, rfl, .ty n, h1.tyx, kit_ty (hk d), q⟩)) hT hv rfl hgT hnT hdT) hs2) hs)
    B.isinstance PyProof.Rows.boot_isinstance hgl (by decide) (by decide) hs (by rw [hs2]; rfl)
/-- isinstance(a, (T, U)), two built-in types -/
theorem e_isi2 {T U : Str} {n m : String} {r : PyData → Bool} {r' : PyData → Bool} (B : Blt X.mg X.base) (hk : ∀ d, kitB (tyD d) n = some (r d)) (hk' : ∀ d, kitB (tyD d) m = some (r' d)) (hT : X.mg T = none) (hv : bootBuiltins T = some (.type n)) (hU : X.mg U = none) (hv' : bootBuiltins U = some (.type m))
    {pT pU pt : Pos} {kt} (h : wE X a σ H fun v H1 => ∃ l d, DD X.K l H1 v d ∧ ∀ H2, But [] H1 H2 → Q (.bl (r d || r' d)) H2) (hgT : Gl X T := by rfl) (hnT : T ≠ "__name__" := by decide) (hdT : (T == ("__debug__" : Str)) = false := by decide) (hgU : Gl X U := by rfl) (hnU : U ≠ "__name__" := by decide) (hdU : (U == ("__debug__" : Str)) = false := by decide) (hgl : Gl X "isinstance" := by rfl)
    (hs : starEach [a, .Tuple [.Name T pT, .Name U pU] kt pt] X.env = (false, eval a X.env) :: starEach [.Tuple [.Name T pT, .Name U pU] kt pt] X.env := by rfl) (hs2 : starEach [.Tuple [.Name T pT, .Name U pU] kt pt] X.env = [(false, eval (.Tuple [.Name T pT, .Name U pU] kt pt) X.env)] := by rfl)
    (hs3 : starEach [.Name T pT, .Name U pU] X.env = (false, eval (.Name T pT) X.env) :: starEach [.Name U pU] X.env := by rfl) (hs4 : starEach [.Name U pU] X.env = [(false, eval (.Name U pU) X.env)] := by rfl) :
    wE X (.Call (.Name "isinstance" p) [a, .Tuple [.Name T pT, .Name U pU] kt pt] [] pos) σ H Q := by
  refine e_B (id := "isinstance") (a_cons (wE_mono h fun v H1 ⟨l, d, h1, q⟩ => a_cons (e_tup (a_cons (e_blt (v := .ty n) (a_cons (e_blt (v := .ty m) (a_nil ⟨by show 2 ≤ sizeLine; decide, fun t ht => ?_⟩) hU hv' rfl hgU hnU hdU) hs4) hT hv rfl hgT hnT hdT) hs3)) hs2) hs)
    B.isinstance PyProof.Rows.boot_isinstance hgl (by decide) (by decide) hs (by rw [hs2]; rfl)
  refine a_nil (cW_of call_isiT ⟨v, t, [.ty n, .ty m], _, [.type n, .type m], r d || r' d, rfl, upd_same, .cons (.ty n) (.cons (.ty m) .nil), (h1.but (But.new ht)).tyx, ?_, q _ (But.new ht)⟩)
  refine kitAny_cons (kit_ty (hk d)) (fun e1 => ?_) fun e1 => by rw [e1]; rfl
  rw [e1, Bool.false_or]
  exact kitAny_cons (kit_ty (hk' d)) (fun e2 => by rw [e2]; rfl) fun e2 => e2
/-- a == b, a != b: data without dicts, as the library tells it -/
theorem c_eqD {y z : V} {l m : List Addr} {d f : PyData} (C : Cxt X k W) (h1 : DD X.K l H y d) (h2 : DD X.K m H z f) (n1 : SeqAt.shaped d = true) (n2 : SeqAt.shaped f = true) (q : Q (.bl (PyData.eqv d f)) H) : oW X (compareOp .Eq) y z H Q :=
  oW_of (op_eqD C.room.units) ⟨d, f, h1.dp (PyData.hasDict_of_canLay d (SeqAt.canLay_of_shaped n1)), h2.dp (PyData.hasDict_of_canLay f (SeqAt.canLay_of_shaped n2)), n1, n2, q⟩
theorem c_neD {y z : V} {l m : List Addr} {d f : PyData} (C : Cxt X k W) (h1 : DD X.K l H y d) (h2 : DD X.K m H z f) (n1 : SeqAt.shaped d = true) (n2 : SeqAt.shaped f = true) (q : Q (.bl (!PyData.eqv d f)) H) : oW X (compareOp .NotEq) y z H Q :=
  oW_of (op_neD C.room.units) ⟨d, f, h1.dp (PyData.hasDict_of_canLay d (SeqAt.canLay_of_shaped n1)), h2.dp (PyData.hasDict_of_canLay f (SeqAt.canLay_of_shaped n2)), n1, n2, q⟩
end

/-! ### own errors over LineError: one field -/
/-- what the head tells of an error class: it stands at C under the name x -/
structure Err1 (K : PySem.W.Frag) (mg : Str → Option Value) (x f : Str) (C : Addr) (st : Stmt) : Prop where
  gC : mg x = some (.ref C)
  oex : OexC K C
  init : ∃ fI oc od kV doc pm an cdv ct osl, PySem.W.findIn K (.ref C) "__init__" = some (some (.ref fI)) ∧ PySem.W.typeIn K (.ref fI) = some (.type "function") ∧
    K.lookup fI = some ⟨oc, od, .func (PySem.W.fnOf "__init__" (x ++ ".__init__") (defArgs st) (defBody st) (defScope st) .none kV doc pm an cdv ct), osl⟩ ∧ PySem.W.codeIn K cdv (x ++ ".__init__") = true
  no : PySem.W.findIn K (.ref C) f = some none
  xf : XfC K C
  kc : PySem.W.typeIn K (.ref C) = some (.type "type")
/-- the base class LineError, whose __init__ is ValueError's -/
structure Base0 (K : PySem.W.Frag) (mg : Str → Option Value) (b : Str) : Prop where
  ex : ∃ CB, mg b = some (.ref CB) ∧ PySem.W.readsIn K CB (.type "type") = true ∧ PySem.W.specialIn K (.ref CB) "__getattribute__" = some (some (.builtin "type.__getattribute__")) ∧
    PySem.W.findCls K (.ref CB) (.type "type") "__init__" = some (.val (.builtin "ValueError.__init__"))
section
variable {X : Cx} {σ : L2.St} {H : Hp} {Q : VK} {e : Expr} {es : List Expr} {p1 p2 pos : Pos} {b : Str}
theorem e_baseInit {pl : Sem Bool} (B : Base0 X.K X.mg b) (h : wA X (e :: es) σ H fun vs H1 => ∃ (a C : Addr) (ws : List V), vs = .ref a :: ws ∧ ws.length ≤ 1000 ∧ OexC X.K C ∧ H1 a = some (exo a C none) ∧ Q .non H1) (hg : Gl X b) (hdb : (b == ("__debug__" : Str)) = false)
    (hc : eval (.Call (.Attribute (.Name b p1) "__init__" p2) (e :: es) [] pos) X.env = (do
      let ov ← eval (.Name b p1) X.env
      standAt p2.atName
      let (f, first) ← holding [ov] (getMethod ov "__init__" pl)
      callWith pos f first (backTo pos (starEach (e :: es) X.env)) (backToKw pos (keywordEach [] X.env))))
    (he : starEach (e :: es) X.env = (false, eval e X.env) :: starEach es X.env := by rfl) (hpl : (backTo pos (starEach es X.env)).any (·.1) = false := by rfl) :
    wE X (.Call (.Attribute (.Name b p1) "__init__" p2) (e :: es) [] pos) σ H Q := by
  obtain ⟨CB, hm, rd, ga, fc⟩ := B.ex
  refine ⟨fun pins s I => ?_⟩
  refine PySem.W.methodCall_KW (ld_glob I hg hm ?_ hdb) hc
  refine PySem.W.method_cls I.kIn ga (PySem.W.cls_value I.kIn rd fc rfl ?_)
  show wpAny _ _ (callWith pos (Value.builtin "ValueError.__init__") [] (backTo pos (starEach (e :: es) X.env)) []) _ _ _
  refine PyProof.Rows.callWith_method1 (thn (h.run pos pins _ (I.tok _)) fun us s1 ⟨vs, H1, I1, r1, a, C, ws, ev, hl, T, ea, q⟩ => ?_) he hpl
  subst ev
  cases r1 with
  | @cons _ u0 _ ur ra rw' =>
    obtain rfl : u0 = Value.ref a := ra
    have hlen : ur.length ≤ sizeLine := by
      rw [← Paired.length rw', sizeLine_eq]
      omega
    exact oinit_ok T I1 ea hlen fun s' J => ⟨.non, H1, J, rfl, q⟩
end
/-- what an error's __init__ promises -/
def spInit1 (K : PySem.W.Frag) (f : Str) : Sp := fun vs H Q _ => ∃ (a C : Addr) (v : V), vs = [.ref a, v] ∧ OexC K C ∧ PySem.W.findIn K (.ref C) f = some none ∧ H a = some (exo a C none) ∧
  ∀ dx, H dx = none → dx ≠ a → Q .non (upd (upd H dx (exd dx [(f, v)])) a (exo a C (some dx)))
section
variable {P : Program} {w : World} {K : PySem.W.Frag} {mg : Str → Option Value} {base : Heap}
theorem init1_ok {x b f txt : Str} {st : Stmt} {fI : Addr} {oc kV doc pm cdv ct : Value} {od an : Option Addr} {osl : Array (Option Value)} {p1 p2 p3 p4 p5 p6 p7 p8 p9 p10 : Pos} {j : Nat} (B : Base0 K mg b)
    (lk : K.lookup fI = some ⟨oc, od, .func (PySem.W.fnOf "__init__" x (defArgs st) (defBody st) (defScope st) .none kV doc pm an cdv ct), osl⟩) (hcd : PySem.W.codeIn K cdv x = true)
    (S : FnScope ["self", f] ["self", f] (defScope st))
    (hb : defBody st = [.Expr (.Call (.Attribute (.Name b p1) "__init__" p2) [.Name "self" p3, .Constant (.str txt) j p4] [] p5) p6, .Assign [.Attribute (.Name "self" p7) f p8] (.Name f p9) p10])
    (hs : (defScope st).names.lookup ("self" : Str) = some .local) (hf : (defScope st).names.lookup f = some .local) (hg : (defScope st).names.lookup b = some .globalImplicit) (hdb : (b == ("__debug__" : Str)) = false) (hdf : (f == ("__debug__" : Str)) = false) (hdf2 : (f == ("__classdict__" : Str)) = false)
    (hc : ∀ env : Env, env.scope = defScope st → ∃ pl, eval (.Call (.Attribute (.Name b p1) "__init__" p2) [.Name "self" p3, .Constant (.str txt) j p4] [] p5) env = (do
      let ov ← eval (.Name b p1) env
      standAt p2.atName
      let (f, first) ← holding [ov] (getMethod ov "__init__" pl)
      callWith p5 f first (backTo p5 (starEach [.Name "self" p3, .Constant (.str txt) j p4] env)) (backToKw p5 (keywordEach [] env))))
    (hsw : ∀ env : Env, env.scope = defScope st → swapsWith (.Name f p9) (some (.Attribute (.Name "self" p7) f p8)) p10.line env = pure false)
    (hsw2 : ∀ env : Env, env.scope = defScope st → swapsWith (.Call (.Attribute (.Name b p1) "__init__" p2) [.Name "self" p3, .Constant (.str txt) j p4] [] p5) none p6.line env = pure false) :
    FnOk P w K mg base (L2.CX P w) 1 fI (PySem.W.fnOf "__init__" x (defArgs st) (defBody st) (defScope st) .none kV doc pm an cdv ct) ["self", f] (spInit1 K f) := by
  refine fn_of lk hcd S (fun vs H Q E h => ?_) fun A outer s H vs Q E hr h => ⟨wB _ (defBody st), pB, ?_⟩
  · obtain ⟨a, C, v, rfl, _⟩ := h
    rfl
  · obtain ⟨a, C, v, rfl, T, hno, ha, q⟩ := h
    rw [hb]
    obtain ⟨pl, hcc⟩ := hc (envOfC x (defScope st) s.heap.objs.size fI cdv) rfl
    refine b_cons (s_expr (e_baseInit (pl := pl) B ?_ hg hdb hcc) (hsw2 _ rfl))
    refine a_cons (e_name 0 (a_cons (e_str (a_nil ⟨a, C, _, rfl, by simp, T, ha, ?_⟩))) rfl rfl (.inl hs))
    refine b_cons (eS (ps_ost (pE (e := .Name "self" p7)) pE (hsw _ rfl)) ?_)
    refine e_name 1 ?_ rfl rfl (.inl hf) hdf hdf2
    refine e_name 0 ?_ rfl rfl (.inl hs)
    exact ⟨a, C, rfl, T, hno, .inl ⟨ha, fun dx n ne => b_nil (q dx n ne)⟩⟩
end
end Z

set_option Elab.async false
set_option linter.all false
set_option maxRecDepth 100000
set_option maxHeartbeats 4000000
/-! raise and try with own errors of one field -/
namespace Z
open PySem PySem.Spec PyProof.Rows L2

/-- an error class of one field, its __init__ proved -/
structure ErrOk (P : Program) (w : World) (K : PySem.W.Frag) (mg : Str → Option Value) (base : Heap) (x f : Str) (C : Addr) : Prop where
  gC : mg x = some (.ref C)
  oex : OexC K C
  no : PySem.W.findIn K (.ref C) f = some none
  xf : XfC K C
  ex : ∃ fI fd, PySem.W.findIn K (.ref C) "__init__" = some (some (.ref fI)) ∧ PySem.W.typeIn K (.ref fI) = some (.type "function") ∧ FnOk P w K mg base (L2.CX P w) 1 fI fd ["self", f] (spInit1 K f) ∧ Binds K fd ["self", f] []
section
variable {X : Cx} {k : Nat} {W : WX} {σ : L2.St} {H : Hp} {x f : Str} {e : Expr} {C : Addr} {p1 p2 pos : Pos} {D : Ends}
/-- raise X(v) -/
theorem s_raise1 (Cc : Cxt X k W) (E : ErrOk X.prog X.w X.K X.mg X.base x f C) (hr : 2 ≤ k)
    (h : wE X e σ H fun v H1 => ∀ d H', But [] H1 H' → H1 d = none → H' d = some (.xd [(f, v)]) → W (.ref C) (some d) σ H')
    (hg : Gl X x := by rfl) (hdb : (x == ("__debug__" : Str)) = false := by decide) (he : starEach [e] X.env = [(false, eval e X.env)] := by rfl) : wS X (.Raise (some (.Call (.Name x p1) [e] [] p2)) none pos) D σ H := by
  obtain ⟨fI, fd, iC, tI, F, hb⟩ := E.ex
  have hx : Passes (L2.CX X.prog X.w) X (fun _ _ _ => False) := fun pins σ H s e s' I c => passes_call Cc.tk (fun cls d σ' H' z => z.elim) pins σ H s e s' I c
  refine eS (ps_raise Cc.calm Cc.tk (pmk_oex E.oex iC tI F (Cc.room.mono hr) hb .nil hx hg E.gC pA hdb he rfl)) ?_
  refine a_cons (wE_mono h fun v H1 q => a_nil ⟨by simp, fun a ha => ?_⟩) he
  refine ⟨a, C, v, rfl, E.oex, E.no, upd_same, fun dx hd ne => ⟨rfl, dx, [(f, v)], upd_same, by rw [upd_ne ne, upd_same], ?_, ?_⟩⟩
  · rw [upd_ne ne] at hd
    exact hd
  · have hd' : H1 dx = none := by rw [upd_ne ne] at hd; exact hd
    refine q dx _ (fun b o _ hbo => ?_) hd' upd_same
    have nb : b ≠ a := ne_of_none hbo ha
    have nb2 : b ≠ dx := ne_of_none hbo hd'
    rw [upd_ne nb2, del_ne nb, upd_ne nb, upd_ne nb2, upd_ne nb]
    exact hbo
end

/-! ### several clauses, each with its name -/
abbrev Cl := Value × Nat × List Stmt
def wHd (X : Cx) (Wout : WX) (D : Ends) : List Cl → WX
  | [] => Wout
  | (c, i, sts) :: r => fun cls d σ H => ∃ b, PySem.W.exmOne X.K cls c = some b ∧
      (b = true → ∀ (a : Addr) (oe : Obj) (pn : List (Addr × Obj)), Zc cls d oe → (∃ vs, oe.data = .fields vs) → H a = none →
        wB (X.suite a ((a, oe) :: pn)) sts { nx := fun σ' H' => D.nx (σ'.set i none) H', rt := D.rt, bk := fun σ' H' => D.bk (σ'.set i none) H', ct := fun σ' H' => D.ct (σ'.set i none) H' } (σ.set i (some (.ref a))) H) ∧
      (b = false → wHd X Wout D r cls d σ H)
inductive HdsAs (X : Cx) : List ExceptHandler → List Cl → Prop
  | nil : HdsAs X [] []
  | cons {x n : Str} {c : Value} {i : Nat} {b₀ : Stmt} {suite : List Stmt} {np pos' : Pos} {hds : List ExceptHandler} {l : List Cl} (hc : Names X x c) (hi : X.N[i]? = some n) (hln : X.env.kindOf n = some .local) (r : HdsAs X hds l) :
      HdsAs X (.ExceptHandler (some (.Name x np)) (some n) (b₀ :: suite) pos' :: hds) ((c, i, b₀ :: suite) :: l)
section
variable {X : Cx} {k : Nat} {W : WX} {σ : L2.St} {H : Hp} {body : List Stmt} {h₀ : ExceptHandler} {hds : List ExceptHandler} {l : List Cl} {pos : Pos} {D : Ends}
theorem s_try (C : Cxt X k W) (hh : HdsAs X (h₀ :: hds) l) (h : ∀ pn xe, Cxt (X.tr pn xe) k (wHd X W D l) → wB (X.tr pn xe) body D σ H) (hs : X.stack = X.env :: X.outer := by rfl) (hf : X.env.frame = some X.env.locals := by rfl) : wS X (.Try body (h₀ :: hds) [] [] pos) D σ H := by
  refine ⟨fun pins s I => ?_⟩
  have ok := I.ok
  have hfr : X.A.frames = some (X.env :: X.outer) := by rw [ok.frames, hs]
  refine wpAny_Try_except ?_
  refine wpAny_mono ((h (X.pn ++ pins) (fun e s₁ => wpAny (model X.prog X.w) X.A (noteFrame e X.env) (fun _ s₂ => wpAny (model X.prog X.w) X.A (setFlight e none) (fun _ s₃ =>
    wpAny (model X.prog X.w) X.A (handleBy e X.env (h₀ :: hds)) (SP X pins D) X.xe s₃) X.xe s₂) X.xe s₁) ⟨C.room, C.calm, C.nd, C.blt, PassesOwn.looking, fun u s' xx => ?_⟩).run [] s (I.toTry _)) (fun f s1 hsp => ?_) (fun e s1 he => he)
  · obtain ⟨a, B, sI, pins', σ', H', cls, d, rfl, J', nb, up, sky, na, os, ag, w⟩ := xx
    have J : Inv X pins σ' H' sI := J'.ofTry ok
    have sky' : Sky B (X.env :: X.outer) a (Zc cls d) X.env.locals s'.heap := by rw [← hs]; exact sky
    show wpAny (model X.prog X.w) X.A (noteFrame (.ref a) X.env) _ _ _
    refine Sky.land Zc.steady hfr hf sky' fun h3 fl3 up3 => ?_
    have J3 : Inv X pins σ' H' { s' with heap := h3 } := J.landed nb fl3.1 (up.trans up3) os ag
    obtain ⟨oe3, vs3, he3, hz3, hd3⟩ := fl3.there
    have notFr : ∀ {h : Heap} {o : Obj} {vs : Array Value}, h.FunFrames B (X.env :: X.outer) → h.get? a = some o → o.data = .fields vs → a ∉ frs (X.env :: X.outer) := fun {h o vs} ff e dd hm => by
      obtain ⟨_, o', e', hnf⟩ := ff.mem hm
      rw [e] at e'; cases e'
      exact hnf _ dd
    have nfr := notFr fl3.2.2.1 he3 hd3
    have nL : a ≠ X.env.locals := fun z => nfr (List.mem_filterMap.mpr ⟨X.env, List.mem_cons_self, by rw [hf, z]⟩)
    have nF : a ∉ X.fs := fun hm => by
      obtain ⟨e, he, q⟩ := List.mem_filterMap.mp hm
      exact nfr (List.mem_filterMap.mpr ⟨e, List.mem_cons_of_mem _ he, q⟩)
    have S3 := J3.suite he3 hd3 na nL nF
    have go : ∀ {hds' : List ExceptHandler} {l' : List Cl}, HdsAs X hds' l' → wHd X W D l' cls d σ' H' →
        wpAny (model X.prog X.w) X.A (handleBy (.ref a) X.env hds') (SP X pins D) X.xe { s' with heap := h3 } := by
      intro hds' l' hk
      induction hk with
      | nil =>
        intro w
        refine wpAny_handleBy_nil ?_
        obtain ⟨k1, k2, k3, oe, vs, T, oT, ts', he, hz, hd, h1, hr⟩ := id fl3
        unfold PySem.passOn
        refine wpAny_bind (wpAny_field he hd h1 ?_)
        rw [if_neg (show ¬ ((Value.ref T == Value.none) = true) from by simp)]
        have fin : wpAny (model X.prog X.w) X.A (setFlight (.ref a) X.env.frame) (fun _ s4 => wpAny (model X.prog X.w) X.A (throw (.ref a) : Sem Flow) (SP X pins D) X.xe s4) X.xe { s' with heap := h3 } := by
          rw [hf]
          refine HandSPX.setFlight_upZ fl3 fun h4 hh4 up4 => wpAny_throw (C.tk _ _ ?_)
          exact ⟨a, B, sI, pins, σ', H', cls, d, rfl, J, nb, (up.trans up3).trans up4, .inr (.inr (by rw [hs]; exact hh4)), na, os, ag, w⟩
        first
          | exact wpAny_bind (wpAny_pure (wpAny_bind fin))
          | exact wpAny_bind fin
      | @cons x n c i b₀ suite np pos' hds2 l2 hc hi hln r ih =>
        intro w
        obtain ⟨b, hb1, hyes, hno⟩ := w
        refine wpAny_handleBy_cons (codeAny_handlers_test ?_) (by intro q; cases q)
        have LT : PySem.W.Looks (model X.prog X.w) h3 (typeOf (.ref a)) cls := fun A Q E s k q => wpAny_typeOf_ref (k _ _ he3) (by rw [hz3.1]; exact q)
        have LM := PySem.W.exm_one (M := model X.prog X.w) (J3.kIn) LT hb1
        have test : ∀ {Q : Value → Shared → Prop} {E : Value → Shared → Prop}, Q c { s' with heap := h3 } → wpAny (model X.prog X.w) (X.A.mark (some (.ref a))) (eval (.Name x np) X.env) Q E { s' with heap := h3 } := fun {Q E} q => by
          obtain ⟨hg, hdbg, hm | ⟨hm, hv, hnn⟩⟩ := hc
          · exact ld_glob (X := X.suite a ((a, oe3) :: (X.pn ++ pins))) S3 hg hm q hdbg
          · exact ld_blt (X := X.suite a ((a, oe3) :: (X.pn ++ pins))) S3 hg hm hv q hnn hdbg
        refine test (LM.here ?_)
        cases b with
        | true =>
          refine codeAny_handlers_suite_as ?_
          refine HandSPX.lands_againZ fl3 fun h4 fl4 up4 => ?_
          have J4 : Inv X pins σ' H' { s' with heap := h4 } := J.landed nb fl4.1 ((up.trans up3).trans up4) os ag
          obtain ⟨oe4, vs4, he4, hz4, hd4⟩ := fl4.there
          have S4 := J4.suite he4 hd4 na nL nF
          have hloc : Loc X.env.scope n := .inl hln
          refine store_ok (X := X.suite a ((a, oe4) :: (X.pn ++ pins))) (v := .ref a) S4 C.nd hi hloc rfl (fun s5 S5 => ?_) (.inr hln)
          refine wpAny_mono ((hyes rfl a oe4 (X.pn ++ pins) hz4 ⟨_, hd4⟩ na).run [] s5 S5) (fun f s6 hsp => ?_) (fun _ _ z => False.elim z)
          have end_ : ∀ {σ6 : L2.St} {H6 : Hp} {Q : Shared → Prop}, Inv (X.suite a ((a, oe4) :: (X.pn ++ pins))) [] σ6 H6 s6 → (∀ s7, Inv X pins (σ6.set i none) H6 s7 → Q s7) →
              wpAny (model X.prog X.w) X.A (do bindName X.env n .none; unbindBehindTheSuite X.env n pos') (fun _ s7 => Q s7) X.xe s6 := fun {σ6 H6 Q} S6 hq => gone_ok (S6.unsuite ok) C.nd hi hln hq
          cases f with
          | next =>
            obtain ⟨σ6, H6, S6, q6⟩ := hsp
            exact end_ S6 fun s7 J7 => ⟨_, _, J7, q6⟩
          | brk =>
            obtain ⟨σ6, H6, S6, q6⟩ := hsp
            exact end_ S6 fun s7 J7 => ⟨_, _, J7, q6⟩
          | cont =>
            obtain ⟨σ6, H6, S6, q6⟩ := hsp
            exact end_ S6 fun s7 J7 => ⟨_, _, J7, q6⟩
          | ret u =>
            obtain ⟨v6, σ6, H6, S6, r6, q6⟩ := hsp
            exact end_ S6 fun s7 J7 => ⟨_, _, _, J7, r6, q6⟩
        | false =>
          show wpAny _ X.A (handleBy (.ref a) X.env hds2) _ _ _
          exact ih (hno rfl)
    exact go hh w
  · cases f with
    | next =>
      obtain ⟨σ', H', J', q⟩ := hsp
      exact wpAny_execs_nil ⟨σ', H', J'.ofTry ok, q⟩
    | brk =>
      obtain ⟨σ', H', J', q⟩ := hsp
      exact ⟨σ', H', J'.ofTry ok, q⟩
    | cont =>
      obtain ⟨σ', H', J', q⟩ := hsp
      exact ⟨σ', H', J'.ofTry ok, q⟩
    | ret u =>
      obtain ⟨v, σ', H', J', r, q⟩ := hsp
      exact ⟨v, σ', H', J'.ofTry ok, r, q⟩
end

/-! ### within a suite -/
section
variable {X : Cx} {σ : L2.St} {H : Hp} {a CE dd : Addr} {oe : Obj} {pn : List (Addr × Obj)} {e : Expr} {pos p : Pos} {f : Str} {Q : VK}
/-- e.f -/
theorem e_xf {v : V} (T : XfC X.K CE) (hno : PySem.W.findIn X.K (.ref CE) f = some none) (hz : Zc (.ref CE) (some dd) oe) (hf : ∃ vs, oe.data = .fields vs)
    (h : wE (X.suite a ((a, oe) :: pn)) e σ H fun x H1 => x = .ref a ∧ H1 dd = some (.xd [(f, v)]) ∧ Q v H1) (hb : attributeBase e f X.env (eval e X.env) = eval e X.env := by rfl) :
    wE (X.suite a ((a, oe) :: pn)) (.Attribute e f pos) σ H Q := by
  refine ⟨fun pins s I => ?_⟩
  refine attr_of hb (thn (h.run pins s I) fun u s1 hh => ?_)
  obtain ⟨x, H1, I1, rx, ex, ea, q⟩ := hh
  subst ex
  obtain rfl : u = Value.ref a := rx
  obtain ⟨ha, _⟩ := I1.pin (a, oe) (List.mem_append_left _ List.mem_cons_self)
  obtain ⟨vs, hd⟩ := hf
  obtain ⟨mA, hns, hr⟩ := (show ObjOk X.prog X.w H1 s1.heap dd (.xd [(f, v)]) from I1.hok dd _ ea)
  obtain ⟨od, ho, hl⟩ := lookIn_ns hns
  obtain ⟨u, hu, ru⟩ := RelO.some_of (v := v) (o := mA f) (by have := hr f; simpa using this)
  have J : PySem.W.InstAt s1.heap a oe CE (some od) := ⟨ha, hz.1, by unfold PySem.W.notCls; rw [hd] <;> rfl, by rw [hz.2]; exact ho⟩
  exact HandSPX.exc_get I1.kIn J T.ga T.gg T.exC (PySem.W.findObj_own T.hdC hno rfl (by rw [hl, hu])) (handed_of ru) ⟨v, H1, I1.tok _, ru, q⟩
/-- isinstance(e, c) of the caught error, whose fields are kept in dd -/
theorem c_isX {c : V} {cv : Value} {b : Bool} {fs : List (Str × V)} (T : ExcC X.K CE) (hz : Zc (.ref CE) (some dd) oe) (hf : ∃ vs, oe.data = .fields vs) (hcv : ∀ u, RelV c u → u = cv) (e1 : PySem.W.kitOne X.K (.ref CE) cv = some b) (hx : H dd = some (.xd fs)) (q : Q (.bl b) H) :
    cW (X.suite a ((a, oe) :: pn)) (.builtin "isinstance") [.ref a, c] H Q := by
  refine ⟨fun pins s σ us I r => ?_⟩
  cases r with
  | cons rx rr =>
    cases rr with
    | cons rt rr =>
      cases rr
      cases rx
      have ec := hcv _ rt
      subst ec
      obtain ⟨hget, _⟩ := I.pin (a, oe) (List.mem_append.mpr (.inl List.mem_cons_self))
      obtain ⟨vs, hv⟩ := hf
      obtain ⟨mA, hns, hr⟩ := (show ObjOk X.prog X.w H s.heap dd (.xd fs) from I.hok dd _ hx)
      obtain ⟨od, ho, hl⟩ := lookIn_ns hns
      have J : PySem.W.InstAt s.heap a oe CE (some od) := ⟨hget, hz.1, by unfold PySem.W.notCls; rw [hv] <;> rfl, by rw [hz.2]; exact ho⟩
      exact PySem.W.kia_one (PySem.W.kitx_exc (by obtain ⟨cd, hc, _⟩ := PySem.W.any_some T.hd; rw [hc]; rfl) T.hg T.hk T.hs T.ha T.hn T.ht T.hm) I.kIn J e1 (fun z => nomatch z) fun tk => ⟨.bl b, H, I.kept (t' := tk) fun _ _ z => z, rfl, q⟩
end
end Z

set_option Elab.async false
set_option linter.all false
set_option maxRecDepth 100000
set_option maxHeartbeats 4000000
/-! a lambda without parameters handed to a def that calls it -/
namespace Z
open PySem PySem.Spec PyProof.Rows L2 LamX
section
variable {X : Cx} {pins : List (Addr × Obj)} {σ : L2.St} {H : Hp} {s : Shared} {k : Nat} {W : WX}
theorem Cxt.lam {A : Around} {outer : List Env} {E : XK} {scope : Scope} {f c' : Addr} (C : Cxt X k W) {j : Nat} (hr : Room j (A.deeper (lamEnv X scope s.heap.objs.size f c'))) :
    Cxt (lamCx X A outer s H E scope f c') j (fun cls d _ H' => E cls d H') :=
  ⟨hr, rfl, C.nd, C.blt, passes_of rfl, takes_of rfl rfl rfl rfl⟩
/-- the context of the def that got the lambda -/
abbrev hX (X : Cx) (N : List Str) (x : Str) (st : Stmt) (g : Addr) (cdg : Value) (s : Shared) (H : Hp) (E : XK) : Cx := bX X.prog X.w X.K X.mg X.base N x st g cdg X.A X.stack s H E
/-- the lambda is called -/
theorem e_act {Ng : List Str} {x a : Str} {st : Stmt} {g f c' : Addr} {cdg pm ctv : Value} {params : Arguments} {body : Expr} {scope : Scope} {pn : List (Addr × Obj)} {xe : Value → Shared → Prop} {W' : WX} {E0 E : XK} {p1 p2 : Pos} {σZ : L2.St} {HZ : Hp} {Q : VK}
    (C : Cxt X (k + 2) W) (I : Inv X pins σ H s) (L : LamS X.env.scope scope) (hf : s.heap.get? f = some (PySem.W.kla_obj "<lambda>" (X.env.qual ++ "<lambda>") params body scope (cloFrom X.env.cells scope.names []) pm c' ctv)) (hfn : H f = none) (hfr : f ∉ frs X.stack)
    (hbind : bindArgs (PySem.W.kla_fn "<lambda>" (X.env.qual ++ "<lambda>") params body scope (cloFrom X.env.cells scope.names []) pm (.ref c') ctv) ⟨[], []⟩ = pure [])
    (tk : Takes ((hX X Ng x st g cdg s H E0).tr pn xe) W') (hW : ∀ cls d H', E cls d H' → W' cls d σZ H')
    (hN : Ng[0]? = some a) (hv : Vis (defScope st) a) (hd : (a == ("__debug__" : Str)) = false) (hcd : (a == ("__classdict__" : Str)) = false)
    (hs : σZ[0]? = some (some (.ref f))) (hc : HZ c' = some (CodeO c' (X.env.qual ++ "<lambda>")))
    (h : ∀ (A : Around) (outer : List Env) (s' : Shared) (H' : Hp), Cxt (lamCx X A outer s' H' E scope f c') k (fun cls d _ H => E cls d H) → (Gd X → Gd (lamCx X A outer s' H' E scope f c')) → wE (lamCx X A outer s' H' E scope f c') body σ HZ Q) :
    wE ((hX X Ng x st g cdg s H E0).tr pn xe) (.Call (.Name a p1) [] [] p2) σZ HZ Q := by
  refine ⟨fun pinsZ sZ IZ => ?_⟩
  refine wpAny_Call_Name_kw (thn ((pe_var (pos := p1) (i := 0) hN hv hd hcd).run pinsZ sZ σZ HZ (fun v H1 => v = .ref f ∧ H1 = HZ) IZ ⟨.ref f, hs, rfl, rfl⟩) fun u s1 ⟨v, H1, I1, r1, q1⟩ => ?_)
  obtain ⟨ev, eH⟩ := q1
  subst ev
  rw [eH] at I1
  obtain rfl : u = Value.ref f := r1
  have of1 : s1.heap.get? f = some (PySem.W.kla_obj "<lambda>" (X.env.qual ++ "<lambda>") params body scope (cloFrom X.env.cells scope.names []) pm c' ctv) := I1.base.keep f _ hf hfn hfr (fun z => nomatch (show f ∈ ([] : List Addr) from z))
  refine PySem.W.callWith_F0 ⟨_, _, _, _, of1⟩ ?_
  have un : Un (frs X.stack) [] H HZ s.heap s1.heap := I1.base
  obtain ⟨⟨oc, vs, t, hoc, hdc, hvc⟩, _, _⟩ := I1.hok c' _ hc
  have hr : Room (k + 1) (X.A.deeper (envOfC x (defScope st) s.heap.objs.size g cdg)) := C.room.deeper _
  have rc : codeAny (model X.prog X.w) (X.A.deeper (envOfC x (defScope st) s.heap.objs.size g cdg)) (.call (.ref f) ⟨[], []⟩) (CR (L2.CX X.prog X.w) (envOfC x (defScope st) s.heap.objs.size g cdg :: X.stack) X.prog X.w HZ s1 Q E) s1 := by
    refine PySem.W.kla_callFunE hr.depth of1 rfl L.co L.gen rfl ⟨c', oc, vs, t, rfl, hoc, hdc, hvc⟩ ?_
    rw [hbind]
    refine wpAny_pure (wpAny_newFunctionEnv (fun y hy => (L.own y hy).2) (fun y hy => absurd hy (by simp)) (fun h₁ hns hsb => ⟨I1.nolimit.fresh _ hsb, ?_⟩) L.kind)
    show codeAny _ _ (.expr body (lamEnv X scope s1.heap.objs.size f c')) _ _
    have kp : ∀ b o, s1.heap.get? b = some o → h₁.get? b = some o := fun b o e => hsb.extBut b o (Nat.ne_of_lt (Heap.lt_size e)) (Heap.get?_push_of_some _ e)
    have J : Inv (lamCx X (X.A.deeper (envOfC x (defScope st) s.heap.objs.size g cdg)) (envOfC x (defScope st) s.heap.objs.size g cdg :: X.stack) s1 HZ E scope f c') [] σ HZ { s1 with heap := h₁, toks := s1.toks + ([] : List (Str × Value)).length } :=
      lam_start2 I L I1.env0 hr.hd un hns kp
    have CL : Cxt (lamCx X (X.A.deeper (envOfC x (defScope st) s.heap.objs.size g cdg)) (envOfC x (defScope st) s.heap.objs.size g cdg :: X.stack) s1 HZ E scope f c') k (fun cls d _ H' => E cls d H') := C.lam (hr.deeper _)
    refine PySem.W.kla_codeExpr (wpAny_mono ((h _ _ s1 HZ CL fun g => g).run [] _ J) (fun v s' hq => ?_) fun e s' hq => hq)
    obtain ⟨w', H', J', rv, q⟩ := hq
    exact ⟨w', H', J'.os, J'.bare, J'.base, J'.hok, rv, q⟩
  refine wpAny_call (codeAny_mono rc fun r s' hq => ?_)
  cases r with
  | error e => exact tk e s' (XE.of_call I1 (fun cls d H' h => hW cls d H' h) hq)
  | ok fl =>
    cases fl with
    | ret u => exact I1.after hq
    | next => exact False.elim hq
    | brk => exact False.elim hq
    | cont => exact False.elim hq
/-- x(lambda: body) -/
theorem e_lam {T : List (Addr × Str)} {x a : Str} {st : Stmt} {c P : Addr} {Ng : List Str} {params : Arguments} {body : Expr} {scope : Scope} {p lpos pos : Pos} {Q : VK}
    (C : Cxt X (k + 2) W) (D : At X.K X.mg x st) (S : FnScope Ng [a] (defScope st)) (TB : TabB X.base X.mg c P) (hcode : X.env.code = .ref c) (hmT : (P, X.env.qual ++ "<lambda>") ∈ T) (hu : ∀ p ∈ T, p.1 = P → p.2 = X.env.qual ++ "<lambda>")
    (L : LamS X.env.scope scope) (hT : Tabs T H)
    (h : ∀ (g : Addr) (cdg : Value) (f c' : Addr) (s : Shared) (H1 : Hp), ExtN H H1 → Tabs T H1 → H1 c' = some (CodeO c' (X.env.qual ++ "<lambda>")) →
      Cxt (hX X Ng x st g cdg s H1 (fun cls d H' => W cls d σ H')) (k + 1) (fun cls d _ H' => W cls d σ H') → (Gd X → Gd (hX X Ng x st g cdg s H1 (fun cls d H' => W cls d σ H'))) →
      (∀ (W' : WX) (pn : List (Addr × Obj)) (xe : Value → Shared → Prop) (E : XK) (σZ : L2.St) (HZ : Hp) (Q' : VK) (p1 p2 : Pos), Takes ((hX X Ng x st g cdg s H1 (fun cls d H' => W cls d σ H')).tr pn xe) W' → (∀ cls d H', E cls d H' → W' cls d σZ H') →
        σZ[0]? = some (some (.ref f)) → HZ c' = some (CodeO c' (X.env.qual ++ "<lambda>")) →
        (∀ (A : Around) (outer : List Env) (s' : Shared) (H' : Hp), Cxt (lamCx X A outer s' H' E scope f c') k (fun cls d _ H => E cls d H) → (Gd X → Gd (lamCx X A outer s' H' E scope f c')) → wE (lamCx X A outer s' H' E scope f c') body σ HZ Q') →
        wE ((hX X Ng x st g cdg s H1 (fun cls d H' => W cls d σ H')).tr pn xe) (.Call (.Name a p1) [] [] p2) σZ HZ Q') →
      wB (hX X Ng x st g cdg s H1 (fun cls d H' => W cls d σ H')) (defBody st) { nx := fun _ H' => Q .non H', rt := Q } (start Ng [.ref f]) H1)
    (hN : Ng[0]? = some a := by rfl) (hv : Vis (defScope st) a := by first | exact Or.inl rfl | exact Or.inr (Or.inl rfl) | exact Or.inr (Or.inr rfl)) (hg : Gl X x := by rfl) (hdef : defaultsOf params X.env = ([], []) := by rfl)
    (hbl : ∀ (q : Str) (cl : List (Str × Addr)) (pm cv ctv : Value), bindArgs (PySem.W.kla_fn "<lambda>" q params body scope cl pm cv ctv) ⟨[], []⟩ = pure [] := by intros; rfl)
    (hbind : ∀ (kV doc pm : Value) (an : Option Addr) (cdv ct : Value) (us : List Value), us.length = ([a] : List Str).length → bindArgs (PySem.W.fnOf x x (defArgs st) (defBody st) (defScope st) .none kV doc pm an cdv ct) ⟨us, []⟩ = pure (([a] : List Str).zip us) := by exact fun _ _ _ _ _ _ us hl => match us, hl with | [_], _ => rfl)
    (hdb : (x == ("__debug__" : Str)) = false := by decide) (hd : (a == ("__debug__" : Str)) = false := by decide) (hcd : (a == ("__classdict__" : Str)) = false := by decide) :
    wE X (.Call (.Name x p) [.Lambda params body scope lpos] [] pos) σ H Q := by
  refine ⟨fun pins s I => ?_⟩
  obtain ⟨g, fd, hm, F⟩ := D.ex
  obtain ⟨oc, od, kV, doc, pm, an, cdg, ct, osl, rfl, lk, hcd2⟩ := F.ex
  refine wpAny_Call_Name_kw (ld_glob I hg hm ?_ hdb)
  refine PySem.W.callWith_K (h₀ := X.base) I.ok.mod.kin F.kp ?_ (by rfl) (by rfl)
  show wpAny _ _ (spliced ((false, eval (.Lambda params body scope lpos) X.env) :: backTo pos (starEach [] X.env))) _ _ s
  refine Calls.spliced_cons (lam_make2 I TB hcode hmT hu hT hdef (L.has I.ok) fun f c' pm' ctv H1 s' I1 eN T1 hf hfn hfr hco => ?_)
  refine Calls.spliced_nil ⟨I1.kIn, ?_⟩
  have rc : codeAny (model X.prog X.w) X.A (.call (.ref g) ⟨[.ref f], []⟩) (CR (L2.CX X.prog X.w) X.stack X.prog X.w H1 s' Q (fun cls d H' => W cls d σ H')) s' := by
    refine run_ofS (N := Ng) (ps := [a]) (us := [.ref f]) (vs := [.ref f]) lk hcd2 S (C.room.mono (show k + 1 + 1 ≤ k + 2 from Nat.le_refl _)) I1.env0 (.of_eq (hbind kV doc pm an cdg ct [.ref f] rfl)) (.cons rfl .nil) rfl fun hr' => ?_
    have CZ : Cxt (hX X Ng x st g cdg s' H1 (fun cls d H' => W cls d σ H')) (k + 1) (fun cls d _ H' => W cls d σ H') := ⟨hr', rfl, S.nd, C.blt, passes_of rfl, takes_of rfl rfl rfl rfl⟩
    refine ⟨wB _ (defBody st), pB, h g cdg f c' s' H1 eN T1 hco CZ (fun g => g) fun W' pn xe E σZ HZ Q' p1 p2 tk hW hs hc hh => ?_⟩
    exact e_act C I1 L hf hfn hfr (hbl _ _ _ _ _) tk hW hN hv hd hcd hs hc hh
  refine wpAny_call (codeAny_mono rc fun r s2 hq => ?_)
  cases r with
  | error e => exact C.tk e s2 (XE.of_call I1 (fun _ _ _ z => z) hq)
  | ok fl =>
    cases fl with
    | ret u => exact I1.after hq
    | next => exact False.elim hq
    | brk => exact False.elim hq
    | cont => exact False.elim hq
end
end Z

set_option Elab.async false
set_option linter.all false
set_option maxRecDepth 100000
set_option maxHeartbeats 4000000
/-! the law's own call, where the defs keep GFn; tables of code objects -/
namespace Z
open PySem PySem.Spec PyProof.Rows L2 LamX

/-- a def whose code object is known -/
structure AtC (K : PySem.W.Frag) (mg : Str → Option Value) (x : Str) (st : Stmt) (c : Addr) : Prop where
  ex : ∃ (f : Addr) (oc kV doc pm ct : Value) (od an : Option Addr) (osl : Array (Option Value)), mg x = some (.ref f) ∧ PySem.W.keepIn K (.ref f) = true ∧
    K.lookup f = some ⟨oc, od, .func (PySem.W.fnOf x x (defArgs st) (defBody st) (defScope st) .none kV doc pm an (.ref c) ct), osl⟩ ∧ PySem.W.codeIn K (.ref c) x = true
theorem defG_ofC {P : Program} {w : World} {K : PySem.W.Frag} {mg : Str → Option Value} {base : Heap} {k : Nat} {x : Str} {st : Stmt} {c : Addr} {N ps : List Str} {sp : Sp} (D : AtC K mg x st c) (B : Blt mg base) (S : FnScope N ps (defScope st)) (len : ∀ vs H Q E, sp vs H Q E → vs.length = ps.length)
    (body : ∀ (f : Addr) (A : Around) (outer : List Env) (s : Shared) (H : Hp) (vs : List V) (Q : VK) (E : XK), mg x = some (.ref f) → Cxt (bX P w K mg base N x st f (.ref c) A outer s H E) k (fun cls d _ H => E cls d H) → Gd (bX P w K mg base N x st f (.ref c) A outer s H E) → sp vs H Q E →
      wB (bX P w K mg base N x st f (.ref c) A outer s H E) (defBody st) { nx := fun _ H' => Q .non H', rt := Q } (start N vs) H) : DefG P w K mg base (k + 1) x st ps sp := by
  obtain ⟨f, oc, kV, doc, pm, ct, od, an, osl, hm, kp, lk, hcd⟩ := D.ex
  exact ⟨f, kV, doc, pm, an, .ref c, ct, hm, kp, gfn_body B lk hcd S len fun A outer s H vs Q E C g h => body f A outer s H vs Q E hm C g h⟩

/-- the data at sysModules is a dict -/
def SysAt (base : Heap) : Prop := ∃ o es ep, base.get? sysModules = some o ∧ o.data = .dict es ep
theorem law_callG {P : Program} {w : World} {K : PySem.W.Frag} {mg mb : Str → Option Value} {k : Nat} {fa a : Addr} {cs : List (Addr × Addr)} {x : Str} {sp : Sp} {s₁ : Shared} {vs : List Value} {ns : List Int}
    (KX : K.In s₁.heap) (hns : s₁.heap.Ns mainGlobals mg) (hb : s₁.heap.Ns builtinsNs mb) (hbb : ∀ x : Str, x ≠ "__name__" → mb x = bootBuiltins x) (hlim : s₁.heap.NoLimit) (hsy : ∃ mm, s₁.heap.Ns sysModules mm) (hg : s₁.gens = #[])
    (hT : ∀ p ∈ cs, s₁.heap.get? p.2 = some { cls := .none, data := .fields #[] }) (nT : ∀ p ∈ cs, K.lookup p.2 = none) (C : ∀ p ∈ cs, PySem.W.CodeHd s₁.heap p.1 p.2)
    (hbm : ∃ (bm : Addr) (ob : Obj), mg "__builtins__" = some (.ref bm) ∧ bm ≠ builtinsNs ∧ s₁.heap.get? bm = some ob ∧ ob.cls = .type "module" ∧ ob.dict = some builtinsNs ∧ ob.data = .plain)
    (ha : s₁.heap.get? a = some { cls := .type "list", data := .seq vs.toArray }) (hi : IntsAre vs ns) (hl : ns.length ≤ sizeLine) (hr : Room k callerA)
    (F : ∀ base : Heap, K.In base → base.Ns mainGlobals mg → SysAt base → (∀ p ∈ cs, TabB base mg p.1 p.2) → ∃ fd, (∀ (s : Shared) (u : Value), BindsTo s fd ⟨[u], []⟩ [(x, u)]) ∧ GFn P w K mg base k fa fd [x] sp)
    (hsp : ∀ H : Hp, (∀ p ∈ cs, H p.2 = some (.tbl #[])) → SqL K H a (ns.map V.int) → sp [.ref a] H (fun v _ => v = .bl true) fun _ _ _ => False) :
    codeAny (model P w) callerA (.call (.ref fa) ⟨[.ref a], []⟩) (fun r s' => r = .ok (.ret (.bool true)) ∧ OldK s₁.heap s'.heap ∧ s'.os = s₁.os ∧ AllBare s'.gens) s₁ := by
  have rv := vals_ints hi
  have lenV := hi.length
  have isT : ∀ b : Addr, b ∈ cs.map (·.2) → s₁.heap.get? b = some { cls := .none, data := .fields #[] } := fun b hb => by
    obtain ⟨p, hp, e⟩ := List.mem_map.mp hb
    rw [← e]
    exact hT p hp
  have aT : a ∉ cs.map (·.2) := fun z => by
    have q := isT a z
    rw [ha] at q
    have z' : Data.seq vs.toArray _ = Data.fields #[] := congrArg Obj.data (Option.some.inj q)
    cases z'
  have memT : ∀ p ∈ cs, p.2 ∈ cs.map (·.2) := fun p hp => List.mem_map.mpr ⟨p, hp, rfl⟩
  -- what is tracked at the start: the tables, and the script where the text does not hold it
  let H : Hp := fun b => if b ∈ cs.map (·.2) then some (.tbl #[]) else if b = a ∧ K.lookup a = none then some (.frz { cls := .type "list", data := .seq vs.toArray } (.lst (ns.map V.int))) else none
  have HT : ∀ b, b ∈ cs.map (·.2) → H b = some (.tbl #[]) := fun b hb => if_pos hb
  have HA : K.lookup a = none → H a = some (.frz { cls := .type "list", data := .seq vs.toArray } (.lst (ns.map V.int))) := fun e => (if_neg aT).trans (if_pos ⟨rfl, e⟩)
  have Hcase : ∀ b u, H b = some u → (b ∈ cs.map (·.2) ∧ u = .tbl #[]) ∨ (b = a ∧ K.lookup a = none ∧ u = .frz { cls := .type "list", data := .seq vs.toArray } (.lst (ns.map V.int))) := fun b u e => by
    by_cases h1 : b ∈ cs.map (·.2)
    · rw [HT b h1] at e
      cases e
      exact .inl ⟨h1, rfl⟩
    · have e1 : H b = _ := if_neg h1
      rw [e1] at e
      by_cases h2 : b = a ∧ K.lookup a = none
      · rw [if_pos h2] at e
        cases e
        exact .inr ⟨h2.1, h2.2, rfl⟩
      · rw [if_neg h2] at e
        cases e
  have hok : HOk P w H s₁.heap := fun b u e => by
    rcases Hcase b u e with ⟨h1, rfl⟩ | ⟨rfl, h2, rfl⟩
    · exact isT b h1
    · exact ⟨ha, by rw [List.length_map]; exact hl, vs, _, rv, ha⟩
  have hS : SqL K H a (ns.map V.int) := by
    cases hk : K.lookup a with
    | none => exact .inl (.inr ⟨_, HA hk⟩)
    | some o =>
      have e := KX a o hk
      rw [ha] at e
      cases e
      exact .inr ⟨_, vs.toArray, _, hk, rfl, rfl, rfl, by rw [List.size_toArray, lenV]; exact hl, by simpa using rv⟩
  have base_of : ∀ {b : Addr} {o : Obj}, s₁.heap.get? b = some o → H b = none → (hidT s₁.heap H).get? b = some o := fun e n => hidT_get e n
  have noD : ∀ {b : Addr} {o : Obj}, s₁.heap.get? b = some o → (∀ vs n, o.data ≠ .seq vs n) → o.data ≠ .fields #[] → H b = none := fun {b o} e h1 h2 => by
    cases q : H b with
    | none => rfl
    | some u =>
      rcases Hcase b u q with ⟨e', _⟩ | ⟨e', _⟩
      · rw [isT b e'] at e
        cases e
        exact (h2 rfl).elim
      · rw [e', ha] at e
        cases e
        exact (h1 _ _ rfl).elim
  have noA : ∀ {b : Addr} {o : Obj} {es : Array DictEntry} {ep : Nat}, s₁.heap.get? b = some o → o.data = .dict es ep → H b = none := fun {b o es ep} e d => by
    refine noD e (fun vs n z => ?_) fun z => ?_
    · rw [d] at z
      cases z
    · rw [d] at z
      cases z
  have nsK : ∀ {b : Addr} {m : Str → Option Value}, s₁.heap.Ns b m → (hidT s₁.heap H).Ns b m := fun {b m} ⟨o, es, ep, e, d, r⟩ => ⟨o, es, ep, base_of e (noA e d), d, r⟩
  have hKb : K.In (hidT s₁.heap H) := fun b o e => base_of (KX b o e) (by
    cases q : H b with
    | none => rfl
    | some u =>
      rcases Hcase b u q with ⟨e', _⟩ | ⟨e', hk, _⟩
      · obtain ⟨p, hp, ep⟩ := List.mem_map.mp e'
        rw [← ep, nT p hp] at e
        cases e
      · rw [e', hk] at e
        cases e)
  have hM : L2.Mod K mg (hidT s₁.heap H) := ⟨hKb, nsK hns, ⟨mb, nsK hb, hbb⟩, let ⟨mc, h1, h2⟩ := hlim; ⟨mc, nsK h1, h2⟩⟩
  have hSys : SysAt (hidT s₁.heap H) := by
    obtain ⟨mm, hm⟩ := hsy
    obtain ⟨o, es, ep, e, d, _⟩ := nsK hm
    exact ⟨o, es, ep, e, d⟩
  have TB : ∀ p ∈ cs, TabB (hidT s₁.heap H) mg p.1 p.2 := fun p hp => by
    have hTp := hT p hp
    refine ⟨?_, ?_, fun z => ?_⟩
    · obtain ⟨o, us, file, tf, flags, tg, inF, text, tt, e1, r1, r2, r3, r4, r5, r6, r7, r8, hne⟩ := C p hp
      refine ⟨o, us, file, tf, flags, tg, inF, text, tt, base_of e1 (noD e1 (fun vs n z => ?_) fun z => ?_), r1, r2, r3, r4, r5, r6, r7, r8, hne⟩
      · rw [r2] at z
        cases z
      · rw [r2] at z
        cases z
        simp at r3
    · obtain ⟨bm, ob, b1, b2, b3, b4, b5, b6⟩ := hbm
      have nG : bm ≠ mainGlobals := fun q => by
        obtain ⟨o, es, ep, e, hd, _⟩ := hns
        rw [q, e] at b3
        cases b3
        rw [hd] at b6
        cases b6
      have nP : bm ≠ p.2 := fun q => by
        rw [q, hTp] at b3
        cases b3
        cases b6
      refine ⟨bm, ob, b1, b2, nG, nP, base_of b3 (noD b3 (fun vs n z => ?_) fun z => ?_), b4, b5, b6⟩
      · rw [b6] at z
        cases z
      · rw [b6] at z
        cases z
    · obtain ⟨o, es, ep, e, hd, _⟩ := hns
      rw [z, hTp] at e
      cases e
      cases hd
  have e0 : Env0 P w K mg (hidT s₁.heap H) callerA [] s₁ H := ⟨rfl, hM, fun b o e => of_hidT e, Nat.le_of_eq (hidT_size _ _), trivial, fun b hb => absurd (show b ∈ ([] : List Addr) from hb) (by simp), hok, .of_eq hg⟩
  obtain ⟨fd, hbind, hF⟩ := F _ hKb (nsK hns) hSys TB
  refine codeAny_mono (hF.run callerA [] s₁ H ⟨[.ref a], []⟩ [.ref a] [.ref a] _ _ hr rfl e0 (hbind s₁ (.ref a)) (.cons rfl .nil) (hsp H (fun p hp => HT _ (memT p hp)) hS)) fun r s' h => ?_
  cases r with
  | error e =>
    obtain ⟨_, _, _, _, _, _, _, _, _, _, _, _, z⟩ := h
    exact z.elim
  | ok fl =>
    cases fl with
    | next => exact False.elim h
    | brk => exact False.elim h
    | cont => exact False.elim h
    | ret u =>
      obtain ⟨v, H', os, bare, un, hok', r', q⟩ := h
      have q' : v = .bl true := q
      subst q'
      obtain rfl : u = Value.bool true := r'
      have key : ∀ b o, b ∉ cs.map (·.2) → s₁.heap.get? b = some o → s'.heap.get? b = some o := fun b o nb e => by
        cases q : H b with
        | none => exact un.keep b o e q (by intro z; exact absurd (show b ∈ ([] : List Addr) from z) (by simp)) (by simp)
        | some u =>
          rcases Hcase b u q with ⟨z, _⟩ | ⟨_, _, z⟩
          · exact absurd z nb
          · rw [z] at q
            have z2 := un.frzs b _ _ q
            obtain ⟨e1, _⟩ := hok b _ q
            obtain ⟨e2, _⟩ := hok' b _ z2
            rw [e] at e1; cases e1
            exact e2
      have grown : ∀ p ∈ cs, ∃ more : Array Value, s'.heap.get? p.2 = some { cls := .none, data := .fields more } := fun p hp => by
        obtain ⟨more, z⟩ := un.tbls p.2 #[] (HT _ (memT p hp))
        exact ⟨_, hok' p.2 _ z⟩
      refine ⟨rfl, ⟨fun b o e => ?_, fun b o e => ?_⟩, os, bare⟩
      · by_cases hb : b ∈ cs.map (·.2)
        · obtain ⟨p, hp, ep⟩ := List.mem_map.mp hb
          obtain ⟨more, hm⟩ := grown p hp
          rw [← ep] at e ⊢
          rw [hT p hp] at e
          cases e
          exact .inr (.inl ⟨((C p hp).tab (hT p hp)).isCodeTable, rfl, #[], more, rfl, by rw [Array.empty_append]; exact hm⟩)
        · exact .inl (key b o hb e)
      · by_cases hb : b ∈ cs.map (·.2)
        · obtain ⟨p, hp, ep⟩ := List.mem_map.mp hb
          obtain ⟨more, hm⟩ := grown p hp
          rw [← ep]
          exact ⟨_, hm⟩
        · exact ⟨o, key b o hb e⟩
/-- what is known of the law's promise at the head's heap h -/
def LawG (l : PySem.W.OpenLaw) (w : World) (K : PySem.W.Frag) (k n : Nat) (x : Str) (mg : Str → Option Value) (fa : Addr) (h : Heap) : Prop :=
  ∃ (cs : List (Addr × Addr)) (sp : Sp), (∀ p ∈ cs, h.get? p.2 = some { cls := .none, data := .fields #[] }) ∧ (∀ p ∈ cs, K.lookup p.2 = none) ∧ (∀ p ∈ cs, PySem.W.CodeHd h p.1 p.2) ∧
    (∀ (H : Hp) (a : Addr) (ns : List Int), ns.length ≤ n → (∀ z ∈ ns, Builtin.Int.intBits z ≤ 1048576) → (∀ p ∈ cs, H p.2 = some (.tbl #[])) → SqL K H a (ns.map V.int) → sp [.ref a] H (fun v _ => v = .bl true) fun _ _ _ => False) ∧
    ∀ base : Heap, K.In base → base.Ns mainGlobals mg → SysAt base → (∀ p ∈ cs, TabB base mg p.1 p.2) → ∃ fd, (∀ (s : Shared) (u : Value), BindsTo s fd ⟨[u], []⟩ [(x, u)]) ∧ GFn l.prog w K mg base k fa fd [x] sp
theorem walk_G {l : PySem.W.OpenLaw} {n k : Nat} {q : Program} {loose : List Str} {XP : (Str → Option Value) → Heap → Prop} {YP : World → Heap → Prop} {d : DefRec} {K : Params → PySem.W.Frag} {x : Str}
    (hn : l.most = some n) (hn2 : n ≤ sizeLine) (hdf : d.params.defaults = []) (hr : Room k callerA) (hY : ∀ (w : World) (h : Heap), YP w h → (K w.params).In h) (hq : importsNone q = true)
    (F : ∀ (w : World) (mg : Str → Option Value) (fa : Addr) (h : Heap), YP w h → (K w.params).In h → h.Ns mainGlobals mg → mg d.name = some (.ref fa) → LawG l w (K w.params) k n x mg fa h) :
    PySem.W.WalkO q loose XP YP l.row.toRowW d [] (fun f vs => PySem.call f vs) := by
  refine Att.attach_callB hn hdf fun w s₀ s₁ mg mb fa o pm cd doc a vs ns G Y ho hd hcd hmg hobj hints hlen hbits hg => ?_
  have KX := hY w _ Y
  obtain ⟨cs, sp, hT, nT, C, hsp, hF⟩ := F w mg fa _ Y KX G.T.g hmg
  obtain ⟨mm, hmm, _⟩ := (G.T.seer hq).mods
  exact law_callG KX G.T.g G.T.b G.T.builtins G.T.nolimit ⟨mm, hmm⟩ hg hT nT C G.T.bmain hobj hints (Nat.le_trans hlen hn2) hr hF fun H hH hS => hsp H a ns hlen hbits hH hS
end Z

set_option Elab.async false
set_option linter.all false
set_option maxRecDepth 100000
set_option maxHeartbeats 4000000
/-! zip of two texts of ASCII signs -/
namespace Z
open PySem PySem.Spec PyProof.Rows L2
section
variable {prog : Program} {w : World} {A : Around} {E : Value → Shared → Prop} {s : Shared}
abbrev At8 (h : Heap) (a : Addr) (x : Str) (t : Tok) (i : Nat) : Prop := h.IsStrIter a "str_ascii_iterator" x t i
theorem at8_at {h h' : Heap} {a : Addr} {x : Str} {t : Tok} {i : Nat} (y : At8 h a x t i) (k : ∀ o, h.get? a = some o → h'.get? a = some o) : At8 h' a x t i := let ⟨o, e, r⟩ := y; ⟨o, k o e, r⟩
theorem zipS_next_item {z TI TO i1 i2 l1 l2 : Addr} {k1 k2 c d : Nat} {xs ys : Str} {t1 t2 : Tok} {a b : Value} {Q : Value → Shared → Prop} (D : ZipApart z TI TO i1 i2 l1 l2)
    (hz : IsZip s.heap z TI TO .none) (hTI : IsPair s.heap TI (.ref i1) (.ref i2)) (hTO : IsPair s.heap TO a b)
    (h1 : At8 s.heap i1 xs t1 k1) (h2 : At8 s.heap i2 ys t2 k2) (hx : xs.cps[k1]? = some c) (hy : ys.cps[k2]? = some d)
    (hQ : ∀ h' u v, IsZip h' z TI TO (rawInt s.heap.objs.size) → IsPair h' TO (.str ⟨#[c]⟩ u) (.str ⟨#[d]⟩ v) → At8 h' i1 xs t1 (k1 + 1) → At8 h' i2 ys t2 (k2 + 1) → IsPair h' s.heap.objs.size (.str ⟨#[c]⟩ u) (.str ⟨#[d]⟩ v) → h'.objs.size = s.heap.objs.size + 1 →
      (∀ c o, c ≠ z → c ≠ TO → c ≠ i1 → c ≠ i2 → s.heap.get? c = some o → h'.get? c = some o) → Q (.ref s.heap.objs.size) { s with heap := h', toks := s.toks + 2 }) :
    wpAny (model prog w) A (Builtin.«zip.__next__» ⟨[.ref z], []⟩) (fun fin s' => ∃ v, fin = .done (.ret v) ∧ Q v s') E s := by
  obtain ⟨hp, g, dr, tk, os⟩ := s
  show wpAny _ _ (field (.ref z) 2 >>= _) _ _ _
  refine wpAny_bind (wpAny_field hz rfl (x := .bool false) rfl ?_)
  show wpAny _ _ (field (.ref z) 3 >>= _) _ _ _
  refine wpAny_bind (wpAny_field hz rfl (x := .ref TI) rfl ?_)
  refine wpAny_bind (wpAny_seqItems hTI rfl ?_)
  show wpAny _ _ (Builtin.SmallTypes.ownedTupleIsFree (.ref z) >>= _) _ _ _
  refine wpAny_bind ?_
  unfold Builtin.SmallTypes.ownedTupleIsFree
  refine wpAny_bind (wpAny_field hz rfl (x := .none) rfl (wpAny_pure ?_))
  simp only [if_true]
  refine wpAny_bind (wpAny_rule ?_)
  refine wpAny_bind (wpAny_field hz rfl (x := .ref TO) rfl ?_)
  refine wpAny_bind (wpAny_setField_rec hz (by simp) fun h₁ hz₁ hs₁ => ?_)
  replace hz₁ : IsZip h₁ z TI TO .ellipsis := hz₁
  refine wpAny_bind ?_
  simp only [List.zipIdx_cons, List.zipIdx_nil, List.forIn_cons, List.forIn_nil]
  refine wpAny_bind (wpAny_bind (wpAny_onRaise ?_))
  show wpAny _ _ (Builtin.SmallTypes.nextOf (.ref i1) >>= _) _ _ _
  refine wpAny_bind (wpAny_nextOf_ascii_item (Heap.IsStrIter.extBut h1 hs₁.extBut D.i1z) hx fun h₂ h1₂ hs₂ => wpAny_pure ?_)
  have hTO₂ : IsPair h₂ TO a b := hs₂.extBut _ _ D.TOi1 (hs₁.extBut _ _ D.TOz hTO)
  refine wpAny_bind (wpAny_seqItems hTO₂ rfl ?_)
  refine wpAny_bind (wpAny_updateSeq_pair hTO₂ fun h₃ hTO₃ hs₃ => ?_)
  replace hTO₃ : IsPair h₃ TO (.str ⟨#[c]⟩ tk) b := hTO₃
  refine wpAny_bind (wpAny_letGo (wpAny_pure ?_))
  refine wpAny_bind (wpAny_bind (wpAny_onRaise ?_))
  show wpAny _ _ (Builtin.SmallTypes.nextOf (.ref i2) >>= _) _ _ _
  refine wpAny_bind (wpAny_nextOf_ascii_item (((Heap.IsStrIter.extBut h2 hs₁.extBut D.i2z).extBut hs₂.extBut D.i12.symm).extBut hs₃.extBut D.TOi2.symm) hy fun h₄ h2₄ hs₄ => wpAny_pure ?_)
  have hTO₄ : IsPair h₄ TO (.str ⟨#[c]⟩ tk) b := hs₄.extBut _ _ D.TOi2 hTO₃
  refine wpAny_bind (wpAny_seqItems hTO₄ rfl ?_)
  refine wpAny_bind (wpAny_updateSeq_pair hTO₄ fun h₅ hTO₅ hs₅ => ?_)
  replace hTO₅ : IsPair h₅ TO (.str ⟨#[c]⟩ tk) (.str ⟨#[d]⟩ (tk + 1)) := hTO₅
  refine wpAny_bind (wpAny_letGo (wpAny_pure (wpAny_pure ?_)))
  refine wpAny_bind (wpAny_seqItems hTO₅ rfl ?_)
  refine wpAny_bind (wpAny_newTuple ?_)
  have hsz : h₅.objs.size = hp.objs.size := by rw [hs₅.1, hs₄.1, hs₃.1, hs₂.1, hs₁.1]
  have hz₅ : IsZip h₅ z TI TO .ellipsis := hs₅.extBut _ _ D.TOz.symm (hs₄.extBut _ _ D.i2z.symm (hs₃.extBut _ _ D.TOz.symm (hs₂.extBut _ _ D.i1z.symm hz₁)))
  have hk₅ : ∀ c o, c ≠ z → c ≠ TO → c ≠ i1 → c ≠ i2 → hp.get? c = some o → h₅.get? c = some o := fun c o c1 c2 c3 c4 e =>
    hs₅.extBut _ _ c2 (hs₄.extBut _ _ c4 (hs₃.extBut _ _ c2 (hs₂.extBut _ _ c3 (hs₁.extBut _ _ c1 e))))
  have h1₅ : At8 h₅ i1 xs t1 (k1 + 1) := ((Heap.IsStrIter.extBut h1₂ hs₃.extBut D.TOi1.symm).extBut hs₄.extBut D.i12).extBut hs₅.extBut D.TOi1.symm
  have h2₅ : At8 h₅ i2 ys t2 (k2 + 1) := Heap.IsStrIter.extBut h2₄ hs₅.extBut D.TOi2.symm
  have hzlt : z < h₅.objs.size := Heap.lt_size hz₅
  have hTOlt : TO < h₅.objs.size := Heap.lt_size hTO₅
  show wpAny _ _ (Builtin.SmallTypes.ownedTupleHandOut (.ref z) (.ref h₅.objs.size) >>= _) _ _ _
  refine wpAny_bind ?_
  unfold Builtin.SmallTypes.ownedTupleHandOut
  have hz₆ : IsZip (h₅.push { cls := .type "tuple", data := .seq #[.str ⟨#[c]⟩ tk, .str ⟨#[d]⟩ (tk + 1)] }) z TI TO .ellipsis := Heap.get?_push_of_some _ hz₅
  refine wpAny_bind (wpAny_setField_rec hz₆ (by simp) fun h₇ hz₇ hs₇ => ?_)
  replace hz₇ : IsZip h₇ z TI TO (rawInt h₅.objs.size) := hz₇
  refine wpAny_setField_rec hz₇ (by simp) fun h₈ hz₈ hs₈ => ?_
  replace hz₈ : IsZip h₈ z TI TO (rawInt h₅.objs.size) := hz₈
  have up : ∀ c o, c ≠ z → h₅.get? c = some o → h₈.get? c = some o := fun c o c1 e => hs₈.extBut _ _ c1 (hs₇.extBut _ _ c1 (Heap.get?_push_of_some _ e))
  have hT₈ : IsPair h₈ h₅.objs.size (.str ⟨#[c]⟩ tk) (.str ⟨#[d]⟩ (tk + 1)) := hs₈.extBut _ _ (Nat.ne_of_gt hzlt) (hs₇.extBut _ _ (Nat.ne_of_gt hzlt) (Heap.get?_push_size _ rfl))
  have hz8 : h₈.objs.size = h₅.objs.size + 1 := by rw [hs₈.1, hs₇.1, Heap.size_push]
  rw [hsz] at hz₈ hT₈ hz8
  refine wpAny_pure ⟨_, rfl, ?_⟩
  show Q (.ref h₅.objs.size) _
  rw [hsz]
  exact hQ h₈ _ _ hz₈ (up _ _ D.TOz hTO₅) (at8_at h1₅ fun o e => up _ o D.i1z e) (at8_at h2₅ fun o e => up _ o D.i2z e) hT₈ hz8 fun c o c1 c2 c3 c4 e => up c o c1 (hk₅ c o c1 c2 c3 c4 e)
theorem zipS_next_end {z TI TO i1 i2 l1 l2 : Addr} {k1 k2 : Nat} {xs ys : Str} {t1 t2 : Tok} {a b : Value} {Q : Fin → Shared → Prop} (hh : A.handled = none) (D : ZipApart z TI TO i1 i2 l1 l2)
    (hz : IsZip s.heap z TI TO .none) (hTI : IsPair s.heap TI (.ref i1) (.ref i2)) (hTO : IsPair s.heap TO a b)
    (h1 : At8 s.heap i1 xs t1 k1) (h2 : At8 s.heap i2 ys t2 k2) (hend : xs.cps[k1]? = none ∨ ys.cps[k2]? = none)
    (hE : ∀ h' tk' e, (∀ c o, c ≠ z → c ≠ TO → c ≠ i1 → c ≠ i2 → s.heap.get? c = some o → h'.get? c = some o) → (∃ o, h'.get? e = some o ∧ o.cls = .type "StopIteration") → E (.ref e) { s with heap := h', toks := tk' }) :
    wpAny (model prog w) A (Builtin.«zip.__next__» ⟨[.ref z], []⟩) Q E s := by
  obtain ⟨hp, g, dr, tk, os⟩ := s
  show wpAny _ _ (field (.ref z) 2 >>= _) _ _ _
  refine wpAny_bind (wpAny_field hz rfl (x := .bool false) rfl ?_)
  show wpAny _ _ (field (.ref z) 3 >>= _) _ _ _
  refine wpAny_bind (wpAny_field hz rfl (x := .ref TI) rfl ?_)
  refine wpAny_bind (wpAny_seqItems hTI rfl ?_)
  show wpAny _ _ (Builtin.SmallTypes.ownedTupleIsFree (.ref z) >>= _) _ _ _
  refine wpAny_bind ?_
  unfold Builtin.SmallTypes.ownedTupleIsFree
  refine wpAny_bind (wpAny_field hz rfl (x := .none) rfl (wpAny_pure ?_))
  simp only [if_true]
  refine wpAny_bind (wpAny_rule ?_)
  refine wpAny_bind (wpAny_field hz rfl (x := .ref TO) rfl ?_)
  refine wpAny_bind (wpAny_setField_rec hz (by simp) fun h₁ hz₁ hs₁ => ?_)
  replace hz₁ : IsZip h₁ z TI TO .ellipsis := hz₁
  refine wpAny_bind ?_
  simp only [List.zipIdx_cons, List.zipIdx_nil, List.forIn_cons, List.forIn_nil]
  refine wpAny_bind (wpAny_bind (wpAny_onRaise ?_))
  show wpAny _ _ (Builtin.SmallTypes.nextOf (.ref i1) >>= _) _ _ _
  cases hx : xs.cps[k1]? with
  | none =>
    refine wpAny_bind (wpAny_nextOf_ascii_end hh (Heap.IsStrIter.extBut h1 hs₁.extBut D.i1z) hx fun h₂ e hs₂ he => ?_)
    obtain ⟨oe, hoe, hce⟩ := he
    have hz₂ : IsZip h₂ z TI TO .ellipsis := hs₂ _ _ D.i1z.symm hz₁
    have hez : e ≠ z := fun x => by subst x; rw [hz₂] at hoe; cases hoe; simp at hce
    refine wpAny_setField_rec hz₂ (by simp) fun h₃ _ hs₃ => hE h₃ _ e (fun c o c1 _ c3 _ x => hs₃.extBut _ _ c1 (hs₂ _ _ c3 (hs₁.extBut _ _ c1 x))) ⟨oe, hs₃.extBut _ _ hez hoe, hce⟩
  | some x =>
    have hy : ys.cps[k2]? = none := by rcases hend with h | h; rw [hx] at h; cases h; exact h
    refine wpAny_bind (wpAny_nextOf_ascii_item (Heap.IsStrIter.extBut h1 hs₁.extBut D.i1z) hx fun h₂ h1₂ hs₂ => wpAny_pure ?_)
    have hTO₂ : IsPair h₂ TO a b := hs₂.extBut _ _ D.TOi1 (hs₁.extBut _ _ D.TOz hTO)
    refine wpAny_bind (wpAny_seqItems hTO₂ rfl ?_)
    refine wpAny_bind (wpAny_updateSeq_pair hTO₂ fun h₃ hTO₃ hs₃ => ?_)
    refine wpAny_bind (wpAny_letGo (wpAny_pure ?_))
    refine wpAny_bind (wpAny_bind (wpAny_onRaise ?_))
    show wpAny _ _ (Builtin.SmallTypes.nextOf (.ref i2) >>= _) _ _ _
    refine wpAny_bind (wpAny_nextOf_ascii_end hh (((Heap.IsStrIter.extBut h2 hs₁.extBut D.i2z).extBut hs₂.extBut D.i12.symm).extBut hs₃.extBut D.TOi2.symm) hy fun h₄ e hs₄ he => ?_)
    obtain ⟨oe, hoe, hce⟩ := he
    have hz₄ : IsZip h₄ z TI TO .ellipsis := hs₄ _ _ D.i2z.symm (hs₃.extBut _ _ D.TOz.symm (hs₂.extBut _ _ D.i1z.symm hz₁))
    have hez : e ≠ z := fun x => by subst x; rw [hz₄] at hoe; cases hoe; simp at hce
    refine wpAny_setField_rec hz₄ (by simp) fun h₅ _ hs₅ => hE h₅ _ e (fun c o c1 c2 c3 c4 x => hs₅.extBut _ _ c1 (hs₄ _ _ c4 (hs₃.extBut _ _ c2 (hs₂.extBut _ _ c3 (hs₁.extBut _ _ c1 x))))) ⟨oe, hs₅.extBut _ _ hez hoe, hce⟩
theorem pyNext_zipS_item {z TI TO i1 i2 l1 l2 : Addr} {k1 k2 c d : Nat} {xs ys : Str} {t1 t2 : Tok} {a b : Value} {Q : Option Value → Shared → Prop} (D : ZipApart z TI TO i1 i2 l1 l2)
    (hz : IsZip s.heap z TI TO .none) (hTI : IsPair s.heap TI (.ref i1) (.ref i2)) (hTO : IsPair s.heap TO a b)
    (h1 : At8 s.heap i1 xs t1 k1) (h2 : At8 s.heap i2 ys t2 k2) (hx : xs.cps[k1]? = some c) (hy : ys.cps[k2]? = some d)
    (hQ : ∀ h' u v, IsZip h' z TI TO (rawInt s.heap.objs.size) → IsPair h' TO (.str ⟨#[c]⟩ u) (.str ⟨#[d]⟩ v) → At8 h' i1 xs t1 (k1 + 1) → At8 h' i2 ys t2 (k2 + 1) → IsPair h' s.heap.objs.size (.str ⟨#[c]⟩ u) (.str ⟨#[d]⟩ v) → h'.objs.size = s.heap.objs.size + 1 →
      (∀ c o, c ≠ z → c ≠ TO → c ≠ i1 → c ≠ i2 → s.heap.get? c = some o → h'.get? c = some o) → Q (some (.ref s.heap.objs.size)) { s with heap := h', toks := s.toks + 2 }) :
    wpAny (model prog w) A (pyNext (.ref z)) Q E s := by
  have hT : s.TypeIs (.ref z) "zip" := ⟨_, hz, rfl⟩
  unfold pyNext
  exact wpAny_bind (wpAny_attempt (wpAny_callSpecial?_slot (name := Str.ofString "__next__") hT F.slot_zip_next
    (wpAny_call_entry F.slot_zip_next hT F.entry_zip_next
      (zipS_next_item D hz hTI hTO h1 h2 hx hy fun h' u v a1 a2 a3 a4 a5 a6 a7 => wpAny_pure (hQ h' u v a1 a2 a3 a4 a5 a6 a7)) (F.args_zip_next_1 _))))
theorem pyNext_zipS_end {z TI TO i1 i2 l1 l2 : Addr} {k1 k2 : Nat} {xs ys : Str} {t1 t2 : Tok} {a b : Value} {Q : Option Value → Shared → Prop} (hh : A.handled = none) (D : ZipApart z TI TO i1 i2 l1 l2)
    (hz : IsZip s.heap z TI TO .none) (hTI : IsPair s.heap TI (.ref i1) (.ref i2)) (hTO : IsPair s.heap TO a b)
    (h1 : At8 s.heap i1 xs t1 k1) (h2 : At8 s.heap i2 ys t2 k2) (hend : xs.cps[k1]? = none ∨ ys.cps[k2]? = none)
    (hQ : ∀ h' tk', (∀ c o, c ≠ z → c ≠ TO → c ≠ i1 → c ≠ i2 → s.heap.get? c = some o → h'.get? c = some o) → Q none { s with heap := h', toks := tk' }) : wpAny (model prog w) A (pyNext (.ref z)) Q E s := by
  have hT : s.TypeIs (.ref z) "zip" := ⟨_, hz, rfl⟩
  unfold pyNext
  refine wpAny_bind (wpAny_attempt (wpAny_callSpecial?_slot (name := Str.ofString "__next__") hT F.slot_zip_next
    (wpAny_call_entry F.slot_zip_next hT F.entry_zip_next (zipS_next_end hh D hz hTI hTO h1 h2 hend fun h' tk' e hk he => ?_) (F.args_zip_next_1 _))))
  obtain ⟨o, ho, hc⟩ := he
  refine wpAny_bind (wpAny_isInstance (T := "StopIteration") (b := true) ⟨o, ho, hc⟩ isSubtype_stop ?_)
  exact wpAny_pure (hQ _ _ hk)
end
abbrev zipSH1 (h : Heap) (x : Str) (t : Tok) : Heap := h.push { cls := .type "str_ascii_iterator", data := .fields #[.str x t, .int 0 0] }
abbrev zipSH2 (h : Heap) (x y : Str) (t u : Tok) : Heap := (zipSH1 h x t).push { cls := .type "str_ascii_iterator", data := .fields #[.str y u, .int 0 0] }
abbrev zipSH3 (h : Heap) (x y : Str) (t u : Tok) : Heap := (zipSH2 h x y t u).push { cls := .type "tuple", data := .seq #[.ref h.objs.size, .ref (zipSH1 h x t).objs.size] }
abbrev zipSH4 (h : Heap) (x y : Str) (t u : Tok) : Heap := (zipSH3 h x y t u).push { cls := .type "tuple", data := .seq #[.none, .none] }
abbrev zipSH5 (h : Heap) (x y : Str) (t u : Tok) : Heap := (zipSH4 h x y t u).push { cls := .type "zip", data := .fields #[.none, .bool false, .bool false, .ref (zipSH2 h x y t u).objs.size, .ref (zipSH3 h x y t u).objs.size] }
theorem meets_zipS_new (x y : Str) (t u : Tok) (hx : x.cps.all (· < 128) = true) (hy : y.cps.all (· < 128) = true) :
    Meets (Builtin.«zip.__new__» ⟨[.type "zip", .str x t, .str y u], []⟩) (fun _ R s => R (.ok (.ret (.ref (zipSH4 s.heap x y t u).objs.size))) { s with heap := zipSH5 s.heap x y t u }) :=
  .of_wp fun prog w A R s h => by
    obtain ⟨hp, g, d, tk, os⟩ := s
    have hsub := sub_zip
    wp_walk using wpAny_pyIter_ascii hx, wpAny_pyIter_ascii hy
    exact ⟨_, rfl, h⟩
section
variable {prog : Program} {w : World} {A : Around} {E : Value → Shared → Prop} {s : Shared}
theorem call_zipS {x y : Str} {t u : Tok} {Q : Value → Shared → Prop} (hx : x.cps.all (· < 128) = true) (hy : y.cps.all (· < 128) = true)
    (h : ∀ h', IsZip h' (s.heap.objs.size + 4) (s.heap.objs.size + 2) (s.heap.objs.size + 3) .none → IsPair h' (s.heap.objs.size + 2) (.ref s.heap.objs.size) (.ref (s.heap.objs.size + 1)) →
      IsPair h' (s.heap.objs.size + 3) .none .none → At8 h' s.heap.objs.size x t 0 → At8 h' (s.heap.objs.size + 1) y u 0 → h'.objs.size = s.heap.objs.size + 5 →
      (∀ c o, s.heap.get? c = some o → h'.get? c = some o) → Q (.ref (s.heap.objs.size + 4)) { s with heap := h' }) :
    wpAny (model prog w) A (call (.type "zip") [.str x t, .str y u]) Q E s := by
  refine callType_new F.called_zip (by decide) (F.typeCall_zip_2 _ _) (F.newCall_zip_2 _ _) (fun obj => F.args_object_init_3 obj _ _) F.entry_zip_new
    (meets_zipS_new x y t u hx hy) ?_
  have z1 : (zipSH1 s.heap x t).objs.size = s.heap.objs.size + 1 := Heap.size_push ..
  have z2 : (zipSH2 s.heap x y t u).objs.size = s.heap.objs.size + 2 := by rw [Heap.size_push, z1]
  have z3 : (zipSH3 s.heap x y t u).objs.size = s.heap.objs.size + 3 := by rw [Heap.size_push, z2]
  have z4 : (zipSH4 s.heap x y t u).objs.size = s.heap.objs.size + 4 := by rw [Heap.size_push, z3]
  have z5 : (zipSH5 s.heap x y t u).objs.size = s.heap.objs.size + 5 := by rw [Heap.size_push, z4]
  have g5 : (zipSH5 s.heap x y t u).get? (zipSH4 s.heap x y t u).objs.size = some _ := Heap.get?_push_size _ rfl
  have g4 : (zipSH5 s.heap x y t u).get? (zipSH3 s.heap x y t u).objs.size = some _ := Heap.get?_push_of_some _ (Heap.get?_push_size _ rfl)
  have g3 : (zipSH5 s.heap x y t u).get? (zipSH2 s.heap x y t u).objs.size = some _ := Heap.get?_push_of_some _ (Heap.get?_push_of_some _ (Heap.get?_push_size _ rfl))
  have g2 : (zipSH5 s.heap x y t u).get? (zipSH1 s.heap x t).objs.size = some _ := Heap.get?_push_of_some _ (Heap.get?_push_of_some _ (Heap.get?_push_of_some _ (Heap.get?_push_size _ rfl)))
  have g1 : (zipSH5 s.heap x y t u).get? s.heap.objs.size = some _ := Heap.get?_push_of_some _ (Heap.get?_push_of_some _ (Heap.get?_push_of_some _ (Heap.get?_push_of_some _ (Heap.get?_push_size _ rfl))))
  show _ ∧ _
  rw [z2, z3, z4] at g5
  rw [z1, z2] at g3
  rw [z3] at g4
  rw [z1] at g2
  rw [z4]
  exact ⟨⟨_, g5, rfl⟩, h _ g5 g3 g4 ⟨_, g1, rfl, rfl⟩ ⟨_, g2, rfl, rfl⟩ z5 fun c o x =>
    Heap.get?_push_of_some _ (Heap.get?_push_of_some _ (Heap.get?_push_of_some _ (Heap.get?_push_of_some _ (Heap.get?_push_of_some _ x))))⟩
end
/-- the walk: pairs of signs, as long as both have some -/
def ItzS (x y : Str) : It :=
  ⟨fun i H => i < x.cps.size ∧ i < y.cps.size,
    fun i H v H' => ∃ T c d, v = .ref T ∧ H T = none ∧ H' = upd H T (.tup [.str ⟨#[c]⟩, .str ⟨#[d]⟩]) ∧ x.cps[i]? = some c ∧ y.cps[i]? = some d,
    fun i H => x.cps.size ≤ i ∨ y.cps.size ≤ i⟩
theorem turn_zipS {P : Program} {w : World} {K : PySem.W.Frag} {elts : List Expr} {kk : Nat} {tpos : Pos} {x y : Str} {t1 t2 : Tok} {l1 l2 z TI TO i1 i2 : Addr} (D : ZipApart z TI TO i1 i2 l1 l2) :
    Turn P w K (.Tuple elts kk tpos) (ItzS x y) [z, TI, TO, i1, i2] z (fun i h => IsZip h z TI TO .none ∧ IsPair h TI (.ref i1) (.ref i2) ∧ (∃ x y, IsPair h TO x y) ∧ At8 h i1 x t1 i ∧ At8 h i2 y t2 i) where
  mem := by simp
  obj := fun i h st c hc => by
    obtain ⟨hz, hTI, ⟨x, y, hTO⟩, ⟨o1, e1, _, d1⟩, ⟨o2, e2, _, d2⟩⟩ := st
    have e' : c = z ∨ c = TI ∨ c = TO ∨ c = i1 ∨ c = i2 := by simpa using hc
    rcases e' with q | q | q | q | q
    · rw [q]; exact ⟨_, hz, fun v q => nomatch q⟩
    · rw [q]; exact ⟨_, hTI, fun v q => nomatch q⟩
    · rw [q]; exact ⟨_, hTO, fun v q => nomatch q⟩
    · rw [q]; exact ⟨o1, e1, fun v q => by rw [d1] at q; cases q⟩
    · rw [q]; exact ⟨o2, e2, fun v q => by rw [d2] at q; cases q⟩
  keep := fun i h h' st k => by
    obtain ⟨hz, hTI, ⟨x, y, hTO⟩, h1, h2⟩ := st
    exact ⟨k z (by simp) _ hz, k TI (by simp) _ hTI, ⟨x, y, k TO (by simp) _ hTO⟩, at8_at h1 fun o q => k i1 (by simp) o q, at8_at h2 fun o q => k i2 (by simp) o q⟩
  item := by
    intro X hP hw hK hc i pins s σ H E I hf st hg
    subst hP hw hK
    obtain ⟨hz, hTI, ⟨x0, y0, hTO⟩, h1, h2⟩ := st
    obtain ⟨hx, hy⟩ := hg
    obtain ⟨c1, ex⟩ : ∃ c, x.cps[i]? = some c := ⟨_, Array.getElem?_eq_getElem hx⟩
    obtain ⟨c2, ey⟩ : ∃ c, y.cps[i]? = some c := ⟨_, Array.getElem?_eq_getElem hy⟩
    have hzl : z < s.heap.objs.size := Heap.lt_size hz
    refine pyNext_zipS_item D hz hTI hTO h1 h2 ex ey fun h' u v z' TO' h1' h2' hT hsz hk => ?_
    refine ⟨_, rfl, wpAny_letOwnedTupleGo_zip (s := { s with heap := h', toks := s.toks + 2 }) z' fun h'' z'' sb => ?_⟩
    have hT2 : h''.get? s.heap.objs.size = some { cls := .type "tuple", data := .seq #[.str ⟨#[c1]⟩ u, .str ⟨#[c2]⟩ v] } := (sb.2 _ (Nat.ne_of_gt hzl)).trans hT
    have new : ObjOk X.prog X.w (upd H s.heap.objs.size (.tup [.str ⟨#[c1]⟩, .str ⟨#[c2]⟩])) h'' s.heap.objs.size (.tup [.str ⟨#[c1]⟩, .str ⟨#[c2]⟩]) :=
      ⟨by show 2 ≤ sizeLine; decide, [_, _], .cons ⟨u, rfl⟩ (.cons ⟨v, rfl⟩ .nil), ⟨_, hT2, rfl, _, rfl⟩⟩
    have I1 : Inv X pins σ (upd H s.heap.objs.size (.tup [.str ⟨#[c1]⟩, .str ⟨#[c2]⟩])) { s with heap := h'', toks := s.toks + 2 } :=
      I.turnedNew (t' := s.toks + 2) (ch := [z, TI, TO, i1, i2]) (fun c o hb q => (sb.2 c (fun q' => hb (by simp [q']))).trans (hk c o (fun q' => hb (by simp [q'])) (fun q' => hb (by simp [q'])) (fun q' => hb (by simp [q'])) (fun q' => hb (by simp [q'])) q)) hf (Nat.le_refl _) new
    refine ⟨.ref s.heap.objs.size, _, I1, rfl, ⟨_, _, _, rfl, I.hok.fresh (Nat.le_refl _), rfl, ex, ey⟩, ⟨z'', ?_, ⟨.str ⟨#[c1]⟩ u, .str ⟨#[c2]⟩ v, ?_⟩, ?_, ?_⟩, fun c hcm => ?_⟩
    · exact (sb.2 _ D.TIz).trans (hk _ _ D.TIz D.TITO D.TIi1 D.TIi2 hTI)
    · exact (sb.2 _ D.TOz).trans TO'
    · exact at8_at h1' fun o q => (sb.2 _ D.i1z).trans q
    · exact at8_at h2' fun o q => (sb.2 _ D.i2z).trans q
    · have hlt : c < s.heap.objs.size := by
        have e' : c = z ∨ c = TI ∨ c = TO ∨ c = i1 ∨ c = i2 := by simpa using hcm
        rcases e' with q | q | q | q | q
        · rw [q]; exact hzl
        · rw [q]; exact Heap.lt_size hTI
        · rw [q]; exact Heap.lt_size hTO
        · rw [q]; obtain ⟨_, e1, _⟩ := h1; exact Heap.lt_size e1
        · rw [q]; obtain ⟨_, e2, _⟩ := h2; exact Heap.lt_size e2
      rw [upd_ne (Nat.ne_of_lt hlt)]
      exact (hf c hcm).1
  done := by
    intro X hP hw hK hc i pins s σ H E I hf st hg
    subst hP hw hK
    obtain ⟨hz, hTI, ⟨x0, y0, hTO⟩, h1, h2⟩ := st
    have he : x.cps[i]? = none ∨ y.cps[i]? = none := by
      rcases hg with q | q
      · exact .inl (Array.getElem?_eq_none q)
      · exact .inr (Array.getElem?_eq_none q)
    exact pyNext_zipS_end (I.ok.hd hc) D hz hTI hTO h1 h2 he fun h' tk' hk => ⟨rfl, I.turnedL (t' := tk') (ch := [z, TI, TO, i1, i2]) (fun c o hb q =>
      hk c o (fun q' => hb (by simp [q'])) (fun q' => hb (by simp [q'])) (fun q' => hb (by simp [q'])) (fun q' => hb (by simp [q'])) q) hf⟩
  self := fun A i s Q E st h => wpAny_pyIter_zip st.1 h
section
variable {X : Cx} {σ : L2.St} {H : Hp} {e a b : Expr} {p pos tpos : Pos} {elts : List Expr} {kk : Nat}
theorem i_zipS {R : It → Hp → Prop} (B : Blt X.mg X.base) (h : wE X a σ H fun v H1 => wE X b σ H1 fun u H2 => ∃ x y : Str, v = .str x ∧ u = .str y ∧ x.cps.all (· < 128) = true ∧ y.cps.all (· < 128) = true ∧ R (ItzS x y) H2) (hg : Gl X "zip" := by rfl)
    (hs : starEach [a, b] X.env = (false, eval a X.env) :: starEach [b] X.env := by rfl) (hs2 : starEach [b] X.env = [(false, eval b X.env)] := by rfl) :
    wI X (.Tuple elts kk tpos) (.Call (.Name "zip" p) [a, b] [] pos) σ H R := by
  have ha : wA X [a, b] σ H fun vs H2 => ∃ x y : Str, vs = [.str x, .str y] ∧ x.cps.all (· < 128) = true ∧ y.cps.all (· < 128) = true ∧ R (ItzS x y) H2 :=
    a_cons (wE_mono h fun v H1 q => a_cons (wE_mono q fun u H2 ⟨x, y, e1, e2, r⟩ => a_nil ⟨x, y, by rw [e1, e2], r⟩) hs2) hs
  refine ⟨fun pins s I => ?_⟩
  refine Call_ (ld_blt I hg B.zip PyProof.Rows.boot_zip (PyProof.Rows.callWith_type1 (thn (ha.run pos pins _ I) fun us s1 ⟨vs, H1, I1, r1, q1⟩ => ?_) hs (by rw [hs2]; rfl)))
  obtain ⟨x, y, ex, hx, hy, q⟩ := q1
  subst ex
  obtain ⟨u1, u2, rfl, ⟨t1, rfl⟩, ⟨t2, rfl⟩⟩ := vals2 r1
  have fresh5 : ∀ c, c ∈ [s1.heap.objs.size + 4, s1.heap.objs.size + 2, s1.heap.objs.size + 3, s1.heap.objs.size, s1.heap.objs.size + 1] → FpOk X pins H1 c := fun c hcm => by
    have e' : c = s1.heap.objs.size + 4 ∨ c = s1.heap.objs.size + 2 ∨ c = s1.heap.objs.size + 3 ∨ c = s1.heap.objs.size ∨ c = s1.heap.objs.size + 1 := by simpa using hcm
    have hle : s1.heap.objs.size ≤ c := by
      rcases e' with z | z | z | z | z
      · rw [z]; exact Nat.le_add_right _ _
      · rw [z]; exact Nat.le_add_right _ _
      · rw [z]; exact Nat.le_add_right _ _
      · rw [z]; exact Nat.le_refl _
      · rw [z]; exact Nat.le_add_right _ _
    exact I1.fpOk hle (I1.hok.fresh hle)
  obtain ⟨m, ⟨oL, _, _, hoL, _⟩, _⟩ := id I1.loc
  refine call_zipS hx hy fun h' hz hTI hTO h1 h2 hsz hk => wpAny_pyIter_zip hz ?_
  have I2 : Inv X pins σ H1 { s1 with heap := h' } := I1.kept (t' := s1.toks) hk
  exact ⟨s1.heap.objs.size + 4, [s1.heap.objs.size + 4, s1.heap.objs.size + 2, s1.heap.objs.size + 3, s1.heap.objs.size, s1.heap.objs.size + 1], _, _, H1, rfl, I2, turn_zipS (PySem.W.ktu_apart s1.heap.objs.size _ _ (Heap.lt_size hoL) (Heap.lt_size hoL)), ⟨hz, hTI, ⟨_, _, hTO⟩, h1, h2⟩, fresh5, q⟩
end
theorem walk_zipS {x y : Str} {n : Nat} (hn : n = min x.cps.size y.cps.size) : Walk (ItzS x y) n (fun _ => True) (fun i H v H' => ∃ T c d, v = .ref T ∧ H T = none ∧ H' = upd H T (.tup [.str ⟨#[c]⟩, .str ⟨#[d]⟩]) ∧ x.cps[i]? = some c ∧ y.cps[i]? = some d) := by
  subst hn
  exact ⟨fun i _ hi _ => ⟨by omega, by omega⟩, fun _ _ => by show _ ∨ _; omega, fun _ _ _ _ _ _ y => y⟩
end Z

set_option Elab.async false
set_option linter.all false
set_option maxRecDepth 100000
set_option maxHeartbeats 4000000
/-! rules by value, slices, methods -/
namespace Z
open PySem PySem.Spec PyProof.Rows L2
section
variable {X : Cx} {k : Nat} {W : WX} {σ : L2.St} {H : Hp} {e a b o : Expr} {es : List Expr} {p p2 pos : Pos} {Q : VK}
theorem o_add {i j : Int} (q : Q (.int (i + j)) H) : oW X (binaryOp .Add) (.int i) (.int j) H Q := oW_of op_add ⟨i, j, rfl, rfl, q⟩
theorem o_sub {i j : Int} (q : Q (.int (i - j)) H) : oW X (binaryOp .Sub) (.int i) (.int j) H Q := oW_of op_sub ⟨i, j, rfl, rfl, q⟩
theorem o_mul {i j : Int} (h : CMul i j) (q : Q (.int (i * j)) H) : oW X (binaryOp .Mult) (.int i) (.int j) H Q := oW_of op_mul ⟨i, j, rfl, rfl, h, q⟩
theorem o_div {i j : Int} (h : CDiv i j) (q : Q (.int (i / j)) H) : oW X (binaryOp .FloorDiv) (.int i) (.int j) H Q := oW_of op_fdiv ⟨i, j, rfl, rfl, h, q⟩
theorem o_mod {i j : Int} (h : 0 < j) (q : Q (.int (i % j)) H) : oW X (binaryOp .Mod) (.int i) (.int j) H Q := oW_of op_mod ⟨i, j, rfl, rfl, h, q⟩
theorem o_pow {i j : Int} (h : CPow i j) (q : Q (.int (i ^ j.toNat)) H) : oW X (binaryOp .Pow) (.int i) (.int j) H Q := oW_of op_pow ⟨i, j, rfl, rfl, h, q⟩
theorem o_adds {i j : Str} (h : i.length + j.length ≤ sizeLine) (q : Q (.str (i ++ j)) H) : oW X (binaryOp .Add) (.str i) (.str j) H Q := oW_of op_add_str ⟨i, j, rfl, rfl, h, q⟩
theorem u_neg {i : Int} (q : Q (.int (-i)) H) : uW X (unaryOp .USub) (.int i) H Q := uW_of un_neg ⟨i, rfl, q⟩
theorem c_lt {i j : Int} (q : Q (.bl (decide (i < j))) H) : oW X (compareOp .Lt) (.int i) (.int j) H Q := oW_of op_lt ⟨i, j, rfl, rfl, q⟩
theorem c_le {i j : Int} (q : Q (.bl (decide (i ≤ j))) H) : oW X (compareOp .LtE) (.int i) (.int j) H Q := oW_of op_le ⟨i, j, rfl, rfl, q⟩
theorem c_gt {i j : Int} (q : Q (.bl (decide (j < i))) H) : oW X (compareOp .Gt) (.int i) (.int j) H Q := oW_of op_gt ⟨i, j, rfl, rfl, q⟩
theorem c_ge {i j : Int} (q : Q (.bl (decide (j ≤ i))) H) : oW X (compareOp .GtE) (.int i) (.int j) H Q := oW_of op_ge ⟨i, j, rfl, rfl, q⟩
theorem c_eq {x y : V} (h : scal x y = true) (q : Q (.bl (decide (x = y))) H) : oW X (compareOp .Eq) x y H Q := oW_of op_eq ⟨h, q⟩
theorem c_ne {x y : V} (h : scal x y = true) (q : Q (.bl (!decide (x = y))) H) : oW X (compareOp .NotEq) x y H Q := oW_of op_ne ⟨h, q⟩
theorem c_isN {x : V} (q : Q (.bl (decide (x = .non))) H) : oW X (compareOp .Is) x .non H Q := oW_of op_isN ⟨rfl, q⟩
theorem c_notN {x : V} (q : Q (.bl (!decide (x = .non))) H) : oW X (compareOp .IsNot) x .non H Q := oW_of op_notN ⟨rfl, q⟩
theorem c_ltS {i j : Str} (q : Q (.bl (decide (i.cps.toList < j.cps.toList))) H) : oW X (compareOp .Lt) (.str i) (.str j) H Q := oW_of op_lt_str ⟨i, j, rfl, rfl, q⟩
theorem c_inSign {c : Nat} {z : Str} (q : Q (.bl (decide (c ∈ z.cps.toList))) H) : oW X (compareOp .In) (.str ⟨#[c]⟩) (.str z) H Q := oW_of op_in_sign ⟨c, z, rfl, rfl, q⟩
theorem c_inL {x : V} {q : Addr} {xs : List V} (hq : SqL X.K H q xs ∨ SqT X.K H q xs) (fx : flatV x = true) (fs : xs.all flatV = true) (h : Q (.bl (inV x xs)) H) : oW X (compareOp .In) x (.ref q) H Q := oW_of op_in_seq ⟨q, xs, rfl, hq, fx, fs, by exact h⟩
theorem c_notInL {x : V} {q : Addr} {xs : List V} (hq : SqL X.K H q xs ∨ SqT X.K H q xs) (fx : flatV x = true) (fs : xs.all flatV = true) (h : Q (.bl (!inV x xs)) H) : oW X (compareOp .NotIn) x (.ref q) H Q := oW_of op_notIn_seq ⟨q, xs, rfl, hq, fx, fs, by exact h⟩

/-- the part of a slice -/
def wO (X : Cx) (e : Option Expr) : L2.TO := match e with | none => tNoPart | some e => tPart (wE X e)
theorem pO {e : Option Expr} : PO X e (wO X e) := match e with | none => po_none | some _ => po_some pE
theorem e_slice {r : V → Option Int → Option Int → Hp → VK → Prop} {lo hi : Option Expr} (hr : SlR X r) (h : wE X e σ H fun x H1 => wO X lo σ H1 fun l H2 => wO X hi σ H2 fun u H3 => r x l u H3 Q) : wE X (.Subscript e (.Slice lo hi none p2) pos) σ H Q :=
  eE (pe_slice hr pE pO pO) h
theorem p_none {R : Option Int → Hp → Prop} (h : R none H) : wO X none σ H R := h
theorem p_some {R : Option Int → Hp → Prop} (h : wE X e σ H fun x H1 => ∃ i, x = .int i ∧ R (some i) H1) : wO X (some e) σ H R := h
/-- "..".join(xs) -/
theorem e_join {apos : Pos} (h : wE X o σ H fun x H1 => ∃ s : Str, x = .str s ∧ wE X a σ H1 fun y H2 => ∃ q, ∃ ys : List Str, y = .ref q ∧ (SqL X.K H2 q (ys.map V.str) ∨ SqT X.K H2 q (ys.map V.str)) ∧ (ys.map (·.length)).sum + ys.length * s.length ≤ 16777216 ∧ Q (.str (Txt.join s ys)) H2)
    (hs : starEach [a] X.env = [(false, eval a X.env)] := by rfl) (hbase : attributeBase o "join" X.env (eval o X.env) = eval o X.env := by rfl) (hline : (apos.endLine == pos.line) = true := by rfl) : wE X (.Call (.Attribute o "join" apos) [a] [] pos) σ H Q :=
  eE (pe_join pE pE hs hbase hline) (wE_mono h fun x H1 ⟨s, e1, h1⟩ => ⟨⟨s, e1⟩, wE_mono h1 fun y H2 ⟨q, ys, e2, h2, h3, h4⟩ => ⟨s, q, ys, e1, by rw [e2], h2, h3, h4⟩⟩)
/-- xs.append(v) -/
theorem e_append {apos : Pos} (h : wE X o σ H fun x H1 => ∃ q, x = .ref q ∧ (∃ ys, H1 q = some (.lst ys)) ∧ wE X a σ H1 fun y H2 => ∃ xs, H2 q = some (.lst xs) ∧ xs.length < sizeLine ∧ Q .non (upd H2 q (.lst (xs ++ [y]))))
    (hs : starEach [a] X.env = [(false, eval a X.env)] := by rfl) (hbase : attributeBase o "append" X.env (eval o X.env) = eval o X.env := by rfl) (hline : (apos.endLine == pos.line) = true := by rfl)
    (hfew : ((backTo pos (starEach [a] X.env)).all (fun x => !x.1) && (backToKw pos (keywordEach [] X.env)).all (fun x => x.1.isSome) && decide (([a] : List Expr).length + ([] : List Keyword).length + (if ([] : List Keyword).isEmpty then 0 else 1) < 30)) = true := by rfl) :
    wE X (.Call (.Attribute o "append" apos) [a] [] pos) σ H Q :=
  eE (pe_bm PySem.F.plainAttrs_list PySem.F.slot_list_append PySem.F.type_list_append mt_append pE pA hbase hfew hline (by rw [hs]; rfl) rfl)
    (wE_mono h fun x H1 ⟨q, e1, ⟨ys, h0⟩, h1⟩ => ⟨by rw [e1]; exact .inl ⟨rfl, ys, .inl (.inl h0)⟩, a_cons (wE_mono h1 fun y H2 ⟨xs, h2, h3, h4⟩ => a_nil ⟨q, xs, y, e1, rfl, h2, h3, h4⟩) (by rw [hs]; rfl)⟩)
end
end Z

set_option Elab.async false
set_option linter.all false
set_option maxRecDepth 100000
set_option maxHeartbeats 4000000
/-! comprehensions that only read -/
namespace Z
open PySem PySem.Spec PyProof.Rows L2
section
variable {X : Cx} {k : Nat} {W : WX} {σ : L2.St} {H : Hp} {pos : Pos} {Q : VK} {elt tg iter : Expr} {scope : Scope}
/-- one turn that only reads: the item x, the heap H; the target is bound, the element told -/
def MapTurn (X : Cx) (scope : Scope) (vs : List Nat) (tg elt : Expr) (σ : L2.St) (x : V) (H : Hp) (R : V → Prop) : Prop :=
  wGb X scope tg x (wipe σ vs) H fun σ2 H2 => wipe σ2 vs = wipe σ vs ∧ But [] H H2 ∧ wEb X scope elt σ2 H2 fun v H4 => R v ∧ But [] H2 H4
theorem lcM_core {J : It} {n : Nat} {G : Hp → Prop} {Y : Nat → Hp → V → Hp → Prop} {own : List (Str × Nat)} {H1 : Hp} {ys : List V} (w : Walk J n G Y) (hn : ys.length = n) (hz : n ≤ sizeLine) (hG : ∀ H', But [] H1 H' → G H')
    (ht : ∀ i x H2 H', i < n → But [] H1 H2 → Y i H2 x H' → But [] H2 H' ∧ MapTurn X scope (own.map (·.2)) tg elt σ x H' fun v => ys[i]? = some v) {Qd : Addr → Hp → Prop}
    (hq : ∀ D H', But [] H1 H' → H1 D = none → H' D = some (.lst ys) → Qd D H') : ∀ D, H1 D = none → ∃ Pv : Nat → Hp → Prop, Pv 0 (upd H1 D (.lst [])) ∧ (∀ i H, i ≤ n → Pv i H → G H) ∧
      (∀ i x H H', i < n → Pv i H → Y i H x H' → LcTurn X scope (own.map (·.2)) tg [] elt σ D x H' (Pv (i + 1))) ∧ ∀ H, Pv n H → Qd D H := by
  intro D hD
  refine ⟨fun i H' => But [] H1 H' ∧ H' D = some (.lst (ys.take i)), ⟨But.new hD, by rw [upd_same]; rfl⟩, fun i H' _ h => hG H' h.1, ?_, fun H' h => hq D H' h.1 hD (by rw [h.2, ← hn, List.take_length])⟩
  intro i x H2 H' hi hP hY
  obtain ⟨hb, hm⟩ := ht i x H2 H' hi hP.1 hY
  intro s H0 C cl fp
  refine ⟨fun pins s2 u I r => thn ((hm s H0 C cl fp).run pins s2 u I r) fun _ s3 h3 => ?_⟩
  obtain ⟨σ', H3, I3, e1, b3, h3⟩ := h3
  refine ⟨σ', H3, I3, e1, fun s H0 C cl fp => eIf pts_nil ?_⟩
  intro s H0 C cl fp
  refine wE_mono (h3 s H0 C cl fp) fun v H4 ⟨hv, b4⟩ => ?_
  have hD4 : H4 D = some (.lst (ys.take i)) := b4 _ _ (by simp) (b3 _ _ (by simp) (hb _ _ (by simp) hP.2))
  refine ⟨_, hD4, by have := List.length_take_le i ys; rw [List.length_take]; omega, ?_, ?_⟩
  · refine fun q o _ e => ?_
    have ne : q ≠ D := ne_of_none e hD
    rw [upd_ne ne]
    exact b4 _ _ (by simp) (b3 _ _ (by simp) (hb _ _ (by simp) (hP.1 _ _ (by simp) e)))
  · rw [upd_same, List.take_add_one, hv]
    rfl
theorem e_lcM (own : List (Str × Nat)) (C : Cxt X k W)
    (h : wI X tg iter σ H fun J H1 => ∃ n G Y ys, Walk J n G Y ∧ ys.length = n ∧ n ≤ sizeLine ∧ (∀ H', But [] H1 H' → G H') ∧
      (∀ i x H2 H', i < n → But [] H1 H2 → Y i H2 x H' → But [] H2 H' ∧ MapTurn X scope (own.map (·.2)) tg elt σ x H' fun v => ys[i]? = some v) ∧
      ∀ D H', But [] H1 H' → H1 D = none → H' D = some (.lst ys) → Q (.ref D) H')
    (ok : BlkOk X.N X.env.scope scope own := by exact blkOk_by (by first | rfl | kernel_rfl)) (hs : ∀ x, foldedSetIterable iter X.env x = pure x := by intro _; rfl) :
    wE X (.ListComp elt [⟨tg, iter, [], 0⟩] scope pos) σ H Q :=
  e_lc own C (wI_mono h fun J H1 ⟨n, G, Y, ys, w, h1, h2, h3, h4, h5⟩ => ⟨n, G, Y, w, lcM_core w h1 h2 h3 h4 h5⟩) ok hs
/-- the target is a name -/
theorem mt_name {i : Nat} {y : Str} {p : Pos} {vs : List Nat} {x : V} {R : V → Prop} (hN : X.N.Nodup)
    (h : wEb X scope elt ((wipe σ vs).set i (some x)) H fun v H4 => R v ∧ But [] H H4) (hw : wipe ((wipe σ vs).set i (some x)) vs = wipe σ vs := by rfl) (hi : X.N[i]? = some y := by rfl)
    (hx : Loc (relS scope X.env.scope) y := by first | exact Or.inl rfl | exact Or.inr rfl) (hf : (scope.names.lookup y == some .cell) = true ∨ (relS scope X.env.scope).names.lookup y = some .local := by first | exact .inl rfl | exact .inr rfl) :
    MapTurn X scope vs (.Name y p) elt σ x H R := by
  intro s H0 C cl fp
  exact g_name (i := i) ⟨hw, But.refl, h⟩ hN hi hx hf
/-- the target is a pair of names -/
theorem mt_pair {i j : Nat} {y z : Str} {p p' pt : Pos} {kt} {vs : List Nat} {q : Addr} {u v : V} {R : V → Prop} (hc : X.calm = true) (hN : X.N.Nodup) (hq : H q = some (.tup [u, v]))
    (h : wEb X scope elt (((wipe σ vs).set i (some u)).set j (some v)) H fun v H4 => R v ∧ But [] H H4) (hw : wipe (((wipe σ vs).set i (some u)).set j (some v)) vs = wipe σ vs := by rfl) (hi : X.N[i]? = some y := by rfl) (hj : X.N[j]? = some z := by rfl)
    (hx : Loc (relS scope X.env.scope) y := by first | exact Or.inl rfl | exact Or.inr rfl) (hf : (scope.names.lookup y == some .cell) = true ∨ (relS scope X.env.scope).names.lookup y = some .local := by first | exact .inl rfl | exact .inr rfl)
    (hx2 : Loc (relS scope X.env.scope) z := by first | exact Or.inl rfl | exact Or.inr rfl) (hf2 : (scope.names.lookup z == some .cell) = true ∨ (relS scope X.env.scope).names.lookup z = some .local := by first | exact .inl rfl | exact .inr rfl) :
    MapTurn X scope vs (.Tuple [.Name y p, .Name z p'] kt pt) elt σ (.ref q) H R := by
  intro s H0 C cl fp
  refine g_tup (gs_cons (g_name (i := i) (gs_cons (g_name (i := j) (gs_nil ⟨hw, But.refl, h⟩) hN hj hx2 hf2)) hN hi hx hf)) hc (.inl (.inl hq))
/-- if c: u else: v, where the test only reads -/
theorem s_ifB {c : Expr} {u v : List Stmt} {D : Ends} (b : Bool) (ht : wT X c σ H fun x H1 => x = b ∧ But [] H H1) (h1 : b = true → ∀ H1, But [] H H1 → wB X u D σ H1) (h2 : b = false → ∀ H1, But [] H H1 → wB X v D σ H1) : wS X (.If c u v pos) D σ H :=
  s_if (wT_mono ht fun x H1 ⟨e, k⟩ => by
    subst e
    split
    · rename_i e
      exact h1 e H1 k
    · rename_i e
      exact h2 (by simpa using e) H1 k)
theorem ite_b {p q : Prop} {b : Bool} (h1 : b = true → p) (h2 : b = false → q) : if b = true then p else q := by
  cases b with
  | true => exact h1 rfl
  | false => exact h2 rfl
end
end Z

/-! plain: a text in pieces -/
set_option Elab.async false
set_option linter.all false
namespace Z
open PySem PySem.Spec PyProof.Rows L2 TL
def sOf (l : List Nat) : Str := ⟨l.toArray⟩
theorem sOf_list {l : List Nat} : (sOf l).cps.toList = l := by simp [sOf]
theorem sOf_len {l : List Nat} : (sOf l).length = l.length := by show (sOf l).cps.size = _; simp [sOf]
theorem sOf_str (x : Str) : sOf x.cps.toList = x := by cases x; simp [sOf]
theorem str_ext {x y : Str} (h : x.cps.toList = y.cps.toList) : x = y := by rw [← sOf_str x, ← sOf_str y, h]
def chunks (l : List Nat) (n : Nat) : List (List Nat) := if l.length ≤ n then [l] else (List.range ((l.length + n - 1) / n)).map fun i => (l.drop (i * n)).take n
theorem chunk_flat (l : List Nat) (n : Nat) : ∀ m, ((List.range m).map fun i => (l.drop (i * n)).take n).flatten = l.take (m * n)
  | 0 => by simp
  | m + 1 => by
    rw [List.range_succ, List.map_append, List.flatten_append, chunk_flat l n m]
    simp only [List.map_cons, List.map_nil, List.flatten_cons, List.flatten_nil, List.append_nil]
    rw [Nat.add_mul, Nat.one_mul, List.take_add]
theorem up_div {a n : Nat} (hn : 0 < n) : a ≤ (a + n - 1) / n * n := by
  have h := Nat.lt_div_mul_add hn (a := a + n - 1)
  omega
theorem chunks_flatten (l : List Nat) {n : Nat} (hn : 0 < n) : (chunks l n).flatten = l := by
  unfold chunks
  split
  · simp
  · rw [chunk_flat, List.take_of_length_le (up_div hn)]
theorem chunks_length (l : List Nat) {n : Nat} (hn : 0 < n) : (chunks l n).length = max 1 ((l.length + n - 1) / n) := by
  unfold chunks
  split
  · rename_i h
    have : (l.length + n - 1) / n ≤ 1 := by
      rw [← Nat.lt_succ_iff, Nat.div_lt_iff_lt_mul hn]
      omega
    simp only [List.length_singleton]
    omega
  · rename_i h
    rw [List.length_map, List.length_range]
    have : 1 ≤ (l.length + n - 1) / n := by
      rw [Nat.le_div_iff_mul_le hn]
      omega
    omega
theorem chunks_last (l : List Nat) {n : Nat} (hn : 0 < n) : ∀ p ∈ (chunks l n).getLast?, p.length ≤ n := by
  unfold chunks
  split
  · simp_all
  · intro p hp
    obtain ⟨i, hi⟩ : ∃ i, p = (l.drop (i * n)).take n := by
      have := List.mem_of_getLast? hp
      obtain ⟨i, _, e⟩ := List.mem_map.mp this
      exact ⟨i, e.symm⟩
    rw [hi]
    exact List.length_take_le _ _
theorem chunks_each (l : List Nat) {n : Nat} (hn : 0 < n) : ∀ p ∈ chunks l n, p.length ≤ n := by
  unfold chunks
  split
  · simp_all
  · intro p hp
    obtain ⟨i, _, e⟩ := List.mem_map.mp hp
    rw [← e]
    exact List.length_take_le _ _
theorem chunks_init (l : List Nat) {n : Nat} (hn : 0 < n) : ∀ p ∈ (chunks l n).dropLast, p.length = n := by
  unfold chunks
  split
  · simp
  · rename_i h
    intro p hp
    rw [← List.map_dropLast] at hp
    obtain ⟨i, hi, e⟩ := List.mem_map.mp hp
    have hi2 : i + 1 < (l.length + n - 1) / n := by
      obtain ⟨j, hj, ej⟩ := List.getElem_of_mem hi
      rw [List.getElem_dropLast, List.getElem_range] at ej
      rw [List.length_dropLast, List.length_range] at hj
      omega
    have : (i + 2) * n ≤ l.length + n - 1 := by
      rw [← Nat.le_div_iff_mul_le hn]
      omega
    rw [← e, List.length_take, List.length_drop]
    have e2 : (i + 2) * n = i * n + 2 * n := Nat.add_mul i 2 n
    omega
theorem chunks_ne (l : List Nat) {n : Nat} (hn : 0 < n) (hl : l ≠ []) : ∀ p ∈ chunks l n, p ≠ [] := by
  intro p hp hp0
  unfold chunks at hp
  split at hp
  · simp at hp
    exact hl (hp ▸ hp0)
  · obtain ⟨i, hi, e⟩ := List.mem_map.mp hp
    rw [List.mem_range, Nat.lt_iff_add_one_le, Nat.le_div_iff_mul_le hn, Nat.add_mul, Nat.one_mul] at hi
    have h2 : ((l.drop (i * n)).take n).length = 0 := by rw [e, hp0]; rfl
    rw [List.length_take, List.length_drop] at h2
    omega
theorem joinL_nil : ∀ ps : List (List Nat), joinL [] ps = ps.flatten
  | [] => rfl
  | [p] => by simp [joinL]
  | p :: q :: r => by
    have := joinL_nil (q :: r)
    simp only [joinL, List.nil_append, this, List.flatten_cons]
theorem join_nil (ls : List (List Nat)) : Txt.join "" (ls.map sOf) = sOf ls.flatten := by
  apply str_ext
  rw [sOf_list, join_eq]
  have := tl_join "" (ls.map sOf)
  show tl _ = _
  rw [this, List.map_map]
  have e1 : tl "" = [] := rfl
  have e2 : tl ∘ sOf = id := by
    funext l
    exact sOf_list
  rw [e1, joinL_nil, e2, List.map_id]
end Z

set_option Elab.async false
set_option linter.all false
set_option maxRecDepth 100000
set_option maxHeartbeats 4000000
/-! plain: what can be shown -/
namespace Z
open PySem PySem.Spec PyProof.Rows L2 TL
/-- small enough to be shown -/
def rp (d : PyData) : Bool := d.showable && decide (d.depth ≤ 64) && d.leavesShort 40 && decide (d.weight ≤ 300000)
theorem rp_len {d : PyData} (h : rp d = true) : d.showable = true ∧ d.depth ≤ 64 ∧ d.shown.length ≤ sizeLine := by
  simp only [rp, Bool.and_eq_true, decide_eq_true_eq] at h
  have h2 := PyData.shown_le 40 (by decide) d h.1.2
  refine ⟨h.1.1.1, h.1.1.2, ?_⟩
  rw [sizeLine_eq]
  omega
theorem weight_strs : ∀ ys : List Str, PyData.weightAll (ys.map PyData.str) = (ys.map (·.length)).sum + ys.length
  | [] => rfl
  | y :: ys => by
    have := weight_strs ys
    simp only [List.map_cons, PyData.weightAll, List.sum_cons, List.length_cons, PyData.weight, this]
    show y.cps.size + 1 + _ = y.cps.size + _ + _
    omega
theorem depth_strs : ∀ ys : List Str, PyData.depthAll (ys.map PyData.str) ≤ 1
  | [] => by simp [PyData.depthAll]
  | y :: ys => by
    have := depth_strs ys
    simp only [List.map_cons, PyData.depthAll, PyData.depth]
    omega
theorem showable_strs : ∀ ys : List Str, PyData.showableAll (ys.map PyData.str) = true
  | [] => rfl
  | y :: ys => by simp [PyData.showableAll, PyData.showable, showable_strs ys]
theorem leaves_strs : ∀ ys : List Str, (∀ y ∈ ys, ∀ c ∈ y.cps.toList, c < 4294967296) → PyData.leavesShortAll 40 (ys.map PyData.str) = true
  | [], _ => rfl
  | y :: ys, h => by
    simp only [List.map_cons, PyData.leavesShortAll, PyData.leavesShort, leaves_strs ys (fun z hz => h z (by simp [hz])), Bool.and_true, List.all_eq_true, decide_eq_true_eq]
    intro c hc
    exact h y (by simp) c hc
theorem rp_strs {ys : List Str} (hs : (ys.map (·.length)).sum + ys.length ≤ 300000) (hc : ∀ y ∈ ys, ∀ c ∈ y.cps.toList, c < 4294967296) : rp (.list (ys.map PyData.str)) = true := by
  have := depth_strs ys
  have e1 : (PyData.list (ys.map PyData.str)).depth ≤ 64 := by simp only [PyData.depth]; omega
  have e2 : (PyData.list (ys.map PyData.str)).weight ≤ 300000 := by simp only [PyData.weight, weight_strs]; omega
  have e3 : (PyData.list (ys.map PyData.str)).showable = true := by simp only [PyData.showable, showable_strs]
  have e4 : (PyData.list (ys.map PyData.str)).leavesShort 40 = true := by simp only [PyData.leavesShort, leaves_strs ys hc]
  rw [rp, e3, e4, decide_eq_true e1, decide_eq_true e2]
  rfl
theorem rp_str {y : Str} (hs : y.length ≤ 300000) (hc : ∀ c ∈ y.cps.toList, c < 4294967296) : rp (.str y) = true := by
  have e1 : (PyData.str y).depth ≤ 64 := by simp only [PyData.depth]; omega
  have e2 : (PyData.str y).weight ≤ 300000 := by simp only [PyData.weight]; exact hs
  have e3 : (PyData.str y).showable = true := by simp only [PyData.showable]
  have e4 : (PyData.str y).leavesShort 40 = true := by simp only [PyData.leavesShort, List.all_eq_true, decide_eq_true_eq]; exact fun c h => hc c h
  rw [rp, e3, e4, decide_eq_true e1, decide_eq_true e2]
  rfl
section
variable {X : Cx} {k : Nat} {W : WX} {σ : L2.St} {H : Hp} {a : Expr} {p pos : Pos} {Q : VK}
theorem e_rep (B : Blt X.mg X.base) (hg : X.A.guards = some []) (hu : X.A.units + 66 < cLine) (h : wE X a σ H fun v H1 => ∃ l d, DD X.K l H1 v d ∧ rp d = true ∧ Q (.str d.shown) H1) (hgl : Gl X "repr" := by rfl) (hs : starEach [a] X.env = [(false, eval a X.env)] := by rfl) :
    wE X (.Call (.Name "repr" p) [a] [] pos) σ H Q :=
  e_repr B hg hu (wE_mono h fun v H1 ⟨l, d, h1, h2, q⟩ => ⟨l, d, h1, (rp_len h2).1, (rp_len h2).2.1, (rp_len h2).2.2, q⟩) hgl hs
theorem vals_rev : ∀ {vs : List V} {us : List Value}, Vals vs us → Vals vs.reverse us.reverse
  | _, _, .nil => .nil
  | _, _, .cons r h => by
    rw [List.reverse_cons, List.reverse_cons]
    exact (vals_rev h).append (.cons r .nil)
end
end Z

set_option Elab.async false
set_option linter.all false
set_option maxRecDepth 100000
set_option maxHeartbeats 4000000
/-! literals of data; what stays across the making of lambdas -/
namespace Z
open PySem PySem.Spec PyProof.Rows L2 LamX
section
variable {X : Cx} {σ : L2.St} {l : List Addr} {H : Hp} {e a b : Expr} {es : List Expr}
theorem wA_mono {Q Q' : List V → Hp → Prop} (h : wA X es σ H Q) (k : ∀ v H', Q v H' → Q' v H') : wA X es σ H Q' := ⟨fun pos pins s I => thn (h.run pos pins s I) fun _ _ ⟨v, H', I', r, q⟩ => ⟨v, H', I', r, k v H' q⟩⟩
theorem DDs.mem {K : PySem.W.Frag} : ∀ {vs : List V} {ds : List PyData} {v : V}, DDs K l H vs ds → v ∈ vs → ∃ d ∈ ds, DD K l H v d
  | _, _, _, .nil, h => by simp at h
  | _, _, _, .cons h r, e => by
    rcases List.mem_cons.mp e with e | e
    · subst e
      exact ⟨_, by simp, h⟩
    · obtain ⟨d, hd, h'⟩ := DDs.mem r e
      exact ⟨d, by simp [hd], h'⟩
section
variable {K : PySem.W.Frag}
/-- e is told as the datum d, whatever is added to the heap; nothing of it lies at l -/
def Lit (K : PySem.W.Frag) (X : Cx) (l : List Addr) (σ : L2.St) (H : Hp) (e : Expr) (d : PyData) : Prop := ∀ H1, But [] H H1 → wE X e σ H1 fun v H2 => But [] H1 H2 ∧ DD K l H2 v d
def Lits (K : PySem.W.Frag) (X : Cx) (l : List Addr) (σ : L2.St) (H : Hp) (es : List Expr) (ds : List PyData) : Prop := ∀ H1, But [] H H1 → wA X es σ H1 fun vs H2 => But [] H1 H2 ∧ DDs K l H2 vs ds
/-- what stands at l is there -/
def Here (l : List Addr) (H : Hp) : Prop := ∀ q ∈ l, ∃ o, H q = some o
theorem Here.new {p : Addr} {H1 : Hp} (h : Here l H) (b : But [] H H1) (n : H1 p = none) : p ∉ l := fun z => by
  obtain ⟨o, e⟩ := h p z
  rw [b _ _ (by simp) e] at n
  cases n
theorem lit_none {j} {pos : Pos} : Lit K X l σ H (.Constant .none j pos) .none := fun _ _ => e_none ⟨But.refl, .non⟩
theorem lit_int {i : Int} {j} {pos : Pos} : Lit K X l σ H (.Constant (.int i) j pos) (.int i) := fun _ _ => e_int ⟨But.refl, .int i⟩
theorem lit_str {x : Str} {j} {pos : Pos} : Lit K X l σ H (.Constant (.str x) j pos) (.str x) := fun _ _ => e_str ⟨But.refl, .str x⟩
theorem lit_bool {b : Bool} {j} {pos : Pos} : Lit K X l σ H (.Constant (.bool b) j pos) (.bool b) := fun _ _ => e_bool ⟨But.refl, .bl b⟩
theorem lit_neg {i : Int} {j} {pos p2 : Pos} : Lit K X l σ H (.UnaryOp .USub (.Constant (.int i) j pos) p2) (.int (-i)) := fun _ _ => e_un (e_int (u_neg ⟨But.refl, .int _⟩))
theorem lit_pow {i k : Int} {j j'} {pos p2 p3 : Pos} (h : CPow i k) : Lit K X l σ H (.BinOp (.Constant (.int i) j pos) .Pow (.Constant (.int k) j' p2) p3) (.int (i ^ k.toNat)) := fun _ _ => e_bin (e_int (e_int (o_pow h ⟨But.refl, .int _⟩)))
theorem lits_nil : Lits K X l σ H [] [] := fun _ _ => a_nil ⟨But.refl, .nil⟩
theorem lits_cons {d : PyData} {ds : List PyData} (h : Lit K X l σ H e d) (r : Lits K X l σ H es ds) (hs : starEach (e :: es) X.env = (false, eval e X.env) :: starEach es X.env := by rfl) : Lits K X l σ H (e :: es) (d :: ds) := fun H1 b1 =>
  a_cons (wE_mono (h H1 b1) fun v H2 ⟨b2, h2⟩ => wA_mono (r H2 (b1.trans b2)) fun vs H3 ⟨b3, h3⟩ => ⟨b2.trans b3, .cons (h2.but b3.of) h3⟩) hs
theorem lit_lst {ds : List PyData} {pos : Pos} (hl : Here l H) (r : Lits K X l σ H es ds) (hn : ds.length ≤ 16777216 := by decide) : Lit K X l σ H (.List es pos) (.list ds) := fun H1 b1 =>
  e_lst (wA_mono (r H1 b1) fun vs H2 ⟨b2, h2⟩ => ⟨by rw [h2.length, sizeLine_eq]; exact hn, fun p hp => ⟨b2.trans (But.new hp), .lst (.inl (.inl upd_same)) (hl.new (b1.trans b2) hp) (h2.but (But.new hp))⟩⟩)
theorem lit_tup {ds : List PyData} {x1} {pos : Pos} (hl : Here l H) (r : Lits K X l σ H es ds) (hn : ds.length ≤ 16777216 := by decide) : Lit K X l σ H (.Tuple es x1 pos) (.tuple ds) := fun H1 b1 =>
  e_tup (wA_mono (r H1 b1) fun vs H2 ⟨b2, h2⟩ => ⟨by rw [h2.length, sizeLine_eq]; exact hn, fun p hp => ⟨b2.trans (But.new hp), .tup (.inl (.inl upd_same)) (hl.new (b1.trans b2) hp) (h2.but (But.new hp))⟩⟩)
theorem lit_dict0 {pos : Pos} (hl : Here l H) : Lit K X l σ H (.Dict [] [] pos) (.dict []) := fun H1 b1 =>
  eE pe_dnewK fun p hp => ⟨But.new hp, DD.dct (kvs := []) (ds := []) upd_same (hl.new b1 hp) .nil⟩
/-- a list of literals, as a list of values -/
theorem e_lits {ds : List PyData} {pos : Pos} {Q : VK} (hl : Here l H) (r : Lits K X l σ H es ds) (h : ∀ q vs H1, But [] H H1 → H1 q = some (.lst vs) → q ∉ l → DDs K l H1 vs ds → Q (.ref q) H1) (hn : ds.length ≤ 16777216 := by decide) : wE X (.List es pos) σ H Q :=
  e_lst (wA_mono (r H But.refl) fun vs H2 ⟨b2, h2⟩ => ⟨by rw [h2.length, sizeLine_eq]; exact hn, fun p hp => h p vs _ (b2.trans (But.new hp)) upd_same (hl.new b2 hp) (h2.but (But.new hp))⟩)
end
/-! data that is wholly tracked -/
theorem sql_all {K : PySem.W.Frag} {a : Addr} {xs : List V} (h : SqL [] H a xs) : SqL K H a xs := by
  rcases h with h | ⟨o, _, _, h, _⟩
  · exact .inl h
  · cases h
theorem sqt_all {K : PySem.W.Frag} {a : Addr} {xs : List V} (h : SqT [] H a xs) : SqT K H a xs := by
  rcases h with h | ⟨o, _, _, h, _⟩
  · exact .inl h
  · cases h
mutual
theorem DD.all {K : PySem.W.Frag} : ∀ {v : V} {d : PyData}, DD [] l H v d → DD K l H v d
  | _, _, .non => .non
  | _, _, .bl x => .bl x
  | _, _, .int x => .int x
  | _, _, .str x => .str x
  | _, _, .lst h n r => .lst (sql_all h) n (DDs.all r)
  | _, _, .tup h n r => .tup (sqt_all h) n (DDs.all r)
  | _, _, .dct h n r => .dct h n (DDs.all r)
theorem DDs.all {K : PySem.W.Frag} : ∀ {vs : List V} {ds : List PyData}, DDs [] l H vs ds → DDs K l H vs ds
  | _, _, .nil => .nil
  | _, _, .cons h r => .cons (DD.all h) (DDs.all r)
end
theorem sql_there {a : Addr} {xs : List V} (h : SqL [] H a xs) : ∃ o, H a = some o := by
  rcases h with (h | ⟨o, h⟩) | ⟨o, _, _, h, _⟩
  · exact ⟨_, h⟩
  · exact ⟨_, h⟩
  · cases h
theorem sqt_there {a : Addr} {xs : List V} (h : SqT [] H a xs) : ∃ o, H a = some o := by
  rcases h with (h | ⟨o, h⟩) | ⟨o, _, _, h, _⟩
  · exact ⟨_, h⟩
  · exact ⟨_, h⟩
  · cases h
theorem not_new {a t : Addr} (h : ∃ o, H a = some o) (n : a ∉ l) (ht : H t = none) : a ∉ t :: l := fun z => by
  rcases List.mem_cons.mp z with e | e
  · obtain ⟨o, h⟩ := h
    rw [e, ht] at h
    cases h
  · exact n e
mutual
theorem DD.add {t : Addr} (ht : H t = none) : ∀ {v : V} {d : PyData}, DD [] l H v d → DD [] (t :: l) H v d
  | _, _, .non => .non
  | _, _, .bl x => .bl x
  | _, _, .int x => .int x
  | _, _, .str x => .str x
  | _, _, .lst h n r => .lst h (not_new (sql_there h) n ht) (DDs.add ht r)
  | _, _, .tup h n r => .tup h (not_new (sqt_there h) n ht) (DDs.add ht r)
  | _, _, .dct h n r => .dct h (not_new ⟨_, h⟩ n ht) (DDs.add ht r)
theorem DDs.add {t : Addr} (ht : H t = none) : ∀ {vs : List V} {ds : List PyData}, DDs [] l H vs ds → DDs [] (t :: l) H vs ds
  | _, _, .nil => .nil
  | _, _, .cons h r => .cons (DD.add ht h) (DDs.add ht r)
end
end
/-! ### the weak keeping: tables may grow -/
def Ex (l : List Addr) (H H' : Hp) : Prop := ∀ q o, q ∉ l → H q = some o → (∀ ps, o ≠ .tbl ps) → H' q = some o
section
variable {l m : List Addr} {H H1 H2 : Hp}
theorem But.ex (b : But l H H1) : Ex l H H1 := fun q o n e _ => b q o n e
theorem ex_of (b : ExtN H H1) : Ex l H H1 := fun q o _ e n => b q o e n
theorem Ex.refl : Ex l H H := fun _ _ _ h _ => h
theorem Ex.trans (a : Ex l H H1) (b : Ex l H1 H2) : Ex l H H2 := fun q o n e t => b q o n (a q o n e t) t
theorem Ex.mono (a : Ex l H H1) (h : ∀ q ∈ l, q ∈ m) : Ex m H H1 := fun q o n e t => a q o (fun z => n (h q z)) e t
theorem Ex.lst (b : Ex l H H1) {q : Addr} {xs : List V} (n : q ∉ l) (h : H q = some (.lst xs)) : H1 q = some (.lst xs) := b _ _ n h fun ps z => by cases z
theorem Ex.sql {K : PySem.W.Frag} {a : Addr} {xs : List V} (b : Ex l H H1) (n : a ∉ l) (h : SqL K H a xs) : SqL K H1 a xs := by
  rcases h with (h | ⟨o, h⟩) | h
  · exact .inl (.inl (b _ _ n h fun ps z => by cases z))
  · exact .inl (.inr ⟨o, b _ _ n h fun ps z => by cases z⟩)
  · exact .inr h
theorem Ex.sqt {K : PySem.W.Frag} {a : Addr} {xs : List V} (b : Ex l H H1) (n : a ∉ l) (h : SqT K H a xs) : SqT K H1 a xs := by
  rcases h with (h | ⟨o, h⟩) | h
  · exact .inl (.inl (b _ _ n h fun ps z => by cases z))
  · exact .inl (.inr ⟨o, b _ _ n h fun ps z => by cases z⟩)
  · exact .inr h
mutual
theorem DD.ex {K : PySem.W.Frag} (b : Ex l H H1) : ∀ {v : V} {d : PyData}, DD K l H v d → DD K l H1 v d
  | _, _, .non => .non
  | _, _, .bl x => .bl x
  | _, _, .int x => .int x
  | _, _, .str x => .str x
  | _, _, .lst h n r => .lst (b.sql n h) n (DDs.ex b r)
  | _, _, .tup h n r => .tup (b.sqt n h) n (DDs.ex b r)
  | _, _, .dct h n r => .dct (b _ _ n h fun ps z => by cases z) n (DDs.ex b r)
theorem DDs.ex {K : PySem.W.Frag} (b : Ex l H H1) : ∀ {vs : List V} {ds : List PyData}, DDs K l H vs ds → DDs K l H1 vs ds
  | _, _, .nil => .nil
  | _, _, .cons h r => .cons (DD.ex b h) (DDs.ex b r)
end
/-- tables stand where only lists at l change -/
theorem tabs_but {T : List (Addr × Str)} (t : Tabs T H) (b : But l H H1) (hl : ∀ q ∈ l, ∃ xs, H q = some (.lst xs)) : Tabs T H1 := fun p hp => by
  obtain ⟨ps, h1, h2, h3⟩ := t p hp
  have n1 : p.1 ∉ l := fun z => by
    obtain ⟨xs, e⟩ := hl _ z
    rw [h1] at e
    cases e
  refine ⟨ps, b _ _ n1 h1, h2, fun pos cv hc => ?_⟩
  obtain ⟨c, e1, e2⟩ := h3 pos cv hc
  refine ⟨c, e1, b _ _ (fun z => ?_) e2⟩
  obtain ⟨xs, e⟩ := hl _ z
  rw [e2] at e
  unfold CodeO at e
  cases e
theorem tabs_new {T : List (Addr × Str)} (t : Tabs T H) (b : But [] H H1) : Tabs T H1 := tabs_but t b (by simp)
end
/-! ### texts in repr -/
theorem reprChar_ok : ∀ c, c < 128 → ((Builtin.Str.reprChar 34 c).all (fun d => decide (d < 1114112)) && (Builtin.Str.reprChar 39 c).all fun d => decide (d < 1114112)) = true := by decide +kernel
theorem repr_fold {q : Nat} (hq : q = 34 ∨ q = 39) : ∀ (l : List Nat) (acc : Array Nat), (∀ c ∈ l, c < 128) → (∀ c ∈ acc.toList, c < 1114112) → ∀ c ∈ (l.foldl (fun out c => out ++ (Builtin.Str.reprChar q c).toArray) acc).toList, c < 1114112
  | [], acc, _, h => h
  | a :: r, acc, h1, h2 => by
    rw [List.foldl_cons]
    refine repr_fold hq r _ (fun c hc => h1 c (by simp [hc])) fun c hc => ?_
    rw [Array.toList_append, List.mem_append] at hc
    rcases hc with hc | hc
    · exact h2 c hc
    · have h3 := reprChar_ok a (h1 a (by simp))
      simp only [Bool.and_eq_true, List.all_eq_true, decide_eq_true_eq] at h3
      rcases hq with rfl | rfl
      · exact h3.1 c (by simpa using hc)
      · exact h3.2 c (by simpa using hc)
theorem strOk_repr {x : Str} (h : ∀ c ∈ x.cps.toList, c < 128) : PyData.strOk (PyData.str x).shown = true := by
  rw [PyData.shown_str]
  have hq : PySem.reprQuote x = 34 ∨ PySem.reprQuote x = 39 := by
    unfold PySem.reprQuote
    split <;> simp
  have hq2 : PySem.reprQuote x < 1114112 := by rcases hq with e | e <;> omega
  have := repr_fold hq x.cps.toList #[PySem.reprQuote x] h (by simp [hq2])
  unfold PyData.strOk PySem.reprText
  rw [Array.all_eq_true']
  intro c hc
  rw [← Array.foldl_toList] at hc
  simp only [Array.mem_push] at hc
  rcases hc with hc | hc
  · have := this c (Array.mem_toList_iff.mpr hc)
    simpa using this
  · simp [hc, hq2]
end Z

set_option Elab.async false
set_option linter.all false
set_option maxRecDepth 100000
set_option maxHeartbeats 4000000
/-! what the head's facts give -/
namespace Z
open PySem PySem.Spec PyProof.Rows L2
theorem base_call {b txt : Str} {p1 p2 p3 p4 p5 : Pos} {j} (env : Env) (hl : (p2.endLine == p5.line) = true) : eval (.Call (.Attribute (.Name b p1) "__init__" p2) [.Name "self" p3, .Constant (.str txt) j p4] [] p5) env = (do
      let ov ← eval (.Name b p1) env
      standAt p2.atName
      let (f, first) ← holding [ov] (getMethod ov "__init__" (plainOf (.Name b p1) env))
      callWith p5 f first (backTo p5 (starEach [.Name "self" p3, .Constant (.str txt) j p4] env)) (backToKw p5 (keywordEach [] env))) := by
  show (do let ov ← attributeBase (.Name b p1) "__init__" env (eval (.Name b p1) env); standAt p2.atName; methodCall (.Name b p1) "__init__" p2 p5 env ov 2 (backTo p5 (starEach [.Name "self" p3, .Constant (.str txt) j p4] env)) (backToKw p5 (keywordEach [] env))) = _
  have e : attributeBase (.Name b p1) "__init__" env (eval (.Name b p1) env) = eval (.Name b p1) env := rfl
  rw [e]
  congr 1
  funext ov
  congr 1
  funext _
  exact mcall_line rfl hl
/-- the first def of a class text -/
def clsDef (s : Stmt) : Stmt := match s with
  | .ClassDef _ _ _ (b :: _) _ _ _ _ _ _ _ => b
  | s => s
section
variable {P : Program} {w : World} {K : PySem.W.Frag} {mg : Str → Option Value} {base : Heap} {h : Heap}
theorem at_mk {x : Str} {st : Stmt} {f : Addr} {oc kV doc pm cd ct : Value} {od an : Option Addr} {sl : Array (Option Value)} (X : K.In h) (G : h.Ns mainGlobals mg) (a : PySem.W.nsIn K mainGlobals x = some (some (.ref f)))
    (l : K.lookup f = some ⟨oc, od, .func (PySem.W.fnOf x x (defArgs st) (defBody st) (defScope st) .none kV doc pm an cd ct), sl⟩) (c : PySem.W.codeIn K cd x = true) (k : PySem.W.keepIn K (.ref f) = true) : At K mg x st :=
  ⟨f, _, PySem.W.mg_of X G a, fun_mk l c k⟩
theorem atc_mk {x : Str} {st : Stmt} {f cd : Addr} {oc kV doc pm ct : Value} {od an : Option Addr} {sl : Array (Option Value)} (X : K.In h) (G : h.Ns mainGlobals mg) (a : PySem.W.nsIn K mainGlobals x = some (some (.ref f)))
    (l : K.lookup f = some ⟨oc, od, .func (PySem.W.fnOf x x (defArgs st) (defBody st) (defScope st) .none kV doc pm an (.ref cd) ct), sl⟩) (c : PySem.W.codeIn K (.ref cd) x = true) (k : PySem.W.keepIn K (.ref f) = true) : AtC K mg x st cd :=
  ⟨f, oc, kV, doc, pm, ct, od, an, sl, PySem.W.mg_of X G a, k, l, c⟩
theorem base_mk {b : Str} {CB : Addr} (X : K.In h) (G : h.Ns mainGlobals mg) (a : PySem.W.nsIn K mainGlobals b = some (some (.ref CB))) (r : PySem.W.readsIn K CB (.type "type") = true)
    (s : PySem.W.specialIn K (.ref CB) "__getattribute__" = some (some (.builtin "type.__getattribute__"))) (f : PySem.W.findCls K (.ref CB) (.type "type") "__init__" = some (.val (.builtin "ValueError.__init__"))) : Base0 K mg b :=
  ⟨CB, PySem.W.mg_of X G a, r, s, f⟩
theorem oex_mk {C : Addr} {nm q : Str} {N : Addr} {bs bm : List Value} {sn : List Str} {sub : List Value} {ab : Bool} {col : Option Bool} {dd : Option Addr} {m0 m1 m2 m3 m5 : Option Value}
    (xL : K.lookup C = some (excClassObj nm q C N bs bm true sn sub ab col dd m0 m1 m2 m3 m5 "ValueError.__new__")) (hbm : PySem.HandSPX.refsVE bm = true) (sa : PySem.W.findIn K (.ref C) "__setattr__" = some (some (.builtin "object.__setattr__")))
    (eC : PySem.W.subIn K (.ref C) (.type "BaseException") = some true) (tC : PySem.W.typeIn K (.ref C) = some (.type "type")) (kC : PySem.W.keepIn K (.ref C) = true) : OexC K C :=
  ⟨⟨nm, q, N, bs, bm, sn, sub, ab, col, dd, m0, m1, m2, m3, m5, xL, hbm⟩, sa, eC, tC, kC⟩
theorem err_mk {x b f q txt : Str} {st : Stmt} {C fI : Addr} {oc kV doc pm cdv ct : Value} {od an : Option Addr} {osl : Array (Option Value)} {p1 p2 p3 p4 p5 p6 p7 p8 p9 p10 : Pos} {j} (B : Base0 K mg b) (gC : mg x = some (.ref C)) (O : OexC K C) (XF : XfC K C)
    (no : PySem.W.findIn K (.ref C) f = some none) (i1 : PySem.W.findIn K (.ref C) "__init__" = some (some (.ref fI))) (tI : PySem.W.typeIn K (.ref fI) = some (.type "function"))
    (lk : K.lookup fI = some ⟨oc, od, .func (PySem.W.fnOf "__init__" q (defArgs st) (defBody st) (defScope st) .none kV doc pm an cdv ct), osl⟩) (hcd : PySem.W.codeIn K cdv q = true)
    (S : FnScope ["self", f] ["self", f] (defScope st))
    (hb : defBody st = [.Expr (.Call (.Attribute (.Name b p1) "__init__" p2) [.Name "self" p3, .Constant (.str txt) j p4] [] p5) p6, .Assign [.Attribute (.Name "self" p7) f p8] (.Name f p9) p10])
    (hs : (defScope st).names.lookup ("self" : Str) = some .local) (hf : (defScope st).names.lookup f = some .local) (hg : (defScope st).names.lookup b = some .globalImplicit) (hl : (p2.endLine == p5.line) = true)
    (hdb : (b == ("__debug__" : Str)) = false) (hdf : (f == ("__debug__" : Str)) = false) (hdf2 : (f == ("__classdict__" : Str)) = false)
    (hbind : ∀ (kV doc pm : Value) (an : Option Addr) (cdv ct : Value) (us : List Value), us.length = (["self", f] : List Str).length → bindArgs (PySem.W.fnOf "__init__" q (defArgs st) (defBody st) (defScope st) .none kV doc pm an cdv ct) ⟨us, []⟩ = pure ((["self", f] : List Str).zip us)) : ErrOk P w K mg base x f C :=
  ⟨gC, O, no, XF, fI, _, i1, tI, init1_ok B lk hcd S hb hs hf hg hdb hdf hdf2 (fun env _ => ⟨_, base_call env hl⟩) (fun _ _ => rfl) (fun _ _ => rfl), Binds.all fun us hl => hbind kV doc pm an cdv ct us hl⟩
theorem init_mk {C fI : Addr} {q : Str} {st : Stmt} {oc kV doc pm cdv ct : Value} {od an : Option Addr} {osl : Array (Option Value)} (i1 : PySem.W.findIn K (.ref C) "__init__" = some (some (.ref fI))) (i2 : PySem.W.typeIn K (.ref fI) = some (.type "function"))
    (i3 : K.lookup fI = some ⟨oc, od, .func (PySem.W.fnOf "__init__" q (defArgs st) (defBody st) (defScope st) .none kV doc pm an cdv ct), osl⟩) (i4 : PySem.W.codeIn K cdv q = true) :
    ∃ fI oc od kV doc pm an cdv ct osl, PySem.W.findIn K (.ref C) "__init__" = some (some (.ref fI)) ∧ PySem.W.typeIn K (.ref fI) = some (.type "function") ∧ K.lookup fI = some ⟨oc, od, .func (PySem.W.fnOf "__init__" q (defArgs st) (defBody st) (defScope st) .none kV doc pm an cdv ct), osl⟩ ∧ PySem.W.codeIn K cdv q = true :=
  ⟨fI, oc, od, kV, doc, pm, an, cdv, ct, osl, i1, i2, i3, i4⟩
theorem kit_ref {A C : Addr} (h1 : PySem.W.subIn K (.ref A) (.ref C) = some true) (h2 : PySem.W.hasDictIn K C = true) (h3 : PySem.W.typeIn K (.ref C) = some (.type "type")) : PySem.W.kitOne K (.ref A) (.ref C) = some true := by
  obtain ⟨cd, hc, _⟩ := PySem.W.any_some h2
  unfold PySem.W.kitOne PySem.W.kitCls
  split
  · rfl
  · simp [hc, h3, h1]
theorem kit_type {A : Addr} {T : String} (h1 : PySem.W.subIn K (.ref A) (.type T) = some true) (h2 : PySem.W.kitMeta T = true) : PySem.W.kitOne K (.ref A) (.type T) = some true := by
  unfold PySem.W.kitOne PySem.W.kitCls
  split
  · rfl
  · simp [h2, h1]
theorem excC_of {C : Addr} (F : XfC K C) (ha : PySem.W.findIn K (.ref C) "__class__" = some (some (.builtin "object.__class__"))) (hn : PySem.W.specialIn K (.builtin "object.__class__") "__get__" = some (some (.builtin "getset_descriptor.__get__")))
    (ht : PySem.W.takesIn K (.builtin "object.__class__") = some true) (hm : PySem.W.mroIn K C (.type "object") = some true) : ExcC K C := ⟨F.ga, F.gg, F.exC, F.hdC, ha, hn, ht, hm⟩
/-- a constant of the text -/
theorem const_mk {x : Str} {v : V} {u : Value} (X : K.In h) (G : h.Ns mainGlobals mg) (a : PySem.W.nsIn K mainGlobals x = some (some u)) (r : RelV v u) : ∃ u, mg x = some u ∧ RelV v u := ⟨u, PySem.W.mg_of X G a, r⟩
/-- no def hides the built-in names -/
structure BltN (mg : Str → Option Value) : Prop where
  len : mg "len" = none
  range : mg "range" = none
  min : mg "min" = none
  max : mg "max" = none
  abs : mg "abs" = none
  int : mg "int" = none
  str : mg "str" = none
  bool : mg "bool" = none
  list : mg "list" = none
  tuple : mg "tuple" = none
  dict : mg "dict" = none
  isinstance : mg "isinstance" = none
  all : mg "all" = none
  any : mg "any" = none
  sum : mg "sum" = none
  zip : mg "zip" = none
  repr : mg "repr" = none
  divmod : mg "divmod" = none
  sorted : mg "sorted" = none
  enumerate : mg "enumerate" = none
  reversed : mg "reversed" = none
  valueError : mg "ValueError" = none
theorem BltN.at (B : BltN mg) (S : SysAt base) : Blt mg base := ⟨S, B.len, B.range, B.min, B.max, B.abs, B.int, B.str, B.bool, B.list, B.tuple, B.dict, B.isinstance, B.all, B.any, B.sum, B.zip, B.repr, B.divmod, B.sorted, B.enumerate, B.reversed, B.valueError⟩
theorem bltn_mk (X : K.In h) (G : h.Ns mainGlobals mg) (a1 : PySem.W.nsIn K mainGlobals "len" = some none) (a2 : PySem.W.nsIn K mainGlobals "range" = some none) (a3 : PySem.W.nsIn K mainGlobals "min" = some none) (a4 : PySem.W.nsIn K mainGlobals "max" = some none)
    (a5 : PySem.W.nsIn K mainGlobals "abs" = some none) (a6 : PySem.W.nsIn K mainGlobals "int" = some none) (a7 : PySem.W.nsIn K mainGlobals "str" = some none) (a8 : PySem.W.nsIn K mainGlobals "bool" = some none) (a9 : PySem.W.nsIn K mainGlobals "list" = some none)
    (a10 : PySem.W.nsIn K mainGlobals "tuple" = some none) (a11 : PySem.W.nsIn K mainGlobals "dict" = some none) (a12 : PySem.W.nsIn K mainGlobals "isinstance" = some none) (a13 : PySem.W.nsIn K mainGlobals "all" = some none) (a14 : PySem.W.nsIn K mainGlobals "any" = some none)
    (a15 : PySem.W.nsIn K mainGlobals "sum" = some none) (a16 : PySem.W.nsIn K mainGlobals "zip" = some none) (a17 : PySem.W.nsIn K mainGlobals "repr" = some none) (a18 : PySem.W.nsIn K mainGlobals "divmod" = some none) (a19 : PySem.W.nsIn K mainGlobals "sorted" = some none)
    (a20 : PySem.W.nsIn K mainGlobals "enumerate" = some none) (a21 : PySem.W.nsIn K mainGlobals "reversed" = some none) (a22 : PySem.W.nsIn K mainGlobals "ValueError" = some none) : BltN mg :=
  ⟨PySem.W.ns_none_of X G a1, PySem.W.ns_none_of X G a2, PySem.W.ns_none_of X G a3, PySem.W.ns_none_of X G a4, PySem.W.ns_none_of X G a5, PySem.W.ns_none_of X G a6, PySem.W.ns_none_of X G a7, PySem.W.ns_none_of X G a8, PySem.W.ns_none_of X G a9, PySem.W.ns_none_of X G a10,
   PySem.W.ns_none_of X G a11, PySem.W.ns_none_of X G a12, PySem.W.ns_none_of X G a13, PySem.W.ns_none_of X G a14, PySem.W.ns_none_of X G a15, PySem.W.ns_none_of X G a16, PySem.W.ns_none_of X G a17, PySem.W.ns_none_of X G a18, PySem.W.ns_none_of X G a19, PySem.W.ns_none_of X G a20,
   PySem.W.ns_none_of X G a21, PySem.W.ns_none_of X G a22⟩
end
end Z

set_option Elab.async false
set_option linter.all false
set_option maxRecDepth 100000
set_option maxHeartbeats 4000000
/-! objects of own classes, dicts, more of lists -/
namespace Z
open PySem PySem.Spec PyProof.Rows L2
theorem wK_mono {X : Cx} {kws : List Keyword} {σ : L2.St} {H : Hp} {Q Q' : List V → Hp → Prop} (h : wK X kws σ H Q) (k : ∀ v H', Q v H' → Q' v H') : wK X kws σ H Q' := ⟨fun pos pins s I => thn (h.run pos pins s I) fun _ _ ⟨v, H', I', r, q⟩ => ⟨v, H', I', r, k v H' q⟩⟩
section
variable {X : Cx} {k : Nat} {W : WX} {σ : L2.St} {H : Hp} {e a b c o i : Expr} {es : List Expr} {p p2 pos apos : Pos} {Q : VK} {x f m : Str}
theorem e_chain {op op' : CmpOp} (h : wE X a σ H fun x H1 => wE X b σ H1 fun y H2 => oW X (compareOp op) x y H2 fun z H3 => ∃ k, z = .bl k ∧ (if k = true then wE X c σ H3 fun w' H4 => oW X (compareOp op') y w' H4 Q else Q (.bl false) H3))
    (hm : lastMarks [op, op'] [b, c] = false := by with_unfolding_all rfl) : wE X (.Compare a [op, op'] [b, c] pos) σ H Q := eE (pe_chain oR oR pE pE pE hm) h
/-! ### list(x), tuple(x), + and * of lists -/
theorem e_listOf (B : Blt X.mg X.base) (h : wE X a σ H fun x H1 => ∃ q ys, x = .ref q ∧ (SqL X.K H1 q ys ∨ SqT X.K H1 q ys) ∧ ∀ l, H1 l = none → Q (.ref l) (upd H1 l (.lst ys))) (hg : Gl X "list" := by rfl) (hs : starEach [a] X.env = [(false, eval a X.env)] := by rfl) :
    wE X (.Call (.Name "list" p) [a] [] pos) σ H Q := e_Ty (T := "list") (a_cons (wE_mono h fun x H1 ⟨q, ys, e1, h1, h2⟩ => a_nil (cW_of call_list_of ⟨q, ys, by rw [e1], h1, h2⟩)) hs) B.list PyProof.Rows.boot_list hg (by decide) (by decide) hs rfl
theorem e_tupleOf (B : Blt X.mg X.base) (h : wE X a σ H fun x H1 => ∃ q ys, x = .ref q ∧ ((SqL X.K H1 q ys ∧ ∀ l, H1 l = none → Q (.ref l) (upd H1 l (.tup ys))) ∨ (SqT X.K H1 q ys ∧ Q (.ref q) H1))) (hg : Gl X "tuple" := by rfl) (hs : starEach [a] X.env = [(false, eval a X.env)] := by rfl) :
    wE X (.Call (.Name "tuple" p) [a] [] pos) σ H Q := e_Ty (T := "tuple") (a_cons (wE_mono h fun x H1 ⟨q, ys, e1, h1⟩ => a_nil (cW_of call_tuple_of ⟨q, ys, by rw [e1], h1⟩)) hs) B.tuple PyProof.Rows.boot_tuple hg (by decide) (by decide) hs rfl
theorem o_cat {q r : Addr} {xs ys : List V} (h1 : H q = some (.lst xs)) (h2 : H r = some (.lst ys)) (hn : xs.length + ys.length ≤ sizeLine) (h : ∀ p, H p = none → Q (.ref p) (upd H p (.lst (xs ++ ys)))) : oW X (binaryOp .Add) (.ref q) (.ref r) H Q :=
  oW_of op_cat ⟨q, r, xs, ys, rfl, rfl, h1, h2, hn, h⟩
/-! ### fields, properties, methods -/
theorem e_fld {r C dx : Addr} {fs : List (Str × V)} {v : V} (h : wE X e σ H fun x H1 => x = .ref r ∧ H1 r = some (.ins C dx fs) ∧ Q v H1) (c : Cls X.K C) (n : NoAttr X.K C f) (l : fs.lookup f = some v) (hb : attributeBase e f X.env (eval e X.env) = eval e X.env := by rfl) :
    wE X (.Attribute e f pos) σ H Q := eE (pe_fld pE hb) (wE_mono h fun x H1 ⟨e1, h1, q⟩ => ⟨r, C, dx, fs, v, e1, h1, c, n, l, q⟩)
theorem s_fld {D : Ends} {r C : Addr} (h : wE X e σ H fun y H1 => wE X o σ H1 fun x H2 => ∃ dx fs, x = .ref r ∧ H2 r = some (.ins C dx fs) ∧ fs.length < 1000 ∧ D.nx σ (upd H2 r (.ins C dx (putF f y fs)))) (c : Cls X.K C) (n : NoAttr X.K C f)
    (hs : swapsWith e (some (.Attribute o f p)) pos.line X.env = pure false := by rfl) : wS X (.Assign [.Attribute o f p] e pos) D σ H :=
  eS (ps_fld pE pE hs) (wE_mono h fun y H1 h1 => wE_mono h1 fun x H2 ⟨dx, fs, e1, h2, h3, q⟩ => ⟨r, C, dx, fs, e1, h2, c, n, h3, q⟩)
/-- a def of the class at C under the name m, its promise -/
structure MethOk (P : Program) (w : World) (K : PySem.W.Frag) (mg : Str → Option Value) (base : Heap) (k : Nat) (C : Addr) (m : Str) (ps : List Str) (sp : Sp) : Prop where
  ex : ∃ f fd, Meth K C m f ∧ FnOk P w K mg base (L2.CX P w) k f fd ps sp ∧ Binds K fd ps []
structure PropOk (P : Program) (w : World) (K : PySem.W.Frag) (mg : Str → Option Value) (base : Heap) (k : Nat) (C : Addr) (m : Str) (sp : Sp) : Prop where
  ex : ∃ pr f fd, PropOf K C m pr f ∧ FnOk P w K mg base (L2.CX P w) k f fd ["self"] sp ∧ Binds K fd ["self"] []
theorem passes0 {X : Cx} {W : WX} (tk : Takes X W) : Passes (L2.CX X.prog X.w) X (fun _ _ _ => False) := fun pins σ H s e s' I c => passes_call tk (fun cls d σ' H' z => z.elim) pins σ H s e s' I c
theorem passesE {X : Cx} {W : WX} {E : XK} (tk : Takes X W) (h : ∀ cls d σ H, E cls d H → W cls d σ H) : Passes (L2.CX X.prog X.w) X E := fun pins σ H s e s' I c => passes_call tk h pins σ H s e s' I c
/-- e.m, a property that raises nothing -/
theorem e_prop {sp : Sp} {r C dx : Addr} {fs : List (Str × V)} {j : Nat} (Cc : Cxt X (j + 1) W) (c : Cls X.K C) (M : PropOk X.prog X.w X.K X.mg X.base j C m sp) (h : wE X e σ H fun x H1 => x = .ref r ∧ H1 r = some (.ins C dx fs) ∧ sp [.ref r] H1 Q fun _ _ _ => False)
    (hab : attributeBase e m X.env (eval e X.env) = eval e X.env := by rfl) : wE X (.Attribute e m pos) σ H Q := by
  obtain ⟨pr, g, fd, hp, F, hb⟩ := M.ex
  exact eE (pe_prop pE c hp F Cc.room hb .nil (passes0 (X := X.nox) takesW0) hab) (wE_mono h fun x H1 ⟨e1, h1, q⟩ => ⟨r, dx, fs, e1, h1, q⟩)
theorem meth_eval {o : Expr} {m : Str} {apos pos : Pos} {es : List Expr} {env : Env} (hb : attributeBase o m env (eval o env) = eval o env) (hf : methodCallForm (es.length + 0) (backTo pos (starEach es env)) (backToKw pos (keywordEach [] env)) = true) (hl : (apos.endLine == pos.line) = true) :
    eval (.Call (.Attribute o m apos) es [] pos) env = (do
      let ov ← eval o env
      standAt apos.atName
      let (f, first) ← holding [ov] (getMethod ov m (plainOf o env))
      callWith pos f first (backTo pos (starEach es env)) (backToKw pos (keywordEach [] env))) := by
  show (do let ov ← attributeBase o m env (eval o env); standAt apos.atName; methodCall o m apos pos env ov (es.length + 0) (backTo pos (starEach es env)) (backToKw pos (keywordEach [] env))) = _
  rw [hb]
  congr 1
  funext ov
  congr 1
  funext _
  exact mcall_line hf hl
/-- o.m(), a method that raises nothing -/
theorem e_meth0 {sp : Sp} {r C dx : Addr} {fs : List (Str × V)} {j : Nat} {ps : List Str} (Cc : Cxt X j W) (c : Cls X.K C) (M : MethOk X.prog X.w X.K X.mg X.base j C m ps sp) (h : wE X o σ H fun x H1 => x = .ref r ∧ H1 r = some (.ins C dx fs) ∧ fs.lookup m = none ∧ sp [.ref r] H1 Q fun _ _ _ => False)
    (hb : attributeBase o m X.env (eval o X.env) = eval o X.env := by rfl) (hf : methodCallForm (([] : List Expr).length + 0) (backTo pos (starEach [] X.env)) (backToKw pos (keywordEach [] X.env)) = true := by rfl) (hl : (apos.endLine == pos.line) = true := by rfl) :
    wE X (.Call (.Attribute o m apos) [] [] pos) σ H Q := by
  obtain ⟨g, fd, hm, F, hbd⟩ := M.ex
  exact eE (pe_meth0 (pl := plainOf o X.env) pE c hm F Cc.room hbd .nil (passes0 Cc.tk) (meth_eval hb hf hl)) (wE_mono h fun x H1 ⟨e1, h1, n, q⟩ => by subst e1; exact ⟨r, dx, fs, rfl, h1, n, q⟩)
/-- o.m(e, ..) -/
theorem e_meth {sp : Sp} {r C dx : Addr} {fs : List (Str × V)} {j : Nat} {ps : List Str} (Cc : Cxt X j W) (c : Cls X.K C) (M : MethOk X.prog X.w X.K X.mg X.base j C m ps sp) (h : wE X o σ H fun x H1 => x = .ref r ∧ H1 r = some (.ins C dx fs) ∧ fs.lookup m = none ∧ wA X (e :: es) σ H1 fun vs H2 => sp (.ref r :: vs) H2 Q fun _ _ _ => False)
    (hb : attributeBase o m X.env (eval o X.env) = eval o X.env := by rfl) (hf : methodCallForm ((e :: es).length + 0) (backTo pos (starEach (e :: es) X.env)) (backToKw pos (keywordEach [] X.env)) = true := by rfl) (hl : (apos.endLine == pos.line) = true := by rfl)
    (hst : starEach (e :: es) X.env = (false, eval e X.env) :: starEach es X.env := by rfl) (hpl : (backTo pos (starEach es X.env)).any (·.1) = false := by rfl) :
    wE X (.Call (.Attribute o m apos) (e :: es) [] pos) σ H Q := by
  obtain ⟨g, fd, hm, F, hbd⟩ := M.ex
  exact eE (pe_meth (pl := plainOf o X.env) pE c hm F Cc.room hbd .nil (passes0 Cc.tk) pA hst hpl (meth_eval hb hf hl)) (wE_mono h fun x H1 ⟨e1, h1, n, q⟩ => by subst e1; exact ⟨r, dx, fs, rfl, h1, n, wA_mono q fun vs H2 q => by rw [List.append_nil]; exact q⟩)
/-! ### making an object -/
/-- the class at C under its name x, its __init__'s promise; ds what the defaults tell -/
structure MakeOk (P : Program) (w : World) (K : PySem.W.Frag) (mg : Str → Option Value) (base : Heap) (k : Nat) (x : Str) (C : Addr) (ps : List Str) (sp : Sp) (B : FuncData → Prop) : Prop where
  ex : ∃ f fd, mg x = some (.ref C) ∧ Mk K C f ∧ FnOk P w K mg base (L2.CX P w) k f fd ps sp ∧ B fd
theorem e_make {sp : Sp} {C : Addr} {j : Nat} {ps : List Str} {ds : List Value} {dvs : List V} {E : XK} (Cc : Cxt X (j + 1) W) (M : MakeOk X.prog X.w X.K X.mg X.base j x C ps sp fun fd => Binds X.K fd ps ds) (hd : Vals dvs ds) (hW : ∀ cls d σ H, E cls d H → W cls d σ H)
    (h : wA X (e :: es) σ H fun vs H1 => ∀ r dx, H1 r = none → H1 dx = none → dx ≠ r → sp (.ref r :: (vs ++ dvs)) (upd (upd H1 dx (.own r)) r (.ins C dx [])) (fun v H2 => v = .non ∧ Q (.ref r) H2) E) (hg : Gl X x := by rfl)
    (hdb : (x == ("__debug__" : Str)) = false := by decide) (he : starEach (e :: es) X.env = (false, eval e X.env) :: starEach es X.env := by rfl) (hpl : (backTo pos (starEach es X.env)).any (·.1) = false := by rfl) :
    wE X (.Call (.Name x p) (e :: es) [] pos) σ H Q := by
  obtain ⟨g, fd, hm, mk, F, hb⟩ := M.ex
  exact eE (pe_make mk F Cc.room hg hm hb hd (passesE Cc.tk hW) pA hdb he hpl) h
theorem e_makeK {sp : Sp} {C : Addr} {j n : Nat} {ps ks : List Str} {gf : List Value → List Value → List Value} {gV : List V → List V → List V} {kws : List Keyword} {E : XK} (Cc : Cxt X (j + 1) W) (M : MakeOk X.prog X.w X.K X.mg X.base j x C ps sp fun fd => KBn X.K fd ps (n + 1) ks gf gV) (hW : ∀ cls d σ H, E cls d H → W cls d σ H)
    (h : wA X (e :: es) σ H fun vs H1 => wK X kws σ H1 fun zs H2 => vs.length = n ∧ zs.length = ks.length ∧ ∀ r dx, H2 r = none → H2 dx = none → dx ≠ r → sp (gV (.ref r :: vs) zs) (upd (upd H2 dx (.own r)) r (.ins C dx [])) (fun v H3 => v = .non ∧ Q (.ref r) H3) E) (hg : Gl X x := by rfl)
    (hall : (backToKw pos (keywordEach kws X.env)).all (·.1.isSome) = true := by rfl) (hks : (backToKw pos (keywordEach kws X.env)).filterMap (·.1) = ks := by rfl) (hdb : (x == ("__debug__" : Str)) = false := by decide)
    (he : starEach (e :: es) X.env = (false, eval e X.env) :: starEach es X.env := by rfl) (hpl : ((backTo pos (starEach (e :: es) X.env)).any (·.1) || (backToKw pos (keywordEach kws X.env)).any (·.1.isNone)) = false := by rfl) :
    wE X (.Call (.Name x p) (e :: es) kws pos) σ H Q := by
  obtain ⟨g, fd, hm, mk, F, hb⟩ := M.ex
  exact eE (pe_makeK mk F Cc.room hg hm hb (passesE Cc.tk hW) pA pK hall hks hdb he hpl) h
theorem e_makeK0 {sp : Sp} {C : Addr} {j : Nat} {ps ks : List Str} {gf : List Value → List Value → List Value} {gV : List V → List V → List V} {kws : List Keyword} {E : XK} (Cc : Cxt X (j + 1) W) (M : MakeOk X.prog X.w X.K X.mg X.base j x C ps sp fun fd => KBn X.K fd ps 1 ks gf gV) (hW : ∀ cls d σ H, E cls d H → W cls d σ H)
    (h : wK X kws σ H fun zs H2 => zs.length = ks.length ∧ ∀ r dx, H2 r = none → H2 dx = none → dx ≠ r → sp (gV [.ref r] zs) (upd (upd H2 dx (.own r)) r (.ins C dx [])) (fun v H3 => v = .non ∧ Q (.ref r) H3) E) (hg : Gl X x := by rfl)
    (hall : (backToKw pos (keywordEach kws X.env)).all (·.1.isSome) = true := by rfl) (hks : (backToKw pos (keywordEach kws X.env)).filterMap (·.1) = ks := by rfl) (hdb : (x == ("__debug__" : Str)) = false := by decide)
    (hpl : ((backTo pos (starEach [] X.env)).any (·.1) || (backToKw pos (keywordEach kws X.env)).any (·.1.isNone)) = false := by rfl) :
    wE X (.Call (.Name x p) [] kws pos) σ H Q := by
  obtain ⟨g, fd, hm, mk, F, hb⟩ := M.ex
  exact eE (pe_makeK0 mk F Cc.room hg hm hb (passesE Cc.tk hW) pK hall hks hdb hpl) (eK pK ⟨(wK_mono h fun zs H2 ⟨h1, h2⟩ => ⟨rfl, h1, h2⟩).run⟩)
/-! ### dicts -/
theorem e_dget {r : Addr} {v : V} (C : Cxt X k W) (h : wE X o σ H fun x H1 => wE X i σ H1 fun y H2 => x = .ref r ∧ DGet H2 r y (some v) ∧ Q v H2) (hs : NoSl i := by exact fun _ _ => rfl) : wE X (.Subscript o i pos) σ H Q :=
  eE (pe_dget (by have := C.un; omega) pE pE hs) (wE_mono h fun x H1 q => wE_mono q fun y H2 ⟨e1, h1, q⟩ => ⟨r, v, e1, h1, q⟩)
theorem set_d {r : Addr} {y v : V} {H' : Hp} {R : Hp → Prop} (C : Cxt X k W) (h : DPut H r y v H') (q : R H') : sW X (.ref r) y v H R := sW_of (set_dict (by have := C.un; omega)) ⟨r, H', rfl, h, q⟩
end
end Z

set_option Elab.async false
set_option linter.all false
set_option maxRecDepth 100000
set_option maxHeartbeats 4000000
/-! own errors of two fields -/
namespace Z
open PySem PySem.Spec PyProof.Rows L2
def spInit2 (K : PySem.W.Frag) (f g : Str) : Sp := fun vs H Q _ => ∃ (a C : Addr) (v w : V), vs = [.ref a, v, w] ∧ OexC K C ∧ PySem.W.findIn K (.ref C) f = some none ∧ PySem.W.findIn K (.ref C) g = some none ∧ H a = some (exo a C none) ∧
  ∀ dx, H dx = none → dx ≠ a → Q .non (upd (upd (upd H dx (exd dx [(f, v)])) a (exo a C (some dx))) dx (exd dx [(g, w), (f, v)]))
section
variable {P : Program} {w : World} {K : PySem.W.Frag} {mg : Str → Option Value} {base : Heap}
theorem init2_ok {x b f g txt : Str} {st : Stmt} {fI : Addr} {oc kV doc pm cdv ct : Value} {od an : Option Addr} {osl : Array (Option Value)} {p1 p2 p3 p4 p5 p6 p7 p8 p9 p10 q7 q8 q9 q10 : Pos} {j} (B : Base0 K mg b)
    (lk : K.lookup fI = some ⟨oc, od, .func (PySem.W.fnOf "__init__" x (defArgs st) (defBody st) (defScope st) .none kV doc pm an cdv ct), osl⟩) (hcd : PySem.W.codeIn K cdv x = true)
    (S : FnScope ["self", f, g] ["self", f, g] (defScope st))
    (hb : defBody st = [.Expr (.Call (.Attribute (.Name b p1) "__init__" p2) [.Name "self" p3, .Constant (.str txt) j p4] [] p5) p6, .Assign [.Attribute (.Name "self" p7) f p8] (.Name f p9) p10, .Assign [.Attribute (.Name "self" q7) g q8] (.Name g q9) q10])
    (hs : (defScope st).names.lookup ("self" : Str) = some .local) (hf : (defScope st).names.lookup f = some .local) (hgl : (defScope st).names.lookup g = some .local) (hg : (defScope st).names.lookup b = some .globalImplicit) (hdb : (b == ("__debug__" : Str)) = false) (hl : (p2.endLine == p5.line) = true)
    (hdf : (f == ("__debug__" : Str)) = false) (hdf2 : (f == ("__classdict__" : Str)) = false) (hdg : (g == ("__debug__" : Str)) = false) (hdg2 : (g == ("__classdict__" : Str)) = false) :
    FnOk P w K mg base (L2.CX P w) 1 fI (PySem.W.fnOf "__init__" x (defArgs st) (defBody st) (defScope st) .none kV doc pm an cdv ct) ["self", f, g] (spInit2 K f g) := by
  refine fn_of lk hcd S (fun vs H Q E h => ?_) fun A outer s H vs Q E hr h => ⟨wB _ (defBody st), pB, ?_⟩
  · obtain ⟨a, C, v, w, rfl, _⟩ := h
    rfl
  · obtain ⟨a, C, v, w, rfl, T, hno, hno2, ha, q⟩ := h
    rw [hb]
    refine b_cons (s_expr (e_baseInit B ?_ hg hdb (base_call (envOfC x (defScope st) s.heap.objs.size fI cdv) hl)) rfl)
    refine a_cons (e_name 0 (a_cons (e_str (a_nil ⟨a, C, _, rfl, by simp, T, ha, ?_⟩))) rfl rfl (.inl hs))
    refine b_cons (eS (ps_ost (pE (e := .Name "self" p7)) pE rfl) ?_)
    refine e_name 1 ?_ rfl rfl (.inl hf) hdf hdf2
    refine e_name 0 ?_ rfl rfl (.inl hs)
    refine ⟨a, C, rfl, T, hno, .inl ⟨ha, fun dx n ne => b_cons (eS (ps_ost (pE (e := .Name "self" q7)) pE rfl) ?_)⟩⟩
    refine e_name 2 ?_ rfl rfl (.inl hgl) hdg hdg2
    refine e_name 0 ?_ rfl rfl (.inl hs)
    exact ⟨a, C, rfl, T, hno2, .inr ⟨dx, [(f, v)], upd_same, by rw [upd_ne ne, upd_same], by simp, b_nil (q dx n ne)⟩⟩
end
/-- an error class of two fields, its __init__ proved -/
structure ErrOk2 (P : Program) (w : World) (K : PySem.W.Frag) (mg : Str → Option Value) (base : Heap) (x f g : Str) (C : Addr) : Prop where
  gC : mg x = some (.ref C)
  oex : OexC K C
  no : PySem.W.findIn K (.ref C) f = some none
  no2 : PySem.W.findIn K (.ref C) g = some none
  xf : XfC K C
  ex : ∃ fI fd, PySem.W.findIn K (.ref C) "__init__" = some (some (.ref fI)) ∧ PySem.W.typeIn K (.ref fI) = some (.type "function") ∧ FnOk P w K mg base (L2.CX P w) 1 fI fd ["self", f, g] (spInit2 K f g) ∧ Binds K fd ["self", f, g] []
section
variable {X : Cx} {k : Nat} {W : WX} {σ : L2.St} {H : Hp} {x f g : Str} {e e2 : Expr} {C : Addr} {p1 p2 pos : Pos} {D : Ends}
/-- raise X(v, w) -/
theorem s_raise2 (Cc : Cxt X k W) (E : ErrOk2 X.prog X.w X.K X.mg X.base x f g C) (hr : 2 ≤ k)
    (h : wE X e σ H fun v H1 => wE X e2 σ H1 fun w H2 => ∀ d H', But [] H2 H' → H2 d = none → H' d = some (.xd [(g, w), (f, v)]) → W (.ref C) (some d) σ H')
    (hg : Gl X x := by rfl) (hdb : (x == ("__debug__" : Str)) = false := by decide) (he : starEach [e, e2] X.env = (false, eval e X.env) :: starEach [e2] X.env := by rfl) (he2 : starEach [e2] X.env = [(false, eval e2 X.env)] := by rfl) : wS X (.Raise (some (.Call (.Name x p1) [e, e2] [] p2)) none pos) D σ H := by
  obtain ⟨fI, fd, iC, tI, F, hb⟩ := E.ex
  have hx : Passes (L2.CX X.prog X.w) X (fun _ _ _ => False) := passes0 Cc.tk
  refine eS (ps_raise Cc.calm Cc.tk (pmk_oex E.oex iC tI F (Cc.room.mono hr) hb .nil hx hg E.gC pA hdb he (by rw [he2]; rfl))) ?_
  refine a_cons (wE_mono h fun v H1 q1 => a_cons (wE_mono q1 fun w H2 q => a_nil ⟨by simp, fun a ha => ?_⟩) he2) he
  refine ⟨a, C, v, w, rfl, E.oex, E.no, E.no2, upd_same, fun dx hd ne => ⟨rfl, dx, [(g, w), (f, v)], by rw [upd_ne ne.symm, upd_same], upd_same, ?_, ?_⟩⟩
  · rw [upd_ne ne] at hd
    exact hd
  · have hd' : H2 dx = none := by rw [upd_ne ne] at hd; exact hd
    refine q dx _ (fun b o _ hbo => ?_) hd' upd_same
    have nb : b ≠ a := ne_of_none hbo ha
    have nb2 : b ≠ dx := ne_of_none hbo hd'
    rw [upd_ne nb2, del_ne nb, upd_ne nb2, upd_ne nb, upd_ne nb2, upd_ne nb]
    exact hbo
end
section
variable {X : Cx} {σ : L2.St} {H : Hp} {a CE dd : Addr} {oe : Obj} {pn : List (Addr × Obj)} {e : Expr} {pos p : Pos} {f : Str} {Q : VK}
/-- e.f, any fields -/
theorem e_xfs {v : V} {fs : List (Str × V)} (T : XfC X.K CE) (hno : PySem.W.findIn X.K (.ref CE) f = some none) (hz : Zc (.ref CE) (some dd) oe) (hf : ∃ vs, oe.data = .fields vs) (hl : fs.lookup f = some v)
    (h : wE (X.suite a ((a, oe) :: pn)) e σ H fun x H1 => x = .ref a ∧ H1 dd = some (.xd fs) ∧ Q v H1) (hb : attributeBase e f X.env (eval e X.env) = eval e X.env := by rfl) :
    wE (X.suite a ((a, oe) :: pn)) (.Attribute e f pos) σ H Q :=
  eE (pe_xf T hno hz hf pE hb) (wE_mono h fun x H1 ⟨e1, e2, q⟩ => ⟨e1, rfl, dd, fs, v, rfl, e2, hl, q⟩)
end
end Z

set_option Elab.async false
set_option linter.all false
set_option maxRecDepth 100000
set_option maxHeartbeats 4000000
/-! dicts walked, dicts written out -/
namespace Z
open PySem PySem.Spec PyProof.Rows L2
/-- the i-th statement of a class text -/
def clsAt (s : Stmt) (i : Nat) : Stmt := match s with
  | .ClassDef _ _ _ b _ _ _ _ _ _ _ => b.getD i s
  | s => s
section
variable {X : Cx} {k : Nat} {W : WX} {σ : L2.St} {H : Hp} {e : Expr} {st : Stmt} {p pos apos tpos : Pos} {elts : List Expr} {kk : Nat}
theorem i_items {R : It → Hp → Prop} (h : wE X e σ H fun x H1 => ∃ d o kvs, x = .ref d ∧ H1 d = some (.frz o (.dK kvs)) ∧ R (Iti d o kvs) H1)
    (hb : attributeBase e "items" X.env (eval e X.env) = eval e X.env := by rfl) (hl : (apos.endLine == pos.line) = true := by rfl) : wI X (.Tuple elts kk tpos) (.Call (.Attribute e "items" apos) [] [] pos) σ H R := eI (pi_items pE hb hl) h
/-- a statement while the object at d is told not to change -/
theorem s_lock {D : Ends} {d : Addr} {u : HO} (hd : H d = some u) (mu : Mut (some u)) (h : ∀ od, wS X st ⟨fun σ' H' => H' d = some (.frz od u) ∧ D.nx σ' (upd H' d u), fun v H' => H' d = some (.frz od u) ∧ D.rt v (upd H' d u), fun σ' H' => H' d = some (.frz od u) ∧ D.bk σ' (upd H' d u), fun σ' H' => H' d = some (.frz od u) ∧ D.ct σ' (upd H' d u)⟩ σ (upd H d (.frz od u))) :
    wS X st D σ H := eS (ps_lock pS) ⟨d, u, hd, mu, h⟩
end
theorem but_unlock {l : List Addr} {H H' : Hp} {d : Addr} {u v : HO} (hd : H d = some u) (b : But l (upd H d v) H') : But l H (upd H' d u) := fun q o n e => by
  by_cases hq : q = d
  · rw [hq, upd_same]
    rw [hq, hd] at e
    exact e
  · rw [upd_ne hq]
    exact b q o n (by rw [upd_ne hq]; exact e)
end Z

set_option Elab.async false
set_option linter.all false
set_option maxRecDepth 100000
set_option maxHeartbeats 4000000
/-! a list or a tuple, walked -/
namespace Z
open PySem PySem.Spec PyProof.Rows L2
def items : PyData → List PyData
  | .list ds => ds
  | .tuple ds => ds
  | _ => []
def seqB (d : PyData) : Bool := isList d || isTuple d
section
variable {X : Cx} {σ : L2.St} {H : Hp} {e tg : Expr}
theorem i_dd {R : It → Hp → Prop} {x : V} {l : List Addr} {d : PyData} (hd : DD X.K l H x d) (hs : seqB d = true) (he : ∀ Q : VK, Q x H → wE X e σ H Q)
    (h : ∀ J G vs, Walk J vs.length G (YAt vs) → (∀ H', But l H H' → G H') → DDs X.K l H vs (items d) → R J H) : wI X tg e σ H R := by
  cases hd with
  | @lst a xs ds h1 n h2 => exact i_list (he _ ⟨a, rfl, ⟨xs, h1⟩, h _ _ xs walk_list (fun H' b => b.sql n h1) h2⟩)
  | @tup a xs ds h1 n h2 => exact i_tup (he _ ⟨a, rfl, ⟨xs, h1⟩, h _ _ xs walk_tup (fun H' b => b.sqt n h1) h2⟩)
  | _ => simp [seqB, isList, isTuple] at hs
/-- .. data that is wholly tracked -/
theorem i_dd0 {R : It → Hp → Prop} {x : V} {l : List Addr} {d : PyData} (hd : DD [] l H x d) (hs : seqB d = true) (he : ∀ Q : VK, Q x H → wE X e σ H Q)
    (h : ∀ J G vs, Walk J vs.length G (YAt vs) → (∀ H', But l H H' → G H') → DDs [] l H vs (items d) → R J H) : wI X tg e σ H R := by
  cases hd with
  | @lst a xs ds h1 n h2 => exact i_list (he _ ⟨a, rfl, ⟨xs, sql_all h1⟩, h _ _ xs walk_list (fun H' b => sql_all (b.sql n h1)) h2⟩)
  | @tup a xs ds h1 n h2 => exact i_tup (he _ ⟨a, rfl, ⟨xs, sqt_all h1⟩, h _ _ xs walk_tup (fun H' b => sqt_all (b.sqt n h1)) h2⟩)
  | _ => simp [seqB, isList, isTuple] at hs
end
end Z

set_option Elab.async false
set_option linter.all false
set_option maxRecDepth 100000
set_option maxHeartbeats 4000000
/-! tuples and lists are never one; extend, reverse, clear -/
namespace Z
open PySem PySem.Spec PyProof.Rows L2
/-- no tuple is a list -/
def Apart (K : PySem.W.Frag) (H : Hp) : Prop := ∀ a xs q ys, SqT K H a xs → H q = some (.lst ys) → a ≠ q
theorem apart_inv {X : Cx} {pins : List (Addr × Obj)} {σ : L2.St} {H : Hp} {s : Shared} (I : Inv X pins σ H s) : Apart X.K H := fun a xs q ys h1 h2 z => by
  subst z
  obtain ⟨its, r, ⟨o, e, c, _⟩, _⟩ := I.tuple h1
  obtain ⟨its', r', ⟨o', n', e', c', _⟩, _⟩ := I.list (.inl (.inl h2))
  rw [e] at e'
  cases e'
  rw [c] at c'
  exact absurd (Value.type.inj c') (by decide)
section
variable {X : Cx} {k : Nat} {W : WX} {σ : L2.St} {H : Hp} {e a o : Expr} {es : List Expr} {sts : List Stmt} {pos apos : Pos} {Q : VK}
theorem b_apart {D : Ends} (h : Apart X.K H → wB X sts D σ H) : wB X sts D σ H := ⟨fun pins s I => (h (apart_inv I)).run pins s I⟩
theorem e_gives (h : wE X e σ H fun v H1 => Apart X.K H1 → Q v H1) : wE X e σ H Q := ⟨fun pins s I => thn (h.run pins s I) fun _ _ ⟨v, H', I', r, q⟩ => ⟨v, H', I', r, q (apart_inv I')⟩⟩
theorem e_apart (h : Apart X.K H → wE X e σ H Q) : wE X e σ H Q := ⟨fun pins s I => (h (apart_inv I)).run pins s I⟩
end
mutual
def tupOnly : PyData → Bool
  | .tuple xs => tupOnlyAll xs
  | .list _ => false
  | .dict _ => false
  | _ => true
def tupOnlyAll : List PyData → Bool
  | [] => true
  | x :: xs => tupOnly x && tupOnlyAll xs
end
section
variable {K : PySem.W.Frag} {l : List Addr} {H : Hp}
mutual
theorem DD.avoid {q : Addr} {ys : List V} (A : Apart K H) (hq : H q = some (.lst ys)) : ∀ {v : V} {d : PyData}, DD K l H v d → tupOnly d = true → DD K (q :: l) H v d
  | _, _, .non, _ => .non
  | _, _, .bl x, _ => .bl x
  | _, _, .int x, _ => .int x
  | _, _, .str x, _ => .str x
  | _, _, .lst h n r, e => by simp [tupOnly] at e
  | _, _, .tup h n r, e => .tup h (fun z => by
      rcases List.mem_cons.mp z with z | z
      · exact A _ _ _ _ h hq z
      · exact n z) (DDs.avoid A hq r (by simpa [tupOnly] using e))
  | _, _, .dct h n r, e => by simp [tupOnly] at e
theorem DDs.avoid {q : Addr} {ys : List V} (A : Apart K H) (hq : H q = some (.lst ys)) : ∀ {vs : List V} {ds : List PyData}, DDs K l H vs ds → tupOnlyAll ds = true → DDs K (q :: l) H vs ds
  | _, _, .nil, _ => .nil
  | _, _, .cons h r, e => by
    simp only [tupOnlyAll, Bool.and_eq_true] at e
    exact .cons (DD.avoid A hq h e.1) (DDs.avoid A hq r e.2)
end
theorem tupOnlyAll_of {ds : List PyData} (h : ∀ d ∈ ds, tupOnly d = true) : tupOnlyAll ds = true := by
  induction ds with
  | nil => rfl
  | cons d ds ih => simp only [tupOnlyAll, h d (by simp), ih fun x hx => h x (by simp [hx]), Bool.and_self]
end
section
variable {X : Cx} {k : Nat} {W : WX} {σ : L2.St} {H : Hp} {e a o : Expr} {es : List Expr} {pos apos : Pos} {Q : VK}
/-- xs.extend(ys) -/
theorem e_extend (h : wE X o σ H fun x H1 => ∃ q, x = .ref q ∧ (∃ ys, H1 q = some (.lst ys)) ∧ wE X a σ H1 fun y H2 => ∃ r xs zs, y = .ref r ∧ H2 q = some (.lst xs) ∧ H2 r = some (.lst zs) ∧ xs.length + zs.length ≤ sizeLine ∧ Q .non (upd H2 q (.lst (xs ++ zs))))
    (hs : starEach [a] X.env = [(false, eval a X.env)] := by rfl) (hbase : attributeBase o "extend" X.env (eval o X.env) = eval o X.env := by rfl) (hline : (apos.endLine == pos.line) = true := by rfl)
    (hfew : ((backTo pos (starEach [a] X.env)).all (fun x => !x.1) && (backToKw pos (keywordEach [] X.env)).all (fun x => x.1.isSome) && decide (([a] : List Expr).length + ([] : List Keyword).length + (if ([] : List Keyword).isEmpty then 0 else 1) < 30)) = true := by rfl) :
    wE X (.Call (.Attribute o "extend" apos) [a] [] pos) σ H Q :=
  eE (pe_bm PySem.F.plainAttrs_list PySem.F.slot_list_extend PySem.F.type_list_extend mt_extend pE pA hbase hfew hline (by rw [hs]; rfl) rfl)
    (wE_mono h fun x H1 ⟨q, e1, ⟨ys, h0⟩, h1⟩ => ⟨by rw [e1]; exact .inl ⟨rfl, ys, .inl (.inl h0)⟩, a_cons (wE_mono h1 fun y H2 ⟨r, xs, zs, e2, h2, h3, h4, h5⟩ => a_nil ⟨q, r, xs, zs, e1, by rw [e2], h2, h3, h4, h5⟩) (by rw [hs]; rfl)⟩)
end
end Z

set_option Elab.async false
set_option linter.all false
set_option maxRecDepth 100000
set_option maxHeartbeats 4000000
/-! pairs walked, reverse, clear, lists times a number, while, == -/
namespace Z
open PySem PySem.Spec PyProof.Rows L2
theorem Apart.nil {K : PySem.W.Frag} {H : Hp} (A : Apart K H) : Apart [] H := fun a xs q ys h1 h2 => A a xs q ys (sqt_all h1) h2
theorem Here.ext {l : List Addr} {H H1 : Hp} (h : Here l H) (b : But [] H H1) : Here l H1 := fun q hq => let ⟨o, e⟩ := h q hq; ⟨o, b _ _ (by simp) e⟩
theorem Here.cons {l : List Addr} {H : Hp} {q : Addr} {o : HO} (e : H q = some o) (h : Here l H) : Here (q :: l) H := fun x hx => by
  rcases List.mem_cons.mp hx with rfl | hx
  · exact ⟨o, e⟩
  · exact h x hx
theorem Here.nil {H : Hp} : Here [] H := fun q hq => by simp at hq
/-- what was there stays, whatever became of the new -/
theorem but_late {H0 H1 H2 : Hp} {l : List Addr} (a : But [] H0 H1) (b : But l H1 H2) (n : ∀ q ∈ l, H0 q = none) : But [] H0 H2 := fun q o _ e => b q o (fun z => by rw [n q z] at e; cases e) (a q o (by simp) e)
section
variable {X : Cx} {k : Nat} {W : WX} {σ : L2.St} {H : Hp} {e a b o elt c : Expr} {es : List Expr} {p pos apos : Pos} {Q : VK} {scope : Scope}
theorem mt_pairS {i j : Nat} {y z : Str} {p p' pt : Pos} {kt} {vs : List Nat} {q : Addr} {u v : V} {R : V → Prop} (hc : X.calm = true) (hN : X.N.Nodup) (hq : SqT X.K H q [u, v])
    (h : wEb X scope elt (((wipe σ vs).set i (some u)).set j (some v)) H fun v H4 => R v ∧ But [] H H4) (hw : wipe (((wipe σ vs).set i (some u)).set j (some v)) vs = wipe σ vs := by rfl) (hi : X.N[i]? = some y := by rfl) (hj : X.N[j]? = some z := by rfl)
    (hx : Loc (relS scope X.env.scope) y := by first | exact Or.inl rfl | exact Or.inr rfl) (hf : (scope.names.lookup y == some .cell) = true ∨ (relS scope X.env.scope).names.lookup y = some .local := by first | exact .inl rfl | exact .inr rfl)
    (hx2 : Loc (relS scope X.env.scope) z := by first | exact Or.inl rfl | exact Or.inr rfl) (hf2 : (scope.names.lookup z == some .cell) = true ∨ (relS scope X.env.scope).names.lookup z = some .local := by first | exact .inl rfl | exact .inr rfl) :
    MapTurn X scope vs (.Tuple [.Name y p, .Name z p'] kt pt) elt σ (.ref q) H R := by
  intro s H0 C cl fp
  refine g_tup (gs_cons (g_name (i := i) (gs_cons (g_name (i := j) (gs_nil ⟨hw, But.refl, h⟩) hN hj hx2 hf2)) hN hi hx hf)) hc hq
theorem e_reverse (h : wE X o σ H fun x H1 => ∃ q xs, x = .ref q ∧ H1 q = some (.lst xs) ∧ Q .non (upd H1 q (.lst xs.reverse)))
    (hbase : attributeBase o "reverse" X.env (eval o X.env) = eval o X.env := by rfl) (hline : (apos.endLine == pos.line) = true := by rfl)
    : wE X (.Call (.Attribute o "reverse" apos) [] [] pos) σ H Q :=
  eE (pe_bm0 PySem.F.plainAttrs_list PySem.F.slot_list_reverse PySem.F.type_list_reverse mt_reverse pE hbase hline)
    (wE_mono h fun x H1 ⟨q, xs, e1, h0, h1⟩ => ⟨by rw [e1]; exact .inl ⟨rfl, xs, .inl (.inl h0)⟩, ⟨q, xs, e1, rfl, h0, h1⟩⟩)
theorem e_clear (h : wE X o σ H fun x H1 => ∃ q xs, x = .ref q ∧ H1 q = some (.lst xs) ∧ Q .non (upd H1 q (.lst [])))
    (hbase : attributeBase o "clear" X.env (eval o X.env) = eval o X.env := by rfl) (hline : (apos.endLine == pos.line) = true := by rfl)
    : wE X (.Call (.Attribute o "clear" apos) [] [] pos) σ H Q :=
  eE (pe_bm0 PySem.F.plainAttrs_list PySem.F.slot_list_clear PySem.F.type_list_clear mt_clear pE hbase hline)
    (wE_mono h fun x H1 ⟨q, xs, e1, h0, h1⟩ => ⟨by rw [e1]; exact .inl ⟨rfl, xs, .inl (.inl h0)⟩, ⟨q, xs, e1, rfl, h0, h1⟩⟩)
theorem o_rep {q : Addr} {xs : List V} {n : Nat} (h1 : H q = some (.lst xs)) (hz : xs.length * n ≤ sizeLine) (hn : n < 2 ^ 62) (h : ∀ p, H p = none → Q (.ref p) (upd H p (.lst (List.replicate n xs).flatten))) : oW X (binaryOp .Mult) (.ref q) (.int n) H Q :=
  oW_of op_rep ⟨q, n, xs, rfl, rfl, h1, by omega, by omega, by simpa using hz, by simpa using h⟩
/-- while: the invariant with its measure -/
theorem s_while {D : Ends} {body : List Stmt} (C : Cxt X k W) (I : Nat → L2.St → Hp → Prop) (m0 : Nat) (h0 : I m0 σ H)
    (h : ∀ m σ H, I m σ H → wT X c σ H fun b H1 => if b = true then wB X body { D with nx := fun σ' H' => ∃ m', m' < m ∧ I m' σ' H', ct := fun σ' H' => ∃ m', m' < m ∧ I m' σ' H', bk := D.nx } σ H1 else D.nx σ H1) : wS X (.While c body [] pos) D σ H := by
  refine eS (ps_while C.po pT pB) ⟨I, ⟨m0, h0⟩, fun m σ H hi => wT_mono (h m σ H hi) fun b H1 q => ?_⟩
  cases b with
  | true => exact ⟨fun σ' H' => ∃ m', m' < m ∧ I m' σ' H', fun _ _ q => q, q⟩
  | false => exact q
end
mutual
theorem eqv_same : ∀ {d : PyData}, d.hasDict = false → PyData.eqv d d = true
  | .none, _ => rfl
  | .bool b, _ => by simp [PyData.eqv]
  | .int i, _ => by simp [PyData.eqv]
  | .str x, _ => by simp [PyData.eqv]
  | .list xs, h => by rw [PyData.eqv]; exact eqvAll_same (by simpa [PyData.hasDict] using h)
  | .tuple xs, h => by rw [PyData.eqv]; exact eqvAll_same (by simpa [PyData.hasDict] using h)
  | .dict _, h => by simp [PyData.hasDict] at h
theorem eqvAll_same : ∀ {ds : List PyData}, PyData.hasDictAll ds = false → PyData.eqvAll ds ds = true
  | [], _ => rfl
  | x :: xs, h => by
    simp only [PyData.hasDictAll, Bool.or_eq_false_iff] at h
    rw [PyData.eqvAll, eqv_same h.1, eqvAll_same h.2]
    rfl
end
end Z

set_option Elab.async false
set_option linter.all false
set_option maxRecDepth 100000
set_option maxHeartbeats 4000000
/-! objects of own classes compared -/
namespace Z
open PySem PySem.Spec PyProof.Rows L2 C8
section
variable {X : Cx} {k : Nat} {W : WX} {σ : L2.St} {H : Hp} {e a b : Expr} {p pos : Pos} {Q : VK} {x : Str}
theorem but_ext {H H' : Hp} (e : Ext H H') : But [] H H' := fun q o _ h => e q o h
theorem ext_but {H H' : Hp} (e : But [] H H') : Ext H H' := fun q o h => e q o (by simp) h
/-- x == y by the own __eq__ of the class at C -/
theorem c_eqI {C : Addr} {ps : List Str} {R : Addr → Addr → Hp → Prop} {y z : V} (Cc : Cxt X k W) (M : MethOk X.prog X.w X.K X.mg X.base k C "__eq__" ps (spEq R)) (d : DIns C R y z H) (q : ∀ H', But [] H H' → Q (.bl true) H') : oW X (compareOp .Eq) y z H Q := by
  obtain ⟨f, fd, hm, F, hb⟩ := M.ex
  exact oW_of (op_eqG (rcG_ins F hm.at_ hm.fn hb (passes0 Cc.tk)) Cc.room) ⟨d, fun H' e => q H' (but_ext e)⟩
/-- isinstance(e, C), e an instance of the own class C -/
theorem e_isC {C : Addr} {pT : Pos} (B : Blt X.mg X.base) (c : InsC X.K C) (hT : X.mg x = some (.ref C)) (h : wE X a σ H fun v H1 => ∃ r dx fs, v = .ref r ∧ H1 r = some (.ins C dx fs) ∧ Q (.bl true) H1) (hgT : Gl X x := by rfl) (hdT : (x == ("__debug__" : Str)) = false := by decide) (hgl : Gl X "isinstance" := by rfl)
    (hs : starEach [a, .Name x pT] X.env = (false, eval a X.env) :: starEach [.Name x pT] X.env := by rfl) (hs2 : starEach [.Name x pT] X.env = [(false, eval (.Name x pT) X.env)] := by rfl) :
    wE X (.Call (.Name "isinstance" p) [a, .Name x pT] [] pos) σ H Q :=
  e_B (id := "isinstance") (a_cons (wE_mono h fun v H1 ⟨r, dx, fs, e1, h1, q⟩ => a_cons (e_glob (v := .ref C) (a_nil (cW_of (call_isC c) ⟨r, dx, fs, by rw [e1], h1, q⟩)) hT rfl hgT hdT) hs2) hs)
    B.isinstance PyProof.Rows.boot_isinstance hgl (by decide) (by decide) hs (by rw [hs2]; rfl)
theorem c_eqDict {d1 d2 : Addr} {kvs : List (Key × V)} (C : Cxt X k W) (h1 : H d1 = some (.dK kvs)) (h2 : H d2 = some (.dK kvs)) (nd : (kvs.map (·.1)).Nodup) (fl : ∀ p ∈ kvs, flatB p.2 = true) (q : Q (.bl true) H) : oW X (compareOp .Eq) (.ref d1) (.ref d2) H Q :=
  oW_of (op_eq_dict (by have := C.un; omega)) ⟨d1, d2, kvs, rfl, rfl, h1, h2, nd, fl, q⟩
end
theorem strOk_ascii {x : Str} (h : ∀ c ∈ x.cps.toList, c < 128) : PyData.strOk x = true := by
  simp only [PyData.strOk, Array.all_eq_true', decide_eq_true_eq]
  intro c hc
  have := h c (by simpa using hc)
  omega
end Z

set_option Elab.async false
set_option linter.all false
set_option maxRecDepth 100000
set_option maxHeartbeats 4000000
/-! names set in pairs and threes -/
namespace Z
open PySem PySem.Spec PyProof.Rows L2
section
variable {X : Cx} {k : Nat} {W : WX} {σ : L2.St} {H : Hp} {a b c : Expr} {x y z : Str} {px py pz pt pt2 pos : Pos} {kt k2}
theorem s_par {D : Ends} {i j : Nat} (C : Cxt X k W) (h : wA X [a, b] σ H fun vs H1 => ∃ v w, vs = [v, w] ∧ D.nx ((σ.set i (some v)).set j (some w)) H1) (hi : X.N[i]? = some x := by rfl) (hj : X.N[j]? = some y := by rfl) (hij : i ≠ j := by decide)
    (hx : X.env.scope.names.lookup x = some .local := by rfl) (hy : X.env.scope.names.lookup y = some .local := by rfl)
    (hw : swappedStores [.Tuple [.Name x px, .Name y py] kt pt] (.Tuple [a, b] k2 pt2) X.env = pure (some [x, y]) := by rfl)
    (hs : swapsWithSole [.Tuple [.Name x px, .Name y py] kt pt] (.Tuple [a, b] k2 pt2) pos.line X.env = pure false := by rfl) : wS X (.Assign [.Tuple [.Name x px, .Name y py] kt pt] (.Tuple [a, b] k2 pt2) pos) D σ H :=
  eS (ps_par C.calm C.nd hi hj hij hx hy pA hw hs) h
theorem s_par3 {D : Ends} {i j l : Nat} (C : Cxt X k W) (h : wA X [a, b, c] σ H fun vs H1 => ∃ u v w, vs = [u, v, w] ∧ D.nx (((σ.set i (some u)).set j (some v)).set l (some w)) H1) (hi : X.N[i]? = some x := by rfl) (hj : X.N[j]? = some y := by rfl) (hl : X.N[l]? = some z := by rfl)
    (hij : i ≠ j := by decide) (hil : i ≠ l := by decide) (hjl : j ≠ l := by decide) (hx : X.env.scope.names.lookup x = some .local := by rfl) (hy : X.env.scope.names.lookup y = some .local := by rfl) (hz : X.env.scope.names.lookup z = some .local := by rfl)
    (hw : swappedStores [.Tuple [.Name x px, .Name y py, .Name z pz] kt pt] (.Tuple [a, b, c] k2 pt2) X.env = pure (some [x, y, z]) := by rfl)
    (hs : swapsWithSole [.Tuple [.Name x px, .Name y py, .Name z pz] kt pt] (.Tuple [a, b, c] k2 pt2) pos.line X.env = pure false := by rfl) : wS X (.Assign [.Tuple [.Name x px, .Name y py, .Name z pz] kt pt] (.Tuple [a, b, c] k2 pt2) pos) D σ H :=
  eS (ps_par3 C.calm C.nd hi hj hl hij hil hjl hx hy hz pA hw hs) h
end
end Z

set_option Elab.async false
set_option linter.all false
set_option maxRecDepth 100000
set_option maxHeartbeats 4000000
/-! what the head's facts give: tuples and dicts of the text, classes -/
namespace Z
open PySem PySem.Spec PyProof.Rows L2
section
variable {w : World} {K : PySem.W.Frag} {mg : Str → Option Value} {h : Heap}
theorem sqt_mk {a : Addr} {its : Array Value} {n : Nat} {dd : Option Addr} {sl : Array (Option Value)} {xs : List V} (l : K.lookup a = some ⟨.type "tuple", dd, .seq its n, sl⟩) (v : Vals xs its.toList) (z : its.size ≤ 16777216) : ∀ H, SqT K H a xs :=
  fun H => .inr ⟨_, its, n, l, rfl, rfl, by rw [sizeLine_eq]; exact z, v⟩
theorem kdct_mk {a : Addr} {x : Str} {v : V} {u : Value} {es : Array DictEntry} {n : Nat} (l : K.lookup a = some ⟨.type "dict", none, .dict es n, #[]⟩) (kl : PySem.W.KeysLit w.params es.toList) (e : PySem.W.nsIn K a x = some (some u)) (r : RelV v u) : KDct K w a x v := ⟨es, n, u, l, kl, e, r⟩
end
end Z

set_option Elab.async false
set_option linter.all false
set_option maxRecDepth 100000
set_option maxHeartbeats 4000000
namespace K61
open PySem PySem.Spec PyProof.Rows L2 Z
def top (i : Nat) : Stmt := PySem.Challenge.pw_frontlines_k61_whole_written_trees.main.body.getD i (.Pass ⟨0, 0, 0, 0⟩)
/-! ### plain -/
def known : Str := "abcdefghijklmnopqrstuvwxyz0123456789.-=>|"
def isInteger (d : PyData) : Bool := isInt d && !isBool d
def ascends : List Nat → Bool
  | a :: b :: r => decide (a < b) && ascends (b :: r)
  | _ => true
def strSigns (x : Str) : Bool := decide (2 ≤ x.length) && decide (x.length ≤ 4) && x.cps.toList.all (fun c => decide (c ∈ known.cps.toList)) && ascends x.cps.toList
def lenOk : PyData → Bool
  | .str x => decide (2 ≤ x.length) && decide (x.length ≤ 4)
  | _ => false
def areSigns : PyData → Bool
  | .str x => strSigns x
  | _ => false
/-- the constants of the text -/
structure Consts (mg : Str → Option Value) : Prop where
  known : ∃ u, mg "KNOWN_SIGNS" = some u ∧ RelV (.str known) u
  least : ∃ u, mg "LEAST_SIGNS" = some u ∧ RelV (.int 2) u
  most : ∃ u, mg "MOST_SIGNS" = some u ∧ RelV (.int 4) u
section
variable {P : Program} {w : World} {K : PySem.W.Frag} {mg : Str → Option Value} {base : Heap}
theorem known_ascii : ∀ c, c ∈ known.cps.toList → c < 128 := by decide +kernel
theorem zip_ascends : ∀ l : List Nat, ((l.zip (l.drop 1)).map fun q => decide (q.1 < q.2)).all id = ascends l
  | [] => rfl
  | [_] => rfl
  | a :: b :: r => by
    have ih := zip_ascends (b :: r)
    simp only [List.drop_succ_cons, List.drop_zero, List.zip_cons_cons, List.map_cons, List.all_cons, id_eq, ascends] at ih ⊢
    rw [← ih]
theorem lt_one {a b : Nat} : decide ((⟨#[a]⟩ : Str).cps.toList < (⟨#[b]⟩ : Str).cps.toList) = decide (a < b) := by
  rw [decide_eq_decide]
  show [a] < [b] ↔ a < b
  simp [List.cons_lt_cons_iff]
/-- one datum in, a bool out, nothing changed -/
def fits : PyData → Prop
  | .str x => x.length ≤ sizeLine
  | _ => True
def sp1 (K : PySem.W.Frag) (f : PyData → Bool) : Sp := fun vs H Q _ => ∃ v l d, vs = [v] ∧ DD K l H v d ∧ fits d ∧ ∀ H', But [] H H' → Q (.bl (f d)) H'
theorem sp1_len {f : PyData → Bool} : ∀ vs H Q E, sp1 K f vs H Q E → vs.length = (["value"] : List Str).length := fun vs H Q E ⟨v, l, d, e, _⟩ => by rw [e]; rfl
theorem sc9 : FnScope ["value"] ["value"] (defScope (top 14)) := ⟨rfl, rfl, rfl, by decide +kernel, rfl, by decide +kernel, by decide +kernel⟩
theorem d_isInteger (B : Blt mg base) (D : At K mg "is_integer" (top 14)) : Def P w K mg base 1 "is_integer" (top 14) ["value"] (sp1 K isInteger) := by
  refine def_of D B sc9 sp1_len fun f cdv A outer s H vs Q E hm C h => ?_
  obtain ⟨v, l, d, rfl, hd, hf, q⟩ := h
  refine b_cons (s_ret (e_and (e_isi B kit_int B.int PyProof.Rows.boot_int (e_name 0 ⟨l, d, hd, isInt d, rfl, ?_⟩))))
  split
  · refine e_one (e_not (e_isi B kit_bool B.bool PyProof.Rows.boot_bool (e_name 0 ⟨l, d, hd, isBool d, rfl, ?_⟩)))
    have := q H But.refl
    simpa [isInteger, *] using this
  · have := q H But.refl
    simpa [isInteger, *] using this
theorem sc10 : FnScope ["value", "sign", "one", "other"] ["value"] (defScope (top 16)) := ⟨rfl, rfl, rfl, by decide +kernel, rfl, by decide +kernel, by decide +kernel⟩
theorem d_areSigns (B : Blt mg base) (D : At K mg "are_signs" (top 16)) (T : Consts mg) : Def P w K mg base 1 "are_signs" (top 16) ["value"] (sp1 K areSigns) := by
  refine def_of D B sc10 sp1_len fun f cdv A outer s H vs Q E hm C h => ?_
  obtain ⟨v, l, d, rfl, hd, hf, q⟩ := h
  obtain ⟨uK, hK, rK⟩ := T.known
  obtain ⟨u2, h2, r2⟩ := T.least
  obtain ⟨u4, h4, r4⟩ := T.most
  have rd : ∀ {H1}, But [] H H1 → DD K l H1 v d := fun b => hd.but (b.mono (by simp))
  refine b_cons (s_ifB (!lenOk d) ?_ (fun e H1 b1 => ?_) (fun e H1 b1 => ?_))
  · refine t_boolop (w_or (t_not (t_val (e_isi B kit_str B.str PyProof.Rows.boot_str (e_name 0 ⟨l, d, hd, isStr d, rfl, ?_⟩)))))
    refine ite_b (fun e => ⟨?_, But.refl⟩) fun e => ?_
    · cases d <;> simp_all [isStr, lenOk]
    · obtain ⟨x, rfl⟩ : ∃ x, d = .str x := by cases d <;> simp [isStr] at e; exact ⟨_, rfl⟩
      cases hd
      refine w_or1 (t_not (t_chain (e_glob (e_len B (e_name 0 ?_)) h2 r2)))
      refine ⟨x.length, ⟨hf, rfl⟩, c_le ⟨_, rfl, ite_b (fun e => e_glob (c_le ⟨_, rfl, ?_, But.refl⟩) h4 r4) fun e => ⟨_, rfl, ?_, But.refl⟩⟩⟩
      · have e := of_decide_eq_true e
        rw [lenOk, show decide (2 ≤ x.length) = true from decide_eq_true (by omega), Bool.true_and, Bool.not_eq_eq_eq_not, Bool.not_not, decide_eq_decide]
        omega
      · have e := of_decide_eq_false e
        rw [lenOk, show decide (2 ≤ x.length) = false from decide_eq_false (by omega)]
        rfl
  · refine b_cons (s_ret (e_bool ?_))
    have := q H1 b1
    have no : areSigns d = false := by cases d <;> simp_all [areSigns, strSigns, lenOk]; omega
    rwa [no] at this
  · obtain ⟨x, rfl⟩ : ∃ x, d = .str x := by cases d <;> simp [lenOk] at e; exact ⟨_, rfl⟩
    cases hd
    have hx : x.length ≤ sizeLine := hf
    have hsz : x.cps.size = x.length := rfl
    refine b_nil (b_cons (s_ifB (!(x.cps.toList.all fun c => decide (c ∈ known.cps.toList))) ?_ (fun e2 H2 b2 => ?_) (fun e2 H2 b2 => ?_)))
    · refine t_not (t_val (e_all C (e_lcM [("sign", 1)] C (i_str (e_name 0 ?_)))))
      refine ⟨x, rfl, _, _, _, (x.cps.toList.map fun c => V.bl (decide (c ∈ known.cps.toList))), walk_str, by simp, hx, fun _ _ => trivial, fun i y H2 H' hi b2 hy => ?_, fun Da H' b2 hn hl => ⟨Da, x.cps.toList.map fun c => decide (c ∈ known.cps.toList), rfl, .inl (.inl (by rw [hl, List.map_map]; rfl)), _, rfl, ?_, b2⟩⟩
      · obtain ⟨rfl, c, hc, rfl⟩ := hy
        refine ⟨But.refl, mt_name (i := 1) C.nd fun s H0 Ca cl fp => e_cmp (e_name 1 (e_glob (c_inSign ⟨?_, But.refl⟩) hK rK))⟩
        simp [← Array.getElem?_toList] at hc
        simp [hc]
      · simp [Function.comp_def]
    · refine b_cons (s_ret (e_bool ?_))
      have := q H2 (b1.trans b2)
      have no : areSigns (.str x) = false := by simp only [areSigns, strSigns]; simp only [Bool.not_eq_true'] at e2; rw [e2]; simp
      rwa [no] at this
    · have hall : (x.cps.toList.all fun c => decide (c ∈ known.cps.toList)) = true := by simpa using e2
      have asc : ∀ z : Str, (∀ c ∈ z.cps.toList, c ∈ x.cps.toList) → z.cps.all (· < 128) = true := fun z hz => by
        rw [Array.all_eq_true']
        intro c hc
        have := List.all_eq_true.mp hall c (hz c (by simpa using hc))
        simpa using known_ascii c (by simpa using this)
      refine b_nil (b_cons (s_ret (e_all C (e_lcM [("one", 2), ("other", 3)] C (i_zipS B (e_name 0 ?_))))))
      refine e_slice sl_str (e_name 0 ?_)
      refine p_some (e_int ⟨1, rfl, p_none ⟨x, rfl, hx, ?_⟩⟩)
      have hcut : (cutS x (some 1) none).cps.toList = x.cps.toList.drop 1 := by
        show (((x.cps.toList.drop (HT.sIx x.length 0 (some ((1 : Nat) : Int)))).take (HT.sIx x.length x.length none - HT.sIx x.length 0 (some ((1 : Nat) : Int)))).toArray).toList = _
        have hl : x.cps.toList.length = x.length := by simp [hsz]
        rw [HT.sIx_nat, HT.sIx_none, List.toList_toArray]
        by_cases h0 : 1 ≤ x.length
        · rw [Nat.min_eq_left h0, List.take_of_length_le (by rw [List.length_drop]; omega)]
        · have h1 : x.length = 0 := by omega
          have h2 : x.cps.toList = [] := List.eq_nil_of_length_eq_zero (by omega)
          simp [h2]
      refine ⟨x, _, rfl, rfl, asc x (fun _ h => h), asc _ (fun c hc => by rw [hcut] at hc; exact List.mem_of_mem_drop hc), _, _, _, ((x.cps.toList.zip (x.cps.toList.drop 1)).map fun q => V.bl (decide (q.1 < q.2))), walk_zipS rfl, ?_, ?_, fun _ _ => trivial, fun i y H3 H' hi b3 hy => ?_, fun Da H' b3 hn hl => ?_⟩
      · rw [← Array.length_toList (xs := (cutS x (some 1) none).cps), hcut]
        simp
      · omega
      · obtain ⟨T, c, c', rfl, hT, rfl, hc, hc'⟩ := hy
        refine ⟨But.new hT, mt_pair (i := 2) (j := 3) rfl C.nd upd_same fun s H0 Ca cl fp => e_cmp (e_name 2 (e_name 3 (c_ltS ⟨?_, But.refl⟩)))⟩
        rw [← Array.getElem?_toList] at hc hc'
        rw [hcut] at hc'
        rw [List.getElem?_map, (List.getElem?_zip_eq_some (z := (c, c'))).mpr ⟨hc, hc'⟩, lt_one]
        rfl
      · refine ⟨Da, (x.cps.toList.zip (x.cps.toList.drop 1)).map fun q => decide (q.1 < q.2), rfl, .inl (.inl (by rw [hl, List.map_map]; rfl)), ?_⟩
        rw [zip_ascends]
        have := q H' (b1.trans (b2.trans b3))
        have e3 : areSigns (.str x) = ascends x.cps.toList := by
          simp only [areSigns, strSigns, hall]
          have : lenOk (.str x) = true := by simpa using e
          simp only [lenOk] at this
          rw [this]
          rfl
        rwa [e3] at this
/-! ### the refusals -/
/-- one datum is wanted: None, or the error of the class at C with it -/
def spWant (K : PySem.W.Frag) (f : PyData → Bool) (C : Addr) : Sp := fun vs H Q E => ∃ v l d, vs = [v] ∧ DD K l H v d ∧ fits d ∧ (f d = true → ∀ H', But [] H H' → Q .non H') ∧
  (f d = false → ∀ dd H', But [] H H' → H' dd = some (.xd [("value", v)]) → E (.ref C) (some dd) H')
theorem DD.fit {l : List Addr} {H : Hp} {v : V} {d : PyData} (h : DD K l H v d) (H' : Hp) (b : But [] H H') : DD K l H' v d := h.but (b.mono (by simp))
theorem sc11 : FnScope ["value"] ["value"] (defScope (top 17)) := ⟨rfl, rfl, rfl, by decide +kernel, rfl, by decide +kernel, by decide +kernel⟩
theorem d_wantSigns {CS : Addr} (B : Blt mg base) (D : At K mg "want_signs" (top 17)) (D1 : Def P w K mg base 1 "are_signs" (top 16) ["value"] (sp1 K areSigns)) (E1 : ErrOk P w K mg base "InvalidSigns" "value" CS) :
    Def P w K mg base 3 "want_signs" (top 17) ["value"] (spWant K areSigns CS) := by
  refine def_of D B sc11 (fun vs H Q E ⟨v, l, d, e, _⟩ => by rw [e]; rfl) fun f cdv A outer s H vs Q E hm C h => ?_
  obtain ⟨v, l, d, rfl, hd, hf, q1, q2⟩ := h
  refine b_cons (s_ifB (!areSigns d) ?_ (fun e H1 b1 => ?_) (fun e H1 b1 => ?_))
  · refine t_not (t_val (e_call (C.mono (by decide)) (D1.mono (Nat.le_refl _)) (a_cons (e_name 0 (a_nil ?_))) rfl (fun _ _ _ _ _ _ us hl => match us, hl with | [_], _ => rfl)))
    exact ⟨v, l, d, rfl, hd, hf, fun H' b => ⟨_, rfl, rfl, b⟩⟩
  · refine b_cons (s_raise1 C E1 (by decide) (e_name 0 fun dd H' b2 hn hx => ?_))
    exact q2 (by simpa using e) dd H' (b1.trans b2) hx
  · exact b_nil (b_nil (q1 (by simpa using e) H1 b1))
/-! ### lines -/
def isLine (g : Str) : PyData → Bool
  | .str x => x.cps.toList.all fun c => decide (c ∈ g.cps.toList)
  | _ => false
def spLine (K : PySem.W.Frag) : Sp := fun vs H Q _ => ∃ g v l d, vs = [.str g, v] ∧ DD K l H v d ∧ fits d ∧ ∀ H', But [] H H' → Q (.bl (isLine g d)) H'
theorem sc12 : FnScope ["signs", "value", "sign"] ["signs", "value"] (defScope (top 18)) := ⟨rfl, rfl, rfl, by decide +kernel, rfl, by decide +kernel, by decide +kernel⟩
theorem d_isLine (B : Blt mg base) (D : At K mg "is_line" (top 18)) : Def P w K mg base 1 "is_line" (top 18) ["signs", "value"] (spLine K) := by
  refine def_of D B sc12 (fun vs H Q E ⟨g, v, l, d, e, _⟩ => by rw [e]; rfl) fun f cdv A outer s H vs Q E hm C h => ?_
  obtain ⟨g, v, l, d, rfl, hd, hf, q⟩ := h
  refine b_cons (s_ret (e_and (e_isi B kit_str B.str PyProof.Rows.boot_str (e_name 1 ⟨l, d, hd, isStr d, rfl, ite_b (fun e => ?_) fun e => ?_⟩))))
  · obtain ⟨x, rfl⟩ : ∃ x, d = .str x := by cases d <;> simp [isStr] at e; exact ⟨_, rfl⟩
    cases hd
    refine e_one (e_all C (e_lcM [("sign", 2)] C (i_str (e_name 1 ?_))))
    refine ⟨x, rfl, _, _, _, (x.cps.toList.map fun c => V.bl (decide (c ∈ g.cps.toList))), walk_str, by simp, hf, fun _ _ => trivial, fun i y H2 H' hi b2 hy => ?_, fun Da H' b2 hn hl => ⟨Da, x.cps.toList.map fun c => decide (c ∈ g.cps.toList), rfl, .inl (.inl (by rw [hl, List.map_map]; rfl)), ?_⟩⟩
    · obtain ⟨rfl, c, hc, rfl⟩ := hy
      refine ⟨But.refl, mt_name (i := 2) C.nd fun s H0 Ca cl fp => e_cmp (e_name 2 (e_name 0 (c_inSign ⟨?_, But.refl⟩)))⟩
      simp [← Array.getElem?_toList] at hc
      simp [hc]
    · have := q H' b2
      simpa [isLine, Function.comp_def] using this
  · have := q H But.refl
    have no : isLine g d = false := by cases d <;> simp_all [isLine, isStr]
    rwa [no] at this
end
end K61

set_option Elab.async false
set_option linter.all false
set_option maxRecDepth 100000
set_option maxHeartbeats 4000000
namespace K61
open PySem PySem.Spec PyProof.Rows L2 Z
/-! ### the reader's parts -/
structure Consts2 (mg : Str → Option Value) : Prop where
  levels : ∃ u, mg "MOST_LEVELS" = some u ∧ RelV (.int 3) u
  mark : ∃ u, mg "MOST_MARK" = some u ∧ RelV (.int 12) u
  tail : ∃ u, mg "MOST_TAIL" = some u ∧ RelV (.int 3) u
def shortLine (m : Nat) (g : Str) : PyData → Bool
  | .str x => isLine g (.str x) && decide (1 ≤ x.length) && decide (x.length ≤ m)
  | _ => false
section
variable {P : Program} {w : World} {K : PySem.W.Frag} {mg : Str → Option Value} {base : Heap}
def spShort (K : PySem.W.Frag) (m : Nat) : Sp := fun vs H Q _ => ∃ g v l d, vs = [.str g, v] ∧ DD K l H v d ∧ fits d ∧ ∀ H', But [] H H' → Q (.bl (shortLine m g d)) H'
theorem scMl : FnScope ["signs", "value"] ["signs", "value"] (defScope (top 26)) := ⟨rfl, rfl, rfl, by decide +kernel, rfl, by decide +kernel, by decide +kernel⟩
theorem d_isMarkLine (B : Blt mg base) (D : At K mg "is_mark_line" (top 26)) (T : Consts2 mg) (D1 : Def P w K mg base 1 "is_line" (top 18) ["signs", "value"] (spLine K)) : Def P w K mg base 2 "is_mark_line" (top 26) ["signs", "value"] (spShort K 12) := by
  refine def_of D B scMl (fun vs H Q E ⟨g, v, l, d, e, _⟩ => by rw [e]; rfl) fun f cdv A outer s H vs Q E hm C h => ?_
  obtain ⟨g, v, l, d, rfl, hd, hf, q⟩ := h
  obtain ⟨u, hu, ru⟩ := T.mark
  refine b_cons (s_ret (e_and (e_call C D1 (a_cons (e_name 0 (a_cons (e_name 1 (a_nil ?_))))) rfl (fun _ _ _ _ _ _ us hl => match us, hl with | [_, _], _ => rfl))))
  refine ⟨g, v, l, d, rfl, hd, hf, fun H' b => ⟨_, rfl, ite_b (fun e => ?_) fun e => ?_⟩⟩
  · obtain ⟨x, rfl⟩ : ∃ x, d = .str x := by cases d <;> simp [isLine] at e; exact ⟨_, rfl⟩
    cases hd
    refine e_one (e_chain (e_int (e_len B (e_name 1 (v := .str x) ⟨x.length, ⟨hf, rfl⟩, c_le ⟨_, rfl, ite_b (fun e1 => e_glob (c_le ?_) hu ru) fun e1 => ?_⟩⟩))))
    · have := q H' b
      have e1 := of_decide_eq_true e1
      have e3 : shortLine 12 g (.str x) = decide ((x.length : Int) ≤ 12) := by
        simp only [shortLine, e, Bool.true_and]
        rw [show decide (1 ≤ x.length) = true from decide_eq_true (by omega), Bool.true_and, decide_eq_decide]
        omega
      rwa [e3] at this
    · have := q H' b
      have e1 := of_decide_eq_false e1
      have e3 : shortLine 12 g (.str x) = false := by
        simp only [shortLine, e, Bool.true_and]
        rw [show decide (1 ≤ x.length) = false from decide_eq_false (by omega), Bool.false_and]
      rwa [e3] at this
  · have := q H' b
    have e3 : shortLine 12 g d = false := by cases d <;> simp_all [shortLine]
    rwa [e3] at this
theorem scTl : FnScope ["signs", "value"] ["signs", "value"] (defScope (top 27)) := ⟨rfl, rfl, rfl, by decide +kernel, rfl, by decide +kernel, by decide +kernel⟩
theorem d_isTail (B : Blt mg base) (D : At K mg "is_tail" (top 27)) (T : Consts2 mg) (D1 : Def P w K mg base 1 "is_line" (top 18) ["signs", "value"] (spLine K)) : Def P w K mg base 2 "is_tail" (top 27) ["signs", "value"] (spShort K 3) := by
  refine def_of D B scTl (fun vs H Q E ⟨g, v, l, d, e, _⟩ => by rw [e]; rfl) fun f cdv A outer s H vs Q E hm C h => ?_
  obtain ⟨g, v, l, d, rfl, hd, hf, q⟩ := h
  obtain ⟨u, hu, ru⟩ := T.tail
  refine b_cons (s_ret (e_and (e_call C D1 (a_cons (e_name 0 (a_cons (e_name 1 (a_nil ?_))))) rfl (fun _ _ _ _ _ _ us hl => match us, hl with | [_, _], _ => rfl))))
  refine ⟨g, v, l, d, rfl, hd, hf, fun H' b => ⟨_, rfl, ite_b (fun e => ?_) fun e => ?_⟩⟩
  · obtain ⟨x, rfl⟩ : ∃ x, d = .str x := by cases d <;> simp [isLine] at e; exact ⟨_, rfl⟩
    cases hd
    refine e_one (e_chain (e_int (e_len B (e_name 1 (v := .str x) ⟨x.length, ⟨hf, rfl⟩, c_le ⟨_, rfl, ite_b (fun e1 => e_glob (c_le ?_) hu ru) fun e1 => ?_⟩⟩))))
    · have := q H' b
      have e1 := of_decide_eq_true e1
      have e3 : shortLine 3 g (.str x) = decide ((x.length : Int) ≤ 3) := by
        simp only [shortLine, e, Bool.true_and]
        rw [show decide (1 ≤ x.length) = true from decide_eq_true (by omega), Bool.true_and, decide_eq_decide]
        omega
      rwa [e3] at this
    · have := q H' b
      have e1 := of_decide_eq_false e1
      have e3 : shortLine 3 g (.str x) = false := by
        simp only [shortLine, e, Bool.true_and]
        rw [show decide (1 ≤ x.length) = false from decide_eq_false (by omega), Bool.false_and]
      rwa [e3] at this
  · have := q H' b
    have e3 : shortLine 3 g d = false := by cases d <;> simp_all [shortLine]
    rwa [e3] at this
/-- is it a list or a tuple -/
def isSeq (d : PyData) : Bool := Z.isList d || Z.isTuple d
theorem scIl : FnScope ["value"] ["value"] (defScope (top 15)) := ⟨rfl, rfl, rfl, by decide +kernel, rfl, by decide +kernel, by decide +kernel⟩
theorem d_isList (B : Blt mg base) (D : At K mg "is_list" (top 15)) : Def P w K mg base 1 "is_list" (top 15) ["value"] (sp1 K isSeq) := by
  refine def_of D B scIl sp1_len fun f cdv A outer s H vs Q E hm C h => ?_
  obtain ⟨v, l, d, rfl, hd, hf, q⟩ := h
  refine b_cons (s_ret (e_isi2 B kit_list kit_tuple B.list PyProof.Rows.boot_list B.tuple PyProof.Rows.boot_tuple (e_name 0 ⟨l, d, hd, fun H' b => ?_⟩)))
  exact q H' b
/-- want_signs, where they are signs -/
def spFine (K : PySem.W.Frag) (f : PyData → Bool) : Sp := fun vs H Q _ => ∃ v l d, vs = [v] ∧ DD K l H v d ∧ fits d ∧ f d = true ∧ ∀ H', But [] H H' → Q .non H'
theorem scWs : FnScope ["value"] ["value"] (defScope (top 17)) := ⟨rfl, rfl, rfl, by decide +kernel, rfl, by decide +kernel, by decide +kernel⟩
theorem d_fineSigns (B : Blt mg base) (D : At K mg "want_signs" (top 17)) (D1 : Def P w K mg base 1 "are_signs" (top 16) ["value"] (sp1 K areSigns)) :
    Def P w K mg base 2 "want_signs" (top 17) ["value"] (spFine K areSigns) := by
  refine def_of D B scWs (fun vs H Q E ⟨v, l, d, e, _⟩ => by rw [e]; rfl) fun f cdv A outer s H vs Q E hm C h => ?_
  obtain ⟨v, l, d, rfl, hd, hf, e1, q⟩ := h
  refine b_cons (s_ifB false ?_ (fun e => by cases e) (fun _ H1 b1 => b_nil (b_nil (q H1 b1))))
  refine t_not (t_val (e_call C D1 (a_cons (e_name 0 (a_nil ?_))) rfl (fun _ _ _ _ _ _ us hl => match us, hl with | [_], _ => rfl)))
  exact ⟨v, l, d, rfl, hd, hf, fun H' b => ⟨_, rfl, by rw [e1]; rfl, b⟩⟩
theorem flat_strs (ys : List Str) : (ys.map V.str).all flatV = true := List.all_eq_true.mpr fun x hx => by
  obtain ⟨y, _, rfl⟩ := List.mem_map.mp hx
  rfl
/-- want_marks, where they are marks, in a list -/
def marksOk (g : Str) (ms : List Str) : Prop := 1 ≤ ms.length ∧ ms.length ≤ 3 ∧ (∀ m ∈ ms, shortLine 12 g (.str m) = true) ∧ ms.Nodup
def spFineMarks (K : PySem.W.Frag) : Sp := fun vs H Q _ => ∃ g q ms, vs = [.str g, .ref q] ∧ SqL K H q (ms.map V.str) ∧ (∃ o, H q = some o) ∧ marksOk g ms ∧ ∀ H', But [] H H' → Q .non H'
theorem scWm : FnScope ["signs", "value", "position", "mark"] ["signs", "value"] (defScope (top 28)) := ⟨rfl, rfl, rfl, by decide +kernel, rfl, by decide +kernel, by decide +kernel⟩
theorem d_fineMarks (B : Blt mg base) (D : At K mg "want_marks" (top 28)) (T : Consts2 mg) (D0 : Def P w K mg base 1 "is_list" (top 15) ["value"] (sp1 K isSeq)) (D1 : Def P w K mg base 2 "is_mark_line" (top 26) ["signs", "value"] (spShort K 12)) :
    Def P w K mg base 3 "want_marks" (top 28) ["signs", "value"] (spFineMarks K) := by
  refine def_of D B scWm (fun vs H Q E ⟨_, _, _, e, _⟩ => by rw [e]; rfl) fun f cdv A outer s H vs Q E hm C h => ?_
  obtain ⟨g, q, ms, rfl, hq, ⟨o, ho⟩, ⟨n1, n3, hms, hnd⟩, hQ⟩ := h
  obtain ⟨u, hu, ru⟩ := T.levels
  refine b_cons (s_ifB false ?_ (fun e => by cases e) (fun _ H1 b1 => b_nil (b_cons (s_for C (i_enum B (e_name 1 ?_))))))
  · refine t_boolop (w_or (t_not (t_val (e_call (C.mono (by decide)) D0 (a_cons (e_name 1 (a_nil ?_))) rfl (fun _ _ _ _ _ _ us hl => match us, hl with | [_], _ => rfl)))))
    refine ⟨_, [], .list (ms.map PyData.str), rfl, .lst hq (by simp) (DDs.strs ms), trivial, fun H' b => ⟨true, rfl, ite_b (fun e => by cases e) fun _ => ?_⟩⟩
    refine w_or1 (t_not (t_chain (e_int (e_len B (e_name 1 (v := .ref q) ⟨ms.length, .inl ⟨_, b.sql (by simp) hq, by simp⟩, c_le ⟨_, rfl, ite_b (fun e => e_glob (c_le ⟨_, rfl, ?_, b⟩) hu ru) fun e => ?_⟩⟩)))))
    · rw [decide_eq_true (by omega)]
      rfl
    · have := of_decide_eq_false e
      omega
  · have hq1 : ∀ {H2}, But [] H H2 → SqL K H2 q (ms.map V.str) := fun b => b.sql (by simp) hq
    refine ⟨q, _, rfl, hq1 b1, ms.length, _, _, (by have := walk_enum (K := K) (a := q) (xs := ms.map V.str); rwa [List.length_map] at this), fun i σ H' => (∃ v1 v2, σ = [some (.str g), some (.ref q), v1, v2]) ∧ But [] H H', ⟨⟨none, none, rfl⟩, b1⟩, fun i σ H' _ h => hq1 h.2, ?_, ?_⟩
    · rintro i x σ H2 H3 hi ⟨⟨v1, v2, rfl⟩, b2⟩ ⟨t, x1, y1, rfl, ht, rfl, e1, e2⟩
      cases e1
      replace e2 : (ms.map V.str)[i]? = some y1 := e2
      rw [List.getElem?_map, Option.map_eq_some_iff] at e2
      obtain ⟨m, hmi, rfl⟩ := e2
      have hmem := List.mem_of_getElem? hmi
      have hm12 := hms m hmem
      have hlen : m.length ≤ 12 := by simp only [shortLine, Bool.and_eq_true, decide_eq_true_eq] at hm12; exact hm12.2
      refine g_tup (gs_cons (g_name (i := 2) (gs_cons (g_name (i := 3) (gs_nil ?_) C.nd)) C.nd)) rfl (.inl (.inl upd_same))
      have b3 : But [] H (upd H2 t (.tup [.int (i : Nat), .str m])) := b2.trans (But.new ht)
      refine b_cons (s_ifB false ?_ (fun e => by cases e) (fun _ H4 b4 => b_nil (b_nil ⟨⟨_, _, rfl⟩, b3.trans b4⟩)))
      refine t_boolop (w_or (t_not (t_val (e_call (C.mono (by decide)) D1 (a_cons (e_name 0 (a_cons (e_name 3 (a_nil ?_))))) rfl (fun _ _ _ _ _ _ us hl => match us, hl with | [_, _], _ => rfl)))))
      refine ⟨g, _, [], .str m, rfl, .str m, by show m.length ≤ _; rw [sizeLine_eq]; omega, fun H4 b4 => ⟨_, rfl, ite_b (fun e => by rw [hm12] at e; cases e) fun _ => ?_⟩⟩
      refine w_or1 (t_cmp (e_name 3 (v := .str m) (e_slice sl_list (e_name 1 (v := .ref q) (p_none (p_some (e_name 2 (v := .int (i : Nat)) ⟨_, rfl, q, _, rfl, hq1 (b3.trans b4), fun r hr => ?_⟩)))))))
      have hcut : cutV (ms.map V.str) none (some ((i : Nat) : Int)) = (ms.take i).map V.str := by
        unfold cutV
        rw [HT.sIx_nat, HT.sIx_none, List.length_map, List.drop_zero, Nat.sub_zero, List.map_take, Nat.min_eq_left (by omega)]
      rw [hcut]
      refine c_inL (.inl (.inl (.inl upd_same))) rfl (flat_strs _) ⟨_, rfl, ?_, b4.trans (But.new hr)⟩
      rw [Bool.eq_false_iff]
      intro e
      simp only [inV, List.any_map, List.any_eq_true, Function.comp, eqV, beq_iff_eq] at e
      obtain ⟨y, hy, rfl⟩ := e
      obtain ⟨j, hj, ej⟩ := List.getElem_of_mem hy
      rw [List.getElem_take] at ej
      rw [List.length_take] at hj
      have hi' : i < ms.length := hi
      have e3 : ms[i]? = some ms[i] := List.getElem?_eq_getElem hi'
      rw [hmi] at e3
      have e4 : ms[j] = ms[i] := ej.trans (Option.some.inj e3)
      exact List.pairwise_iff_getElem.mp hnd j i (by omega) hi' (by omega) e4
    · rintro σ H2 ⟨_, b2⟩
      exact b_nil (hQ H2 b2)
end
end K61

set_option Elab.async false
set_option linter.all false
set_option maxRecDepth 100000
set_option maxHeartbeats 4000000
namespace K61
open PySem PySem.Spec PyProof.Rows L2 Z
/-! ### cares -/
def wordsOf (nm : Str) : List Str := if nm = "order" then ["inner", "outer"] else ["refuse", "close"]
def wordOk (g nm x : Str) : Prop := if nm = "sight" then x = "whole" ∨ x = "start" ∨ ∃ c ∈ g.cps.toList, x = ⟨#[c]⟩ else x ∈ wordsOf nm
structure Words (K : PySem.W.Frag) (w : World) (mg : Str → Option Value) : Prop where
  ex : ∃ d, mg "WORDS" = some (.ref d) ∧ ∀ nm : Str, nm = "order" ∨ nm = "further" ∨ nm = "finish" → ∃ t, KDct K w d nm (.ref t) ∧ ∀ H, SqT K H t ((wordsOf nm).map V.str)
section
variable {P : Program} {w : World} {K : PySem.W.Frag} {mg : Str → Option Value} {base : Heap}
def isName (nm : Str) : Prop := nm = "sight" ∨ nm = "order" ∨ nm = "further" ∨ nm = "finish"
def spWord : Sp := fun vs H Q _ => ∃ g nm x, vs = [.str g, .str nm, .str x] ∧ isName nm ∧ wordOk g nm x ∧ ∀ H', But [] H H' → Q (.bl true) H'
theorem scWd : FnScope ["signs", "name", "value"] ["signs", "name", "value"] (defScope (top 29)) := ⟨rfl, rfl, rfl, by decide +kernel, rfl, by decide +kernel, by decide +kernel⟩
theorem d_isWord (B : Blt mg base) (D : At K mg "is_word" (top 29)) (T : Words K w mg) : Def P w K mg base 1 "is_word" (top 29) ["signs", "name", "value"] spWord := by
  refine def_of D B scWd (fun vs H Q E ⟨_, _, _, e, _⟩ => by rw [e]; rfl) fun f cdv A outer s H vs Q E hm C h => ?_
  obtain ⟨g, nm, x, rfl, hn, hw, q⟩ := h
  obtain ⟨d, hd, hT⟩ := T.ex
  refine b_cons (s_ifB false ?_ (fun e => by cases e) (fun _ H1 b1 => b_nil ?_))
  · exact t_not (t_val (e_isi B kit_str B.str PyProof.Rows.boot_str (e_name 2 (v := .str x) ⟨[], .str x, .str x, true, rfl, rfl, But.refl⟩)))
  refine b_cons (s_ifB (decide (nm = "sight")) ?_ (fun e H2 b2 => ?_) (fun e H2 b2 => ?_))
  · refine t_cmp (e_name 1 (v := .str nm) (e_str (c_eq rfl ⟨_, rfl, ?_, But.refl⟩)))
    rw [decide_eq_decide, V.str.injEq]
  · have e := of_decide_eq_true e
    subst e
    rw [wordOk, if_pos rfl] at hw
    have two : 2 ≤ sizeLine := by rw [sizeLine_eq]; exact (by decide : 2 ≤ 16777216)
    refine b_cons (s_ret (e_or (e_cmp (e_name 2 (v := .str x) (e_tup (a_cons (e_str (a_cons (e_str (a_nil ⟨two, fun t ht => ?_⟩))))))))))
    refine c_inL (.inr (.inl (.inl upd_same))) rfl rfl ⟨_, rfl, ite_b (fun e => q _ (b1.trans (b2.trans (But.new ht)))) fun e => ?_⟩
    have hin : ∃ c ∈ g.cps.toList, x = ⟨#[c]⟩ := by
      rcases hw with h | h | h
      · subst h; cases e
      · subst h; cases e
      · exact h
    obtain ⟨c, hc, rfl⟩ := hin
    refine e_one (e_and (e_cmp (e_len B (e_name 2 (v := .str ⟨#[c]⟩) ⟨1, ⟨by rw [sizeLine_eq]; exact (by decide : 1 ≤ 16777216), rfl⟩, e_int (c_eq rfl ⟨true, rfl, ite_b (fun _ => ?_) fun e => by cases e⟩)⟩))))
    refine e_one (e_cmp (e_name 2 (v := .str ⟨#[c]⟩) (e_name 0 (v := .str g) (c_inSign ?_))))
    rw [decide_eq_true hc]
    exact q _ (b1.trans (b2.trans (But.new ht)))
  · have e := of_decide_eq_false e
    have hn' : nm = "order" ∨ nm = "further" ∨ nm = "finish" := hn.resolve_left e
    rw [wordOk, if_neg e] at hw
    obtain ⟨t, kd, st⟩ := hT nm hn'
    refine b_nil (b_cons (s_ret (e_cmp (e_name 2 (v := .str x) (e_ix (e_glob (e_name 1 (v := .str nm) (iW_of ix_kdict ⟨d, nm, .ref t, rfl, rfl, kd, ?_⟩)) hd rfl))))))
    refine c_inL (.inr (st H2)) rfl (flat_strs _) ?_
    have : inV (.str x) ((wordsOf nm).map V.str) = true := by
      simp only [inV, List.any_map, List.any_eq_true, Function.comp, eqV, beq_iff_eq]
      exact ⟨x, hw, rfl⟩
    rw [this]
    exact q _ (b1.trans b2)
def spCares : Sp := fun vs H Q _ => ∃ (g : Str) (d : Addr) (kvs : List (Str × Str)), vs = [.str g, .ref d] ∧ H d = some (.dK (kvs.map fun q : Str × Str => (.inr q.1, .str q.2))) ∧ (∀ q ∈ kvs, isName q.1 ∧ wordOk g q.1 q.2) ∧ ∀ H', But [] H H' → Q .non H'
theorem scWc : FnScope ["signs", "cares", "name", "value"] ["signs", "cares"] (defScope (top 30)) := ⟨rfl, rfl, rfl, by decide +kernel, rfl, by decide +kernel, by decide +kernel⟩
theorem d_wantCares (B : Blt mg base) (D : At K mg "want_cares" (top 30)) (D1 : Def P w K mg base 1 "is_word" (top 29) ["signs", "name", "value"] spWord) : Def P w K mg base 2 "want_cares" (top 30) ["signs", "cares"] spCares := by
  refine def_of D B scWc (fun vs H Q E ⟨_, _, _, e, _⟩ => by rw [e]; rfl) fun f cdv A outer s H vs Q E hm C h => ?_
  obtain ⟨g, d, kvs, rfl, hd, hk, q⟩ := h
  refine b_cons (s_lock hd trivial fun od => s_for C (i_items (e_name 1 (v := .ref d) ⟨d, od, _, rfl, upd_same, ?_⟩)))
  refine ⟨_, _, _, walk_items, fun i σ H' => (∃ v1 v2, σ = [some (.str g), some (.ref d), v1, v2]) ∧ But [] (upd H d (.frz od (.dK (kvs.map fun q : Str × Str => (.inr q.1, .str q.2))))) H', ⟨⟨none, none, rfl⟩, But.refl⟩, fun i σ H' _ h => h.2 _ _ (by simp) upd_same, ?_, ?_⟩
  · rintro i x σ H2 H3 hi ⟨⟨v1, v2, rfl⟩, b2⟩ ⟨t, x1, y1, rfl, ht, rfl, e1, e2⟩
    replace e1 : ((kvs.map fun q : Str × Str => ((.inr q.1 : Key), V.str q.2))[i]?).map (fun kv => kV kv.1) = some x1 := e1
    replace e2 : ((kvs.map fun q : Str × Str => ((.inr q.1 : Key), V.str q.2))[i]?).map Prod.snd = some y1 := e2
    have hi' : i < kvs.length := by simpa using hi
    rw [List.getElem?_map, List.getElem?_eq_getElem hi'] at e1 e2
    cases e1
    cases e2
    obtain ⟨hn, hw⟩ := hk kvs[i] (List.getElem_mem hi')
    refine g_tup (gs_cons (g_name (i := 2) (gs_cons (g_name (i := 3) (gs_nil ?_) C.nd)) C.nd)) rfl (.inl (.inl upd_same))
    refine b_cons (s_ifB false ?_ (fun e => by cases e) (fun _ H4 b4 => b_nil (b_nil ⟨⟨_, _, rfl⟩, b2.trans ((But.new ht).trans b4)⟩)))
    refine t_not (t_val (e_call C D1 (a_cons (e_name 0 (a_cons (e_name 2 (a_cons (e_name 3 (a_nil ?_))))))) rfl (fun _ _ _ _ _ _ us hl => match us, hl with | [_, _, _], _ => rfl)))
    exact ⟨g, _, _, rfl, hn, hw, fun H' b => ⟨true, rfl, rfl, b⟩⟩
  · rintro σ H2 ⟨_, b2⟩
    exact ⟨b2 _ _ (by simp) upd_same, b_nil (q _ (but_unlock hd b2))⟩
end
end K61

set_option Elab.async false
set_option linter.all false
set_option maxRecDepth 100000
set_option maxHeartbeats 4000000
namespace K61
open PySem PySem.Spec PyProof.Rows L2 Z
/-! ### the reader -/
/-- what a reader holds -/
structure RData where
  g : Str
  ms : List Str
  t : Str
  si : Str
  od : Str
  fu : Str
  fi : Str
structure RData.Ok (R : RData) : Prop where
  g : strSigns R.g = true
  ms : marksOk R.g R.ms
  t : shortLine 3 R.g (.str R.t) = true
  si : wordOk R.g "sight" R.si
  od : wordOk R.g "order" R.od
  fu : wordOk R.g "further" R.fu
  fi : wordOk R.g "finish" R.fi
def RData.cares (R : RData) : List (Str × Str) := [("sight", R.si), ("order", R.od), ("further", R.fu), ("finish", R.fi)]
def RData.kvs (R : RData) : List (Key × V) := R.cares.map fun q => (.inr q.1, .str q.2)
def RData.fields (R : RData) (ml cd : Addr) : List (Str × V) := [("own_signs", .str R.g), ("own_marks", .ref ml), ("own_tail", .str R.t), ("own_cares", .ref cd)]
/-- a reader at r -/
structure IsReader (CR : Addr) (R : RData) (H : Hp) (r : Addr) : Prop where
  ex : ∃ dx ml cd, H r = some (.ins CR dx (R.fields ml cd)) ∧ H ml = some (.lst (R.ms.map V.str)) ∧ H cd = some (.dK R.kvs)
theorem IsReader.but {CR : Addr} {R : RData} {l : List Addr} {H H' : Hp} {r : Addr} (h : IsReader CR R H r) (b : But l H H') (hl : ∀ q ∈ l, ∃ xs, H q = some (.lst xs) ∧ xs ≠ R.ms.map V.str) : IsReader CR R H' r := by
  obtain ⟨dx, ml, cd, h1, h2, h3⟩ := h.ex
  have n : ∀ {q o}, H q = some o → (∀ xs, o ≠ .lst xs) → q ∉ l := fun {q o} e no hm => by
    obtain ⟨xs, e2, _⟩ := hl q hm
    rw [e] at e2
    cases e2
    exact no _ rfl
  refine ⟨dx, ml, cd, b _ _ (n h1 fun xs z => by cases z) h1, b _ _ (fun hm => ?_) h2, b _ _ (n h3 fun xs z => by cases z) h3⟩
  obtain ⟨xs, e2, ne⟩ := hl ml hm
  rw [h2] at e2
  cases e2
  exact ne rfl
structure ClsR (K : PySem.W.Frag) (CR : Addr) : Prop where
  c : Cls K CR
  n1 : NoAttr K CR "own_signs"
  n2 : NoAttr K CR "own_marks"
  n3 : NoAttr K CR "own_tail"
  n4 : NoAttr K CR "own_cares"
section
variable {P : Program} {w : World} {K : PySem.W.Frag} {mg : Str → Option Value} {base : Heap}
def rPs : List Str := ["self", "signs", "marks", "tail", "sight", "order", "further", "finish"]
def spInit (K : PySem.W.Frag) (CR : Addr) : Sp := fun vs H Q _ => ∃ (r dx q : Addr) (R : RData), vs = [.ref r, .str R.g, .ref q, .str R.t, .str R.si, .str R.od, .str R.fu, .str R.fi] ∧ R.Ok ∧ H r = some (.ins CR dx []) ∧ H q = some (.lst (R.ms.map V.str)) ∧
  ∀ H', But [r] H H' → IsReader CR R H' r → Q .non H'
theorem scIn : FnScope ["self", "signs", "marks", "tail", "sight", "order", "further", "finish", "cares"] rPs (defScope (clsAt (top 38) 0)) := ⟨rfl, rfl, rfl, by decide +kernel, rfl, by decide +kernel, by decide +kernel⟩
theorem d_init {CR f : Addr} {oc dV kV doc pm cdv ct : Value} {od an : Option Addr} {osl : Array (Option Value)} (B : Blt mg base) (CL : ClsR K CR)
    (lk : K.lookup f = some ⟨oc, od, .func (PySem.W.fnOf "__init__" "Reader.__init__" (defArgs (clsAt (top 38) 0)) (defBody (clsAt (top 38) 0)) (defScope (clsAt (top 38) 0)) dV kV doc pm an cdv ct), osl⟩) (hcd : PySem.W.codeIn K cdv "Reader.__init__" = true)
    (D1 : Def P w K mg base 2 "want_signs" (top 17) ["value"] (spFine K areSigns)) (D2 : Def P w K mg base 3 "want_marks" (top 28) ["signs", "value"] (spFineMarks K)) (D3 : Def P w K mg base 2 "is_tail" (top 27) ["signs", "value"] (spShort K 3))
    (D4 : Def P w K mg base 2 "want_cares" (top 30) ["signs", "cares"] spCares) :
    FnOk P w K mg base (L2.CX P w) 4 f (PySem.W.fnOf "__init__" "Reader.__init__" (defArgs (clsAt (top 38) 0)) (defBody (clsAt (top 38) 0)) (defScope (clsAt (top 38) 0)) dV kV doc pm an cdv ct) rPs (spInit K CR) := by
  refine fnok_body B lk hcd scIn (fun vs H Q E ⟨_, _, _, _, e, _⟩ => by rw [e]; rfl) fun A outer s H vs Q E C h => ?_
  obtain ⟨r, dx, q, R, rfl, ok, hr, hq, hQ⟩ := h
  have gl := ok.g
  have fg : fits (.str R.g) := by
    simp only [strSigns, Bool.and_eq_true, decide_eq_true_eq] at gl
    show R.g.length ≤ _
    rw [sizeLine_eq]
    omega
  have ft : fits (.str R.t) := by
    have := ok.t
    simp only [shortLine, Bool.and_eq_true, decide_eq_true_eq] at this
    show R.t.length ≤ _
    rw [sizeLine_eq]
    omega
  have hrq : r ≠ q := fun z => by rw [z, hq] at hr; cases hr
  refine b_cons (s_expr (e_call (C.mono (by decide)) D1 (a_cons (e_name 1 (a_nil ?_))) rfl (fun _ _ _ _ _ _ us hl => match us, hl with | [_], _ => rfl)))
  refine ⟨_, [], .str R.g, rfl, .str R.g, fg, gl, fun H1 b1 => ?_⟩
  refine b_cons (s_expr (e_call C D2 (a_cons (e_name 1 (a_cons (e_name 2 (a_nil ?_))))) rfl (fun _ _ _ _ _ _ us hl => match us, hl with | [_, _], _ => rfl)))
  refine ⟨R.g, q, R.ms, rfl, .inl (.inl (b1 _ _ (by simp) hq)), ⟨_, b1 _ _ (by simp) hq⟩, ok.ms, fun H2 b2 => ?_⟩
  refine b_cons (s_ifB false ?_ (fun e => by cases e) (fun _ H3 b3 => b_nil ?_))
  · refine t_not (t_val (e_call (C.mono (by decide)) D3 (a_cons (e_name 1 (a_cons (e_name 3 (a_nil ?_))))) rfl (fun _ _ _ _ _ _ us hl => match us, hl with | [_, _], _ => rfl)))
    exact ⟨R.g, _, [], .str R.t, rfl, .str R.t, ft, fun H' b => ⟨_, rfl, by rw [ok.t]; rfl, b⟩⟩
  have b03 : But [] H H3 := b1.trans (b2.trans b3)
  refine b_cons (s_set (i := 8) (eE (pe_disp (pps_cons pE pE (pps_cons pE pE (pps_cons pE pE (pps_cons pE pE pps_nil)))) rfl rfl (by simp) (by decide)) ?_) C.nd)
  intro cd hcd'
  refine e_str (e_name 4 (e_str (e_name 5 (e_str (e_name 6 (e_str (e_name 7 ?_)))))))
  refine ⟨upd_same, R.kvs, rfl, by show 4 ≤ 15; decide, ?_⟩
  have em : mergeK [] R.kvs = R.kvs := rfl
  have eH : upd (upd H3 cd (.dK [])) cd (.dK (mergeK [] R.kvs)) = upd H3 cd (.dK R.kvs) := by
    rw [em]
    funext a
    by_cases ha : a = cd
    · rw [ha, upd_same, upd_same]
    · rw [upd_ne ha, upd_ne ha, upd_ne ha]
  rw [eH]
  refine b_cons (s_expr (e_call (C.mono (by decide)) D4 (a_cons (e_name 1 (a_cons (e_name 8 (a_nil ?_))))) rfl (fun _ _ _ _ _ _ us hl => match us, hl with | [_, _], _ => rfl)))
  refine ⟨R.g, cd, R.cares, rfl, upd_same, ?_, fun H4 b4 => ?_⟩
  · intro x hx
    simp only [RData.cares, List.mem_cons, List.not_mem_nil, or_false] at hx
    rcases hx with rfl | rfl | rfl | rfl
    · exact ⟨.inl rfl, ok.si⟩
    · exact ⟨.inr (.inl rfl), ok.od⟩
    · exact ⟨.inr (.inr (.inl rfl)), ok.fu⟩
    · exact ⟨.inr (.inr (.inr rfl)), ok.fi⟩
  have bn : But [] H3 (upd H3 cd (.dK R.kvs)) := But.new hcd'
  have hr4 : H4 r = some (.ins CR dx []) := b4 _ _ (by simp) (bn _ _ (by simp) (b03 _ _ (by simp) hr))
  have hq4 : H4 q = some (.lst (R.ms.map V.str)) := b4 _ _ (by simp) (bn _ _ (by simp) (b03 _ _ (by simp) hq))
  have hc4 : H4 cd = some (.dK R.kvs) := b4 _ _ (by simp) upd_same
  have b04 : But [] H H4 := b03.trans (bn.trans b4)
  have nrc : r ≠ cd := fun z => by rw [z, hc4] at hr4; cases hr4
  refine b_cons (s_fld (e_name 1 (e_name 0 ⟨dx, [], rfl, hr4, (by decide : 0 < 1000), ?_⟩)) CL.c CL.n1)
  refine b_cons (s_fld (e_listOf B (e_name 2 (v := .ref q) ⟨q, _, rfl, .inl (.inl (.inl (by rw [upd_ne hrq.symm]; exact hq4))), fun ml hml => e_name 0 ⟨dx, [("own_signs", .str R.g)], rfl, ?_, by simp, ?_⟩⟩)) CL.c CL.n2)
  · rw [upd_ne (ne_of_none upd_same hml), upd_same]
    rfl
  have nrm : r ≠ ml := ne_of_none upd_same hml
  have hml4 : H4 ml = none := by rw [upd_ne nrm.symm] at hml; exact hml
  have ncm : cd ≠ ml := ne_of_none hc4 hml4
  refine b_cons (s_fld (e_name 3 (e_name 0 ⟨dx, [("own_signs", .str R.g), ("own_marks", .ref ml)], rfl, upd_same, by simp, ?_⟩)) CL.c CL.n3)
  refine b_cons (s_fld (e_name 8 (e_name 0 ⟨dx, [("own_signs", .str R.g), ("own_marks", .ref ml), ("own_tail", .str R.t)], rfl, upd_same, by simp, ?_⟩)) CL.c CL.n4)
  refine b_nil (hQ _ ?_ ⟨dx, ml, cd, upd_same, ?_, ?_⟩)
  · refine b04.of.trans (fun a o na e => ?_)
    have nar : a ≠ r := by simpa using na
    have nam : a ≠ ml := ne_of_none e hml4
    rw [upd_ne nar, upd_ne nar, upd_ne nar, upd_ne nam, upd_ne nar]
    exact e
  · rw [upd_ne nrm.symm, upd_ne nrm.symm, upd_ne nrm.symm, upd_same]
  · rw [upd_ne nrc.symm, upd_ne nrc.symm, upd_ne nrc.symm, upd_ne ncm, upd_ne nrc.symm]
    exact hc4
end
end K61

set_option Elab.async false
set_option linter.all false
set_option maxRecDepth 100000
set_option maxHeartbeats 4000000
namespace K61
open PySem PySem.Spec PyProof.Rows L2 Z
section
variable {P : Program} {w : World} {K : PySem.W.Frag} {mg : Str → Option Value} {base : Heap} {CR : Addr}
def spGet (CR : Addr) (f : RData → V) : Sp := fun vs H Q _ => ∃ r R, vs = [.ref r] ∧ IsReader CR R H r ∧ Q (f R) H
theorem scG1 : FnScope ["self"] ["self"] (defScope (clsAt (top 38) 1)) := ⟨rfl, rfl, rfl, by decide +kernel, rfl, by decide +kernel, by decide +kernel⟩
theorem scG2 : FnScope ["self"] ["self"] (defScope (clsAt (top 38) 2)) := ⟨rfl, rfl, rfl, by decide +kernel, rfl, by decide +kernel, by decide +kernel⟩
theorem scG3 : FnScope ["self"] ["self"] (defScope (clsAt (top 38) 3)) := ⟨rfl, rfl, rfl, by decide +kernel, rfl, by decide +kernel, by decide +kernel⟩
/-- what the head tells of a property -/
structure PropAt (K : PySem.W.Frag) (CR : Addr) (m q : Str) (st : Stmt) : Prop where
  ex : ∃ (pr f : Addr) (oc doc pm cdv ct : Value) (od an : Option Addr) (osl : Array (Option Value)), PropOf K CR m pr f ∧ K.lookup f = some ⟨oc, od, .func (PySem.W.fnOf m q (defArgs st) (defBody st) (defScope st) .none .none doc pm an cdv ct), osl⟩ ∧ PySem.W.codeIn K cdv q = true
structure MethAt (K : PySem.W.Frag) (CR : Addr) (m q : Str) (st : Stmt) : Prop where
  ex : ∃ (f : Addr) (oc doc pm cdv ct : Value) (od an : Option Addr) (osl : Array (Option Value)), Meth K CR m f ∧ K.lookup f = some ⟨oc, od, .func (PySem.W.fnOf m q (defArgs st) (defBody st) (defScope st) .none .none doc pm an cdv ct), osl⟩ ∧ PySem.W.codeIn K cdv q = true
theorem bind1 {m q : Str} {st : Stmt} {dV kV doc pm cdv ct : Value} {an : Option Addr} (h : ∀ us : List Value, us.length = (["self"] : List Str).length → bindArgs (PySem.W.fnOf m q (defArgs st) (defBody st) (defScope st) dV kV doc pm an cdv ct) ⟨us, []⟩ = pure ((["self"] : List Str).zip us)) :
    Binds K (PySem.W.fnOf m q (defArgs st) (defBody st) (defScope st) dV kV doc pm an cdv ct) ["self"] [] := Binds.all h
theorem d_signs (B : Blt mg base) (CL : ClsR K CR) (D : PropAt K CR "signs" "Reader.signs" (clsAt (top 38) 1)) : PropOk P w K mg base 1 CR "signs" (spGet CR fun R => .str R.g) := by
  obtain ⟨pr, f, oc, doc, pm, cdv, ct, od, an, osl, hp, lk, hcd⟩ := D.ex
  refine ⟨pr, f, _, hp, fnok_body B lk hcd scG1 (fun vs H Q E ⟨_, _, e, _⟩ => by rw [e]; rfl) fun A outer s H vs Q E C h => ?_, bind1 fun us hl => match us, hl with | [_], _ => rfl⟩
  obtain ⟨r, R, rfl, hr, q⟩ := h
  obtain ⟨dx, ml, cd, h1, h2, h3⟩ := hr.ex
  exact b_cons (s_ret (e_fld (e_name 0 ⟨rfl, h1, q⟩) CL.c CL.n1 rfl))
theorem d_tail (B : Blt mg base) (CL : ClsR K CR) (D : PropAt K CR "tail" "Reader.tail" (clsAt (top 38) 2)) : PropOk P w K mg base 1 CR "tail" (spGet CR fun R => .str R.t) := by
  obtain ⟨pr, f, oc, doc, pm, cdv, ct, od, an, osl, hp, lk, hcd⟩ := D.ex
  refine ⟨pr, f, _, hp, fnok_body B lk hcd scG2 (fun vs H Q E ⟨_, _, e, _⟩ => by rw [e]; rfl) fun A outer s H vs Q E C h => ?_, bind1 fun us hl => match us, hl with | [_], _ => rfl⟩
  obtain ⟨r, R, rfl, hr, q⟩ := h
  obtain ⟨dx, ml, cd, h1, h2, h3⟩ := hr.ex
  exact b_cons (s_ret (e_fld (e_name 0 ⟨rfl, h1, q⟩) CL.c CL.n3 rfl))
theorem d_depth (B : Blt mg base) (CL : ClsR K CR) (D : PropAt K CR "depth" "Reader.depth" (clsAt (top 38) 3)) : PropOk P w K mg base 1 CR "depth" (spGet CR fun R => .int (R.ms.length : Nat)) := by
  obtain ⟨pr, f, oc, doc, pm, cdv, ct, od, an, osl, hp, lk, hcd⟩ := D.ex
  refine ⟨pr, f, _, hp, fnok_body B lk hcd scG3 (fun vs H Q E ⟨_, _, e, _⟩ => by rw [e]; rfl) fun A outer s H vs Q E C h => ?_, bind1 fun us hl => match us, hl with | [_], _ => rfl⟩
  obtain ⟨r, R, rfl, hr, q⟩ := h
  obtain ⟨dx, ml, cd, h1, h2, h3⟩ := hr.ex
  exact b_cons (s_ret (e_len B (e_fld (v := .ref ml) (e_name 0 ⟨rfl, h1, R.ms.length, .inl ⟨_, .inl (.inl h2), by simp⟩, q⟩) CL.c CL.n2 rfl)))
/-! ### roles and their lines -/
structure Kinds (K : PySem.W.Frag) (mg : Str → Option Value) : Prop where
  ex : ∃ t, mg "KINDS" = some (.ref t) ∧ ∀ H, SqT K H t [.str "next", .str "end"]
def kindS (b : Bool) : Str := if b = true then "next" else "end"
def lineOf (R : RData) (nx : Bool) (lv : Nat) : Str := (R.ms.getD (lv - 1) "") ++ (if nx = true then ("" : Str) else R.t)
def spLevel (CR : Addr) : Sp := fun vs H Q _ => ∃ (r : Addr) (R : RData) (lv : Nat), vs = [.ref r, .int lv] ∧ IsReader CR R H r ∧ 1 ≤ lv ∧ lv ≤ R.ms.length ∧ ∀ H', But [] H H' → Q (.bl true) H'
theorem scLv : FnScope ["reader", "value"] ["reader", "value"] (defScope (top 31)) := ⟨rfl, rfl, rfl, by decide +kernel, rfl, by decide +kernel, by decide +kernel⟩
theorem d_isLevel (B : Blt mg base) (CL : ClsR K CR) (D : At K mg "is_level" (top 31)) (D1 : Def P w K mg base 1 "is_integer" (top 14) ["value"] (sp1 K isInteger)) (D2 : PropOk P w K mg base 1 CR "depth" (spGet CR fun R => .int (R.ms.length : Nat))) :
    Def P w K mg base 3 "is_level" (top 31) ["reader", "value"] (spLevel CR) := by
  refine def_of D B scLv (fun vs H Q E ⟨_, _, _, e, _⟩ => by rw [e]; rfl) fun f cdv A outer s H vs Q E hm C h => ?_
  obtain ⟨r, R, lv, rfl, hr, l1, l2, q⟩ := h
  refine b_cons (s_ret (e_and (e_call (C.mono (by decide)) D1 (a_cons (e_name 1 (a_nil ?_))) rfl (fun _ _ _ _ _ _ us hl => match us, hl with | [_], _ => rfl))))
  refine ⟨_, [], .int lv, rfl, .int lv, trivial, fun H1 b1 => ⟨true, rfl, ite_b (fun _ => e_one (e_chain (e_int (e_name 1 (v := .int lv) (c_le ⟨_, rfl, ite_b (fun e => ?_) fun e => ?_⟩))))) fun e => by cases e⟩⟩
  · have hr1 := hr.but b1 (by simp)
    obtain ⟨dx, ml, cd, h1, h2, h3⟩ := hr1.ex
    refine e_prop C CL.c D2 (e_name 0 ⟨rfl, h1, r, R, rfl, hr1, c_le ?_⟩)
    rw [decide_eq_true (by omega)]
    exact q H1 b1
  · have := of_decide_eq_false e
    omega
def spRole (K : PySem.W.Frag) (CR : Addr) (Rt : RData → Bool → Nat → V) : Sp := fun vs H Q _ => ∃ (r : Addr) (R : RData) (t : Addr) (nx : Bool) (lv : Nat), vs = [.ref r, .ref t] ∧ IsReader CR R H r ∧ SqT K H t [.str (kindS nx), .int lv] ∧ 1 ≤ lv ∧ lv ≤ R.ms.length ∧ R.Ok ∧ ∀ H', But [] H H' → Q (Rt R nx lv) H'
theorem scIr : FnScope ["reader", "value"] ["reader", "value"] (defScope (top 33)) := ⟨rfl, rfl, rfl, by decide +kernel, rfl, by decide +kernel, by decide +kernel⟩
theorem d_isRole (B : Blt mg base) (T : Kinds K mg) (D : At K mg "is_role" (top 33)) (D1 : Def P w K mg base 3 "is_level" (top 31) ["reader", "value"] (spLevel CR)) :
    Def P w K mg base 4 "is_role" (top 33) ["reader", "value"] (spRole K CR fun _ _ _ => .bl true) := by
  refine def_of D B scIr (fun vs H Q E ⟨_, _, _, _, _, e, _⟩ => by rw [e]; rfl) fun f cdv A outer s H vs Q E hm C h => ?_
  obtain ⟨r, R, t, nx, lv, rfl, hr, ht, l1, l2, ok, q⟩ := h
  obtain ⟨kt, hkt, kq⟩ := T.ex
  have dd : DD K [] H (.ref t) (.tuple [.str (kindS nx), .int lv]) := .tup ht (by simp) (.cons (.str _) (.cons (.int _) .nil))
  refine b_cons (s_ifB false ?_ (fun e => by cases e) (fun _ H1 b1 => b_nil ?_))
  · refine t_boolop (w_or (t_not (t_val (e_isi B kit_tuple B.tuple PyProof.Rows.boot_tuple (e_name 1 ⟨[], _, dd, true, rfl, ite_b (fun e => by cases e) fun _ => ?_⟩)))))
    refine w_or (t_cmp (e_len B (e_name 1 (v := .ref t) ⟨2, .inr ⟨_, ht, rfl⟩, e_int (c_ne rfl ⟨_, rfl, ite_b (fun e => by cases e) fun _ => ?_⟩)⟩)))
    exact w_or1 (t_not (t_val (e_isi B kit_str B.str PyProof.Rows.boot_str (e_ix (e_name 1 (v := .ref t) (e_int (ix_t ht (v := .str (kindS nx)) rfl ⟨[], .str _, .str _, true, rfl, rfl, But.refl⟩)))))))
  have ht1 : SqT K H1 t [.str (kindS nx), .int lv] := b1.sqt (by simp) ht
  refine b_cons (s_ret (e_and (e_cmp (e_ix (e_name 1 (v := .ref t) (e_int (ix_t ht1 (v := .str (kindS nx)) rfl (e_glob (v := .ref kt) (c_inL (.inr (kq H1)) rfl rfl ⟨true, ?_, ite_b (fun _ => ?_) fun e => by cases e⟩) hkt rfl))))))))
  · cases nx <;> rfl
  refine e_one (e_call C D1 (a_cons (e_name 0 (v := .ref r) (a_cons (e_ix (e_name 1 (v := .ref t) (e_int (ix_t ht1 (v := .int lv) rfl (a_nil ?_)))))))) rfl (fun _ _ _ _ _ _ us hl => match us, hl with | [_, _], _ => rfl))
  exact ⟨r, R, lv, rfl, hr.but b1 (by simp), l1, l2, fun H' b => q H' (b1.trans b)⟩
theorem scWr : FnScope ["reader", "role"] ["reader", "role"] (defScope (top 34)) := ⟨rfl, rfl, rfl, by decide +kernel, rfl, by decide +kernel, by decide +kernel⟩
theorem d_wantRole (B : Blt mg base) (D : At K mg "want_role" (top 34)) (D1 : Def P w K mg base 4 "is_role" (top 33) ["reader", "value"] (spRole K CR fun _ _ _ => .bl true)) :
    Def P w K mg base 5 "want_role" (top 34) ["reader", "role"] (spRole K CR fun _ _ _ => .non) := by
  refine def_of D B scWr (fun vs H Q E ⟨_, _, _, _, _, e, _⟩ => by rw [e]; rfl) fun f cdv A outer s H vs Q E hm C h => ?_
  obtain ⟨r, R, t, nx, lv, rfl, hr, ht, l1, l2, ok, q⟩ := h
  refine b_cons (s_ifB false ?_ (fun e => by cases e) (fun _ H1 b1 => b_nil (b_nil (q H1 b1))))
  refine t_not (t_val (e_call C D1 (a_cons (e_name 0 (a_cons (e_name 1 (a_nil ?_))))) rfl (fun _ _ _ _ _ _ us hl => match us, hl with | [_, _], _ => rfl)))
  exact ⟨r, R, t, nx, lv, rfl, hr, ht, l1, l2, ok, fun H' b => ⟨true, rfl, rfl, b⟩⟩
theorem scLr : FnScope ["reader", "role", "kind", "level", "mark"] ["reader", "role"] (defScope (top 36)) := ⟨rfl, rfl, rfl, by decide +kernel, rfl, by decide +kernel, by decide +kernel⟩
theorem d_lineOfRole (B : Blt mg base) (CL : ClsR K CR) (D : At K mg "line_of_role" (top 36)) (D1 : PropOk P w K mg base 1 CR "tail" (spGet CR fun R => .str R.t)) :
    Def P w K mg base 3 "line_of_role" (top 36) ["reader", "role"] (spRole K CR fun R nx lv => .str (lineOf R nx lv)) := by
  refine def_of D B scLr (fun vs H Q E ⟨_, _, _, _, _, e, _⟩ => by rw [e]; rfl) fun f cdv A outer s H vs Q E hm C h => ?_
  obtain ⟨r, R, t, nx, lv, rfl, hr, ht, l1, l2, ok, q⟩ := h
  obtain ⟨dx, ml, cd, h1, h2, h3⟩ := hr.ex
  have hlt : lv - 1 < R.ms.length := by omega
  have hget : R.ms.getD (lv - 1) "" = R.ms[lv - 1] := by rw [List.getD_eq_getElem?_getD, List.getElem?_eq_getElem hlt]; rfl
  refine b_cons (s_asg (e_name 1 (v := .ref t) (g_tup (gs_cons (g_name (i := 2) (gs_cons (g_name (i := 3) (gs_nil ?_) C.nd)) C.nd)) rfl ht)))
  refine b_cons (s_set (i := 4) (e_ix (e_fld (e_name 0 ⟨rfl, h1, e_bin (e_name 3 (e_int (o_sub ?_)))⟩) CL.c CL.n2 rfl)) C.nd)
  have e1 : ((lv : Int) - 1) = ((lv - 1 : Nat) : Int) := by omega
  rw [e1]
  refine ix_l (.inl (.inl h2)) (v := .str R.ms[lv - 1]) (atI_nat (by rw [List.getElem?_map, List.getElem?_eq_getElem hlt]; rfl)) ?_
  refine b_cons (s_ret (e_if (t_cmp (e_name 2 (v := .str (kindS nx)) (e_str (c_eq rfl ⟨nx, ?_, ite_b (fun e => ?_) fun e => ?_⟩))))))
  · cases nx <;> rfl
  · subst e
    refine e_name 4 ?_
    have e2 : R.ms[lv - 1] ++ ("" : Str) = R.ms[lv - 1] := by
      apply str_ext
      rw [show (R.ms[lv - 1] ++ ("" : Str)).cps.toList = R.ms[lv - 1].cps.toList ++ [] from TL.tl_append _ _, List.append_nil]
    have e3 : lineOf R true lv = R.ms[lv - 1] := by
      unfold lineOf
      rw [hget, if_pos rfl]
      exact e2
    have := q H But.refl
    simp only [e3] at this
    exact this
  · subst e
    have m12 := ok.ms.2.2.1 _ (List.getElem_mem hlt)
    have t3 := ok.t
    simp only [shortLine, Bool.and_eq_true, decide_eq_true_eq] at m12 t3
    refine e_bin (e_name 4 (v := .str R.ms[lv - 1]) (e_prop C CL.c D1 (e_name 0 ⟨rfl, h1, r, R, rfl, hr, o_adds (by rw [sizeLine_eq]; omega) ?_⟩)))
    have e3 : lineOf R false lv = R.ms[lv - 1] ++ R.t := by
      unfold lineOf
      rw [hget, if_neg (by simp)]
    have := q H But.refl
    simp only [e3] at this
    exact this
theorem scLo : FnScope ["self", "role"] ["self", "role"] (defScope (clsAt (top 38) 13)) := ⟨rfl, rfl, rfl, by decide +kernel, rfl, by decide +kernel, by decide +kernel⟩
theorem d_lineOf (B : Blt mg base) (D : MethAt K CR "line_of" "Reader.line_of" (clsAt (top 38) 13)) (D1 : Def P w K mg base 5 "want_role" (top 34) ["reader", "role"] (spRole K CR fun _ _ _ => .non))
    (D2 : Def P w K mg base 3 "line_of_role" (top 36) ["reader", "role"] (spRole K CR fun R nx lv => .str (lineOf R nx lv))) : MethOk P w K mg base 6 CR "line_of" ["self", "role"] (spRole K CR fun R nx lv => .str (lineOf R nx lv)) := by
  obtain ⟨f, oc, doc, pm, cdv, ct, od, an, osl, hp, lk, hcd⟩ := D.ex
  refine ⟨f, _, hp, fnok_body B lk hcd scLo (fun vs H Q E ⟨_, _, _, _, _, e, _⟩ => by rw [e]; rfl) fun A outer s H vs Q E C h => ?_, Binds.all fun us hl => match us, hl with | [_, _], _ => rfl⟩
  obtain ⟨r, R, t, nx, lv, rfl, hr, ht, l1, l2, ok, q⟩ := h
  refine b_cons (s_expr (e_call C D1 (a_cons (e_name 0 (a_cons (e_name 1 (a_nil ?_))))) rfl (fun _ _ _ _ _ _ us hl => match us, hl with | [_, _], _ => rfl)))
  refine ⟨r, R, t, nx, lv, rfl, hr, ht, l1, l2, ok, fun H1 b1 => ?_⟩
  refine b_cons (s_ret (e_call (C.mono (by decide)) D2 (a_cons (e_name 0 (a_cons (e_name 1 (a_nil ?_))))) rfl (fun _ _ _ _ _ _ us hl => match us, hl with | [_, _], _ => rfl)))
  exact ⟨r, R, t, nx, lv, rfl, hr.but b1 (by simp), b1.sqt (by simp) ht, l1, l2, ok, fun H' b => q H' (b1.trans b)⟩
end
end K61

set_option Elab.async false
set_option linter.all false
set_option maxRecDepth 100000
set_option maxHeartbeats 4000000
namespace K61
open PySem PySem.Spec PyProof.Rows L2 Z
/-! ### trees -/
def okLine (g : Str) : PyData → Bool
  | .str x => isLine g (.str x) && decide (x.length ≤ 1000)
  | _ => false
/-- a tree of n levels -/
def isTree (g : Str) : Nat → PyData → Bool
  | 0, d => seqB d && decide ((items d).length ≤ 10) && (items d).all (okLine g)
  | n + 1, d => seqB d && decide ((items d).length ≤ 10) && (items d).all (isTree g n)
theorem isTree_seq {g : Str} : ∀ {n : Nat} {d : PyData}, isTree g n d = true → seqB d = true ∧ (items d).length ≤ 10
  | 0, d, h => by simp only [isTree, Bool.and_eq_true, decide_eq_true_eq] at h; exact h.1
  | n + 1, d, h => by simp only [isTree, Bool.and_eq_true, decide_eq_true_eq] at h; exact h.1
section
variable {P : Program} {w : World} {K : PySem.W.Frag} {mg : Str → Option Value} {base : Heap} {CR : Addr}
def spTreeOf (K : PySem.W.Frag) (n : Nat) : Sp := fun vs H Q _ => ∃ (g : Str) (v : V) (l : List Addr) (d : PyData), vs = [.str g, v, .int (n : Nat)] ∧ DD K l H v d ∧ isTree g n d = true ∧ ∀ H', But [] H H' → Q (.bl true) H'
theorem scTo : FnScope ["signs", "value", "depth", "line", "part"] ["signs", "value", "depth"] (defScope (top 43)) := ⟨rfl, rfl, rfl, by decide +kernel, rfl, by decide +kernel, by decide +kernel⟩
theorem fits_seq {d : PyData} (h : seqB d = true) : fits d := by cases d <;> simp [seqB, Z.isList, Z.isTuple] at h <;> trivial
theorem d_treeOf (B : Blt mg base) (D : At K mg "is_tree_of" (top 43)) (D0 : Def P w K mg base 1 "is_list" (top 15) ["value"] (sp1 K isSeq)) (D1 : Def P w K mg base 1 "is_line" (top 18) ["signs", "value"] (spLine K)) :
    ∀ n, Def P w K mg base (n + 2) "is_tree_of" (top 43) ["signs", "value", "depth"] (spTreeOf K n)
  | 0 => by
    refine def_of D B scTo (fun vs H Q E ⟨_, _, _, _, e, _⟩ => by rw [e]; rfl) fun f cdv A outer s H vs Q E hm C h => ?_
    obtain ⟨g, v, l, d, rfl, hd, ht, q⟩ := h
    obtain ⟨hs, hn⟩ := isTree_seq ht
    refine b_cons (s_ifB false ?_ (fun e => by cases e) (fun _ H1 b1 => b_nil (b_cons (s_ifB true ?_ (fun _ H2 b2 => ?_) fun e => by cases e))))
    · refine t_not (t_val (e_call C D0 (a_cons (e_name 1 (a_nil ?_))) rfl (fun _ _ _ _ _ _ us hl => match us, hl with | [_], _ => rfl)))
      exact ⟨v, l, d, rfl, hd, fits_seq hs, fun H' b => ⟨_, rfl, by rw [show isSeq d = true from hs]; rfl, b⟩⟩
    · exact t_cmp (e_name 2 (v := .int ((0 : Nat) : Int)) (e_int (c_eq rfl ⟨true, rfl, rfl, But.refl⟩)))
    · refine b_cons (s_ret (e_all C (e_lcM [("line", 3)] C (i_dd (hd.but (b1.trans b2).of) hs (fun Q h => e_name 1 h) fun J G vs W hG hvs => ?_))))
      have hl := hvs.length
      refine ⟨_, _, _, vs.map fun _ => .bl true, W, by simp, by rw [hl, sizeLine_eq]; omega, fun H' b => hG H' b.of, fun i x H3 H' hi b3 hy => ?_, fun Da H' b3 hn hDa => ⟨Da, vs.map fun _ => true, rfl, .inl (.inl (by rw [hDa, List.map_map]; rfl)), ?_⟩⟩
      · obtain ⟨rfl, hx⟩ := hy
        obtain ⟨dx, hdx, hD⟩ := hvs.get hx
        have hok : okLine g dx = true := by
          simp only [isTree, Bool.and_eq_true, List.all_eq_true] at ht
          exact ht.2 dx (List.mem_of_getElem? hdx)
        obtain ⟨y, rfl⟩ : ∃ y, dx = .str y := by cases dx <;> simp [okLine] at hok; exact ⟨_, rfl⟩
        cases hD
        simp only [okLine, Bool.and_eq_true, decide_eq_true_eq] at hok
        refine ⟨But.refl, mt_name (i := 3) C.nd fun s H0 Ca cl fp => e_call (C.blk _ _ _ _ _) D1 (a_cons (e_name 0 (a_cons (e_name 3 (a_nil ?_))))) rfl (fun _ _ _ _ _ _ us hl => match us, hl with | [_, _], _ => rfl)⟩
        refine ⟨g, _, [], .str y, rfl, .str y, by show y.length ≤ _; rw [sizeLine_eq]; omega, fun H' b => ⟨?_, b⟩⟩
        rw [List.getElem?_map, hx, hok.1]
        rfl
      · have : (vs.map fun _ => true).all id = true := by simp
        rw [this]
        exact q H' (b1.trans (b2.trans b3))
  | n + 1 => by
    have IH := d_treeOf B D D0 D1 n
    refine def_of D B scTo (fun vs H Q E ⟨_, _, _, _, e, _⟩ => by rw [e]; rfl) fun f cdv A outer s H vs Q E hm C h => ?_
    obtain ⟨g, v, l, d, rfl, hd, ht, q⟩ := h
    obtain ⟨hs, hn⟩ := isTree_seq ht
    refine b_cons (s_ifB false ?_ (fun e => by cases e) (fun _ H1 b1 => b_nil (b_cons (s_ifB false ?_ (fun e => by cases e) (fun _ H2 b2 => b_nil ?_)))))
    · refine t_not (t_val (e_call (C.mono (by omega)) D0 (a_cons (e_name 1 (a_nil ?_))) rfl (fun _ _ _ _ _ _ us hl => match us, hl with | [_], _ => rfl)))
      exact ⟨v, l, d, rfl, hd, fits_seq hs, fun H' b => ⟨_, rfl, by rw [show isSeq d = true from hs]; rfl, b⟩⟩
    · refine t_cmp (e_name 2 (v := .int ((n + 1 : Nat) : Int)) (e_int (c_eq rfl ⟨false, ?_, rfl, But.refl⟩)))
      rw [decide_eq_false]
      intro e
      have := V.int.inj e
      omega
    · refine b_cons (s_ret (e_all C (e_lcM [("part", 4)] C (i_dd (hd.but (b1.trans b2).of) hs (fun Q h => e_name 1 h) fun J G vs W hG hvs => ?_))))
      have hl := hvs.length
      refine ⟨_, _, _, vs.map fun _ => .bl true, W, by simp, by rw [hl, sizeLine_eq]; omega, fun H' b => hG H' b.of, fun i x H3 H' hi b3 hy => ?_, fun Da H' b3 hn hDa => ⟨Da, vs.map fun _ => true, rfl, .inl (.inl (by rw [hDa, List.map_map]; rfl)), ?_⟩⟩
      · obtain ⟨rfl, hx⟩ := hy
        obtain ⟨dx, hdx, hD⟩ := hvs.get hx
        have hok : isTree g n dx = true := by
          simp only [isTree, Bool.and_eq_true, List.all_eq_true] at ht
          exact ht.2 dx (List.mem_of_getElem? hdx)
        refine ⟨But.refl, mt_name (i := 4) C.nd fun s H0 Ca cl fp => e_call (C.blk _ _ _ _ _) IH (a_cons (e_name 0 (a_cons (e_name 4 (a_cons (e_bin (e_name 2 (v := .int ((n + 1 : Nat) : Int)) (e_int (o_sub (a_nil ?_)))))))))) rfl (fun _ _ _ _ _ _ us hl => match us, hl with | [_, _, _], _ => rfl)⟩
        refine ⟨g, x, l, dx, by rw [show ((n + 1 : Nat) : Int) - 1 = (n : Int) by omega], hD.but b3.of, hok, fun H' b => ⟨?_, b⟩⟩
        rw [List.getElem?_map, hx]
        rfl
      · have : (vs.map fun _ => true).all id = true := by simp
        rw [this]
        exact q H' (b1.trans (b2.trans b3))
def spTree (K : PySem.W.Frag) (CR : Addr) (v0 : V) : Sp := fun vs H Q _ => ∃ (r : Addr) (R : RData) (v : V) (l : List Addr) (d : PyData), vs = [.ref r, v] ∧ IsReader CR R H r ∧ R.Ok ∧ DD K l H v d ∧ isTree R.g R.ms.length d = true ∧ ∀ H', But [] H H' → Q v0 H'
theorem scIt : FnScope ["reader", "value"] ["reader", "value"] (defScope (top 44)) := ⟨rfl, rfl, rfl, by decide +kernel, rfl, by decide +kernel, by decide +kernel⟩
theorem d_isTree (B : Blt mg base) (CL : ClsR K CR) (D : At K mg "is_tree" (top 44)) (D1 : ∀ n, Def P w K mg base (n + 2) "is_tree_of" (top 43) ["signs", "value", "depth"] (spTreeOf K n))
    (G1 : PropOk P w K mg base 1 CR "signs" (spGet CR fun R => .str R.g)) (G2 : PropOk P w K mg base 1 CR "depth" (spGet CR fun R => .int (R.ms.length : Nat))) :
    Def P w K mg base 6 "is_tree" (top 44) ["reader", "value"] (spTree K CR (.bl true)) := by
  refine def_of D B scIt (fun vs H Q E ⟨_, _, _, _, _, e, _⟩ => by rw [e]; rfl) fun f cdv A outer s H vs Q E hm C h => ?_
  obtain ⟨r, R, v, l, d, rfl, hr, ok, hd, ht, q⟩ := h
  obtain ⟨dx, ml, cd, h1, h2, h3⟩ := hr.ex
  have hn := ok.ms.2.1
  refine b_cons (s_ret (e_call C ((D1 R.ms.length).mono (by omega)) (a_cons (e_prop (C.mono (by decide)) CL.c G1 (e_name 0 ⟨rfl, h1, r, R, rfl, hr, a_cons (e_name 1 (a_cons (e_prop (C.mono (by decide)) CL.c G2 (e_name 0 ⟨rfl, h1, r, R, rfl, hr, a_nil ?_⟩))))⟩))) rfl (fun _ _ _ _ _ _ us hl => match us, hl with | [_, _, _], _ => rfl)))
  exact ⟨R.g, v, l, d, rfl, hd, ht, q⟩
theorem scWt : FnScope ["reader", "tree"] ["reader", "tree"] (defScope (top 45)) := ⟨rfl, rfl, rfl, by decide +kernel, rfl, by decide +kernel, by decide +kernel⟩
theorem d_wantTree (B : Blt mg base) (D : At K mg "want_tree" (top 45)) (D1 : Def P w K mg base 6 "is_tree" (top 44) ["reader", "value"] (spTree K CR (.bl true))) :
    Def P w K mg base 7 "want_tree" (top 45) ["reader", "tree"] (spTree K CR .non) := by
  refine def_of D B scWt (fun vs H Q E ⟨_, _, _, _, _, e, _⟩ => by rw [e]; rfl) fun f cdv A outer s H vs Q E hm C h => ?_
  obtain ⟨r, R, v, l, d, rfl, hr, ok, hd, ht, q⟩ := h
  refine b_cons (s_ifB false ?_ (fun e => by cases e) (fun _ H1 b1 => b_nil (b_nil (q H1 b1))))
  refine t_not (t_val (e_call C D1 (a_cons (e_name 0 (a_cons (e_name 1 (a_nil ?_))))) rfl (fun _ _ _ _ _ _ us hl => match us, hl with | [_, _], _ => rfl)))
  exact ⟨r, R, v, l, d, rfl, hr, ok, hd, ht, fun H' b => ⟨true, rfl, rfl, b⟩⟩
end
end K61

set_option Elab.async false
set_option linter.all false
set_option maxRecDepth 100000
set_option maxHeartbeats 4000000
namespace K61
open PySem PySem.Spec PyProof.Rows L2 Z
/-! ### a tree written -/
abbrev Row := (Str × Nat) × Str
def txtOf : PyData → Str
  | .str x => x
  | _ => ""
/-- the rows of a tree whose own level is ms.length + 1 - n -/
def rowsOf (R : RData) : Nat → PyData → List Row
  | 0, d => (items d).map fun x => ((("line" : Str), 0), txtOf x)
  | n + 1, d => (items d).flatMap (fun p => ((("next" : Str), R.ms.length - n), lineOf R true (R.ms.length - n)) :: rowsOf R n p) ++ [((("end" : Str), R.ms.length - n), lineOf R false (R.ms.length - n))]
def rowD (x : Row) : PyData := .tuple [.tuple [.str x.1.1, .int x.1.2], .str x.2]
theorem rows_tup (rs : List Row) : tupOnlyAll (rs.map rowD) = true := tupOnlyAll_of fun d hd => by
  obtain ⟨x, _, rfl⟩ := List.mem_map.mp hd
  rfl
/-- how many rows at most -/
def rowMax : Nat → Nat
  | 0 => 10
  | n + 1 => 10 * (rowMax n + 1) + 1
theorem rowMax_le : ∀ {n : Nat}, n ≤ 3 → rowMax n ≤ 11221
  | 0, _ => by decide
  | 1, _ => by decide
  | 2, _ => by decide
  | 3, _ => by decide
  | n + 4, h => by omega
structure Ends3 (K : PySem.W.Frag) (mg : Str → Option Value) : Prop where
  nx : ∃ u, mg "NEXT" = some u ∧ RelV (.str "next") u
  en : ∃ u, mg "END" = some u ∧ RelV (.str "end") u
  ln : ∃ t, mg "TOLD_LINE" = some (.ref t) ∧ ∀ H, SqT K H t [.str "line", .int 0]
section
variable {P : Program} {w : World} {K : PySem.W.Frag} {mg : Str → Option Value} {base : Heap} {CR : Addr}
def spRow (K : PySem.W.Frag) (CR : Addr) : Sp := fun vs H Q _ => ∃ (r : Addr) (R : RData) (t : Addr) (nx : Bool) (lv : Nat), vs = [.ref r, .ref t] ∧ IsReader CR R H r ∧ SqT K H t [.str (kindS nx), .int lv] ∧ 1 ≤ lv ∧ lv ≤ R.ms.length ∧ R.Ok ∧
  ∀ p H', But [] H H' → H' p = some (.tup [.ref t, .str (lineOf R nx lv)]) → Q (.ref p) H'
theorem scRr : FnScope ["reader", "role"] ["reader", "role"] (defScope (top 46)) := ⟨rfl, rfl, rfl, by decide +kernel, rfl, by decide +kernel, by decide +kernel⟩
theorem d_roleRow (B : Blt mg base) (CL : ClsR K CR) (D : At K mg "role_row" (top 46)) (M : MethOk P w K mg base 6 CR "line_of" ["self", "role"] (spRole K CR fun R nx lv => .str (lineOf R nx lv))) (D0 : True) :
    Def P w K mg base 7 "role_row" (top 46) ["reader", "role"] (spRow K CR) := by
  refine def_of D B scRr (fun vs H Q E ⟨_, _, _, _, _, e, _⟩ => by rw [e]; rfl) fun f cdv A outer s H vs Q E hm C h => ?_
  obtain ⟨r, R, t, nx, lv, rfl, hr, ht, l1, l2, ok, q⟩ := h
  obtain ⟨dx, ml, cd, h1, h2, h3⟩ := hr.ex
  refine b_cons (s_ret (e_tup (a_cons (e_name 1 (v := .ref t) (a_cons (e_meth C CL.c M (e_name 0 ⟨rfl, h1, rfl, a_cons (e_name 1 (v := .ref t) (a_nil ?_))⟩)))))))
  refine ⟨r, R, t, nx, lv, rfl, hr, ht, l1, l2, ok, fun H1 b1 => a_nil ⟨by rw [sizeLine_eq]; exact (by decide : 2 ≤ 16777216), fun p hp => ?_⟩⟩
  exact q p _ (b1.trans (But.new hp)) upd_same
def spRows (K : PySem.W.Frag) (CR : Addr) (n : Nat) : Sp := fun vs H Q _ => ∃ (r : Addr) (R : RData) (v : V) (l : List Addr) (d : PyData), vs = [.ref r, v, .int ((R.ms.length + 1 - n : Nat) : Int)] ∧ n ≤ R.ms.length ∧ IsReader CR R H r ∧ R.Ok ∧ DD [] l H v d ∧ isTree R.g n d = true ∧
  ∀ q xs H', But [] H H' → H q = none → H' q = some (.lst xs) → DDs K [] H' xs ((rowsOf R n d).map rowD) → (rowsOf R n d).length ≤ rowMax n → Q (.ref q) H'
theorem scRw : FnScope ["reader", "tree", "level", "line", "found", "part"] ["reader", "tree", "level"] (defScope (top 47)) := ⟨rfl, rfl, rfl, by decide +kernel, rfl, by decide +kernel, by decide +kernel⟩
theorem d_rows (B : Blt mg base) (CL : ClsR K CR) (T : Ends3 K mg) (D : At K mg "written_rows" (top 47)) (G2 : PropOk P w K mg base 1 CR "depth" (spGet CR fun R => .int (R.ms.length : Nat))) (D1 : Def P w K mg base 7 "role_row" (top 46) ["reader", "role"] (spRow K CR)) :
    ∀ n, Def P w K mg base (n + 8) "written_rows" (top 47) ["reader", "tree", "level"] (spRows K CR n)
  | 0 => by
    refine def_of D B scRw (fun vs H Q E ⟨_, _, _, _, _, e, _⟩ => by rw [e]; rfl) fun f cdv A outer s H vs Q E hm C h => ?_
    obtain ⟨r, R, v, l, d, rfl, hn, hr, ok, hd, ht, q⟩ := h
    obtain ⟨dx, ml, cd, h1, h2, h3⟩ := hr.ex
    obtain ⟨tl, htl, hT⟩ := T.ln
    obtain ⟨hs, hlen⟩ := isTree_seq ht
    refine b_cons (s_ifB true ?_ (fun _ H1 b1 => ?_) fun e => by cases e)
    · refine t_cmp (e_name 2 (v := .int ((R.ms.length + 1 - 0 : Nat) : Int)) (e_prop (C.mono (by decide)) CL.c G2 (e_name 0 ⟨rfl, h1, r, R, rfl, hr, c_gt ⟨_, rfl, ?_, But.refl⟩⟩)))
      rw [decide_eq_true (by omega)]
    · refine b_cons (s_ret (e_lc [("line", 3)] C (i_dd0 (hd.but b1.of) hs (fun Q h => e_name 1 h) fun J G vs W hG hvs => ?_)))
      have hl := hvs.length
      refine ⟨_, _, _, W, fun Dl hDl => ⟨fun i H' => But [] H1 H' ∧ ∃ acc, H' Dl = some (.lst acc) ∧ DDs K [Dl] H' acc (((items d).take i).map fun x => rowD ((("line" : Str), 0), txtOf x)), ⟨But.new hDl, [], upd_same, .nil⟩, fun i H' _ h => hG H' h.1.of, ?_, ?_⟩⟩
      · rintro i x H3 H' hi ⟨b3, acc, hD3, hacc⟩ ⟨rfl, hx⟩
        obtain ⟨dx, hdx, hD⟩ := hvs.get hx
        have hok : okLine R.g dx = true := by
          simp only [isTree, Bool.and_eq_true, List.all_eq_true] at ht
          exact ht.2 dx (List.mem_of_getElem? hdx)
        obtain ⟨y, rfl⟩ : ∃ y, dx = .str y := by cases dx <;> simp [okLine] at hok; exact ⟨_, rfl⟩
        cases hD
        refine lc_plain (i := 3) C.nd fun s H0 Ca cl fp => e_apart fun ap => e_tup (a_cons (e_glob (v := .ref tl) (a_cons (e_name 3 (v := .str y) (a_nil ⟨by rw [sizeLine_eq]; exact (by decide : 2 ≤ 16777216), fun p hp => ?_⟩))) htl rfl))
        have nDp : Dl ≠ p := ne_of_none hD3 hp
        have hDp : upd H' p (.tup [.ref tl, .str y]) Dl = some (.lst acc) := by rw [upd_ne nDp]; exact hD3
        have ntl : tl ≠ Dl := ap _ _ _ _ (hT H') hD3
        have bp : But [] H' (upd H' p (.tup [.ref tl, .str y])) := But.new hp
        have hacl : acc.length = i := by rw [hacc.length, List.length_map, List.length_take]; omega
        refine ⟨acc, hDp, by rw [hacl, sizeLine_eq]; omega, ?_, acc ++ [.ref p], upd_same, ?_⟩
        · refine fun a o na e => ?_
          rw [upd_ne (ne_of_none e hDl)]
          exact bp _ _ (by simp) (b3 _ _ (by simp) e)
        · rw [List.take_add_one, hdx, List.map_append]
          refine DDs.append ((hacc.but bp.of).but (But.at (by simp))) (.cons (DD.tup (.inl (.inl (by rw [upd_ne nDp.symm]; exact upd_same))) (by simpa using nDp.symm) (.cons (.tup (hT _) (by simpa using ntl) (.cons (.str _) (.cons (.int _) .nil))) (.cons (.str _) .nil))) .nil)
      · rintro H3 ⟨b3, acc, hD3, hacc⟩
        refine q Dl acc H3 (b1.trans b3) (b1.free hDl) hD3 ?_ ?_
        · rw [hl, List.take_length] at hacc
          show DDs K [] H3 acc (((items d).map fun x => (((("line" : Str), 0), txtOf x) : Row)).map rowD)
          rw [List.map_map]
          exact hacc.less (by simp)
        · show ((items d).map _).length ≤ 10
          rw [List.length_map]
          exact hlen
  | n + 1 => by
    have IH := d_rows B CL T D G2 D1 n
    refine def_of D B scRw (fun vs H Q E ⟨_, _, _, _, _, e, _⟩ => by rw [e]; rfl) fun f cdv A outer s H vs Q E hm C h => ?_
    obtain ⟨r, R, v, l, d, rfl, hn, hr, ok, hd, ht, q⟩ := h
    obtain ⟨dx, ml, cd, h1, h2, h3⟩ := hr.ex
    obtain ⟨un, hnx, rnx⟩ := T.nx
    obtain ⟨ue, hen, ren⟩ := T.en
    obtain ⟨hs, hlen⟩ := isTree_seq ht
    have m3 := ok.ms.2.1
    have hmx := rowMax_le (n := n) (by omega)
    have elv : R.ms.length + 1 - (n + 1) = R.ms.length - n := by omega
    rw [elv]
    have lv1 : 1 ≤ R.ms.length - n := by omega
    have lv2 : R.ms.length - n ≤ R.ms.length := by omega
    have two : 2 ≤ sizeLine := by rw [sizeLine_eq]; exact (by decide : 2 ≤ 16777216)
    -- a row of a role
    have rowDD : ∀ {H' : Hp} {fq t p : Addr} {acc : List V} (b : Bool), H' fq = some (.lst acc) → H' t = some (.tup [.str (kindS b), .int ((R.ms.length - n : Nat) : Int)]) → H' p = some (.tup [.ref t, .str (lineOf R b (R.ms.length - n))]) →
        DD K [fq] H' (.ref p) (rowD ((kindS b, R.ms.length - n), lineOf R b (R.ms.length - n))) := fun {H' fq t p acc} b hf ht hp => by
      have n1 : p ≠ fq := fun z => by rw [z, hf] at hp; cases hp
      have n2 : t ≠ fq := fun z => by rw [z, hf] at ht; cases ht
      exact .tup (.inl (.inl hp)) (by simpa using n1) (.cons (.tup (.inl (.inl ht)) (by simpa using n2) (.cons (.str _) (.cons (.int _) .nil))) (.cons (.str _) .nil))
    refine b_cons (s_ifB false ?_ (fun e => by cases e) (fun _ H1 b1 => b_nil ?_))
    · refine t_cmp (e_name 2 (v := .int ((R.ms.length - n : Nat) : Int)) (e_prop (C.mono (by omega)) CL.c G2 (e_name 0 ⟨rfl, h1, r, R, rfl, hr, c_gt ⟨_, rfl, ?_, But.refl⟩⟩)))
      rw [decide_eq_false (by omega)]
    refine b_cons (s_set (i := 4) (e_lst (a_nil ⟨by rw [sizeLine_eq]; exact (by decide : 0 ≤ 16777216), fun fq hfq => ?_⟩)) C.nd)
    have bf : But [] H1 (upd H1 fq (.lst [])) := But.new hfq
    refine b_cons (s_for C (i_dd0 (((hd.but b1.of).add hfq).but bf.of) hs (fun Q h => e_name 1 h) fun J G vs W hG hvs => ?_))
    have hl := hvs.length
    refine ⟨_, _, _, W, fun i σ H' => (∃ v3 v5, σ = [some (.ref r), some v, some (.int ((R.ms.length - n : Nat) : Int)), v3, some (.ref fq), v5]) ∧ But [] H1 H' ∧ ∃ acc, H' fq = some (.lst acc) ∧ acc.length ≤ i * (rowMax n + 1) ∧
      DDs K [fq] H' acc ((((items d).take i).flatMap fun p => (((("next" : Str), R.ms.length - n), lineOf R true (R.ms.length - n)) : Row) :: rowsOf R n p).map rowD), ⟨⟨none, none, rfl⟩, bf, [], upd_same, by simp, .nil⟩, fun i σ H' _ h => hG H' fun a o na e => ?_, ?_, ?_⟩
    · have ha : a ≠ fq := fun z => na (by simp [z])
      rw [upd_ne ha] at e
      exact h.2.1 _ _ (by simp) e
    · rintro i x σ H3 H' hi ⟨⟨v3, v5, rfl⟩, b3, acc, hD3, hal, hacc⟩ ⟨rfl, hx⟩
      obtain ⟨dx', hdx, hD⟩ := hvs.get hx
      have hok : isTree R.g n dx' = true := by
        simp only [isTree, Bool.and_eq_true, List.all_eq_true] at ht
        exact ht.2 dx' (List.mem_of_getElem? hdx)
      have hi10 : i < 10 := by omega
      have hil : i * (rowMax n + 1) ≤ 10 * (rowMax n + 1) := Nat.mul_le_mul_right _ (by omega)
      refine g_name (i := 5) ?_ C.nd
      -- the head row
      refine b_cons (s_expr (e_append (e_name 4 ⟨fq, rfl, ⟨_, hD3⟩, e_call (C.mono (by omega)) D1 (a_cons (e_name 0 (a_cons (e_tup (a_cons (e_glob (v := .str "next") (a_cons (e_name 2 (a_nil ⟨two, fun t ht => a_nil ?_⟩))) hnx rnx))))) ) rfl (fun _ _ _ _ _ _ us hl => match us, hl with | [_, _], _ => rfl)⟩)))
      have bt : But [] H' (upd H' t (.tup [.str "next", .int ((R.ms.length - n : Nat) : Int)])) := But.new ht
      refine ⟨r, R, t, true, R.ms.length - n, rfl, (hr.but b1 (by simp)).but (b3.trans bt) (by simp), .inl (.inl upd_same), lv1, lv2, ok, fun p H4 b4 hp => ?_⟩
      have hq4 : H4 fq = some (.lst acc) := b4 _ _ (by simp) (bt _ _ (by simp) hD3)
      have ht4 : H4 t = some (.tup [.str (kindS true), .int ((R.ms.length - n : Nat) : Int)]) := b4 _ _ (by simp) upd_same
      refine ⟨acc, hq4, by rw [sizeLine_eq]; omega, ?_⟩
      have b34 : But [] H' H4 := bt.trans b4
      have acc4 : DDs K [fq] (upd H4 fq (.lst (acc ++ [.ref p]))) (acc ++ [.ref p]) (((((items d).take i).flatMap fun p => (((("next" : Str), R.ms.length - n), lineOf R true (R.ms.length - n)) : Row) :: rowsOf R n p).map rowD) ++ [rowD ((kindS true, R.ms.length - n), lineOf R true (R.ms.length - n))]) :=
        (DDs.append (hacc.but b34.of) (.cons (rowDD true hq4 ht4 hp) .nil)).but (But.at (by simp))
      have bu : But [fq] H4 (upd H4 fq (.lst (acc ++ [.ref p]))) := But.at (by simp)
      have hqu : upd H4 fq (.lst (acc ++ [.ref p])) fq = some (.lst (acc ++ [.ref p])) := upd_same
      have b1u : But [] H1 (upd H4 fq (.lst (acc ++ [.ref p]))) := fun a o _ e => by
        rw [upd_ne (ne_of_none e hfq)]
        exact b34 _ _ (by simp) (b3 _ _ (by simp) e)
      have hDu : DD [] (fq :: l) (upd H4 fq (.lst (acc ++ [.ref p]))) x dx' := (hD.but (fun a o na e => by
        have ha : a ≠ fq := fun z => na (by simp [z])
        rw [upd_ne ha] at e
        rw [upd_ne ha]
        exact b34 _ _ (by simp) (b3 _ _ (by simp) e)))
      generalize upd H4 fq (.lst (acc ++ [.ref p])) = H5 at acc4 bu hqu b1u hDu ⊢
      -- the part's rows
      refine b_cons (s_expr (e_extend (e_name 4 (v := .ref fq) ⟨fq, rfl, ⟨_, hqu⟩, e_gives (e_call (C.mono (by omega)) IH (a_cons (e_name 0 (a_cons (e_name 5 (v := x) (a_cons (e_bin (e_name 2 (v := .int ((R.ms.length - n : Nat) : Int)) (e_int (o_add (a_nil ?_)))))))))) rfl (fun _ _ _ _ _ _ us hl => match us, hl with | [_, _, _], _ => rfl))⟩)))
      refine ⟨r, R, x, fq :: l, dx', ?_, by omega, (hr.but b1 (by simp)).but b1u (by simp), ok, hDu, hok, fun q2 xs2 H6 b6 hq2n hq2 hdd hm2 ap => ?_⟩
      · have : ((R.ms.length - n : Nat) : Int) + 1 = ((R.ms.length + 1 - n : Nat) : Int) := by omega
        rw [this]
      have hq6 : H6 fq = some (.lst (acc ++ [.ref p])) := b6 _ _ (by simp) hqu
      have hx2 : xs2.length ≤ rowMax n := by rw [hdd.length, List.length_map]; exact hm2
      refine ⟨q2, acc ++ [.ref p], xs2, rfl, hq6, hq2, by rw [sizeLine_eq, List.length_append, List.length_singleton]; omega, ?_⟩
      refine b_nil ⟨⟨_, _, rfl⟩, fun a o _ e => ?_, _, upd_same, ?_, ?_⟩
      · rw [upd_ne (ne_of_none e hfq)]
        exact b6 _ _ (by simp) (b1u _ _ (by simp) e)
      · rw [List.length_append, List.length_append, List.length_singleton, Nat.add_mul]
        omega
      · rw [List.take_add_one, hdx, List.flatMap_append, List.map_append]
        have h2 : DDs K [fq] H6 xs2 ((rowsOf R n dx').map rowD) := hdd.avoid ap hq6 (rows_tup _)
        have h3 := (DDs.append (acc4.but b6.of) h2).but (But.at (H := H6) (o := .lst (acc ++ [.ref p] ++ xs2)) (p := fq) (l := [fq]) (by simp))
        have e4 : (((some dx').toList.flatMap fun p => (((("next" : Str), R.ms.length - n), lineOf R true (R.ms.length - n)) : Row) :: rowsOf R n p).map rowD) = rowD ((kindS true, R.ms.length - n), lineOf R true (R.ms.length - n)) :: (rowsOf R n dx').map rowD := by
          simp [kindS]
        rw [e4]
        have e5 : ∀ (A B : List PyData) (x : PyData), (A ++ [x]) ++ B = A ++ (x :: B) := fun A B x => by simp
        rw [e5] at h3
        exact h3
    · rintro σ H3 ⟨⟨v3, v5, rfl⟩, b3, acc, hD3, hal, hacc⟩
      have hil : vs.length * (rowMax n + 1) ≤ 10 * (rowMax n + 1) := Nat.mul_le_mul_right _ (by omega)
      rw [hl, List.take_length] at hacc
      refine b_cons (s_expr (e_append (e_name 4 ⟨fq, rfl, ⟨_, hD3⟩, e_call (C.mono (by omega)) D1 (a_cons (e_name 0 (a_cons (e_tup (a_cons (e_glob (v := .str "end") (a_cons (e_name 2 (a_nil ⟨two, fun t ht => a_nil ?_⟩))) hen ren))))) ) rfl (fun _ _ _ _ _ _ us hl => match us, hl with | [_, _], _ => rfl)⟩)))
      have bt : But [] H3 (upd H3 t (.tup [.str "end", .int ((R.ms.length - n : Nat) : Int)])) := But.new ht
      refine ⟨r, R, t, false, R.ms.length - n, rfl, (hr.but b1 (by simp)).but (b3.trans bt) (by simp), .inl (.inl upd_same), lv1, lv2, ok, fun p H4 b4 hp => ?_⟩
      have hq4 : H4 fq = some (.lst acc) := b4 _ _ (by simp) (bt _ _ (by simp) hD3)
      have ht4 : H4 t = some (.tup [.str (kindS false), .int ((R.ms.length - n : Nat) : Int)]) := b4 _ _ (by simp) upd_same
      refine ⟨acc, hq4, by rw [sizeLine_eq]; omega, ?_⟩
      have b34 : But [] H3 H4 := bt.trans b4
      have acc4 := (DDs.append (hacc.but b34.of) (.cons (rowDD false hq4 ht4 hp) .nil)).but (But.at (H := H4) (o := .lst (acc ++ [.ref p])) (p := fq) (l := [fq]) (by simp))
      refine b_cons (s_ret (e_name 4 (q fq (acc ++ [.ref p]) _ (fun a o _ e => ?_) (b1.free hfq) upd_same ?_ ?_)))
      · have e1 := b1 _ _ (by simp) e
        rw [upd_ne (ne_of_none e1 hfq)]
        exact b34 _ _ (by simp) (b3 _ _ (by simp) e1)
      · have e5 : (rowsOf R (n + 1) d).map rowD = (((items d).flatMap fun p => (((("next" : Str), R.ms.length - n), lineOf R true (R.ms.length - n)) : Row) :: rowsOf R n p).map rowD) ++ [rowD ((kindS false, R.ms.length - n), lineOf R false (R.ms.length - n))] := by
          simp [rowsOf, kindS]
        rw [e5]
        exact acc4.less (by simp)
      · have e6 := acc4.length
        have e7 : (rowsOf R (n + 1) d).length = acc.length + 1 := by
          have e5 : (rowsOf R (n + 1) d).length = ((((items d).flatMap fun p => (((("next" : Str), R.ms.length - n), lineOf R true (R.ms.length - n)) : Row) :: rowsOf R n p).map rowD) ++ [rowD ((kindS false, R.ms.length - n), lineOf R false (R.ms.length - n))]).length := by
            simp [rowsOf]
          rw [e5, ← e6, List.length_append, List.length_singleton]
        rw [e7]
        show acc.length + 1 ≤ 10 * (rowMax n + 1) + 1
        omega
end
end K61

set_option Elab.async false
set_option linter.all false
set_option maxRecDepth 100000
set_option maxHeartbeats 4000000
namespace K61
open PySem PySem.Spec PyProof.Rows L2 Z
/-! ### a tree told -/
def roleD (x : Row) : PyData := .tuple [.str x.1.1, .int x.1.2]
theorem rows_split {K : PySem.W.Frag} {l : List Addr} {H : Hp} : ∀ {xs : List V} {rs : List Row}, DDs K l H xs (rs.map rowD) → ∃ ws, DDs K l H ws (rs.map roleD) ∧ ∀ (i : Nat) x, xs[i]? = some x → ∃ a u y, x = .ref a ∧ SqT K H a [u, .str y] ∧ ws[i]? = some u ∧ (rs.map (·.2))[i]? = some y
  | [], [], _ => ⟨[], .nil, fun i x h => by simp at h⟩
  | _ :: _, r :: rs, h => by
    cases h with
    | cons h1 h2 =>
      obtain ⟨ws, hw, hx⟩ := rows_split h2
      cases h1 with
      | tup ha na hd =>
        cases hd with
        | cons hu hr =>
          cases hr with
          | cons hy hn =>
            cases hn
            cases hy
            refine ⟨_ :: ws, .cons hu hw, fun i x hi => ?_⟩
            cases i with
            | zero =>
              simp at hi
              subst hi
              exact ⟨_, _, _, rfl, ha, rfl, rfl⟩
            | succ i =>
              obtain ⟨a, u, y, e1, e2, e3, e4⟩ := hx i x (by simpa using hi)
              exact ⟨a, u, y, e1, e2, by simpa using e3, by simpa using e4⟩
section
variable {P : Program} {w : World} {K : PySem.W.Frag} {mg : Str → Option Value} {base : Heap} {CR : Addr}
def linesOf (R : RData) (d : PyData) : List Str := (rowsOf R R.ms.length d).map (·.2)
def rolesD (R : RData) (d : PyData) : List PyData := (rowsOf R R.ms.length d).map roleD
def spWritten (CR : Addr) : Sp := fun vs H Q _ => ∃ (r : Addr) (R : RData) (v : V) (l : List Addr) (d : PyData), vs = [.ref r, v] ∧ IsReader CR R H r ∧ R.Ok ∧ DD [] l H v d ∧ isTree R.g R.ms.length d = true ∧
  ∀ q H', But [] H H' → H q = none → H' q = some (.lst ((linesOf R d).map V.str)) → (linesOf R d).length ≤ 11221 → Q (.ref q) H'
def spTelling (K : PySem.W.Frag) (CR : Addr) : Sp := fun vs H Q _ => ∃ (r : Addr) (R : RData) (v : V) (l : List Addr) (d : PyData), vs = [.ref r, v] ∧ IsReader CR R H r ∧ R.Ok ∧ DD [] l H v d ∧ isTree R.g R.ms.length d = true ∧
  ∀ q ws H', But [] H H' → H q = none → H' q = some (.lst ws) → DDs K [] H' ws (rolesD R d) → (rolesD R d).length ≤ 11221 → Q (.ref q) H'
theorem scWn : FnScope ["reader", "tree", "what", "line"] ["reader", "tree"] (defScope (top 48)) := ⟨rfl, rfl, rfl, by decide +kernel, rfl, by decide +kernel, by decide +kernel⟩
theorem scOt : FnScope ["reader", "tree", "what", "line"] ["reader", "tree"] (defScope (top 49)) := ⟨rfl, rfl, rfl, by decide +kernel, rfl, by decide +kernel, by decide +kernel⟩
theorem d_written (B : Blt mg base) (D : At K mg "written" (top 48)) (D1 : Def P w K mg base 7 "want_tree" (top 45) ["reader", "tree"] (spTree K CR .non))
    (D2 : ∀ n, Def P w K mg base (n + 8) "written_rows" (top 47) ["reader", "tree", "level"] (spRows K CR n)) : Def P w K mg base 12 "written" (top 48) ["reader", "tree"] (spWritten CR) := by
  refine def_of D B scWn (fun vs H Q E ⟨_, _, _, _, _, e, _⟩ => by rw [e]; rfl) fun f cdv A outer s H vs Q E hm C h => ?_
  obtain ⟨r, R, v, l, d, rfl, hr, ok, hd, ht, q⟩ := h
  have m3 := ok.ms.2.1
  refine b_cons (s_expr (e_call (C.mono (by decide)) D1 (a_cons (e_name 0 (a_cons (e_name 1 (a_nil ?_))))) rfl (fun _ _ _ _ _ _ us hl => match us, hl with | [_, _], _ => rfl)))
  refine ⟨r, R, v, l, d, rfl, hr, ok, hd.all, ht, fun H1 b1 => ?_⟩
  refine b_cons (s_ret (e_lcM [("what", 2), ("line", 3)] C (i_list (e_call C ((D2 R.ms.length).mono (by omega)) (a_cons (e_name 0 (a_cons (e_name 1 (a_cons (e_int (a_nil ?_))))))) rfl (fun _ _ _ _ _ _ us hl => match us, hl with | [_, _, _], _ => rfl)))))
  refine ⟨r, R, v, l, d, by rw [show R.ms.length + 1 - R.ms.length = 1 by omega]; rfl, Nat.le_refl _, hr.but b1 (by simp), ok, hd.but b1.of, ht, fun q2 xs H2 b2 hq2n hq2 hdd hmx => ?_⟩
  obtain ⟨ws, hws, hx⟩ := rows_split hdd
  have sq : ∀ {H3}, But [] H2 H3 → SqL K H3 q2 xs := fun b => .inl (.inl (b _ _ (by simp) hq2))
  have hlen : xs.length = (rowsOf R R.ms.length d).length := by rw [hdd.length, List.length_map]
  have hmx2 := rowMax_le m3
  refine ⟨q2, rfl, ⟨xs, sq But.refl⟩, _, _, _, (linesOf R d).map V.str, walk_list (xs := xs), by rw [hlen]; simp [linesOf], by rw [hlen, sizeLine_eq]; omega, fun H' b => sq b, fun i x H3 H' hi b3 hy => ?_, fun Da H' b3 hn hDa => q Da H' (b1.trans (b2.trans b3)) (b1.free (b2.free hn)) hDa (by simp only [linesOf, List.length_map]; omega)⟩
  obtain ⟨rfl, hxi⟩ := hy
  obtain ⟨a, u, y, rfl, ha, _, hy⟩ := hx i x hxi
  refine ⟨But.refl, mt_pairS (i := 2) (j := 3) rfl C.nd (b3.sqt (by simp) ha) fun s H0 Ca cl fp => e_name 3 ⟨?_, But.refl⟩⟩
  rw [linesOf, List.getElem?_map, hy]
  rfl
theorem d_telling (B : Blt mg base) (D : At K mg "own_telling" (top 49)) (D1 : Def P w K mg base 7 "want_tree" (top 45) ["reader", "tree"] (spTree K CR .non))
    (D2 : ∀ n, Def P w K mg base (n + 8) "written_rows" (top 47) ["reader", "tree", "level"] (spRows K CR n)) : Def P w K mg base 12 "own_telling" (top 49) ["reader", "tree"] (spTelling K CR) := by
  refine def_of D B scOt (fun vs H Q E ⟨_, _, _, _, _, e, _⟩ => by rw [e]; rfl) fun f cdv A outer s H vs Q E hm C h => ?_
  obtain ⟨r, R, v, l, d, rfl, hr, ok, hd, ht, q⟩ := h
  have m3 := ok.ms.2.1
  refine b_cons (s_expr (e_call (C.mono (by decide)) D1 (a_cons (e_name 0 (a_cons (e_name 1 (a_nil ?_))))) rfl (fun _ _ _ _ _ _ us hl => match us, hl with | [_, _], _ => rfl)))
  refine ⟨r, R, v, l, d, rfl, hr, ok, hd.all, ht, fun H1 b1 => ?_⟩
  refine b_cons (s_ret (e_lcM [("what", 2), ("line", 3)] C (i_list (e_call C ((D2 R.ms.length).mono (by omega)) (a_cons (e_name 0 (a_cons (e_name 1 (a_cons (e_int (a_nil ?_))))))) rfl (fun _ _ _ _ _ _ us hl => match us, hl with | [_, _, _], _ => rfl)))))
  refine ⟨r, R, v, l, d, by rw [show R.ms.length + 1 - R.ms.length = 1 by omega]; rfl, Nat.le_refl _, hr.but b1 (by simp), ok, hd.but b1.of, ht, fun q2 xs H2 b2 hq2n hq2 hdd hmx => ?_⟩
  obtain ⟨ws, hws, hx⟩ := rows_split hdd
  have sq : ∀ {H3}, But [] H2 H3 → SqL K H3 q2 xs := fun b => .inl (.inl (b _ _ (by simp) hq2))
  have hlen : xs.length = (rowsOf R R.ms.length d).length := by rw [hdd.length, List.length_map]
  have hmx2 := rowMax_le m3
  refine ⟨q2, rfl, ⟨xs, sq But.refl⟩, _, _, _, ws, walk_list (xs := xs), by rw [hws.length, hlen]; simp, by rw [hlen, sizeLine_eq]; omega, fun H' b => sq b, fun i x H3 H' hi b3 hy => ?_, fun Da H' b3 hn hDa => q Da ws H' (b1.trans (b2.trans b3)) (b1.free (b2.free hn)) hDa (hws.but b3) (by simp only [rolesD, List.length_map]; omega)⟩
  obtain ⟨rfl, hxi⟩ := hy
  obtain ⟨a, u, y, rfl, ha, hu, _⟩ := hx i x hxi
  exact ⟨But.refl, mt_pairS (i := 2) (j := 3) rfl C.nd (b3.sqt (by simp) ha) fun s H0 Ca cl fp => e_name 2 ⟨hu, But.refl⟩⟩
end
end K61

set_option Elab.async false
set_option linter.all false
set_option maxRecDepth 100000
set_option maxHeartbeats 4000000
namespace K61
open PySem PySem.Spec PyProof.Rows L2 Z
/-! ### readers compared -/
theorem strSigns_ascii {g : Str} (h : strSigns g = true) : ∀ c ∈ g.cps.toList, c < 128 := by
  simp only [strSigns, Bool.and_eq_true, List.all_eq_true, decide_eq_true_eq] at h
  exact fun c hc => known_ascii c (h.1.2 c hc)
theorem isLine_ascii {g x : Str} (hg : strSigns g = true) (h : isLine g (.str x) = true) : ∀ c ∈ x.cps.toList, c < 128 := by
  simp only [isLine, List.all_eq_true, decide_eq_true_eq] at h
  exact fun c hc => strSigns_ascii hg c (h c hc)
theorem lay_strs : ∀ {ys : List Str}, (∀ y ∈ ys, ∀ c ∈ y.cps.toList, c < 128) → PyData.canLayAll0 (ys.map PyData.str) = true
  | [], _ => rfl
  | y :: ys, h => by
    simp only [List.map_cons, PyData.canLayAll0, PyData.canLay0, strOk_ascii (h y (by simp)), lay_strs (ys := ys) (fun z hz => h z (List.mem_cons_of_mem _ hz)), Bool.and_self]
theorem shaped_strs {ys : List Str} (h : ∀ y ∈ ys, ∀ c ∈ y.cps.toList, c < 128) : SeqAt.shaped (.list (ys.map PyData.str)) = true := by
  have := depth_strs ys
  have e1 : (PyData.list (ys.map PyData.str)).depth ≤ 64 := by simp only [PyData.depth]; omega
  have e2 : (PyData.list (ys.map PyData.str)).canLay0 = true := by simp only [PyData.canLay0, lay_strs h]
  rw [SeqAt.shaped, e2, decide_eq_true e1]
  rfl
theorem noDict_strs : ∀ ys : List Str, PyData.hasDictAll (ys.map PyData.str) = false
  | [] => rfl
  | y :: ys => by simp only [List.map_cons, PyData.hasDictAll, PyData.hasDict, noDict_strs ys, Bool.or_self]
theorem marks_ascii {R : RData} (ok : R.Ok) : ∀ y ∈ R.ms, ∀ c ∈ y.cps.toList, c < 128 := fun y hy => by
  have := ok.ms.2.2.1 y hy
  simp only [shortLine, Bool.and_eq_true] at this
  exact isLine_ascii ok.g this.1.1
section
variable {P : Program} {w : World} {K : PySem.W.Frag} {mg : Str → Option Value} {base : Heap} {CR : Addr}
def SameR (CR : Addr) : Addr → Addr → Hp → Prop := fun a b H => ∃ R : RData, R.Ok ∧ IsReader CR R H a ∧ IsReader CR R H b
theorem scEq : FnScope ["self", "other"] ["self", "other"] (defScope (clsAt (top 38) 19)) := ⟨rfl, rfl, rfl, by decide +kernel, rfl, by decide +kernel, by decide +kernel⟩
theorem d_eq (B : Blt mg base) (CL : ClsR K CR) (IC : C8.InsC K CR) (gR : mg "Reader" = some (.ref CR)) (D : MethAt K CR "__eq__" "Reader.__eq__" (clsAt (top 38) 19)) : MethOk P w K mg base 1 CR "__eq__" ["self", "other"] (spEq (SameR CR)) := by
  obtain ⟨f, oc, doc, pm, cdv, ct, od, an, osl, hp, lk, hcd⟩ := D.ex
  refine ⟨f, _, hp, fnok_body B lk hcd scEq (fun vs H Q E ⟨_, _, e, _⟩ => by rw [e]; rfl) fun A outer s H vs Q E C h => ?_, Binds.all fun us hl => match us, hl with | [_, _], _ => rfl⟩
  obtain ⟨a, b, rfl, ⟨R, ok, ha, hb⟩, q⟩ := h
  obtain ⟨dx, ml, cd, h1, h2, h3⟩ := ha.ex
  obtain ⟨dy, mk, ce, g1, g2, g3⟩ := hb.ex
  have sh := shaped_strs (marks_ascii ok)
  refine b_cons (s_ifB false ?_ (fun e => by cases e) (fun _ H1 b1 => b_nil ?_))
  · refine t_boolop (w_or (t_not (t_val (e_isC B IC gR (e_name 1 ⟨b, dy, _, rfl, g1, true, rfl, ite_b (fun e => by cases e) fun _ => ?_⟩)))))
    refine w_or (t_cmp (e_fld (v := .str R.g) (e_name 0 ⟨rfl, h1, e_fld (v := .str R.g) (e_name 1 ⟨rfl, g1, c_ne rfl ⟨false, ?_, ite_b (fun e => by cases e) fun _ => ?_⟩⟩) CL.c CL.n1 rfl⟩) CL.c CL.n1 rfl))
    · simp
    · refine w_or1 (t_cmp (e_fld (v := .ref ml) (e_name 0 ⟨rfl, h1, e_fld (v := .ref mk) (e_name 1 ⟨rfl, g1, c_neD C (l := []) (m := []) (d := .list (R.ms.map .str)) (f := .list (R.ms.map .str)) (.lst (.inl (.inl h2)) (by simp) (DDs.strs _)) (.lst (.inl (.inl g2)) (by simp) (DDs.strs _)) sh sh ⟨false, ?_, rfl, But.refl⟩⟩) CL.c CL.n2 rfl⟩) CL.c CL.n2 rfl))
      rw [eqv_same (by simp only [PyData.hasDict]; exact noDict_strs _)]
      rfl
  have k1 := b1 _ _ (by simp) h1
  have k2 := b1 _ _ (by simp) g1
  refine b_cons (s_ret (e_and (e_cmp (e_fld (v := .str R.t) (e_name 0 ⟨rfl, k1, e_fld (v := .str R.t) (e_name 1 ⟨rfl, k2, c_eq rfl ⟨true, ?_, ite_b (fun _ => ?_) fun e => by cases e⟩⟩) CL.c CL.n3 rfl⟩) CL.c CL.n3 rfl))))
  · simp
  · refine e_one (e_cmp (e_fld (v := .ref cd) (e_name 0 ⟨rfl, k1, e_fld (v := .ref ce) (e_name 1 ⟨rfl, k2, c_eqDict C (b1 _ _ (by simp) h3) (b1 _ _ (by simp) g3) ?_ ?_ (q _ (ext_but b1))⟩) CL.c CL.n4 rfl⟩) CL.c CL.n4 rfl))
    · show ([.inr "sight", .inr "order", .inr "further", .inr "finish"] : List Key).Nodup
      decide
    · intro p hp
      obtain ⟨x, _, rfl⟩ := List.mem_map.mp hp
      rfl
end
end K61

set_option Elab.async false
set_option linter.all false
set_option maxRecDepth 100000
set_option maxHeartbeats 4000000
namespace K61
open PySem PySem.Spec PyProof.Rows L2 Z
/-! ### what is drawn -/
def Pot (H : Hp) (p : Addr) : Prop := ∃ a b : Int, H p = some (.lst [.int a, .int b]) ∧ 0 ≤ b ∧ b < 2 ^ 31
theorem Pot.new {H H' : Hp} {p : Addr} (h : Pot H p) (b : But [] H H') : Pot H' p := let ⟨x, y, e, r⟩ := h; ⟨x, y, b _ _ (by simp) e, r⟩
theorem Pot.here {H : Hp} {p : Addr} (h : Pot H p) : Here [p] H := let ⟨x, y, e, r⟩ := h; fun q hq => by rw [List.mem_singleton.mp hq]; exact ⟨_, e⟩
theorem Pot.there {H : Hp} {p q : Addr} (h : Pot H p) (hq : H q = none) : q ≠ p := fun z => by
  obtain ⟨x, y, e, r⟩ := h
  rw [z, e] at hq
  cases hq
section
variable {P : Program} {w : World} {K : PySem.W.Frag} {mg : Str → Option Value} {base : Heap}
def spPotMk (K : PySem.W.Frag) : Sp := fun vs H Q _ => ∃ (q : Addr) (ns : List Int) (k : Nat), vs = [.ref q, .int k] ∧ SqL K H q (ns.map V.int) ∧ k ≤ 100 ∧ ns.length ≤ 1000 ∧ ∀ p H', But [] H H' → H p = none → Pot H' p → Q (.ref p) H'
theorem scPot : FnScope ["script", "k", "cell"] ["script", "k"] (defScope (top 51)) := ⟨rfl, rfl, rfl, by decide +kernel, rfl, by decide +kernel, by decide +kernel⟩
theorem d_pot (B : Blt mg base) (D : At K mg "_law_pot" (top 51)) : Def P w K mg base 1 "_law_pot" (top 51) ["script", "k"] (spPotMk K) := by
  refine def_of D B scPot (fun vs H Q E ⟨_, _, _, e, _⟩ => by rw [e]; rfl) fun f cdv A outer s H vs Q E hm C h => ?_
  obtain ⟨q, ns, k, rfl, hq, hk, hn, hQ⟩ := h
  have hq' : ∀ {H1}, But [] H H1 → SqL K H1 q (ns.map V.int) := fun b => b.sql (by simp) hq
  have fin : ∀ (j : Int) (H1 : Hp), But [] H H1 → wB (bX P w K mg base ["script", "k", "cell"] "_law_pot" (top 51) f cdv A outer s H E) ((defBody (top 51)).drop 2) { nx := fun _ H' => Q .non H', rt := Q } [some (.ref q), some (.int k), some (.int j)] H1 := fun j H1 b1 => by
    refine b_cons (s_ret (e_lst (a_cons (e_max2 C (e_int (e_bin (e_name 2 (e_bin (e_int (e_int ?_))))))))))
    refine o_pow ⟨by decide, by decide, by decide⟩ (o_sub ⟨_, _, rfl, rfl, ?_⟩)
    have m1 := Int.emod_nonneg j (show (2147483549 : Int) ≠ 0 by decide)
    have m2 := Int.emod_lt_of_pos j (show (0 : Int) < 2147483549 by decide)
    refine a_cons (e_bin (e_bin (e_bin (e_int1 B (e_bin (e_bin (e_int1 B (e_name 2 ⟨j, rfl, e_int (o_mod (by decide) (e_int (o_add ⟨_, rfl, ?_⟩)))⟩))))))))
    refine e_bin (e_bin (e_bin (e_int (e_name 1 (o_mul (.inl ⟨by decide, by decide⟩) (e_int (o_add (e_int ?_))))))))
    refine o_pow ⟨by decide, by decide, by omega⟩ (o_mul (.inl ⟨by omega, by omega⟩) (e_int (o_mod (by decide) (e_int (o_add (a_nil ⟨?_, fun p hp => ?_⟩))))))
    · rw [sizeLine_eq]; exact (by decide : 2 ≤ 16777216)
    · have x1 := Int.emod_nonneg ((j % 2147483549 + 7) * (2 * (k : Int) + 9) ^ (3 : Int).toNat) (show (2147483477 : Int) ≠ 0 by decide)
      have x2 := Int.emod_lt_of_pos ((j % 2147483549 + 7) * (2 * (k : Int) + 9) ^ (3 : Int).toNat) (show (0 : Int) < 2147483477 by decide)
      exact hQ p _ (b1.trans (But.new hp)) (b1.free hp) ⟨_, _, upd_same, by omega, by omega⟩
  refine b_cons (s_set (i := 2) (e_bin (e_bin (e_int (e_name 1 ?_)))) C.nd)
  refine o_mul (.inl ⟨by decide, by decide⟩) (e_int (o_add ?_))
  refine b_cons (s_ifB (decide (k < ns.length)) ?_ (fun e H1 b1 => ?_) (fun e H1 b1 => ?_))
  · refine t_cmp (e_name 1 (e_len B (e_name 0 ?_)))
    refine ⟨ns.length, .inl ⟨_, hq, by simp⟩, c_lt ⟨_, rfl, ?_, But.refl⟩⟩
    rw [decide_eq_decide]; omega
  · have hlt : k < ns.length := of_decide_eq_true e
    refine b_cons (s_set (i := 2) (e_abs B (e_ix (e_name 0 (e_name 1 (ix_l (hq' b1) (v := .int ns[k]) ?_ ⟨_, rfl, b_nil (fin _ H1 b1)⟩))))) C.nd)
    exact atI_nat (by simp [hlt])
  · exact b_nil (fin _ H1 b1)
def spDraw : Sp := fun vs H Q _ => ∃ (p : Addr) (n : Int), vs = [.ref p, .int n] ∧ Pot H p ∧ 0 < n ∧ n < 1073741824 ∧ ∀ (r : Int) H', 0 ≤ r → r < n → But [p] H H' → Pot H' p → Q (.int r) H'
theorem scDraw : FnScope ["pot", "many", "digit"] ["pot", "many"] (defScope (top 52)) := ⟨rfl, rfl, rfl, by decide +kernel, rfl, by decide +kernel, by decide +kernel⟩
theorem d_draw (B : Blt mg base) (D : At K mg "_law_draw" (top 52)) : Def P w K mg base 1 "_law_draw" (top 52) ["pot", "many"] spDraw := by
  refine def_of D B scDraw (fun vs H Q E ⟨_, _, e, _⟩ => by rw [e]; rfl) fun f cdv A outer s H vs Q E hm C h => ?_
  obtain ⟨p, n, rfl, ⟨a, b, hp, b0, b1⟩, n0, n1, hQ⟩ := h
  have sq : SqL K H p [.int a, .int b] := .inl (.inl hp)
  refine b_cons (s_ifB (decide (0 < a)) ?_ (fun e H1 b1 => ?_) (fun e H1 b1 => ?_))
  · refine t_cmp (e_ix (e_name 0 (e_int (ix_l sq (v := .int a) rfl (e_int (c_gt ⟨_, rfl, rfl, But.refl⟩))))))
  · have hp1 := b1 _ _ (by simp) hp
    refine b_cons (s_asg (e_divmod B (e_ix (e_name 0 (e_int (ix_l (.inl (.inl hp1)) (v := .int a) rfl (e_name 1 ?_)))))))
    refine ⟨a, n, rfl, rfl, ⟨n0, n1⟩, fun t ht => ?_⟩
    have hpt : p ≠ t := ne_of_none hp1 ht
    refine g_tup (gs_cons (g_sub (e_name 0 (e_int (set_l (j := 0) (by rw [upd_ne hpt]; exact hp1) rfl ?_))))) rfl (.inl (.inl upd_same))
    refine gs_cons (g_name (i := 2) (gs_nil (b_cons (s_ret (e_name 2 ?_)))) C.nd)
    refine hQ _ _ (Int.emod_nonneg _ (by omega)) (Int.emod_lt_of_pos _ n0) ((b1.of.trans (But.new ht)).trans (But.at (by simp))) ⟨_, _, upd_same, b0, by assumption⟩
  · have hp1 := b1 _ _ (by simp) hp
    refine b_nil (b_cons (s_asg (e_bin (e_int1 B (e_bin (e_bin (e_ix (e_name 0 (e_int (ix_l (.inl (.inl hp1)) (v := .int b) rfl (e_int ?_)))))))))))
    refine o_mul (.inr ⟨by decide, by decide⟩) (e_int (o_add ⟨_, rfl, e_int (o_mod (by decide) (g_sub (e_name 0 (e_int (set_l (j := 1) hp1 rfl ?_)))))⟩))
    have x1 := Int.emod_nonneg (b * 40014 + 12211) (show (2147483563 : Int) ≠ 0 by decide)
    have x2 := Int.emod_lt_of_pos (b * 40014 + 12211) (show (0 : Int) < 2147483563 by decide)
    generalize (b * 40014 + 12211) % 2147483563 = b' at x1 x2 ⊢
    refine b_cons (s_ret (e_bin (e_int1 B (e_bin (e_bin (e_bin (e_ix (e_name 0 (e_int (ix_l (.inl (.inl upd_same)) (v := .int b') rfl (e_ix (e_name 0 (e_int (ix_l (.inl (.inl upd_same)) (v := .int b') rfl ?_))))))))))))))
    refine o_mul (.inl ⟨by omega, by omega⟩) (e_int (o_mod (by decide) (e_int (o_div ⟨by decide, by decide⟩ ⟨_, rfl, e_name 1 (o_mod n0 ?_)⟩))))
    exact hQ _ _ (Int.emod_nonneg _ (by omega)) (Int.emod_lt_of_pos _ n0) (b1.of.trans (But.at (by simp))) ⟨_, _, upd_same, by omega, by omega⟩
end
end K61

set_option Elab.async false
set_option linter.all false
set_option maxRecDepth 100000
set_option maxHeartbeats 4000000
namespace K61
open PySem PySem.Spec PyProof.Rows L2 Z
theorem strSigns_len {g : Str} (h : strSigns g = true) : g.length ≤ 4 ∧ 2 ≤ g.length := by
  simp only [strSigns, Bool.and_eq_true, decide_eq_true_eq] at h
  exact ⟨h.1.1.2, h.1.1.1⟩
section
variable {P : Program} {w : World} {K : PySem.W.Frag} {mg : Str → Option Value} {base : Heap}
def spPick (K : PySem.W.Frag) : Sp := fun vs H Q _ => ∃ p, Pot H p ∧
  ((∃ q xs, vs = [.ref p, .ref q] ∧ q ≠ p ∧ SqL K H q xs ∧ 0 < xs.length ∧ xs.length < 1000000 ∧ ∀ v ∈ xs, ∀ H', But [p] H H' → Pot H' p → Q v H') ∨
   (∃ z : Str, vs = [.ref p, .str z] ∧ 0 < z.length ∧ z.length < 1000000 ∧ ∀ c ∈ z.cps.toList, ∀ H', But [p] H H' → Pot H' p → Q (.str ⟨#[c]⟩) H'))
theorem scPick : FnScope ["pot", "things"] ["pot", "things"] (defScope (top 53)) := ⟨rfl, rfl, rfl, by decide +kernel, rfl, by decide +kernel, by decide +kernel⟩
theorem d_pick (B : Blt mg base) (D : At K mg "_law_pick" (top 53)) (D1 : Def P w K mg base 1 "_law_draw" (top 52) ["pot", "many"] spDraw) : Def P w K mg base 2 "_law_pick" (top 53) ["pot", "things"] (spPick K) := by
  refine def_of D B scPick (fun vs H Q E ⟨_, _, h⟩ => by rcases h with ⟨_, _, e, _⟩ | ⟨_, e, _⟩ <;> (rw [e]; rfl)) fun f cdv A outer s H vs Q E hm C h => ?_
  obtain ⟨p, hp, ⟨q, xs, rfl, hqp, hq, x0, x1, hQ⟩ | ⟨z, rfl, x0, x1, hQ⟩⟩ := h
  · refine b_cons (s_ret (e_ix (e_name 1 (e_call C D1 (a_cons (e_name 0 (a_cons (e_len B (e_name 1 ?_))))) rfl (fun _ _ _ _ _ _ us hl => match us, hl with | [_, _], _ => rfl)))))
    refine ⟨xs.length, .inl ⟨xs, hq, rfl⟩, a_nil ⟨p, xs.length, rfl, hp, by omega, by omega, fun r H' r0 r1 b hp' => ?_⟩⟩
    obtain ⟨j, rfl⟩ := Int.eq_ofNat_of_zero_le r0
    have hj : j < xs.length := by omega
    exact ix_l (b.sql (by simpa using hqp) hq) (atI_nat (List.getElem?_eq_getElem hj)) (hQ _ (List.getElem_mem hj) H' b hp')
  · refine b_cons (s_ret (e_ix (e_name 1 (e_call C D1 (a_cons (e_name 0 (a_cons (e_len B (e_name 1 ?_))))) rfl (fun _ _ _ _ _ _ us hl => match us, hl with | [_, _], _ => rfl)))))
    have hz : z.length ≤ sizeLine := by rw [sizeLine_eq]; omega
    refine ⟨z.length, ⟨hz, rfl⟩, a_nil ⟨p, z.length, rfl, hp, by omega, by omega, fun r H' r0 r1 b hp' => ?_⟩⟩
    obtain ⟨j, rfl⟩ := Int.eq_ofNat_of_zero_le r0
    have hj : j < z.cps.toList.length := by have : z.cps.toList.length = z.length := by simp; rfl
                                            omega
    exact ix_s hz (atI_nat (List.getElem?_eq_getElem hj)) (hQ _ (List.getElem_mem hj) H' b hp')
/-- a text of the signs -/
def spTxt : Sp := fun vs H Q _ => ∃ (p : Addr) (g : Str) (n : Nat), vs = [.ref p, .str g, .int n] ∧ Pot H p ∧ strSigns g = true ∧ n ≤ 100 ∧ ∀ (y : Str) H', isLine g (.str y) = true → y.length ≤ n → But [p] H H' → Pot H' p → Q (.str y) H'
theorem scTxt : FnScope ["pot", "signs", "most", "at"] ["pot", "signs", "most"] (defScope (top 54)) := ⟨rfl, rfl, rfl, by decide +kernel, rfl, by decide +kernel, by decide +kernel⟩
theorem d_txt (B : Blt mg base) (D : At K mg "_law_line" (top 54)) (D0 : Def P w K mg base 1 "_law_draw" (top 52) ["pot", "many"] spDraw) (D1 : Def P w K mg base 2 "_law_pick" (top 53) ["pot", "things"] (spPick K)) :
    Def P w K mg base 3 "_law_line" (top 54) ["pot", "signs", "most"] spTxt := by
  refine def_of D B scTxt (fun vs H Q E ⟨_, _, _, e, _⟩ => by rw [e]; rfl) fun f cdv A outer s H vs Q E hm C h => ?_
  obtain ⟨p, g, n, rfl, hp, hg, hn, hQ⟩ := h
  have gl := strSigns_len hg
  refine b_cons (s_ret (e_join (e_str ⟨"", rfl, e_lc [("at", 3)] C (i_range1 B (e_call (C.mono (by decide)) D0 (a_cons (e_name 0 (a_cons (e_bin (e_name 2 (e_int (o_add (a_nil ?_)))))))) rfl (fun _ _ _ _ _ _ us hl => match us, hl with | [_, _], _ => rfl)))⟩)))
  refine ⟨p, n + 1, rfl, hp, by omega, by omega, fun r H1 r0 r1 b1 hp1 => ?_⟩
  obtain ⟨m, rfl⟩ := Int.eq_ofNat_of_zero_le r0
  refine ⟨m, rfl, by omega, by omega, m, _, _, walk_range, fun Dl hDl => ?_⟩
  have nDp : Dl ≠ p := hp1.there hDl
  refine ⟨fun i H' => But [p] H1 H' ∧ Pot H' p ∧ ∃ ys : List Nat, ys.length = i ∧ (∀ c ∈ ys, c ∈ g.cps.toList) ∧ H' Dl = some (.lst (ys.map fun c => .str ⟨#[c]⟩)), ⟨But.new hDl, hp1.new (But.new hDl), [], rfl, fun c hc => by simp at hc, upd_same⟩, fun _ _ _ _ => trivial, ?_, ?_⟩
  · rintro i x H5 H' hi ⟨b5, hp5, ys, hy, hyg, hD5⟩ ⟨rfl, rfl⟩
    refine lc_plain (i := 3) C.nd fun s H0 Ca cl fp => ?_
    refine e_call (C.blk _ _ _ _ _) D1 (a_cons (e_name 0 (a_cons (e_name 1 (a_nil ?_))))) rfl (fun _ _ _ _ _ _ us hl => match us, hl with | [_, _], _ => rfl)
    refine ⟨p, hp5, .inr ⟨g, rfl, by omega, by omega, fun c hc H6 b6 hp6 => ?_⟩⟩
    refine ⟨_, b6 _ _ (by simpa using nDp) hD5, by rw [sizeLine_eq, List.length_map]; omega, fun q o nq e => ?_, ?_, ys ++ [c], by simp [hy], ?_, ?_⟩
    · have nqD : q ≠ Dl := ne_of_none e hDl
      rw [upd_ne nqD]
      exact b6 _ _ nq (b5 _ _ nq e)
    · obtain ⟨a, b, e, r⟩ := hp6
      exact ⟨a, b, by rw [upd_ne nDp.symm]; exact e, r⟩
    · intro c' hc'
      rcases List.mem_append.mp hc' with h | h
      · exact hyg c' h
      · rw [List.mem_singleton.mp h]; exact hc
    · rw [upd_same]; simp
  · rintro H5 ⟨b5, hp5, ys, hy, hyg, hD5⟩
    have e1 : (ys.map fun c => (⟨#[c]⟩ : Str)) = (ys.map fun c => [c]).map sOf := by rw [List.map_map]; rfl
    refine ⟨Dl, ys.map fun c => (⟨#[c]⟩ : Str), rfl, .inl (.inl (.inl (by rw [hD5, List.map_map]; rfl))), ?_, ?_⟩
    · have e2 : ((ys.map fun c => (⟨#[c]⟩ : Str)).map (·.length)).sum = ys.length := by
        clear hy hyg hD5 e1
        induction ys with
        | nil => rfl
        | cons c r ih => simp only [List.map_cons, List.sum_cons, ih, List.length_cons]; show 1 + r.length = _; omega
      rw [e2]
      show ys.length + _ * 0 ≤ _
      omega
    rw [e1, Z.join_nil]
    have e3 : (ys.map fun c => [c]).flatten = ys := by
      clear hy hyg hD5 e1
      induction ys with
      | nil => rfl
      | cons c r ih => simp only [List.map_cons, List.flatten_cons, ih, List.cons_append, List.nil_append]
    rw [e3]
    refine hQ (sOf ys) H5 ?_ (by rw [sOf_len]; omega) (b1.trans b5) hp5
    simp only [isLine, List.all_eq_true, decide_eq_true_eq, sOf_list]
    exact hyg
end
end K61

set_option Elab.async false
set_option linter.all false
set_option maxRecDepth 100000
set_option maxHeartbeats 4000000
namespace K61
open PySem PySem.Spec PyProof.Rows L2 Z
/-! ### the model drawn -/
def signSets : List Str := ["-a", "-.a", "-=>", "01", "-.=>", ".a|"]
theorem signs_ok : ∀ g ∈ signSets, strSigns g = true := by decide +kernel
def kvsM (R : RData) (ml : Addr) : List (Key × V) := [(.inr "signs", .str R.g), (.inr "marks", .ref ml), (.inr "tail", .str R.t), (.inr "sight", .str R.si), (.inr "order", .str R.od), (.inr "further", .str R.fu), (.inr "finish", .str R.fi)]
structure IsModel (R : RData) (H : Hp) (m : Addr) : Prop where
  ex : ∃ ml, H m = some (.dK (kvsM R ml)) ∧ H ml = some (.lst (R.ms.map V.str))
theorem IsModel.but {R : RData} {H H' : Hp} {m : Addr} (h : IsModel R H m) (b : But [] H H') : IsModel R H' m := let ⟨ml, h1, h2⟩ := h.ex; ⟨ml, b _ _ (by simp) h1, b _ _ (by simp) h2⟩
theorem ms_ne {R : RData} (ok : R.Ok) {a b : Int} : (R.ms.map V.str) ≠ [.int a, .int b] := fun z => by
  have h1 := ok.ms.1
  match h : R.ms, h1 with
  | x :: r, _ => rw [h] at z; cases z
theorem IsModel.pot {R : RData} {H H' : Hp} {m p : Addr} (h : IsModel R H m) (ok : R.Ok) (hp : Pot H p) (b : But [p] H H') : IsModel R H' m := by
  obtain ⟨ml, h1, h2⟩ := h.ex
  obtain ⟨x, y, e, _⟩ := hp
  refine ⟨ml, b _ _ (fun z => ?_) h1, b _ _ (fun z => ?_) h2⟩
  · rw [List.mem_singleton.mp z, e] at h1
    cases h1
  · rw [List.mem_singleton.mp z, e] at h2
    exact ms_ne ok (HO.lst.inj (Option.some.inj h2)).symm
theorem IsReader.pot {CR : Addr} {R : RData} {H H' : Hp} {m p : Addr} (h : IsReader CR R H m) (ok : R.Ok) (hp : Pot H p) (b : But [p] H H') : IsReader CR R H' m := by
  obtain ⟨x, y, e, _⟩ := hp
  exact h.but b fun q hq => ⟨[.int x, .int y], by rw [List.mem_singleton.mp hq]; exact e, (ms_ne ok).symm⟩
/-- no more than the laws' models hold -/
structure Small (R : RData) : Prop where
  ms : ∀ x ∈ R.ms, x.length ≤ 5
  t : R.t.length ≤ 2
theorem app_len {x y : Str} : (x ++ y).length = x.length + y.length := by
  have e : (x ++ y : Str).cps.toList = x.cps.toList ++ y.cps.toList := TL.tl_append x y
  have := congrArg List.length e
  rw [Array.length_toList, List.length_append, Array.length_toList, Array.length_toList] at this
  exact this
theorem app_line {g x y : Str} (hx : isLine g (.str x) = true) (hy : isLine g (.str y) = true) : isLine g (.str (x ++ y)) = true := by
  have e : (x ++ y : Str).cps.toList = x.cps.toList ++ y.cps.toList := TL.tl_append x y
  simp only [isLine] at hx hy ⊢
  rw [e, List.all_append, hx, hy]
  rfl
theorem one_line {g : Str} {c : Nat} (h : c ∈ g.cps.toList) : isLine g (.str ⟨#[c]⟩) = true := by simpa [isLine] using h
theorem wordOk_of {g nm x : Str} (h1 : nm ≠ "sight") (h2 : x ∈ wordsOf nm) : wordOk g nm x := by
  unfold wordOk
  rw [if_neg h1]
  exact h2
theorem inV_strs {z : Str} {ms : List Str} : inV (.str z) (ms.map V.str) = true ↔ z ∈ ms := by
  simp only [inV, List.any_map, List.any_eq_true, Function.comp, eqV, beq_iff_eq]
  exact ⟨fun ⟨y, hy, e⟩ => e ▸ hy, fun h => ⟨z, h, rfl⟩⟩
section
variable {P : Program} {w : World} {K : PySem.W.Frag} {mg : Str → Option Value} {base : Heap}
def spModel : Sp := fun vs H Q _ => ∃ p, vs = [.ref p] ∧ Pot H p ∧ ∀ R m H', R.Ok → Small R → IsModel R H' m → But [p] H H' → Pot H' p → Q (.ref m) H'
theorem scMo : FnScope ["pot", "signs", "marks", "turn", "mark", "found"] ["pot"] (defScope (top 55)) := ⟨rfl, rfl, rfl, by decide +kernel, rfl, by decide +kernel, by decide +kernel⟩
theorem d_model (B : Blt mg base) (D : At K mg "_law_model" (top 55)) (D0 : Def P w K mg base 1 "_law_draw" (top 52) ["pot", "many"] spDraw) (D1 : Def P w K mg base 2 "_law_pick" (top 53) ["pot", "things"] (spPick K))
    (D2 : Def P w K mg base 3 "_law_line" (top 54) ["pot", "signs", "most"] spTxt) : Def P w K mg base 4 "_law_model" (top 55) ["pot"] spModel := by
  refine def_of D B scMo (fun vs H Q E ⟨_, e, _⟩ => by rw [e]; rfl) fun f cdv A outer s H vs Q E hm C h => ?_
  obtain ⟨p, rfl, hp, hQ⟩ := h
  -- signs
  refine b_cons (s_set (i := 1) (e_call (C.mono (by decide)) D1 (a_cons (e_name 0 (a_cons (e_lits (K := []) (l := [p]) (ds := signSets.map .str) hp.here (lits_cons lit_str (lits_cons lit_str (lits_cons lit_str (lits_cons lit_str (lits_cons lit_str (lits_cons lit_str lits_nil)))))) (fun q vs H1 b1 hq hqp hd => a_nil ?_))))) rfl (fun _ _ _ _ _ _ us hl => match us, hl with | [_, _], _ => rfl)) C.nd)
  refine ⟨p, hp.new b1, .inl ⟨q, vs, rfl, by simpa using hqp, .inl (.inl hq), by rw [hd.length]; decide, by rw [hd.length]; decide, fun gv hgv H2 b2 hp2 => ?_⟩⟩
  obtain ⟨dg, hdg, dG⟩ := DDs.mem (hd.but b2) hgv
  obtain ⟨g, hg, rfl⟩ := List.mem_map.mp hdg
  cases dG
  have b02 : But [p] H H2 := b1.of.trans b2
  have gs := signs_ok g hg
  have gl := strSigns_len gs
  clear hd hq hqp hgv hdg
  -- marks
  refine b_cons (s_set (i := 2) (e_lst (a_nil ⟨by rw [sizeLine_eq]; exact (by decide : 0 ≤ 16777216), fun ml hml => ?_⟩)) C.nd)
  have bml : But [] H2 (upd H2 ml (.lst [])) := But.new hml
  have nmp : ml ≠ p := hp2.there hml
  refine b_cons (s_for C (i_range1 B (e_bin (e_int (e_call (C.mono (by decide)) D0 (a_cons (e_name 0 (a_cons (e_int (a_nil ?_))))) rfl (fun _ _ _ _ _ _ us hl => match us, hl with | [_, _], _ => rfl))))))
  refine ⟨p, 3, rfl, hp2.new bml, by decide, by decide, fun r H3 r0 r1 b3 hp3 => o_add ⟨_, rfl, by omega, by omega, ?_⟩⟩
  obtain ⟨n, rfl⟩ := Int.eq_ofNat_of_zero_le r0
  have hml3 : H3 ml = some (.lst []) := b3 _ _ (by simpa using nmp) upd_same
  have b23 : But [p] H2 H3 := bml.of.trans b3
  refine ⟨_, _, _, walk_range, fun i σ H' => (∃ v3 v4, σ = [some (.ref p), some (.str g), some (.ref ml), v3, v4, none]) ∧ But [p] H2 H' ∧ Pot H' p ∧ ∃ ms : List Str, H' ml = some (.lst (ms.map V.str)) ∧ ms.length = i ∧ ms.Nodup ∧ ∀ x ∈ ms, isLine g (.str x) = true ∧ 1 ≤ x.length ∧ x.length ≤ 2 + i,
    ⟨⟨none, none, rfl⟩, b23, hp3, [], hml3, rfl, List.nodup_nil, fun x hx => by simp at hx⟩, fun _ _ _ _ _ => trivial, ?_, ?_⟩
  · rintro i x σ H4 H' hi ⟨⟨v3, v4, rfl⟩, b4, hp4, ms, hml4, hlen, hnd, hms⟩ ⟨rfl, rfl⟩
    refine g_name (i := 3) ?_ C.nd
    refine b_cons (s_set (i := 4) (e_bin (e_call (C.mono (by decide)) D1 (a_cons (e_name 0 (a_cons (e_name 1 (a_nil ?_))))) rfl (fun _ _ _ _ _ _ us hl => match us, hl with | [_, _], _ => rfl))) C.nd)
    refine ⟨p, hp4, .inr ⟨g, rfl, by omega, by omega, fun c hc H5 b5 hp5 => ?_⟩⟩
    refine e_call C D2 (a_cons (e_name 0 (a_cons (e_name 1 (a_cons (e_int (a_nil ?_))))))) rfl (fun _ _ _ _ _ _ us hl => match us, hl with | [_, _, _], _ => rfl)
    refine ⟨p, g, 1, rfl, hp5, gs, by decide, fun y H6 hy hyl b6 hp6 => ?_⟩
    have l1 : (⟨#[c]⟩ : Str).length = 1 := rfl
    have l2 : ((⟨#[c]⟩ : Str) ++ y).length = 1 + y.length := by rw [app_len, l1]
    refine o_adds (by rw [l1, sizeLine_eq]; omega) ?_
    have hz0 := app_line (one_line hc) hy
    generalize (⟨#[c]⟩ : Str) ++ y = z0 at l2 hz0 ⊢
    have npl : ml ∉ [p] := by simpa using nmp
    have hml6 := b6 _ _ npl (b5 _ _ npl hml4)
    have b46 := b4.trans (b5.trans b6)
    -- until it is new
    refine b_cons (s_while C (fun k σ H' => ∃ z : Str, σ = [some (.ref p), some (.str g), some (.ref ml), some (.int (0 + (i : Int))), some (.str z), none] ∧ But [p] H2 H' ∧ Pot H' p ∧ H' ml = some (.lst (ms.map V.str)) ∧ isLine g (.str z) = true ∧ 1 ≤ z.length ∧ z.length + k = 3 + i) (3 + i - z0.length) ⟨z0, rfl, b46, hp6, hml6, hz0, by omega, by omega⟩ ?_)
    rintro k σ' H7 ⟨z, rfl, b7, hp7, hml7, hz, hz1, hzk⟩
    refine t_cmp (e_name 4 (v := .str z) (e_name 2 (v := .ref ml) (c_inL (.inl (.inl (.inl hml7))) rfl (flat_strs _) ⟨_, rfl, ite_b (fun e => ?_) fun e => ?_⟩)))
    · have hzin := inV_strs.mp e
      have hz2 := (hms z hzin).2.2
      have hgl : 0 < g.cps.toList.length := by have : g.cps.toList.length = g.length := by simp; rfl
                                               omega
      refine b_cons (s_set (i := 4) (e_bin (e_name 4 (v := .str z) (e_ix (e_name 1 (v := .str g) (e_int (ix_s (by rw [sizeLine_eq]; omega) (atI_nat (j := 0) (List.getElem?_eq_getElem hgl)) (o_adds ?_ (b_nil ?_)))))))) C.nd)
      · show z.length + 1 ≤ _
        rw [sizeLine_eq]; omega
      · exact ⟨k - 1, by omega, z ++ ⟨#[g.cps.toList[0]]⟩, rfl, b7, hp7, hml7, app_line hz (one_line (List.getElem_mem hgl)), by rw [app_len]; omega, by rw [app_len]; show z.length + 1 + (k - 1) = _; omega⟩
    · have hzn : z ∉ ms := fun hh => by rw [inV_strs.mpr hh] at e; cases e
      refine b_cons (s_expr (e_append (e_name 2 ⟨ml, rfl, ⟨_, hml7⟩, e_name 4 (v := .str z) ⟨_, hml7, by rw [sizeLine_eq, List.length_map]; omega, ?_⟩⟩)))
      refine b_nil ⟨⟨_, _, rfl⟩, fun q o nq e => ?_, ?_, ms ++ [z], by rw [upd_same]; simp, by simp [hlen], ?_, ?_⟩
      · rw [upd_ne (ne_of_none e hml)]
        exact b7 _ _ nq e
      · obtain ⟨a, b, e, r⟩ := hp7
        exact ⟨a, b, by rw [upd_ne nmp.symm]; exact e, r⟩
      · rw [List.nodup_append]
        exact ⟨hnd, by simp, fun a ha b hb hab => by rw [List.mem_singleton.mp hb] at hab; exact hzn (hab ▸ ha)⟩
      · intro x hx
        rcases List.mem_append.mp hx with hx | hx
        · have := hms x hx
          exact ⟨this.1, this.2.1, by omega⟩
        · rw [List.mem_singleton.mp hx]
          exact ⟨hz, hz1, by omega⟩
  · rintro σ H4 ⟨⟨v3, v4, rfl⟩, b4, hp4, ms, hml4, hlen, hnd, hms⟩
    have npl : ml ∉ [p] := by simpa using nmp
    have two : ∀ {x : Str}, x.length ≤ 10 → x.length ≤ sizeLine := fun h => by rw [sizeLine_eq]; omega
    refine b_cons (s_set (i := 5) (eE (pe_disp (pps_cons pE pE (pps_cons pE pE (pps_cons pE pE pps_nil))) rfl rfl (by simp) (by decide)) ?_) C.nd)
    intro fd hfd
    have nfp : fd ≠ p := hp4.there hfd
    have nfm : ml ≠ fd := ne_of_none hml4 hfd
    refine e_str (e_name 1 (e_str (e_name 2 (e_str (e_bin (e_call (C.mono (by decide)) D1 (a_cons (e_name 0 (a_cons (e_name 1 (a_nil ?_))))) rfl (fun _ _ _ _ _ _ us hl => match us, hl with | [_, _], _ => rfl)))))))
    refine ⟨p, hp4.new (But.new hfd), .inr ⟨g, rfl, by omega, by omega, fun c hc H5 b5 hp5 => ?_⟩⟩
    refine e_call C D2 (a_cons (e_name 0 (a_cons (e_name 1 (a_cons (e_int (a_nil ?_))))))) rfl (fun _ _ _ _ _ _ us hl => match us, hl with | [_, _, _], _ => rfl)
    refine ⟨p, g, 1, rfl, hp5, gs, by decide, fun y H6 hy hyl b6 hp6 => ?_⟩
    have l1 : (⟨#[c]⟩ : Str).length = 1 := rfl
    have l2 : ((⟨#[c]⟩ : Str) ++ y).length = 1 + y.length := by rw [app_len, l1]
    refine o_adds (by rw [l1, sizeLine_eq]; omega) ?_
    have ht := app_line (one_line hc) hy
    generalize (⟨#[c]⟩ : Str) ++ y = t at l2 ht ⊢
    have npf : fd ∉ [p] := by simpa using nfp
    have hf6 : H6 fd = some (.dK []) := b6 _ _ npf (b5 _ _ npf upd_same)
    have hm6 : H6 ml = some (.lst (ms.map V.str)) := b6 _ _ npl (b5 _ _ npl (by rw [upd_ne nfm]; exact hml4))
    have bf : But [] H4 (upd H4 fd (.dK [])) := But.new hfd
    have b46 : But [p] H4 H6 := bf.of.trans (b5.trans b6)
    refine ⟨hf6, [(.inr "signs", .str g), (.inr "marks", .ref ml), (.inr "tail", .str t)], rfl, by show 3 ≤ 15; decide, ?_⟩
    have em : mergeK [] [((.inr "signs" : Key), V.str g), (.inr "marks", .ref ml), (.inr "tail", .str t)] = [((.inr "signs" : Key), V.str g), (.inr "marks", .ref ml), (.inr "tail", .str t)] := rfl
    rw [em]
    -- what stays while the dict grows
    have grow : ∀ {H7 H8 : Hp} {o : HO}, But [p] H4 H7 → Pot H7 p → H7 ml = some (.lst (ms.map V.str)) → H8 = upd H7 fd o → But [p] H4 H8 ∧ Pot H8 p ∧ H8 ml = some (.lst (ms.map V.str)) ∧ H8 fd = some o := fun {H7 H8 o} b hp hm e => by
      subst e
      refine ⟨fun q u nq e => ?_, ?_, by rw [upd_ne nfm]; exact hm, upd_same⟩
      · rw [upd_ne (ne_of_none e hfd)]
        exact b _ _ nq e
      · obtain ⟨x, y, e, r⟩ := hp
        exact ⟨x, y, by rw [upd_ne nfp.symm]; exact e, r⟩
    obtain ⟨b7, hp7, hm7, hf7⟩ := grow b46 hp6 hm6 rfl
    generalize upd H6 fd (.dK [((.inr "signs" : Key), V.str g), (.inr "marks", .ref ml), (.inr "tail", .str t)]) = H7 at b7 hp7 hm7 hf7 ⊢
    have hgl : 0 < g.cps.toList.length := by have : g.cps.toList.length = g.length := by simp; rfl
                                             omega
    -- sight
    refine b_cons (s_asg (e_call (C.mono (by decide)) D1 (a_cons (e_name 0 (a_cons (e_lst ?_)))) rfl (fun _ _ _ _ _ _ us hl => match us, hl with | [_, _], _ => rfl)))
    refine a_cons (e_str (a_cons (e_str (a_cons (e_str (a_cons (e_ix (e_name 1 (v := .str g) (e_int (ix_s (two (by omega)) (atI_nat (j := 0) (List.getElem?_eq_getElem hgl)) ?_))))))))))
    refine a_cons (e_ix (e_name 1 (v := .str g) (e_un (e_int (u_neg (ix_s (two (by omega)) (c := g.cps.toList[g.cps.toList.length - 1]) ?_ (a_nil ⟨by rw [sizeLine_eq]; exact (by decide : 5 ≤ 16777216), fun q hq => a_nil ?_⟩)))))))
    · obtain ⟨ini, las, hs⟩ : ∃ ini las, g.cps.toList = ini ++ [las] := ⟨_, _, (List.dropLast_concat_getLast (fun z => by rw [z] at hgl; cases hgl)).symm⟩
      have : g.cps.toList[g.cps.toList.length - 1]'(by omega) = las := by simp [hs]
      rw [this, hs]
      exact atI_last _ _
    refine ⟨p, hp7.new (But.new hq), .inl ⟨q, _, rfl, hp7.there hq, .inl (.inl upd_same), by show 0 < 5; decide, by show 5 < 1000000; decide, fun sv hsv H8 b8 hp8 => ?_⟩⟩
    obtain ⟨si, rfl, hsi⟩ : ∃ si, sv = .str si ∧ wordOk g "sight" si := by
      simp only [List.mem_cons, List.not_mem_nil, or_false] at hsv
      rcases hsv with rfl | rfl | rfl | rfl | rfl
      · exact ⟨_, rfl, .inl rfl⟩
      · exact ⟨_, rfl, .inl rfl⟩
      · exact ⟨_, rfl, .inr (.inl rfl)⟩
      · exact ⟨_, rfl, .inr (.inr ⟨_, List.getElem_mem hgl, rfl⟩)⟩
      · exact ⟨_, rfl, .inr (.inr ⟨_, List.getElem_mem (by omega), rfl⟩)⟩
    have bq : But [] H7 (upd H7 q (.lst [.str "whole", .str "whole", .str "start", .str ⟨#[g.cps.toList[0]]⟩, .str ⟨#[g.cps.toList[g.cps.toList.length - 1]]⟩])) := But.new hq
    have hf8 := b8 _ _ npf (bq _ _ (by simp) hf7)
    have hm8 := b8 _ _ npl (bq _ _ (by simp) hm7)
    have b48 : But [p] H4 H8 := b7.trans (bq.of.trans b8)
    clear hsv
    refine g_sub (e_name 5 (v := .ref fd) (e_str (set_d C (DPut.k (k := .inr "sight") hf8 (by rw [sizeLine_eq]; exact (by decide : 3 < 16777216))) ?_)))
    rw [show putK [((.inr "signs" : Key), V.str g), (.inr "marks", .ref ml), (.inr "tail", .str t)] (.inr "sight") (.str si) = [((.inr "signs" : Key), V.str g), (.inr "marks", .ref ml), (.inr "tail", .str t), (.inr "sight", .str si)] from rfl]
    obtain ⟨b9, hp9, hm9, hf9⟩ := grow b48 hp8 hm8 rfl
    generalize upd H8 fd (.dK [((.inr "signs" : Key), V.str g), (.inr "marks", .ref ml), (.inr "tail", .str t), (.inr "sight", .str si)]) = H9 at b9 hp9 hm9 hf9 ⊢
    clear hf8 hm8 b48 hp8 hf7 hm7 hp7 b7 hf6 hm6 hp6
    -- order
    refine b_cons (s_asg (e_call (C.mono (by decide)) D1 (a_cons (e_name 0 (a_cons (e_lits (K := []) (l := [p]) (ds := [.str "inner", .str "outer"]) hp9.here (lits_cons lit_str (lits_cons lit_str lits_nil)) (fun q vs H10 b10 hq hqp hd => a_nil ?_))))) rfl (fun _ _ _ _ _ _ us hl => match us, hl with | [_, _], _ => rfl)))
    refine ⟨p, hp9.new b10, .inl ⟨q, vs, rfl, by simpa using hqp, .inl (.inl hq), by rw [hd.length]; decide, by rw [hd.length]; decide, fun ov hov H11 b11 hp11 => ?_⟩⟩
    obtain ⟨dg, hdg, dG⟩ := DDs.mem (hd.but b11) hov
    obtain ⟨od, rfl, hod⟩ : ∃ od, dg = .str od ∧ wordOk g "order" od := by
      simp only [List.mem_cons, List.not_mem_nil, or_false] at hdg
      rcases hdg with rfl | rfl
      · exact ⟨_, rfl, wordOk_of (by decide) (by decide)⟩
      · exact ⟨_, rfl, wordOk_of (by decide) (by decide)⟩
    cases dG
    have hf11 := b11 _ _ npf (b10 _ _ (by simp) hf9)
    have hm11 := b11 _ _ npl (b10 _ _ (by simp) hm9)
    have b411 : But [p] H4 H11 := b9.trans (b10.of.trans b11)
    clear hov hd hq hqp hdg
    refine g_sub (e_name 5 (v := .ref fd) (e_str (set_d C (DPut.k (k := .inr "order") hf11 (by rw [sizeLine_eq]; exact (by decide : 4 < 16777216))) ?_)))
    rw [show putK [((.inr "signs" : Key), V.str g), (.inr "marks", .ref ml), (.inr "tail", .str t), (.inr "sight", .str si)] (.inr "order") (.str od) = [((.inr "signs" : Key), V.str g), (.inr "marks", .ref ml), (.inr "tail", .str t), (.inr "sight", .str si), (.inr "order", .str od)] from rfl]
    obtain ⟨b12, hp12, hm12, hf12⟩ := grow b411 hp11 hm11 rfl
    generalize upd H11 fd (.dK [((.inr "signs" : Key), V.str g), (.inr "marks", .ref ml), (.inr "tail", .str t), (.inr "sight", .str si), (.inr "order", .str od)]) = H12 at b12 hp12 hm12 hf12 ⊢
    clear hf11 hm11 b411 hp11 hf9 hm9 hp9 b9 b10 b11
    -- further
    refine b_cons (s_asg (e_call (C.mono (by decide)) D1 (a_cons (e_name 0 (a_cons (e_lits (K := []) (l := [p]) (ds := [.str "refuse", .str "close"]) hp12.here (lits_cons lit_str (lits_cons lit_str lits_nil)) (fun q vs H10 b10 hq hqp hd => a_nil ?_))))) rfl (fun _ _ _ _ _ _ us hl => match us, hl with | [_, _], _ => rfl)))
    refine ⟨p, hp12.new b10, .inl ⟨q, vs, rfl, by simpa using hqp, .inl (.inl hq), by rw [hd.length]; decide, by rw [hd.length]; decide, fun ov hov H11 b11 hp11 => ?_⟩⟩
    obtain ⟨dg, hdg, dG⟩ := DDs.mem (hd.but b11) hov
    obtain ⟨fu, rfl, hfu⟩ : ∃ od, dg = .str od ∧ wordOk g "further" od := by
      simp only [List.mem_cons, List.not_mem_nil, or_false] at hdg
      rcases hdg with rfl | rfl
      · exact ⟨_, rfl, wordOk_of (by decide) (by decide)⟩
      · exact ⟨_, rfl, wordOk_of (by decide) (by decide)⟩
    cases dG
    have hf11 := b11 _ _ npf (b10 _ _ (by simp) hf12)
    have hm11 := b11 _ _ npl (b10 _ _ (by simp) hm12)
    have b411 : But [p] H4 H11 := b12.trans (b10.of.trans b11)
    clear hov hd hq hqp hdg
    refine g_sub (e_name 5 (v := .ref fd) (e_str (set_d C (DPut.k (k := .inr "further") hf11 (by rw [sizeLine_eq]; exact (by decide : 5 < 16777216))) ?_)))
    rw [show putK [((.inr "signs" : Key), V.str g), (.inr "marks", .ref ml), (.inr "tail", .str t), (.inr "sight", .str si), (.inr "order", .str od)] (.inr "further") (.str fu) = [((.inr "signs" : Key), V.str g), (.inr "marks", .ref ml), (.inr "tail", .str t), (.inr "sight", .str si), (.inr "order", .str od), (.inr "further", .str fu)] from rfl]
    obtain ⟨b13, hp13, hm13, hf13⟩ := grow b411 hp11 hm11 rfl
    generalize upd H11 fd (.dK [((.inr "signs" : Key), V.str g), (.inr "marks", .ref ml), (.inr "tail", .str t), (.inr "sight", .str si), (.inr "order", .str od), (.inr "further", .str fu)]) = H13 at b13 hp13 hm13 hf13 ⊢
    clear hf11 hm11 b411 hp11 hf12 hm12 hp12 b12 b10 b11
    -- finish
    refine b_cons (s_asg (e_call (C.mono (by decide)) D1 (a_cons (e_name 0 (a_cons (e_lits (K := []) (l := [p]) (ds := [.str "refuse", .str "close"]) hp13.here (lits_cons lit_str (lits_cons lit_str lits_nil)) (fun q vs H10 b10 hq hqp hd => a_nil ?_))))) rfl (fun _ _ _ _ _ _ us hl => match us, hl with | [_, _], _ => rfl)))
    refine ⟨p, hp13.new b10, .inl ⟨q, vs, rfl, by simpa using hqp, .inl (.inl hq), by rw [hd.length]; decide, by rw [hd.length]; decide, fun ov hov H11 b11 hp11 => ?_⟩⟩
    obtain ⟨dg, hdg, dG⟩ := DDs.mem (hd.but b11) hov
    obtain ⟨fi, rfl, hfi⟩ : ∃ od, dg = .str od ∧ wordOk g "finish" od := by
      simp only [List.mem_cons, List.not_mem_nil, or_false] at hdg
      rcases hdg with rfl | rfl
      · exact ⟨_, rfl, wordOk_of (by decide) (by decide)⟩
      · exact ⟨_, rfl, wordOk_of (by decide) (by decide)⟩
    cases dG
    have hf11 := b11 _ _ npf (b10 _ _ (by simp) hf13)
    have hm11 := b11 _ _ npl (b10 _ _ (by simp) hm13)
    have b411 : But [p] H4 H11 := b13.trans (b10.of.trans b11)
    clear hov hd hq hqp hdg
    refine g_sub (e_name 5 (v := .ref fd) (e_str (set_d C (DPut.k (k := .inr "finish") hf11 (by rw [sizeLine_eq]; exact (by decide : 6 < 16777216))) ?_)))
    rw [show putK [((.inr "signs" : Key), V.str g), (.inr "marks", .ref ml), (.inr "tail", .str t), (.inr "sight", .str si), (.inr "order", .str od), (.inr "further", .str fu)] (.inr "finish") (.str fi) = kvsM ⟨g, ms, t, si, od, fu, fi⟩ ml from rfl]
    obtain ⟨b14, hp14, hm14, hf14⟩ := grow b411 hp11 hm11 rfl
    have hn : ms.length = n + 1 := by omega
    refine b_cons (s_ret (e_name 5 (hQ ⟨g, ms, t, si, od, fu, fi⟩ fd _ ⟨gs, ⟨by show 1 ≤ ms.length; omega, by show ms.length ≤ 3; omega, fun x hx => ?_, hnd⟩, ?_, hsi, hod, hfu, hfi⟩ ⟨fun x hx => ?_, by show t.length ≤ 2; omega⟩ ⟨ml, hf14, hm14⟩ (b02.trans (b4.trans b14)) hp14)))
    · have := hms x hx
      simp only [shortLine, this.1, Bool.true_and, Bool.and_eq_true, decide_eq_true_eq]
      omega
    · simp only [shortLine, ht, Bool.true_and, Bool.and_eq_true, decide_eq_true_eq]
      omega
    · have := hms x hx
      omega
end
end K61

set_option Elab.async false
set_option linter.all false
set_option maxRecDepth 100000
set_option maxHeartbeats 4000000
namespace K61
open PySem PySem.Spec PyProof.Rows L2 Z
/-! ### the reader made -/
section
variable {P : Program} {w : World} {K : PySem.W.Frag} {mg : Str → Option Value} {base : Heap} {CR : Addr}
def rKs : List Str := ["sight", "order", "further", "finish"]
theorem kbn_init {kV doc pm cdv ct : Value} {an : Option Addr} : KBn K (PySem.W.fnOf "__init__" "Reader.__init__" (defArgs (clsAt (top 38) 0)) (defBody (clsAt (top 38) 0)) (defScope (clsAt (top 38) 0)) .none kV doc pm an cdv ct) rPs 4 rKs (fun us ws => us ++ ws) (fun vs zs => vs ++ zs) :=
  ⟨fun s us ws X l1 l2 => .of_eq (match us, ws, l1, l2 with | [_, _, _, _], [_, _, _, _], _, _ => rfl), fun r1 r2 => r1.append r2⟩
def rgf : List Value → List Value → List Value := fun us ws => us ++ ws
abbrev RdOk (P : Program) (w : World) (K : PySem.W.Frag) (mg : Str → Option Value) (base : Heap) (CR : Addr) : Prop := MakeOk P w K mg base 4 "Reader" CR rPs (spInit K CR) fun fd => KBn K fd rPs 4 rKs (fun us ws => us ++ ws) (fun vs zs => vs ++ zs)
def spRd (CR : Addr) : Sp := fun vs H Q _ => ∃ (m : Addr) (R : RData), vs = [.ref m] ∧ IsModel R H m ∧ R.Ok ∧ ∀ r H', But [] H H' → H r = none → IsReader CR R H' r → Q (.ref r) H'
theorem scRd : FnScope ["model"] ["model"] (defScope (top 56)) := ⟨rfl, rfl, rfl, by decide +kernel, rfl, by decide +kernel, by decide +kernel⟩
theorem d_reader (B : Blt mg base) (D : At K mg "_law_reader" (top 56)) (M : RdOk P w K mg base CR) : Def P w K mg base 6 "_law_reader" (top 56) ["model"] (spRd CR) := by
  refine def_of D B scRd (fun vs H Q E ⟨_, _, e, _⟩ => by rw [e]; rfl) fun f cdv A outer s H vs Q E hm C h => ?_
  obtain ⟨m, R, rfl, hM, ok, hQ⟩ := h
  obtain ⟨ml, h1, h2⟩ := hM.ex
  have get : ∀ (k : Str) (v : V), valV (kvsM R ml) (.inr k) = some v → DGet H m (.str k) (some v) := fun k v e => by rw [← e]; exact DGet.k (k := .inr k) h1
  refine b_cons (s_ret (e_makeK (gf := fun us ws => us ++ ws) (gV := fun vs zs => vs ++ zs) (ks := rKs) (n := 3) (E := fun _ _ _ => False) C M (fun _ _ _ _ z => z.elim) ?_))
  refine a_cons (e_dget C (e_name 0 (v := .ref m) (e_str ⟨rfl, get _ (.str R.g) rfl, ?_⟩)))
  refine a_cons (e_dget C (e_name 0 (v := .ref m) (e_str ⟨rfl, get _ (.ref ml) rfl, ?_⟩)))
  refine a_cons (e_dget C (e_name 0 (v := .ref m) (e_str ⟨rfl, get _ (.str R.t) rfl, a_nil ?_⟩)))
  refine k_cons (e_dget C (e_name 0 (v := .ref m) (e_str ⟨rfl, get _ (.str R.si) rfl, ?_⟩)))
  refine k_cons (e_dget C (e_name 0 (v := .ref m) (e_str ⟨rfl, get _ (.str R.od) rfl, ?_⟩)))
  refine k_cons (e_dget C (e_name 0 (v := .ref m) (e_str ⟨rfl, get _ (.str R.fu) rfl, ?_⟩)))
  refine k_cons (e_dget C (e_name 0 (v := .ref m) (e_str ⟨rfl, get _ (.str R.fi) rfl, k_nil ⟨rfl, rfl, fun r dx hr hdx nd => ?_⟩⟩)))
  have bn : But [] H (upd (upd H dx (.own r)) r (.ins CR dx [])) := (But.new hdx).trans (But.new (by rw [upd_ne nd.symm]; exact hr))
  refine ⟨r, dx, ml, R, rfl, ok, upd_same, bn _ _ (by simp) h2, fun H' b hR => ⟨rfl, hQ r H' (but_late bn b fun q hq => by rw [List.mem_singleton.mp hq]; exact hr) hr hR⟩⟩
/-! ### lines near to the model's -/
def spLof (K : PySem.W.Frag) : Sp := fun vs H Q _ => ∃ (m t : Addr) (R : RData) (nx : Bool) (lv : Nat), vs = [.ref m, .ref t] ∧ IsModel R H m ∧ R.Ok ∧ SqT K H t [.str (kindS nx), .int lv] ∧ 1 ≤ lv ∧ lv ≤ R.ms.length ∧ ∀ H', But [] H H' → Q (.str (lineOf R nx lv)) H'
theorem scLof : FnScope ["model", "role", "mark"] ["model", "role"] (defScope (top 57)) := ⟨rfl, rfl, rfl, by decide +kernel, rfl, by decide +kernel, by decide +kernel⟩
theorem app_empty {x : Str} : x ++ ("" : Str) = x := by
  apply str_ext
  rw [show (x ++ ("" : Str)).cps.toList = x.cps.toList ++ [] from TL.tl_append _ _, List.append_nil]
theorem d_lof (B : Blt mg base) (D : At K mg "_law_line_of" (top 57)) : Def P w K mg base 1 "_law_line_of" (top 57) ["model", "role"] (spLof K) := by
  refine def_of D B scLof (fun vs H Q E ⟨_, _, _, _, _, e, _⟩ => by rw [e]; rfl) fun f cdv A outer s H vs Q E hm C h => ?_
  obtain ⟨m, t, R, nx, lv, rfl, hM, ok, ht, l1, l2, hQ⟩ := h
  obtain ⟨ml, h1, h2⟩ := hM.ex
  have get : ∀ (k : Str) (v : V), valV (kvsM R ml) (.inr k) = some v → DGet H m (.str k) (some v) := fun k v e => by rw [← e]; exact DGet.k (k := .inr k) h1
  have hlt : lv - 1 < R.ms.length := by omega
  have hget : R.ms.getD (lv - 1) "" = R.ms[lv - 1] := by rw [List.getD_eq_getElem?_getD, List.getElem?_eq_getElem hlt]; rfl
  refine b_cons (s_set (i := 2) (e_ix (e_dget C (e_name 0 (v := .ref m) (e_str ⟨rfl, get _ (.ref ml) rfl, e_bin (e_ix (e_name 1 (v := .ref t) (e_int (ix_t ht (v := .int lv) rfl (e_int (o_sub ?_))))))⟩)))) C.nd)
  have e1 : ((lv : Int) - 1) = ((lv - 1 : Nat) : Int) := by omega
  rw [e1]
  refine ix_l (.inl (.inl h2)) (v := .str R.ms[lv - 1]) (atI_nat (by rw [List.getElem?_map, List.getElem?_eq_getElem hlt]; rfl)) ?_
  refine b_cons (s_ret (e_if (t_cmp (e_ix (e_name 1 (v := .ref t) (e_int (ix_t ht (v := .str (kindS nx)) rfl (e_str (c_eq rfl ⟨nx, ?_, ite_b (fun e => ?_) fun e => ?_⟩)))))))))
  · cases nx <;> rfl
  · subst e
    refine e_name 2 ?_
    have e3 : lineOf R true lv = R.ms[lv - 1] := by
      unfold lineOf
      rw [hget, if_pos rfl]
      exact app_empty
    rw [← e3]
    exact hQ H But.refl
  · subst e
    have m12 := ok.ms.2.2.1 _ (List.getElem_mem hlt)
    have t3 := ok.t
    simp only [shortLine, Bool.and_eq_true, decide_eq_true_eq] at m12 t3
    refine e_bin (e_name 2 (v := .str R.ms[lv - 1]) (e_dget C (e_name 0 (v := .ref m) (e_str ⟨rfl, get _ (.str R.t) rfl, o_adds (by rw [sizeLine_eq]; omega) ?_⟩))))
    have e3 : lineOf R false lv = R.ms[lv - 1] ++ R.t := by
      unfold lineOf
      rw [hget, if_neg (by simp)]
    rw [← e3]
    exact hQ H But.refl
theorem lineOf_ok {R : RData} (ok : R.Ok) (sm : Small R) {nx : Bool} {lv : Nat} (l1 : 1 ≤ lv) (l2 : lv ≤ R.ms.length) : isLine R.g (.str (lineOf R nx lv)) = true ∧ (lineOf R nx lv).length ≤ 7 := by
  have hlt : lv - 1 < R.ms.length := by omega
  have hget : R.ms.getD (lv - 1) "" = R.ms[lv - 1] := by rw [List.getD_eq_getElem?_getD, List.getElem?_eq_getElem hlt]; rfl
  have m12 := ok.ms.2.2.1 _ (List.getElem_mem hlt)
  have s5 := sm.ms _ (List.getElem_mem hlt)
  have t3 := ok.t
  have s2 := sm.t
  simp only [shortLine, Bool.and_eq_true, decide_eq_true_eq] at m12 t3
  unfold lineOf
  rw [hget]
  cases nx with
  | true =>
    rw [if_pos rfl, app_empty]
    exact ⟨m12.1.1, by omega⟩
  | false =>
    rw [if_neg (by simp)]
    exact ⟨app_line m12.1.1 t3.1.1, by rw [app_len]; omega⟩
def spNear : Sp := fun vs H Q _ => ∃ (p m : Addr) (R : RData), vs = [.ref p, .ref m] ∧ Pot H p ∧ IsModel R H m ∧ R.Ok ∧ Small R ∧ ∀ (y : Str) H', isLine R.g (.str y) = true → y.length ≤ 8 → But [p] H H' → Pot H' p → Q (.str y) H'
theorem scNe : FnScope ["pot", "model", "signs", "way", "word"] ["pot", "model"] (defScope (top 58)) := ⟨rfl, rfl, rfl, by decide +kernel, rfl, by decide +kernel, by decide +kernel⟩
theorem d_near (B : Blt mg base) (D : At K mg "_law_near_line" (top 58)) (D0 : Def P w K mg base 1 "_law_draw" (top 52) ["pot", "many"] spDraw) (D2 : Def P w K mg base 3 "_law_line" (top 54) ["pot", "signs", "most"] spTxt)
    (D3 : Def P w K mg base 1 "_law_line_of" (top 57) ["model", "role"] (spLof K)) : Def P w K mg base 4 "_law_near_line" (top 58) ["pot", "model"] spNear := by
  refine def_of D B scNe (fun vs H Q E ⟨_, _, _, e, _⟩ => by rw [e]; rfl) fun f cdv A outer s H vs Q E hm C h => ?_
  obtain ⟨p, m, R, rfl, hp, hM, ok, sm, hQ⟩ := h
  obtain ⟨ml, h1, h2⟩ := hM.ex
  have get : ∀ (k : Str) (v : V), valV (kvsM R ml) (.inr k) = some v → DGet H m (.str k) (some v) := fun k v e => by rw [← e]; exact DGet.k (k := .inr k) h1
  have two : 2 ≤ sizeLine := by rw [sizeLine_eq]; exact (by decide : 2 ≤ 16777216)
  refine b_cons (s_par (i := 2) (j := 3) C ?_)
  refine a_cons (e_dget C (e_name 1 (v := .ref m) (e_str ⟨rfl, get _ (.str R.g) rfl, ?_⟩)))
  refine a_cons (e_call (C.mono (by decide)) D0 (a_cons (e_name 0 (a_cons (e_int (a_nil ?_))))) rfl (fun _ _ _ _ _ _ us hl => match us, hl with | [_, _], _ => rfl))
  refine ⟨p, 5, rfl, hp, by decide, by decide, fun r H2 r0 r1 b02 hp2 => a_nil ⟨_, _, rfl, ?_⟩⟩
  obtain ⟨n, rfl⟩ := Int.eq_ofNat_of_zero_le r0
  refine b_cons (s_ifB (decide ((n : Int) < 2)) ?_ (fun e H3 b3 => ?_) (fun e H3 b3 => ?_))
  · exact t_cmp (e_name 3 (v := .int n) (e_int (c_lt ⟨_, rfl, rfl, But.refl⟩)))
  · refine b_cons (s_ret (e_call C D2 (a_cons (e_name 0 (a_cons (e_name 2 (v := .str R.g) (a_cons (e_int (a_nil ?_))))))) rfl (fun _ _ _ _ _ _ us hl => match us, hl with | [_, _, _], _ => rfl)))
    exact ⟨p, R.g, 4, rfl, hp2.new b3, ok.g, by decide, fun y H' hy hl b hp' => hQ y H' hy (by omega) (b02.trans (b3.of.trans b)) hp'⟩
  · have hM3 : IsModel R H3 m := (hM.pot ok hp b02).but b3
    obtain ⟨mk, g1, g2⟩ := hM3.ex
    have hp3 := hp2.new b3
    have fin : ∀ nx : Bool, wB (bX P w K mg base ["pot", "model", "signs", "way", "word"] "_law_near_line" (top 58) f cdv A outer s H E) ((defBody (top 58)).drop 3) { nx := fun _ H' => Q .non H', rt := Q } [some (.ref p), some (.ref m), some (.str R.g), some (.int n), some (.str (kindS nx))] H3 := fun nx => by
      refine b_cons (s_ret (e_bin (e_call (C.mono (by decide)) D3 (a_cons (e_name 1 (v := .ref m) (a_cons (e_tup ?_)))) rfl (fun _ _ _ _ _ _ us hl => match us, hl with | [_, _], _ => rfl))))
      refine a_cons (e_name 4 (v := .str (kindS nx)) (a_cons (e_bin (e_int (e_call (C.mono (by decide)) D0 ?_ rfl (fun _ _ _ _ _ _ us hl => match us, hl with | [_, _], _ => rfl))))))
      refine a_cons (e_name 0 (a_cons (e_len B (e_dget C (e_name 1 (v := .ref m) (e_str ⟨rfl, DGet.k (k := .inr "marks") g1, ?_⟩))))))
      refine ⟨R.ms.length, .inl ⟨_, .inl (.inl g2), by simp⟩, a_nil ⟨p, R.ms.length, rfl, hp3, ?_, ?_, fun r H4 r0 r1 b4 hp4 => o_add (a_nil ⟨two, fun t ht => a_nil ?_⟩)⟩⟩
      · have := ok.ms.1; omega
      · have := ok.ms.2.1; omega
      obtain ⟨k, rfl⟩ := Int.eq_ofNat_of_zero_le r0
      have bt := But.new (l := []) (o := .tup [.str (kindS nx), .int (1 + (k : Int))]) ht
      refine ⟨m, t, R, nx, 1 + k, rfl, (hM3.pot ok hp3 b4).but bt, ok, .inl (.inl (by rw [upd_same]; rfl)), by omega, by omega, fun H5 b5 => ?_⟩
      have hp5 := (hp4.new bt).new b5
      have ll := lineOf_ok ok sm (nx := nx) (lv := 1 + k) (by omega) (by omega)
      refine e_call C D2 (a_cons (e_name 0 (a_cons (e_name 2 (v := .str R.g) (a_cons (e_int (a_nil ?_))))))) rfl (fun _ _ _ _ _ _ us hl => match us, hl with | [_, _, _], _ => rfl)
      exact ⟨p, R.g, 1, rfl, hp5, ok.g, by decide, fun y H' hy hl b hp' => o_adds (by rw [sizeLine_eq]; omega) (hQ _ H' (app_line ll.1 hy) (by rw [app_len]; omega) (b02.trans (b3.of.trans (b4.trans (bt.of.trans (b5.of.trans b))))) hp')⟩
    refine b_nil (b_cons (s_set (i := 4) (e_if (t_cmp (e_name 3 (v := .int n) (e_int (c_eq rfl ⟨_, rfl, ite_b (fun e2 => e_str ?_) fun e2 => e_str ?_⟩))))) C.nd))
    · exact fin true
    · exact fin false
end
end K61

set_option Elab.async false
set_option linter.all false
set_option maxRecDepth 100000
set_option maxHeartbeats 4000000
namespace K61
open PySem PySem.Spec PyProof.Rows L2 Z
/-! ### the bush drawn -/
def leafOk (g : Str) : PyData → Bool
  | .str y => isLine g (.str y) && decide (y.length ≤ 8)
  | _ => false
def bushOk (g : Str) : Nat → PyData → Bool
  | 0, d => Z.isList d && decide ((items d).length ≤ 3) && (items d).all (leafOk g)
  | n + 1, d => Z.isList d && decide ((items d).length ≤ 3) && (items d).all (bushOk g n)
theorem leaf_line {g : Str} {d : PyData} (h : leafOk g d = true) : okLine g d = true := by
  cases d <;> simp [leafOk, okLine] at h ⊢
  exact ⟨h.1, by omega⟩
theorem bush_tree {g : Str} : ∀ {n : Nat} {d : PyData}, bushOk g n d = true → isTree g n d = true
  | 0, d, h => by
    simp only [bushOk, isTree, seqB, Bool.and_eq_true, decide_eq_true_eq, List.all_eq_true] at h ⊢
    exact ⟨⟨by rw [h.1.1]; rfl, by omega⟩, fun x hx => leaf_line (h.2 x hx)⟩
  | n + 1, d, h => by
    simp only [bushOk, isTree, seqB, Bool.and_eq_true, decide_eq_true_eq, List.all_eq_true] at h ⊢
    exact ⟨⟨by rw [h.1.1]; rfl, by omega⟩, fun x hx => bush_tree (h.2 x hx)⟩
theorem here_pot {l : List Addr} {p : Addr} {H H' : Hp} (h : Here l H) (b : But [p] H H') (hp : Pot H' p) : Here l H' := fun q hq => by
  obtain ⟨o, e⟩ := h q hq
  by_cases z : q = p
  · obtain ⟨x, y, e2, _⟩ := hp
    exact ⟨_, by rw [z]; exact e2⟩
  · exact ⟨o, b _ _ (by simpa using z) e⟩
theorem pot_upd {p q : Addr} {H : Hp} {o : HO} (hp : Pot H p) (n : q ≠ p) : Pot (upd H q o) p := by
  obtain ⟨a, b, e, r⟩ := hp
  exact ⟨a, b, by rw [upd_ne n.symm]; exact e, r⟩
theorem dd_mono {l m : List Addr} {H H1 : Hp} {v : V} {d : PyData} (h : DD [] m H v d) (b : But l H H1) (hm : ∀ q ∈ l, q ∈ m) : DD [] m H1 v d := h.but (b.mono hm)
theorem dds_mono {l m : List Addr} {H H1 : Hp} {vs : List V} {ds : List PyData} (h : DDs [] m H vs ds) (b : But l H H1) (hm : ∀ q ∈ l, q ∈ m) : DDs [] m H1 vs ds := h.but (b.mono hm)
section
variable {P : Program} {w : World} {K : PySem.W.Frag} {mg : Str → Option Value} {base : Heap} {CR : Addr}
def spBush (n : Nat) : Sp := fun vs H Q _ => ∃ (p m : Addr) (R : RData), vs = [.ref p, .ref m, .int n, .int 3] ∧ Pot H p ∧ IsModel R H m ∧ R.Ok ∧ Small R ∧
  ∀ q d H', bushOk R.g n d = true → (∀ l, Here l H → p ∈ l → DD [] l H' (.ref q) d) → But [p] H H' → Pot H' p → Q (.ref q) H'
theorem scBu : FnScope ["pot", "model", "depth", "most", "turn"] ["pot", "model", "depth", "most"] (defScope (top 59)) := ⟨rfl, rfl, rfl, by decide +kernel, rfl, by decide +kernel, by decide +kernel⟩
theorem d_bush (B : Blt mg base) (D : At K mg "_law_bush" (top 59)) (D0 : Def P w K mg base 1 "_law_draw" (top 52) ["pot", "many"] spDraw) (D1 : Def P w K mg base 4 "_law_near_line" (top 58) ["pot", "model"] spNear) :
    ∀ n, Def P w K mg base (n + 5) "_law_bush" (top 59) ["pot", "model", "depth", "most"] (spBush n)
  | 0 => by
    refine def_of D B scBu (fun vs H Q E ⟨_, _, _, e, _⟩ => by rw [e]; rfl) fun f cdv A outer s H vs Q E hm C h => ?_
    obtain ⟨p, m, R, rfl, hp, hM, ok, sm, hQ⟩ := h
    refine b_cons (s_ifB true ?_ (fun _ H1 b1 => ?_) (fun e => by cases e))
    · exact t_cmp (e_name 2 (v := .int ((0 : Nat) : Int)) (e_int (c_eq rfl ⟨true, rfl, rfl, But.refl⟩)))
    refine b_cons (s_ret (e_lc [("turn", 4)] C (i_range1 B (e_call (C.mono (by decide)) D0 (a_cons (e_name 0 (a_cons (e_bin (e_name 3 (e_int (o_add (a_nil ?_)))))))) rfl (fun _ _ _ _ _ _ us hl => match us, hl with | [_, _], _ => rfl)))))
    refine ⟨p, 4, rfl, hp.new b1, by decide, by decide, fun r H2 r0 r1 b2 hp2 => ?_⟩
    obtain ⟨k, rfl⟩ := Int.eq_ofNat_of_zero_le r0
    refine ⟨k, rfl, by omega, by omega, k, _, _, walk_range, fun Dl hDl => ?_⟩
    have b02 : But [p] H H2 := b1.of.trans b2
    have nDp : Dl ≠ p := hp2.there hDl
    refine ⟨fun i H' => But [p] H2 H' ∧ Pot H' p ∧ ∃ ys : List Str, ys.length = i ∧ (∀ y ∈ ys, leafOk R.g (.str y) = true) ∧ H' Dl = some (.lst (ys.map V.str)), ⟨But.new hDl, hp2.new (But.new hDl), [], rfl, fun c hc => by simp at hc, upd_same⟩, fun _ _ _ _ => trivial, ?_, ?_⟩
    · rintro i x H5 H' hi ⟨b5, hp5, ys, hy, hyg, hD5⟩ ⟨rfl, rfl⟩
      refine lc_plain (i := 4) C.nd fun s H0 Ca cl fp => ?_
      refine e_call (C.blk _ _ _ _ _) D1 (a_cons (e_name 0 (a_cons (e_name 1 (v := .ref m) (a_nil ?_))))) rfl (fun _ _ _ _ _ _ us hl => match us, hl with | [_, _], _ => rfl)
      refine ⟨p, m, R, rfl, hp5, hM.pot ok hp (b02.trans b5), ok, sm, fun y H6 hyl hy8 b6 hp6 => ?_⟩
      refine ⟨_, b6 _ _ (by simpa using nDp) hD5, by rw [sizeLine_eq, List.length_map]; omega, fun q o nq e => ?_, pot_upd hp6 nDp, ys ++ [y], by simp [hy], ?_, ?_⟩
      · rw [upd_ne (ne_of_none e hDl)]
        exact b6 _ _ nq (b5 _ _ nq e)
      · intro z hz
        rcases List.mem_append.mp hz with h | h
        · exact hyg z h
        · rw [List.mem_singleton.mp h]
          simp only [leafOk, hyl, Bool.true_and, decide_eq_true_eq]
          exact hy8
      · rw [upd_same]; simp
    · rintro H5 ⟨b5, hp5, ys, hy, hyg, hD5⟩
      refine hQ Dl (.list (ys.map .str)) H5 ?_ (fun l hl hpl => .lst (.inl (.inl hD5)) ((here_pot hl b02 hp2).new But.refl hDl) (DDs.strs _)) (b02.trans b5) hp5
      simp only [bushOk, Z.isList, items, List.length_map, Bool.true_and, Bool.and_eq_true, decide_eq_true_eq, List.all_eq_true]
      exact ⟨by omega, fun x hx => by obtain ⟨y, hy, rfl⟩ := List.mem_map.mp hx; exact hyg y hy⟩
  | n + 1 => by
    have IH := d_bush B D D0 D1 n
    refine def_of D B scBu (fun vs H Q E ⟨_, _, _, e, _⟩ => by rw [e]; rfl) fun f cdv A outer s H vs Q E hm C h => ?_
    obtain ⟨p, m, R, rfl, hp, hM, ok, sm, hQ⟩ := h
    refine b_cons (s_ifB false ?_ (fun e => by cases e) (fun _ H1 b1 => b_nil ?_))
    · refine t_cmp (e_name 2 (v := .int ((n + 1 : Nat) : Int)) (e_int (c_eq rfl ⟨false, ?_, rfl, But.refl⟩)))
      rw [decide_eq_false]
      intro e
      have := V.int.inj e
      omega
    refine b_cons (s_ret (e_lc [("turn", 4)] C (i_range1 B (e_call (C.mono (by omega)) D0 (a_cons (e_name 0 (a_cons (e_bin (e_name 3 (e_int (o_add (a_nil ?_)))))))) rfl (fun _ _ _ _ _ _ us hl => match us, hl with | [_, _], _ => rfl)))))
    refine ⟨p, 4, rfl, hp.new b1, by decide, by decide, fun r H2 r0 r1 b2 hp2 => ?_⟩
    obtain ⟨k, rfl⟩ := Int.eq_ofNat_of_zero_le r0
    refine ⟨k, rfl, by omega, by omega, k, _, _, walk_range, fun Dl hDl => ?_⟩
    have b02 : But [p] H H2 := b1.of.trans b2
    have nDp : Dl ≠ p := hp2.there hDl
    refine ⟨fun i H' => But [p] H2 H' ∧ Pot H' p ∧ ∃ acc ds, ds.length = i ∧ (∀ d ∈ ds, bushOk R.g n d = true) ∧ H' Dl = some (.lst acc) ∧ ∀ l, Here l H2 → p ∈ l → DDs [] (Dl :: l) H' acc ds, ⟨But.new hDl, hp2.new (But.new hDl), [], [], rfl, fun c hc => by simp at hc, upd_same, fun _ _ _ => .nil⟩, fun _ _ _ _ => trivial, ?_, ?_⟩
    · rintro i x H5 H' hi ⟨b5, hp5, acc, ds, hl5, hds, hD5, hdd⟩ ⟨rfl, rfl⟩
      refine lc_plain (i := 4) C.nd fun s H0 Ca cl fp => ?_
      refine e_call (C.blk _ _ _ _ _) IH (a_cons (e_name 0 (a_cons (e_name 1 (v := .ref m) (a_cons (e_bin (e_name 2 (v := .int ((n + 1 : Nat) : Int)) (e_int (o_sub (a_cons (e_name 3 (a_nil ?_)))))))))))) rfl (fun _ _ _ _ _ _ us hl => match us, hl with | [_, _, _, _], _ => rfl)
      have hlen : acc.length = i := by rw [(hdd [p] hp2.here (by simp)).length]; exact hl5
      refine ⟨p, m, R, by rw [show ((n + 1 : Nat) : Int) - 1 = (n : Int) by omega], hp5, hM.pot ok hp (b02.trans b5), ok, sm, fun q2 d2 H6 hb2 hd2 b6 hp6 => ?_⟩
      have hD6 := b6 _ _ (by simpa using nDp) hD5
      refine ⟨_, hD6, by rw [sizeLine_eq]; omega, fun q o nq e => ?_, pot_upd hp6 nDp, acc ++ [.ref q2], ds ++ [d2], by simp [hl5], ?_, upd_same, fun l hl hpl => ?_⟩
      · rw [upd_ne (ne_of_none e hDl)]
        exact b6 _ _ nq (b5 _ _ nq e)
      · intro z hz
        rcases List.mem_append.mp hz with h | h
        · exact hds z h
        · rw [List.mem_singleton.mp h]
          exact hb2
      · have e1 := dds_mono (hdd l hl hpl) b6 (fun q hq => by rw [List.mem_singleton.mp hq]; exact List.mem_cons_of_mem _ hpl)
        have e2 := hd2 (Dl :: l) ((here_pot hl b5 hp5).cons hD5) (List.mem_cons_of_mem _ hpl)
        exact dds_mono (DDs.append e1 (.cons e2 .nil)) (But.at (l := [Dl]) (by simp)) (fun q hq => by rw [List.mem_singleton.mp hq]; simp)
    · rintro H5 ⟨b5, hp5, acc, ds, hl5, hds, hD5, hdd⟩
      refine hQ Dl (.list ds) H5 ?_ (fun l hl hpl => .lst (.inl (.inl hD5)) ((here_pot hl b02 hp2).new But.refl hDl) ((hdd l (here_pot hl b02 hp2) hpl).less fun q hq => List.mem_cons_of_mem _ hq)) (b02.trans b5) hp5
      simp only [bushOk, Z.isList, items, Bool.true_and, Bool.and_eq_true, decide_eq_true_eq, List.all_eq_true]
      exact ⟨decide_eq_true (by omega), hds⟩
end
end K61

set_option Elab.async false
set_option linter.all false
set_option maxRecDepth 100000
set_option maxHeartbeats 4000000
namespace K61
open PySem PySem.Spec PyProof.Rows L2 Z
/-! ### what the law thinks of a bush -/
def lns (R : RData) (n : Nat) (d : PyData) : List V := (rowsOf R n d).map fun x => .str x.2
def rds (R : RData) (n : Nat) (d : PyData) : List PyData := (rowsOf R n d).map roleD
theorem sum_le {l : List PyData} {f : PyData → Nat} {b : Nat} (h : ∀ x ∈ l, f x ≤ b) : (l.map f).sum ≤ l.length * b := by
  induction l with
  | nil => simp
  | cons x l ih =>
    have h1 := h x (by simp)
    have h2 := ih fun y hy => h y (by simp [hy])
    simp only [List.map_cons, List.sum_cons, List.length_cons, Nat.add_mul]
    omega
theorem rows_len {R : RData} {g : Str} : ∀ {n : Nat} {d : PyData}, isTree g n d = true → (rowsOf R n d).length ≤ rowMax n
  | 0, d, h => by
    have := (isTree_seq h).2
    show ((items d).map _).length ≤ 10
    rw [List.length_map]
    exact this
  | n + 1, d, h => by
    have h1 := (isTree_seq h).2
    have h2 : ∀ x ∈ items d, ((fun p => ((("next" : Str), R.ms.length - n), lineOf R true (R.ms.length - n)) :: rowsOf R n p) x).length ≤ rowMax n + 1 := fun x hx => by
      simp only [isTree, Bool.and_eq_true, List.all_eq_true] at h
      have := rows_len (R := R) (h.2 x hx)
      simp only [List.length_cons]
      omega
    have h3 := sum_le h2
    have h4 : (items d).length * (rowMax n + 1) ≤ 10 * (rowMax n + 1) := Nat.mul_le_mul_right _ h1
    simp only [rowsOf, List.length_append, List.length_flatMap, List.length_singleton]
    show _ ≤ 10 * (rowMax n + 1) + 1
    have : (List.map (fun x => ((fun p => ((("next" : Str), R.ms.length - n), lineOf R true (R.ms.length - n)) :: rowsOf R n p) x).length) (items d)).sum ≤ 10 * (rowMax n + 1) := by omega
    simpa using this
theorem strs_of {K : PySem.W.Frag} {l : List Addr} {H : Hp} {g : Str} : ∀ {xs : List V} {ds : List PyData}, DDs K l H xs ds → (∀ d ∈ ds, leafOk g d = true) → xs = ds.map fun d => .str (txtOf d)
  | [], [], _, _ => rfl
  | _ :: _, d :: ds, .cons h r, ok => by
    have h1 := ok d (by simp)
    obtain ⟨y, rfl⟩ : ∃ y, d = .str y := by cases d <;> simp [leafOk] at h1; exact ⟨_, rfl⟩
    cases h
    rw [strs_of r fun z hz => ok z (by simp [hz])]
    rfl
theorem bush_list {K : PySem.W.Frag} {l : List Addr} {H : Hp} {g : Str} {n : Nat} {v : V} {d : PyData} (h : bushOk g n d = true) (hd : DD K l H v d) : ∃ a xs, v = .ref a ∧ SqL K H a xs ∧ a ∉ l ∧ DDs K l H xs (items d) ∧ (items d).length ≤ 3 := by
  have h0 : Z.isList d = true ∧ (items d).length ≤ 3 := by
    cases n <;> simp only [bushOk, Bool.and_eq_true, decide_eq_true_eq] at h <;> exact h.1
  cases hd with
  | lst h1 n r => exact ⟨_, _, rfl, h1, n, r, h0.2⟩
  | _ => simp [Z.isList] at h0
section
variable {P : Program} {w : World} {K : PySem.W.Frag} {mg : Str → Option Value} {base : Heap} {CR : Addr}
def spMail (n : Nat) : Sp := fun vs H Q _ => ∃ (m : Addr) (R : RData) (v : V) (l : List Addr) (d : PyData), vs = [.ref m, v, .int ((R.ms.length + 1 - n : Nat) : Int)] ∧ n ≤ R.ms.length ∧ IsModel R H m ∧ R.Ok ∧ DD [] l H v d ∧ bushOk R.g n d = true ∧
  ∀ q H', But [] H H' → H q = none → H' q = some (.lst (lns R n d)) → Q (.ref q) H'
theorem scMail : FnScope ["model", "bush", "level", "found", "part"] ["model", "bush", "level"] (defScope (top 60)) := ⟨rfl, rfl, rfl, by decide +kernel, rfl, by decide +kernel, by decide +kernel⟩
theorem d_mail (B : Blt mg base) (D : At K mg "_law_mail" (top 60)) (D1 : Def P w K mg base 1 "_law_line_of" (top 57) ["model", "role"] (spLof K)) :
    ∀ n, Def P w K mg base (n + 2) "_law_mail" (top 60) ["model", "bush", "level"] (spMail n)
  | 0 => by
    refine def_of D B scMail (fun vs H Q E ⟨_, _, _, _, _, e, _⟩ => by rw [e]; rfl) fun f cdv A outer s H vs Q E hm C h => ?_
    obtain ⟨m, R, v, l, d, rfl, hn, hM, ok, hd, hb, hQ⟩ := h
    obtain ⟨ml, h1, h2⟩ := hM.ex
    obtain ⟨a, xs, rfl, ha, _, hxs, hl3⟩ := bush_list hb hd
    refine b_cons (s_ifB true ?_ (fun _ H1 b1 => ?_) (fun e => by cases e))
    · refine t_cmp (e_name 2 (v := .int ((R.ms.length + 1 - 0 : Nat) : Int)) (e_len B (e_dget C (e_name 0 (v := .ref m) (e_str ⟨rfl, DGet.k (k := .inr "marks") h1, R.ms.length, .inl ⟨_, .inl (.inl h2), by simp⟩, c_gt ⟨_, rfl, ?_, But.refl⟩⟩)))))
      rw [decide_eq_true (by omega)]
    refine b_cons (s_ret (e_listOf B (e_name 1 (v := .ref a) ⟨a, xs, rfl, .inl (b1.sql (by simp) (sql_all ha)), fun q hq => hQ q _ (b1.trans (But.new hq)) (b1.free hq) ?_⟩)))
    rw [upd_same, strs_of (g := R.g) hxs (by simp only [bushOk, Bool.and_eq_true, List.all_eq_true] at hb; exact hb.2)]
    simp only [lns, rowsOf, List.map_map]
    rfl
  | n + 1 => by
    have IH := d_mail B D D1 n
    refine def_of D B scMail (fun vs H Q E ⟨_, _, _, _, _, e, _⟩ => by rw [e]; rfl) fun f cdv A outer s H vs Q E hm C h => ?_
    obtain ⟨m, R, v, l, d, rfl, hn, hM, ok, hd, hb, hQ⟩ := h
    obtain ⟨ml, h1, h2⟩ := hM.ex
    obtain ⟨a, xs, rfl, ha, _, hxs, hl3⟩ := bush_list hb hd
    have elv : R.ms.length + 1 - (n + 1) = R.ms.length - n := by omega
    rw [elv]
    have m3 := ok.ms.2.1
    have two : 2 ≤ sizeLine := by rw [sizeLine_eq]; exact (by decide : 2 ≤ 16777216)
    have hmx := rowMax_le (n := n) (by omega)
    have lv1 : 1 ≤ R.ms.length - n := by omega
    have lv2 : R.ms.length - n ≤ R.ms.length := by omega
    refine b_cons (s_ifB false ?_ (fun e => by cases e) (fun _ H1 b1 => b_nil ?_))
    · refine t_cmp (e_name 2 (v := .int ((R.ms.length - n : Nat) : Int)) (e_len B (e_dget C (e_name 0 (v := .ref m) (e_str ⟨rfl, DGet.k (k := .inr "marks") h1, R.ms.length, .inl ⟨_, .inl (.inl h2), by simp⟩, c_gt ⟨_, rfl, ?_, But.refl⟩⟩)))))
      rw [decide_eq_false (by omega)]
    refine b_cons (s_set (i := 3) (e_lst (a_nil ⟨by rw [sizeLine_eq]; exact (by decide : 0 ≤ 16777216), fun fq hfq => ?_⟩)) C.nd)
    have bf : But [] H1 (upd H1 fq (.lst [])) := But.new hfq
    have hlen := hxs.length
    have sqa : ∀ {H2}, But [] H1 H2 → SqL K H2 a xs := fun b => (b1.trans b).sql (by simp) (sql_all ha)
    refine b_cons (s_for C (i_list (e_name 1 (v := .ref a) ⟨a, rfl, ⟨xs, sqa bf⟩, _, _, _, walk_list (xs := xs), fun i σ H' => (∃ q v4, σ = [some (.ref m), some (.ref a), some (.int ((R.ms.length - n : Nat) : Int)), some (.ref q), v4] ∧ But [] H1 H' ∧ H1 q = none ∧
      ∃ fl : List Row, H' q = some (.lst (fl.map fun x => V.str x.2)) ∧ fl.length ≤ i * (rowMax n + 1) ∧ fl = ((items d).take i).flatMap fun p => (((("next" : Str), R.ms.length - n), lineOf R true (R.ms.length - n)) : Row) :: rowsOf R n p),
      ⟨fq, none, rfl, bf, hfq, [], upd_same, by simp, by simp⟩, fun i σ H' _ ⟨_, _, _, b, _⟩ => sqa b, ?_, ?_⟩)))
    · rintro i x σ H3 H' hi ⟨q, v4, rfl, b3, hqn, fl, hq3, hfl, hfe⟩ ⟨rfl, hx⟩
      obtain ⟨dx, hdx, hD⟩ := hxs.get hx
      have hok : bushOk R.g n dx = true := by
        simp only [bushOk, Bool.and_eq_true, List.all_eq_true] at hb
        exact hb.2 dx (List.mem_of_getElem? hdx)
      have hi3 : i < 3 := by omega
      have hil : i * (rowMax n + 1) ≤ 3 * (rowMax n + 1) := Nat.mul_le_mul_right _ (by omega)
      refine g_name (i := 4) ?_ C.nd
      refine b_cons (s_set (i := 3) (e_bin (e_bin (e_name 3 (v := .ref q) (e_lst (a_cons (e_call (C.mono (by omega)) D1 (a_cons (e_name 0 (v := .ref m) (a_cons (e_tup (a_cons (e_str (a_cons (e_name 2 (a_nil ⟨two, fun t ht => a_nil ?_⟩))))))))) rfl (fun _ _ _ _ _ _ us hl => match us, hl with | [_, _], _ => rfl))))))) C.nd)
      have bt : But [] H' (upd H' t (.tup [.str "next", .int ((R.ms.length - n : Nat) : Int)])) := But.new ht
      refine ⟨m, t, R, true, R.ms.length - n, rfl, (hM.but b1).but (b3.trans bt), ok, .inl (.inl upd_same), lv1, lv2, fun H4 b4 => a_nil ⟨by rw [sizeLine_eq]; exact (by decide : 1 ≤ 16777216), fun s1 hs1 => ?_⟩⟩
      have b34 : But [] H' H4 := bt.trans b4
      have hq4 : H4 q = some (.lst (fl.map fun x => V.str x.2)) := b34 _ _ (by simp) hq3
      have hqs : q ≠ s1 := ne_of_none hq4 hs1
      refine o_cat (by rw [upd_ne hqs]; exact hq4) upd_same (by rw [sizeLine_eq, List.length_map]; show _ + 1 ≤ _; omega) fun s2 hs2 => ?_
      have b45 : But [] H4 (upd (upd H4 s1 (.lst [.str (lineOf R true (R.ms.length - n))])) s2 (.lst ((fl.map fun x => V.str x.2) ++ [.str (lineOf R true (R.ms.length - n))]))) := (But.new hs1).trans (But.new hs2)
      have e5 : upd (upd H4 s1 (.lst [.str (lineOf R true (R.ms.length - n))])) s2 (.lst ((fl.map fun x => V.str x.2) ++ [.str (lineOf R true (R.ms.length - n))])) s2 = some (.lst ((fl.map fun x => V.str x.2) ++ [.str (lineOf R true (R.ms.length - n))])) := upd_same
      generalize upd (upd H4 s1 (.lst [.str (lineOf R true (R.ms.length - n))])) s2 (.lst ((fl.map fun x => V.str x.2) ++ [.str (lineOf R true (R.ms.length - n))])) = H5 at b45 e5 ⊢
      have b05 : But [] H1 H5 := b3.trans (b34.trans b45)
      refine e_call (C.mono (by omega)) IH (a_cons (e_name 0 (v := .ref m) (a_cons (e_name 4 (v := x) (a_cons (e_bin (e_name 2 (v := .int ((R.ms.length - n : Nat) : Int)) (e_int (o_add (a_nil ?_)))))))))) rfl (fun _ _ _ _ _ _ us hl => match us, hl with | [_, _, _], _ => rfl)
      refine ⟨m, R, x, l, dx, by rw [show ((R.ms.length - n : Nat) : Int) + 1 = ((R.ms.length + 1 - n : Nat) : Int) by omega], by omega, (hM.but b1).but b05, ok, hD.but (b1.trans b05).of, hok, fun q2 H6 b6 hq2n hq2 => ?_⟩
      have hlx := rows_len (R := R) (bush_tree hok)
      have hs6 := b6 _ _ (by simp) e5
      refine o_cat hs6 hq2 (by rw [sizeLine_eq, lns, List.length_append, List.length_map, List.length_map]; show _ + 1 + _ ≤ _; omega) fun s3 hs3 => ?_
      refine b_nil ⟨s3, _, rfl, (b05.trans b6).trans (But.new hs3), (b05.trans b6).free hs3, fl ++ (((("next" : Str), R.ms.length - n), lineOf R true (R.ms.length - n)) :: rowsOf R n dx), ?_, ?_, ?_⟩
      · rw [upd_same]
        simp [lns]
      · simp only [List.length_append, List.length_cons, Nat.add_mul]
        omega
      · rw [List.take_add_one, hdx, List.flatMap_append, hfe]
        simp
    · rintro σ H3 ⟨q, v4, rfl, b3, hqn, fl, hq3, hfl, hfe⟩
      have hil : xs.length * (rowMax n + 1) ≤ 3 * (rowMax n + 1) := Nat.mul_le_mul_right _ (by omega)
      rw [hlen, List.take_length] at hfe
      refine b_cons (s_ret (e_bin (e_name 3 (v := .ref q) (e_lst (a_cons (e_call (C.mono (by omega)) D1 (a_cons (e_name 0 (v := .ref m) (a_cons (e_tup (a_cons (e_str (a_cons (e_name 2 (a_nil ⟨two, fun t ht => a_nil ?_⟩))))))))) rfl (fun _ _ _ _ _ _ us hl => match us, hl with | [_, _], _ => rfl)))))))
      have bt : But [] H3 (upd H3 t (.tup [.str "end", .int ((R.ms.length - n : Nat) : Int)])) := But.new ht
      refine ⟨m, t, R, false, R.ms.length - n, rfl, (hM.but b1).but (b3.trans bt), ok, .inl (.inl upd_same), lv1, lv2, fun H4 b4 => a_nil ⟨by rw [sizeLine_eq]; exact (by decide : 1 ≤ 16777216), fun s1 hs1 => ?_⟩⟩
      have b34 : But [] H3 H4 := bt.trans b4
      have hq4 : H4 q = some (.lst (fl.map fun x => V.str x.2)) := b34 _ _ (by simp) hq3
      have hqs : q ≠ s1 := ne_of_none hq4 hs1
      refine o_cat (by rw [upd_ne hqs]; exact hq4) upd_same (by rw [sizeLine_eq, List.length_map]; show _ + 1 ≤ _; omega) fun s2 hs2 => ?_
      have b45 : But [] H1 (upd (upd H4 s1 (.lst [.str (lineOf R false (R.ms.length - n))])) s2 (.lst ((fl.map fun x => V.str x.2) ++ [.str (lineOf R false (R.ms.length - n))]))) := (b3.trans b34).trans ((But.new hs1).trans (But.new hs2))
      refine hQ s2 _ (b1.trans b45) (b1.free ((b3.trans (b34.trans (But.new hs1))).free hs2)) ?_
      rw [upd_same, hfe]
      simp [lns, rowsOf]
end
end K61

set_option Elab.async false
set_option linter.all false
set_option maxRecDepth 100000
set_option maxHeartbeats 4000000
namespace K61
open PySem PySem.Spec PyProof.Rows L2 Z
theorem rds_line {R : RData} {d : PyData} : rds R 0 d = List.replicate (items d).length (.tuple [.str "line", .int 0]) := by
  simp only [rds, rowsOf, List.map_map]
  induction items d with
  | nil => rfl
  | cons x r ih => simp only [List.map_cons, ih, List.length_cons, List.replicate_succ]; rfl
theorem flat_one (v : V) : ∀ k, (List.replicate k [v]).flatten = List.replicate k v
  | 0 => rfl
  | k + 1 => by rw [List.replicate_succ, List.replicate_succ, List.flatten_cons, flat_one v k]; rfl
theorem dds_rep {l : List Addr} {H : Hp} {v : V} {d : PyData} (h : DD [] l H v d) : ∀ k, DDs [] l H (List.replicate k v) (List.replicate k d)
  | 0 => .nil
  | k + 1 => .cons h (dds_rep h k)
section
variable {P : Program} {w : World} {K : PySem.W.Frag} {mg : Str → Option Value} {base : Heap} {CR : Addr}
def spDue (n : Nat) : Sp := fun vs H Q _ => ∃ (m : Addr) (R : RData) (v : V) (l : List Addr) (d : PyData), vs = [.ref m, v, .int ((R.ms.length + 1 - n : Nat) : Int)] ∧ n ≤ R.ms.length ∧ IsModel R H m ∧ R.Ok ∧ DD [] l H v d ∧ bushOk R.g n d = true ∧
  ∀ q ws H', But [] H H' → H q = none → H' q = some (.lst ws) → (∀ l, Here l H → DDs [] l H' ws (rds R n d)) → Q (.ref q) H'
theorem scDue : FnScope ["model", "bush", "level", "found", "part"] ["model", "bush", "level"] (defScope (top 61)) := ⟨rfl, rfl, rfl, by decide +kernel, rfl, by decide +kernel, by decide +kernel⟩
theorem d_due (B : Blt mg base) (D : At K mg "_law_due" (top 61)) :
    ∀ n, Def P w K mg base (n + 1) "_law_due" (top 61) ["model", "bush", "level"] (spDue n)
  | 0 => by
    refine def_of D B scDue (fun vs H Q E ⟨_, _, _, _, _, e, _⟩ => by rw [e]; rfl) fun f cdv A outer s H vs Q E hm C h => ?_
    obtain ⟨m, R, v, l, d, rfl, hn, hM, ok, hd, hb, hQ⟩ := h
    obtain ⟨ml, h1, h2⟩ := hM.ex
    obtain ⟨a, xs, rfl, ha, _, hxs, hl3⟩ := bush_list hb hd
    have two : 2 ≤ sizeLine := by rw [sizeLine_eq]; exact (by decide : 2 ≤ 16777216)
    have hlen := hxs.length
    refine b_cons (s_ifB true ?_ (fun _ H1 b1 => ?_) (fun e => by cases e))
    · refine t_cmp (e_name 2 (v := .int ((R.ms.length + 1 - 0 : Nat) : Int)) (e_len B (e_dget C (e_name 0 (v := .ref m) (e_str ⟨rfl, DGet.k (k := .inr "marks") h1, R.ms.length, .inl ⟨_, .inl (.inl h2), by simp⟩, c_gt ⟨_, rfl, ?_, But.refl⟩⟩)))))
      rw [decide_eq_true (by omega)]
    refine b_cons (s_ret (e_bin (e_lst (a_cons (e_tup (a_cons (e_str (a_cons (e_int (a_nil ⟨two, fun t ht => a_nil ⟨by rw [sizeLine_eq]; exact (by decide : 1 ≤ 16777216), fun s1 hs1 => ?_⟩⟩))))))))))
    have bt : But [] H1 (upd H1 t (.tup [.str "line", .int 0])) := But.new ht
    have hts : t ≠ s1 := ne_of_none upd_same hs1
    refine e_len B (e_name 1 (v := .ref a) ⟨xs.length, .inl ⟨xs, (b1.trans (bt.trans (But.new hs1))).sql (by simp) (sql_all ha), rfl⟩, o_rep (n := xs.length) upd_same (by rw [sizeLine_eq, List.length_singleton]; omega) (by omega) fun s2 hs2 => ?_⟩)
    have b2 : But [] H1 (upd (upd (upd H1 t (.tup [.str "line", .int 0])) s1 (.lst [.ref t])) s2 (.lst (List.replicate xs.length [.ref t]).flatten)) := bt.trans ((But.new hs1).trans (But.new hs2))
    refine hQ s2 _ _ (b1.trans b2) (b1.free ((bt.trans (But.new hs1)).free hs2)) upd_same fun l hl => ?_
    rw [flat_one, rds_line, ← hlen]
    have hts2 : t ≠ s2 := ne_of_none (by rw [upd_ne hts]; exact upd_same) hs2
    exact dds_rep (.tup (.inl (.inl (by rw [upd_ne hts2, upd_ne hts]; exact upd_same))) ((hl.ext b1).new But.refl ht) (.cons (.str _) (.cons (.int _) .nil))) _
  | n + 1 => by
    have IH := d_due B D n
    refine def_of D B scDue (fun vs H Q E ⟨_, _, _, _, _, e, _⟩ => by rw [e]; rfl) fun f cdv A outer s H vs Q E hm C h => ?_
    obtain ⟨m, R, v, l, d, rfl, hn, hM, ok, hd, hb, hQ⟩ := h
    obtain ⟨ml, h1, h2⟩ := hM.ex
    obtain ⟨a, xs, rfl, ha, _, hxs, hl3⟩ := bush_list hb hd
    have elv : R.ms.length + 1 - (n + 1) = R.ms.length - n := by omega
    rw [elv]
    have m3 := ok.ms.2.1
    have two : 2 ≤ sizeLine := by rw [sizeLine_eq]; exact (by decide : 2 ≤ 16777216)
    have hmx := rowMax_le (n := n) (by omega)
    refine b_cons (s_ifB false ?_ (fun e => by cases e) (fun _ H1 b1 => b_nil ?_))
    · refine t_cmp (e_name 2 (v := .int ((R.ms.length - n : Nat) : Int)) (e_len B (e_dget C (e_name 0 (v := .ref m) (e_str ⟨rfl, DGet.k (k := .inr "marks") h1, R.ms.length, .inl ⟨_, .inl (.inl h2), by simp⟩, c_gt ⟨_, rfl, ?_, But.refl⟩⟩)))))
      rw [decide_eq_false (by omega)]
    refine b_cons (s_set (i := 3) (e_lst (a_nil ⟨by rw [sizeLine_eq]; exact (by decide : 0 ≤ 16777216), fun fq hfq => ?_⟩)) C.nd)
    have bf : But [] H1 (upd H1 fq (.lst [])) := But.new hfq
    have hlen := hxs.length
    have sqa : ∀ {H2}, But [] H1 H2 → SqL K H2 a xs := fun b => (b1.trans b).sql (by simp) (sql_all ha)
    -- one row's tuple
    have one : ∀ {x : Str} {H2 H3 : Hp} {t : Addr} (l : List Addr), Here l H1 → But [] H1 H2 → H2 t = none → But [] (upd H2 t (.tup [.str x, .int ((R.ms.length - n : Nat) : Int)])) H3 → DD [] l H3 (.ref t) (.tuple [.str x, .int ((R.ms.length - n : Nat) : Int)]) := fun {x H2 H3 t} l hl b ht b3 =>
      .tup (.inl (.inl (b3 _ _ (by simp) upd_same))) ((hl.ext b).new But.refl ht) (.cons (.str _) (.cons (.int _) .nil))
    refine b_cons (s_for C (i_list (e_name 1 (v := .ref a) ⟨a, rfl, ⟨xs, sqa bf⟩, _, _, _, walk_list (xs := xs), fun i σ H' => (∃ q v4, σ = [some (.ref m), some (.ref a), some (.int ((R.ms.length - n : Nat) : Int)), some (.ref q), v4] ∧ But [] H1 H' ∧ H1 q = none ∧
      ∃ (ws : List V) (fl : List Row), H' q = some (.lst ws) ∧ (∀ l, Here l H1 → DDs [] l H' ws (fl.map roleD)) ∧ fl.length ≤ i * (rowMax n + 1) ∧ fl = ((items d).take i).flatMap fun p => (((("next" : Str), R.ms.length - n), lineOf R true (R.ms.length - n)) : Row) :: rowsOf R n p),
      ⟨fq, none, rfl, bf, hfq, [], [], upd_same, fun _ _ => .nil, by simp, by simp⟩, fun i σ H' _ ⟨_, _, _, b, _⟩ => sqa b, ?_, ?_⟩)))
    · rintro i x σ H3 H' hi ⟨q, v4, rfl, b3, hqn, ws, fl, hq3, hdd, hfl, hfe⟩ ⟨rfl, hx⟩
      obtain ⟨dx, hdx, hD⟩ := hxs.get hx
      have hok : bushOk R.g n dx = true := by
        simp only [bushOk, Bool.and_eq_true, List.all_eq_true] at hb
        exact hb.2 dx (List.mem_of_getElem? hdx)
      have hil : i * (rowMax n + 1) ≤ 3 * (rowMax n + 1) := Nat.mul_le_mul_right _ (by omega)
      have hwl : ws.length = fl.length := by rw [(hdd [] Here.nil).length, List.length_map]
      refine g_name (i := 4) ?_ C.nd
      refine b_cons (s_set (i := 3) (e_bin (e_bin (e_name 3 (v := .ref q) (e_lst (a_cons (e_tup (a_cons (e_str (a_cons (e_name 2 (v := .int ((R.ms.length - n : Nat) : Int)) (a_nil ⟨two, fun t ht => a_nil ⟨by rw [sizeLine_eq]; exact (by decide : 1 ≤ 16777216), fun s1 hs1 => ?_⟩⟩))))))))))) C.nd)
      have bt : But [] H' (upd H' t (.tup [.str "next", .int ((R.ms.length - n : Nat) : Int)])) := But.new ht
      have hq4 := bt _ _ (by simp) hq3
      have hqs : q ≠ s1 := ne_of_none hq4 hs1
      refine o_cat (by rw [upd_ne hqs]; exact hq4) upd_same (by rw [sizeLine_eq]; show _ + 1 ≤ _; omega) fun s2 hs2 => ?_
      have b45 : But [] (upd H' t (.tup [.str "next", .int ((R.ms.length - n : Nat) : Int)])) (upd (upd (upd H' t (.tup [.str "next", .int ((R.ms.length - n : Nat) : Int)])) s1 (.lst [.ref t])) s2 (.lst (ws ++ [.ref t]))) := (But.new hs1).trans (But.new hs2)
      have e5 : upd (upd (upd H' t (.tup [.str "next", .int ((R.ms.length - n : Nat) : Int)])) s1 (.lst [.ref t])) s2 (.lst (ws ++ [.ref t])) s2 = some (.lst (ws ++ [.ref t])) := upd_same
      generalize upd (upd (upd H' t (.tup [.str "next", .int ((R.ms.length - n : Nat) : Int)])) s1 (.lst [.ref t])) s2 (.lst (ws ++ [.ref t])) = H5 at b45 e5 ⊢
      have b35 : But [] H' H5 := bt.trans b45
      have b05 : But [] H1 H5 := b3.trans b35
      refine e_call (C.mono (by omega)) IH (a_cons (e_name 0 (v := .ref m) (a_cons (e_name 4 (v := x) (a_cons (e_bin (e_name 2 (v := .int ((R.ms.length - n : Nat) : Int)) (e_int (o_add (a_nil ?_)))))))))) rfl (fun _ _ _ _ _ _ us hl => match us, hl with | [_, _, _], _ => rfl)
      refine ⟨m, R, x, l, dx, by rw [show ((R.ms.length - n : Nat) : Int) + 1 = ((R.ms.length + 1 - n : Nat) : Int) by omega], by omega, (hM.but b1).but b05, ok, hD.but (b1.trans b05).of, hok, fun q2 ws2 H6 b6 hq2n hq2 hdd2 => ?_⟩
      have hlx := rows_len (R := R) (bush_tree hok)
      have hw2 : ws2.length = (rowsOf R n dx).length := by rw [(hdd2 [] Here.nil).length, rds, List.length_map]
      have hs6 := b6 _ _ (by simp) e5
      refine o_cat hs6 hq2 (by rw [sizeLine_eq, List.length_append]; show _ + 1 + _ ≤ _; omega) fun s3 hs3 => ?_
      have b67 : But [] H6 (upd H6 s3 (.lst (ws ++ [.ref t] ++ ws2))) := But.new hs3
      refine b_nil ⟨s3, _, rfl, (b05.trans b6).trans b67, (b05.trans b6).free hs3, _, fl ++ (((("next" : Str), R.ms.length - n), lineOf R true (R.ms.length - n)) :: rowsOf R n dx), upd_same, fun l hl => ?_, ?_, ?_⟩
      · have e1 := (hdd l hl).but ((b35.trans b6).trans b67).of
        have e2 := one (x := "next") l hl b3 ht ((b45.trans b6).trans b67)
        have e3 := (hdd2 l (hl.ext b05)).but b67.of
        have e4 := DDs.append (DDs.append e1 (.cons e2 .nil)) e3
        have e5 : (fl ++ (((("next" : Str), R.ms.length - n), lineOf R true (R.ms.length - n)) :: rowsOf R n dx)).map roleD = (fl.map roleD ++ [.tuple [.str "next", .int ((R.ms.length - n : Nat) : Int)]]) ++ rds R n dx := by
          simp [rds, roleD]
        rw [e5]
        exact e4
      · simp only [List.length_append, List.length_cons, Nat.add_mul]
        omega
      · rw [List.take_add_one, hdx, List.flatMap_append, hfe]
        simp
    · rintro σ H3 ⟨q, v4, rfl, b3, hqn, ws, fl, hq3, hdd, hfl, hfe⟩
      have hil : xs.length * (rowMax n + 1) ≤ 3 * (rowMax n + 1) := Nat.mul_le_mul_right _ (by omega)
      have hwl : ws.length = fl.length := by rw [(hdd [] Here.nil).length, List.length_map]
      rw [hlen, List.take_length] at hfe
      refine b_cons (s_ret (e_bin (e_name 3 (v := .ref q) (e_lst (a_cons (e_tup (a_cons (e_str (a_cons (e_name 2 (v := .int ((R.ms.length - n : Nat) : Int)) (a_nil ⟨two, fun t ht => a_nil ⟨by rw [sizeLine_eq]; exact (by decide : 1 ≤ 16777216), fun s1 hs1 => ?_⟩⟩)))))))))))
      have bt : But [] H3 (upd H3 t (.tup [.str "end", .int ((R.ms.length - n : Nat) : Int)])) := But.new ht
      have hq4 := bt _ _ (by simp) hq3
      have hqs : q ≠ s1 := ne_of_none hq4 hs1
      refine o_cat (by rw [upd_ne hqs]; exact hq4) upd_same (by rw [sizeLine_eq]; show _ + 1 ≤ _; omega) fun s2 hs2 => ?_
      have b45 : But [] (upd H3 t (.tup [.str "end", .int ((R.ms.length - n : Nat) : Int)])) (upd (upd (upd H3 t (.tup [.str "end", .int ((R.ms.length - n : Nat) : Int)])) s1 (.lst [.ref t])) s2 (.lst (ws ++ [.ref t]))) := (But.new hs1).trans (But.new hs2)
      refine hQ s2 _ _ (b1.trans (b3.trans (bt.trans b45))) (b1.free ((b3.trans (bt.trans (But.new hs1))).free hs2)) upd_same fun l hl => ?_
      have e1 := (hdd l (hl.ext b1)).but (bt.trans b45).of
      have e2 := one (x := "end") l (hl.ext b1) b3 ht b45
      have e4 := DDs.append e1 (.cons e2 .nil)
      have e5 : rds R (n + 1) d = fl.map roleD ++ [.tuple [.str "end", .int ((R.ms.length - n : Nat) : Int)]] := by
        rw [hfe]
        simp [rds, rowsOf, roleD]
      rw [e5]
      exact e4
/-! ### a bush as tuples -/
end
def tupD : Nat → PyData → PyData
  | 0, d => .tuple (items d)
  | n + 1, d => .tuple ((items d).map (tupD n))
theorem tup_tree {g : Str} : ∀ {n : Nat} {d : PyData}, isTree g n d = true → isTree g n (tupD n d) = true
  | 0, d, h => by
    simp only [isTree, tupD, items, Bool.and_eq_true] at h ⊢
    exact ⟨⟨rfl, h.1.2⟩, h.2⟩
  | n + 1, d, h => by
    simp only [isTree, tupD, items, Bool.and_eq_true, List.all_eq_true, List.length_map] at h ⊢
    refine ⟨⟨rfl, h.1.2⟩, fun x hx => ?_⟩
    obtain ⟨y, hy, rfl⟩ := List.mem_map.mp hx
    exact tup_tree (h.2 y hy)
theorem tup_rows {R : RData} : ∀ {n : Nat} {d : PyData}, rowsOf R n (tupD n d) = rowsOf R n d
  | 0, d => rfl
  | n + 1, d => by
    simp only [rowsOf, tupD, items, List.flatMap_map]
    congr 1
    congr 1
    funext x
    rw [tup_rows]
section
variable {P : Program} {w : World} {K : PySem.W.Frag} {mg : Str → Option Value} {base : Heap} {CR : Addr}
def spTup (n : Nat) : Sp := fun vs H Q _ => ∃ (g : Str) (v : V) (l : List Addr) (d : PyData), vs = [v] ∧ DD [] l H v d ∧ bushOk g n d = true ∧ ∀ q H', But [] H H' → (∀ l, Here l H → DD [] l H' (.ref q) (tupD n d)) → Q (.ref q) H'
theorem scTup : FnScope ["bush", "part"] ["bush"] (defScope (top 62)) := ⟨rfl, rfl, rfl, by decide +kernel, rfl, by decide +kernel, by decide +kernel⟩
theorem d_tup (B : Blt mg base) (D : At K mg "_law_as_tuples" (top 62)) : ∀ n, Def P w K mg base (n + 1) "_law_as_tuples" (top 62) ["bush"] (spTup n)
  | 0 => by
    refine def_of D B scTup (fun vs H Q E ⟨_, _, _, _, e, _⟩ => by rw [e]; rfl) fun f cdv A outer s H vs Q E hm C h => ?_
    obtain ⟨g, v, l, d, rfl, hd, hb, hQ⟩ := h
    obtain ⟨a, xs, rfl, ha, _, hxs, hl3⟩ := bush_list hb hd
    have hlen := hxs.length
    have hok : ∀ x ∈ items d, leafOk g x = true := by simp only [bushOk, Bool.and_eq_true, List.all_eq_true] at hb; exact hb.2
    refine b_cons (s_ret (e_tupleOf B (e_lcM [("part", 1)] C (i_list (e_name 0 (v := .ref a) ⟨a, rfl, ⟨xs, sql_all ha⟩, ?_⟩)))))
    refine ⟨_, _, _, xs, walk_list (xs := xs), rfl, by rw [sizeLine_eq]; omega, fun H' b => b.sql (by simp) (sql_all ha), fun i x H3 H' hi b3 hy => ?_, fun Da H' b3 hn hDa => ⟨Da, xs, rfl, .inl ⟨.inl (.inl hDa), fun q hq => hQ q _ (b3.trans (But.new hq)) fun l2 hl2 => ?_⟩⟩⟩
    · obtain ⟨rfl, hx⟩ := hy
      obtain ⟨dx, hdx, hD⟩ := hxs.get hx
      have h1 := hok dx (List.mem_of_getElem? hdx)
      obtain ⟨y, rfl⟩ : ∃ y, dx = .str y := by cases dx <;> simp [leafOk] at h1; exact ⟨_, rfl⟩
      cases hD
      exact ⟨But.refl, mt_name (i := 1) C.nd fun s H0 Ca cl fp => e_if (t_val (e_isi B kit_str B.str PyProof.Rows.boot_str (e_name 1 ⟨[], .str y, .str y, true, rfl, ite_b (fun _ => e_name 1 ⟨hx, But.refl⟩) fun e => by cases e⟩)))⟩
    · have e1 := strs_of hxs hok
      have e2 : DDs [] l2 (upd H' q (.tup xs)) xs (items d) := by
        have : ∀ (ds : List PyData), (∀ x ∈ ds, leafOk g x = true) → DDs [] l2 (upd H' q (.tup xs)) (ds.map fun d => .str (txtOf d)) ds := fun ds => by
          induction ds with
          | nil => exact fun _ => .nil
          | cons z r ih =>
            intro h
            have h1 := h z (by simp)
            obtain ⟨y, rfl⟩ : ∃ y, z = .str y := by cases z <;> simp [leafOk] at h1; exact ⟨_, rfl⟩
            exact .cons (.str y) (ih fun x hx => h x (by simp [hx]))
        rw [e1] at this ⊢
        exact this _ hok
      exact .tup (.inl (.inl upd_same)) ((hl2.ext b3).new But.refl hq) e2
  | n + 1 => by
    have IH := d_tup B D n
    refine def_of D B scTup (fun vs H Q E ⟨_, _, _, _, e, _⟩ => by rw [e]; rfl) fun f cdv A outer s H vs Q E hm C h => ?_
    obtain ⟨g, v, l, d, rfl, hd, hb, hQ⟩ := h
    obtain ⟨a, xs, rfl, ha, _, hxs, hl3⟩ := bush_list hb hd
    have hlen := hxs.length
    have hok : ∀ x ∈ items d, bushOk g n x = true := by simp only [bushOk, Bool.and_eq_true, List.all_eq_true] at hb; exact hb.2
    refine b_cons (s_ret (e_tupleOf B (e_lc [("part", 1)] C (i_list (e_name 0 (v := .ref a) ⟨a, rfl, ⟨xs, sql_all ha⟩, ?_⟩)))))
    refine ⟨_, _, _, walk_list (xs := xs), fun Dl hDl => ?_⟩
    refine ⟨fun i H' => But [] H H' ∧ ∃ acc, H' Dl = some (.lst acc) ∧ ∀ l, Here l H → DDs [] (Dl :: l) H' acc (((items d).take i).map (tupD n)), ⟨But.new hDl, [], upd_same, fun _ _ => .nil⟩, fun i H' _ h => h.1.sql (by simp) (sql_all ha), ?_, ?_⟩
    · rintro i x H3 H' hi ⟨b3, acc, hD3, hdd⟩ ⟨rfl, hx⟩
      obtain ⟨dx, hdx, hD⟩ := hxs.get hx
      have hbx := hok dx (List.mem_of_getElem? hdx)
      have hal : acc.length ≤ 3 := by rw [(hdd [] Here.nil).length, List.length_map, List.length_take]; omega
      refine lc_plain (i := 1) C.nd fun s H0 Ca cl fp => e_if (t_val (e_isi B kit_str B.str PyProof.Rows.boot_str (e_name 1 (v := x) ⟨l, dx, (hD.but b3.of).all, isStr dx, rfl, ite_b (fun e => ?_) fun _ => ?_⟩)))
      · obtain ⟨_, _, rfl, _⟩ := bush_list hbx hD
        cases hD <;> simp [isStr] at e
      refine e_call (C.blk _ _ _ _ _) IH (a_cons (e_name 1 (v := x) (a_nil ?_))) rfl (fun _ _ _ _ _ _ us hl => match us, hl with | [_], _ => rfl)
      refine ⟨g, x, l, dx, rfl, hD.but b3.of, hbx, fun q2 H6 b6 hd2 => ?_⟩
      have hD6 := b6 _ _ (by simp) hD3
      refine ⟨_, hD6, by rw [sizeLine_eq]; omega, fun q o nq e => ?_, acc ++ [.ref q2], upd_same, fun l hl => ?_⟩
      · rw [upd_ne (ne_of_none e hDl)]
        exact b6 _ _ nq (b3 _ _ nq e)
      · rw [List.take_add_one, hdx, List.map_append]
        have e1 := (hdd l hl).but b6.of
        have e2 := hd2 (Dl :: l) ((hl.ext b3).cons hD3)
        exact dds_mono (DDs.append e1 (.cons e2 .nil)) (But.at (l := [Dl]) (by simp)) (fun q hq => by rw [List.mem_singleton.mp hq]; simp)
    · rintro H3 ⟨b3, acc, hD3, hdd⟩
      rw [hlen, List.take_length] at hdd
      refine ⟨Dl, acc, rfl, .inl ⟨.inl (.inl hD3), fun q hq => hQ q _ (b3.trans (But.new hq)) fun l2 hl2 => ?_⟩⟩
      exact .tup (.inl (.inl upd_same)) ((hl2.ext b3).new But.refl hq) (((hdd l2 hl2).less fun z hz => List.mem_cons_of_mem _ hz).but (But.new hq))
end
end K61

set_option Elab.async false
set_option linter.all false
set_option maxRecDepth 100000
set_option maxHeartbeats 4000000
namespace K61
open PySem PySem.Spec PyProof.Rows L2 Z
/-! ### what is compared and shown -/
theorem layAll_of : ∀ {ds : List PyData}, (∀ d ∈ ds, PyData.canLay0 d = true) → PyData.canLayAll0 ds = true
  | [], _ => rfl
  | d :: ds, h => by
    have h2 := layAll_of (ds := ds) fun x hx => h x (List.mem_cons_of_mem _ hx)
    simp only [PyData.canLayAll0, h d (by simp), h2, Bool.and_self]
theorem depthAll_of {b : Nat} : ∀ {ds : List PyData}, (∀ d ∈ ds, PyData.depth d ≤ b) → PyData.depthAll ds ≤ b
  | [], _ => by simp [PyData.depthAll]
  | d :: ds, h => by
    have h2 := depthAll_of (ds := ds) fun x hx => h x (List.mem_cons_of_mem _ hx)
    have h1 := h d (by simp)
    simp only [PyData.depthAll]
    omega
theorem noDict_of : ∀ {ds : List PyData}, (∀ d ∈ ds, PyData.hasDict d = false) → PyData.hasDictAll ds = false
  | [], _ => rfl
  | d :: ds, h => by
    have h2 := noDict_of (ds := ds) fun x hx => h x (List.mem_cons_of_mem _ hx)
    simp only [PyData.hasDictAll, h d (by simp), h2, Bool.or_self]
/-- good to be compared -/
structure Cmp (n : Nat) (d : PyData) : Prop where
  lay : PyData.canLay0 d = true
  dep : d.depth ≤ n
  nod : d.hasDict = false
theorem Cmp.list {n : Nat} {ds : List PyData} (h : ∀ d ∈ ds, Cmp n d) : Cmp (n + 1) (.list ds) := by
  have e1 := layAll_of fun d hd => (h d hd).lay
  have e2 := depthAll_of fun d hd => (h d hd).dep
  have e3 := noDict_of fun d hd => (h d hd).nod
  exact ⟨by simp only [PyData.canLay0, e1], by simp only [PyData.depth]; omega, by simp only [PyData.hasDict, e3]⟩
theorem Cmp.tuple {n : Nat} {ds : List PyData} (h : ∀ d ∈ ds, Cmp n d) : Cmp (n + 1) (.tuple ds) := by
  have e1 := layAll_of fun d hd => (h d hd).lay
  have e2 := depthAll_of fun d hd => (h d hd).dep
  have e3 := noDict_of fun d hd => (h d hd).nod
  exact ⟨by simp only [PyData.canLay0, e1], by simp only [PyData.depth]; omega, by simp only [PyData.hasDict, e3]⟩
theorem Cmp.str {x : Str} (h : ∀ c ∈ x.cps.toList, c < 128) : Cmp 0 (.str x) := ⟨by simp only [PyData.canLay0, strOk_ascii h], by simp only [PyData.depth]; omega, by simp only [PyData.hasDict]⟩
theorem Cmp.int {i : Int} : Cmp 0 (.int i) := ⟨by simp only [PyData.canLay0], by simp only [PyData.depth]; omega, by simp only [PyData.hasDict]⟩
theorem Cmp.two {n : Nat} {d : PyData} (h : Cmp n d) : Cmp (n + 1) (.list [d, d]) := Cmp.list fun x hx => by
  simp only [List.mem_cons, List.not_mem_nil, or_false, or_self] at hx
  rw [hx]; exact h
theorem Cmp.shaped {n : Nat} {d : PyData} (h : Cmp n d) (hn : n ≤ 64) : SeqAt.shaped d = true := by
  have := h.dep
  rw [SeqAt.shaped, h.lay, decide_eq_true (by omega)]
  rfl
theorem rows_ok {R : RData} (ok : R.Ok) (sm : Small R) : ∀ {n : Nat} {d : PyData}, n ≤ R.ms.length → bushOk R.g n d = true → ∀ x ∈ rowsOf R n d, (x.1.1 = "line" ∨ x.1.1 = "next" ∨ x.1.1 = "end") ∧ isLine R.g (.str x.2) = true
  | 0, d, hn, hb, x, hx => by
    simp only [bushOk, Bool.and_eq_true, List.all_eq_true] at hb
    obtain ⟨y, hy, rfl⟩ := List.mem_map.mp hx
    have h1 := hb.2 y hy
    obtain ⟨z, rfl⟩ : ∃ z, y = .str z := by cases y <;> simp [leafOk] at h1; exact ⟨_, rfl⟩
    simp only [leafOk, Bool.and_eq_true] at h1
    exact ⟨.inl rfl, h1.1⟩
  | n + 1, d, hn, hb, x, hx => by
    simp only [bushOk, Bool.and_eq_true, List.all_eq_true] at hb
    simp only [rowsOf, List.mem_append, List.mem_flatMap, List.mem_cons, List.not_mem_nil, or_false] at hx
    rcases hx with ⟨y, hy, rfl | hx⟩ | rfl
    · exact ⟨.inr (.inl rfl), (lineOf_ok ok sm (by omega) (by omega)).1⟩
    · exact rows_ok ok sm (by omega) (hb.2 y hy) x hx
    · exact ⟨.inr (.inr rfl), (lineOf_ok ok sm (by omega) (by omega)).1⟩
def linesD (R : RData) (d : PyData) : List PyData := (linesOf R d).map .str
theorem lines_cmp {R : RData} (ok : R.Ok) (sm : Small R) {d : PyData} (hb : bushOk R.g R.ms.length d = true) : Cmp 1 (.list (linesD R d)) := Cmp.list fun x hx => by
  obtain ⟨y, hy, rfl⟩ := List.mem_map.mp hx
  obtain ⟨z, hz, rfl⟩ := List.mem_map.mp hy
  exact Cmp.str (isLine_ascii ok.g (rows_ok ok sm (Nat.le_refl _) hb z hz).2)
theorem roles_cmp {R : RData} (ok : R.Ok) (sm : Small R) {d : PyData} (hb : bushOk R.g R.ms.length d = true) : Cmp 2 (.list (rolesD R d)) := Cmp.list fun x hx => by
  obtain ⟨y, hy, rfl⟩ := List.mem_map.mp hx
  have h1 := (rows_ok ok sm (Nat.le_refl _) hb y hy).1
  refine Cmp.tuple fun z hz => ?_
  simp only [List.mem_cons, List.not_mem_nil, or_false] at hz
  rcases hz with rfl | rfl
  · rcases h1 with e | e | e <;> rw [e] <;> exact Cmp.str (by decide)
  · exact Cmp.int
def wMax : Nat → Nat
  | 0 => 27
  | n + 1 => 3 * (wMax n + 1)
theorem weightAll_of {b : Nat} : ∀ {ds : List PyData}, (∀ d ∈ ds, PyData.weight d ≤ b) → PyData.weightAll ds ≤ ds.length * (b + 1)
  | [], _ => by simp [PyData.weightAll]
  | d :: ds, h => by
    have h2 := weightAll_of (ds := ds) fun x hx => h x (List.mem_cons_of_mem _ hx)
    have h1 := h d (by simp)
    simp only [PyData.weightAll, List.length_cons, Nat.add_mul]
    omega
theorem showAll_of : ∀ {ds : List PyData}, (∀ d ∈ ds, PyData.showable d = true) → PyData.showableAll ds = true
  | [], _ => rfl
  | d :: ds, h => by
    have h2 := showAll_of (ds := ds) fun x hx => h x (List.mem_cons_of_mem _ hx)
    simp only [PyData.showableAll, h d (by simp), h2, Bool.and_self]
theorem leavesAll_of : ∀ {ds : List PyData}, (∀ d ∈ ds, PyData.leavesShort 40 d = true) → PyData.leavesShortAll 40 ds = true
  | [], _ => rfl
  | d :: ds, h => by
    have h2 := leavesAll_of (ds := ds) fun x hx => h x (List.mem_cons_of_mem _ hx)
    simp only [PyData.leavesShortAll, h d (by simp), h2, Bool.and_self]
structure Shw (n w : Nat) (d : PyData) : Prop where
  s : d.showable = true
  l : d.leavesShort 40 = true
  dep : d.depth ≤ n
  w : d.weight ≤ w
theorem Shw.list {n w : Nat} {ds : List PyData} (h : ∀ d ∈ ds, Shw n w d) (hl : ds.length ≤ 3) : Shw (n + 1) (3 * (w + 1)) (.list ds) := by
  have e1 := showAll_of fun d hd => (h d hd).s
  have e2 := leavesAll_of fun d hd => (h d hd).l
  have e3 := depthAll_of fun d hd => (h d hd).dep
  have e4 := weightAll_of fun d hd => (h d hd).w
  have e5 : ds.length * (w + 1) ≤ 3 * (w + 1) := Nat.mul_le_mul_right _ hl
  exact ⟨by simp only [PyData.showable, e1], by simp only [PyData.leavesShort, e2], by simp only [PyData.depth]; omega, by simp only [PyData.weight]; omega⟩
theorem bush_shw {g : Str} (hg : strSigns g = true) : ∀ {n : Nat} {d : PyData}, bushOk g n d = true → Shw (n + 1) (wMax n) d
  | 0, d, h => by
    simp only [bushOk, Bool.and_eq_true, decide_eq_true_eq, List.all_eq_true] at h
    obtain ⟨ds, rfl⟩ : ∃ ds, d = .list ds := by cases d <;> simp [Z.isList] at h; exact ⟨_, rfl⟩
    refine Shw.list (n := 0) (w := 8) (fun x hx => ?_) h.1.2
    have h1 := h.2 x hx
    obtain ⟨y, rfl⟩ : ∃ y, x = .str y := by cases x <;> simp [leafOk] at h1; exact ⟨_, rfl⟩
    simp only [leafOk, Bool.and_eq_true, decide_eq_true_eq] at h1
    refine ⟨by simp only [PyData.showable], ?_, by simp only [PyData.depth]; omega, by simp only [PyData.weight]; exact h1.2⟩
    simp only [PyData.leavesShort, List.all_eq_true, decide_eq_true_eq]
    intro c hc
    have := isLine_ascii hg h1.1 c hc
    omega
  | n + 1, d, h => by
    simp only [bushOk, Bool.and_eq_true, decide_eq_true_eq, List.all_eq_true] at h
    obtain ⟨ds, rfl⟩ : ∃ ds, d = .list ds := by cases d <;> simp [Z.isList] at h; exact ⟨_, rfl⟩
    exact Shw.list (fun x hx => bush_shw hg (h.2 x hx)) h.1.2
theorem bush_rp {g : Str} (hg : strSigns g = true) {n : Nat} (hn : n ≤ 3) {d : PyData} (h : bushOk g n d = true) : rp d = true := by
  have e := bush_shw hg h
  have e1 := e.dep
  have e2 := e.w
  have e3 : wMax n ≤ 768 := by
    match n, hn with
    | 0, _ => decide
    | 1, _ => decide
    | 2, _ => decide
    | 3, _ => decide
  rw [rp, e.s, e.l, decide_eq_true (show d.depth ≤ 64 by omega), decide_eq_true (show d.weight ≤ 300000 by omega)]
  rfl
theorem trues_rp : rp (.list [.bool true, .bool true]) = true := by decide +kernel
theorem trues_shown : (PyData.list [.bool true, .bool true]).shown = "[True, True]" := by decide +kernel
theorem rows_len2 {R : RData} (ok : R.Ok) {d : PyData} (h : bushOk R.g R.ms.length d = true) : (rowsOf R R.ms.length d).length ≤ 11221 :=
  Nat.le_trans (rows_len (bush_tree h)) (rowMax_le ok.ms.2.1)
theorem lns_eq {R : RData} {d : PyData} : lns R R.ms.length d = (linesOf R d).map V.str := by simp only [lns, linesOf, List.map_map]; rfl
theorem tup_lines {R : RData} {d : PyData} : linesOf R (tupD R.ms.length d) = linesOf R d := by simp only [linesOf, tup_rows]
theorem tup_roles {R : RData} {d : PyData} : rolesD R (tupD R.ms.length d) = rolesD R d := by simp only [rolesD, tup_rows]
end K61

set_option Elab.async false
set_option linter.all false
set_option maxRecDepth 100000
set_option maxHeartbeats 4000000
namespace K61
open PySem PySem.Spec PyProof.Rows L2 Z
section
variable {P : Program} {w : World} {K : PySem.W.Frag} {mg : Str → Option Value} {base : Heap} {CR : Addr}
def spBr (CR : Addr) : Sp := fun vs H Q _ => ∃ (m r : Addr) (R : RData) (v : V) (l : List Addr) (d : PyData), vs = [.ref m, .ref r, v] ∧ IsModel R H m ∧ IsReader CR R H r ∧ R.Ok ∧ Small R ∧ DD [] l H v d ∧ bushOk R.g R.ms.length d = true ∧ ∀ H', But [] H H' → Q (.bl true) H'
theorem scBr : FnScope ["model", "made", "bush", "mail", "due", "kept", "heard", "roles"] ["model", "made", "bush"] (defScope (top 63)) := ⟨rfl, rfl, rfl, by decide +kernel, rfl, by decide +kernel, by decide +kernel⟩
theorem d_br (B : Blt mg base) (D : At K mg "_law_bush_right" (top 63)) (D1 : ∀ n, Def P w K mg base (n + 2) "_law_mail" (top 60) ["model", "bush", "level"] (spMail n)) (D2 : ∀ n, Def P w K mg base (n + 1) "_law_due" (top 61) ["model", "bush", "level"] (spDue n))
    (D3 : ∀ n, Def P w K mg base (n + 1) "_law_as_tuples" (top 62) ["bush"] (spTup n)) (D4 : Def P w K mg base 12 "written" (top 48) ["reader", "tree"] (spWritten CR)) (D5 : Def P w K mg base 12 "own_telling" (top 49) ["reader", "tree"] (spTelling K CR))
    (D6 : Def P w K mg base 6 "is_tree" (top 44) ["reader", "value"] (spTree K CR (.bl true))) : DefG P w K mg base 13 "_law_bush_right" (top 63) ["model", "made", "bush"] (spBr CR) := by
  refine defG_of D B scBr (fun vs H Q E ⟨_, _, _, _, _, _, e, _⟩ => by rw [e]; rfl) fun f cdv A outer s H vs Q E hm C g h => ?_
  obtain ⟨m, r, R, v, l, d, rfl, hM, hr, ok, sm, hd, hb, hQ⟩ := h
  have m3 := ok.ms.2.1
  have ht := bush_tree hb
  have elv : ((R.ms.length + 1 - R.ms.length : Nat) : Int) = 1 := by omega
  have hrp := bush_rp ok.g m3 hb
  have cL := lines_cmp ok sm hb
  have cR := roles_cmp ok sm hb
  have two : 2 ≤ sizeLine := by rw [sizeLine_eq]; exact (by decide : 2 ≤ 16777216)
  -- mail, due, kept
  refine b_cons (s_par3 (i := 3) (j := 4) (l := 5) C ?_)
  refine a_cons (e_call (C.mono (by omega)) (D1 R.ms.length) (a_cons (e_name 0 (v := .ref m) (a_cons (e_name 2 (v := v) (a_cons (e_int (a_nil ?_))))))) rfl (fun _ _ _ _ _ _ us hl => match us, hl with | [_, _, _], _ => rfl))
  refine ⟨m, R, v, l, d, by rw [elv], Nat.le_refl _, hM, ok, hd, hb, fun q1 H1 b1 hq1n hq1 => ?_⟩
  refine a_cons (e_call (C.mono (by omega)) (D2 R.ms.length) (a_cons (e_name 0 (v := .ref m) (a_cons (e_name 2 (v := v) (a_cons (e_int (a_nil ?_))))))) rfl (fun _ _ _ _ _ _ us hl => match us, hl with | [_, _, _], _ => rfl))
  refine ⟨m, R, v, l, d, by rw [elv], Nat.le_refl _, hM.but b1, ok, hd.but b1.of, hb, fun q2 ws H2 b2 hq2n hq2 hdd => ?_⟩
  have b02 := b1.trans b2
  refine a_cons (e_rep B g C.un (e_name 2 (v := v) ⟨l, d, (hd.but b02.of).all, hrp, a_nil ⟨_, _, _, rfl, ?_⟩⟩))
  -- what holds from here on
  have rd : ∀ {H'}, But [] H2 H' → IsReader CR R H' r := fun b => hr.but (b02.trans b) (by simp)
  have bd : ∀ {H'}, But [] H2 H' → DD [] l H' v d := fun b => hd.but (b02.trans b).of
  have ml : ∀ {H'}, But [] H2 H' → DD K [] H' (.ref q1) (.list (linesD R d)) := fun b => .lst (.inl (.inl ((b2.trans b) _ _ (by simp) hq1))) (by simp) (by rw [lns_eq]; exact DDs.strs _)
  have du : ∀ {H'}, But [] H2 H' → DD K [] H' (.ref q2) (.list (rolesD R d)) := fun b => .lst (.inl (.inl (b _ _ (by simp) hq2))) (by simp) ((hdd [] Here.nil).all.but b)
  -- heard
  refine b_cons (s_set (i := 6) (e_lst ?_) C.nd)
  refine a_cons (e_call C D4 (a_cons (e_name 1 (v := .ref r) (a_cons (e_name 2 (v := v) (a_nil ?_))))) rfl (fun _ _ _ _ _ _ us hl => match us, hl with | [_, _], _ => rfl))
  refine ⟨r, R, v, l, d, rfl, rd But.refl, ok, bd But.refl, ht, fun h0 H3 b3 hh0n hh0 _ => ?_⟩
  refine a_cons (e_callK0 (ks := ["reader", "tree"]) (g := fun l => l) C D4 (k_cons (e_name 1 (v := .ref r) (k_cons (e_call (C.mono (by omega)) (D3 R.ms.length) (a_cons (e_name 2 (v := v) (a_nil ?_))) rfl (fun _ _ _ _ _ _ us hl => match us, hl with | [_], _ => rfl))))) (fun h => h) rfl (fun _ _ _ _ _ _ us hl => match us, hl with | [_, _], _ => rfl))
  refine ⟨R.g, v, l, d, rfl, bd b3, hb, fun t4 H4 b4 hd4 => k_nil ?_⟩
  refine ⟨r, R, .ref t4, [], tupD R.ms.length d, rfl, rd (b3.trans b4), ok, hd4 [] Here.nil, tup_tree ht, fun h1 H5 b5 hh1n hh1 _ => a_nil ⟨two, fun hl hhl => ?_⟩⟩
  rw [tup_lines] at hh1
  have b35 := b4.trans b5
  have b25 := b3.trans b35
  have bhl : But [] H5 (upd H5 hl (.lst [.ref h0, .ref h1])) := But.new hhl
  have h05 := b35 _ _ (by simp) hh0
  have e6 : upd H5 hl (.lst [.ref h0, .ref h1]) hl = some (.lst [.ref h0, .ref h1]) := upd_same
  have h06 := bhl _ _ (by simp) h05
  have h16 := bhl _ _ (by simp) hh1
  have b26 := b25.trans bhl
  have nh0 : hl ≠ h0 := fun z => by rw [z, h05] at hhl; cases hhl
  generalize upd H5 hl (.lst [.ref h0, .ref h1]) = H6 at bhl e6 h06 h16 b26 ⊢
  -- roles
  refine b_cons (s_set (i := 7) (e_lst ?_) C.nd)
  refine a_cons (e_call C D5 (a_cons (e_name 1 (v := .ref r) (a_cons (e_name 2 (v := v) (a_nil ?_))))) rfl (fun _ _ _ _ _ _ us hl => match us, hl with | [_, _], _ => rfl))
  refine ⟨r, R, v, l, d, rfl, rd b26, ok, bd b26, ht, fun r0 w0 H7 b7 hr0n hr0 hw0 _ => ?_⟩
  refine a_cons (e_callK0 (ks := ["tree", "reader"]) (g := fun l => l.reverse) C D5 (k_cons (e_call (C.mono (by omega)) (D3 R.ms.length) (a_cons (e_name 2 (v := v) (a_nil ?_))) rfl (fun _ _ _ _ _ _ us hl => match us, hl with | [_], _ => rfl))) vals_rev rfl (fun _ _ _ _ _ _ us hl => match us, (List.length_reverse (as := us)).symm.trans hl with | [_, _], _ => rfl))
  refine ⟨R.g, v, l, d, rfl, bd (b26.trans b7), hb, fun t8 H8 b8 hd8 => k_cons (e_name 1 (v := .ref r) (k_nil ?_))⟩
  refine ⟨r, R, .ref t8, [], tupD R.ms.length d, rfl, rd (b26.trans (b7.trans b8)), ok, hd8 [] Here.nil, tup_tree ht, fun r1 w1 H9 b9 hr1n hr1 hw1 _ => a_nil ⟨two, fun rl hrl => ?_⟩⟩
  rw [tup_roles] at hw1
  have b79 := b8.trans b9
  have b69 := b7.trans b79
  have r09 := b79 _ _ (by simp) hr0
  have brl : But [] H9 (upd H9 rl (.lst [.ref r0, .ref r1])) := But.new hrl
  have e10 : upd H9 rl (.lst [.ref r0, .ref r1]) rl = some (.lst [.ref r0, .ref r1]) := upd_same
  have r010 := brl _ _ (by simp) r09
  have r110 := brl _ _ (by simp) hr1
  have w010 := hw0.but (b79.trans brl)
  have w110 := hw1.but brl
  have b6A := b69.trans brl
  have hlA := b6A _ _ (by simp) e6
  have h0A := b6A _ _ (by simp) h06
  have h1A := b6A _ _ (by simp) h16
  have b2A := b26.trans b6A
  have nr0 : r0 ≠ h0 := fun z => by rw [z, h06] at hr0n; cases hr0n
  have nrh : r0 ≠ hl := fun z => by rw [z, e6] at hr0n; cases hr0n
  have nrl0 : rl ≠ r0 := fun z => by rw [z, r09] at hrl; cases hrl
  have nrlh : rl ≠ h0 := fun z => by rw [z, b69 _ _ (by simp) h06] at hrl; cases hrl
  have r0n2 : H2 r0 = none := b26.free hr0n
  generalize upd H9 rl (.lst [.ref r0, .ref r1]) = HA at brl e10 r010 r110 w010 w110 b6A hlA h0A h1A b2A ⊢
  -- the first test
  refine b_cons (s_ifB false ?_ (fun e => by cases e) (fun _ HB bB => b_nil ?_))
  · have dh : ∀ {H'}, But [] HA H' → DD K [] H' (.ref hl) (.list [.list (linesD R d), .list (linesD R d)]) := fun b =>
      .lst (.inl (.inl (b _ _ (by simp) hlA))) (by simp) (.cons (.lst (.inl (.inl (b _ _ (by simp) h0A))) (by simp) (DDs.strs _)) (.cons (.lst (.inl (.inl (b _ _ (by simp) h1A))) (by simp) (DDs.strs _)) .nil))
    have dr : ∀ {H'}, But [] HA H' → DD K [] H' (.ref rl) (.list [.list (rolesD R d), .list (rolesD R d)]) := fun b =>
      .lst (.inl (.inl (b _ _ (by simp) e10))) (by simp) (.cons (.lst (.inl (.inl (b _ _ (by simp) r010))) (by simp) (w010.but b)) (.cons (.lst (.inl (.inl (b _ _ (by simp) r110))) (by simp) (w110.but b)) .nil))
    refine t_boolop (w_or (t_cmp (e_name 6 (v := .ref hl) (e_lst (a_cons (e_name 3 (v := .ref q1) (a_cons (e_name 3 (v := .ref q1) (a_nil ⟨two, fun x hx => ?_⟩)))))))))
    have bx : But [] HA (upd HA x (.lst [.ref q1, .ref q1])) := But.new hx
    refine c_neD C (dh bx) (.lst (.inl (.inl upd_same)) (by simp) (.cons (ml (b2A.trans bx)) (.cons (ml (b2A.trans bx)) .nil))) (cL.two.shaped (by decide)) (cL.two.shaped (by decide)) ⟨false, by rw [eqv_same cL.two.nod]; rfl, ite_b (fun e => by cases e) fun _ => ?_⟩
    refine w_or (t_cmp (e_name 7 (v := .ref rl) (e_lst (a_cons (e_name 4 (v := .ref q2) (a_cons (e_name 4 (v := .ref q2) (a_nil ⟨two, fun y hy => ?_⟩))))))))
    have by' : But [] HA (upd (upd HA x (.lst [.ref q1, .ref q1])) y (.lst [.ref q2, .ref q2])) := bx.trans (But.new hy)
    refine c_neD C (dr by') (.lst (.inl (.inl upd_same)) (by simp) (.cons (du (b2A.trans by')) (.cons (du (b2A.trans by')) .nil))) (cR.two.shaped (by decide)) (cR.two.shaped (by decide)) ⟨false, by rw [eqv_same cR.two.nod]; rfl, ite_b (fun e => by cases e) fun _ => ?_⟩
    exact w_or1 (t_not (t_val (e_isi B kit_list B.list PyProof.Rows.boot_list (e_ix (e_name 6 (v := .ref hl) (e_int (ix_l (.inl (.inl (by' _ _ (by simp) hlA))) (v := .ref h1) rfl ⟨[], .list (linesD R d), .lst (.inl (.inl (by' _ _ (by simp) h1A))) (by simp) (DDs.strs _), true, rfl, rfl, by'⟩)))))))
  -- what is heard is changed
  have hlB := bB _ _ (by simp) hlA
  have h0B := bB _ _ (by simp) h0A
  have rlB := bB _ _ (by simp) e10
  have r0B := bB _ _ (by simp) r010
  have b2B := b2A.trans bB
  refine b_cons (s_expr (e_reverse (e_ix (e_name 6 (v := .ref hl) (e_int (ix_l (.inl (.inl hlB)) (v := .ref h0) rfl ⟨h0, _, rfl, h0B, ?_⟩))))))
  refine b_cons (s_expr (e_append (e_ix (e_name 6 (v := .ref hl) (e_int (ix_l (.inl (.inl (by rw [upd_ne nh0]; exact hlB))) (v := .ref h0) rfl ⟨h0, rfl, ⟨_, upd_same⟩, e_str ⟨_, upd_same, ?_, ?_⟩⟩))))))
  · have := rows_len2 ok hb
    rw [sizeLine_eq, List.length_reverse, List.length_map, linesOf, List.length_map]
    omega
  refine b_cons (s_expr (e_clear (e_ix (e_name 7 (v := .ref rl) (e_int (ix_l (.inl (.inl (by rw [upd_ne nrlh, upd_ne nrlh]; exact rlB))) (v := .ref r0) rfl ⟨r0, _, rfl, by rw [upd_ne nr0, upd_ne nr0]; exact r0B, ?_⟩))))))
  have b2C : But [] H2 (upd (upd (upd HB h0 (.lst ((linesOf R d).map V.str).reverse)) h0 (.lst (((linesOf R d).map V.str).reverse ++ [.str "odd"]))) r0 (.lst [])) :=
    but_late (l := [h0, r0]) b2B (((But.at (by simp)).trans (But.at (by simp))).trans (But.at (by simp))) fun q hq => by
      simp only [List.mem_cons, List.not_mem_nil, or_false] at hq
      rcases hq with rfl | rfl
      · exact hh0n
      · exact r0n2
  generalize upd (upd (upd HB h0 (.lst ((linesOf R d).map V.str).reverse)) h0 (.lst (((linesOf R d).map V.str).reverse ++ [.str "odd"]))) r0 (.lst []) = HC at b2C ⊢
  -- the second test
  refine b_cons (s_ifB false ?_ (fun e => by cases e) (fun _ HD bD => b_nil ?_))
  · refine t_boolop (w_or (t_cmp (e_call C D4 (a_cons (e_name 1 (v := .ref r) (a_cons (e_name 2 (v := v) (a_nil ?_))))) rfl (fun _ _ _ _ _ _ us hl => match us, hl with | [_, _], _ => rfl))))
    refine ⟨r, R, v, l, d, rfl, rd b2C, ok, bd b2C, ht, fun x H11 b11 hxn hx _ => e_name 3 (v := .ref q1) ?_⟩
    refine c_neD C (l := []) (d := .list (linesD R d)) (.lst (.inl (.inl hx)) (by simp) (DDs.strs _)) (ml (b2C.trans b11)) (cL.shaped (by decide)) (cL.shaped (by decide)) ⟨false, by rw [eqv_same cL.nod]; rfl, ite_b (fun e => by cases e) fun _ => ?_⟩
    refine w_or (t_cmp (e_call C D5 (a_cons (e_name 1 (v := .ref r) (a_cons (e_name 2 (v := v) (a_nil ?_))))) rfl (fun _ _ _ _ _ _ us hl => match us, hl with | [_, _], _ => rfl)))
    have b2E := b2C.trans b11
    refine ⟨r, R, v, l, d, rfl, rd b2E, ok, bd b2E, ht, fun y wy H12 b12 hyn hy hwy _ => e_name 4 (v := .ref q2) ?_⟩
    refine c_neD C (l := []) (.lst (.inl (.inl hy)) (by simp) hwy) (du (b2E.trans b12)) (cR.shaped (by decide)) (cR.shaped (by decide)) ⟨false, by rw [eqv_same cR.nod]; rfl, ite_b (fun e => by cases e) fun _ => ?_⟩
    refine w_or1 (t_cmp (e_rep B g C.un (e_name 2 (v := v) ⟨l, d, (bd (b2E.trans b12)).all, hrp, e_name 5 (v := .str d.shown) (c_ne rfl ⟨false, ?_, rfl, b11.trans b12⟩)⟩)))
    simp
  -- the answer
  have b2D := b2C.trans bD
  refine b_cons (s_ret (e_cmp (e_rep B g C.un (e_lst ?_))))
  refine a_cons (e_call (C.mono (by decide)) D6 (a_cons (e_name 1 (v := .ref r) (a_cons (e_name 2 (v := v) (a_nil ?_))))) rfl (fun _ _ _ _ _ _ us hl => match us, hl with | [_, _], _ => rfl))
  refine ⟨r, R, v, l, d, rfl, rd b2D, ok, (bd b2D).all, ht, fun H13 b13 => ?_⟩
  refine a_cons (e_callK0 (ks := ["value", "reader"]) (g := fun l => l.reverse) (C.mono (by decide)) D6 (k_cons (e_call (C.mono (by omega)) (D3 R.ms.length) (a_cons (e_name 2 (v := v) (a_nil ?_))) rfl (fun _ _ _ _ _ _ us hl => match us, hl with | [_], _ => rfl))) vals_rev rfl (fun _ _ _ _ _ _ us hl => match us, (List.length_reverse (as := us)).symm.trans hl with | [_, _], _ => rfl))
  refine ⟨R.g, v, l, d, rfl, bd (b2D.trans b13), hb, fun t14 H14 b14 hd14 => k_cons (e_name 1 (v := .ref r) (k_nil ?_))⟩
  refine ⟨r, R, .ref t14, [], tupD R.ms.length d, rfl, rd (b2D.trans (b13.trans b14)), ok, (hd14 [] Here.nil).all, tup_tree ht, fun H15 b15 => a_nil ⟨two, fun x hx => ?_⟩⟩
  refine ⟨[], .list [.bool true, .bool true], .lst (.inl (.inl upd_same)) (by simp) (.cons (.bl true) (.cons (.bl true) .nil)), trues_rp, e_str (c_eq rfl ?_)⟩
  rw [trues_shown]
  have e : decide (V.str "[True, True]" = V.str "[True, True]") = true := decide_eq_true rfl
  rw [e]
  exact hQ _ (b02.trans (b2D.trans (b13.trans (b14.trans (b15.trans (But.new hx))))))
end
end K61

set_option Elab.async false
set_option linter.all false
set_option maxRecDepth 100000
set_option maxHeartbeats 4000000
namespace K61
open PySem PySem.Spec PyProof.Rows L2 Z
theorem bush_nil {g : Str} : ∀ n, bushOk g n (.list []) = true
  | 0 => by simp [bushOk, Z.isList, items]
  | n + 1 => by simp [bushOk, Z.isList, items]
section
variable {P : Program} {w : World} {K : PySem.W.Frag} {mg : Str → Option Value} {base : Heap} {CR : Addr}
def spRight : Sp := fun vs H Q _ => ∃ p, vs = [.ref p] ∧ Pot H p ∧ ∀ H', But [p] H H' → Q (.bl true) H'
theorem scRight : FnScope ["pot", "model", "made", "depth", "bushes", "turn", "bush"] ["pot"] (defScope (top 64)) := ⟨rfl, rfl, rfl, by decide +kernel, rfl, by decide +kernel, by decide +kernel⟩
theorem d_right (B : Blt mg base) (D : At K mg "_law_right" (top 64)) (D1 : Def P w K mg base 4 "_law_model" (top 55) ["pot"] spModel) (D2 : Def P w K mg base 6 "_law_reader" (top 56) ["model"] (spRd CR))
    (D3 : ∀ n, Def P w K mg base (n + 5) "_law_bush" (top 59) ["pot", "model", "depth", "most"] (spBush n)) (D4 : DefG P w K mg base 13 "_law_bush_right" (top 63) ["model", "made", "bush"] (spBr CR))
    (M : MethOk P w K mg base 13 CR "__eq__" ["self", "other"] (spEq (SameR CR))) : DefG P w K mg base 14 "_law_right" (top 64) ["pot"] spRight := by
  refine defG_of D B scRight (fun vs H Q E ⟨_, e, _⟩ => by rw [e]; rfl) fun f cdv A outer s H vs Q E hm C g h => ?_
  obtain ⟨p, rfl, hp, hQ⟩ := h
  refine b_cons (s_set (i := 1) (e_call (C.mono (by decide)) D1 (a_cons (e_name 0 (a_nil ?_))) rfl (fun _ _ _ _ _ _ us hl => match us, hl with | [_], _ => rfl)) C.nd)
  refine ⟨p, rfl, hp, fun R m H1 ok sm hM b1 hp1 => ?_⟩
  have m3 := ok.ms.2.1
  refine b_cons (s_asg (e_tup ?_))
  refine a_cons (e_call (C.mono (by decide)) D2 (a_cons (e_name 1 (v := .ref m) (a_nil ?_))) rfl (fun _ _ _ _ _ _ us hl => match us, hl with | [_], _ => rfl))
  refine ⟨m, R, rfl, hM, ok, fun r H2 b2 hrn hr => ?_⟩
  obtain ⟨ml, h1, h2⟩ := (hM.but b2).ex
  refine a_cons (e_len B (e_dget C (e_name 1 (v := .ref m) (e_str ⟨rfl, DGet.k (k := .inr "marks") h1, R.ms.length, .inl ⟨_, .inl (.inl h2), by simp⟩, a_nil ⟨by rw [sizeLine_eq]; exact (by decide : 2 ≤ 16777216), fun tp htp => ?_⟩⟩))))
  refine g_tup (gs_cons (g_name (i := 2) (gs_cons (g_name (i := 3) (gs_nil ?_) C.nd)) C.nd)) rfl (.inl (.inl upd_same))
  have bt : But [] H2 (upd H2 tp (.tup [.ref r, .int (R.ms.length : Nat)])) := But.new htp
  have hr := hr.but bt (by simp)
  have b2 := b2.trans bt
  clear h1 h2 htp
  generalize upd H2 tp (.tup [.ref r, .int (R.ms.length : Nat)]) = H2 at b2 bt hr ⊢
  have hM2 := hM.but b2
  have hp2 := hp1.new b2
  -- bushes
  refine b_cons (s_setLc (i := 4) [("turn", 5)] C (i_range1 B (e_int ⟨4, rfl, by decide, by decide, 4, _, _, walk_range, fun L hL => ?_⟩)))
  have nLp : L ≠ p := hp2.there hL
  refine ⟨fun i H' => But [p] H2 H' ∧ Pot H' p ∧ ∃ acc ds, ds.length = i ∧ (∀ d ∈ ds, bushOk R.g R.ms.length d = true) ∧ H' L = some (.lst acc) ∧ DDs [] [L, p] H' acc ds, ⟨But.new hL, hp2.new (But.new hL), [], [], rfl, fun c hc => by simp at hc, upd_same, .nil⟩, fun _ _ _ _ => trivial, ?_, ?_⟩
  · rintro i x H5 H' hi ⟨b5, hp5, acc, ds, hl5, hds, hL5, hdd⟩ ⟨rfl, rfl⟩
    refine lc_plain (i := 5) C.nd fun s H0 Ca cl fp => ?_
    refine e_call ((C.mono (by omega)).blk _ _ _ _ _) (D3 R.ms.length) (a_cons (e_name 0 (a_cons (e_name 1 (v := .ref m) (a_cons (e_name 3 (v := .int (R.ms.length : Nat)) (a_cons (e_int (a_nil ?_))))))))) rfl (fun _ _ _ _ _ _ us hl => match us, hl with | [_, _, _, _], _ => rfl)
    have hlen : acc.length = i := by rw [hdd.length]; exact hl5
    refine ⟨p, m, R, rfl, hp5, hM2.pot ok hp2 b5, ok, sm, fun q2 d2 H6 hb2 hd2 b6 hp6 => ?_⟩
    have hL6 := b6 _ _ (by simpa using nLp) hL5
    refine ⟨_, hL6, by rw [sizeLine_eq]; omega, fun q o nq e => ?_, pot_upd hp6 nLp, acc ++ [.ref q2], ds ++ [d2], by simp [hl5], ?_, upd_same, ?_⟩
    · rw [upd_ne (ne_of_none e hL)]
      exact b6 _ _ nq (b5 _ _ nq e)
    · intro z hz
      rcases List.mem_append.mp hz with h | h
      · exact hds z h
      · rw [List.mem_singleton.mp h]
        exact hb2
    · have e1 := dds_mono hdd b6 (fun q hq => by rw [List.mem_singleton.mp hq]; simp)
      have e2 := hd2 [L, p] (hp5.here.cons hL5) (by simp)
      exact dds_mono (DDs.append e1 (.cons e2 .nil)) (But.at (l := [L]) (by simp)) (fun q hq => by rw [List.mem_singleton.mp hq]; simp)
  · rintro H5 ⟨b5, hp5, acc, ds, hl5, hds, hL5, hdd⟩
    have hlen : acc.length = 4 := by rw [hdd.length]; exact hl5
    refine b_cons (s_expr (e_append (e_name 4 (v := .ref L) ⟨L, rfl, ⟨_, hL5⟩, e_lst (a_nil ⟨by rw [sizeLine_eq]; exact (by decide : 0 ≤ 16777216), fun z hz => ?_⟩)⟩)))
    have bz : But [] H5 (upd H5 z (.lst [])) := But.new hz
    have nLz : L ≠ z := ne_of_none hL5 hz
    have npz : z ≠ p := hp5.there hz
    refine ⟨acc, bz _ _ (by simp) hL5, by rw [sizeLine_eq]; omega, ?_⟩
    have b2L : But [p] H2 (upd (upd H5 z (.lst [])) L (.lst (acc ++ [.ref z]))) := fun q o nq e => by
      rw [upd_ne (ne_of_none e hL)]
      exact bz _ _ (by simp) (b5 _ _ nq e)
    have hpL := pot_upd (hp5.new bz) (o := .lst (acc ++ [.ref z])) nLp
    have e1 : DDs [] [L, p] (upd (upd H5 z (.lst [])) L (.lst (acc ++ [.ref z]))) (acc ++ [.ref z]) (ds ++ [.list []]) :=
      dds_mono (DDs.append (hdd.but bz.of) (.cons (.lst (.inl (.inl upd_same)) (by simp [nLz.symm, npz]) .nil) .nil)) (But.at (l := [L]) (by simp)) (fun q hq => by rw [List.mem_singleton.mp hq]; simp)
    have eL : upd (upd H5 z (.lst [])) L (.lst (acc ++ [.ref z])) L = some (.lst (acc ++ [.ref z])) := upd_same
    have hdsz : ∀ d ∈ ds ++ [.list []], bushOk R.g R.ms.length d = true := fun d hd => by
      rcases List.mem_append.mp hd with h | h
      · exact hds d h
      · rw [List.mem_singleton.mp h]
        exact bush_nil _
    have hlz : (acc ++ [V.ref z]).length ≤ 5 := by rw [List.length_append, List.length_singleton]; omega
    generalize upd (upd H5 z (.lst [])) L (.lst (acc ++ [.ref z])) = H6 at b2L hpL e1 eL ⊢
    generalize acc ++ [.ref z] = xs at e1 eL hlz ⊢
    generalize ds ++ [.list []] = ds' at e1 hdsz
    have hM6 := hM2.pot ok hp2 b2L
    have hr6 := IsReader.pot hr ok hp2 b2L
    refine b_cons (s_ifB false ?_ (fun e => by cases e) (fun _ H7 b7 => b_nil ?_))
    · refine t_not (t_val (e_all C (e_lcM [("bush", 6)] C (i_list (e_name 4 (v := .ref L) ⟨L, rfl, ⟨xs, .inl (.inl eL)⟩, ?_⟩)))))
      refine ⟨_, _, _, xs.map fun _ => .bl true, walk_list (xs := xs), by simp, by rw [sizeLine_eq]; omega, fun H' b => .inl (.inl (b _ _ (by simp) eL)), fun i x H8 H' hi b8 hy => ?_, fun Da H' b8 hn hDa => ⟨Da, xs.map fun _ => true, rfl, .inl (.inl (by rw [hDa, List.map_map]; rfl)), _, rfl, by simp, b8⟩⟩
      obtain ⟨rfl, hx⟩ := hy
      obtain ⟨dx, hdx, hD⟩ := e1.get hx
      refine ⟨But.refl, mt_name (i := 6) C.nd fun s H0 Ca cl fp => e_callG (C.blk _ _ _ _ _) g D4 (a_cons (e_name 1 (v := .ref m) (a_cons (e_name 2 (v := .ref r) (a_cons (e_name 6 (v := x) (a_nil ?_))))))) rfl (fun _ _ _ _ _ _ us hl => match us, hl with | [_, _, _], _ => rfl)⟩
      refine ⟨m, r, R, x, _, dx, rfl, hM6.but b8, hr6.but b8 (by simp), ok, sm, hD.but b8.of, hdsz dx (List.mem_of_getElem? hdx), fun H9 b9 => ⟨?_, b9⟩⟩
      rw [List.getElem?_map, hx]
      rfl
    · refine b_cons (s_ret (e_cmp (e_name 2 (v := .ref r) (e_call (C.mono (by decide)) D2 (a_cons (e_name 1 (v := .ref m) (a_nil ?_))) rfl (fun _ _ _ _ _ _ us hl => match us, hl with | [_], _ => rfl)))))
      refine ⟨m, R, rfl, hM6.but b7, ok, fun r2 H8 b8 hr2n hr2 => ?_⟩
      have hr8 := hr6.but (b7.trans b8) (by simp)
      obtain ⟨dx, _, _, g1, _⟩ := hr8.ex
      obtain ⟨dy, _, _, g2, _⟩ := hr2.ex
      exact c_eqI C M ⟨r, r2, dx, dy, _, _, rfl, rfl, g1, g2, R, ok, hr8, hr2⟩ fun H9 b9 => hQ H9 (b1.trans (b2.of.trans (b2L.trans (b7.trans (b8.trans b9)).of)))
def spLaw (K : PySem.W.Frag) : Sp := fun vs H Q _ => ∃ (a : Addr) (ns : List Int), vs = [.ref a] ∧ SqL K H a (ns.map V.int) ∧ ns.length ≤ 63 ∧ ∀ H', Q (.bl true) H'
theorem scLaw : FnScope ["script", "k"] ["script"] (defScope (top 65)) := ⟨rfl, rfl, rfl, by decide +kernel, rfl, by decide +kernel, by decide +kernel⟩
theorem d_law (B : Blt mg base) (D : At K mg "law" (top 65)) (D1 : Def P w K mg base 1 "_law_pot" (top 51) ["script", "k"] (spPotMk K)) (D2 : DefG P w K mg base 14 "_law_right" (top 64) ["pot"] spRight) :
    DefG P w K mg base 15 "law" (top 65) ["script"] (spLaw K) := by
  refine defG_of D B scLaw (fun vs H Q E ⟨_, _, e, _⟩ => by rw [e]; rfl) fun f cdv A outer s H vs Q E hm C g h => ?_
  obtain ⟨a, ns, rfl, ha, hn, hQ⟩ := h
  refine b_cons (s_ret (e_all C (e_lcM [("k", 1)] C (i_range1 B (e_max2 C (e_int (e_min2 C (e_int (e_len B (e_name 0 ?_))))))))))
  refine ⟨ns.length, .inl ⟨_, ha, by simp⟩, _, _, rfl, rfl, _, _, rfl, rfl, ?_⟩
  have hj : ∃ j : Nat, j ≤ 5 ∧ (if (if ((ns.length : Nat) : Int) < 5 then ((ns.length : Nat) : Int) else 5) > 1 then (if ((ns.length : Nat) : Int) < 5 then ((ns.length : Nat) : Int) else 5) else 1) = (j : Int) := by
    by_cases h4 : ((ns.length : Nat) : Int) < 5
    · rw [if_pos h4]
      by_cases h1 : ((ns.length : Nat) : Int) > 1
      · rw [if_pos h1]
        exact ⟨ns.length, by omega, rfl⟩
      · rw [if_neg h1]
        exact ⟨1, by decide, rfl⟩
    · rw [if_neg h4]
      exact ⟨5, by decide, rfl⟩
  obtain ⟨j, j4, ej⟩ := hj
  refine ⟨_, rfl, ?_⟩
  rw [ej]
  refine ⟨by omega, by omega, j, _, _, List.replicate j (.bl true), walk_range, by simp, by rw [sizeLine_eq]; omega, fun _ _ => trivial, fun i x H3 H' hi b3 hy => ?_, fun Da H' b3 hn hDa => ⟨Da, List.replicate j true, rfl, .inl (.inl (by rw [hDa, List.map_replicate])), ?_⟩⟩
  · obtain ⟨rfl, rfl⟩ := hy
    refine ⟨But.refl, mt_name (i := 1) C.nd fun s H0 Ca cl fp => e_callG (C.blk _ _ _ _ _) g D2 (a_cons (e_call ((C.mono (by decide)).blk _ _ _ _ _) D1 (a_cons (e_name 0 (v := .ref a) (a_cons (e_name 1 (a_nil ?_))))) rfl (fun _ _ _ _ _ _ us hl => match us, hl with | [_, _], _ => rfl))) rfl (fun _ _ _ _ _ _ us hl => match us, hl with | [_], _ => rfl)⟩
    refine ⟨a, ns, i, by simp, b3.sql (by simp) ha, by omega, by omega, fun p H4 b4 hpn hp4 => a_nil ⟨p, rfl, hp4, fun H5 b5 => ⟨?_, but_late b4 b5 fun q hq => by rw [List.mem_singleton.mp hq]; exact hpn⟩⟩⟩
    rw [List.getElem?_replicate, if_pos hi]
  · have : (List.replicate j true).all id = true := by simp
    rw [this]
    exact hQ _
end
end K61

set_option Elab.async false
set_option linter.all false
set_option maxRecDepth 100000
set_option maxHeartbeats 4000000
namespace K61
open PySem PySem.Spec PyProof.Rows L2 Z
theorem methMono {P : Program} {w : World} {K : PySem.W.Frag} {mg : Str → Option Value} {base : Heap} {j k : Nat} {C : Addr} {m : Str} {ps : List Str} {sp : Sp} (M : MethOk P w K mg base j C m ps sp) (h : j ≤ k) : MethOk P w K mg base k C m ps sp := by
  obtain ⟨f, fd, h1, h2, h3⟩ := M.ex
  exact ⟨f, fd, h1, h2.mono h, h3⟩
structure InitAt (K : PySem.W.Frag) (CR : Addr) : Prop where
  ex : ∃ (f : Addr) (oc kV doc pm cdv ct : Value) (od an : Option Addr) (osl : Array (Option Value)), Mk K CR f ∧ K.lookup f = some ⟨oc, od, .func (PySem.W.fnOf "__init__" "Reader.__init__" (defArgs (clsAt (top 38) 0)) (defBody (clsAt (top 38) 0)) (defScope (clsAt (top 38) 0)) .none kV doc pm an cdv ct), osl⟩ ∧ PySem.W.codeIn K cdv "Reader.__init__" = true
theorem prop_mk {K : PySem.W.Frag} {CR pr f : Addr} {m q : Str} {st : Stmt} {oc doc pm cdv ct : Value} {od an : Option Addr} {osl : Array (Option Value)} {rest : List Value} (a1 : PySem.W.findIn K (.ref CR) m = some (some (.ref pr))) (a2 : PySem.W.specialIn K (.ref pr) "__get__" = some (some (.builtin "property.__get__")))
    (a3 : PySem.W.takesIn K (.ref pr) = some true) (a4 : PySem.W.recIn K pr "property" = some (.ref f :: rest)) (a5 : K.lookup f = some ⟨oc, od, .func (PySem.W.fnOf m q (defArgs st) (defBody st) (defScope st) .none .none doc pm an cdv ct), osl⟩) (a6 : PySem.W.codeIn K cdv q = true) : PropAt K CR m q st :=
  ⟨pr, f, oc, doc, pm, cdv, ct, od, an, osl, ⟨a1, a2, a3, _, a4⟩, a5, a6⟩
theorem meth_mk {K : PySem.W.Frag} {CR f : Addr} {m q : Str} {st : Stmt} {oc doc pm cdv ct : Value} {od an : Option Addr} {osl : Array (Option Value)} (a1 : PySem.W.findIn K (.ref CR) m = some (some (.ref f))) (a2 : PySem.W.isFn K (.ref f) = true)
    (a3 : PySem.W.keepIn K (.ref f) = true) (a5 : K.lookup f = some ⟨oc, od, .func (PySem.W.fnOf m q (defArgs st) (defBody st) (defScope st) .none .none doc pm an cdv ct), osl⟩) (a6 : PySem.W.codeIn K cdv q = true) : MethAt K CR m q st :=
  ⟨f, oc, doc, pm, cdv, ct, od, an, osl, ⟨a1, a2, a3⟩, a5, a6⟩
theorem initAt_mk {K : PySem.W.Frag} {CR f : Addr} {oc kV doc pm cdv ct : Value} {od an : Option Addr} {osl : Array (Option Value)} (a1 : PySem.W.makesIn K CR = true) (a2 : PySem.W.findIn K (.ref CR) "__init__" = some (some (.ref f))) (a3 : PySem.W.isFn K (.ref f) = true) (a4 : PySem.W.keepIn K (.ref CR) = true)
    (a5 : K.lookup f = some ⟨oc, od, .func (PySem.W.fnOf "__init__" "Reader.__init__" (defArgs (clsAt (top 38) 0)) (defBody (clsAt (top 38) 0)) (defScope (clsAt (top 38) 0)) .none kV doc pm an cdv ct), osl⟩) (a6 : PySem.W.codeIn K cdv "Reader.__init__" = true) : InitAt K CR :=
  ⟨f, oc, kV, doc, pm, cdv, ct, od, an, osl, ⟨a1, a2, a3, a4⟩, a5, a6⟩
theorem kinds_mk {K : PySem.W.Frag} {mg : Str → Option Value} {t : Addr} (g : mg "KINDS" = some (.ref t)) (h : ∀ H, SqT K H t [.str "next", .str "end"]) : Kinds K mg := ⟨t, g, h⟩
theorem ends_mk {K : PySem.W.Frag} {mg : Str → Option Value} {t : Addr} (n : ∃ u, mg "NEXT" = some u ∧ RelV (.str "next") u) (e : ∃ u, mg "END" = some u ∧ RelV (.str "end") u) (g : mg "TOLD_LINE" = some (.ref t)) (h : ∀ H, SqT K H t [.str "line", .int 0]) : Ends3 K mg := ⟨n, e, t, g, h⟩
theorem words_mk {K : PySem.W.Frag} {w : World} {mg : Str → Option Value} {d t1 t2 t3 : Addr} (g : mg "WORDS" = some (.ref d)) (k1 : KDct K w d "order" (.ref t1)) (k2 : KDct K w d "further" (.ref t2)) (k3 : KDct K w d "finish" (.ref t3))
    (s1 : ∀ H, SqT K H t1 [.str "inner", .str "outer"]) (s2 : ∀ H, SqT K H t2 [.str "refuse", .str "close"]) (s3 : ∀ H, SqT K H t3 [.str "refuse", .str "close"]) : Words K w mg :=
  ⟨d, g, fun nm h => by
    rcases h with rfl | rfl | rfl
    · exact ⟨t1, k1, s1⟩
    · exact ⟨t2, k2, s2⟩
    · exact ⟨t3, k3, s3⟩⟩
structure Facts (K : PySem.W.Frag) (w : World) (mg : Str → Option Value) (CR : Addr) : Prop where
  B : BltN mg
  T : Consts mg
  T2 : Consts2 mg
  Wd : Words K w mg
  Kd : Kinds K mg
  E3 : Ends3 K mg
  CL : ClsR K CR
  IC : C8.InsC K CR
  gR : mg "Reader" = some (.ref CR)
  iR : InitAt K CR
  pS : PropAt K CR "signs" "Reader.signs" (clsAt (top 38) 1)
  pT : PropAt K CR "tail" "Reader.tail" (clsAt (top 38) 2)
  pD : PropAt K CR "depth" "Reader.depth" (clsAt (top 38) 3)
  mL : MethAt K CR "line_of" "Reader.line_of" (clsAt (top 38) 13)
  mE : MethAt K CR "__eq__" "Reader.__eq__" (clsAt (top 38) 19)
  a_is_integer : At K mg "is_integer" (top 14)
  a_are_signs : At K mg "are_signs" (top 16)
  a_want_signs : At K mg "want_signs" (top 17)
  a_is_line : At K mg "is_line" (top 18)
  a_is_mark_line : At K mg "is_mark_line" (top 26)
  a_is_tail : At K mg "is_tail" (top 27)
  a_is_list : At K mg "is_list" (top 15)
  a_want_marks : At K mg "want_marks" (top 28)
  a_is_word : At K mg "is_word" (top 29)
  a_want_cares : At K mg "want_cares" (top 30)
  a_is_level : At K mg "is_level" (top 31)
  a_is_role : At K mg "is_role" (top 33)
  a_want_role : At K mg "want_role" (top 34)
  a_line_of_role : At K mg "line_of_role" (top 36)
  a_is_tree_of : At K mg "is_tree_of" (top 43)
  a_is_tree : At K mg "is_tree" (top 44)
  a_want_tree : At K mg "want_tree" (top 45)
  a_role_row : At K mg "role_row" (top 46)
  a_written_rows : At K mg "written_rows" (top 47)
  a_written : At K mg "written" (top 48)
  a_own_telling : At K mg "own_telling" (top 49)
  a_pot : At K mg "_law_pot" (top 51)
  a_draw : At K mg "_law_draw" (top 52)
  a_pick : At K mg "_law_pick" (top 53)
  a_txt : At K mg "_law_line" (top 54)
  a_model : At K mg "_law_model" (top 55)
  a_reader : At K mg "_law_reader" (top 56)
  a_lof : At K mg "_law_line_of" (top 57)
  a_near : At K mg "_law_near_line" (top 58)
  a_bush : At K mg "_law_bush" (top 59)
  a_mail : At K mg "_law_mail" (top 60)
  a_due : At K mg "_law_due" (top 61)
  a_tup : At K mg "_law_as_tuples" (top 62)
  a_br : At K mg "_law_bush_right" (top 63)
  a_right : At K mg "_law_right" (top 64)
  a_law : At K mg "law" (top 65)
theorem law_def {P : Program} {w : World} {K : PySem.W.Frag} {mg : Str → Option Value} {base : Heap} {CR : Addr} (F : Facts K w mg CR) (S : SysAt base) : DefG P w K mg base 15 "law" (top 65) ["script"] (spLaw K) := by
  have B := F.B.at S
  have isInteger : Def P w K mg base 1 "is_integer" (top 14) ["value"] (sp1 K isInteger) := d_isInteger B F.a_is_integer
  have areSigns : Def P w K mg base 1 "are_signs" (top 16) ["value"] (sp1 K areSigns) := d_areSigns B F.a_are_signs F.T
  have isLine : Def P w K mg base 1 "is_line" (top 18) ["signs", "value"] (spLine K) := d_isLine B F.a_is_line
  have isMark := d_isMarkLine B F.a_is_mark_line F.T2 isLine
  have isTail := d_isTail B F.a_is_tail F.T2 isLine
  have isList : Def P w K mg base 1 "is_list" (top 15) ["value"] (sp1 K isSeq) := d_isList B F.a_is_list
  have fineS := d_fineSigns B F.a_want_signs areSigns
  have fineM := d_fineMarks B F.a_want_marks F.T2 isList isMark
  have isWord : Def P w K mg base 1 "is_word" (top 29) ["signs", "name", "value"] spWord := d_isWord B F.a_is_word F.Wd
  have cares := d_wantCares B F.a_want_cares isWord
  obtain ⟨fi, oc, kV, doc, pm, cdv, ct, od, an, osl, mk, lk, hcd⟩ := F.iR.ex
  have rd : RdOk P w K mg base CR := ⟨fi, _, F.gR, mk, d_init B F.CL lk hcd fineS fineM isTail cares, kbn_init⟩
  have gS : PropOk P w K mg base 1 CR "signs" (spGet CR fun R => .str R.g) := d_signs B F.CL F.pS
  have gT : PropOk P w K mg base 1 CR "tail" (spGet CR fun R => .str R.t) := d_tail B F.CL F.pT
  have gD : PropOk P w K mg base 1 CR "depth" (spGet CR fun R => .int (R.ms.length : Nat)) := d_depth B F.CL F.pD
  have isLevel := d_isLevel B F.CL F.a_is_level isInteger gD
  have isRole := d_isRole B F.Kd F.a_is_role isLevel
  have wantRole := d_wantRole B F.a_want_role isRole
  have lor := d_lineOfRole B F.CL F.a_line_of_role gT
  have lo := d_lineOf B F.mL wantRole lor
  have treeOf : ∀ n, Def P w K mg base (n + 2) "is_tree_of" (top 43) ["signs", "value", "depth"] (spTreeOf K n) := d_treeOf B F.a_is_tree_of isList isLine
  have isTree := d_isTree B F.CL F.a_is_tree treeOf gS gD
  have wantTree := d_wantTree B F.a_want_tree isTree
  have row := d_roleRow B F.CL F.a_role_row lo trivial
  have rows := d_rows B F.CL F.E3 F.a_written_rows gD row
  have written := d_written B F.a_written wantTree rows
  have telling := d_telling B F.a_own_telling wantTree rows
  have eq : MethOk P w K mg base 1 CR "__eq__" ["self", "other"] (spEq (SameR CR)) := d_eq B F.CL F.IC F.gR F.mE
  have pot : Def P w K mg base 1 "_law_pot" (top 51) ["script", "k"] (spPotMk K) := d_pot B F.a_pot
  have draw : Def P w K mg base 1 "_law_draw" (top 52) ["pot", "many"] spDraw := d_draw B F.a_draw
  have pick := d_pick B F.a_pick draw
  have txt := d_txt B F.a_txt draw pick
  have model := d_model B F.a_model draw pick txt
  have reader := d_reader B F.a_reader rd
  have lof : Def P w K mg base 1 "_law_line_of" (top 57) ["model", "role"] (spLof K) := d_lof B F.a_lof
  have near := d_near B F.a_near draw txt lof
  have bush := d_bush B F.a_bush draw near
  have mail := d_mail B F.a_mail lof
  have due : ∀ n, Def P w K mg base (n + 1) "_law_due" (top 61) ["model", "bush", "level"] (spDue n) := d_due B F.a_due
  have tup : ∀ n, Def P w K mg base (n + 1) "_law_as_tuples" (top 62) ["bush"] (spTup n) := d_tup B F.a_tup
  have br := d_br B F.a_br mail due tup written telling isTree
  have right := d_right B F.a_right model reader bush br (methMono eq (by decide))
  exact d_law B F.a_law pot right
/-- the law's promise at the head's heap -/
theorem law_at {l : PySem.W.OpenLaw} {w : World} {K : PySem.W.Frag} {mg : Str → Option Value} {h : Heap} {fa CR : Addr} (F : Facts K w mg CR) (hfa : mg "law" = some (.ref fa)) : LawG l w K 15 63 "script" mg fa h := by
  refine ⟨[], spLaw K, fun p hp => by simp at hp, fun p hp => by simp at hp, fun p hp => by simp at hp, fun H a ns hn hb hT hS => ⟨a, ns, rfl, hS, hn, fun _ => rfl⟩, fun base KB G S hTB => ?_⟩
  obtain ⟨f2, kV2, doc2, pm2, an2, cdv2, ct2, hm2, kp2, G2⟩ := (law_def (P := l.prog) (w := w) (base := base) F S).ex
  have e2 := hfa.symm.trans hm2
  cases e2
  exact ⟨_, fun s u => .of_eq rfl, G2⟩
end K61

set_option Elab.async false
set_option linter.all false
open PySem PySem.W PyProof.Rows
set_option maxRecDepth 100000 in
set_option maxHeartbeats 0 in
theorem PySem.Challenge.cw_frontlines_k61_whole_written_trees_holds : PySem.Challenge.rw_frontlines_k61_whole_written_trees.Holds := by
  w_on; o_law; k_head; (case hw => w_witness2)
  k_fill
  refine Z.walk_G (n := 63) (k := 15) (x := "script") rfl (by decide) rfl ⟨rfl, by decide, by decide⟩ (fun w h Y => PySem.W.kIn_of Y) (by first | rfl | kernel_rfl) ?F
  intro w mg fa h Y KX G hmg
  have B : Z.BltN mg := by
    refine' Z.bltn_mk KX G ?a1 ?a2 ?a3 ?a4 ?a5 ?a6 ?a7 ?a8 ?a9 ?a10 ?a11 ?a12 ?a13 ?a14 ?a15 ?a16 ?a17 ?a18 ?a19 ?a20 ?a21 ?a22 <;> k_is
  have T : K61.Consts mg := by
    refine' ⟨Z.const_mk KX G ?tc1 ?tr1, Z.const_mk KX G ?tc2 ?tr2, Z.const_mk KX G ?tc3 ?tr3⟩
    (case tc1 => k_is); (case tc2 => k_is); (case tc3 => k_is)
    all_goals exact ⟨_, rfl⟩
  have T2 : K61.Consts2 mg := by
    refine' ⟨Z.const_mk KX G ?uc1 ?ur1, Z.const_mk KX G ?uc2 ?ur2, Z.const_mk KX G ?uc3 ?ur3⟩
    (case uc1 => k_is); (case uc2 => k_is); (case uc3 => k_is)
    all_goals exact ⟨_, rfl⟩

  refine' K61.law_at ⟨B, T, T2, K61.words_mk (W.mg_of KX G ?wg1) (Z.kdct_mk ?wl1 ?wk1 ?wn1 rfl) (Z.kdct_mk ?wl2 ?wk2 ?wn2 rfl) (Z.kdct_mk ?wl3 ?wk3 ?wn3 rfl) (Z.sqt_mk ?wl4 ?wv4 ?wz4) (Z.sqt_mk ?wl5 ?wv5 ?wz5) (Z.sqt_mk ?wl6 ?wv6 ?wz6), K61.kinds_mk (W.mg_of KX G ?kg1) (Z.sqt_mk ?kl1 ?kv1 ?kz1), K61.ends_mk (Z.const_mk KX G ?ec1 ?er1) (Z.const_mk KX G ?ec2 ?er2) (W.mg_of KX G ?eg1) (Z.sqt_mk ?el1 ?ev1 ?ez1), ⟨⟨?cl1, ?cl2, ?cl3, ?cl4⟩, ?na1, ?na2, ?na3, ?na4⟩, ⟨⟨?ic1, ?ic2, ?ic3, ?ic4⟩, ?ih1, ?ih2, ?ih3, ?ih4, Z.kit_ref ?ik1 ?ik2 ?ik3⟩, W.mg_of KX G ?gR, K61.initAt_mk ?in1 ?in2 ?in3 ?in4 ?in5 ?in6, K61.prop_mk ?ps1 ?ps2 ?ps3 ?ps4 ?ps5 ?ps6, K61.prop_mk ?pt1 ?pt2 ?pt3 ?pt4 ?pt5 ?pt6, K61.prop_mk ?pd1 ?pd2 ?pd3 ?pd4 ?pd5 ?pd6, K61.meth_mk ?ml1 ?ml2 ?ml3 ?ml4 ?ml5, K61.meth_mk ?me1 ?me2 ?me3 ?me4 ?me5,
      Z.at_mk KX G ?d_is_integer_1 ?d_is_integer_2 ?d_is_integer_3 ?d_is_integer_4,
      Z.at_mk KX G ?d_are_signs_1 ?d_are_signs_2 ?d_are_signs_3 ?d_are_signs_4,
      Z.at_mk KX G ?d_want_signs_1 ?d_want_signs_2 ?d_want_signs_3 ?d_want_signs_4,
      Z.at_mk KX G ?d_is_line_1 ?d_is_line_2 ?d_is_line_3 ?d_is_line_4,
      Z.at_mk KX G ?d_is_mark_line_1 ?d_is_mark_line_2 ?d_is_mark_line_3 ?d_is_mark_line_4,
      Z.at_mk KX G ?d_is_tail_1 ?d_is_tail_2 ?d_is_tail_3 ?d_is_tail_4,
      Z.at_mk KX G ?d_is_list_1 ?d_is_list_2 ?d_is_list_3 ?d_is_list_4,
      Z.at_mk KX G ?d_want_marks_1 ?d_want_marks_2 ?d_want_marks_3 ?d_want_marks_4,
      Z.at_mk KX G ?d_is_word_1 ?d_is_word_2 ?d_is_word_3 ?d_is_word_4,
      Z.at_mk KX G ?d_want_cares_1 ?d_want_cares_2 ?d_want_cares_3 ?d_want_cares_4,
      Z.at_mk KX G ?d_is_level_1 ?d_is_level_2 ?d_is_level_3 ?d_is_level_4,
      Z.at_mk KX G ?d_is_role_1 ?d_is_role_2 ?d_is_role_3 ?d_is_role_4,
      Z.at_mk KX G ?d_want_role_1 ?d_want_role_2 ?d_want_role_3 ?d_want_role_4,
      Z.at_mk KX G ?d_line_of_role_1 ?d_line_of_role_2 ?d_line_of_role_3 ?d_line_of_role_4,
      Z.at_mk KX G ?d_is_tree_of_1 ?d_is_tree_of_2 ?d_is_tree_of_3 ?d_is_tree_of_4,
      Z.at_mk KX G ?d_is_tree_1 ?d_is_tree_2 ?d_is_tree_3 ?d_is_tree_4,
      Z.at_mk KX G ?d_want_tree_1 ?d_want_tree_2 ?d_want_tree_3 ?d_want_tree_4,
      Z.at_mk KX G ?d_role_row_1 ?d_role_row_2 ?d_role_row_3 ?d_role_row_4,
      Z.at_mk KX G ?d_written_rows_1 ?d_written_rows_2 ?d_written_rows_3 ?d_written_rows_4,
      Z.at_mk KX G ?d_written_1 ?d_written_2 ?d_written_3 ?d_written_4,
      Z.at_mk KX G ?d_own_telling_1 ?d_own_telling_2 ?d_own_telling_3 ?d_own_telling_4,
      Z.at_mk KX G ?d_law_pot_1 ?d_law_pot_2 ?d_law_pot_3 ?d_law_pot_4,
      Z.at_mk KX G ?d_law_draw_1 ?d_law_draw_2 ?d_law_draw_3 ?d_law_draw_4,
      Z.at_mk KX G ?d_law_pick_1 ?d_law_pick_2 ?d_law_pick_3 ?d_law_pick_4,
      Z.at_mk KX G ?d_law_line_1 ?d_law_line_2 ?d_law_line_3 ?d_law_line_4,
      Z.at_mk KX G ?d_law_model_1 ?d_law_model_2 ?d_law_model_3 ?d_law_model_4,
      Z.at_mk KX G ?d_law_reader_1 ?d_law_reader_2 ?d_law_reader_3 ?d_law_reader_4,
      Z.at_mk KX G ?d_law_line_of_1 ?d_law_line_of_2 ?d_law_line_of_3 ?d_law_line_of_4,
      Z.at_mk KX G ?d_law_near_line_1 ?d_law_near_line_2 ?d_law_near_line_3 ?d_law_near_line_4,
      Z.at_mk KX G ?d_law_bush_1 ?d_law_bush_2 ?d_law_bush_3 ?d_law_bush_4,
      Z.at_mk KX G ?d_law_mail_1 ?d_law_mail_2 ?d_law_mail_3 ?d_law_mail_4,
      Z.at_mk KX G ?d_law_due_1 ?d_law_due_2 ?d_law_due_3 ?d_law_due_4,
      Z.at_mk KX G ?d_law_as_tuples_1 ?d_law_as_tuples_2 ?d_law_as_tuples_3 ?d_law_as_tuples_4,
      Z.at_mk KX G ?d_law_bush_right_1 ?d_law_bush_right_2 ?d_law_bush_right_3 ?d_law_bush_right_4,
      Z.at_mk KX G ?d_law_right_1 ?d_law_right_2 ?d_law_right_3 ?d_law_right_4,
      Z.at_mk KX G ?d_law_1 ?d_law_2 ?d_law_3 ?d_law_4⟩ hmg
  (case gR => k_is)
  (case kg1 => k_is)
  (case kl1 => k_is)
  (case kv1 => exact .cons ⟨_, rfl⟩ (.cons ⟨_, rfl⟩ .nil))
  (case kz1 => decide)
  (case ec1 => k_is); (case ec2 => k_is)
  (case er1 => exact ⟨_, rfl⟩)
  (case er2 => exact ⟨_, rfl⟩)
  (case eg1 => k_is)
  (case el1 => k_is)
  (case ev1 => exact .cons ⟨_, rfl⟩ (.cons ⟨_, rfl⟩ .nil))
  (case ez1 => decide)
  (case wg1 => k_is)
  (case wl1 => k_is)
  (case wl2 => k_is)
  (case wl3 => k_is)
  (case wn1 => k_is)
  (case wn2 => k_is)
  (case wn3 => k_is)
  (case wl4 => k_is)
  (case wl5 => k_is)
  (case wl6 => k_is)
  (case wk1 => exact ⟨⟨_, _, rfl, rfl⟩, ⟨_, _, rfl, rfl⟩, ⟨_, _, rfl, rfl⟩, trivial⟩)
  (case wk2 => exact ⟨⟨_, _, rfl, rfl⟩, ⟨_, _, rfl, rfl⟩, ⟨_, _, rfl, rfl⟩, trivial⟩)
  (case wk3 => exact ⟨⟨_, _, rfl, rfl⟩, ⟨_, _, rfl, rfl⟩, ⟨_, _, rfl, rfl⟩, trivial⟩)
  (case wv4 => exact .cons ⟨_, rfl⟩ (.cons ⟨_, rfl⟩ .nil))
  (case wv5 => exact .cons ⟨_, rfl⟩ (.cons ⟨_, rfl⟩ .nil))
  (case wv6 => exact .cons ⟨_, rfl⟩ (.cons ⟨_, rfl⟩ .nil))
  (case wz4 => decide)
  (case wz5 => decide)
  (case wz6 => decide)
  (case cl1 => k_is)
  (case cl2 => k_is)
  (case cl3 => k_is)
  (case cl4 => k_is)
  (case na1 => unfold L2.NoAttr; k_is)
  (case na2 => unfold L2.NoAttr; k_is)
  (case na3 => unfold L2.NoAttr; k_is)
  (case na4 => unfold L2.NoAttr; k_is)
  (case ic1 => k_is)
  (case ic2 => k_is)
  (case ic3 => k_is)
  (case ic4 => k_is)
  (case ih1 => k_is)
  (case ih2 => k_is)
  (case ih3 => k_is)
  (case ih4 => k_is)
  (case ik1 => k_is)
  (case ik2 => k_is)
  (case ik3 => k_is)
  (case in1 => k_is)
  (case in2 => k_is)
  (case in3 => k_is)
  (case in4 => k_is)
  (case in5 => k_is)
  (case in6 => k_is)
  (case ps1 => k_is)
  (case ps2 => k_is)
  (case ps3 => k_is)
  (case ps4 => k_is)
  (case ps5 => k_is)
  (case ps6 => k_is)
  (case pt1 => k_is)
  (case pt2 => k_is)
  (case pt3 => k_is)
  (case pt4 => k_is)
  (case pt5 => k_is)
  (case pt6 => k_is)
  (case pd1 => k_is)
  (case pd2 => k_is)
  (case pd3 => k_is)
  (case pd4 => k_is)
  (case pd5 => k_is)
  (case pd6 => k_is)
  (case ml1 => k_is)
  (case ml2 => k_is)
  (case ml3 => k_is)
  (case ml4 => k_is)
  (case ml5 => k_is)
  (case me1 => k_is)
  (case me2 => k_is)
  (case me3 => k_is)
  (case me4 => k_is)
  (case me5 => k_is)
  (case d_is_integer_1 => k_is)
  (case d_is_integer_2 => k_is)
  (case d_is_integer_3 => k_is)
  (case d_is_integer_4 => k_is)
  (case d_are_signs_1 => k_is)
  (case d_are_signs_2 => k_is)
  (case d_are_signs_3 => k_is)
  (case d_are_signs_4 => k_is)
  (case d_want_signs_1 => k_is)
  (case d_want_signs_2 => k_is)
  (case d_want_signs_3 => k_is)
  (case d_want_signs_4 => k_is)
  (case d_is_line_1 => k_is)
  (case d_is_line_2 => k_is)
  (case d_is_line_3 => k_is)
  (case d_is_line_4 => k_is)
  (case d_is_mark_line_1 => k_is)
  (case d_is_mark_line_2 => k_is)
  (case d_is_mark_line_3 => k_is)
  (case d_is_mark_line_4 => k_is)
  (case d_is_tail_1 => k_is)
  (case d_is_tail_2 => k_is)
  (case d_is_tail_3 => k_is)
  (case d_is_tail_4 => k_is)
  (case d_is_list_1 => k_is)
  (case d_is_list_2 => k_is)
  (case d_is_list_3 => k_is)
  (case d_is_list_4 => k_is)
  (case d_want_marks_1 => k_is)
  (case d_want_marks_2 => k_is)
  (case d_want_marks_3 => k_is)
  (case d_want_marks_4 => k_is)
  (case d_is_word_1 => k_is)
  (case d_is_word_2 => k_is)
  (case d_is_word_3 => k_is)
  (case d_is_word_4 => k_is)
  (case d_want_cares_1 => k_is)
  (case d_want_cares_2 => k_is)
  (case d_want_cares_3 => k_is)
  (case d_want_cares_4 => k_is)
  (case d_is_level_1 => k_is)
  (case d_is_level_2 => k_is)
  (case d_is_level_3 => k_is)
  (case d_is_level_4 => k_is)
  (case d_is_role_1 => k_is)
  (case d_is_role_2 => k_is)
  (case d_is_role_3 => k_is)
  (case d_is_role_4 => k_is)
  (case d_want_role_1 => k_is)
  (case d_want_role_2 => k_is)
  (case d_want_role_3 => k_is)
  (case d_want_role_4 => k_is)
  (case d_line_of_role_1 => k_is)
  (case d_line_of_role_2 => k_is)
  (case d_line_of_role_3 => k_is)
  (case d_line_of_role_4 => k_is)
  (case d_is_tree_of_1 => k_is)
  (case d_is_tree_of_2 => k_is)
  (case d_is_tree_of_3 => k_is)
  (case d_is_tree_of_4 => k_is)
  (case d_is_tree_1 => k_is)
  (case d_is_tree_2 => k_is)
  (case d_is_tree_3 => k_is)
  (case d_is_tree_4 => k_is)
  (case d_want_tree_1 => k_is)
  (case d_want_tree_2 => k_is)
  (case d_want_tree_3 => k_is)
  (case d_want_tree_4 => k_is)
  (case d_role_row_1 => k_is)
  (case d_role_row_2 => k_is)
  (case d_role_row_3 => k_is)
  (case d_role_row_4 => k_is)
  (case d_written_rows_1 => k_is)
  (case d_written_rows_2 => k_is)
  (case d_written_rows_3 => k_is)
  (case d_written_rows_4 => k_is)
  (case d_written_1 => k_is)
  (case d_written_2 => k_is)
  (case d_written_3 => k_is)
  (case d_written_4 => k_is)
  (case d_own_telling_1 => k_is)
  (case d_own_telling_2 => k_is)
  (case d_own_telling_3 => k_is)
  (case d_own_telling_4 => k_is)
  (case d_law_pot_1 => k_is)
  (case d_law_pot_2 => k_is)
  (case d_law_pot_3 => k_is)
  (case d_law_pot_4 => k_is)
  (case d_law_draw_1 => k_is)
  (case d_law_draw_2 => k_is)
  (case d_law_draw_3 => k_is)
  (case d_law_draw_4 => k_is)
  (case d_law_pick_1 => k_is)
  (case d_law_pick_2 => k_is)
  (case d_law_pick_3 => k_is)
  (case d_law_pick_4 => k_is)
  (case d_law_line_1 => k_is)
  (case d_law_line_2 => k_is)
  (case d_law_line_3 => k_is)
  (case d_law_line_4 => k_is)
  (case d_law_model_1 => k_is)
  (case d_law_model_2 => k_is)
  (case d_law_model_3 => k_is)
  (case d_law_model_4 => k_is)
  (case d_law_reader_1 => k_is)
  (case d_law_reader_2 => k_is)
  (case d_law_reader_3 => k_is)
  (case d_law_reader_4 => k_is)
  (case d_law_line_of_1 => k_is)
  (case d_law_line_of_2 => k_is)
  (case d_law_line_of_3 => k_is)
  (case d_law_line_of_4 => k_is)
  (case d_law_near_line_1 => k_is)
  (case d_law_near_line_2 => k_is)
  (case d_law_near_line_3 => k_is)
  (case d_law_near_line_4 => k_is)
  (case d_law_bush_1 => k_is)
  (case d_law_bush_2 => k_is)
  (case d_law_bush_3 => k_is)
  (case d_law_bush_4 => k_is)
  (case d_law_mail_1 => k_is)
  (case d_law_mail_2 => k_is)
  (case d_law_mail_3 => k_is)
  (case d_law_mail_4 => k_is)
  (case d_law_due_1 => k_is)
  (case d_law_due_2 => k_is)
  (case d_law_due_3 => k_is)
  (case d_law_due_4 => k_is)
  (case d_law_as_tuples_1 => k_is)
  (case d_law_as_tuples_2 => k_is)
  (case d_law_as_tuples_3 => k_is)
  (case d_law_as_tuples_4 => k_is)
  (case d_law_bush_right_1 => k_is)
  (case d_law_bush_right_2 => k_is)
  (case d_law_bush_right_3 => k_is)
  (case d_law_bush_right_4 => k_is)
  (case d_law_right_1 => k_is)
  (case d_law_right_2 => k_is)
  (case d_law_right_3 => k_is)
  (case d_law_right_4 => k_is)
  (case d_law_1 => k_is)
  (case d_law_2 => k_is)
  (case d_law_3 => k_is)
  (case d_law_4 => k_is)
#print axioms PySem.Challenge.cw_frontlines_k61_whole_written_trees_holds

