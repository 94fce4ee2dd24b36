import PyProof.Rows.All
import Wide.All
import OpenK.AllK
import Wide.FinOn
import HandS.ForMost
import HandS.Flow
import HandS.IsInst
import HandS.RaiseMore
import PySem.Challenge.RW_enoughpaid_k47_expressions_read
set_option Elab.async false
set_option linter.all false
set_option maxRecDepth 100000
set_option maxHeartbeats 4000000
/-! Wx: the hand layer's judgements in one step each: goals of the form WE X e σ H Q, WS X st D σ H. -/
namespace Wx
open PySem PySem.Spec PyProof.Rows L2


section
variable {X : Cx} {σ : L2.St} {H : Hp}

@[irreducible] def WE (X : Cx) (e : Expr) : TE := fun σ H Q => ∀ pins s, Inv X pins σ H s → wpAny (model X.prog X.w) X.A (eval e X.env) (EP X pins σ Q) X.xe s
@[irreducible] def WT (X : Cx) (e : Expr) : TT := fun σ H Q => ∀ pins s, Inv X pins σ H s → wpAny (model X.prog X.w) X.A (isTrue e X.env (eval e X.env)) (TP X pins σ Q) X.xe s
@[irreducible] def WW (X : Cx) (e : Expr) : TT := fun σ H Q => ∀ whole pins s, Inv X pins σ H s → wpAny (model X.prog X.w) X.A (isTrue e X.env whole) (TP X pins σ Q) X.xe s
@[irreducible] def WA (X : Cx) (es : List Expr) : TA := fun σ H Q => ∀ pos pins s, Inv X pins σ H s → wpAny (model X.prog X.w) X.A (spliced (backTo pos (starEach es X.env))) (AP X pins σ Q) X.xe s
@[irreducible] def WS (X : Cx) (st : Stmt) : TS := fun D σ H => ∀ pins s, Inv X pins σ H s → wpAny (model X.prog X.w) X.A (exec st X.env) (SP X pins D) X.xe s
@[irreducible] def WSs (X : Cx) (st : List Stmt) : TS := fun D σ H => ∀ pins s, Inv X pins σ H s → wpAny (model X.prog X.w) X.A (execs st X.env) (SP X pins D) X.xe s
@[irreducible] def WG (X : Cx) (tg : Expr) : TG := fun v σ H Q => ∀ pins s u, Inv X pins σ H s → RelV v u → wpAny (model X.prog X.w) X.A (assign tg X.env u) (fun _ s' => ∃ σ' H', Inv X pins σ' H' s' ∧ Q σ' H') X.xe s
@[irreducible] def WI (X : Cx) (tg iter : Expr) : TI := fun σ H R => ∀ pins s, Inv X pins σ H s → wpAny (model X.prog X.w) X.A (eval iter X.env) (fun v s1 => wpAny (model X.prog X.w) X.A (pyIter v) (PIE X pins σ tg R) X.xe s1) X.xe s
/-- operations on values -/
@[irreducible] def WO (X : Cx) (f : Value → Value → Sem Value) : R2 := fun x y H Q => ∀ pins s σ v u, Inv X pins σ H s → RelV x v → RelV y u → wpAny (model X.prog X.w) X.A (f v u) (EP X pins σ Q) X.xe s
@[irreducible] def WU (X : Cx) (f : Value → Sem Value) : V → Hp → VK → Prop := fun x H Q => ∀ pins s σ v, Inv X pins σ H s → RelV x v → wpAny (model X.prog X.w) X.A (f v) (EP X pins σ Q) X.xe s
@[irreducible] def WC (X : Cx) (f : Value) : List V → Hp → VK → Prop := fun xs H Q => ∀ pins s σ us, Inv X pins σ H s → Vals xs us → wpAny (model X.prog X.w) X.A (call f us) (EP X pins σ Q) X.xe s
@[irreducible] def WM (X : Cx) (id : String) : V → List V → Hp → VK → Prop := fun x xs H Q => ∀ pins s σ v us, Inv X pins σ H s → RelV x v → Vals xs us → wpAny (model X.prog X.w) X.A (call (.builtin id) (v :: us)) (EP X pins σ Q) X.xe s
@[irreducible] def WIx (X : Cx) : R2 := fun x y H Q => ∀ value slice pins s σ v u, Inv X pins σ H s → RelV x v → RelV y u → subscripted slice false v u = operate [v, u] (getItem v u) → wpAny (model X.prog X.w) X.A (subscriptTail value slice v u) (EP X pins σ Q) X.xe s
@[irreducible] def WSl (X : Cx) : V → Option Int → Option Int → Hp → VK → Prop := fun x lo hi H Q => ∀ (pins : List (Addr × Obj)) (s : Shared) (σ : L2.St) (v vl vu : Value) (sl : Addr), Inv X pins σ H s → RelV x v → s.heap.IsSliceOf sl vl vu .none → IsPart vl lo → IsPart vu hi →
    ∃ T id, typeLookup (.type T) "__getitem__" = pure (some (.builtin id)) ∧ s.TypeIs v T ∧ wpAny (model X.prog X.w) X.A (getItem v (.ref sl)) (EP X pins σ Q) X.xe s
@[irreducible] def WSet (X : Cx) : TSet := fun o i v H Q => ∀ pins s σ ov iv u, Inv X pins σ H s → RelV o ov → RelV i iv → RelV v u → wpAny (model X.prog X.w) X.A (setItem ov iv u) (fun _ s' => ∃ H', Inv X pins σ H' s' ∧ Q H') X.xe s
@[irreducible] def WIp (X : Cx) (op : Operator) : TIp := fun x y H Q => ∀ pins s σ v u, Inv X pins σ H s → RelV x v → RelV y u → wpAny (model X.prog X.w) X.A (inplaceOp op v u) (EP X pins σ Q) X.xe s

theorem pe_w {e} : PE X e (WE X e) := by
  unfold WE; exact ⟨fun pins s _ _ _ I h => h pins s I⟩
theorem pt_w {e} : PT X e (WT X e) := by
  unfold WT; exact ⟨fun pins s _ _ _ I h => h pins s I⟩
theorem pw_w {e} : PW X e (WW X e) := by
  unfold WW; exact ⟨fun whole pins s _ _ _ I h => h whole pins s I⟩
theorem pa_w {e} : PA X e (WA X e) := by
  unfold WA; exact ⟨fun pos pins s _ _ _ I h => h pos pins s I⟩
theorem ps_w {e} : PS X e (WS X e) := by
  unfold WS; exact ⟨fun pins s _ _ _ I h => h pins s I⟩
theorem pss_w {e} : PSs X e (WSs X e) := by
  unfold WSs; exact ⟨fun pins s _ _ _ I h => h pins s I⟩
theorem pg_w {e} : PG X e (WG X e) := by
  unfold WG; exact ⟨fun pins s _ _ _ u _ I r h => h pins s u I r⟩
theorem pi_w {tg e} : PI X tg e (WI X tg e) := by
  unfold WI; exact ⟨fun pins s _ _ _ I h => h pins s I⟩
theorem op_w {f} : OpR X f (WO X f) := by
  unfold WO; exact fun pins s σ _ _ _ v u _ I r r' h => h pins s σ v u I r r'
theorem un_w {f} : UnR X f (WU X f) := by
  unfold WU; exact fun pins s σ _ _ v _ I r h => h pins s σ v I r
theorem call_w {f} : CallR X f (WC X f) := by
  unfold WC; exact fun pins s σ _ _ us _ I r h => h pins s σ us I r
theorem mt_w {f} : MtR X f (WM X f) := by
  unfold WM; exact fun pins s σ _ _ _ v us _ I r r' h => h pins s σ v us I r r'
theorem ix_w : IxR X (WIx X) := by
  unfold WIx; exact fun a b pins s σ _ _ _ v u _ I r r' h hs => h a b pins s σ v u I r r' hs
theorem sl_w : SlR X (WSl X) := by
  unfold WSl; exact fun pins s σ _ _ v vl vu _ _ sl _ I r h1 h2 h3 h => h pins s σ v vl vu sl I r h1 h2 h3
theorem set_w : PSet X (WSet X) := by
  unfold WSet; exact fun pins s σ _ _ _ _ ov iv u _ I r1 r2 r3 h => h pins s σ ov iv u I r1 r2 r3
theorem ip_w {op} : PIp X op (WIp X op) := by
  unfold WIp; exact fun pins s σ _ _ _ v u _ I r r' h => h pins s σ v u I r r'

theorem WE.of {e t Q} (h : PE X e t) (q : t σ H Q) : WE X e σ H Q := by
  unfold WE; exact fun pins s I => h.run pins s σ H Q I q
theorem WT.of {e t Q} (h : PT X e t) (q : t σ H Q) : WT X e σ H Q := by
  unfold WT; exact fun pins s I => h.run pins s σ H Q I q
theorem WW.of {e t Q} (h : PW X e t) (q : t σ H Q) : WW X e σ H Q := by
  unfold WW; exact fun whole pins s I => h.run whole pins s σ H Q I q
theorem WA.of {e t Q} (h : PA X e t) (q : t σ H Q) : WA X e σ H Q := by
  unfold WA; exact fun pos pins s I => h.run pos pins s σ H Q I q
theorem WS.of {e t D} (h : PS X e t) (q : t D σ H) : WS X e D σ H := by
  unfold WS; exact fun pins s I => h.run pins s σ H D I q
theorem WSs.of {e t D} (h : PSs X e t) (q : t D σ H) : WSs X e D σ H := by
  unfold WSs; exact fun pins s I => h.run pins s σ H D I q
theorem WG.of {e t v Q} (h : PG X e t) (q : t v σ H Q) : WG X e v σ H Q := by
  unfold WG; exact fun pins s u I r => h.run pins s σ H v u Q I r q
theorem WI.of {tg e t Q} (h : PI X tg e t) (q : t σ H Q) : WI X tg e σ H Q := by
  unfold WI; exact fun pins s I => h.run pins s σ H Q I q
theorem WO.of {f r x y Q} (h : OpR X f r) (q : r x y H Q) : WO X f x y H Q := by
  unfold WO; exact fun pins s σ v u I r r' => h pins s σ H x y v u Q I r r' q
theorem WU.of {f r x Q} (h : UnR X f r) (q : r x H Q) : WU X f x H Q := by
  unfold WU; exact fun pins s σ v I r => h pins s σ H x v Q I r q
theorem WC.of {f r x Q} (h : CallR X f r) (q : r x H Q) : WC X f x H Q := by
  unfold WC; exact fun pins s σ us I r => h pins s σ H x us Q I r q
theorem WM.of {f r x xs Q} (h : MtR X f r) (q : r x xs H Q) : WM X f x xs H Q := by
  unfold WM; exact fun pins s σ v us I r r' => h pins s σ H x xs v us Q I r r' q
theorem WIx.of {r x y Q} (h : IxR X r) (q : r x y H Q) : WIx X x y H Q := by
  unfold WIx; exact fun a b pins s σ v u I r r' hs => h a b pins s σ H x y v u Q I r r' q hs
theorem WSl.of {r x lo hi Q} (h : SlR X r) (q : r x lo hi H Q) : WSl X x lo hi H Q := by
  unfold WSl; exact fun pins s σ v vl vu sl I r h1 h2 h3 => h pins s σ H x v vl vu lo hi sl Q I r h1 h2 h3 q
theorem WSet.of {r o i v Q} (h : PSet X r) (q : r o i v H Q) : WSet X o i v H Q := by
  unfold WSet; exact fun pins s σ ov iv u I r1 r2 r3 => h pins s σ H o i v ov iv u Q I r1 r2 r3 q
theorem WIp.of {op r x y Q} (h : PIp X op r) (q : r x y H Q) : WIp X op x y H Q := by
  unfold WIp; exact fun pins s σ v u I r r' => h pins s σ H x y v u Q I r r' q

theorem WE.mono {e Q Q'} (h : ∀ v H, Q v H → Q' v H) (q : WE X e σ H Q) : WE X e σ H Q' := by
  unfold WE at *; exact fun pins s I =>
  thn (q pins s I) fun _ _ ⟨v, H', I', r, q⟩ => ⟨v, H', I', r, h _ _ q⟩
theorem WT.mono {e Q Q'} (h : ∀ v H, Q v H → Q' v H) (q : WT X e σ H Q) : WT X e σ H Q' := by
  unfold WT at *; exact fun pins s I =>
  thn (q pins s I) fun _ _ ⟨H', I', q⟩ => ⟨H', I', h _ _ q⟩

/-! ### names -/
def lookN : List Str → List (Option V) → Str → Option V
  | n :: ns, v :: vs, x => if n = x then v else lookN ns vs x
  | _, _, _ => none
def idxN : List Str → Str → Option Nat
  | [], _ => none
  | n :: ns, x => if n = x then some 0 else (idxN ns x).map (· + 1)
theorem lookN_at : ∀ {N : List Str} {σ : List (Option V)} {x : Str} {v : V}, lookN N σ x = some v → ∃ i : Nat, N[i]? = some x ∧ σ[i]? = some (some v)
  | [], _, _, _, h => nomatch h
  | _ :: _, [], _, _, h => nomatch h
  | n :: ns, w :: ws, x, v, h => by
    unfold lookN at h
    split at h
    · rename_i e
      subst e
      exact ⟨0, rfl, congrArg some h⟩
    · obtain ⟨i, a, b⟩ := lookN_at h
      exact ⟨i + 1, a, b⟩
theorem idxN_at : ∀ {N : List Str} {x : Str} {i : Nat}, idxN N x = some i → N[i]? = some x
  | [], _, _, h => nomatch h
  | n :: ns, x, i, h => by
    unfold idxN at h
    split at h
    · rename_i e
      subst e
      cases h
      rfl
    · cases e : idxN ns x with
      | none => rw [e] at h; cases h
      | some j =>
        rw [e] at h
        cases h
        rw [List.getElem?_cons_succ]
        exact idxN_at e
theorem we_nm {x : Str} {pos : Pos} {v : V} {Q : VK} (hl : lookN X.N σ x = some v) (q : Q v H) (hv : Vis X.env.scope x := by first | exact Or.inl rfl | exact Or.inr (Or.inl rfl) | exact Or.inr (Or.inr rfl)) (hd : (x == ("__debug__" : Str)) = false := by decide)
    (hcd : (x == ("__classdict__" : Str)) = false := by decide) : WE X (.Name x pos) σ H Q := by
  obtain ⟨i, a, b⟩ := lookN_at hl
  exact WE.of (pe_var a hv hd hcd) ⟨v, b, q⟩
theorem wg_nm {x : Str} {pos : Pos} {v : V} {i : Nat} {Q : L2.St → Hp → Prop} (hN : X.N.Nodup) (hi : idxN X.N x = some i) (q : Q (σ.set i (some v)) H) (hx : Loc X.env.scope x := by first | exact Or.inl rfl | exact Or.inr rfl)
    (hf : X.fn x = true ∨ X.env.scope.names.lookup x = some .local := by first | exact .inl rfl | exact .inr rfl) : WG X (.Name x pos) v σ H Q :=
  WG.of (pg_name hN (idxN_at hi) hx hf) q

/-! ### constants -/
variable {Q : VK} {pos : Pos}
theorem we_int {i j} (q : Q (.int i) H) : WE X (.Constant (.int i) j pos) σ H Q := WE.of pe_int q
theorem we_str {x j} (q : Q (.str x) H) : WE X (.Constant (.str x) j pos) σ H Q := WE.of pe_str q
theorem we_bl {b j} (q : Q (.bl b) H) : WE X (.Constant (.bool b) j pos) σ H Q := WE.of pe_bl q
theorem we_non {j} (q : Q .non H) : WE X (.Constant .none j pos) σ H Q := WE.of pe_non q
theorem we_glob {x : Str} {v : V} {u : Value} (hg : Gl X x) (hm : X.mg x = some u) (r : RelV v u) (q : Q v H) (hd : (x == ("__debug__" : Str)) = false := by decide) : WE X (.Name x pos) σ H Q := WE.of (pe_glob hg hm r hd) q

/-! ### operators -/
theorem we_op {a b : Expr} {op} (q : WE X a σ H fun x H1 => WE X b σ H1 fun y H2 => WO X (binaryOp op) x y H2 Q) : WE X (.BinOp a op b pos) σ H Q := WE.of (pe_op op_w pe_w pe_w) q
theorem we_un {a : Expr} {op} (q : WE X a σ H fun x H1 => WU X (unaryOp op) x H1 Q) : WE X (.UnaryOp op a pos) σ H Q := WE.of (pe_un un_w pe_w) q
theorem we_cmp {a b : Expr} {op} (q : WE X a σ H fun x H1 => WE X b σ H1 fun y H2 => WO X (compareOp op) x y H2 Q) (hm : behindInMarks op b = false := by first | exact nobehind _ (by decide) (by decide) | rfl) : WE X (.Compare a [op] [b] pos) σ H Q := WE.of (pe_cmpR op_w pe_w pe_w hm) q
theorem wt_cmp {a b : Expr} {op} {Q : Bool → Hp → Prop} (q : WE X a σ H fun x H1 => WE X b σ H1 fun y H2 => WO X (compareOp op) x y H2 fun z H3 => ∃ k, z = .bl k ∧ Q k H3) (hm : behindInMarks op b = false := by first | exact nobehind _ (by decide) (by decide) | rfl) : WT X (.Compare a [op] [b] pos) σ H Q := WT.of (pt_cmpR op_w pe_w pe_w hm) q
theorem we_chain {a b c : Expr} {op op'} (q : WE X a σ H fun x H1 => WE X b σ H1 fun y H2 => WO X (compareOp op) x y H2 fun z H3 => ∃ k, z = .bl k ∧ (if k = true then WE X c σ H3 fun w' H4 => WO X (compareOp op') y w' H4 Q else Q (.bl false) H3))
    (hm : lastMarks [op, op'] [b, c] = false := by with_unfolding_all rfl) : WE X (.Compare a [op, op'] [b, c] pos) σ H Q := WE.of (pe_chain op_w op_w pe_w pe_w pe_w hm) q
theorem wt_chain {a b c : Expr} {op op'} {Q : Bool → Hp → Prop} (q : WE X a σ H fun x H1 => WE X b σ H1 fun y H2 => WO X (compareOp op) x y H2 fun z H3 => ∃ k, z = .bl k ∧ (if k = true then WE X c σ H3 fun w' H4 => WO X (compareOp op') y w' H4 fun z H5 => ∃ k, z = .bl k ∧ Q k H5 else ∃ k, V.bl false = .bl k ∧ Q k H3))
    (hm : lastMarks [op, op'] [b, c] = false := by with_unfolding_all rfl) : WT X (.Compare a [op, op'] [b, c] pos) σ H Q := WT.of (pt_chain op_w op_w pe_w pe_w pe_w hm) q
/-! ### tests -/
theorem wt_val {e : Expr} {Q : Bool → Hp → Prop} (q : WE X e σ H fun x H1 => ∃ c, x = .bl c ∧ Q c H1) (he : ∀ whole, isTrue e X.env whole = (do let v ← whole; standAt e.pos; holding [v] (truthy v)) := by intro _; rfl) : WT X e σ H Q := WT.of (pt_val pe_w he) q
theorem wt_not {a : Expr} {Q : Bool → Hp → Prop} (q : WT X a σ H fun c H1 => Q (!c) H1) : WT X (.UnaryOp .Not a pos) σ H Q := WT.of (pt_not pt_w) q
theorem wt_bop {op es} {Q : Bool → Hp → Prop} (q : WW X (.BoolOp op es pos) σ H Q) : WT X (.BoolOp op es pos) σ H Q := WT.of (PW.pt pw_w) q
theorem ww_and {a b : Expr} {rest} {Q : Bool → Hp → Prop} (q : WT X a σ H fun c H1 => if c = true then WW X (.BoolOp .And (b :: rest) pos) σ H1 Q else Q false H1) : WW X (.BoolOp .And (a :: b :: rest) pos) σ H Q := WW.of (pw_and pt_w pw_w) q
theorem ww_and1 {a : Expr} {Q : Bool → Hp → Prop} (q : WT X a σ H Q) : WW X (.BoolOp .And [a] pos) σ H Q := WW.of (pw_and1 pt_w) q
theorem ww_or {a b : Expr} {rest} {Q : Bool → Hp → Prop} (q : WT X a σ H fun c H1 => if c = true then Q true H1 else WW X (.BoolOp .Or (b :: rest) pos) σ H1 Q) : WW X (.BoolOp .Or (a :: b :: rest) pos) σ H Q := WW.of (pw_or pt_w pw_w) q
theorem ww_or1 {a : Expr} {Q : Bool → Hp → Prop} (q : WT X a σ H Q) : WW X (.BoolOp .Or [a] pos) σ H Q := WW.of (pw_or1 pt_w) q
theorem we_and {a b : Expr} {rest} (q : WE X a σ H fun x H1 => ∃ c, x = .bl c ∧ if c = true then WE X (.BoolOp .And (b :: rest) pos) σ H1 Q else Q (.bl false) H1) : WE X (.BoolOp .And (a :: b :: rest) pos) σ H Q := WE.of (pe_and pe_w pe_w) q
theorem we_or {a b : Expr} {rest} (q : WE X a σ H fun x H1 => ∃ c, x = .bl c ∧ if c = true then Q (.bl true) H1 else WE X (.BoolOp .Or (b :: rest) pos) σ H1 Q) : WE X (.BoolOp .Or (a :: b :: rest) pos) σ H Q := WE.of (pe_or pe_w pe_w) q
theorem we_one {a : Expr} {op} (q : WE X a σ H Q) : WE X (.BoolOp op [a] pos) σ H Q := WE.of (pe_one pe_w) q
theorem we_not {a : Expr} (q : WE X a σ H fun x H1 => ∃ c, x = .bl c ∧ Q (.bl (!c)) H1) : WE X (.UnaryOp .Not a pos) σ H Q := WE.of (pe_not pe_w) q
theorem we_if {a b c : Expr} (q : WT X c σ H fun k H1 => if k = true then WE X a σ H1 Q else WE X b σ H1 Q) : WE X (.IfExp c a b pos) σ H Q := WE.of (pe_ifExp pt_w pe_w pe_w) q
/-! ### displays, subscripts -/
theorem we_tup {es x1} (q : WA X es σ H fun xs H1 => xs.length ≤ sizeLine ∧ ∀ p, H1 p = none → Q (.ref p) (upd H1 p (.tup xs))) : WE X (.Tuple es x1 pos) σ H Q := WE.of (pe_tup pa_w) q
theorem we_lst {es} (q : WA X es σ H fun xs H1 => xs.length ≤ sizeLine ∧ ∀ p, H1 p = none → Q (.ref p) (upd H1 p (.lst xs))) : WE X (.List es pos) σ H Q := WE.of (pe_lst pa_w) q
theorem wa_nil {Q : List V → Hp → Prop} (q : Q [] H) : WA X [] σ H Q := WA.of pa_nil q
theorem wa_cons {e es} {Q : List V → Hp → Prop} (q : WE X e σ H fun x H1 => WA X es σ H1 fun xs H2 => Q (x :: xs) H2) (hs : starEach (e :: es) X.env = (false, eval e X.env) :: starEach es X.env := by rfl) : WA X (e :: es) σ H Q := WA.of (pa_cons pe_w pa_w hs) q
theorem we_ix {a b : Expr} (q : WE X a σ H fun x H1 => WE X b σ H1 fun y H2 => WIx X x y H2 Q) (hs : PlainIx b := by exact fun _ _ => rfl) : WE X (.Subscript a b pos) σ H Q := WE.of (pe_ix ix_w pe_w pe_w hs) q
theorem we_sl00 {e : Expr} {p2} (q : WE X e σ H fun x H1 => WSl X x none none H1 Q) : WE X (.Subscript e (.Slice none none none p2) pos) σ H Q := WE.of (pe_slice sl_w pe_w po_none po_none) q
theorem we_sl10 {e l : Expr} {p2} (q : WE X e σ H fun x H1 => WE X l σ H1 fun y H2 => ∃ i, y = .int i ∧ WSl X x (some i) none H2 Q) : WE X (.Subscript e (.Slice (some l) none none p2) pos) σ H Q := WE.of (pe_slice sl_w pe_w (po_some pe_w) po_none) q
theorem we_sl01 {e u : Expr} {p2} (q : WE X e σ H fun x H1 => WE X u σ H1 fun y H2 => ∃ i, y = .int i ∧ WSl X x none (some i) H2 Q) : WE X (.Subscript e (.Slice none (some u) none p2) pos) σ H Q := WE.of (pe_slice sl_w pe_w po_none (po_some pe_w)) q
theorem we_sl11 {e l u : Expr} {p2} (q : WE X e σ H fun x H1 => WE X l σ H1 fun y H2 => ∃ i, y = .int i ∧ WE X u σ H2 fun z H3 => ∃ j, z = .int j ∧ WSl X x (some i) (some j) H3 Q) : WE X (.Subscript e (.Slice (some l) (some u) none p2) pos) σ H Q := WE.of (pe_slice sl_w pe_w (po_some pe_w) (po_some pe_w)) q
/-! ### calls of built-ins -/
theorem we_callB {x : Str} {p : Pos} {e es id} (hg : Gl X x) (hm : X.mg x = none) (hv : bootBuiltins x = some (.builtin id)) (q : WA X (e :: es) σ H fun xs H1 => WC X (.builtin id) xs H1 Q) (hn : x ≠ "__name__" := by decide) (hdb : (x == ("__debug__" : Str)) = false := by decide)
    (he : starEach (e :: es) X.env = (false, eval e X.env) :: starEach es X.env := by rfl) (hpl : (backTo pos (starEach es X.env)).any (·.1) = false := by rfl) : WE X (.Call (.Name x p) (e :: es) [] pos) σ H Q :=
  WE.of (pe_callB call_w hg hm hv pa_w hn hdb he hpl) q
theorem we_callTy {x : Str} {p : Pos} {e es T} (hg : Gl X x) (hm : X.mg x = none) (hv : bootBuiltins x = some (.type T)) (q : WA X (e :: es) σ H fun xs H1 => WC X (.type T) xs H1 Q) (hn : x ≠ "__name__" := by decide) (hdb : (x == ("__debug__" : Str)) = false := by decide)
    (he : starEach (e :: es) X.env = (false, eval e X.env) :: starEach es X.env := by rfl) (hpl : (backTo pos (starEach es X.env)).any (·.1) = false := by rfl) : WE X (.Call (.Name x p) (e :: es) [] pos) σ H Q :=
  WE.of (pe_callTy call_w hg hm hv pa_w hn hdb he hpl) q
theorem we_call {CX k f fd ps sp dvs ds E} {x : Str} {p : Pos} {e es} (F : FnOk X.prog X.w X.K X.mg X.base CX k f fd ps sp) (hr : Room k X.A) (hg : Gl X x) (hm : X.mg x = some (.ref f)) (hk : PySem.W.keepIn X.K (.ref f) = true) (hb : Binds X.K fd ps ds) (hd : Vals dvs ds) (hx : Passes CX X E)
    (q : WA X (e :: es) σ H fun vs H1 => sp (vs ++ dvs) H1 Q E) (hdb : (x == ("__debug__" : Str)) = false := by decide) (he : starEach (e :: es) X.env = (false, eval e X.env) :: starEach es X.env := by rfl) (hpl : (backTo pos (starEach es X.env)).any (·.1) = false := by rfl) :
    WE X (.Call (.Name x p) (e :: es) [] pos) σ H Q := WE.of (pe_call F hr hg hm hk hb hd hx pa_w hdb he hpl) q
theorem we_bm0 {T name id o apos} (pa : PlainAttrs T) (slot : Slot T name id) (hty : typeOf (.builtin id) = pure (.type "method_descriptor")) (q : WE X o σ H fun x H1 => tyV X.K T x H1 ∧ WM X id x [] H1 Q)
    (hbase : attributeBase o name X.env (eval o X.env) = eval o X.env := by rfl) (hline : (apos.endLine == pos.line) = true := by rfl) : WE X (.Call (.Attribute o name apos) [] [] pos) σ H Q := WE.of (pe_bm0 pa slot hty mt_w pe_w hbase hline) q
theorem we_bm {T name id o apos e es} (pa : PlainAttrs T) (slot : Slot T name id) (hty : typeOf (.builtin id) = pure (.type "method_descriptor")) (q : WE X o σ H fun x H1 => tyV X.K T x H1 ∧ WA X (e :: es) σ H1 fun vs H2 => WM X id x vs H2 Q)
    (hbase : attributeBase o name X.env (eval o X.env) = eval o X.env := by rfl)
    (hfew : ((backTo pos (starEach (e :: es) X.env)).all (fun x => !x.1) && (backToKw pos (keywordEach [] X.env)).all (fun x => x.1.isSome)
      && decide ((e :: es).length + ([] : List Keyword).length + (if ([] : List Keyword).isEmpty then 0 else 1) < 30)) = true := by rfl)
    (hline : (apos.endLine == pos.line) = true := by rfl) (hs : starEach (e :: es) X.env = (false, eval e X.env) :: starEach es X.env := by rfl) (hplain : (backTo pos (starEach es X.env)).any (·.1) = false := by rfl) :
    WE X (.Call (.Attribute o name apos) (e :: es) [] pos) σ H Q := WE.of (pe_bm pa slot hty mt_w pe_w pa_w hbase hfew hline hs hplain) q
/-! ### statements -/
variable {D : Ends}
theorem ws_cons {st rest} {nx : L2.St → Hp → Prop} {rt : VK} {bk ct : L2.St → Hp → Prop} (q : WS X st ⟨WSs X rest ⟨nx, rt, bk, ct⟩, rt, bk, ct⟩ σ H) : WSs X (st :: rest) ⟨nx, rt, bk, ct⟩ σ H := WSs.of (pss_cons ps_w pss_w) q
theorem ws_one {st} (q : WS X st D σ H) : WSs X [st] D σ H := WSs.of (pss_one ps_w) q
theorem ws_nil (q : D.nx σ H) : WSs X [] D σ H := WSs.of pss_nil q
theorem ws_pass (q : D.nx σ H) : WS X (.Pass pos) D σ H := WS.of ps_pass q
theorem ws_break (q : D.bk σ H) : WS X (.Break pos) D σ H := WS.of ps_break q
theorem ws_cont (q : D.ct σ H) : WS X (.Continue pos) D σ H := WS.of ps_continue q
theorem ws_expr {e} (q : WE X e σ H fun _ H1 => D.nx σ H1) (hs : swapsWith e none pos.line X.env = pure false := by rfl) : WS X (.Expr e pos) D σ H := WS.of (ps_expr pe_w hs) q
theorem ws_ret {e} (q : WE X e σ H D.rt) : WS X (.Return (some e) pos) D σ H := WS.of (ps_ret pe_w) q
theorem ws_retN (q : D.rt .non H) : WS X (.Return none pos) D σ H := WS.of ps_retN q
theorem ws_if {c a b} (q : WT X c σ H fun k H1 => if k = true then WSs X a D σ H1 else WSs X b D σ H1) : WS X (.If c a b pos) D σ H := WS.of (ps_if pt_w pss_w pss_w) q
theorem ws_asg {tg e} (q : WE X e σ H fun x H1 => WG X tg x σ H1 D.nx) (hs : swapsWithSole [tg] e pos.line X.env = pure false := by rfl) (hw : swappedStores [tg] e X.env = pure none := by rfl)
    (h1 : (assignEach [tg] X.env).map (·.2) = [assign tg X.env] := by rfl) : WS X (.Assign [tg] e pos) D σ H := WS.of (ps_asg pe_w pg_w hs hw h1) q
theorem ws_set {x : Str} {e : Expr} {pos' : Pos} {i : Nat} (hN : X.N.Nodup) (hi : idxN X.N x = some i) (q : WE X e σ H fun v H1 => D.nx (σ.set i (some v)) H1) (hx : Loc X.env.scope x := by first | exact Or.inl rfl | exact Or.inr rfl)
    (hs : swapsWith e (some (.Name x pos')) pos.line X.env = pure false := by rfl) (hf : X.fn x = true ∨ X.env.scope.names.lookup x = some .local := by first | exact .inl rfl | exact .inr rfl) : WS X (.Assign [.Name x pos'] e pos) D σ H :=
  WS.of (ps_set hN (idxN_at hi) hx pe_w hs hf) q
theorem ws_aug {x : Str} {e : Expr} {pos' : Pos} {op : Operator} {i : Nat} {v : V} (hN : X.N.Nodup) (hi : idxN X.N x = some i) (hv : σ[i]? = some (some v)) (q : WE X e σ H fun y H1 => WIp X op v y H1 fun z H2 => D.nx (σ.set i (some z)) H2) (hx : Loc X.env.scope x := by first | exact Or.inl rfl | exact Or.inr rfl)
    (hf : X.fn x = true ∨ X.env.scope.names.lookup x = some .local := by first | exact .inl rfl | exact .inr rfl) : WS X (.AugAssign (.Name x pos') op e pos) D σ H :=
  WS.of (ps_aug hN (idxN_at hi) hx pe_w ip_w hf) ⟨v, hv, q⟩
theorem wg_sub {o i : Expr} {v : V} {Q : L2.St → Hp → Prop} (q : WE X o σ H fun a H1 => WE X i σ H1 fun b H2 => WSet X a b v H2 fun H3 => Q σ H3)
    (ha : ∀ v, assign (.Subscript o i pos) X.env v = (do
      let ov ← holding [v] (eval o X.env)
      let iv ← holding [v, ov] (eval i X.env)
      standAt pos
      holding [v, ov, iv] (setItem ov iv v)
      release [v, ov, iv] []) := by intro _; rfl) : WG X (.Subscript o i pos) v σ H Q := WG.of (pg_sub pe_w pe_w set_w ha) q
theorem ws_par {x y : Str} {a b : Expr} {px py pt : Pos} {kt k2 pt2} {i j : Nat} (q : WA X [a, b] σ H fun vs H1 => ∃ v w, vs = [v, w] ∧ D.nx ((σ.set i (some v)).set j (some w)) H1)
    (h : PS X (.Assign [.Tuple [.Name x px, .Name y py] kt pt] (.Tuple [a, b] k2 pt2) pos) (tPar i j (WA X [a, b]))) :
    WS X (.Assign [.Tuple [.Name x px, .Name y py] kt pt] (.Tuple [a, b] k2 pt2) pos) D σ H := WS.of h q
theorem ws_for {tg iter body} (hp : PassesOwn (model X.prog X.w) X.A X.env X.xe) (hc : X.calm = true) (q : tFor (WI X tg iter) (WG X tg) (WSs X body) D σ H) (hs : ∀ x, foldedSetIterable iter X.env x = pure x := by intro _; rfl) : WS X (.For tg iter body [] pos) D σ H :=
  WS.of (ps_for hp hc pi_w pg_w pss_w hs) q
theorem ws_while {c body} {nx : L2.St → Hp → Prop} {rt : VK} {bk ct : L2.St → Hp → Prop} (hp : PassesOwn (model X.prog X.w) X.A X.env X.xe) (Pv : L2.St → Hp → Prop) (μ : L2.St → Hp → Nat) (h0 : Pv σ H)
    (hs : ∀ σ H, Pv σ H → WT X c σ H fun b H1 => if b = true then WSs X body ⟨fun σ' H' => Pv σ' H' ∧ μ σ' H' < μ σ H, rt, nx, fun σ' H' => Pv σ' H' ∧ μ σ' H' < μ σ H⟩ σ H1 else nx σ H1) :
    WS X (.While c body [] pos) ⟨nx, rt, bk, ct⟩ σ H :=
  WS.of (ps_while hp pt_w pss_w) (while_by Pv μ h0 hs fun _ _ _ _ h q => WT.mono h q)
end
end Wx

namespace Wx
open PySem PySem.Spec PyProof.Rows L2

/-! ### heaps -/
def Ex (H H' : Hp) : Prop := ∀ a o, H a = some o → H' a = some o
theorem Ex.refl (H : Hp) : Ex H H := fun _ _ h => h
theorem Ex.trans {H H1 H2 : Hp} (a : Ex H H1) (b : Ex H1 H2) : Ex H H2 := fun x o h => b x o (a x o h)
theorem Ex.new {H : Hp} {p : Addr} {o : HO} (h : H p = none) : Ex H (upd H p o) := fun a u e => by
  rw [upd_ne (ne_of_none e h)]
  exact e
theorem Ex.mut {H H' : Hp} {p : Addr} {o : HO} (e : Ex H H') (h : H p = none) : Ex H (upd H' p o) := fun a u ha => by
  rw [upd_ne (ne_of_none ha h)]
  exact e a u ha
theorem Ex.fresh {H H' : Hp} {p : Addr} (e : Ex H H') (h : H' p = none) : H p = none := by
  cases h1 : H p with
  | none => rfl
  | some o =>
    rw [e p o h1] at h
    cases h
theorem Ex.rd {H H' : Hp} {a : Addr} {u : HO} (e : Ex H H') (h : Rd H a u) : Rd H' a u := by
  rcases h with h | ⟨o, h⟩
  · exact Or.inl (e a _ h)
  · exact Or.inr ⟨o, e a _ h⟩
theorem Ex.l {K : PySem.W.Frag} {H H' : Hp} {a : Addr} {xs : List V} (e : Ex H H') (h : SqL K H a xs) : SqL K H' a xs := by
  rcases h with h | h
  · exact Or.inl (e.rd h)
  · exact Or.inr h
theorem Ex.t {K : PySem.W.Frag} {H H' : Hp} {a : Addr} {xs : List V} (e : Ex H H') (h : SqT K H a xs) : SqT K H' a xs := by
  rcases h with h | h
  · exact Or.inl (e.rd h)
  · exact Or.inr h
theorem sq_of {K : PySem.W.Frag} {H : Hp} {a : Addr} {xs : List V} (h : H a = some (.lst xs)) : SqL K H a xs := Or.inl (Or.inl h)
theorem st_of {K : PySem.W.Frag} {H : Hp} {a : Addr} {xs : List V} (h : H a = some (.tup xs)) : SqT K H a xs := Or.inl (Or.inl h)
theorem sz_le {n : Nat} (h : n ≤ 1000000) : n ≤ sizeLine := Nat.le_trans h (by decide)
theorem sz_lt {n : Nat} (h : n < 1000000) : n < sizeLine := Nat.lt_of_lt_of_le h (by decide)

section
variable {X : Cx} {σ : L2.St} {H : Hp} {Q : VK} {i j : Int} {pos : Pos}
/-! ### ints -/
theorem wo_add (q : Q (.int (i + j)) H) : WO X (binaryOp .Add) (.int i) (.int j) H Q := WO.of op_add ⟨i, j, rfl, rfl, q⟩
theorem wo_sub (q : Q (.int (i - j)) H) : WO X (binaryOp .Sub) (.int i) (.int j) H Q := WO.of op_sub ⟨i, j, rfl, rfl, q⟩
theorem wo_mul (h : CMul i j) (q : Q (.int (i * j)) H) : WO X (binaryOp .Mult) (.int i) (.int j) H Q := WO.of op_mul ⟨i, j, rfl, rfl, h, q⟩
theorem wo_fdiv (h : CDiv i j) (q : Q (.int (i / j)) H) : WO X (binaryOp .FloorDiv) (.int i) (.int j) H Q := WO.of op_fdiv ⟨i, j, rfl, rfl, h, q⟩
theorem wo_mod (h : 0 < j) (q : Q (.int (i % j)) H) : WO X (binaryOp .Mod) (.int i) (.int j) H Q := WO.of op_mod ⟨i, j, rfl, rfl, h, q⟩
theorem wo_pow (h : CPow i j) (q : Q (.int (i ^ j.toNat)) H) : WO X (binaryOp .Pow) (.int i) (.int j) H Q := WO.of op_pow ⟨i, j, rfl, rfl, h, q⟩
theorem wo_lt (q : Q (.bl (decide (i < j))) H) : WO X (compareOp .Lt) (.int i) (.int j) H Q := WO.of op_lt ⟨i, j, rfl, rfl, q⟩
theorem wo_le (q : Q (.bl (decide (i ≤ j))) H) : WO X (compareOp .LtE) (.int i) (.int j) H Q := WO.of op_le ⟨i, j, rfl, rfl, q⟩
theorem wo_gt (q : Q (.bl (decide (j < i))) H) : WO X (compareOp .Gt) (.int i) (.int j) H Q := WO.of op_gt ⟨i, j, rfl, rfl, q⟩
theorem wo_ge (q : Q (.bl (decide (j ≤ i))) H) : WO X (compareOp .GtE) (.int i) (.int j) H Q := WO.of op_ge ⟨i, j, rfl, rfl, q⟩
theorem decI {i j : Int} : decide (V.int i = V.int j) = decide (i = j) := by
  by_cases h : i = j
  · subst h; simp
  · rw [decide_eq_false h, decide_eq_false (fun e => h (V.int.inj e))]
theorem decS {i j : Str} : decide (V.str i = V.str j) = decide (i = j) := by
  by_cases h : i = j
  · subst h; simp
  · rw [decide_eq_false h, decide_eq_false (fun e => h (V.str.inj e))]
theorem wo_eq (q : Q (.bl (decide (i = j))) H) : WO X (compareOp .Eq) (.int i) (.int j) H Q := WO.of op_eq ⟨rfl, by rw [decI]; exact q⟩
theorem wo_ne (q : Q (.bl (!decide (i = j))) H) : WO X (compareOp .NotEq) (.int i) (.int j) H Q := WO.of op_ne ⟨rfl, by rw [decI]; exact q⟩
theorem wo_eqS {x y : Str} (q : Q (.bl (decide (x = y))) H) : WO X (compareOp .Eq) (.str x) (.str y) H Q := WO.of op_eq ⟨rfl, by rw [decS]; exact q⟩
theorem wo_neS {x y : Str} (q : Q (.bl (!decide (x = y))) H) : WO X (compareOp .NotEq) (.str x) (.str y) H Q := WO.of op_ne ⟨rfl, by rw [decS]; exact q⟩
theorem wo_addS {x y : Str} (h : x.length + y.length ≤ 1000000) (q : Q (.str (x ++ y)) H) : WO X (binaryOp .Add) (.str x) (.str y) H Q := WO.of op_add_str ⟨x, y, rfl, rfl, sz_le h, q⟩
theorem wu_neg (q : Q (.int (-i)) H) : WU X (unaryOp .USub) (.int i) H Q := WU.of un_neg ⟨i, rfl, q⟩
/-! ### lists and tuples -/
theorem wix_l {p : Addr} {xs : List V} {v : V} (h : SqL X.K H p xs) (ha : atI xs i = some v) (q : Q v H) : WIx X (.ref p) (.int i) H Q := WIx.of ix_list ⟨p, xs, i, v, rfl, rfl, h, ha, q⟩
theorem wix_t {p : Addr} {xs : List V} {v : V} (h : SqT X.K H p xs) (ha : atI xs i = some v) (q : Q v H) : WIx X (.ref p) (.int i) H Q := WIx.of ix_tup ⟨p, xs, i, v, rfl, rfl, h, ha, q⟩
theorem wix_s {z : Str} {c : Nat} (h : z.length ≤ 1000000) (ha : atI z.cps.toList i = some c) (q : Q (.str ⟨#[c]⟩) H) : WIx X (.str z) (.int i) H Q := WIx.of ix_str ⟨z, i, c, rfl, rfl, sz_le h, ha, q⟩
theorem wset_l {p : Addr} {xs : List V} {v : V} {k : Nat} {Q : Hp → Prop} (h : H p = some (.lst xs)) (hi : ixN xs.length i = some k) (q : Q (upd H p (.lst (xs.set k v)))) : WSet X (.ref p) (.int i) v H Q := WSet.of set_list ⟨p, xs, i, k, rfl, rfl, h, hi, q⟩
theorem wip_add (q : Q (.int (i + j)) H) : WIp X .Add (.int i) (.int j) H Q := WIp.of ip_add ⟨i, j, rfl, rfl, q⟩
theorem wip_sub (q : Q (.int (i - j)) H) : WIp X .Sub (.int i) (.int j) H Q := WIp.of ip_sub ⟨i, j, rfl, rfl, q⟩
/-! ### built-ins by name -/
theorem we_len {p : Pos} {e es} (hm : X.mg "len" = none) (q : WA X (e :: es) σ H fun xs H1 => WC X (.builtin "len") xs H1 Q) (hg : Gl X "len" := by rfl)
    (he : starEach (e :: es) X.env = (false, eval e X.env) :: starEach es X.env := by rfl) (hpl : (backTo pos (starEach es X.env)).any (·.1) = false := by rfl) : WE X (.Call (.Name "len" p) (e :: es) [] pos) σ H Q := we_callB hg hm PySem.boot_len q (by decide) (by decide) he hpl
theorem boot_int : bootBuiltins "int" = some (.type "int") := by decide +kernel
theorem we_intT {p : Pos} {e es} (hm : X.mg "int" = none) (q : WA X (e :: es) σ H fun xs H1 => WC X (.type "int") xs H1 Q) (hg : Gl X "int" := by rfl)
    (he : starEach (e :: es) X.env = (false, eval e X.env) :: starEach es X.env := by rfl) (hpl : (backTo pos (starEach es X.env)).any (·.1) = false := by rfl) : WE X (.Call (.Name "int" p) (e :: es) [] pos) σ H Q := we_callTy hg hm boot_int q (by decide) (by decide) he hpl
theorem wc_int (q : Q (.int i) H) : WC X (.type "int") [.int i] H Q := WC.of call_int1 (.inl ⟨i, rfl, q⟩)
theorem wc_lenL {p : Addr} {xs : List V} (h : SqL X.K H p xs) (q : Q (.int xs.length) H) : WC X (.builtin "len") [.ref p] H Q := WC.of call_len_seq ⟨p, xs, rfl, .inl h, q⟩
theorem wc_lenT {p : Addr} {xs : List V} (h : SqT X.K H p xs) (q : Q (.int xs.length) H) : WC X (.builtin "len") [.ref p] H Q := WC.of call_len_seq ⟨p, xs, rfl, .inr h, q⟩
theorem wc_lenS {z : Str} (h : z.length ≤ 1000000) (q : Q (.int z.length) H) : WC X (.builtin "len") [.str z] H Q := WC.of call_len_str ⟨z, rfl, sz_le h, q⟩
/-! ### loops -/
variable {D : Ends}
theorem ws_forL {nx : L2.St → Hp → Prop} {rt : VK} {bk ct : L2.St → Hp → Prop} {tg iter body} (hp : PassesOwn (model X.prog X.w) X.A X.env X.xe) (hc : X.calm = true) (q : WE X iter σ H fun x H1 => ∃ a xs, x = .ref a ∧ SqL X.K H1 a xs ∧ ∃ Pv : Nat → L2.St → Hp → Prop, Pv 0 σ H1 ∧ (∀ i σ H, i ≤ xs.length → Pv i σ H → SqL X.K H a xs) ∧
      (∀ i x σ H, xs[i]? = some x → Pv i σ H → WG X tg x σ H fun σ2 H2 => WSs X body ⟨Pv (i + 1), rt, nx, Pv (i + 1)⟩ σ2 H2) ∧ ∀ σ H, Pv xs.length σ H → nx σ H)
    (hs : ∀ x, foldedSetIterable iter X.env x = pure x := by intro _; rfl) : WS X (.For tg iter body [] pos) ⟨nx, rt, bk, ct⟩ σ H :=
  WS.of (ps_for hp hc (pi_list pe_w) pg_w pss_w hs) (WE.mono (fun _ _ ⟨a, xs, e, h, Pv, h0, hl, ht, hd⟩ => ⟨a, e, ⟨xs, h⟩, for_list (xs := xs) Pv h0 hl ht hd⟩) q)
theorem ws_forT {nx : L2.St → Hp → Prop} {rt : VK} {bk ct : L2.St → Hp → Prop} {tg iter body} (hp : PassesOwn (model X.prog X.w) X.A X.env X.xe) (hc : X.calm = true) (q : WE X iter σ H fun x H1 => ∃ a xs, x = .ref a ∧ SqT X.K H1 a xs ∧ ∃ Pv : Nat → L2.St → Hp → Prop, Pv 0 σ H1 ∧ (∀ i σ H, i ≤ xs.length → Pv i σ H → SqT X.K H a xs) ∧
      (∀ i x σ H, xs[i]? = some x → Pv i σ H → WG X tg x σ H fun σ2 H2 => WSs X body ⟨Pv (i + 1), rt, nx, Pv (i + 1)⟩ σ2 H2) ∧ ∀ σ H, Pv xs.length σ H → nx σ H)
    (hs : ∀ x, foldedSetIterable iter X.env x = pure x := by intro _; rfl) : WS X (.For tg iter body [] pos) ⟨nx, rt, bk, ct⟩ σ H :=
  WS.of (ps_for hp hc (pi_tup pe_w) pg_w pss_w hs) (WE.mono (fun _ _ ⟨a, xs, e, h, Pv, h0, hl, ht, hd⟩ => ⟨a, e, ⟨xs, h⟩, for_tup (xs := xs) Pv h0 hl ht hd⟩) q)
theorem ws_forR {nx : L2.St → Hp → Prop} {rt : VK} {bk ct : L2.St → Hp → Prop} {tg e body p p'} (hp : PassesOwn (model X.prog X.w) X.A X.env X.xe) (hc : X.calm = true) (hm : X.mg "range" = none) (q : WE X e σ H fun x H1 => ∃ j : Int, x = .int j ∧ -(2 ^ 62) ≤ j ∧ j < 2 ^ 62 ∧ ∃ Pv : Nat → L2.St → Hp → Prop, Pv 0 σ H1 ∧
      (∀ i σ H, i < j.toNat → Pv i σ H → WG X tg (.int i) σ H fun σ2 H2 => WSs X body ⟨Pv (i + 1), rt, nx, Pv (i + 1)⟩ σ2 H2) ∧ ∀ σ H, Pv j.toNat σ H → nx σ H)
    (hg : Gl X "range" := by rfl) (hse : starEach [e] X.env = [(false, eval e X.env)] := by rfl) (hs : ∀ x, foldedSetIterable (.Call (.Name "range" p) [e] [] p') X.env x = pure x := by intro _; rfl) : WS X (.For tg (.Call (.Name "range" p) [e] [] p') body [] pos) ⟨nx, rt, bk, ct⟩ σ H :=
  WS.of (ps_for hp hc (pi_range1 hg hm (pa_cons pe_w pa_nil hse) hse) pg_w pss_w hs) (WE.mono (fun _ _ ⟨j, e, h1, h2, Pv, h0, ht, hd⟩ => ⟨j, by rw [e], h1, h2, for_range (lo := 0) (n := j.toNat) Pv h0 (fun i σ H hi p => by
    rw [show (0 : Int) + (i : Int) = (i : Int) by omega]
    exact ht i σ H hi p) hd⟩) q)
end
/-! ### callees -/
structure Cal (P : Program) (w : World) (K : PySem.W.Frag) (mg : Str → Option Value) (base : Heap) (CX : CXT) (k : Nat) (x : Str) (sp : Sp) : Prop where
  ex : ∃ f fd ps, FnOk P w K mg base CX k f fd ps sp ∧ mg x = some (.ref f) ∧ PySem.W.keepIn K (.ref f) = true ∧ Binds K fd ps []
theorem we_cal {X : Cx} {σ : L2.St} {H : Hp} {Q : VK} {k x p e es pos sp CX E} (C : Cal X.prog X.w X.K X.mg X.base CX k x sp) (hr : Room k X.A) (hx : Passes CX X E) (q : WA X (e :: es) σ H fun vs H1 => sp vs H1 Q E) (hg : Gl X x := by rfl) (hdb : (x == ("__debug__" : Str)) = false := by decide) (he : starEach (e :: es) X.env = (false, eval e X.env) :: starEach es X.env := by rfl)
    (hpl : (backTo pos (starEach es X.env)).any (·.1) = false := by rfl) : WE X (.Call (.Name x p) (e :: es) [] pos) σ H Q := by
  obtain ⟨f, fd, ps, F, hm, hk, hb⟩ := C.ex
  refine we_call F hr hg hm hk hb .nil hx ?_ hdb he hpl
  have e0 : ∀ vs : List V, vs ++ [] = vs := fun vs => List.append_nil vs
  simp only [e0]
  exact q
end Wx
namespace Wx
open PySem PySem.Spec PyProof.Rows L2
theorem upd_get {H : Hp} {a b : Addr} {o u : HO} (h : b ≠ a) (g : H b = some o) : upd H a u b = some o := (upd_ne h).trans g
theorem Ex.get {H H' : Hp} {a : Addr} {o : HO} (e : Ex H H') (g : H a = some o) : H' a = some o := e a o g
/-! ### the drawn numbers: the list at p may change, the rest stays -/
def pub (p : Addr) (H : Hp) : Hp := fun a => if a = p then none else H a
theorem pub_ex {p : Addr} {H : Hp} : Ex (pub p H) H := fun a o h => by
  unfold pub at h
  split at h
  · cases h
  · exact h
theorem pub_get {p a : Addr} {H : Hp} {o : HO} (hne : a ≠ p) (h : H a = some o) : pub p H a = some o := by
  unfold pub
  rw [if_neg hne]
  exact h
theorem pub_mono {p : Addr} {H H' : Hp} (e : Ex H H') : Ex (pub p H) (pub p H') := fun a o h => by
  unfold pub at h ⊢
  split at h
  · cases h
  · rename_i hn
    rw [if_neg hn]
    exact e a o h
theorem pub_upd {p : Addr} {H : Hp} {o : HO} : pub p (upd H p o) = pub p H := by
  funext a
  unfold pub upd
  split
  · rfl
  · rfl
theorem pub_new {p q : Addr} {H : Hp} {o : HO} (hq : q ≠ p) : pub p (upd H q o) = upd (pub p H) q o := by
  funext a
  unfold pub upd
  by_cases h : a = p
  · subst h
    rw [if_pos rfl, if_neg (fun e => hq e.symm)]
    exact (if_pos rfl).symm
  · rw [if_neg h]
    show _ = if a = q then some o else (if a = p then none else H a)
    rw [if_neg h]
theorem pub_none {p q : Addr} {H : Hp} (h : H q = none) : pub p H q = none := by
  unfold pub
  split
  · rfl
  · exact h
def Src (H : Hp) (p : Addr) (n : Nat) : Prop := ∃ (g s c : Int), H p = some (.lst [.int g, .int s, .int c]) ∧ 0 ≤ s ∧ s < 2147483647 ∧ 0 ≤ c ∧ c ≤ n
theorem Src.mono {H : Hp} {p : Addr} {n m : Nat} (h : Src H p n) (e : n ≤ m) : Src H p m := by
  obtain ⟨g, s, c, a, b, d, f, i⟩ := h
  exact ⟨g, s, c, a, b, d, f, by omega⟩
theorem Src.ex {H H' : Hp} {p : Addr} {n : Nat} (e : Ex H H') (h : Src H p n) : Src H' p n := by
  obtain ⟨g, s, c, a, b⟩ := h
  exact ⟨g, s, c, e p _ a, b⟩
theorem Src.ne {H : Hp} {p q : Addr} {n : Nat} (h : Src H p n) (hq : H q = none) : q ≠ p := by
  obtain ⟨g, s, c, a, _⟩ := h
  exact (ne_of_none a hq).symm
def spDraw : Sp := fun vs H Q _ => ∃ p n m, vs = [.ref p, .int m] ∧ Src H p n ∧ n < 1000000 ∧ 0 < m ∧ m < 1073741824 ∧ ∀ H' d, Ex (pub p H) (pub p H') → Src H' p (n + 1) → 0 ≤ d → d < m → Q (.int d) H'
def spSource (K : PySem.W.Frag) : Sp := fun vs H Q _ => ∃ (a : Addr) (ns : List Int), vs = [.ref a] ∧ SqL K H a (ns.map V.int) ∧ ∀ H' p, Ex H H' → H p = none → Src H' p 0 → Q (.ref p) H'
def spPick (K : PySem.W.Frag) : Sp := fun vs H Q _ => ∃ (p : Addr) (n : Nat) (a : Addr) (xs : List V), vs = [.ref p, .ref a] ∧ Src H p n ∧ n < 1000000 ∧ SqL K (pub p H) a xs ∧ 0 < xs.length ∧ xs.length < 1073741824 ∧ ∀ H' (d : Nat) v, Ex (pub p H) (pub p H') → Src H' p (n + 1) → xs[d]? = some v → Q v H'
theorem wss_of {X : Cx} {D : Ends} {σ : L2.St} {H : Hp} {sts : List Stmt} {st : Stmt} {rest : List Stmt} (h : sts = st :: rest) (q : WSs X (st :: rest) D σ H) : ∃ t, PSs X sts t ∧ t D σ H := ⟨_, pss_w, h ▸ q⟩
end Wx

/-! texts as lists of code points -/
namespace Wx
open PySem PySem.Spec PyProof.Rows L2
def S (l : List Nat) : Str := ⟨l.toArray⟩
theorem S_inj {a b : List Nat} (h : S a = S b) : a = b := by
  have := congrArg (fun s : Str => s.cps.toList) h
  simpa [S] using this
theorem S_len (l : List Nat) : (S l).length = l.length := by simp [S, Str.length]
theorem S_app (a b : List Nat) : S a ++ S b = S (a ++ b) := by
  show (⟨(S a).cps ++ (S b).cps⟩ : Str) = S (a ++ b)
  simp [S]
theorem S_list (l : List Nat) : (S l).cps.toList = l := by simp [S]
theorem S_eq (x : Str) : x = S x.cps.toList := by
  cases x with | mk c => simp [S]
theorem S_dec {a b : List Nat} : decide (S a = S b) = decide (a = b) := by
  by_cases h : a = b
  · subst h; simp
  · rw [decide_eq_false h, decide_eq_false (fun e => h (S_inj e))]
theorem S_one (c : Nat) : (⟨#[c]⟩ : Str) = S [c] := rfl
/-! ### how often a sign stands in a text -/
theorem subAt_one (l : List Nat) (c i : Nat) (hi : i < l.length) : Builtin.Str.subAt (S l) (S [c]) i = decide (l[i]? = some c) := by
  unfold Builtin.Str.subAt
  have e : ((S l).cps.extract i (i + (S [c]).length)) = #[l[i]] := by
    apply Array.ext'
    simp [S, Str.length]
    rw [List.drop_eq_getElem_cons hi, List.take_succ_cons, List.take_zero]
  rw [e, List.getElem?_eq_getElem hi]
  by_cases h : l[i] = c
  · simp [h, S]
  · have h2 : ¬ (#[l[i]] : Array Nat) = (S [c]).cps := fun q => h (by
      have := congrArg Array.toList q
      simpa [S] using this)
    have h3 : ¬ (some l[i] = some c) := fun q => h (Option.some.inj q)
    rw [decide_eq_false h3]
    exact beq_eq_false_iff_ne.mpr h2
theorem occ_sign (l : List Nat) (c limit : Nat) : ∀ (m a : Nat) (st : Array Nat × Nat), a + m = l.length + 1 → st.snd ≤ a → st.fst.size + (l.length - a) < limit →
    (forIn (List.range' a m) st (StrLaws.occBody (S l) (S [c]) (S l).length limit)).run.fst.size = st.fst.size + (l.drop a).count c
  | 0, a, st, h, _, _ => by
    rw [List.drop_of_length_le (by omega)]
    simp
  | m + 1, a, st, h, h2, h3 => by
    rw [List.range'_succ, List.forIn_cons]
    unfold StrLaws.occBody
    by_cases ha : a < l.length
    · have hd : l.drop a = l[a] :: l.drop (a + 1) := List.drop_eq_getElem_cons ha
      rw [subAt_one l c a ha, List.getElem?_eq_getElem ha, hd]
      by_cases hc : l[a] = c
      · have cond : ((st.fst.size < limit ∧ st.snd ≤ a) ∧ a + (S [c]).length ≤ (S l).length) ∧ decide (some l[a] = some c) = true := by
          refine ⟨⟨⟨by omega, h2⟩, ?_⟩, by simp [hc]⟩
          rw [S_len, S_len]
          simp
          omega
        rw [if_pos cond]
        have ih := occ_sign l c limit m (a + 1) (st.fst.push a, a + (S [c]).length) (by omega) (by rw [S_len]; simp) (by show (st.fst.push a).size + (l.length - (a + 1)) < limit; rw [Array.size_push]; omega)
        refine Eq.trans ih ?_
        rw [List.count_cons]
        simp [hc]
        omega
      · have cond : ¬ (((st.fst.size < limit ∧ st.snd ≤ a) ∧ a + (S [c]).length ≤ (S l).length) ∧ decide (some l[a] = some c) = true) := by
          rintro ⟨_, q⟩
          exact hc (by simpa using q)
        rw [if_neg cond]
        have ih := occ_sign l c limit m (a + 1) (st.fst, st.snd) (by omega) (by show st.snd ≤ a + 1; omega) (by show st.fst.size + (l.length - (a + 1)) < limit; omega)
        refine Eq.trans ih ?_
        rw [List.count_cons]
        simp [hc]
    · have cond : ¬ (((st.fst.size < limit ∧ st.snd ≤ a) ∧ a + (S [c]).length ≤ (S l).length) ∧ Builtin.Str.subAt (S l) (S [c]) a = true) := by
        rintro ⟨⟨_, q⟩, _⟩
        rw [S_len, S_len] at q
        simp at q
        omega
      rw [if_neg cond]
      have ih := occ_sign l c limit m (a + 1) (st.fst, st.snd) (by omega) (by show st.snd ≤ a + 1; omega) (by show st.fst.size + (l.length - (a + 1)) < limit; omega)
      refine Eq.trans ih ?_
      rw [List.drop_of_length_le (show l.length ≤ a by omega), List.drop_of_length_le (show l.length ≤ a + 1 by omega)]
theorem count_sign (l : List Nat) (c : Nat) : Txt.count (S l) (S [c]) = ((l.count c : Nat) : Int) := by
  unfold Txt.count
  have e := StrLaws.occ_eq (S l) (S [c]) 0 (S l).length ((S l).length + 1)
  rw [e, Array.length_toList, S_len]
  have q := occ_sign l c (l.length + 1) (l.length + 1) 0 (#[], 0) (by omega) (Nat.le_refl 0) (by show 0 + (l.length - 0) < l.length + 1; omega)
  rw [S_len] at q
  show ((_ : Nat) : Int) = _
  have q2 : (forIn (List.range' 0 (l.length + 1 - 0)) ((#[] : Array Nat), 0) (StrLaws.occBody (S l) (S [c]) l.length (l.length + 1))).run.fst.size = List.count c l := by
    rw [Nat.sub_zero]
    refine q.trans ?_
    simp
  rw [q2]
end Wx
namespace Wx
open PySem PySem.Spec PyProof.Rows L2
theorem fold_cat : ∀ (ls : List (List Nat)) (a : Array Nat), ((ls.map S).foldl (fun acc p => acc ++ (S []).cps ++ p.cps) a).toList = a.toList ++ ls.flatten
  | [], a => by simp
  | l :: ls, a => by
    rw [List.map_cons, List.foldl_cons, fold_cat ls]
    simp [S]
theorem join_nil (ls : List (List Nat)) : Txt.join (S []) (ls.map S) = S ls.flatten := by
  unfold Txt.join Builtin.Str.glued
  cases ls with
  | nil => rfl
  | cons l ls =>
    rw [List.map_cons]
    show (⟨((ls.map S).foldl (fun acc p => acc ++ (S []).cps ++ p.cps) (S l).cps)⟩ : Str) = S (l :: ls).flatten
    have e := fold_cat ls (S l).cps
    have e2 : (ls.map S).foldl (fun acc p => acc ++ (S []).cps ++ p.cps) (S l).cps = ((l :: ls).flatten).toArray := by
      apply Array.ext'
      rw [e]
      simp [S]
    rw [e2]
    rfl
end Wx

namespace Wx
open PySem PySem.Spec PyProof.Rows L2

/-! ### data that never changes: None, bools, ints, texts, tuples of such -/
mutual
inductive Im (H : Hp) : V → PyData → Prop
  | non : Im H .non .none
  | bl (b : Bool) : Im H (.bl b) (.bool b)
  | int (i : Int) : Im H (.int i) (.int i)
  | str (x : Str) : Im H (.str x) (.str x)
  | tup {a : Addr} {xs : List V} {ds : List PyData} : H a = some (.tup xs) → ImAll H xs ds → Im H (.ref a) (.tuple ds)
inductive ImAll (H : Hp) : List V → List PyData → Prop
  | nil : ImAll H [] []
  | cons {v : V} {vs : List V} {d : PyData} {ds : List PyData} : Im H v d → ImAll H vs ds → ImAll H (v :: vs) (d :: ds)
end
def TEx (H H' : Hp) : Prop := ∀ a xs, H a = some (.tup xs) → H' a = some (.tup xs)
theorem TEx.refl (H : Hp) : TEx H H := fun _ _ h => h
theorem TEx.trans {H H1 H2 : Hp} (a : TEx H H1) (b : TEx H1 H2) : TEx H H2 := fun x o h => b x o (a x o h)
theorem Ex.tex {H H' : Hp} (e : Ex H H') : TEx H H' := fun a xs h => e a _ h
theorem tex_new {H : Hp} {p : Addr} {o : HO} (h : H p = none) : TEx H (upd H p o) := (Ex.new h).tex
theorem tex_lst {H : Hp} {p : Addr} {o : HO} {ys : List V} (h : H p = some (.lst ys)) : TEx H (upd H p o) := fun a xs e => by
  have hne : a ≠ p := ne_of e h (fun z => by cases z)
  rw [upd_ne hne]
  exact e
theorem tex_pub {p : Addr} {H H' : Hp} {ys : List V} (h : H p = some (.lst ys)) (e : Ex (pub p H) (pub p H')) : TEx H H' := fun a xs ha => by
  have hne : a ≠ p := ne_of ha h (fun z => by cases z)
  exact pub_ex a _ (e a _ (pub_get hne ha))
mutual
theorem Im.mono {H H' : Hp} (e : TEx H H') : ∀ {v : V} {d : PyData}, Im H v d → Im H' v d
  | _, _, .non => .non
  | _, _, .bl b => .bl b
  | _, _, .int i => .int i
  | _, _, .str x => .str x
  | _, _, .tup h hs => .tup (e _ _ h) (ImAll.mono e hs)
theorem ImAll.mono {H H' : Hp} (e : TEx H H') : ∀ {vs : List V} {ds : List PyData}, ImAll H vs ds → ImAll H' vs ds
  | _, _, .nil => .nil
  | _, _, .cons h hs => .cons (Im.mono e h) (ImAll.mono e hs)
end
mutual
theorem Im.dp {K : PySem.W.Frag} {H : Hp} : ∀ {v : V} {d : PyData}, Im H v d → Dp K H v d
  | _, _, .non => .non
  | _, _, .bl b => .bl b
  | _, _, .int i => .int i
  | _, _, .str x => .str x
  | _, _, .tup h hs => .tup (st_of h) (ImAll.dp hs)
theorem ImAll.dp {K : PySem.W.Frag} {H : Hp} : ∀ {vs : List V} {ds : List PyData}, ImAll H vs ds → DpAll K H vs ds
  | _, _, .nil => .nil
  | _, _, .cons h hs => .cons (Im.dp h) (ImAll.dp hs)
end
theorem ImAll.length {H : Hp} : ∀ {vs : List V} {ds : List PyData}, ImAll H vs ds → vs.length = ds.length
  | _, _, .nil => rfl
  | _, _, .cons _ hs => by rw [List.length_cons, List.length_cons, hs.length]
theorem ImAll.get {H : Hp} : ∀ {vs : List V} {ds : List PyData} {i : Nat} {v : V}, ImAll H vs ds → vs[i]? = some v → ∃ d, ds[i]? = some d ∧ Im H v d
  | _, _, _, _, .nil, h => by simp at h
  | _, _, 0, _, .cons h _, e => by simp at e; subst e; exact ⟨_, rfl, h⟩
  | _, _, i + 1, v, .cons _ hs, e => by
    obtain ⟨d, a, b⟩ := ImAll.get (i := i) (v := v) hs (by simpa using e)
    exact ⟨d, by simpa using a, b⟩
theorem ImAll.get' {H : Hp} : ∀ {vs : List V} {ds : List PyData} {i : Nat} {d : PyData}, ImAll H vs ds → ds[i]? = some d → ∃ v, vs[i]? = some v ∧ Im H v d
  | _, _, _, _, .nil, h => by simp at h
  | _, _, 0, _, .cons h _, e => by simp at e; subst e; exact ⟨_, rfl, h⟩
  | _, _, i + 1, v, .cons _ hs, e => by
    obtain ⟨d, a, b⟩ := ImAll.get' (i := i) (d := v) hs (by simpa using e)
    exact ⟨d, by simpa using a, b⟩
theorem ImAll.app {H : Hp} : ∀ {vs ws : List V} {ds es : List PyData}, ImAll H vs ds → ImAll H ws es → ImAll H (vs ++ ws) (ds ++ es)
  | _, _, _, _, .nil, h => h
  | _, _, _, _, .cons a b, h => .cons a (ImAll.app b h)
theorem ImAll.ints {H : Hp} : ∀ (ns : List Int), ImAll H (ns.map V.int) (ns.map PyData.int)
  | [] => .nil
  | n :: ns => .cons (.int n) (ImAll.ints ns)
theorem ImAll.strs {H : Hp} : ∀ (ns : List Str), ImAll H (ns.map V.str) (ns.map PyData.str)
  | [] => .nil
  | n :: ns => .cons (.str n) (ImAll.strs ns)
theorem ImAll.strs_eq {H : Hp} : ∀ {ns : List Str} {vs : List V}, ImAll H vs (ns.map PyData.str) → vs = ns.map V.str
  | [], _, .nil => rfl
  | n :: ns, _, .cons h hs => by
    cases h
    rw [ImAll.strs_eq hs] <;> rfl
theorem ImAll.ints_eq {H : Hp} : ∀ {ns : List Int} {vs : List V}, ImAll H vs (ns.map PyData.int) → vs = ns.map V.int
  | [], _, .nil => rfl
  | n :: ns, _, .cons h hs => by
    cases h
    rw [ImAll.ints_eq hs] <;> rfl
theorem ImAll.bls_eq {H : Hp} : ∀ {ns : List Bool} {vs : List V}, ImAll H vs (ns.map PyData.bool) → vs = ns.map V.bl
  | [], _, .nil => rfl
  | n :: ns, _, .cons h hs => by
    cases h
    rw [ImAll.bls_eq hs] <;> rfl

section
variable {X : Cx} {σ : L2.St} {H : Hp} {Q : VK} {i j : Int} {pos : Pos}
/-! ### texts -/
theorem op_mulIS : OpR X (binaryOp .Mult) (fun x y H Q => ∃ (n : Int) (z : Str), x = .int n ∧ y = .str z ∧ MulOk z n ∧ Q (.str (Txt.mul z n)) H) := by
  intro pins s σ H x y v u Q I rx ry h
  obtain ⟨n, z, rfl, rfl, hok, q⟩ := h
  obtain ⟨t, rfl⟩ := rx
  obtain ⟨t', rfl⟩ := ry
  refine lm_binaryOp_repeat_right (T := "str") (U := "int") (by decide) (fun s' => typeIs_int s' n t) (typeIs_str s z t') F.fills_int_mul noFill_str_mul F.slot_int_mul lm_noRepeat_int repeat_str F.slot_int_index.lookup
    (call_gives F.slot_int_mul (typeIs_int s n t) F.entry_int_mul (F.args_int_mul_2 _ _) (AutoIntG3.int___mul___int_str_0 n t z t')
      ⟨rfl, typeIs_str s z t', call_gives F.slot_str_mul (typeIs_str s z t') F.entry_str_mul (F.args_str_mul_2 _ _) (gives_str_mul z n t' t hok.1 hok.2.1 hok.2.2) ?_⟩)
  have fin : ∀ tt k, EP X pins σ Q (.str (Txt.mul z n) tt) { s with toks := k } := fun tt k => ⟨.str (Txt.mul z n), H, I.tok k, ⟨tt, rfl⟩, q⟩
  unfold Txt.mul at fin
  by_cases h1 : n < 1
  · rw [if_pos h1]; have h' := fin s.toks (s.toks + 1); rw [if_pos h1] at h'; exact ⟨by decide, h'⟩
  · rw [if_neg h1]; refine post_val_or_made (fun hc => fits_reps (hok.2.2 h1 (by simpa using hc))) fun tt k => ?_
    have h' := fin tt k; rw [if_neg h1] at h'; exact h'
theorem op_mulSI : OpR X (binaryOp .Mult) (fun x y H Q => ∃ (n : Int) (z : Str), x = .str z ∧ y = .int n ∧ MulOk z n ∧ Q (.str (Txt.mul z n)) H) := by
  intro pins s σ H x y v u Q I rx ry h
  obtain ⟨n, z, rfl, rfl, hok, q⟩ := h
  obtain ⟨t, rfl⟩ := rx
  obtain ⟨t', rfl⟩ := ry
  exact SB.mul hok fun tt k => ⟨.str (Txt.mul z n), H, I.tok k, ⟨tt, rfl⟩, q⟩
def rep (n : Nat) (l : List Nat) : List Nat := (List.replicate n l).flatten
theorem rep_len (n : Nat) (l : List Nat) : (rep n l).length = n * l.length := by
  unfold rep
  induction n with
  | zero => simp
  | succ n ih => rw [List.replicate_succ, List.flatten_cons, List.length_append, ih, Nat.succ_mul, Nat.add_comm]
theorem foldl_rep (l : List Nat) : ∀ (n : Nat) (a : Array Nat), ((List.replicate n l.toArray).foldl (· ++ ·) a).toList = a.toList ++ rep n l
  | 0, a => by simp [rep]
  | n + 1, a => by
    rw [List.replicate_succ, List.foldl_cons, foldl_rep l n]
    simp [rep, List.replicate_succ]
theorem mul_S (l : List Nat) (n : Nat) : Txt.mul (S l) (n : Int) = S (rep n l) := by
  unfold Txt.mul
  by_cases h : (n : Int) < 1
  · rw [if_pos h]
    have : n = 0 := by omega
    subst this
    rfl
  · rw [if_neg h]
    by_cases h2 : ((n : Int) == 1 || (S l).length == 0) = true
    · rw [if_pos h2]
      rw [Bool.or_eq_true] at h2
      rcases h2 with h2 | h2
      · have : n = 1 := by have := eq_of_beq h2; omega
        subst this
        simp [rep]
      · have e : l = [] := by
          have := eq_of_beq h2
          rw [S_len] at this
          exact List.length_eq_zero_iff.mp this
        subst e
        have : rep n [] = [] := by
          unfold rep
          induction n with
          | zero => rfl
          | succ n ih => simp
        rw [this]
    · rw [if_neg h2]
      have e := foldl_rep l n #[]
      have e2 : (List.replicate (n : Int).toNat (S l).cps).foldl (· ++ ·) #[] = (rep n l).toArray := by
        apply Array.ext'
        rw [Int.toNat_natCast]
        show ((List.replicate n l.toArray).foldl (· ++ ·) #[]).toList = _
        rw [e]
        simp
      rw [e2]
      rfl
theorem mulOk {l : List Nat} {n : Nat} (h : n * l.length ≤ 1000000) (hn : n ≤ 1000000) (hl : l.length ≤ 1000000) : MulOk (S l) (n : Int) := by
  refine ⟨?_, fun h1 _ hc => ?_, fun h1 _ => ?_⟩
  · rw [Bool.or_eq_false_iff]
    exact ⟨decide_eq_false (by omega), decide_eq_false (by omega)⟩
  · rw [S_len] at hc
    have h2 : 1 ≤ n := by omega
    have h3 : (1000000 : Int) ≤ (2 ^ 63 - 1) / (n : Int) := by
      rw [Int.le_ediv_iff_mul_le (by omega)]
      omega
    omega
  · unfold Builtin.Str.tooLong
    rw [S_len, Int.toNat_natCast]
    have : l.length * n ≤ 1000000 := by rw [Nat.mul_comm]; exact h
    first
      | (simp [sizeLine]; omega)
      | (simp; omega)
theorem wo_mulSI {l : List Nat} {n : Nat} (h : n * l.length ≤ 1000000) (hn : n ≤ 1000000) (hl : l.length ≤ 1000000) (q : Q (.str (S (rep n l))) H) : WO X (binaryOp .Mult) (.str (S l)) (.int (n : Int)) H Q :=
  WO.of op_mulSI ⟨n, S l, rfl, rfl, mulOk h hn hl, by rw [mul_S]; exact q⟩
theorem wo_mulIS {l : List Nat} {n : Nat} (h : n * l.length ≤ 1000000) (hn : n ≤ 1000000) (hl : l.length ≤ 1000000) (q : Q (.str (S (rep n l))) H) : WO X (binaryOp .Mult) (.int (n : Int)) (.str (S l)) H Q :=
  WO.of op_mulIS ⟨n, S l, rfl, rfl, mulOk h hn hl, by rw [mul_S]; exact q⟩
theorem wo_addSS {a b : List Nat} (h : a.length + b.length ≤ 1000000) (q : Q (.str (S (a ++ b))) H) : WO X (binaryOp .Add) (.str (S a)) (.str (S b)) H Q :=
  wo_addS (by rw [S_len, S_len]; exact h) (by rw [S_app]; exact q)
theorem wix_S {l : List Nat} {c : Nat} {k : Nat} (h : l.length ≤ 1000000) (ha : l[k]? = some c) (q : Q (.str (S [c])) H) : WIx X (.str (S l)) (.int (k : Int)) H Q :=
  wix_s (by rw [S_len]; exact h) (by rw [S_list]; exact atI_nat ha) q
theorem wsl_S {l : List Nat} {a b : Nat} (h : l.length ≤ 1000000) (q : Q (.str (S ((l.drop a).take (b - a)))) H) (hb : a ≤ b) : WSl X (.str (S l)) (some (a : Int)) (some (b : Int)) H Q := by
  refine WSl.of sl_str ⟨S l, rfl, sz_le (by rw [S_len]; exact h), ?_⟩
  have e : cutS (S l) (some (a : Int)) (some (b : Int)) = S ((l.drop a).take (b - a)) := by
    unfold cutS
    rw [HT.sIx_nat, HT.sIx_nat, S_len, S_list]
    show S _ = S _
    congr 1
    by_cases h1 : a ≤ l.length
    · rw [Nat.min_eq_left h1]
      by_cases h2 : b ≤ l.length
      · rw [Nat.min_eq_left h2]
      · rw [Nat.min_eq_right (by omega)]
        rw [List.take_of_length_le (by rw [List.length_drop]; omega), List.take_of_length_le (by rw [List.length_drop]; omega)]
    · rw [Nat.min_eq_right (by omega), Nat.min_eq_right (by omega), List.drop_of_length_le (Nat.le_refl _), List.drop_of_length_le (by omega)]
      simp
  rw [e]
  exact q
/-- one sign between two others -/
theorem one_lt {a b : Nat} : decide ([a] < [b]) = decide (a < b) := by
  have : ([a] < [b]) ↔ a < b := by
    constructor
    · intro h
      rcases List.cons_lt_cons_iff.mp h with h | ⟨_, h⟩
      · exact h
      · exact absurd h (List.not_lt_nil _)
    · intro h
      exact List.cons_lt_cons_iff.mpr (.inl h)
  by_cases h : a < b
  · rw [decide_eq_true h, decide_eq_true (this.mpr h)]
  · rw [decide_eq_false h, decide_eq_false (fun q => h (this.mp q))]
theorem wo_leS {a b : List Nat} (q : Q (.bl (!decide (b < a))) H) : WO X (compareOp .LtE) (.str (S a)) (.str (S b)) H Q := WO.of op_le_str ⟨_, _, rfl, rfl, by rw [S_list, S_list]; exact q⟩
theorem wo_ltS {a b : List Nat} (q : Q (.bl (decide (a < b))) H) : WO X (compareOp .Lt) (.str (S a)) (.str (S b)) H Q := WO.of op_lt_str ⟨_, _, rfl, rfl, by rw [S_list, S_list]; exact q⟩
theorem wo_inS {c : Nat} {l : List Nat} (q : Q (.bl (decide (c ∈ l))) H) : WO X (compareOp .In) (.str (S [c])) (.str (S l)) H Q := WO.of op_in_sign ⟨c, S l, rfl, rfl, by rw [S_list]; exact q⟩
theorem wc_lenSS {l : List Nat} (h : l.length ≤ 1000000) (q : Q (.int (l.length : Int)) H) : WC X (.builtin "len") [.str (S l)] H Q := wc_lenS (by rw [S_len]; exact h) (by rw [S_len]; exact q)

/-! ### methods of lists and texts -/
theorem we_append {o e : Expr} {apos : Pos} (q : WE X o σ H fun x H1 => ∃ l xs, x = .ref l ∧ H1 l = some (.lst xs) ∧ WE X e σ H1 fun y H2 => ∃ ys, H2 l = some (.lst ys) ∧ ys.length < 1000000 ∧ Q .non (upd H2 l (.lst (ys ++ [y]))))
    (hbase : attributeBase o "append" X.env (eval o X.env) = eval o X.env := by rfl)
    (hfew : ((backTo pos (starEach [e] X.env)).all (fun x => !x.1) && (backToKw pos (keywordEach [] X.env)).all (fun x => x.1.isSome)
      && decide (([e] : List Expr).length + ([] : List Keyword).length + (if ([] : List Keyword).isEmpty then 0 else 1) < 30)) = true := by rfl)
    (hline : (apos.endLine == pos.line) = true := by rfl) (hs : starEach [e] X.env = (false, eval e X.env) :: starEach [] X.env := by rfl) (hplain : (backTo pos (starEach [] X.env)).any (·.1) = false := by rfl) :
    WE X (.Call (.Attribute o "append" apos) [e] [] pos) σ H Q :=
  we_bm PySem.F.plainAttrs_list PySem.F.slot_list_append PySem.F.type_list_append (WE.mono (fun x H1 ⟨l, xs, ex, hx, q⟩ => ⟨by rw [ex]; exact .inl ⟨rfl, _, sq_of hx⟩, wa_cons (WE.mono (fun y H2 ⟨ys, hy, hl, q⟩ => wa_nil (WM.of mt_append ⟨l, ys, y, ex, rfl, hy, sz_lt hl, q⟩)) q) hs⟩) q) hbase hfew hline hs hplain
theorem we_pop {o : Expr} {apos : Pos} (q : WE X o σ H fun x H1 => ∃ l xs y, x = .ref l ∧ H1 l = some (.lst xs) ∧ xs[xs.length - 1]? = some y ∧ Q y (upd H1 l (.lst xs.dropLast)))
    (hbase : attributeBase o "pop" X.env (eval o X.env) = eval o X.env := by rfl) (hline : (apos.endLine == pos.line) = true := by rfl) : WE X (.Call (.Attribute o "pop" apos) [] [] pos) σ H Q :=
  we_bm0 PySem.F.plainAttrs_list PySem.F.slot_list_pop PySem.F.type_list_pop (WE.mono (fun x H1 ⟨l, xs, y, ex, hx, hy, q⟩ => ⟨by rw [ex]; exact .inl ⟨rfl, _, sq_of hx⟩, WM.of mt_pop ⟨l, xs, y, ex, rfl, hx, hy, q⟩⟩) q) hbase hline
theorem we_count {o e : Expr} {apos : Pos} (q : WE X o σ H fun x H1 => ∃ l, x = .str (S l) ∧ WE X e σ H1 fun y H2 => ∃ c, y = .str (S [c]) ∧ Q (.int ((l.count c : Nat) : Int)) H2)
    (hbase : attributeBase o "count" X.env (eval o X.env) = eval o X.env := by rfl)
    (hfew : ((backTo pos (starEach [e] X.env)).all (fun x => !x.1) && (backToKw pos (keywordEach [] X.env)).all (fun x => x.1.isSome)
      && decide (([e] : List Expr).length + ([] : List Keyword).length + (if ([] : List Keyword).isEmpty then 0 else 1) < 30)) = true := by rfl)
    (hline : (apos.endLine == pos.line) = true := by rfl) (hs : starEach [e] X.env = (false, eval e X.env) :: starEach [] X.env := by rfl) (hplain : (backTo pos (starEach [] X.env)).any (·.1) = false := by rfl) :
    WE X (.Call (.Attribute o "count" apos) [e] [] pos) σ H Q :=
  we_bm PySem.F.plainAttrs_str PySem.F.slot_str_count PySem.F.type_str_count (WE.mono (fun x H1 ⟨l, ex, q⟩ => ⟨by rw [ex]; exact (rfl : "str" = "str"), wa_cons (WE.mono (fun y H2 ⟨c, ey, q⟩ => wa_nil (WM.of mt_count ⟨S l, S [c], ex, by rw [ey], by rw [count_sign]; exact q⟩)) q) hs⟩) q) hbase hfew hline hs hplain
theorem we_join {o e : Expr} {apos : Pos} (q : WE X o σ H fun x H1 => ∃ a, x = .str a ∧ WE X e σ H1 fun y H2 => ∃ (p : Addr) (ys : List Str), y = .ref p ∧ (SqL X.K H2 p (ys.map V.str) ∨ SqT X.K H2 p (ys.map V.str)) ∧ (ys.map (·.length)).sum + ys.length * a.length ≤ 16777216 ∧ Q (.str (Txt.join a ys)) H2)
    (hbase : attributeBase o "join" X.env (eval o X.env) = eval o X.env := by rfl)
    (hfew : ((backTo pos (starEach [e] X.env)).all (fun x => !x.1) && (backToKw pos (keywordEach [] X.env)).all (fun x => x.1.isSome)
      && decide (([e] : List Expr).length + ([] : List Keyword).length + (if ([] : List Keyword).isEmpty then 0 else 1) < 30)) = true := by rfl)
    (hline : (apos.endLine == pos.line) = true := by rfl) (hs : starEach [e] X.env = (false, eval e X.env) :: starEach [] X.env := by rfl) (hplain : (backTo pos (starEach [] X.env)).any (·.1) = false := by rfl) :
    WE X (.Call (.Attribute o "join" apos) [e] [] pos) σ H Q :=
  we_bm PySem.F.plainAttrs_str PySem.F.slot_str_join PySem.F.type_str_join (WE.mono (fun x H1 ⟨a, ex, q⟩ => ⟨by rw [ex]; exact (rfl : "str" = "str"), wa_cons (WE.mono (fun y H2 ⟨p, ys, ey, hp, hz, q⟩ => wa_nil (WM.of mt_join ⟨a, p, ys, ex, by rw [ey], hp, hz, q⟩)) q) hs⟩) q) hbase hfew hline hs hplain

/-! ### tuple(..), isinstance -/
theorem boot_tuple : bootBuiltins "tuple" = some (.type "tuple") := by decide +kernel
theorem boot_str : bootBuiltins "str" = some (.type "str") := by decide +kernel
theorem boot_list : bootBuiltins "list" = some (.type "list") := by decide +kernel
theorem boot_bool : bootBuiltins "bool" = some (.type "bool") := by decide +kernel
theorem boot_isinstance : bootBuiltins "isinstance" = some (.builtin "isinstance") := by decide +kernel
theorem we_tupleT {p : Pos} {e es} (hm : X.mg "tuple" = none) (q : WA X (e :: es) σ H fun xs H1 => WC X (.type "tuple") xs H1 Q) (hg : Gl X "tuple" := by rfl)
    (he : starEach (e :: es) X.env = (false, eval e X.env) :: starEach es X.env := by rfl) (hpl : (backTo pos (starEach es X.env)).any (·.1) = false := by rfl) : WE X (.Call (.Name "tuple" p) (e :: es) [] pos) σ H Q := we_callTy hg hm boot_tuple q (by decide) (by decide) he hpl
theorem wc_tupleL {a : Addr} {xs : List V} (h : SqL X.K H a xs) (q : ∀ l, H l = none → Q (.ref l) (upd H l (.tup xs))) : WC X (.type "tuple") [.ref a] H Q := WC.of call_tuple_of ⟨a, xs, rfl, .inl ⟨h, q⟩⟩
theorem wc_tupleT {a : Addr} {xs : List V} (h : SqT X.K H a xs) (q : Q (.ref a) H) : WC X (.type "tuple") [.ref a] H Q := WC.of call_tuple_of ⟨a, xs, rfl, .inr ⟨h, q⟩⟩
theorem we_isi {p : Pos} {e es} (hm : X.mg "isinstance" = none) (q : WA X (e :: es) σ H fun xs H1 => WC X (.builtin "isinstance") xs H1 Q) (hg : Gl X "isinstance" := by rfl)
    (he : starEach (e :: es) X.env = (false, eval e X.env) :: starEach es X.env := by rfl) (hpl : (backTo pos (starEach es X.env)).any (·.1) = false := by rfl) : WE X (.Call (.Name "isinstance" p) (e :: es) [] pos) σ H Q := we_callB hg hm boot_isinstance q (by decide) (by decide) he hpl
theorem we_tyStr (hm : X.mg "str" = none) (q : Q (.ty "str") H) (hg : Gl X "str" := by rfl) : WE X (.Name "str" pos) σ H Q := WE.of (pe_bltn (v := .ty "str") hg hm boot_str rfl) q
theorem we_tyInt (hm : X.mg "int" = none) (q : Q (.ty "int") H) (hg : Gl X "int" := by rfl) : WE X (.Name "int" pos) σ H Q := WE.of (pe_bltn (v := .ty "int") hg hm boot_int rfl) q
theorem we_tyBool (hm : X.mg "bool" = none) (q : Q (.ty "bool") H) (hg : Gl X "bool" := by rfl) : WE X (.Name "bool" pos) σ H Q := WE.of (pe_bltn (v := .ty "bool") hg hm boot_bool rfl) q
theorem we_tyList (hm : X.mg "list" = none) (q : Q (.ty "list") H) (hg : Gl X "list" := by rfl) : WE X (.Name "list" pos) σ H Q := WE.of (pe_bltn (v := .ty "list") hg hm boot_list rfl) q
theorem we_tyTuple (hm : X.mg "tuple" = none) (q : Q (.ty "tuple") H) (hg : Gl X "tuple" := by rfl) : WE X (.Name "tuple" pos) σ H Q := WE.of (pe_bltn (v := .ty "tuple") hg hm boot_tuple rfl) q
theorem kb_str_str : kitB "str" "str" = some true := by decide +kernel
theorem kb_tuple_str : kitB "tuple" "str" = some false := by decide +kernel
theorem kb_list_str : kitB "list" "str" = some false := by decide +kernel
theorem kb_int_str : kitB "int" "str" = some false := by decide +kernel
theorem kb_non_str : kitB "NoneType" "str" = some false := by decide +kernel
theorem kb_int_int : kitB "int" "int" = some true := by decide +kernel
theorem kb_int_bool : kitB "int" "bool" = some false := by decide +kernel
theorem wc_isi {x : V} {t T : String} {b : Bool} (ty : TyX X.K H x (.type t)) (k : kitB t T = some b) (q : Q (.bl b) H) : WC X (.builtin "isinstance") [x, .ty T] H Q := WC.of call_isi ⟨x, .ty T, .type t, .type T, b, rfl, .ty T, ty, kit_ty k, q⟩
theorem wc_isi_str {z : Str} (q : Q (.bl true) H) : WC X (.builtin "isinstance") [.str z, .ty "str"] H Q := wc_isi (.base (.str z)) kb_str_str q
theorem wc_isi_tup {a : Addr} {xs : List V} (h : H a = some (.tup xs)) (q : Q (.bl false) H) : WC X (.builtin "isinstance") [.ref a, .ty "str"] H Q := wc_isi (.base (.tup h)) kb_tuple_str q
theorem wc_isi_int {i : Int} (q : Q (.bl true) H) : WC X (.builtin "isinstance") [.int i, .ty "int"] H Q := wc_isi (.base (.int i)) kb_int_int q
theorem wc_isi_intB {i : Int} (q : Q (.bl false) H) : WC X (.builtin "isinstance") [.int i, .ty "bool"] H Q := wc_isi (.base (.int i)) kb_int_bool q

/-! ### a loop over a text -/
variable {D : Ends}
theorem ws_forS {nx : L2.St → Hp → Prop} {rt : VK} {bk ct : L2.St → Hp → Prop} {tg iter body} (hp : PassesOwn (model X.prog X.w) X.A X.env X.xe) (hc : X.calm = true) (q : WE X iter σ H fun x H1 => ∃ l : List Nat, x = .str (S l) ∧ ∃ Pv : Nat → L2.St → Hp → Prop, Pv 0 σ H1 ∧
      (∀ i c σ H, l[i]? = some c → Pv i σ H → WG X tg (.str (S [c])) σ H fun σ2 H2 => WSs X body ⟨Pv (i + 1), rt, nx, Pv (i + 1)⟩ σ2 H2) ∧ ∀ σ H, Pv l.length σ H → nx σ H)
    (hs : ∀ x, foldedSetIterable iter X.env x = pure x := by intro _; rfl) : WS X (.For tg iter body [] pos) ⟨nx, rt, bk, ct⟩ σ H := by
  refine WS.of (ps_for hp hc (pi_str pe_w) pg_w pss_w hs) (WE.mono (fun x H1 hq => ?_) q)
  obtain ⟨l, e, Pv, h0, ht, hd⟩ := hq
  refine ⟨S l, e, fun i m σ H => i + m = l.length ∧ Pv i σ H, ⟨l.length, by omega, h0⟩, fun i m σ2 H2 hW => ?_⟩
  obtain ⟨em, hP⟩ := hW
  by_cases hi : i < l.length
  · refine .inr ⟨by show i < (S l).cps.size; simpa [S] using hi, Pv (i + 1), fun σ' H' hN => ⟨m - 1, by omega, by omega, hN⟩, fun v H' hy => ?_⟩
    obtain ⟨rfl, c, hc2, rfl⟩ := hy
    exact ht i c σ2 H' (by simpa [S] using hc2) hP
  · refine .inl ⟨by show (S l).cps.size ≤ i; simp [S]; omega, hd σ2 H2 ?_⟩
    have : i = l.length := by omega
    rw [← this]
    exact hP
end

/-! ### comprehensions -/
section
variable {X : Cx} {σ : L2.St} {H : Hp} {Q : VK} {pos : Pos}
/-- the block of a comprehension -/
abbrev Bk (X : Cx) (scope : Scope) (s : Shared) (H0 : Hp) (C : Addr) (cl : List (Str × Addr)) (fp : List Addr) : Cx := X.blk s H0 scope (compEnvC scope cl C X.env) fp
def gB (X : Cx) (scope : Scope) (tg : Expr) : TG := fun v σ H Q => ∀ s H0 C cl fp, WG (Bk X scope s H0 C cl fp) tg v σ H Q
def tB' (X : Cx) (scope : Scope) (c : Expr) : TT := fun σ H Q => ∀ s H0 C cl fp, WT (Bk X scope s H0 C cl fp) c σ H Q
def eB (X : Cx) (scope : Scope) (e : Expr) : TE := fun σ H Q => ∀ s H0 C cl fp, WE (Bk X scope s H0 C cl fp) e σ H Q
def nofold (iter : Expr) (env : Env) : Prop := ∀ x, foldedSetIterable iter env x = pure x
/-- [elt for tg in iter], iter a list -/
theorem pe_lcB {elt tg iter : Expr} {scope : Scope} {own : List (Str × Nat)} {wi : TI} (hc : X.calm = true) (hN : X.N.Nodup) (hi : PI X tg iter wi) (ok : BlkOk X.N X.env.scope scope own) (hs : nofold iter X.env) :
    PE X (.ListComp elt [⟨tg, iter, [], 0⟩] scope pos) (tLc wi (gB X scope tg) tYes (eB X scope elt) (own.map (·.2))) :=
  pe_lc hc hN hi ok (fun s H0 C cl fp => ⟨fun pins s' σ H v u Q I r h => pg_w.run pins s' σ H v u Q I r (h s H0 C cl fp)⟩) (fun _ _ _ _ _ => pts_nil) (fun s H0 C cl fp => ⟨fun pins s' σ H Q I h => pe_w.run pins s' σ H Q I (h s H0 C cl fp)⟩) hs
theorem pe_lcBi {elt tg iter c : Expr} {scope : Scope} {own : List (Str × Nat)} {wi : TI} (hc : X.calm = true) (hN : X.N.Nodup) (hi : PI X tg iter wi) (ok : BlkOk X.N X.env.scope scope own) (hs : nofold iter X.env) :
    PE X (.ListComp elt [⟨tg, iter, [c], 0⟩] scope pos) (tLc wi (gB X scope tg) (tB' X scope c) (eB X scope elt) (own.map (·.2))) :=
  pe_lc hc hN hi ok (fun s H0 C cl fp => ⟨fun pins s' σ H v u Q I r h => pg_w.run pins s' σ H v u Q I r (h s H0 C cl fp)⟩) (fun s H0 C cl fp => pts_one ⟨fun pins s' σ H Q I h => pt_w.run pins s' σ H Q I (h s H0 C cl fp)⟩) (fun s H0 C cl fp => ⟨fun pins s' σ H Q I h => pe_w.run pins s' σ H Q I (h s H0 C cl fp)⟩) hs
/-- what a turn of a comprehension does: H2 the heap ahead, the item x, the result y at index i -/
def Turn1 (X : Cx) (scope : Scope) (tg elt : Expr) (vs : List Nat) (σ : L2.St) (R : V → Hp → Prop) (x : V) (H2 : Hp) : Prop :=
  gB X scope tg x (wipe σ vs) H2 fun σ2 H3 => wipe σ2 vs = wipe σ vs ∧ eB X scope elt σ2 H3 R
/-- .. M: what may change in a turn; I: what holds between the turns; E i y H: what is known of the i-th result -/
theorem lc_turns {J : It} {n : Nat} {G : Hp → Prop} {Y : Nat → Hp → V → Hp → Prop} {M : Addr → Prop} {I : Nat → Hp → Prop} {E : Nat → V → Hp → Prop} {g : TG} {te : TE} {vs : List Nat} {H1 : Hp} {D : Addr} {Qd : Hp → Prop}
    (w : ∀ i H, i < n → G H → J.go i H) (w2 : ∀ H, G H → J.stop n H) (w3 : ∀ i H x H', i < n → G H → J.yld i H x H' → Y i H x H') (hn : n ≤ 1000000)
    (hM : ∀ a, M a → H1 a ≠ none) (hD : H1 D = none)
    (hG : ∀ i H, I i H → G H) (I0 : I 0 H1) (Is : ∀ i H o, I i H → I i (upd H D o)) (Es : ∀ i v H H' , E i v H → TEx H H' → E i v H')
    (hs : ∀ i x H2 H2', i < n → I i H2 → Y i H2 x H2' → g x (wipe σ vs) H2' fun σ2 H3 => wipe σ2 vs = wipe σ vs ∧ te σ2 H3 fun y H4 => I (i + 1) H4 ∧ E i y H4 ∧ TEx H2 H4 ∧ ∀ a o, ¬ M a → H2 a = some o → H4 a = some o)
    (hd : ∀ ys H2, I n H2 → H2 D = some (.lst ys) → ys.length = n → (∀ i y, ys[i]? = some y → E i y H2) → (∀ a o, ¬ M a → H1 a = some o → H2 a = some o) → Qd H2)
    (mono : ∀ v σ H Q Q', (∀ σ2 H3, Q σ2 H3 → Q' σ2 H3) → g v σ H Q → g v σ H Q') (mono2 : ∀ σ H Q Q', (∀ v H3, Q v H3 → Q' v H3) → te σ H Q → te σ H Q') :
    ∃ W : Nat → Nat → Hp → Prop, (∃ m, W 0 m (upd H1 D (.lst []))) ∧ ∀ i m H, W i m H →
      (J.stop i H ∧ Qd H) ∨ (J.go i H ∧ ∃ Nx : Hp → Prop, (∀ H', Nx H' → ∃ m', m' < m ∧ W (i + 1) m' H') ∧ ∀ x H', J.yld i H x H' → g x (wipe σ vs) H' fun σ2 H2 => wipe σ2 vs = wipe σ vs ∧ tYes σ2 H2 fun b H3 =>
        if b = true then te σ2 H3 fun y H4 => ∃ acc, H4 D = some (.lst acc) ∧ acc.length < sizeLine ∧ Nx (upd H4 D (.lst (acc ++ [y]))) else Nx H3) := by
  have nMD : ¬ M D := fun h => hM D h hD
  refine ⟨fun i m H2 => i + m = n ∧ I i H2 ∧ ∃ ys, H2 D = some (.lst ys) ∧ ys.length = i ∧ (∀ j y, ys[j]? = some y → E j y H2) ∧ (∀ a o, ¬ M a → H1 a = some o → H2 a = some o), ⟨n, by omega, Is _ _ _ I0, [], upd_same, rfl, fun j y h => by simp at h, fun a o _ h => (Ex.new hD) a o h⟩, fun i m H2 hW => ?_⟩
  obtain ⟨em, hI, ys, hys, hl, hE, hX⟩ := hW
  by_cases hi : i < n
  · refine .inr ⟨w i H2 hi (hG i H2 hI), fun H' => I (i + 1) H' ∧ ∃ ys, H' D = some (.lst ys) ∧ ys.length = i + 1 ∧ (∀ j y, ys[j]? = some y → E j y H') ∧ (∀ a o, ¬ M a → H1 a = some o → H' a = some o), fun H' hN => ⟨m - 1, by omega, by omega, hN⟩, fun x H' hy => ?_⟩
    refine mono _ _ _ _ _ (fun σ2 H3 hq => ?_) (hs i x H2 H' hi hI (w3 i H2 x H' hi (hG i H2 hI) hy))
    refine ⟨hq.1, ?_⟩
    unfold tYes
    dsimp only
    rw [if_pos rfl]
    refine mono2 _ _ _ _ (fun y H4 hq => ?_) hq.2
    obtain ⟨hI2, hE2, hT, hK⟩ := hq
    have h4 := hK D _ nMD hys
    refine ⟨ys, h4, sz_lt (by omega), Is _ _ _ hI2, ys ++ [y], upd_same, by rw [List.length_append, hl]; rfl, fun j z hz => ?_, fun a o ha h => ?_⟩
    · have hT2 : TEx H4 (upd H4 D (.lst (ys ++ [y]))) := tex_lst h4
      by_cases hj : j < ys.length
      · rw [List.getElem?_append_left hj] at hz
        exact Es _ _ _ _ (hE j z hz) (hT.trans hT2)
      · have hj2 : j = ys.length := by
          by_cases hj3 : j = ys.length
          · exact hj3
          · rw [List.getElem?_eq_none (by rw [List.length_append]; simp; omega)] at hz
            cases hz
        subst hj2
        rw [List.getElem?_append_right (Nat.le_refl _), Nat.sub_self] at hz
        cases hz
        rw [hl]
        exact Es _ _ _ _ hE2 hT2
    · rw [upd_ne (ne_of_none h hD)]
      exact hK a o ha (hX a o ha h)
  · have e : i = n := by omega
    subst e
    exact .inl ⟨w2 H2 (hG i H2 hI), hd ys H2 hI hys hl hE hX⟩
theorem gB_mono {scope : Scope} {tg : Expr} (v : V) (σ : L2.St) (H : Hp) (Q Q' : L2.St → Hp → Prop) (h : ∀ σ2 H3, Q σ2 H3 → Q' σ2 H3) (q : gB X scope tg v σ H Q) : gB X scope tg v σ H Q' := fun s H0 C cl fp => by
  have := q s H0 C cl fp
  unfold WG at this ⊢
  exact fun pins s' u I r => thn (this pins s' u I r) fun _ _ ⟨σ', H', I', z⟩ => ⟨σ', H', I', h _ _ z⟩
theorem eB_mono {scope : Scope} {e : Expr} (σ : L2.St) (H : Hp) (Q Q' : VK) (h : ∀ v H3, Q v H3 → Q' v H3) (q : eB X scope e σ H Q) : eB X scope e σ H Q' := fun s H0 C cl fp => WE.mono h (q s H0 C cl fp)
/-- [elt for tg in iter] over a list -/
theorem we_lcL {elt tg iter : Expr} {scope : Scope} {own : List (Str × Nat)} (ok : BlkOk X.N X.env.scope scope own) (hN : X.N.Nodup) (hc : X.calm = true) (q : WE X iter σ H fun x H1 => ∃ a xs, x = .ref a ∧ SqL X.K H1 a xs ∧ xs.length ≤ 1000000 ∧
      ∃ (M : Addr → Prop) (I : Nat → Hp → Prop) (E : Nat → V → Hp → Prop), (∀ a, M a → H1 a ≠ none) ∧ I 0 H1 ∧ (∀ i H, I i H → SqL X.K H a xs) ∧ (∀ i H D o, H1 D = none → I i H → I i (upd H D o)) ∧ (∀ i v H H', E i v H → TEx H H' → E i v H') ∧
        (∀ i x H2, xs[i]? = some x → I i H2 → gB X scope tg x (wipe σ (own.map (·.2))) H2 fun σ2 H3 => wipe σ2 (own.map (·.2)) = wipe σ (own.map (·.2)) ∧ eB X scope elt σ2 H3 fun y H4 => I (i + 1) H4 ∧ E i y H4 ∧ TEx H2 H4 ∧ ∀ a o, ¬ M a → H2 a = some o → H4 a = some o) ∧
        ∀ D ys H2, H1 D = none → I xs.length H2 → H2 D = some (.lst ys) → ys.length = xs.length → (∀ i y, ys[i]? = some y → E i y H2) → (∀ a o, ¬ M a → H1 a = some o → H2 a = some o) → Q (.ref D) H2)
    (hs : nofold iter X.env := by intro _; rfl) : WE X (.ListComp elt [⟨tg, iter, [], 0⟩] scope pos) σ H Q := by
  refine WE.of (pe_lcB hc hN (pi_list pe_w) ok hs) (WE.mono (fun x H1 hq => ?_) q)
  obtain ⟨a, xs, e, hx, hl, M, I, E, hM, I0, hG, Is, Es, ht, hd⟩ := hq
  refine ⟨a, e, ⟨xs, hx⟩, fun D hD => ?_⟩
  refine lc_turns (n := xs.length) (G := fun H => SqL X.K H a xs) (Y := fun i H x H' => H' = H ∧ xs[i]? = some x) (M := M) (I := I) (E := E) (fun i H hi h => ⟨xs, xs[i], h, List.getElem?_eq_getElem hi⟩) (fun H h => ⟨xs, h, Nat.le_refl _⟩) (fun i H x H' _ h hy => ⟨hy.1, hy.2 xs h⟩) hl hM hD hG I0 (fun i H o => Is i H D o hD) Es
    (fun i x H2 H2' _ hI hy => ?_) (fun ys H2 h1 h2 h3 h4 h5 => hd D ys H2 hD h1 h2 h3 h4 h5) gB_mono eB_mono
  obtain ⟨rfl, hy⟩ := hy
  exact ht i x H2' hy hI
/-- .. over a tuple -/
theorem we_lcT {elt tg iter : Expr} {scope : Scope} {own : List (Str × Nat)} (ok : BlkOk X.N X.env.scope scope own) (hN : X.N.Nodup) (hc : X.calm = true) (q : WE X iter σ H fun x H1 => ∃ a xs, x = .ref a ∧ SqT X.K H1 a xs ∧ xs.length ≤ 1000000 ∧
      ∃ (M : Addr → Prop) (I : Nat → Hp → Prop) (E : Nat → V → Hp → Prop), (∀ a, M a → H1 a ≠ none) ∧ I 0 H1 ∧ (∀ i H, I i H → SqT X.K H a xs) ∧ (∀ i H D o, H1 D = none → I i H → I i (upd H D o)) ∧ (∀ i v H H', E i v H → TEx H H' → E i v H') ∧
        (∀ i x H2, xs[i]? = some x → I i H2 → gB X scope tg x (wipe σ (own.map (·.2))) H2 fun σ2 H3 => wipe σ2 (own.map (·.2)) = wipe σ (own.map (·.2)) ∧ eB X scope elt σ2 H3 fun y H4 => I (i + 1) H4 ∧ E i y H4 ∧ TEx H2 H4 ∧ ∀ a o, ¬ M a → H2 a = some o → H4 a = some o) ∧
        ∀ D ys H2, H1 D = none → I xs.length H2 → H2 D = some (.lst ys) → ys.length = xs.length → (∀ i y, ys[i]? = some y → E i y H2) → (∀ a o, ¬ M a → H1 a = some o → H2 a = some o) → Q (.ref D) H2)
    (hs : nofold iter X.env := by intro _; rfl) : WE X (.ListComp elt [⟨tg, iter, [], 0⟩] scope pos) σ H Q := by
  refine WE.of (pe_lcB hc hN (pi_tup pe_w) ok hs) (WE.mono (fun x H1 hq => ?_) q)
  obtain ⟨a, xs, e, hx, hl, M, I, E, hM, I0, hG, Is, Es, ht, hd⟩ := hq
  refine ⟨a, e, ⟨xs, hx⟩, fun D hD => ?_⟩
  refine lc_turns (n := xs.length) (G := fun H => SqT X.K H a xs) (Y := fun i H x H' => H' = H ∧ xs[i]? = some x) (M := M) (I := I) (E := E) (fun i H hi h => ⟨xs, xs[i], h, List.getElem?_eq_getElem hi⟩) (fun H h => ⟨xs, h, Nat.le_refl _⟩) (fun i H x H' _ h hy => ⟨hy.1, hy.2 xs h⟩) hl hM hD hG I0 (fun i H o => Is i H D o hD) Es
    (fun i x H2 H2' _ hI hy => ?_) (fun ys H2 h1 h2 h3 h4 h5 => hd D ys H2 hD h1 h2 h3 h4 h5) gB_mono eB_mono
  obtain ⟨rfl, hy⟩ := hy
  exact ht i x H2' hy hI
/-- .. over range(n) -/
theorem we_lcR {elt tg e : Expr} {p p' : Pos} {scope : Scope} {own : List (Str × Nat)} (ok : BlkOk X.N X.env.scope scope own) (hN : X.N.Nodup) (hc : X.calm = true) (hm : X.mg "range" = none) (q : WE X e σ H fun x H1 => ∃ n : Nat, x = .int n ∧ n ≤ 1000000 ∧
      ∃ (M : Addr → Prop) (I : Nat → Hp → Prop) (E : Nat → V → Hp → Prop), (∀ a, M a → H1 a ≠ none) ∧ I 0 H1 ∧ (∀ i H D o, H1 D = none → I i H → I i (upd H D o)) ∧ (∀ i v H H', E i v H → TEx H H' → E i v H') ∧
        (∀ i H2, i < n → I i H2 → gB X scope tg (.int (i : Nat)) (wipe σ (own.map (·.2))) H2 fun σ2 H3 => wipe σ2 (own.map (·.2)) = wipe σ (own.map (·.2)) ∧ eB X scope elt σ2 H3 fun y H4 => I (i + 1) H4 ∧ E i y H4 ∧ TEx H2 H4 ∧ ∀ a o, ¬ M a → H2 a = some o → H4 a = some o) ∧
        ∀ D ys H2, H1 D = none → I n H2 → H2 D = some (.lst ys) → ys.length = n → (∀ i y, ys[i]? = some y → E i y H2) → (∀ a o, ¬ M a → H1 a = some o → H2 a = some o) → Q (.ref D) H2)
    (hg : Gl X "range" := by rfl) (hse : starEach [e] X.env = [(false, eval e X.env)] := by rfl) (hs : nofold (.Call (.Name "range" p) [e] [] p') X.env := by intro _; rfl) : WE X (.ListComp elt [⟨tg, .Call (.Name "range" p) [e] [] p', [], 0⟩] scope pos) σ H Q := by
  refine WE.of (pe_lcB hc hN (pi_range1 hg hm (pa_cons pe_w pa_nil hse) hse) ok hs) (WE.mono (fun x H1 hq => ?_) q)
  obtain ⟨n, e, hl, M, I, E, hM, I0, Is, Es, ht, hd⟩ := hq
  refine ⟨n, by rw [e], by omega, by omega, fun D hD => ?_⟩
  rw [Int.toNat_natCast]
  refine lc_turns (n := n) (G := fun _ => True) (Y := fun i H x H' => H' = H ∧ x = .int (i : Nat)) (M := M) (I := I) (E := E) (fun i H hi h => hi) (fun H h => Nat.le_refl _) (fun i H x H' _ h hy => ⟨hy.1, by rw [hy.2]; congr 1; omega⟩) hl hM hD (fun _ _ _ => True.intro) I0 (fun i H o => Is i H D o hD) Es
    (fun i x H2 H2' hi hI hy => ?_) (fun ys H2 h1 h2 h3 h4 h5 => hd D ys H2 hD h1 h2 h3 h4 h5) gB_mono eB_mono
  obtain ⟨rfl, rfl⟩ := hy
  exact ht i H2' hi hI
end
end Wx
namespace Wx
open PySem PySem.Spec PyProof.Rows L2
section
variable {X : Cx} {σ : L2.St} {H : Hp} {Q : VK} {pos : Pos}
theorem we_strE {x : Str} {l : List Nat} {j} (h : x = S l) (q : Q (.str (S l)) H) : WE X (.Constant (.str x) j pos) σ H Q := we_str (h ▸ q)
theorem wo_eqSS {a b : List Nat} (q : Q (.bl (decide (a = b))) H) : WO X (compareOp .Eq) (.str (S a)) (.str (S b)) H Q := wo_eqS (by rw [S_dec]; exact q)
theorem wo_neSS {a b : List Nat} (q : Q (.bl (!decide (a = b))) H) : WO X (compareOp .NotEq) (.str (S a)) (.str (S b)) H Q := wo_neS (by rw [S_dec]; exact q)
theorem wo_le1 {a b : Nat} (q : Q (.bl (decide (a ≤ b))) H) : WO X (compareOp .LtE) (.str (S [a])) (.str (S [b])) H Q := wo_leS (by
  rw [one_lt]
  have e : (!decide (b < a)) = decide (a ≤ b) := by
    by_cases h : b < a
    · rw [decide_eq_true h, decide_eq_false (by omega)]; rfl
    · rw [decide_eq_false h, decide_eq_true (by omega)]; rfl
  rw [e]; exact q)
end
end Wx
namespace Wx
open PySem PySem.Spec PyProof.Rows L2
section
variable {X : Cx} {σ : L2.St} {H : Hp} {pos : Pos} {Q : L2.St → Hp → Prop}
@[irreducible] def WGs (X : Cx) (ts : List Expr) : TGs := fun vs σ H Q => ∀ pins s us, Inv X pins σ H s → Vals vs us → wpAny (model X.prog X.w) X.A (assignInOrder ((assignEach ts X.env).map (·.2)) us) (fun _ s' => ∃ σ' H', Inv X pins σ' H' s' ∧ Q σ' H') X.xe s
theorem pgs_w {ts} : PGs X ts (WGs X ts) := by
  unfold WGs; exact ⟨fun pins s _ _ _ us _ I r h => h pins s us I r⟩
theorem WGs.of {ts t vs} (h : PGs X ts t) (q : t vs σ H Q) : WGs X ts vs σ H Q := by
  unfold WGs; exact fun pins s us I r => h.run pins s σ H vs us Q I r q
theorem wgs_nil (q : Q σ H) : WGs X [] [] σ H Q := WGs.of pgs_nil ⟨rfl, q⟩
theorem wgs_cons {e es v vs} (q : WG X e v σ H fun σ' H' => WGs X es vs σ' H' Q) (hs : (assignEach (e :: es) X.env).map (·.2) = assign e X.env :: (assignEach es X.env).map (·.2) := by rfl) : WGs X (e :: es) (v :: vs) σ H Q := WGs.of (pgs_cons pg_w pgs_w hs) ⟨v, vs, rfl, q⟩
theorem wg_tup {es k a xs n} (hc : X.calm = true) (h : SqT X.K H a xs) (hl : xs.length = n) (q : WGs X es xs σ H Q) (hn : (assignEach es X.env).length = n := by rfl) (hst : (assignEach es X.env).findIdx? (·.1) = none := by rfl) : WG X (.Tuple es k pos) (.ref a) σ H Q :=
  WG.of (pg_tup hc pgs_w hn hst) ⟨a, xs, rfl, h, hl, q⟩
end
end Wx
namespace Wx
theorem iteN0 {A B : Prop} (h : B) : if (!true) = true then A else B := by
  rw [if_neg (by decide)]
  exact h
theorem iteN1 {A B : Prop} (h : A) : if (!false) = true then A else B := by
  rw [if_pos (by decide)]
  exact h
theorem iteNN {c : Prop} [Decidable c] {A B : Prop} (h1 : c → B) (h2 : ¬ c → A) : if (!decide c) = true then A else B := by
  by_cases h : c
  · rw [decide_eq_true h]; exact iteN0 (h1 h)
  · rw [decide_eq_false h]; exact iteN1 (h2 h)
theorem iteDD {c : Prop} [Decidable c] {A B : Prop} (h1 : c → A) (h2 : ¬ c → B) : if (decide c) = true then A else B := by
  by_cases h : c
  · rw [decide_eq_true h]; exact L2.iteT (h1 h)
  · rw [decide_eq_false h]; exact L2.iteF (h2 h)
end Wx
namespace Wx
open L2
theorem atI_0 {α : Type} {a : α} {xs : List α} : atI (a :: xs) 0 = some a := atI_nat (j := 0) rfl
theorem atI_1 {α : Type} {a b : α} {xs : List α} : atI (a :: b :: xs) 1 = some b := atI_nat (j := 1) rfl
theorem atI_2 {α : Type} {a b c : α} {xs : List α} : atI (a :: b :: c :: xs) 2 = some c := atI_nat (j := 2) rfl
theorem atI_3 {α : Type} {a b c d : α} {xs : List α} : atI (a :: b :: c :: d :: xs) 3 = some d := atI_nat (j := 3) rfl
theorem ixN_0 {α : Type} {a : α} {xs : List α} : ixN (a :: xs).length 0 = some 0 := by
  unfold ixN
  rw [if_pos (by decide), if_pos (by rw [List.length_cons]; omega)]
  rfl
theorem ixN_1 {α : Type} {a b : α} {xs : List α} : ixN (a :: b :: xs).length 1 = some 1 := by
  unfold ixN
  rw [if_pos (by decide), if_pos (by rw [List.length_cons, List.length_cons]; omega)]
  rfl
theorem ixN_2 {α : Type} {a b c : α} {xs : List α} : ixN (a :: b :: c :: xs).length 2 = some 2 := by
  unfold ixN
  rw [if_pos (by decide), if_pos (by rw [List.length_cons, List.length_cons, List.length_cons]; omega)]
  rfl
end Wx
namespace Wx
open PySem L2
theorem wset_0 {X : Cx} {H : Hp} {p : Addr} {a v : V} {xs : List V} {Q : Hp → Prop} (h : H p = some (.lst (a :: xs))) (q : Q (upd H p (.lst (v :: xs)))) : WSet X (.ref p) (.int 0) v H Q := wset_l h ixN_0 q
theorem wset_1 {X : Cx} {H : Hp} {p : Addr} {a b v : V} {xs : List V} {Q : Hp → Prop} (h : H p = some (.lst (a :: b :: xs))) (q : Q (upd H p (.lst (a :: v :: xs)))) : WSet X (.ref p) (.int 1) v H Q := wset_l h ixN_1 q
theorem wset_2 {X : Cx} {H : Hp} {p : Addr} {a b c v : V} {xs : List V} {Q : Hp → Prop} (h : H p = some (.lst (a :: b :: c :: xs))) (q : Q (upd H p (.lst (a :: b :: v :: xs)))) : WSet X (.ref p) (.int 2) v H Q := wset_l h ixN_2 q
end Wx
namespace Wx
open PySem PySem.Spec PyProof.Rows L2
section
variable {X : Cx} {σ : L2.St} {H : Hp} {Q : VK}
theorem wo_neDp {x y : V} {d e : PyData} (hu : X.A.units + 64 < cLine) (hx : Dp X.K H x d) (hy : Dp X.K H y e) (sd : SeqAt.shaped d = true) (se : SeqAt.shaped e = true) (q : Q (.bl (!PyData.eqv d e)) H) : WO X (compareOp .NotEq) x y H Q := WO.of (op_neD hu) ⟨d, e, hx, hy, sd, se, q⟩
theorem wo_eqDp {x y : V} {d e : PyData} (hu : X.A.units + 64 < cLine) (hx : Dp X.K H x d) (hy : Dp X.K H y e) (sd : SeqAt.shaped d = true) (se : SeqAt.shaped e = true) (q : Q (.bl (PyData.eqv d e)) H) : WO X (compareOp .Eq) x y H Q := WO.of (op_eqD hu) ⟨d, e, hx, hy, sd, se, q⟩
end
end Wx
namespace Wx
open PySem L2
theorem ne_new {H : Hp} {a b : Addr} {o : HO} (h' : H b = none) (h : H a = some o) : a ≠ b := ne_of_none h h'
end Wx

/-! expressions as trees: letters and starred parts -/
namespace Wx
open PySem PySem.Spec PyProof.Rows L2
inductive Tr where
  | nil
  | ch (c : Nat) (r : Tr)
  | st (i r : Tr)
  deriving DecidableEq
namespace Tr
def text : Tr → List Nat
  | nil => []
  | ch c r => c :: text r
  | st i r => 40 :: (text i ++ 41 :: 42 :: text r)
def row (n : Nat) : Tr → List Nat
  | nil => []
  | ch c r => c :: row n r
  | st i r => rep n (row n i) ++ row n r
def app : Tr → Tr → Tr
  | nil, e => e
  | ch c r, e => ch c (app r e)
  | st i r, e => st i (app r e)
def ok : Tr → Prop
  | nil => True
  | ch c r => 97 ≤ c ∧ c ≤ 122 ∧ ok r
  | st i r => i ≠ nil ∧ ok i ∧ ok r
def depth : Tr → Nat
  | nil => 0
  | ch _ r => depth r
  | st i r => max (depth i + 1) (depth r)
/-- how many parts -/
def len : Tr → Nat
  | nil => 0
  | ch _ r => len r + 1
  | st _ r => len r + 1
theorem app_nil : ∀ e : Tr, app e nil = e
  | nil => rfl
  | ch c r => by unfold app; rw [app_nil r]
  | st i r => by unfold app; rw [app_nil r]
theorem app_assoc : ∀ a b c : Tr, app (app a b) c = app a (app b c)
  | nil, _, _ => rfl
  | ch x r, b, c => by
    show ch x (app (app r b) c) = ch x (app r (app b c))
    rw [app_assoc r b c]
  | st i r, b, c => by
    show st i (app (app r b) c) = st i (app r (app b c))
    rw [app_assoc r b c]
theorem text_app : ∀ a b : Tr, text (app a b) = text a ++ text b
  | nil, _ => rfl
  | ch x r, b => by
    show x :: text (app r b) = x :: (text r ++ text b)
    rw [text_app r b]
  | st i r, b => by
    show 40 :: (text i ++ 41 :: 42 :: text (app r b)) = (40 :: (text i ++ 41 :: 42 :: text r)) ++ text b
    rw [text_app r b]
    simp
theorem row_app (n : Nat) : ∀ a b : Tr, row n (app a b) = row n a ++ row n b
  | nil, _ => rfl
  | ch x r, b => by
    show x :: row n (app r b) = x :: (row n r ++ row n b)
    rw [row_app n r b]
  | st i r, b => by
    show rep n (row n i) ++ row n (app r b) = (rep n (row n i) ++ row n r) ++ row n b
    rw [row_app n r b, List.append_assoc]
theorem ok_app : ∀ {a b : Tr}, ok a → ok b → ok (app a b)
  | nil, _, _, h => h
  | ch x r, b, h, h2 => ⟨h.1, h.2.1, ok_app h.2.2 h2⟩
  | st i r, b, h, h2 => ⟨h.1, h.2.1, ok_app h.2.2 h2⟩
theorem len_app : ∀ a b : Tr, len (app a b) = len a + len b
  | nil, b => by show len b = 0 + len b; omega
  | ch x r, b => by
    show len (app r b) + 1 = len r + 1 + len b
    rw [len_app r b]; omega
  | st i r, b => by
    show len (app r b) + 1 = len r + 1 + len b
    rw [len_app r b]; omega
theorem depth_app : ∀ a b : Tr, depth (app a b) = max (depth a) (depth b)
  | nil, b => by show depth b = max 0 (depth b); omega
  | ch x r, b => depth_app r b
  | st i r, b => by
    show max (depth i + 1) (depth (app r b)) = max (max (depth i + 1) (depth r)) (depth b)
    rw [depth_app r b]; omega
theorem len_le : ∀ e : Tr, len e ≤ (text e).length
  | nil => Nat.le_refl _
  | ch c r => by
    show len r + 1 ≤ (text r).length + 1
    have := len_le r
    omega
  | st i r => by
    show len r + 1 ≤ (40 :: (text i ++ 41 :: 42 :: text r)).length
    have := len_le r
    simp
    omega
theorem nil_len {e : Tr} (h : len e = 0) : e = nil := by
  cases e with
  | nil => rfl
  | ch c r => exact absurd h (by show len r + 1 ≠ 0; omega)
  | st i r => exact absurd h (by show len r + 1 ≠ 0; omega)

/-! ### reading: what parts_of does -/
def step : Bool → Nat → Tr → List Tr → Option (Bool × List Tr)
  | true, c, e, s => if c = 42 then (match s with | e2 :: s' => some (false, app e2 (st e nil) :: s') | [] => none) else none
  | false, c, e, s =>
    if 97 ≤ c ∧ c ≤ 122 then some (false, app e (ch c nil) :: s)
    else if c = 40 then some (false, nil :: e :: s)
    else if c = 41 ∧ e ≠ nil then some (true, e :: s)
    else none
def runB : List Nat → Bool → List Tr → Option Tr
  | [], false, [e] => some e
  | [], _, _ => none
  | _ :: _, _, [] => none
  | c :: t, b, e :: s => match step b c e s with
    | some (b', s') => runB t b' s'
    | none => none
def run (t : List Nat) (s : List Tr) : Option Tr := runB t false s
theorem runB_cons (c : Nat) (t : List Nat) (b : Bool) (e : Tr) (s : List Tr) : runB (c :: t) b (e :: s) = match step b c e s with
    | some (b', s') => runB t b' s'
    | none => none := by cases b <;> rfl
theorem run_letter {c : Nat} {t : List Nat} {e : Tr} {s : List Tr} (h : 97 ≤ c ∧ c ≤ 122) : run (c :: t) (e :: s) = run t (app e (ch c nil) :: s) := by
  unfold run
  rw [runB_cons]
  unfold step; dsimp only
  rw [if_pos h]
theorem run_open {t : List Nat} {e : Tr} {s : List Tr} : run (40 :: t) (e :: s) = run t (nil :: e :: s) := by
  unfold run
  rw [runB_cons]
  unfold step; dsimp only
  rw [if_neg (by omega), if_pos rfl]
theorem run_close {t : List Nat} {e e2 : Tr} {s : List Tr} (h : e ≠ nil) : run (41 :: 42 :: t) (e :: e2 :: s) = run t (app e2 (st e nil) :: s) := by
  unfold run
  rw [runB_cons]
  unfold step; dsimp only
  rw [if_neg (by omega), if_neg (by omega), if_pos ⟨rfl, h⟩]
  dsimp only
  rw [runB_cons]
  unfold step; dsimp only
  rw [if_pos rfl]
theorem run_text : ∀ (e : Tr), ok e → ∀ (e0 : Tr) (t : List Nat) (s : List Tr), run (text e ++ t) (e0 :: s) = run t (app e0 e :: s)
  | nil, _, e0, t, s => by rw [app_nil]; rfl
  | ch c r, h, e0, t, s => by
    show run (c :: (text r ++ t)) (e0 :: s) = _
    rw [run_letter ⟨h.1, h.2.1⟩, run_text r h.2.2, app_assoc]
    rfl
  | st i r, h, e0, t, s => by
    have e : text (st i r) ++ t = 40 :: (text i ++ (41 :: 42 :: (text r ++ t))) := by
      show (40 :: (text i ++ 41 :: 42 :: text r)) ++ t = _
      simp
    rw [e, run_open, run_text i h.2.1]
    show run (41 :: 42 :: (text r ++ t)) (i :: e0 :: s) = _
    rw [run_close h.1, run_text r h.2.2, app_assoc]
    rfl
theorem run_all {e : Tr} (h : ok e) : run (text e) [nil] = some e := by
  have q := run_text e h nil [] []
  rw [List.append_nil] at q
  rw [q]
  rfl
/-- what a reading that comes to its end says of the next sign -/
theorem run_next {c : Nat} {t : List Nat} {e f : Tr} {s : List Tr} (h : run (c :: t) (e :: s) = some f) :
    ((97 ≤ c ∧ c ≤ 122) ∧ run t (app e (ch c nil) :: s) = some f) ∨ (c = 40 ∧ run t (nil :: e :: s) = some f) ∨
    (c = 41 ∧ e ≠ nil ∧ ∃ t' e2 s', t = 42 :: t' ∧ s = e2 :: s' ∧ run t' (app e2 (st e nil) :: s') = some f) := by
  unfold run at h
  rw [runB_cons] at h
  unfold step at h; dsimp only at h
  by_cases h1 : 97 ≤ c ∧ c ≤ 122
  · rw [if_pos h1] at h
    exact .inl ⟨h1, h⟩
  · rw [if_neg h1] at h
    by_cases h2 : c = 40
    · rw [if_pos h2] at h
      exact .inr (.inl ⟨h2, h⟩)
    · rw [if_neg h2] at h
      by_cases h3 : c = 41 ∧ e ≠ nil
      · rw [if_pos h3] at h
        dsimp only at h
        refine .inr (.inr ⟨h3.1, h3.2, ?_⟩)
        cases t with
        | nil => cases h
        | cons d t' =>
          rw [runB_cons] at h
          unfold step at h; dsimp only at h
          by_cases h4 : d = 42
          · rw [if_pos h4] at h
            cases s with
            | nil => cases h
            | cons e2 s' => exact ⟨t', e2, s', by rw [h4], rfl, h⟩
          · rw [if_neg h4] at h
            cases h
      · rw [if_neg h3] at h
        cases h
theorem run_end {s : List Tr} {f : Tr} (h : run [] s = some f) : s = [f] := by
  match s, h with
  | [], h => cases h
  | [e], h => cases h; rfl
  | _ :: _ :: _, h => cases h
theorem run_ne {t : List Nat} {f : Tr} (h : run t [] = some f) : False := by
  cases t with
  | nil => cases h
  | cons c t => cases h

/-! ### the law's own reading -/
def runX (n : Nat) : List Nat → List (List Nat) → Option (List Nat)
  | [], [r] => some r
  | [], _ => none
  | _ :: _, [] => none
  | c :: t, r :: s =>
    if c = 40 then runX n t ([] :: r :: s)
    else if c = 42 then
      match s with
      | r2 :: s' => runX n t ((r2 ++ rep n r) :: s')
      | [] => none
    else if c = 41 then runX n t (r :: s)
    else runX n t ((r ++ [c]) :: s)
theorem runX_cons (n c : Nat) (t r : List Nat) (s : List (List Nat)) : runX n (c :: t) (r :: s) =
    if c = 40 then runX n t ([] :: r :: s)
    else if c = 42 then
      match s with
      | r2 :: s' => runX n t ((r2 ++ rep n r) :: s')
      | [] => none
    else if c = 41 then runX n t (r :: s)
    else runX n t ((r ++ [c]) :: s) := by
  cases s <;> rfl
theorem runX_text (n : Nat) : ∀ (e : Tr), ok e → ∀ (r : List Nat) (t : List Nat) (s : List (List Nat)), runX n (text e ++ t) (r :: s) = runX n t ((r ++ row n e) :: s)
  | nil, _, r, t, s => by
    show runX n t (r :: s) = runX n t ((r ++ []) :: s)
    rw [List.append_nil]
  | ch c q, h, r, t, s => by
    show runX n (c :: (text q ++ t)) (r :: s) = _
    have h1 := h.1
    have h2 := h.2.1
    rw [runX_cons, if_neg (by omega), if_neg (by omega), if_neg (by omega), runX_text n q h.2.2, List.append_assoc]
    rfl
  | st i q, h, r, t, s => by
    have e : text (st i q) ++ t = 40 :: (text i ++ (41 :: 42 :: (text q ++ t))) := by
      show (40 :: (text i ++ 41 :: 42 :: text q)) ++ t = _
      simp
    rw [e, runX_cons, if_pos rfl, runX_text n i h.2.1]
    rw [runX_cons, if_neg (by omega), if_neg (by omega), if_pos rfl]
    rw [runX_cons, if_neg (by omega), if_pos rfl]
    dsimp only
    rw [List.nil_append, runX_text n q h.2.2, List.append_assoc]
    rfl
theorem runX_all {n : Nat} {e : Tr} (h : ok e) : runX n (text e) [[]] = some (row n e) := by
  have q := runX_text n e h [] [] []
  rw [List.append_nil] at q
  rw [q]
  rfl
theorem runX_size {n : Nat} (hn : 1 ≤ n) : ∀ (t : List Nat) (s : List (List Nat)) (f : List Nat), runX n t s = some f → (s.map List.length).sum ≤ f.length
  | [], s, f, h => by
    match s, h with
    | [], h => cases h
    | [r], h => cases h; simp
    | _ :: _ :: _, h => cases h
  | c :: t, [], f, h => by cases h
  | c :: t, r :: s, f, h => by
    rw [runX_cons] at h
    split at h
    · have := runX_size hn t _ f h
      simpa using this
    · split at h
      · split at h
        · have := runX_size hn t _ f h
          simp [rep_len] at this ⊢
          have h2 : r.length ≤ n * r.length := Nat.le_mul_of_pos_left _ hn
          omega
        · cases h
      · split at h
        · exact runX_size hn t _ f h
        · have := runX_size hn t _ f h
          simp at this ⊢
          omega
theorem runX_next {n c : Nat} {t r : List Nat} {s : List (List Nat)} {f : List Nat} (h : runX n (c :: t) (r :: s) = some f) :
    (c = 40 ∧ runX n t ([] :: r :: s) = some f) ∨ (c = 42 ∧ ∃ r2 s', s = r2 :: s' ∧ runX n t ((r2 ++ rep n r) :: s') = some f) ∨ (c = 41 ∧ runX n t (r :: s) = some f) ∨ (c ≠ 40 ∧ c ≠ 42 ∧ c ≠ 41 ∧ runX n t ((r ++ [c]) :: s) = some f) := by
  rw [runX_cons] at h
  split at h
  · rename_i h1
    exact .inl ⟨h1, h⟩
  · split at h
    · rename_i h1 h2
      split at h
      · exact .inr (.inl ⟨h2, _, _, rfl, h⟩)
      · cases h
    · split at h
      · rename_i h1 h2 h3
        exact .inr (.inr (.inl ⟨h3, h⟩))
      · rename_i h1 h2 h3
        exact .inr (.inr (.inr ⟨h1, h2, h3, h⟩))
theorem runX_end {n : Nat} {s : List (List Nat)} {f : List Nat} (h : runX n [] s = some f) : s = [f] := by
  match s, h with
  | [], h => cases h
  | [e], h => cases h; rfl
  | _ :: _ :: _, h => cases h

/-! ### sizes of drawn expressions: at most three parts at each place, d deep -/
def wd : Nat → Tr → Prop
  | _, nil => True
  | d, ch _ r => wd d r
  | 0, st _ _ => False
  | d + 1, st i r => wd d i ∧ len i ≤ 3 ∧ wd (d + 1) r
theorem wd_ch {d c : Nat} {r : Tr} (h : wd d r) : wd d (ch c r) := by
  cases d <;> exact h
theorem wd_app : ∀ (d : Nat) (a b : Tr), wd d a → wd d b → wd d (app a b)
  | d, nil, b, _, h => h
  | 0, ch c r, b, h, h2 => wd_app 0 r b h h2
  | d + 1, ch c r, b, h, h2 => wd_app (d + 1) r b h h2
  | 0, st i r, b, h, _ => h.elim
  | d + 1, st i r, b, h, h2 => ⟨h.1, h.2.1, wd_app (d + 1) r b h.2.2 h2⟩
theorem wd_depth : ∀ (d : Nat) (e : Tr), wd d e → depth e ≤ d
  | d, nil, _ => Nat.zero_le _
  | 0, ch c r, h => wd_depth 0 r h
  | d + 1, ch c r, h => wd_depth (d + 1) r h
  | 0, st i r, h => h.elim
  | d + 1, st i r, h => by
    have h1 := wd_depth d i h.1
    have h2 := wd_depth (d + 1) r h.2.2
    show max (depth i + 1) (depth r) ≤ d + 1
    omega
def bT : Nat → Nat
  | 0 => 1
  | d + 1 => 3 * bT d + 3
def bR : Nat → Nat
  | 0 => 1
  | d + 1 => 4 * (3 * bR d)
theorem bT_pos : ∀ d, 1 ≤ bT d
  | 0 => Nat.le_refl _
  | d + 1 => by show 1 ≤ 3 * bT d + 3; omega
theorem bR_pos : ∀ d, 1 ≤ bR d
  | 0 => Nat.le_refl _
  | d + 1 => by
    have := bR_pos d
    show 1 ≤ 4 * (3 * bR d)
    omega
theorem text_le : ∀ (d : Nat) (e : Tr), wd d e → (text e).length ≤ len e * bT d
  | d, nil, _ => Nat.zero_le _
  | 0, ch c r, h => by
    have := text_le 0 r h
    show (text r).length + 1 ≤ (len r + 1) * bT 0
    rw [Nat.add_mul]
    have : bT 0 = 1 := rfl
    omega
  | d + 1, ch c r, h => by
    have := text_le (d + 1) r h
    have := bT_pos (d + 1)
    show (text r).length + 1 ≤ (len r + 1) * bT (d + 1)
    rw [Nat.add_mul]
    omega
  | 0, st i r, h => h.elim
  | d + 1, st i r, h => by
    have h1 := text_le d i h.1
    have h2 := text_le (d + 1) r h.2.2
    have h3 : len i * bT d ≤ 3 * bT d := Nat.mul_le_mul_right _ h.2.1
    show (40 :: (text i ++ 41 :: 42 :: text r)).length ≤ (len r + 1) * bT (d + 1)
    rw [Nat.add_mul]
    have e : bT (d + 1) = 3 * bT d + 3 := rfl
    simp
    omega
theorem row_le (n : Nat) (hn : n ≤ 4) : ∀ (d : Nat) (e : Tr), wd d e → (row n e).length ≤ len e * bR d
  | d, nil, _ => Nat.zero_le _
  | 0, ch c r, h => by
    have := row_le n hn 0 r h
    show (row n r).length + 1 ≤ (len r + 1) * bR 0
    rw [Nat.add_mul]
    have : bR 0 = 1 := rfl
    omega
  | d + 1, ch c r, h => by
    have := row_le n hn (d + 1) r h
    have := bR_pos (d + 1)
    show (row n r).length + 1 ≤ (len r + 1) * bR (d + 1)
    rw [Nat.add_mul]
    omega
  | 0, st i r, h => h.elim
  | d + 1, st i r, h => by
    have h1 := row_le n hn d i h.1
    have h2 := row_le n hn (d + 1) r h.2.2
    have h3 : len i * bR d ≤ 3 * bR d := Nat.mul_le_mul_right _ h.2.1
    have h4 : n * (row n i).length ≤ 4 * (3 * bR d) := Nat.mul_le_mul hn (Nat.le_trans h1 h3)
    show (rep n (row n i) ++ row n r).length ≤ (len r + 1) * bR (d + 1)
    rw [Nat.add_mul, List.length_append, rep_len]
    have e : bR (d + 1) = 4 * (3 * bR d) := rfl
    omega
/-- a part's row is no longer than the whole -/
theorem row_part {n : Nat} {i r : Tr} : n * (row n i).length ≤ (row n (st i r)).length ∧ (row n r).length ≤ (row n (st i r)).length := by
  show _ ≤ (rep n (row n i) ++ row n r).length ∧ _ ≤ (rep n (row n i) ++ row n r).length
  rw [List.length_append, rep_len]
  omega
end Tr
end Wx

namespace G
open PySem PySem.Spec PyProof.Rows L2 Wx
def topS (i : Nat) : Stmt := PySem.Challenge.pw_enoughpaid_k47_expressions_read.main.body.getD i (.Pass ⟨0, 0, 0, 0⟩)
abbrev s_parts_of : Stmt := topS 5
abbrev N_parts_of : List Str := ["text", "open_parts", "place", "sign", "part"]
theorem sc_parts_of : FnScope N_parts_of ["text"] (defScope s_parts_of) := ⟨rfl, rfl, rfl, by decide +kernel, rfl, by decide +kernel, by decide +kernel⟩
abbrev s_stars : Stmt := topS 6
abbrev N_stars : List Str := ["text"]
theorem sc_stars : FnScope N_stars ["text"] (defScope s_stars) := ⟨rfl, rfl, rfl, by decide +kernel, rfl, by decide +kernel, by decide +kernel⟩
abbrev s_letters : Stmt := topS 7
abbrev N_letters : List Str := ["text"]
theorem sc_letters : FnScope N_letters ["text"] (defScope s_letters) := ⟨rfl, rfl, rfl, by decide +kernel, rfl, by decide +kernel, by decide +kernel⟩
abbrev s_row_of_parts : Stmt := topS 8
abbrev N_row_of_parts : List Str := ["parts", "n", "part"]
theorem sc_row_of_parts : FnScope N_row_of_parts ["parts", "n"] (defScope s_row_of_parts) := ⟨rfl, rfl, rfl, by decide +kernel, rfl, by decide +kernel, by decide +kernel⟩
abbrev s_row_of : Stmt := topS 9
abbrev N_row_of : List Str := ["text", "n", "parts"]
theorem sc_row_of : FnScope N_row_of ["text", "n"] (defScope s_row_of) := ⟨rfl, rfl, rfl, by decide +kernel, rfl, by decide +kernel, by decide +kernel⟩
abbrev s_law_source : Stmt := topS 11
abbrev N_law_source : List Str := ["_law_script", "_law_great", "_law_seed", "_law_cell"]
theorem sc_law_source : FnScope N_law_source ["_law_script"] (defScope s_law_source) := ⟨rfl, rfl, rfl, by decide +kernel, rfl, by decide +kernel, by decide +kernel⟩
abbrev s_law_draw : Stmt := topS 12
abbrev N_law_draw : List Str := ["_law_source_here", "_law_many", "_law_digit", "_law_mixed"]
theorem sc_law_draw : FnScope N_law_draw ["_law_source_here", "_law_many"] (defScope s_law_draw) := ⟨rfl, rfl, rfl, by decide +kernel, rfl, by decide +kernel, by decide +kernel⟩
abbrev s_law_pick : Stmt := topS 13
abbrev N_law_pick : List Str := ["_law_source_here", "_law_things"]
theorem sc_law_pick : FnScope N_law_pick ["_law_source_here", "_law_things"] (defScope s_law_pick) := ⟨rfl, rfl, rfl, by decide +kernel, rfl, by decide +kernel, by decide +kernel⟩
abbrev s_law_expanded : Stmt := topS 14
abbrev N_law_expanded : List Str := ["_law_text", "_law_n", "_law_rows", "_law_sign", "_law_inner"]
theorem sc_law_expanded : FnScope N_law_expanded ["_law_text", "_law_n"] (defScope s_law_expanded) := ⟨rfl, rfl, rfl, by decide +kernel, rfl, by decide +kernel, by decide +kernel⟩
abbrev s_law_expression : Stmt := topS 15
abbrev N_law_expression : List Str := ["_law_source_here", "_law_signs", "_law_deep", "_law_text", "_law_k"]
theorem sc_law_expression : FnScope N_law_expression ["_law_source_here", "_law_signs", "_law_deep"] (defScope s_law_expression) := ⟨rfl, rfl, rfl, by decide +kernel, rfl, by decide +kernel, by decide +kernel⟩
abbrev s_law_key : Stmt := topS 16
abbrev N_law_key : List Str := ["_law_text"]
theorem sc_law_key : FnScope N_law_key ["_law_text"] (defScope s_law_key) := ⟨rfl, rfl, rfl, by decide +kernel, rfl, by decide +kernel, by decide +kernel⟩
abbrev s_law : Stmt := topS 17
abbrev N_law : List Str := ["_law_script", "_law_source_here", "_law_turn", "_law_text", "_law_key_here", "_law_n"]
theorem sc_law : FnScope N_law ["_law_script"] (defScope s_law) := ⟨rfl, rfl, rfl, by decide +kernel, rfl, by decide +kernel, by decide +kernel⟩

theorem lit_3 : Str.ofString "" = S [] := by decide +kernel
theorem lit_4 : Str.ofString "*" = S [42] := by decide +kernel
theorem lit_5 : Str.ofString "not a number in the stated range" = S [110, 111, 116, 32, 97, 32, 110, 117, 109, 98, 101, 114, 32, 105, 110, 32, 116, 104, 101, 32, 115, 116, 97, 116, 101, 100, 32, 114, 97, 110, 103, 101] := by decide +kernel
theorem lit_6 : Str.ofString "no expression goes on so at" = S [110, 111, 32, 101, 120, 112, 114, 101, 115, 115, 105, 111, 110, 32, 103, 111, 101, 115, 32, 111, 110, 32, 115, 111, 32, 97, 116] := by decide +kernel
theorem lit_7 : Str.ofString "a" = S [97] := by decide +kernel
theorem lit_8 : Str.ofString "z" = S [122] := by decide +kernel
theorem lit_9 : Str.ofString "(" = S [40] := by decide +kernel
theorem lit_10 : Str.ofString "ab" = S [97, 98] := by decide +kernel
theorem lit_11 : Str.ofString ")*" = S [41, 42] := by decide +kernel
theorem lit_12 : Str.ofString "b" = S [98] := by decide +kernel
theorem lit_13 : Str.ofString "c" = S [99] := by decide +kernel
theorem lit_14 : Str.ofString ")" = S [41] := by decide +kernel
local macro_rules | `(tactic| walk_at "lit") => `(tactic| with_reducible first | refine we_strE lit_3 ?_ | refine we_strE lit_4 ?_ | refine we_strE lit_5 ?_ | refine we_strE lit_6 ?_ | refine we_strE lit_7 ?_ | refine we_strE lit_8 ?_ | refine we_strE lit_9 ?_ | refine we_strE lit_10 ?_ | refine we_strE lit_11 ?_ | refine we_strE lit_12 ?_ | refine we_strE lit_13 ?_ | refine we_strE lit_14 ?_)

local macro_rules | `(tactic| walk_at "at") => `(tactic| with_reducible first | exact atI_0 | exact atI_1 | exact atI_2 | exact atI_3)
local macro_rules | `(tactic| walk_at "ixn") => `(tactic| with_reducible first | exact ixN_0 | exact ixN_1 | exact ixN_2)
local macro_rules | `(tactic| walk_at "ne") => `(tactic| first | assumption | exact Ne.symm (by assumption) | exact ne_new (by assumption) (by walk_at "h") | exact Ne.symm (ne_new (by assumption) (by walk_at "h")))
local macro_rules | `(tactic| walk_at "h") => `(tactic| first | assumption | (with_reducible exact upd_same) | ((with_reducible show upd _ _ _ _ = some _); exact upd_get (by walk_at "ne") (by walk_at "h")) | exact Ex.get (by assumption) (by walk_at "h"))
local macro_rules | `(tactic| walk_at "wa") => `(tactic| with_reducible first
  | refine ws_one ?_ | refine ws_cons ?_ | refine ws_nil ?_ | refine ws_ret ?_ | refine ws_if ?_
  | refine we_int ?_ | walk_at "lit" | refine we_bl ?_ | refine we_non ?_ | refine we_op ?_ | refine we_un ?_
  | refine wa_nil ?_ | refine wgs_nil ?_ | refine we_tup ?_ | refine we_lst ?_
  | refine wo_add ?_ | refine wo_sub ?_ | refine wo_lt ?_ | refine wo_le ?_ | refine wo_gt ?_ | refine wo_ge ?_ | refine wo_eq ?_ | refine wo_ne ?_ | refine wo_le1 ?_ | refine wo_eqSS ?_ | refine wo_neSS ?_
  | refine wc_int ?_ | refine wu_neg ?_ | refine wip_add ?_ | refine wip_sub ?_ | refine wc_isi_str ?_ | refine wc_isi_int ?_ | refine wc_isi_intB ?_
  | refine wt_bop ?_ | refine ww_and ?_ | refine ww_and1 ?_ | refine ww_or ?_ | refine ww_or1 ?_ | refine wt_not ?_
  | refine we_and ?_ | refine we_or ?_ | refine we_one ?_ | refine we_if ?_ | refine we_count ?_
  | refine ⟨_, rfl, ?_⟩ | refine iteT ?_ | refine iteF ?_ | refine iteN0 ?_ | refine iteN1 ?_)
local macro_rules | `(tactic| walk_at "wb") => `(tactic| first
  | ((with_reducible show WE _ (Expr.Name _ _) _ _ _); first | refine we_nm rfl ?_ | refine we_tyStr (by assumption) ?_ | refine we_tyInt (by assumption) ?_ | refine we_tyBool (by assumption) ?_)
  | ((with_reducible show WA _ (_ :: _) _ _ _); refine wa_cons ?_)
  | ((with_reducible show WS _ (Stmt.Assign [Expr.Name _ _] _ _) _ _ _); refine ws_set (by assumption) rfl ?_)
  | ((with_reducible show WS _ (Stmt.Assign [_] _ _) _ _ _); refine ws_asg ?_)
  | ((with_reducible show WS _ (Stmt.AugAssign (Expr.Name _ _) _ _ _) _ _ _); refine ws_aug (by assumption) rfl rfl ?_)
  | ((with_reducible show WS _ (Stmt.Expr _ _) _ _ _); refine ws_expr ?_)
  | ((with_reducible show WE _ (Expr.Compare _ [_] _ _) _ _ _); refine we_cmp ?_)
  | ((with_reducible show WT _ (Expr.Compare _ [_] _ _) _ _ _); refine wt_cmp ?_)
  | ((with_reducible show WE _ (Expr.Compare _ [_, _] _ _) _ _ _); refine we_chain ?_)
  | ((with_reducible show WT _ (Expr.Compare _ [_, _] _ _) _ _ _); refine wt_chain ?_)
  | ((with_reducible show WE _ (Expr.Subscript _ _ _) _ _ _); first | refine we_sl00 ?_ | refine we_sl10 ?_ | refine we_sl01 ?_ | refine we_sl11 ?_ | refine we_ix ?_)
  | ((with_reducible show WG _ (Expr.Name _ _) _ _ _ _); refine wg_nm (by assumption) rfl ?_)
  | ((with_reducible show WG _ (Expr.Subscript _ _ _) _ _ _ _); refine wg_sub ?_)
  | ((with_reducible show WG _ (Expr.Tuple _ _ _) _ _ _ _); refine wg_tup rfl (st_of (by walk_at "h")) rfl ?_)
  | ((with_reducible show WGs _ (_ :: _) _ _ _ _); refine wgs_cons ?_)
  | ((with_reducible show WE _ (Expr.Call (Expr.Attribute _ (Str.ofString "append") _) _ [] _) _ _ _); refine we_append ?_)
  | ((with_reducible show WE _ (Expr.Call (Expr.Attribute _ (Str.ofString "pop") _) _ [] _) _ _ _); refine we_pop ?_)
  | ((with_reducible show WE _ (Expr.Call (Expr.Attribute _ (Str.ofString "count") _) _ [] _) _ _ _); refine we_count ?_)
  | ((with_reducible show WE _ (Expr.Call (Expr.Attribute _ (Str.ofString "join") _) _ [] _) _ _ _); refine we_join ?_)
  | ((with_reducible show WE _ (Expr.Call (Expr.Name (Str.ofString "len") _) _ [] _) _ _ _); refine we_len (by assumption) ?_)
  | ((with_reducible show WE _ (Expr.Call (Expr.Name (Str.ofString "int") _) _ [] _) _ _ _); refine we_intT (by assumption) ?_)
  | ((with_reducible show WE _ (Expr.Call (Expr.Name (Str.ofString "tuple") _) _ [] _) _ _ _); refine we_tupleT (by assumption) ?_)
  | ((with_reducible show WE _ (Expr.Call (Expr.Name (Str.ofString "isinstance") _) _ [] _) _ _ _); refine we_isi (by assumption) ?_)
  | ((with_reducible show WO _ (binaryOp Operator.Mult) (V.int _) (V.int _) _ _); first | refine wo_mul (.inl ⟨by omega, by omega⟩) ?_ | refine wo_mul (.inr ⟨by omega, by omega⟩) ?_)
  | ((with_reducible show WO _ (binaryOp Operator.Mod) (V.int _) (V.int _) _ _); refine wo_mod (by omega) ?_)
  | ((with_reducible show WO _ (binaryOp Operator.FloorDiv) (V.int _) (V.int _) _ _); refine wo_fdiv ⟨by omega, by omega⟩ ?_)
  | ((with_reducible show WIx _ (V.ref _) (V.int _) _ _); first | refine wix_l (sq_of (by walk_at "h")) (by walk_at "at") ?_ | refine wix_t (st_of (by walk_at "h")) (by walk_at "at") ?_)
  | ((with_reducible show WSet _ (V.ref _) (V.int _) _ _ _); first | refine wset_0 (by walk_at "h") ?_ | refine wset_1 (by walk_at "h") ?_ | refine wset_2 (by walk_at "h") ?_)
  | ((with_reducible show WC _ (Value.builtin "len") [V.str (S _)] _ _); refine wc_lenSS (by assumption) ?_)
  | ((with_reducible show WT _ _ _ _ _); refine wt_val ?_))
local macro_rules | `(tactic| walk_at "w1") => `(tactic| first | walk_at "wa" | walk_at "wb")
local macro_rules | `(tactic| walk_at "w") => `(tactic| repeat walk_at "w1")

section
variable {P : Program} {w : World} {K : PySem.W.Frag} {mg : Str → Option Value} {base : Heap}
/-! ### the drawn numbers -/
theorem ok_source {f : Addr} {fd : FuncData} {k : Nat} (F : Fun K "_law_source" "_law_source" s_law_source f fd) (mi : mg "int" = none) : FnOk P w K mg base CX0 (k + 1) f fd ["_law_script"] (spSource K) := by
  refine F.ok sc_law_source (fun vs H Q E h => ?_) (fun cdv A outer s H vs Q E hr h => ?_)
  · obtain ⟨a, ns, rfl, _⟩ := h
    rfl
  · obtain ⟨a, ns, rfl, hS, q⟩ := h
    have nd := sc_law_source.nd
    refine wss_of rfl ?_
    walk_at "w"
    refine ⟨sz_le (by simp), fun t ht => ?_⟩
    walk_at "w"
    refine ws_forL PassesOwn.never rfl ?_
    walk_at "w"
    refine ⟨a, _, rfl, (Ex.new ht).l hS, fun i σ H' => Ex H H' ∧ ∃ g sd y, σ = [some (.ref a), some (.int g), some (.int sd), y] ∧ 0 ≤ sd ∧ sd < 2147483647, ⟨Ex.new ht, 0, 17, none, rfl, by decide, by decide⟩, ?_, ?_, ?_⟩
    · rintro i σ H' _ ⟨ex, _⟩
      exact ex.l hS
    · rintro i x σ H' hx ⟨ex, g, sd, y, rfl, h1, h2⟩
      obtain ⟨c, rfl⟩ : ∃ c, x = .int c := by
        rw [List.getElem?_map] at hx
        cases hn : ns[i]? with
        | none => rw [hn] at hx; cases hx
        | some c => rw [hn] at hx; cases hx; exact ⟨c, rfl⟩
      walk_at "w"
      refine ite2 (fun hb => ?_) (fun hb => ?_)
      · walk_at "w"
        refine wo_pow ⟨by decide, by decide, by decide⟩ ?_
        walk_at "w"
        refine ite2 (fun hb => ?_) (fun hb => ?_)
        · walk_at "w"
          exact ⟨ex, _, _, _, rfl, Int.emod_nonneg _ (by decide), Int.emod_lt_of_pos _ (by decide)⟩
        · walk_at "w"
          exact ⟨ex, _, _, _, rfl, Int.emod_nonneg _ (by decide), Int.emod_lt_of_pos _ (by decide)⟩
      · walk_at "w"
        exact ⟨ex, _, _, _, rfl, Int.emod_nonneg _ (by decide), Int.emod_lt_of_pos _ (by decide)⟩
    · rintro σ H' ⟨ex, g, sd, y, rfl, h1, h2⟩
      walk_at "w"
      refine ⟨sz_le (by simp), fun p hp => ?_⟩
      exact q _ _ (ex.trans (Ex.new hp)) (ex.fresh hp) ⟨g, sd, 0, upd_same, h1, h2, by decide, by decide⟩
theorem ok_draw {f : Addr} {fd : FuncData} {k : Nat} (F : Fun K "_law_draw" "_law_draw" s_law_draw f fd) (mi : mg "int" = none) : FnOk P w K mg base CX0 (k + 1) f fd ["_law_source_here", "_law_many"] spDraw := by
  refine F.ok sc_law_draw (fun vs H Q E h => ?_) (fun cdv A outer s H vs Q E hr h => ?_)
  · obtain ⟨p, n, m, rfl, _⟩ := h
    rfl
  · obtain ⟨p, n, m, rfl, ⟨g, sd, c, hp, h1, h2, h3, h4⟩, hn, hm0, hm1, q⟩ := h
    have nd := sc_law_draw.nd
    refine wss_of rfl ?_
    walk_at "w"
    refine ite2 (fun hb => ?_) (fun hb => ?_)
    · walk_at "w"
      refine q _ _ ?_ ?_ (Int.emod_nonneg _ (by omega)) (Int.emod_lt_of_pos _ hm0)
      · rw [pub_upd, pub_upd]
        exact Ex.refl _
      · exact ⟨_, _, _, upd_same, h1, h2, by omega, by omega⟩
    · walk_at "w"
      refine wo_pow ⟨by decide, by decide, by omega⟩ ?_
      walk_at "w"
      have b1 := Int.emod_nonneg ((sd + 7919 * (c + 1)) ^ Int.toNat 5) (show (2147483629 : Int) ≠ 0 by decide)
      have b2 := Int.emod_lt_of_pos ((sd + 7919 * (c + 1)) ^ Int.toNat 5) (show (0 : Int) < 2147483629 by decide)
      have c1 : (16807 * (c + 1)) * (c + 1) ≤ 16807000000 * 1000000 := Int.mul_le_mul (by omega) (by omega) (by omega) (by omega)
      have c2 : 0 ≤ (16807 * (c + 1)) * (c + 1) := Int.mul_nonneg (by omega) (by omega)
      refine wo_pow ⟨by decide, by decide, by omega⟩ ?_
      walk_at "w"
      refine q _ _ ?_ ?_ (Int.emod_nonneg _ (by omega)) (Int.emod_lt_of_pos _ hm0)
      · rw [pub_upd]
        exact Ex.refl _
      · exact ⟨_, _, _, upd_same, h1, h2, by omega, by omega⟩
theorem ok_pick {f : Addr} {fd : FuncData} {k j : Nat} (F : Fun K "_law_pick" "_law_pick" s_law_pick f fd) (ml : mg "len" = none) (cd : Cal P w K mg base CX0 j "_law_draw" spDraw) (hj : j ≤ k) : FnOk P w K mg base CX0 (k + 1) f fd ["_law_source_here", "_law_things"] (spPick K) := by
  refine F.ok sc_law_pick (fun vs H Q E h => ?_) (fun cdv A outer s H vs Q E hr h => ?_)
  · obtain ⟨p, n, a, xs, rfl, _⟩ := h
    rfl
  · obtain ⟨p, n, a, xs, rfl, hp, hn, ha, h0, h1, q⟩ := h
    have nd := sc_law_pick.nd
    refine wss_of rfl ?_
    walk_at "w"
    refine we_cal cd (hr.mono hj) pass0 ?_
    walk_at "w"
    refine wc_lenL (pub_ex.l ha) ?_
    walk_at "w"
    refine ⟨p, n, _, rfl, hp, hn, by omega, by omega, fun H' d ex hp' hd0 hd1 => ?_⟩
    obtain ⟨v, hv⟩ : ∃ v, xs[d.toNat]? = some v := ⟨xs[d.toNat]'(by omega), List.getElem?_eq_getElem _⟩
    refine wix_l (pub_ex.l (ex.l ha)) ?_ (q H' d.toNat v ex hp' hv)
    rw [show d = ((d.toNat : Nat) : Int) by omega]
    exact atI_nat hv
end

/-! ### the parts of an expression in memory -/
inductive PartsAt (H : Hp) : List V → Tr → Prop
  | nil : PartsAt H [] .nil
  | ch {vs : List V} {r : Tr} (c : Nat) : PartsAt H vs r → PartsAt H (.str (S [c]) :: vs) (.ch c r)
  | st {a : Addr} {ws vs : List V} {i r : Tr} : H a = some (.tup ws) → PartsAt H ws i → PartsAt H vs r → PartsAt H (.ref a :: vs) (.st i r)
theorem PartsAt.mono {H H' : Hp} (e : TEx H H') : ∀ {vs : List V} {t : Tr}, PartsAt H vs t → PartsAt H' vs t
  | _, _, .nil => .nil
  | _, _, .ch c h => .ch c (PartsAt.mono e h)
  | _, _, .st h hi hr => .st (e _ _ h) (PartsAt.mono e hi) (PartsAt.mono e hr)
theorem PartsAt.len {H : Hp} : ∀ {vs : List V} {t : Tr}, PartsAt H vs t → vs.length = t.len
  | _, _, .nil => rfl
  | _, _, .ch c h => by
    show _ + 1 = Tr.len _ + 1
    rw [h.len]
  | _, _, .st _ _ h => by
    show _ + 1 = Tr.len _ + 1
    rw [h.len]
theorem PartsAt.app {H : Hp} : ∀ {vs ws : List V} {t u : Tr}, PartsAt H vs t → PartsAt H ws u → PartsAt H (vs ++ ws) (t.app u)
  | _, _, _, _, .nil, h => h
  | _, _, _, _, .ch c h, h2 => .ch c (PartsAt.app h h2)
  | _, _, _, _, .st a b h, h2 => .st a b (PartsAt.app h h2)
def StkR (H : Hp) : List Addr → List Tr → Prop
  | [], [] => True
  | l :: ls, e :: es => (∃ vs, H l = some (.lst vs) ∧ PartsAt H vs e) ∧ StkR H ls es
  | _, _ => False
theorem StkR.upd {H : Hp} {a : Addr} {o : HO} (ht : TEx H (upd H a o)) : ∀ {ls : List Addr} {es : List Tr}, a ∉ ls → StkR H ls es → StkR (upd H a o) ls es
  | [], [], _, _ => True.intro
  | l :: ls, e :: es, hn, ⟨⟨vs, h, hp⟩, hr⟩ => by
    have h1 : l ≠ a := fun q => hn (q ▸ List.mem_cons_self)
    exact ⟨⟨vs, (upd_ne h1).trans h, hp.mono ht⟩, StkR.upd ht (fun q => hn (List.mem_cons_of_mem _ q)) hr⟩
  | [], _ :: _, _, h => h.elim
  | _ :: _, [], _, h => h.elim
theorem StkR.there {H : Hp} : ∀ {ls : List Addr} {es : List Tr}, StkR H ls es → ∀ l ∈ ls, ∃ vs, H l = some (.lst vs)
  | [], [], _, l, h => nomatch h
  | l :: ls, e :: es, ⟨⟨vs, h, _⟩, hr⟩, m, hm => by
    rcases List.mem_cons.mp hm with rfl | hm
    · exact ⟨vs, h⟩
    · exact StkR.there hr m hm
  | [], _ :: _, h, _, _ => h.elim
  | _ :: _, [], h, _, _ => h.elim
theorem StkR.ne {H : Hp} {ls : List Addr} {es : List Tr} (h : StkR H ls es) {p : Addr} (hp : H p = none) : p ∉ ls := fun hm => by
  obtain ⟨vs, e⟩ := h.there p hm
  rw [hp] at e
  cases e
def spParts : Sp := fun vs H Q _ => ∃ e : Tr, vs = [.str (S e.text)] ∧ e.ok ∧ e ≠ .nil ∧ e.text.length ≤ 1000 ∧ ∀ H' T ws, Ex H H' → H' T = some (.tup ws) → PartsAt H' ws e → Q (.ref T) H'
section
variable {P : Program} {w : World} {K : PySem.W.Frag} {mg : Str → Option Value} {base : Heap}
theorem ok_parts {f : Addr} {fd : FuncData} {k : Nat} (F : Fun K "parts_of" "parts_of" s_parts_of f fd) (ml : mg "len" = none) (mi : mg "isinstance" = none) (ms : mg "str" = none) (mt : mg "tuple" = none) : FnOk P w K mg base CX0 (k + 1) f fd ["text"] spParts := by
  refine F.ok sc_parts_of (fun vs H Q E h => ?_) (fun cdv A outer s H vs Q E hr h => ?_)
  · obtain ⟨e, rfl, _⟩ := h
    rfl
  · obtain ⟨e, rfl, hok, hne, hlen, q⟩ := h
    have nd := sc_parts_of.nd
    have hle : e.text.length ≤ 1000000 := by omega
    refine wss_of rfl ?_
    walk_at "w"
    refine ⟨sz_le (by simp), fun l0 h0 => ?_⟩
    walk_at "w"
    refine ⟨sz_le (by simp), fun O hO => ?_⟩
    walk_at "w"
    have hOl : O ≠ l0 := fun z => by
      rw [z, upd_same] at hO
      cases hO
    have hO0 : H O = none := (Ex.new h0).fresh hO
    generalize ht : e.text = t at *
    refine ws_while PassesOwn.never (fun σ H' => ∃ (n : Nat) (y3 y4 : Option V) (ls : List Addr) (es : List Tr), σ = [some (.str (S t)), some (.ref O), some (.int n), y3, y4] ∧ n ≤ t.length ∧ Ex H H' ∧ H' O = some (.lst (ls.map V.ref).reverse) ∧ (O :: ls).Nodup ∧ (∀ l ∈ ls, H l = none) ∧ StkR H' ls es ∧ Tr.run (t.drop n) es = some e ∧ ls.length ≤ n + 1 ∧ ∀ x ∈ es, x.len ≤ n)
      (fun σ _ => match σ with | [_, _, some (.int n), _, _] => t.length - n.toNat | _ => 0) ⟨0, none, none, [l0], [.nil], rfl, Nat.zero_le _, (Ex.new h0).trans (Ex.new hO), upd_same, ?_, ?_, ?_, ?_, Nat.le_refl _, ?_⟩ ?_
    · simp [hOl]
    · intro l hl
      rw [List.mem_singleton] at hl
      rw [hl]
      exact h0
    · refine ⟨⟨[], ?_, .nil⟩, True.intro⟩
      exact upd_get (Ne.symm hOl) upd_same
    · rw [List.drop_zero, ← ht]
      exact Tr.run_all hok
    · intro x hx
      rw [List.mem_singleton] at hx
      rw [hx]
      exact Nat.zero_le _
    · rintro σ H' ⟨n, y3, y4, ls, es, rfl, hn, ex, hO', hnd, hfr, hst, hrun, hls, hsz⟩
      walk_at "w"
      refine ite2 (fun hb => ?_) (fun hb => ?_)
      · have hb' : n < t.length := by simpa using hb
        obtain ⟨c, hc⟩ : ∃ c, t[n]? = some c := ⟨t[n], List.getElem?_eq_getElem hb'⟩
        have hdr : t.drop n = c :: t.drop (n + 1) := by
          rw [List.drop_eq_getElem_cons hb']
          rw [List.getElem?_eq_getElem hb'] at hc
          rw [Option.some.inj hc]
        rw [hdr] at hrun
        cases es with
        | nil => exact (Tr.run_ne hrun).elim
        | cons e1 es =>
        cases ls with
        | nil => exact hst.elim
        | cons l ls =>
        obtain ⟨⟨vs, hl, hpa⟩, hst⟩ := hst
        have hOl2 : l ≠ O := fun z => (List.nodup_cons.mp hnd).1 (z ▸ List.mem_cons_self)
        have hl0 : H l = none := hfr l List.mem_cons_self
        have hlast : atI ((List.map V.ref (l :: ls)).reverse) (-1) = some (.ref l) := by
          rw [List.map_cons, List.reverse_cons]
          exact atI_last _ _
        have hnl : l ∉ ls := (List.nodup_cons.mp (List.nodup_cons.mp hnd).2).1
        have hOn : O ∉ ls := fun z => (List.nodup_cons.mp hnd).1 (List.mem_cons_of_mem _ z)
        have hvl : vs.length ≤ n := by
          rw [hpa.len]
          exact hsz e1 List.mem_cons_self
        walk_at "w"
        refine wix_S hle hc ?_
        walk_at "w"
        rcases Tr.run_next hrun with ⟨hc1, hrun⟩ | ⟨rfl, hrun⟩ | ⟨rfl, hne1, t', e2, es', ht', hes, hrun2⟩
        · -- a letter
          refine iteDD (fun _ => ?_) (fun z => absurd hc1.1 z)
          walk_at "w"
          refine iteDD (fun _ => ?_) (fun z => absurd hc1.2 z)
          walk_at "w"
          refine wix_l (sq_of hO') hlast ?_
          refine ⟨l, vs, rfl, hl, ?_⟩
          walk_at "w"
          refine ⟨vs, hl, by omega, ?_⟩
          walk_at "w"
          have tx : TEx H' (upd H' l (.lst (vs ++ [.str (S [c])]))) := tex_lst hl
          refine ⟨⟨n + 1, _, _, l :: ls, e1.app (.ch c .nil) :: es, rfl, hb', ex.mut hl0, ?_, hnd, hfr, ⟨⟨_, upd_same, (hpa.mono tx).app (.ch c .nil)⟩, StkR.upd tx hnl hst⟩, hrun, by omega, ?_⟩, ?_⟩
          · exact (upd_ne (Ne.symm hOl2)).trans hO'
          · intro x hx
            rcases List.mem_cons.mp hx with rfl | hx
            · rw [Tr.len_app]
              have := hsz e1 List.mem_cons_self
              show e1.len + 1 ≤ n + 1
              omega
            · have := hsz x (List.mem_cons_of_mem _ hx)
              omega
          · show t.length - (n + 1 : Int).toNat < t.length - (n : Int).toNat
            omega
        · -- a bracket opens
          refine iteDD (fun z => absurd z (by decide)) (fun _ => ?_)
          walk_at "w"
          refine iteDD (fun _ => ?_) (fun z => absurd rfl z)
          walk_at "w"
          refine ⟨O, _, rfl, hO', ?_⟩
          walk_at "w"
          refine ⟨sz_le (by simp), fun p hp => ?_⟩
          have hpO : O ≠ p := ne_of_none hO' hp
          have hpl : l ≠ p := ne_of_none hl hp
          have hpn : p ∉ ls := hst.ne hp
          have hp0 : H p = none := ex.fresh hp
          refine ⟨_, (upd_ne hpO).trans hO', ?_, ?_⟩
          · rw [List.length_reverse, List.length_map]
            omega
          walk_at "w"
          have tx1 : TEx H' (upd H' p (.lst [])) := tex_new hp
          have tx2 : TEx (upd H' p (.lst [])) (upd (upd H' p (.lst [])) O (.lst ((List.map V.ref (l :: ls)).reverse ++ [.ref p]))) := tex_lst ((upd_ne hpO).trans hO')
          refine ⟨⟨n + 1, _, _, p :: l :: ls, .nil :: e1 :: es, rfl, hb', (ex.trans (Ex.new hp)).mut hO0, ?_, ?_, ?_, ⟨⟨[], ?_, .nil⟩, ⟨⟨vs, ?_, (hpa.mono tx1).mono tx2⟩, StkR.upd tx2 hOn (StkR.upd tx1 hpn hst)⟩⟩, hrun, ?_, ?_⟩, ?_⟩
          · rw [upd_same, List.map_cons, List.map_cons, List.map_cons, List.reverse_cons, List.reverse_cons, List.reverse_cons]
          · refine List.nodup_cons.mpr ⟨?_, List.nodup_cons.mpr ⟨?_, (List.nodup_cons.mp hnd).2⟩⟩
            · intro z
              rcases List.mem_cons.mp z with z | z
              · exact hpO z
              · exact (List.nodup_cons.mp hnd).1 z
            · intro z
              rcases List.mem_cons.mp z with z | z
              · exact hpl z.symm
              · exact hpn z
          · intro x hx
            rcases List.mem_cons.mp hx with rfl | hx
            · exact hp0
            · exact hfr x hx
          · exact (upd_ne (Ne.symm hpO)).trans upd_same
          · exact (upd_ne hOl2).trans ((upd_ne hpl).trans hl)
          · rw [List.length_cons]
            omega
          · intro x hx
            rcases List.mem_cons.mp hx with rfl | hx
            · exact Nat.zero_le _
            · have := hsz x hx
              omega
          · show t.length - (n + 1 : Int).toNat < t.length - (n : Int).toNat
            omega
        · -- a bracket closes
          subst hes
          cases ls with
          | nil => exact hst.elim
          | cons l2 ls =>
          obtain ⟨⟨vs2, hl2, hpa2⟩, hst⟩ := hst
          have hl20 : H l2 = none := hfr l2 (List.mem_cons_of_mem _ List.mem_cons_self)
          have hll : l2 ≠ l := fun z => hnl (z ▸ List.mem_cons_self)
          have hl2O : l2 ≠ O := fun z => hOn (z ▸ List.mem_cons_self)
          have hnd2 : (O :: l2 :: ls).Nodup := List.nodup_cons.mpr ⟨hOn, (List.nodup_cons.mp (List.nodup_cons.mp hnd).2).2⟩
          have hn2 : l2 ∉ ls := (List.nodup_cons.mp (List.nodup_cons.mp hnd2).2).1
          have hOn2 : O ∉ ls := fun z => hOn (List.mem_cons_of_mem _ z)
          have hvp : vs ≠ [] := fun z => hne1 (Tr.nil_len (by rw [← hpa.len, z]; rfl))
          have hvp2 : 0 < vs.length := List.length_pos_iff.mpr hvp
          have hlen2 : n + 2 ≤ t.length := by
            have := congrArg List.length ht'
            rw [List.length_drop, List.length_cons] at this
            omega
          have hdr2 : t.drop (n + 2) = t' := by
            have e3 : t.drop (n + 1) = 42 :: t' := ht'
            have := congrArg (List.drop 1) e3
            rw [List.drop_drop] at this
            simpa using this
          refine iteDD (fun z => absurd z (by decide)) (fun _ => ?_)
          walk_at "w"
          refine iteDD (fun z => absurd z (by decide)) (fun _ => ?_)
          walk_at "w"
          refine iteDD (fun _ => ?_) (fun z => absurd rfl z)
          walk_at "w"
          refine wc_lenL (sq_of hO') ?_
          walk_at "w"
          refine iteDD (fun _ => ?_) (fun z => absurd (by rw [List.length_reverse, List.length_map]; simp; omega) z)
          walk_at "w"
          refine wix_l (sq_of hO') hlast ?_
          walk_at "w"
          refine wc_lenL (sq_of hl) ?_
          walk_at "w"
          refine iteDD (fun _ => ?_) (fun z => absurd (by omega) z)
          walk_at "w"
          refine wsl_S (a := n + 1) (b := n + 1 + 1) hle ?_ (by omega)
          rw [ht', show n + 1 + 1 - (n + 1) = 1 by omega]
          walk_at "w"
          refine iteNN (fun _ => ?_) (fun z => absurd (by simp) z)
          walk_at "w"
          -- part = tuple(open_parts.pop())
          refine ⟨O, _, .ref l, rfl, hO', ?_, ?_⟩
          · rw [List.map_cons, List.reverse_cons, List.length_append, List.getElem?_append_right (by simp)]
            simp
          have hdl : (List.map V.ref (l :: l2 :: ls)).reverse.dropLast = (List.map V.ref (l2 :: ls)).reverse := by
            rw [List.map_cons, List.reverse_cons, List.dropLast_concat]
          rw [hdl]
          have tx0 : TEx H' (upd H' O (.lst (List.map V.ref (l2 :: ls)).reverse)) := tex_lst hO'
          have g1 : (upd H' O (.lst (List.map V.ref (l2 :: ls)).reverse)) l = some (.lst vs) := (upd_ne hOl2).trans hl
          have g2 : (upd H' O (.lst (List.map V.ref (l2 :: ls)).reverse)) l2 = some (.lst vs2) := (upd_ne hl2O).trans hl2
          have hst1 := StkR.upd tx0 hOn2 hst
          have ex1 : Ex H (upd H' O (.lst (List.map V.ref (l2 :: ls)).reverse)) := ex.mut hO0
          generalize hH1 : upd H' O (.lst (List.map V.ref (l2 :: ls)).reverse) = H1 at *
          have gO : H1 O = some (.lst (List.map V.ref (l2 :: ls)).reverse) := by
            rw [← hH1]
            exact upd_same
          walk_at "w"
          refine wc_tupleL (sq_of g1) fun T hT => ?_
          walk_at "w"
          have hTO : O ≠ T := ne_of_none gO hT
          have hTl2 : l2 ≠ T := ne_of_none g2 hT
          have tx1 : TEx H1 (upd H1 T (.tup vs)) := tex_new hT
          have hlast2 : atI ((List.map V.ref (l2 :: ls)).reverse) (-1) = some (.ref l2) := by
            rw [List.map_cons, List.reverse_cons]
            exact atI_last _ _
          refine wix_l (sq_of ((upd_ne hTO).trans gO)) hlast2 ?_
          refine ⟨l2, vs2, rfl, (upd_ne hTl2).trans g2, ?_⟩
          walk_at "w"
          have hvl2 : vs2.length ≤ n := by
            rw [hpa2.len]
            exact hsz e2 (List.mem_cons_of_mem _ List.mem_cons_self)
          refine ⟨vs2, (upd_ne hTl2).trans g2, by omega, ?_⟩
          walk_at "w"
          have tx2 : TEx (upd H1 T (.tup vs)) (upd (upd H1 T (.tup vs)) l2 (.lst (vs2 ++ [.ref T]))) := tex_lst ((upd_ne hTl2).trans g2)
          have tx3 := (tx0.trans tx1).trans tx2
          refine ⟨⟨n + 2, _, _, l2 :: ls, e2.app (.st e1 .nil) :: es', rfl, hlen2, (ex1.trans (Ex.new hT)).mut hl20, ?_, hnd2, fun x hx => hfr x (List.mem_cons_of_mem _ hx), ⟨⟨_, upd_same, (hpa2.mono tx3).app (.st ?_ (hpa.mono tx3) .nil)⟩, StkR.upd tx2 hn2 (StkR.upd tx1 (hst1.ne hT) hst1)⟩, ?_, ?_, ?_⟩, ?_⟩
          · exact (upd_ne (Ne.symm hl2O)).trans ((upd_ne hTO).trans gO)
          · exact (upd_ne (Ne.symm hTl2)).trans upd_same
          · rw [hdr2]
            exact hrun2
          · rw [List.length_cons, List.length_cons] at hls
            rw [List.length_cons]
            omega
          · intro x hx
            rcases List.mem_cons.mp hx with rfl | hx
            · rw [Tr.len_app]
              have := hsz e2 (List.mem_cons_of_mem _ List.mem_cons_self)
              show e2.len + 1 ≤ n + 2
              omega
            · have := hsz x (List.mem_cons_of_mem _ (List.mem_cons_of_mem _ hx))
              omega
          · show t.length - ((n : Int) + 1 + 1).toNat < t.length - (n : Int).toNat
            omega
      · -- the end
        have hn2 : n = t.length := by
          have : ¬ (n < t.length) := by simpa using hb
          omega
        rw [List.drop_of_length_le (by omega)] at hrun
        have hes := Tr.run_end hrun
        subst hes
        match ls, hst, hO', hnd, hfr, hls with
        | [], hst, _, _, _, _ => exact hst.elim
        | _ :: _ :: _, hst, _, _, _, _ => exact hst.2.elim
        | [l], hst, hO', hnd, hfr, hls =>
        obtain ⟨⟨vs, hl, hpa⟩, _⟩ := hst
        replace hO' : H' O = some (.lst [.ref l]) := hO'
        walk_at "w"
        refine wc_lenL (sq_of hO') ?_
        walk_at "w"
        refine iteDD (fun z => absurd z (by simp)) (fun _ => ?_)
        walk_at "w"
        refine wc_lenL (sq_of hl) ?_
        walk_at "w"
        have hvp : vs ≠ [] := fun z => hne (Tr.nil_len (by rw [← hpa.len, z]; rfl))
        have hvp2 : 0 < vs.length := List.length_pos_iff.mpr hvp
        refine iteDD (fun z => absurd z (by omega)) (fun _ => ?_)
        walk_at "w"
        refine wc_tupleL (sq_of hl) fun T hT => ?_
        exact q _ T vs (ex.trans (Ex.new hT)) upd_same (hpa.mono (tex_new hT))
end

def spStars : Sp := fun vs H Q _ => ∃ e : Tr, vs = [.str (S e.text)] ∧ e.ok ∧ e ≠ .nil ∧ e.text.length ≤ 1000 ∧ ∀ H', Ex H H' → Q (.int ((e.text.count 42 : Nat) : Int)) H'
def spLetters : Sp := fun vs H Q _ => ∃ e : Tr, vs = [.str (S e.text)] ∧ e.ok ∧ e ≠ .nil ∧ e.text.length ≤ 1000 ∧ ∀ H', Ex H H' → Q (.int ((e.text.length : Int) - 3 * ((e.text.count 42 : Nat) : Int))) H'
def spKey : Sp := fun vs H Q _ => ∃ l : List Nat, vs = [.str (S l)] ∧ l.length ≤ 1000 ∧ ∀ H' p, Ex H H' → H' p = some (.tup [.int ((l.count 42 : Nat) : Int), .int ((l.length : Int) - 3 * ((l.count 42 : Nat) : Int)), .str (S l)]) → Q (.ref p) H'
def spExpanded : Sp := fun vs H Q _ => ∃ (l : List Nat) (n : Nat) (r : List Nat), vs = [.str (S l), .int n] ∧ 1 ≤ n ∧ n ≤ 10 ∧ l.length ≤ 1000 ∧ Tr.runX n l [[]] = some r ∧ r.length ≤ 100000 ∧ ∀ H', Ex H H' → Q (.str (S r)) H'
section
variable {P : Program} {w : World} {K : PySem.W.Frag} {mg : Str → Option Value} {base : Heap}
theorem ok_stars {f : Addr} {fd : FuncData} {k j : Nat} (F : Fun K "stars" "stars" s_stars f fd) (cp : Cal P w K mg base CX0 j "parts_of" spParts) (hj : j ≤ k) : FnOk P w K mg base CX0 (k + 1) f fd ["text"] spStars := by
  refine F.ok sc_stars (fun vs H Q E h => ?_) (fun cdv A outer s H vs Q E hr h => ?_)
  · obtain ⟨e, rfl, _⟩ := h
    rfl
  · obtain ⟨e, rfl, hok, hne, hlen, q⟩ := h
    have nd := sc_stars.nd
    refine wss_of rfl ?_
    walk_at "w"
    refine we_cal cp (hr.mono hj) pass0 ?_
    walk_at "w"
    refine ⟨e, rfl, hok, hne, hlen, fun H' T ws ex _ _ => ?_⟩
    walk_at "w"
    exact q _ ex
theorem ok_letters {f : Addr} {fd : FuncData} {k j : Nat} (F : Fun K "letters" "letters" s_letters f fd) (ml : mg "len" = none) (cp : Cal P w K mg base CX0 j "parts_of" spParts) (hj : j ≤ k) : FnOk P w K mg base CX0 (k + 1) f fd ["text"] spLetters := by
  refine F.ok sc_letters (fun vs H Q E h => ?_) (fun cdv A outer s H vs Q E hr h => ?_)
  · obtain ⟨e, rfl, _⟩ := h
    rfl
  · obtain ⟨e, rfl, hok, hne, hlen, q⟩ := h
    have nd := sc_letters.nd
    have hle : e.text.length ≤ 1000000 := by omega
    refine wss_of rfl ?_
    walk_at "w"
    refine we_cal cp (hr.mono hj) pass0 ?_
    walk_at "w"
    refine ⟨e, rfl, hok, hne, hlen, fun H' T ws ex _ _ => ?_⟩
    walk_at "w"
    exact q _ ex
theorem ok_key {f : Addr} {fd : FuncData} {k : Nat} (F : Fun K "_law_key" "_law_key" s_law_key f fd) (ml : mg "len" = none) : FnOk P w K mg base CX0 (k + 1) f fd ["_law_text"] spKey := by
  refine F.ok sc_law_key (fun vs H Q E h => ?_) (fun cdv A outer s H vs Q E hr h => ?_)
  · obtain ⟨e, rfl, _⟩ := h
    rfl
  · obtain ⟨l, rfl, hlen, q⟩ := h
    have nd := sc_law_key.nd
    have hle : l.length ≤ 1000000 := by omega
    refine wss_of rfl ?_
    walk_at "w"
    refine ⟨sz_le (by simp), fun p hp => ?_⟩
    exact q _ p (Ex.new hp) upd_same
theorem ok_expanded {f : Addr} {fd : FuncData} {k : Nat} (F : Fun K "_law_expanded" "_law_expanded" s_law_expanded f fd) : FnOk P w K mg base CX0 (k + 1) f fd ["_law_text", "_law_n"] spExpanded := by
  refine F.ok sc_law_expanded (fun vs H Q E h => ?_) (fun cdv A outer s H vs Q E hr h => ?_)
  · obtain ⟨l, n, r, rfl, _⟩ := h
    rfl
  · obtain ⟨l, n, r, rfl, hn1, hn2, hlen, hrun, hrl, q⟩ := h
    have nd := sc_law_expanded.nd
    refine wss_of rfl ?_
    walk_at "w"
    refine ⟨sz_le (by simp), fun R hR => ?_⟩
    walk_at "w"
    refine ws_forS PassesOwn.never rfl ?_
    walk_at "w"
    refine ⟨fun i σ H' => Ex H H' ∧ ∃ (y3 y4 : Option V) (st : List (List Nat)), σ = [some (.str (S l)), some (.int n), some (.ref R), y3, y4] ∧ H' R = some (.lst ((st.map fun x => V.str (S x)).reverse)) ∧ st.length ≤ i + 1 ∧ Tr.runX n (l.drop i) st = some r, ⟨Ex.new hR, none, none, [[]], rfl, upd_same, Nat.le_refl _, by rw [List.drop_zero]; exact hrun⟩, ?_, ?_⟩
    · rintro i c σ H' hc ⟨ex, y3, y4, st, rfl, hR', hst, hrun⟩
      have hi : i < l.length := by
        by_cases hi : i < l.length
        · exact hi
        · rw [List.getElem?_eq_none (by omega)] at hc
          cases hc
      have hdr : l.drop i = c :: l.drop (i + 1) := by
        rw [List.drop_eq_getElem_cons hi]
        rw [List.getElem?_eq_getElem hi] at hc
        rw [Option.some.inj hc]
      rw [hdr] at hrun
      cases st with
      | nil => cases hrun
      | cons x st =>
      have hsz := Tr.runX_size hn1 _ _ _ hrun
      rw [List.map_cons, List.sum_cons] at hsz
      have hlast : atI ((List.map (fun x => V.str (S x)) (x :: st)).reverse) (-1) = some (.str (S x)) := by
        rw [List.map_cons, List.reverse_cons]
        exact atI_last _ _
      have hset : ∀ (st : List (List Nat)) (x : List Nat) (v : V), ixN ((List.map (fun x => V.str (S x)) (x :: st)).reverse).length (-1) = some st.length ∧ ((List.map (fun x => V.str (S x)) (x :: st)).reverse).set st.length v = (List.map (fun x => V.str (S x)) st).reverse ++ [v] := fun st x v => by
        constructor
        · unfold ixN
          rw [if_neg (by decide), if_pos (by rw [List.length_reverse, List.length_map, List.length_cons]; omega), List.length_reverse, List.length_map, List.length_cons]
          congr 1
          omega
        · rw [List.map_cons, List.reverse_cons]
          rw [List.set_append_right _ _ (by simp)]
          simp
      walk_at "w"
      rcases Tr.runX_next hrun with ⟨rfl, hrun2⟩ | ⟨rfl, x2, st2, rfl, hrun2⟩ | ⟨rfl, hrun2⟩ | ⟨hc1, hc2, hc3, hrun2⟩
      · refine iteDD (fun _ => ?_) (fun z => absurd rfl z)
        walk_at "w"
        refine ⟨R, _, rfl, hR', ?_⟩
        walk_at "w"
        refine ⟨_, hR', by rw [List.length_reverse, List.length_map]; omega, ?_⟩
        walk_at "w"
        refine ⟨ex.mut hR, _, _, [] :: x :: st, rfl, ?_, by simp at hst ⊢; omega, hrun2⟩
        rw [upd_same]
        simp
      · refine iteDD (fun z => absurd z (by decide)) (fun _ => ?_)
        walk_at "w"
        refine iteDD (fun _ => ?_) (fun z => absurd rfl z)
        walk_at "w"
        refine ⟨R, _, .str (S x), rfl, hR', ?_, ?_⟩
        · rw [List.map_cons, List.reverse_cons, List.length_append, List.getElem?_append_right (by simp)]
          simp
        have hdl : (List.map (fun x => V.str (S x)) (x :: x2 :: st2)).reverse.dropLast = (List.map (fun x => V.str (S x)) (x2 :: st2)).reverse := by
          rw [List.map_cons, List.reverse_cons, List.dropLast_concat]
        rw [hdl]
        walk_at "w"
        refine wix_l (sq_of upd_same) (i := -1) (v := .str (S x2)) ?_ ?_
        · rw [List.map_cons, List.reverse_cons]
          exact atI_last _ _
        walk_at "w"
        have hsz2 := Tr.runX_size hn1 _ _ _ hrun2
        rw [List.map_cons, List.sum_cons, List.length_append, rep_len] at hsz2
        refine wo_mulSI (by omega) (by omega) (by omega) ?_
        refine wo_addSS (by rw [rep_len]; omega) ?_
        walk_at "w"
        refine wset_l upd_same (hset st2 x2 (.str (S (x2 ++ rep n x)))).1 ?_
        refine ⟨(ex.mut hR).mut hR, _, _, (x2 ++ rep n x) :: st2, rfl, ?_, by simp at hst ⊢; omega, hrun2⟩
        rw [upd_same, (hset st2 x2 (.str (S (x2 ++ rep n x)))).2]
        simp
      · refine iteDD (fun z => absurd z (by decide)) (fun _ => ?_)
        walk_at "w"
        refine iteDD (fun z => absurd z (by decide)) (fun _ => ?_)
        walk_at "w"
        refine iteNN (fun _ => ?_) (fun z => absurd rfl z)
        walk_at "w"
        exact ⟨ex, _, _, x :: st, rfl, hR', by omega, hrun2⟩
      · refine iteDD (fun z => absurd z (by simpa using hc1)) (fun _ => ?_)
        walk_at "w"
        refine iteDD (fun z => absurd z (by simpa using hc2)) (fun _ => ?_)
        walk_at "w"
        refine iteNN (fun z => absurd z (by simpa using hc3)) (fun _ => ?_)
        walk_at "w"
        refine wix_l (sq_of hR') hlast ?_
        walk_at "w"
        refine wo_addSS (by show x.length + 1 ≤ 1000000; omega) ?_
        walk_at "w"
        refine wset_l hR' (hset st x (.str (S (x ++ [c])))).1 ?_
        refine ⟨ex.mut hR, _, _, (x ++ [c]) :: st, rfl, ?_, by simp at hst ⊢; omega, hrun2⟩
        rw [upd_same, (hset st x (.str (S (x ++ [c])))).2]
        simp
    · rintro σ H' ⟨ex, y3, y4, st, rfl, hR', hst, hrun⟩
      rw [List.drop_of_length_le (Nat.le_refl _)] at hrun
      have hes := Tr.runX_end hrun
      subst hes
      replace hR' : H' R = some (.lst [.str (S r)]) := hR'
      walk_at "w"
      exact q _ ex
end

def rowsOf (n : Nat) : Tr → List (List Nat)
  | .nil => []
  | .ch c r => [c] :: rowsOf n r
  | .st i r => rep n (i.row n) :: rowsOf n r
theorem rowsOf_flat (n : Nat) : ∀ e : Tr, (rowsOf n e).flatten = e.row n
  | .nil => rfl
  | .ch c r => by
    show [c] ++ (rowsOf n r).flatten = c :: r.row n
    rw [rowsOf_flat n r]
    rfl
  | .st i r => by
    show rep n (i.row n) ++ (rowsOf n r).flatten = rep n (i.row n) ++ r.row n
    rw [rowsOf_flat n r]
theorem PartsAt.at {H : Hp} (n : Nat) : ∀ {ws : List V} {e : Tr} {i : Nat} {v : V}, PartsAt H ws e → ws[i]? = some v →
    (∃ c, v = .str (S [c]) ∧ (rowsOf n e)[i]? = some [c]) ∨ (∃ a us t, v = .ref a ∧ H a = some (.tup us) ∧ PartsAt H us t ∧ t.depth + 1 ≤ e.depth ∧ (rowsOf n e)[i]? = some (rep n (t.row n)) ∧ n * (t.row n).length ≤ (e.row n).length ∧ t.text.length ≤ e.text.length)
  | _, _, _, _, .nil, h => by simp at h
  | _, _, 0, _, .ch c _, h => by
    simp at h
    subst h
    exact .inl ⟨c, rfl, rfl⟩
  | _, _, 0, _, .st (i := t) (r := r) ha hi _, h => by
    simp at h
    subst h
    refine .inr ⟨_, _, t, rfl, ha, hi, ?_, rfl, Tr.row_part.1, ?_⟩
    · show t.depth + 1 ≤ max (t.depth + 1) r.depth
      omega
    · show t.text.length ≤ (40 :: (t.text ++ 41 :: 42 :: r.text)).length
      simp
      omega
  | _, _, i + 1, v, .ch (r := r) c hr, h => by
    rcases PartsAt.at n (i := i) (v := v) hr (by simpa using h) with ⟨c', a, b⟩ | ⟨a, us, t, h1, h2, h3, h4, h5, h6, h7⟩
    · exact .inl ⟨c', a, by simpa [rowsOf] using b⟩
    · refine .inr ⟨a, us, t, h1, h2, h3, h4, by simpa [rowsOf] using h5, ?_, ?_⟩
      · show _ ≤ (r.row n).length + 1
        omega
      · show _ ≤ r.text.length + 1
        omega
  | _, _, i + 1, v, .st (i := q) (r := r) _ _ hr, h => by
    rcases PartsAt.at n (i := i) (v := v) hr (by simpa using h) with ⟨c', a, b⟩ | ⟨a, us, t, h1, h2, h3, h4, h5, h6, h7⟩
    · exact .inl ⟨c', a, by simpa [rowsOf] using b⟩
    · refine .inr ⟨a, us, t, h1, h2, h3, ?_, by simpa [rowsOf] using h5, ?_, ?_⟩
      · show t.depth + 1 ≤ max (q.depth + 1) r.depth
        omega
      · exact Nat.le_trans h6 Tr.row_part.2
      · show _ ≤ (40 :: (q.text ++ 41 :: 42 :: r.text)).length
        simp
        omega
theorem rowsOf_len (n : Nat) : ∀ e : Tr, (rowsOf n e).length = e.len
  | .nil => rfl
  | .ch c r => by
    show (rowsOf n r).length + 1 = r.len + 1
    rw [rowsOf_len n r]
  | .st i r => by
    show (rowsOf n r).length + 1 = r.len + 1
    rw [rowsOf_len n r]
theorem sum_len : ∀ ls : List (List Nat), ((ls.map S).map (·.length)).sum = ls.flatten.length
  | [] => rfl
  | l :: ls => by
    rw [List.map_cons, List.map_cons, List.sum_cons, sum_len ls, S_len]
    simp
def spRow (d : Nat) : Sp := fun vs H Q _ => ∃ (T : Addr) (n : Nat) (ws : List V) (e : Tr), vs = [.ref T, .int n] ∧ H T = some (.tup ws) ∧ PartsAt H ws e ∧ e.depth ≤ d ∧ 1 ≤ n ∧ n ≤ 10 ∧ e.text.length ≤ 1000 ∧ (e.row n).length ≤ 100000 ∧ ∀ H', Ex H H' → Q (.str (S (e.row n))) H'
section
variable {P : Program} {w : World} {K : PySem.W.Frag} {mg : Str → Option Value} {base : Heap}
theorem row_step {f : Addr} {fd : FuncData} (F : Fun K "row_of_parts" "row_of_parts" s_row_of_parts f fd) (mi : mg "isinstance" = none) (ms : mg "str" = none) (d : Nat)
    (cal : ∀ d', d = d' + 1 → Cal P w K mg base CX0 (d' + 1) "row_of_parts" (spRow d')) : FnOk P w K mg base CX0 (d + 1) f fd ["parts", "n"] (spRow d) := by
  refine F.ok sc_row_of_parts (fun vs H Q E h => ?_) (fun cdv A outer s H vs Q E hr h => ?_)
  · obtain ⟨T, n, ws, e, rfl, _⟩ := h
    rfl
  · obtain ⟨T, n, ws, e, rfl, hT, hpa, hd, hn1, hn2, hws, hrow, q⟩ := h
    have nd := sc_row_of_parts.nd
    have hwl : ws.length ≤ 1000 := by
      rw [hpa.len]
      exact Nat.le_trans e.len_le hws
    refine wss_of rfl ?_
    walk_at "w"
    refine we_lcT (own := [("part", 2)]) (blkOk_by (N := N_row_of_parts) (sc := defScope s_row_of_parts) (by decide +kernel)) nd rfl ?_
    walk_at "w"
    refine ⟨T, ws, rfl, st_of hT, by omega, fun _ => False, fun _ H' => Ex H H', fun i v _ => ∃ r, v = .str (S r) ∧ (rowsOf n e)[i]? = some r, fun _ z => z.elim, Ex.refl _, fun i H' ex => ex.t (st_of hT), fun i H' D o hD ex => ex.mut hD, fun _ _ _ _ h _ => h, ?_, ?_⟩
    · intro i v H2 hv ex s1 H0 C cl fp
      walk_at "w"
      refine ⟨rfl, fun s2 H02 C2 cl2 fp2 => ?_⟩
      rcases hpa.at n hv with ⟨c, rfl, hc⟩ | ⟨a, us, t, rfl, ha, hpt, hdt, hrt, hnt, htt⟩
      · walk_at "w"
        exact ⟨ex, ⟨_, rfl, hc⟩, TEx.refl _, fun a o _ h => h⟩
      · walk_at "w"
        refine wc_isi_tup (ex _ _ ha) ?_
        walk_at "w"
        obtain ⟨d', rfl⟩ : ∃ d', d = d' + 1 := ⟨d - 1, by omega⟩
        refine we_cal (cal d' rfl) (show Room (d' + 1) _ from ⟨hr.hd, by have := hr.dp; exact hr.dp, hr.un⟩) pass0 ?_
        walk_at "w"
        have hnl : (t.row n).length ≤ n * (t.row n).length := Nat.le_mul_of_pos_left _ hn1
        refine ⟨a, n, us, t, rfl, ex _ _ ha, hpt.mono ex.tex, by omega, hn1, hn2, by omega, by omega, fun H' ex2 => ?_⟩
        refine wo_mulIS (by omega) (by omega) (by omega) ?_
        exact ⟨ex.trans ex2, ⟨_, rfl, hrt⟩, ex2.tex, fun a o _ h => ex2 a o h⟩
    · intro D ys H2 hD ex hys hl hE _
      have hlen : (rowsOf n e).length = ws.length := by rw [rowsOf_len, hpa.len]
      have e1 : ys = ((rowsOf n e).map S).map V.str := by
        apply List.ext_getElem?
        intro i
        by_cases hi : i < ys.length
        · obtain ⟨r, hr1, hr2⟩ := hE i _ (List.getElem?_eq_getElem hi)
          rw [List.getElem?_eq_getElem hi, hr1, List.getElem?_map, List.getElem?_map, hr2]
          rfl
        · rw [List.getElem?_eq_none (by omega), List.getElem?_eq_none (by rw [List.length_map, List.length_map]; omega)]
      refine ⟨D, (rowsOf n e).map S, rfl, .inl (sq_of (by rw [← e1]; exact hys)), ?_, ?_⟩
      · rw [sum_len, rowsOf_flat, S_len]
        simp
        omega
      · rw [Wx.join_nil, rowsOf_flat]
        exact q _ ex
theorem ok_row {f : Addr} {fd : FuncData} (F : Fun K "row_of_parts" "row_of_parts" s_row_of_parts f fd) (g : mg "row_of_parts" = some (.ref f)) (b : Binds K fd ["parts", "n"] []) (mi : mg "isinstance" = none) (ms : mg "str" = none) :
    ∀ d, FnOk P w K mg base CX0 (d + 1) f fd ["parts", "n"] (spRow d)
  | 0 => row_step F mi ms 0 (fun d' z => absurd z (by omega))
  | d + 1 => row_step F mi ms (d + 1) (fun d' z => by
    have : d' = d := by omega
    subst this
    exact ⟨f, fd, _, ok_row F g b mi ms d', g, F.kp, b⟩)
def spRowOf : Sp := fun vs H Q _ => ∃ (e : Tr) (n : Nat), vs = [.str (S e.text), .int n] ∧ e.ok ∧ e ≠ .nil ∧ e.text.length ≤ 1000 ∧ e.depth ≤ 4 ∧ 1 ≤ n ∧ n ≤ 10 ∧ (e.row n).length ≤ 100000 ∧ ∀ H', Ex H H' → Q (.str (S (e.row n))) H'
theorem ok_row_of {f : Addr} {fd : FuncData} {k j : Nat} (F : Fun K "row_of" "row_of" s_row_of f fd) (mi : mg "isinstance" = none) (mn : mg "int" = none) (mb : mg "bool" = none) (cp : Cal P w K mg base CX0 j "parts_of" spParts) (hj : j ≤ k) (cr : Cal P w K mg base CX0 5 "row_of_parts" (spRow 4)) (hk : 5 ≤ k) : FnOk P w K mg base CX0 (k + 1) f fd ["text", "n"] spRowOf := by
  refine F.ok sc_row_of (fun vs H Q E h => ?_) (fun cdv A outer s H vs Q E hr h => ?_)
  · obtain ⟨e, n, rfl, _⟩ := h
    rfl
  · obtain ⟨e, n, rfl, hok, hne, hlen, hd, hn1, hn2, hrow, q⟩ := h
    have nd := sc_row_of.nd
    refine wss_of rfl ?_
    walk_at "w"
    refine we_cal cp (hr.mono hj) pass0 ?_
    walk_at "w"
    refine ⟨e, rfl, hok, hne, hlen, fun H' T ws ex hT hpa => ?_⟩
    walk_at "w"
    refine iteDD (fun z => absurd z (by omega)) (fun _ => ?_)
    walk_at "w"
    refine we_cal cr (hr.mono hk) pass0 ?_
    walk_at "w"
    exact ⟨T, n, ws, e, rfl, hT, hpa, hd, hn1, hn2, hlen, hrow, fun H2 ex2 => q _ (ex.trans ex2)⟩
end

def cD : Nat → Nat
  | 0 => 1
  | d + 1 => 2 + 3 * cD d
def bD (d : Nat) : Nat := 1 + 3 * cD d
theorem cD_pos : ∀ d, 1 ≤ cD d
  | 0 => Nat.le_refl _
  | d + 1 => by show 1 ≤ 2 + 3 * cD d; omega
theorem cD_succ (d : Nat) : cD (d + 1) = 1 + bD d := by
  show 2 + 3 * cD d = 1 + (1 + 3 * cD d)
  omega
theorem bT_le : ∀ d, d ≤ 3 → Tr.bT d ≤ 66
  | 0, _ => by decide
  | 1, _ => by decide
  | 2, _ => by decide
  | 3, _ => by decide
  | _ + 4, h => absurd h (by omega)
theorem wd_nil (d : Nat) : Tr.wd d .nil := by cases d <;> exact True.intro
abbrev signs4 : List V := [.str (S [97]), .str (S [98]), .str (S [99]), .str (S [122])]
def spExpr (K : PySem.W.Frag) (d : Nat) : Sp := fun vs H Q _ => ∃ (p sg : Addr) (n : Nat), vs = [.ref p, .ref sg, .int d] ∧ Src H p n ∧ n + bD d ≤ 1000000 ∧ SqL K (pub p H) sg signs4 ∧
  ∀ H' (e : Tr), Ex (pub p H) (pub p H') → Src H' p (n + bD d) → e.ok → e ≠ .nil → e.wd d → e.len ≤ 3 → Q (.str (S e.text)) H'
section
variable {P : Program} {w : World} {K : PySem.W.Frag} {mg : Str → Option Value} {base : Heap}
theorem expr_step {f : Addr} {fd : FuncData} (F : Fun K "_law_expression" "_law_expression" s_law_expression f fd) (mr : mg "range" = none) (cd : Cal P w K mg base CX0 1 "_law_draw" spDraw) (cp : Cal P w K mg base CX0 2 "_law_pick" (spPick K)) (d : Nat) (hd3 : d ≤ 3)
    (cal : ∀ d', d = d' + 1 → Cal P w K mg base CX0 (d' + 3) "_law_expression" (spExpr K d')) : FnOk P w K mg base CX0 (d + 3) f fd ["_law_source_here", "_law_signs", "_law_deep"] (spExpr K d) := by
  refine F.ok (k := d + 2) sc_law_expression (fun vs H Q E h => ?_) (fun cdv A outer s H vs Q E hr h => ?_)
  · obtain ⟨p, sg, n, rfl, _⟩ := h
    rfl
  · obtain ⟨p, sg, n, rfl, hp, hn, hsg, q⟩ := h
    have nd := sc_law_expression.nd
    have hb : bD d = 1 + 3 * cD d := rfl
    refine wss_of rfl ?_
    walk_at "w"
    refine ws_forR PassesOwn.never rfl (by assumption) ?_
    walk_at "w"
    refine we_cal cd (hr.mono (by omega)) pass0 ?_
    walk_at "w"
    refine ⟨p, n, 3, rfl, hp, by omega, by decide, by decide, fun H1 m ex1 hp1 hm0 hm1 => ?_⟩
    walk_at "w"
    refine ⟨by omega, by omega, fun i σ H' => ∃ (e : Tr) (y : Option V), σ = [some (.ref p), some (.ref sg), some (.int d), some (.str (S e.text)), y] ∧ e.ok ∧ e.wd d ∧ e.len = i ∧ Ex (pub p H) (pub p H') ∧ Src H' p (n + 1 + i * cD d), ⟨.nil, none, rfl, True.intro, ?_, rfl, ex1, by rw [Nat.zero_mul]; exact hp1⟩, ?_, ?_⟩
    · cases d <;> exact True.intro
    · rintro i σ H' hi ⟨e, y, rfl, hok, hwd, hel, ex, hs⟩
      have hi3 : i < 3 := by omega
      have hic : i * cD d + cD d ≤ 3 * cD d := by
        have : (i + 1) * cD d ≤ 3 * cD d := Nat.mul_le_mul_right _ (by omega)
        rw [Nat.add_mul] at this
        omega
      have hbt : Tr.bT d ≤ 66 := bT_le d hd3
      have htx : e.text.length ≤ 198 := by
        have h1 := Tr.text_le d e hwd
        have h2 : e.len * Tr.bT d ≤ 3 * 66 := Nat.mul_le_mul (by omega) hbt
        omega
      have hcp := cD_pos d
      walk_at "w"
      refine iteDD (fun hd0 => ?_) (fun hd0 => ?_)
      · obtain ⟨d', rfl⟩ : ∃ d', d = d' + 1 := ⟨d - 1, by omega⟩
        have hcs := cD_succ d'
        have hcp' := cD_pos d'
        have hbp : bD d' = 1 + 3 * cD d' := rfl
        walk_at "w"
        refine we_cal cd (hr.mono (by omega)) pass0 ?_
        walk_at "w"
        refine ⟨p, _, 3, rfl, hs, by omega, by decide, by decide, fun H2 x ex2 hs2 hx0 hx1 => ?_⟩
        walk_at "w"
        refine iteDD (fun hx => ?_) (fun hx => ?_)
        · walk_at "w"
          refine wo_addSS (by show e.text.length + 1 ≤ 1000000; omega) ?_
          refine we_cal (cal d' rfl) (hr.mono (by omega)) pass0 ?_
          walk_at "w"
          refine ⟨p, sg, _, ?_, hs2, by omega, (ex.trans ex2).l hsg, fun H3 t ex3 hs3 hok3 hne3 hwd3 hl3 => ?_⟩
          · congr 3
            simp
          have htx2 : t.text.length ≤ 198 := by
            have h1 := Tr.text_le d' t hwd3
            have h2 : t.len * Tr.bT d' ≤ 3 * 66 := Nat.mul_le_mul hl3 (bT_le d' (by omega))
            omega
          refine wo_addSS (by rw [List.length_append]; show e.text.length + 1 + _ ≤ 1000000; omega) ?_
          walk_at "w"
          refine wo_addSS (by rw [List.length_append, List.length_append]; show e.text.length + 1 + _ + 2 ≤ 1000000; omega) ?_
          walk_at "w"
          refine ⟨e.app (.st t .nil), some (.int i), ?_, Tr.ok_app hok ⟨hne3, hok3, True.intro⟩, Tr.wd_app _ e _ hwd ⟨hwd3, hl3, True.intro⟩, by rw [Tr.len_app, hel]; rfl, (ex.trans ex2).trans ex3, hs3.mono (by rw [Nat.add_mul]; omega)⟩
          rw [Tr.text_app]
          have et : e.text ++ (Tr.st t .nil).text = e.text ++ [40] ++ t.text ++ [41, 42] := by
            show e.text ++ (40 :: (t.text ++ 41 :: 42 :: [])) = _
            simp
          rw [et]
          rfl
        · walk_at "w"
          refine we_cal cp (hr.mono (by omega)) pass0 ?_
          walk_at "w"
          refine ⟨p, _, sg, signs4, rfl, hs2, by omega, (ex.trans ex2).l hsg, by decide, by decide, fun H3 k v ex3 hs3 hv => ?_⟩
          obtain ⟨c, rfl, hc1, hc2⟩ : ∃ c, v = .str (S [c]) ∧ 97 ≤ c ∧ c ≤ 122 := by
            match k, hv with
            | 0, hv => cases hv; exact ⟨97, rfl, by decide, by decide⟩
            | 1, hv => cases hv; exact ⟨98, rfl, by decide, by decide⟩
            | 2, hv => cases hv; exact ⟨99, rfl, by decide, by decide⟩
            | 3, hv => cases hv; exact ⟨122, rfl, by decide, by decide⟩
            | k + 4, hv => simp at hv
          refine wo_addSS (by show e.text.length + 1 ≤ 1000000; omega) ?_
          walk_at "w"
          refine ⟨e.app (.ch c .nil), some (.int i), ?_, Tr.ok_app hok ⟨hc1, hc2, True.intro⟩, Tr.wd_app _ e _ hwd (Tr.wd_ch (wd_nil _)), by rw [Tr.len_app, hel]; rfl, (ex.trans ex2).trans ex3, hs3.mono (by rw [Nat.add_mul]; omega)⟩
          rw [Tr.text_app]
          rfl
      · walk_at "w"
        refine we_cal cp (hr.mono (by omega)) pass0 ?_
        walk_at "w"
        refine ⟨p, _, sg, signs4, rfl, hs, by omega, ex.l hsg, by decide, by decide, fun H3 k v ex3 hs3 hv => ?_⟩
        obtain ⟨c, rfl, hc1, hc2⟩ : ∃ c, v = .str (S [c]) ∧ 97 ≤ c ∧ c ≤ 122 := by
          match k, hv with
          | 0, hv => cases hv; exact ⟨97, rfl, by decide, by decide⟩
          | 1, hv => cases hv; exact ⟨98, rfl, by decide, by decide⟩
          | 2, hv => cases hv; exact ⟨99, rfl, by decide, by decide⟩
          | 3, hv => cases hv; exact ⟨122, rfl, by decide, by decide⟩
          | k + 4, hv => simp at hv
        refine wo_addSS (by show e.text.length + 1 ≤ 1000000; omega) ?_
        walk_at "w"
        refine ⟨e.app (.ch c .nil), some (.int i), ?_, Tr.ok_app hok ⟨hc1, hc2, True.intro⟩, Tr.wd_app _ e _ hwd (Tr.wd_ch (wd_nil _)), by rw [Tr.len_app, hel]; rfl, ex.trans ex3, hs3.mono (by rw [Nat.add_mul]; omega)⟩
        rw [Tr.text_app]
        rfl
    · rintro σ H' ⟨e, y, rfl, hok, hwd, hel, ex, hs⟩
      walk_at "w"
      refine q _ e ex (hs.mono ?_) hok (fun z => ?_) hwd (by omega)
      · have : (1 + m).toNat * cD d ≤ 3 * cD d := Nat.mul_le_mul_right _ (by omega)
        omega
      · rw [z] at hel
        have : Tr.len Tr.nil = 0 := rfl
        omega
theorem ok_expr {f : Addr} {fd : FuncData} (F : Fun K "_law_expression" "_law_expression" s_law_expression f fd) (g : mg "_law_expression" = some (.ref f)) (b : Binds K fd ["_law_source_here", "_law_signs", "_law_deep"] []) (mr : mg "range" = none) (cd : Cal P w K mg base CX0 1 "_law_draw" spDraw) (cp : Cal P w K mg base CX0 2 "_law_pick" (spPick K)) :
    ∀ d, d ≤ 3 → FnOk P w K mg base CX0 (d + 3) f fd ["_law_source_here", "_law_signs", "_law_deep"] (spExpr K d)
  | 0, h => expr_step F mr cd cp 0 h (fun d' z => absurd z (by omega))
  | d + 1, h => expr_step F mr cd cp (d + 1) h (fun d' z => by
    have : d' = d := by omega
    subst this
    exact ⟨f, fd, _, ok_expr F g b mr cd cp d' (by omega), g, F.kp, b⟩)
end

def spLaw (K : PySem.W.Frag) : Sp := fun vs H Q _ => ∃ (a : Addr) (ns : List Int), vs = [.ref a] ∧ SqL K H a (ns.map V.int) ∧ ∀ H', Q (.bl true) H'
theorem bR3 : Tr.bR 3 = 1728 := by decide
theorem row_small {n : Nat} {e : Tr} (hn : n ≤ 4) (h : e.wd 3) (hl : e.len ≤ 3) : (e.row n).length ≤ 5184 := by
  have h1 := Tr.row_le n hn 3 e h
  have h2 : e.len * Tr.bR 3 ≤ 3 * 1728 := Nat.mul_le_mul hl (by rw [bR3]; exact Nat.le_refl _)
  omega
theorem text_small {e : Tr} (h : e.wd 3) (hl : e.len ≤ 3) : e.text.length ≤ 198 := by
  have h1 := Tr.text_le 3 e h
  have h2 : e.len * Tr.bT 3 ≤ 3 * 66 := Nat.mul_le_mul hl (bT_le 3 (by decide))
  omega
section
variable {P : Program} {w : World} {K : PySem.W.Frag} {mg : Str → Option Value} {base : Heap}
theorem ok_law {f : Addr} {fd : FuncData} (F : Fun K "law" "law" s_law f fd) (mr : mg "range" = none) (ml : mg "len" = none)
    (cs : Cal P w K mg base CX0 1 "_law_source" (spSource K)) (cd : Cal P w K mg base CX0 1 "_law_draw" spDraw) (ce : Cal P w K mg base CX0 6 "_law_expression" (spExpr K 3))
    (ck : Cal P w K mg base CX0 1 "_law_key" spKey) (cx : Cal P w K mg base CX0 1 "_law_expanded" spExpanded) (cst : Cal P w K mg base CX0 2 "stars" spStars) (cl : Cal P w K mg base CX0 2 "letters" spLetters) (cr : Cal P w K mg base CX0 6 "row_of" spRowOf) : FnOk P w K mg base CX0 8 f fd ["_law_script"] (spLaw K) := by
  refine F.ok (k := 7) sc_law (fun vs H Q E h => ?_) (fun cdv A outer s H vs Q E hr h => ?_)
  · obtain ⟨a, ns, rfl, _⟩ := h
    rfl
  · obtain ⟨a, ns, rfl, hS, q⟩ := h
    have nd := sc_law.nd
    have hu := hr.units
    refine wss_of rfl ?_
    walk_at "w"
    refine we_cal cs (hr.mono (by decide)) pass0 ?_
    walk_at "w"
    refine ⟨a, ns, rfl, hS, fun H1 p ex1 hp1 hs1 => ?_⟩
    walk_at "w"
    refine ws_forR PassesOwn.never rfl (by assumption) ?_
    walk_at "w"
    refine ⟨by decide, by decide, fun i σ H' => ∃ y2 y3 y4 y5, σ = [some (.ref a), some (.ref p), y2, y3, y4, y5] ∧ Src H' p (i * 161), ⟨none, none, none, none, rfl, by rw [Nat.zero_mul]; exact hs1⟩, ?_, ?_⟩
    · rintro i σ H' hi ⟨y2, y3, y4, y5, rfl, hs⟩
      have hi4 : i < 4 := by
        have : Int.toNat 4 = 4 := rfl
        omega
      walk_at "w"
      refine we_cal ce (hr.mono (by decide)) pass0 ?_
      walk_at "w"
      refine ⟨sz_le (by simp), fun sg hsg => ?_⟩
      walk_at "w"
      have hne : sg ≠ p := hs.ne hsg
      have hb3 : bD 3 = 160 := by decide
      refine ⟨p, sg, i * 161, rfl, hs.ex (Ex.new hsg), by omega, sq_of (pub_get hne upd_same), fun H2 e ex2 hs2 hok hnn hwd hl => ?_⟩
      have htx := text_small hwd hl
      walk_at "w"
      refine we_cal ck (hr.mono (by decide)) pass0 ?_
      walk_at "w"
      refine ⟨e.text, rfl, by omega, fun H3 kt ex3 hk => ?_⟩
      walk_at "w"
      refine we_cal cst (hr.mono (by decide)) pass0 ?_
      walk_at "w"
      refine ⟨e, rfl, hok, hnn, by omega, fun H4 ex4 => ?_⟩
      walk_at "w"
      refine we_cal cl (hr.mono (by decide)) pass0 ?_
      walk_at "w"
      refine ⟨e, rfl, hok, hnn, by omega, fun H5 ex5 => ?_⟩
      walk_at "w"
      refine ⟨sz_le (by simp), fun l1 h1 => ?_⟩
      walk_at "w"
      refine ⟨sz_le (by simp), fun l2 h2 => ?_⟩
      have g1 : l1 ≠ l2 := ne_of_none upd_same h2
      refine wo_neDp hu (.lst (sq_of (upd_get g1 upd_same)) (.cons (.int _) (.cons (.int _) .nil))) (.lst (sq_of upd_same) (.cons (.int _) (.cons (.int _) .nil))) rfl rfl ?_
      rw [SeqAt.eqv_refl _ rfl]
      walk_at "w"
      have hs6 : Src (upd (upd H5 l1 (.lst [.int ((e.text.count 42 : Nat) : Int), .int ((e.text.length : Int) - 3 * ((e.text.count 42 : Nat) : Int))])) l2 (.lst [.int ((e.text.count 42 : Nat) : Int), .int ((e.text.length : Int) - 3 * ((e.text.count 42 : Nat) : Int))])) p (i * 161 + 160) := ((((hs2.mono (by omega)).ex ex3).ex ex4).ex ex5).ex (Ex.new h1) |>.ex (Ex.new h2)
      generalize (upd (upd H5 l1 (.lst [.int ((e.text.count 42 : Nat) : Int), .int ((e.text.length : Int) - 3 * ((e.text.count 42 : Nat) : Int))])) l2 (.lst [.int ((e.text.count 42 : Nat) : Int), .int ((e.text.length : Int) - 3 * ((e.text.count 42 : Nat) : Int))])) = H6 at hs6 ⊢
      refine ws_forT PassesOwn.never rfl ?_
      walk_at "w"
      refine we_cal cd (hr.mono (by decide)) pass0 ?_
      walk_at "w"
      refine ⟨p, _, 4, rfl, hs6, by omega, by decide, by decide, fun H7 m ex7 hs7 hm0 hm1 => ?_⟩
      walk_at "w"
      refine ⟨sz_le (by simp), fun t3 ht3 => ?_⟩
      refine ⟨t3, _, rfl, st_of upd_same, fun _ σ H' => (∃ y5, σ = [some (.ref a), some (.ref p), some (.int i), some (.str (S e.text)), some (.ref kt), y5]) ∧ Ex (upd H7 t3 (.tup [.int 1, .int 2, .int (1 + m)])) H', ⟨⟨_, rfl⟩, Ex.refl _⟩, ?_, ?_, ?_⟩
      · rintro i' σ H' _ ⟨_, ex⟩
        exact ex.t (st_of upd_same)
      · rintro i' x σ H' hx ⟨⟨y5, rfl⟩, ex⟩
        obtain ⟨n, rfl, hn1, hn2⟩ : ∃ n : Nat, x = .int n ∧ 1 ≤ n ∧ n ≤ 4 := by
          match i', hx with
          | 0, hx => cases hx; exact ⟨1, rfl, by decide, by decide⟩
          | 1, hx => cases hx; exact ⟨2, rfl, by decide, by decide⟩
          | 2, hx => cases hx; exact ⟨(1 + m).toNat, by congr 1; omega, by omega, by omega⟩
          | i' + 3, hx => simp at hx
        have hrs := row_small hn2 hwd hl
        have hle : (e.row n).length ≤ 1000000 := by omega
        walk_at "w"
        refine we_cal cx (hr.mono (by decide)) pass0 ?_
        walk_at "w"
        refine ⟨e.text, n, e.row n, rfl, hn1, by omega, by omega, Tr.runX_all hok, by omega, fun H8 ex8 => ?_⟩
        walk_at "w"
        refine iteDD (fun h3 => ?_) (fun h3 => ?_)
        · walk_at "w"
          refine we_cal cr (hr.mono (by decide)) pass0 ?_
          walk_at "w"
          refine ⟨e, n, rfl, hok, hnn, by omega, ?_, hn1, by omega, by omega, fun H9 ex9 => ?_⟩
          · have := Tr.wd_depth 3 e hwd
            omega
          refine we_cal cx (hr.mono (by decide)) pass0 ?_
          walk_at "w"
          refine ⟨e.text, n, e.row n, rfl, hn1, by omega, by omega, Tr.runX_all hok, by omega, fun H10 ex10 => ?_⟩
          walk_at "w"
          refine iteNN (fun _ => ?_) (fun z => absurd rfl z)
          walk_at "w"
          exact ⟨⟨_, rfl⟩, ((ex.trans ex8).trans ex9).trans ex10⟩
        · walk_at "w"
          exact ⟨⟨_, rfl⟩, ex.trans ex8⟩
      · rintro σ H' ⟨⟨y5, rfl⟩, ex⟩
        have hs8 : Src H' p (i * 161 + 161) := (hs7.ex (Ex.new ht3)).ex ex
        refine ws_cons (ws_set nd rfl ?_)
        refine WE.mono (Q := fun v H2 => H2 = H' ∧ ∃ e' : Tr, v = .str (S e'.text) ∧ e'.ok ∧ e' ≠ .nil ∧ e'.wd 3 ∧ e'.len ≤ 3) (fun v H2 hv => ?_) ?_
        · obtain ⟨rfl, e', rfl, hok', hnn', hwd', hl'⟩ := hv
          have htx' := text_small hwd' hl'
          have hle' : e'.text.length ≤ 1000000 := by omega
          have hst : (Tr.st e' .nil).text = [40] ++ e'.text ++ [41, 42] := by
            show 40 :: (e'.text ++ 41 :: 42 :: []) = _
            simp
          have hap : (e'.app (.ch 97 .nil)).text = e'.text ++ [97] := Tr.text_app _ _
          have hst2 : (Tr.st e' .nil).text.length = e'.text.length + 3 := by rw [hst]; simp
          have hap2 : (e'.app (.ch 97 .nil)).text.length = e'.text.length + 1 := by rw [hap]; simp
          have hst3 : (Tr.st e' .nil).text.count 42 = e'.text.count 42 + 1 := by rw [hst]; simp
          have hap3 : (e'.app (.ch 97 .nil)).text.count 42 = e'.text.count 42 := by rw [hap]; simp
          walk_at "w"
          refine we_cal ck (hr.mono (by decide)) pass0 ?_
          walk_at "w"
          refine ⟨e'.text, rfl, by omega, fun H3 kt2 ex3 hk2 => ?_⟩
          walk_at "w"
          refine we_cal cst (hr.mono (by decide)) pass0 ?_
          walk_at "w"
          refine wo_addSS (by show 1 + e'.text.length ≤ 1000000; omega) ?_
          walk_at "w"
          refine wo_addSS (by rw [List.length_append]; show 1 + e'.text.length + 2 ≤ 1000000; omega) ?_
          walk_at "w"
          refine ⟨.st e' .nil, by rw [hst], ⟨hnn', hok', True.intro⟩, (fun z => nomatch z), by omega, fun H4 ex4 => ?_⟩
          walk_at "w"
          refine we_cal cl (hr.mono (by decide)) pass0 ?_
          walk_at "w"
          refine wo_addSS (by show e'.text.length + 1 ≤ 1000000; omega) ?_
          walk_at "w"
          refine ⟨e'.app (.ch 97 .nil), by rw [hap], Tr.ok_app hok' ⟨by decide, by decide, True.intro⟩, fun z => ?_, by omega, fun H5 ex5 => ?_⟩
          · have := Tr.len_app e' (.ch 97 .nil)
            rw [z] at this
            have e0 : Tr.len .nil = 0 := rfl
            have e1 : Tr.len (.ch 97 .nil) = 1 := rfl
            omega
          walk_at "w"
          refine ⟨sz_le (by simp), fun l1 h1 => ?_⟩
          walk_at "w"
          refine ⟨sz_le (by simp), fun l2 h2 => ?_⟩
          have g1 : l1 ≠ l2 := ne_of_none upd_same h2
          refine wo_neDp hu (.lst (sq_of (upd_get g1 upd_same)) (.cons (.int _) (.cons (.int _) .nil))) (.lst (sq_of upd_same) (.cons (.int _) (.cons (.int _) .nil))) rfl rfl ?_
          have heq : PyData.eqv (.list [.int ((((Tr.st e' .nil).text.count 42 : Nat)) : Int), .int (((e'.app (.ch 97 .nil)).text.length : Int) - 3 * (((e'.app (.ch 97 .nil)).text.count 42 : Nat) : Int))]) (.list [.int (((e'.text.count 42 : Nat) : Int) + 1), .int ((e'.text.length : Int) - 3 * ((e'.text.count 42 : Nat) : Int) + 1)]) = true := by
            rw [hst3, hap2, hap3]
            rw [show (((e'.text.count 42 + 1 : Nat) : Int)) = (e'.text.count 42 : Nat) + 1 by omega, show (((e'.text.length + 1 : Nat) : Int) - 3 * ((e'.text.count 42 : Nat) : Int)) = (e'.text.length : Int) - 3 * ((e'.text.count 42 : Nat) : Int) + 1 by omega]
            exact SeqAt.eqv_refl _ rfl
          rw [heq]
          walk_at "w"
          refine we_cal cx (hr.mono (by decide)) pass0 ?_
          walk_at "w"
          have hrs := row_small (n := 2) (by decide) hwd' hl'
          have hle2 : (e'.row 2).length ≤ 1000000 := by omega
          refine ⟨e'.text, 2, e'.row 2, rfl, by decide, by decide, by omega, Tr.runX_all hok', by omega, fun H8 ex8 => ?_⟩
          walk_at "w"
          have hs9 : Src H8 p (i * 161 + 161) := (((((hs8.ex ex3).ex ex4).ex ex5).ex (Ex.new h1)).ex (Ex.new h2)).ex ex8
          refine iteDD (fun h3 => ?_) (fun h3 => ?_)
          · walk_at "w"
            refine we_cal cr (hr.mono (by decide)) pass0 ?_
            walk_at "w"
            refine wo_addSS (by show 1 + e'.text.length ≤ 1000000; omega) ?_
            walk_at "w"
            refine wo_addSS (by rw [List.length_append]; show 1 + e'.text.length + 2 ≤ 1000000; omega) ?_
            walk_at "w"
            have hrr : (Tr.st e' .nil).row 2 = rep 2 (e'.row 2) := by
              show rep 2 (e'.row 2) ++ [] = _
              simp
            refine ⟨.st e' .nil, 2, by rw [hst]; rfl, ⟨hnn', hok', True.intro⟩, (fun z => nomatch z), by omega, ?_, by decide, by decide, by rw [hrr, rep_len]; omega, fun H9 ex9 => ?_⟩
            · have := Tr.wd_depth 3 e' hwd'
              show max (e'.depth + 1) 0 ≤ 4
              omega
            refine we_op ?_
            refine we_cal cx (hr.mono (by decide)) pass0 ?_
            walk_at "w"
            refine ⟨e'.text, 2, e'.row 2, rfl, by decide, by decide, by omega, Tr.runX_all hok', by omega, fun H10 ex10 => ?_⟩
            walk_at "w"
            refine wo_mulSI (n := 2) (by omega) (by decide) (by omega) ?_
            rw [hrr]
            walk_at "w"
            refine iteNN (fun _ => ?_) (fun z => absurd rfl z)
            walk_at "w"
            exact ⟨_, _, _, _, rfl, ((hs9.ex ex9).ex ex10).mono (by omega)⟩
          · walk_at "w"
            exact ⟨_, _, _, _, rfl, hs9.mono (by omega)⟩
        · have hle' : e.text.length ≤ 1000000 := by omega
          walk_at "w"
          refine iteDD (fun h3 => ?_) (fun h3 => ?_)
          · walk_at "w"
            exact ⟨rfl, e, rfl, hok, hnn, hwd, hl⟩
          · walk_at "w"
            exact ⟨rfl, .ch 97 (.ch 98 .nil), rfl, ⟨by decide, by decide, by decide, by decide, True.intro⟩, (fun z => nomatch z), wd_nil 3, by decide⟩
    · rintro σ H' ⟨y2, y3, y4, y5, rfl, hs⟩
      walk_at "w"
      exact q _
end

theorem all_mk {l : PySem.W.OpenLaw} {w : World} {K : PySem.W.Frag} {h : Heap} {mg : Str → Option Value} {fa : Addr} (X : K.In h) (G : h.Ns mainGlobals mg) (hfa : mg "law" = some (.ref fa))
    {f0 : Addr} {od0 an0 : Option Addr} {sl0 : Array (Option Value)} {oc0 kV0 dc0 pm0 cd0 ct0 : Value}
    {f1 : Addr} {od1 an1 : Option Addr} {sl1 : Array (Option Value)} {oc1 kV1 dc1 pm1 cd1 ct1 : Value}
    {f2 : Addr} {od2 an2 : Option Addr} {sl2 : Array (Option Value)} {oc2 kV2 dc2 pm2 cd2 ct2 : Value}
    {f3 : Addr} {od3 an3 : Option Addr} {sl3 : Array (Option Value)} {oc3 kV3 dc3 pm3 cd3 ct3 : Value}
    {f4 : Addr} {od4 an4 : Option Addr} {sl4 : Array (Option Value)} {oc4 kV4 dc4 pm4 cd4 ct4 : Value}
    {f5 : Addr} {od5 an5 : Option Addr} {sl5 : Array (Option Value)} {oc5 kV5 dc5 pm5 cd5 ct5 : Value}
    {f6 : Addr} {od6 an6 : Option Addr} {sl6 : Array (Option Value)} {oc6 kV6 dc6 pm6 cd6 ct6 : Value}
    {f7 : Addr} {od7 an7 : Option Addr} {sl7 : Array (Option Value)} {oc7 kV7 dc7 pm7 cd7 ct7 : Value}
    {f8 : Addr} {od8 an8 : Option Addr} {sl8 : Array (Option Value)} {oc8 kV8 dc8 pm8 cd8 ct8 : Value}
    {f9 : Addr} {od9 an9 : Option Addr} {sl9 : Array (Option Value)} {oc9 kV9 dc9 pm9 cd9 ct9 : Value}
    {f10 : Addr} {od10 an10 : Option Addr} {sl10 : Array (Option Value)} {oc10 kV10 dc10 pm10 cd10 ct10 : Value}
    {f11 : Addr} {od11 an11 : Option Addr} {sl11 : Array (Option Value)} {oc11 kV11 dc11 pm11 cd11 ct11 : Value}
    (a0 : PySem.W.nsIn K mainGlobals "parts_of" = some (some (.ref f0))) (l0 : K.lookup f0 = some ⟨oc0, od0, .func (PySem.W.fnOf "parts_of" "parts_of" (defArgs s_parts_of) (defBody s_parts_of) (defScope s_parts_of) .none kV0 dc0 pm0 an0 cd0 ct0), sl0⟩) (c0 : PySem.W.codeIn K cd0 "parts_of" = true) (k0 : PySem.W.keepIn K (.ref f0) = true)
    (a1 : PySem.W.nsIn K mainGlobals "stars" = some (some (.ref f1))) (l1 : K.lookup f1 = some ⟨oc1, od1, .func (PySem.W.fnOf "stars" "stars" (defArgs s_stars) (defBody s_stars) (defScope s_stars) .none kV1 dc1 pm1 an1 cd1 ct1), sl1⟩) (c1 : PySem.W.codeIn K cd1 "stars" = true) (k1 : PySem.W.keepIn K (.ref f1) = true)
    (a2 : PySem.W.nsIn K mainGlobals "letters" = some (some (.ref f2))) (l2 : K.lookup f2 = some ⟨oc2, od2, .func (PySem.W.fnOf "letters" "letters" (defArgs s_letters) (defBody s_letters) (defScope s_letters) .none kV2 dc2 pm2 an2 cd2 ct2), sl2⟩) (c2 : PySem.W.codeIn K cd2 "letters" = true) (k2 : PySem.W.keepIn K (.ref f2) = true)
    (a3 : PySem.W.nsIn K mainGlobals "row_of_parts" = some (some (.ref f3))) (l3 : K.lookup f3 = some ⟨oc3, od3, .func (PySem.W.fnOf "row_of_parts" "row_of_parts" (defArgs s_row_of_parts) (defBody s_row_of_parts) (defScope s_row_of_parts) .none kV3 dc3 pm3 an3 cd3 ct3), sl3⟩) (c3 : PySem.W.codeIn K cd3 "row_of_parts" = true) (k3 : PySem.W.keepIn K (.ref f3) = true)
    (a4 : PySem.W.nsIn K mainGlobals "row_of" = some (some (.ref f4))) (l4 : K.lookup f4 = some ⟨oc4, od4, .func (PySem.W.fnOf "row_of" "row_of" (defArgs s_row_of) (defBody s_row_of) (defScope s_row_of) .none kV4 dc4 pm4 an4 cd4 ct4), sl4⟩) (c4 : PySem.W.codeIn K cd4 "row_of" = true) (k4 : PySem.W.keepIn K (.ref f4) = true)
    (a5 : PySem.W.nsIn K mainGlobals "_law_source" = some (some (.ref f5))) (l5 : K.lookup f5 = some ⟨oc5, od5, .func (PySem.W.fnOf "_law_source" "_law_source" (defArgs s_law_source) (defBody s_law_source) (defScope s_law_source) .none kV5 dc5 pm5 an5 cd5 ct5), sl5⟩) (c5 : PySem.W.codeIn K cd5 "_law_source" = true) (k5 : PySem.W.keepIn K (.ref f5) = true)
    (a6 : PySem.W.nsIn K mainGlobals "_law_draw" = some (some (.ref f6))) (l6 : K.lookup f6 = some ⟨oc6, od6, .func (PySem.W.fnOf "_law_draw" "_law_draw" (defArgs s_law_draw) (defBody s_law_draw) (defScope s_law_draw) .none kV6 dc6 pm6 an6 cd6 ct6), sl6⟩) (c6 : PySem.W.codeIn K cd6 "_law_draw" = true) (k6 : PySem.W.keepIn K (.ref f6) = true)
    (a7 : PySem.W.nsIn K mainGlobals "_law_pick" = some (some (.ref f7))) (l7 : K.lookup f7 = some ⟨oc7, od7, .func (PySem.W.fnOf "_law_pick" "_law_pick" (defArgs s_law_pick) (defBody s_law_pick) (defScope s_law_pick) .none kV7 dc7 pm7 an7 cd7 ct7), sl7⟩) (c7 : PySem.W.codeIn K cd7 "_law_pick" = true) (k7 : PySem.W.keepIn K (.ref f7) = true)
    (a8 : PySem.W.nsIn K mainGlobals "_law_expanded" = some (some (.ref f8))) (l8 : K.lookup f8 = some ⟨oc8, od8, .func (PySem.W.fnOf "_law_expanded" "_law_expanded" (defArgs s_law_expanded) (defBody s_law_expanded) (defScope s_law_expanded) .none kV8 dc8 pm8 an8 cd8 ct8), sl8⟩) (c8 : PySem.W.codeIn K cd8 "_law_expanded" = true) (k8 : PySem.W.keepIn K (.ref f8) = true)
    (a9 : PySem.W.nsIn K mainGlobals "_law_expression" = some (some (.ref f9))) (l9 : K.lookup f9 = some ⟨oc9, od9, .func (PySem.W.fnOf "_law_expression" "_law_expression" (defArgs s_law_expression) (defBody s_law_expression) (defScope s_law_expression) .none kV9 dc9 pm9 an9 cd9 ct9), sl9⟩) (c9 : PySem.W.codeIn K cd9 "_law_expression" = true) (k9 : PySem.W.keepIn K (.ref f9) = true)
    (a10 : PySem.W.nsIn K mainGlobals "_law_key" = some (some (.ref f10))) (l10 : K.lookup f10 = some ⟨oc10, od10, .func (PySem.W.fnOf "_law_key" "_law_key" (defArgs s_law_key) (defBody s_law_key) (defScope s_law_key) .none kV10 dc10 pm10 an10 cd10 ct10), sl10⟩) (c10 : PySem.W.codeIn K cd10 "_law_key" = true) (k10 : PySem.W.keepIn K (.ref f10) = true)
    (a11 : PySem.W.nsIn K mainGlobals "law" = some (some (.ref f11))) (l11 : K.lookup f11 = some ⟨oc11, od11, .func (PySem.W.fnOf "law" "law" (defArgs s_law) (defBody s_law) (defScope s_law) .none kV11 dc11 pm11 an11 cd11 ct11), sl11⟩) (c11 : PySem.W.codeIn K cd11 "law" = true) (k11 : PySem.W.keepIn K (.ref f11) = true)
    (z_int : PySem.W.nsIn K mainGlobals "int" = some none)
    (z_len : PySem.W.nsIn K mainGlobals "len" = some none)
    (z_range : PySem.W.nsIn K mainGlobals "range" = some none)
    (z_isinstance : PySem.W.nsIn K mainGlobals "isinstance" = some none)
    (z_str : PySem.W.nsIn K mainGlobals "str" = some none)
    (z_tuple : PySem.W.nsIn K mainGlobals "tuple" = some none)
    (z_bool : PySem.W.nsIn K mainGlobals "bool" = some none) :
    ∃ fd : FuncData, (∀ (s : Shared) (v : Value), BindsTo s fd ⟨[v], []⟩ [("_law_script", v)]) ∧ ∀ base : Heap, K.In base → base.Ns mainGlobals mg → FnOk l.prog w K mg base CX0 8 fa fd ["_law_script"] (spLaw K) := by
  have e := hfa.symm.trans (PySem.W.mg_of X G a11)
  cases e
  have F_parts_of := fun_mk (st := s_parts_of) l0 c0 k0
  have g_parts_of := PySem.W.mg_of X G a0
  have b_parts_of := F_parts_of.binds (ps := ["text"]) fun _ _ _ _ _ _ us hl => match us, hl with | [_], _ => rfl
  have F_stars := fun_mk (st := s_stars) l1 c1 k1
  have g_stars := PySem.W.mg_of X G a1
  have b_stars := F_stars.binds (ps := ["text"]) fun _ _ _ _ _ _ us hl => match us, hl with | [_], _ => rfl
  have F_letters := fun_mk (st := s_letters) l2 c2 k2
  have g_letters := PySem.W.mg_of X G a2
  have b_letters := F_letters.binds (ps := ["text"]) fun _ _ _ _ _ _ us hl => match us, hl with | [_], _ => rfl
  have F_row_of_parts := fun_mk (st := s_row_of_parts) l3 c3 k3
  have g_row_of_parts := PySem.W.mg_of X G a3
  have b_row_of_parts := F_row_of_parts.binds (ps := ["parts", "n"]) fun _ _ _ _ _ _ us hl => match us, hl with | [_, _], _ => rfl
  have F_row_of := fun_mk (st := s_row_of) l4 c4 k4
  have g_row_of := PySem.W.mg_of X G a4
  have b_row_of := F_row_of.binds (ps := ["text", "n"]) fun _ _ _ _ _ _ us hl => match us, hl with | [_, _], _ => rfl
  have F_law_source := fun_mk (st := s_law_source) l5 c5 k5
  have g_law_source := PySem.W.mg_of X G a5
  have b_law_source := F_law_source.binds (ps := ["_law_script"]) fun _ _ _ _ _ _ us hl => match us, hl with | [_], _ => rfl
  have F_law_draw := fun_mk (st := s_law_draw) l6 c6 k6
  have g_law_draw := PySem.W.mg_of X G a6
  have b_law_draw := F_law_draw.binds (ps := ["_law_source_here", "_law_many"]) fun _ _ _ _ _ _ us hl => match us, hl with | [_, _], _ => rfl
  have F_law_pick := fun_mk (st := s_law_pick) l7 c7 k7
  have g_law_pick := PySem.W.mg_of X G a7
  have b_law_pick := F_law_pick.binds (ps := ["_law_source_here", "_law_things"]) fun _ _ _ _ _ _ us hl => match us, hl with | [_, _], _ => rfl
  have F_law_expanded := fun_mk (st := s_law_expanded) l8 c8 k8
  have g_law_expanded := PySem.W.mg_of X G a8
  have b_law_expanded := F_law_expanded.binds (ps := ["_law_text", "_law_n"]) fun _ _ _ _ _ _ us hl => match us, hl with | [_, _], _ => rfl
  have F_law_expression := fun_mk (st := s_law_expression) l9 c9 k9
  have g_law_expression := PySem.W.mg_of X G a9
  have b_law_expression := F_law_expression.binds (ps := ["_law_source_here", "_law_signs", "_law_deep"]) fun _ _ _ _ _ _ us hl => match us, hl with | [_, _, _], _ => rfl
  have F_law_key := fun_mk (st := s_law_key) l10 c10 k10
  have g_law_key := PySem.W.mg_of X G a10
  have b_law_key := F_law_key.binds (ps := ["_law_text"]) fun _ _ _ _ _ _ us hl => match us, hl with | [_], _ => rfl
  have F_law := fun_mk (st := s_law) l11 c11 k11
  have g_law := PySem.W.mg_of X G a11
  have b_law := F_law.binds (ps := ["_law_script"]) fun _ _ _ _ _ _ us hl => match us, hl with | [_], _ => rfl
  have m_int := PySem.W.mg_none_of X G z_int
  have m_len := PySem.W.mg_none_of X G z_len
  have m_range := PySem.W.mg_none_of X G z_range
  have m_isinstance := PySem.W.mg_none_of X G z_isinstance
  have m_str := PySem.W.mg_none_of X G z_str
  have m_tuple := PySem.W.mg_none_of X G z_tuple
  have m_bool := PySem.W.mg_none_of X G z_bool
  refine ⟨PySem.W.fnOf "law" "law" (defArgs s_law) (defBody s_law) (defScope s_law) .none kV11 dc11 pm11 an11 cd11 ct11, fun s v => .of_eq rfl, fun base _ _ => ?_⟩

  have cs : Cal l.prog w K mg base CX0 1 "_law_source" (spSource K) := ⟨_, _, _, ok_source F_law_source m_int, g_law_source, F_law_source.kp, b_law_source⟩
  have cd : Cal l.prog w K mg base CX0 1 "_law_draw" spDraw := ⟨_, _, _, ok_draw F_law_draw m_int, g_law_draw, F_law_draw.kp, b_law_draw⟩
  have cp : Cal l.prog w K mg base CX0 2 "_law_pick" (spPick K) := ⟨_, _, _, ok_pick F_law_pick m_len cd (Nat.le_refl _), g_law_pick, F_law_pick.kp, b_law_pick⟩
  have ce : Cal l.prog w K mg base CX0 6 "_law_expression" (spExpr K 3) := ⟨_, _, _, ok_expr F_law_expression g_law_expression b_law_expression m_range cd cp 3 (by decide), g_law_expression, F_law_expression.kp, b_law_expression⟩
  have ck : Cal l.prog w K mg base CX0 1 "_law_key" spKey := ⟨_, _, _, ok_key F_law_key m_len, g_law_key, F_law_key.kp, b_law_key⟩
  have cx : Cal l.prog w K mg base CX0 1 "_law_expanded" spExpanded := ⟨_, _, _, ok_expanded F_law_expanded, g_law_expanded, F_law_expanded.kp, b_law_expanded⟩
  have cpa : Cal l.prog w K mg base CX0 1 "parts_of" spParts := ⟨_, _, _, ok_parts F_parts_of m_len m_isinstance m_str m_tuple, g_parts_of, F_parts_of.kp, b_parts_of⟩
  have cst : Cal l.prog w K mg base CX0 2 "stars" spStars := ⟨_, _, _, ok_stars F_stars cpa (Nat.le_refl _), g_stars, F_stars.kp, b_stars⟩
  have cl : Cal l.prog w K mg base CX0 2 "letters" spLetters := ⟨_, _, _, ok_letters F_letters m_len cpa (Nat.le_refl _), g_letters, F_letters.kp, b_letters⟩
  have crp : Cal l.prog w K mg base CX0 5 "row_of_parts" (spRow 4) := ⟨_, _, _, ok_row F_row_of_parts g_row_of_parts b_row_of_parts m_isinstance m_str 4, g_row_of_parts, F_row_of_parts.kp, b_row_of_parts⟩
  have cr : Cal l.prog w K mg base CX0 6 "row_of" spRowOf := ⟨_, _, _, ok_row_of F_row_of m_isinstance m_int m_bool cpa (by decide) crp (Nat.le_refl _), g_row_of, F_row_of.kp, b_row_of⟩
  exact ok_law F_law m_range m_len cs cd ce ck cx cst cl cr
end G
open PySem PySem.W PyProof.Rows
set_option maxRecDepth 100000 in
set_option maxHeartbeats 0 in
theorem PySem.Challenge.cw_enoughpaid_k47_expressions_read_holds : PySem.Challenge.rw_enoughpaid_k47_expressions_read.Holds := by
  w_on; o_law; k_head; (case hw => w_witness2)
  k_fill
  refine L2.walk_of (l := PySem.Challenge.rw_enoughpaid_k47_expressions_read) (n := 63) (k := 8) (x := "_law_script") (CX := fun _ => L2.CX0) (sp := fun w => G.spLaw _) rfl (by decide) rfl ⟨rfl, by decide, by decide⟩ (fun w h Y => PySem.W.kIn_of Y) ?F (fun _ _ a ns hl _ hS => ⟨a, ns, rfl, hS, fun _ => rfl⟩) (fun _ _ _ _ _ h => h)
  case F =>
    intro w mg fa h KX GX hmg
    refine' G.all_mk KX GX hmg ?a0 ?l0 ?c0 ?k0 ?a1 ?l1 ?c1 ?k1 ?a2 ?l2 ?c2 ?k2 ?a3 ?l3 ?c3 ?k3 ?a4 ?l4 ?c4 ?k4 ?a5 ?l5 ?c5 ?k5 ?a6 ?l6 ?c6 ?k6 ?a7 ?l7 ?c7 ?k7 ?a8 ?l8 ?c8 ?k8 ?a9 ?l9 ?c9 ?k9 ?a10 ?l10 ?c10 ?k10 ?a11 ?l11 ?c11 ?k11 ?z_int ?z_len ?z_range ?z_isinstance ?z_str ?z_tuple ?z_bool
    (case a0 => k_is)
    (case l0 => k_is)
    (case c0 => k_is)
    (case k0 => k_is)
    (case a1 => k_is)
    (case l1 => k_is)
    (case c1 => k_is)
    (case k1 => k_is)
    (case a2 => k_is)
    (case l2 => k_is)
    (case c2 => k_is)
    (case k2 => k_is)
    (case a3 => k_is)
    (case l3 => k_is)
    (case c3 => k_is)
    (case k3 => k_is)
    (case a4 => k_is)
    (case l4 => k_is)
    (case c4 => k_is)
    (case k4 => k_is)
    (case a5 => k_is)
    (case l5 => k_is)
    (case c5 => k_is)
    (case k5 => k_is)
    (case a6 => k_is)
    (case l6 => k_is)
    (case c6 => k_is)
    (case k6 => k_is)
    (case a7 => k_is)
    (case l7 => k_is)
    (case c7 => k_is)
    (case k7 => k_is)
    (case a8 => k_is)
    (case l8 => k_is)
    (case c8 => k_is)
    (case k8 => k_is)
    (case a9 => k_is)
    (case l9 => k_is)
    (case c9 => k_is)
    (case k9 => k_is)
    (case a10 => k_is)
    (case l10 => k_is)
    (case c10 => k_is)
    (case k10 => k_is)
    (case a11 => k_is)
    (case l11 => k_is)
    (case c11 => k_is)
    (case k11 => k_is)
    (case z_int => k_is)
    (case z_len => k_is)
    (case z_range => k_is)
    (case z_isinstance => k_is)
    (case z_str => k_is)
    (case z_tuple => k_is)
    (case z_bool => k_is)
