import PyProof.Rows.All
import Wide.All
import OpenK.AllK
import Wide.FinOn
import HandS.ForMost
import HandS.Flow
import HandS.IsInst
import HandS.RaiseMore
import KE.SortData
import KE.KDictCopyH
import KE.KDictSum
import HandS.More
import HandS.Star
import HandS.DictComp
import HandS.Property
import HandS.SetKeys
import PyProof.DictMoreH
import HandS.Walk
import HandS.ForExc
import HandS.Deep
import HandS.TryOnly
import HandS.Style
import HandS.Strs
import HandS.Conv
import HandS.Dict
import HandS.DictTup
import HandS.Codes
import HandS.SlotsOwn
import PySem.Challenge.RW_enoughpaid_k11_one_behind_another
set_option Elab.async false
set_option linter.all false
set_option maxRecDepth 100000
set_option maxHeartbeats 4000000
/-! Wx: the hand layer's judgements in one step each: goals of the form WE X e σ H Q, WS X st D σ H. -/
namespace Wx
open PySem PySem.Spec PyProof.Rows L2


section
variable {X : Cx} {σ : L2.St} {H : Hp}

@[irreducible] def WE (X : Cx) (e : Expr) : TE := fun σ H Q => ∀ pins s, Inv X pins σ H s → wpAny (model X.prog X.w) X.A (eval e X.env) (EP X pins σ Q) X.xe s
@[irreducible] def WT (X : Cx) (e : Expr) : TT := fun σ H Q => ∀ pins s, Inv X pins σ H s → wpAny (model X.prog X.w) X.A (isTrue e X.env (eval e X.env)) (TP X pins σ Q) X.xe s
@[irreducible] def WW (X : Cx) (e : Expr) : TT := fun σ H Q => ∀ whole pins s, Inv X pins σ H s → wpAny (model X.prog X.w) X.A (isTrue e X.env whole) (TP X pins σ Q) X.xe s
@[irreducible] def WA (X : Cx) (es : List Expr) : TA := fun σ H Q => ∀ pos pins s, Inv X pins σ H s → wpAny (model X.prog X.w) X.A (spliced (backTo pos (starEach es X.env))) (AP X pins σ Q) X.xe s
@[irreducible] def WS (X : Cx) (st : Stmt) : TS := fun D σ H => ∀ pins s, Inv X pins σ H s → wpAny (model X.prog X.w) X.A (exec st X.env) (SP X pins D) X.xe s
@[irreducible] def WSs (X : Cx) (st : List Stmt) : TS := fun D σ H => ∀ pins s, Inv X pins σ H s → wpAny (model X.prog X.w) X.A (execs st X.env) (SP X pins D) X.xe s
@[irreducible] def WG (X : Cx) (tg : Expr) : TG := fun v σ H Q => ∀ pins s u, Inv X pins σ H s → RelV v u → wpAny (model X.prog X.w) X.A (assign tg X.env u) (fun _ s' => ∃ σ' H', Inv X pins σ' H' s' ∧ Q σ' H') X.xe s
@[irreducible] def WI (X : Cx) (tg iter : Expr) : TI := fun σ H R => ∀ pins s, Inv X pins σ H s → wpAny (model X.prog X.w) X.A (eval iter X.env) (fun v s1 => wpAny (model X.prog X.w) X.A (pyIter v) (PIE X pins σ tg R) X.xe s1) X.xe s
/-- operations on values -/
@[irreducible] def WO (X : Cx) (f : Value → Value → Sem Value) : R2 := fun x y H Q => ∀ pins s σ v u, Inv X pins σ H s → RelV x v → RelV y u → wpAny (model X.prog X.w) X.A (f v u) (EP X pins σ Q) X.xe s
@[irreducible] def WU (X : Cx) (f : Value → Sem Value) : V → Hp → VK → Prop := fun x H Q => ∀ pins s σ v, Inv X pins σ H s → RelV x v → wpAny (model X.prog X.w) X.A (f v) (EP X pins σ Q) X.xe s
@[irreducible] def WC (X : Cx) (f : Value) : List V → Hp → VK → Prop := fun xs H Q => ∀ pins s σ us, Inv X pins σ H s → Vals xs us → wpAny (model X.prog X.w) X.A (call f us) (EP X pins σ Q) X.xe s
@[irreducible] def WM (X : Cx) (id : String) : V → List V → Hp → VK → Prop := fun x xs H Q => ∀ pins s σ v us, Inv X pins σ H s → RelV x v → Vals xs us → wpAny (model X.prog X.w) X.A (call (.builtin id) (v :: us)) (EP X pins σ Q) X.xe s
@[irreducible] def WIx (X : Cx) : R2 := fun x y H Q => ∀ value slice pins s σ v u, Inv X pins σ H s → RelV x v → RelV y u → subscripted slice false v u = operate [v, u] (getItem v u) → wpAny (model X.prog X.w) X.A (subscriptTail value slice v u) (EP X pins σ Q) X.xe s
@[irreducible] def WSl (X : Cx) : V → Option Int → Option Int → Hp → VK → Prop := fun x lo hi H Q => ∀ (pins : List (Addr × Obj)) (s : Shared) (σ : L2.St) (v vl vu : Value) (sl : Addr), Inv X pins σ H s → RelV x v → s.heap.IsSliceOf sl vl vu .none → IsPart vl lo → IsPart vu hi →
    ∃ T id, typeLookup (.type T) "__getitem__" = pure (some (.builtin id)) ∧ s.TypeIs v T ∧ wpAny (model X.prog X.w) X.A (getItem v (.ref sl)) (EP X pins σ Q) X.xe s
@[irreducible] def WSet (X : Cx) : TSet := fun o i v H Q => ∀ pins s σ ov iv u, Inv X pins σ H s → RelV o ov → RelV i iv → RelV v u → wpAny (model X.prog X.w) X.A (setItem ov iv u) (fun _ s' => ∃ H', Inv X pins σ H' s' ∧ Q H') X.xe s
@[irreducible] def WIp (X : Cx) (op : Operator) : TIp := fun x y H Q => ∀ pins s σ v u, Inv X pins σ H s → RelV x v → RelV y u → wpAny (model X.prog X.w) X.A (inplaceOp op v u) (EP X pins σ Q) X.xe s

theorem pe_w {e} : PE X e (WE X e) := by
  unfold WE; exact ⟨fun pins s _ _ _ I h => h pins s I⟩
theorem pt_w {e} : PT X e (WT X e) := by
  unfold WT; exact ⟨fun pins s _ _ _ I h => h pins s I⟩
theorem pw_w {e} : PW X e (WW X e) := by
  unfold WW; exact ⟨fun whole pins s _ _ _ I h => h whole pins s I⟩
theorem pa_w {e} : PA X e (WA X e) := by
  unfold WA; exact ⟨fun pos pins s _ _ _ I h => h pos pins s I⟩
theorem ps_w {e} : PS X e (WS X e) := by
  unfold WS; exact ⟨fun pins s _ _ _ I h => h pins s I⟩
theorem pss_w {e} : PSs X e (WSs X e) := by
  unfold WSs; exact ⟨fun pins s _ _ _ I h => h pins s I⟩
theorem pg_w {e} : PG X e (WG X e) := by
  unfold WG; exact ⟨fun pins s _ _ _ u _ I r h => h pins s u I r⟩
theorem pi_w {tg e} : PI X tg e (WI X tg e) := by
  unfold WI; exact ⟨fun pins s _ _ _ I h => h pins s I⟩
theorem op_w {f} : OpR X f (WO X f) := by
  unfold WO; exact fun pins s σ _ _ _ v u _ I r r' h => h pins s σ v u I r r'
theorem un_w {f} : UnR X f (WU X f) := by
  unfold WU; exact fun pins s σ _ _ v _ I r h => h pins s σ v I r
theorem call_w {f} : CallR X f (WC X f) := by
  unfold WC; exact fun pins s σ _ _ us _ I r h => h pins s σ us I r
theorem mt_w {f} : MtR X f (WM X f) := by
  unfold WM; exact fun pins s σ _ _ _ v us _ I r r' h => h pins s σ v us I r r'
theorem ix_w : IxR X (WIx X) := by
  unfold WIx; exact fun a b pins s σ _ _ _ v u _ I r r' h hs => h a b pins s σ v u I r r' hs
theorem sl_w : SlR X (WSl X) := by
  unfold WSl; exact fun pins s σ _ _ v vl vu _ _ sl _ I r h1 h2 h3 h => h pins s σ v vl vu sl I r h1 h2 h3
theorem set_w : PSet X (WSet X) := by
  unfold WSet; exact fun pins s σ _ _ _ _ ov iv u _ I r1 r2 r3 h => h pins s σ ov iv u I r1 r2 r3
theorem ip_w {op} : PIp X op (WIp X op) := by
  unfold WIp; exact fun pins s σ _ _ _ v u _ I r r' h => h pins s σ v u I r r'

theorem WE.of {e t Q} (h : PE X e t) (q : t σ H Q) : WE X e σ H Q := by
  unfold WE; exact fun pins s I => h.run pins s σ H Q I q
theorem WT.of {e t Q} (h : PT X e t) (q : t σ H Q) : WT X e σ H Q := by
  unfold WT; exact fun pins s I => h.run pins s σ H Q I q
theorem WW.of {e t Q} (h : PW X e t) (q : t σ H Q) : WW X e σ H Q := by
  unfold WW; exact fun whole pins s I => h.run whole pins s σ H Q I q
theorem WA.of {e t Q} (h : PA X e t) (q : t σ H Q) : WA X e σ H Q := by
  unfold WA; exact fun pos pins s I => h.run pos pins s σ H Q I q
theorem WS.of {e t D} (h : PS X e t) (q : t D σ H) : WS X e D σ H := by
  unfold WS; exact fun pins s I => h.run pins s σ H D I q
theorem WSs.of {e t D} (h : PSs X e t) (q : t D σ H) : WSs X e D σ H := by
  unfold WSs; exact fun pins s I => h.run pins s σ H D I q
theorem WG.of {e t v Q} (h : PG X e t) (q : t v σ H Q) : WG X e v σ H Q := by
  unfold WG; exact fun pins s u I r => h.run pins s σ H v u Q I r q
theorem WI.of {tg e t Q} (h : PI X tg e t) (q : t σ H Q) : WI X tg e σ H Q := by
  unfold WI; exact fun pins s I => h.run pins s σ H Q I q
theorem WO.of {f r x y Q} (h : OpR X f r) (q : r x y H Q) : WO X f x y H Q := by
  unfold WO; exact fun pins s σ v u I r r' => h pins s σ H x y v u Q I r r' q
theorem WU.of {f r x Q} (h : UnR X f r) (q : r x H Q) : WU X f x H Q := by
  unfold WU; exact fun pins s σ v I r => h pins s σ H x v Q I r q
theorem WC.of {f r x Q} (h : CallR X f r) (q : r x H Q) : WC X f x H Q := by
  unfold WC; exact fun pins s σ us I r => h pins s σ H x us Q I r q
theorem WM.of {f r x xs Q} (h : MtR X f r) (q : r x xs H Q) : WM X f x xs H Q := by
  unfold WM; exact fun pins s σ v us I r r' => h pins s σ H x xs v us Q I r r' q
theorem WIx.of {r x y Q} (h : IxR X r) (q : r x y H Q) : WIx X x y H Q := by
  unfold WIx; exact fun a b pins s σ v u I r r' hs => h a b pins s σ H x y v u Q I r r' q hs
theorem WSl.of {r x lo hi Q} (h : SlR X r) (q : r x lo hi H Q) : WSl X x lo hi H Q := by
  unfold WSl; exact fun pins s σ v vl vu sl I r h1 h2 h3 => h pins s σ H x v vl vu lo hi sl Q I r h1 h2 h3 q
theorem WSet.of {r o i v Q} (h : PSet X r) (q : r o i v H Q) : WSet X o i v H Q := by
  unfold WSet; exact fun pins s σ ov iv u I r1 r2 r3 => h pins s σ H o i v ov iv u Q I r1 r2 r3 q
theorem WIp.of {op r x y Q} (h : PIp X op r) (q : r x y H Q) : WIp X op x y H Q := by
  unfold WIp; exact fun pins s σ v u I r r' => h pins s σ H x y v u Q I r r' q

theorem WE.mono {e Q Q'} (h : ∀ v H, Q v H → Q' v H) (q : WE X e σ H Q) : WE X e σ H Q' := by
  unfold WE at *; exact fun pins s I =>
  thn (q pins s I) fun _ _ ⟨v, H', I', r, q⟩ => ⟨v, H', I', r, h _ _ q⟩
theorem WT.mono {e Q Q'} (h : ∀ v H, Q v H → Q' v H) (q : WT X e σ H Q) : WT X e σ H Q' := by
  unfold WT at *; exact fun pins s I =>
  thn (q pins s I) fun _ _ ⟨H', I', q⟩ => ⟨H', I', h _ _ q⟩

/-! ### names -/
def lookN : List Str → List (Option V) → Str → Option V
  | n :: ns, v :: vs, x => if n = x then v else lookN ns vs x
  | _, _, _ => none
def idxN : List Str → Str → Option Nat
  | [], _ => none
  | n :: ns, x => if n = x then some 0 else (idxN ns x).map (· + 1)
theorem lookN_at : ∀ {N : List Str} {σ : List (Option V)} {x : Str} {v : V}, lookN N σ x = some v → ∃ i : Nat, N[i]? = some x ∧ σ[i]? = some (some v)
  | [], _, _, _, h => nomatch h
  | _ :: _, [], _, _, h => nomatch h
  | n :: ns, w :: ws, x, v, h => by
    unfold lookN at h
    split at h
    · rename_i e
      subst e
      exact ⟨0, rfl, congrArg some h⟩
    · obtain ⟨i, a, b⟩ := lookN_at h
      exact ⟨i + 1, a, b⟩
theorem idxN_at : ∀ {N : List Str} {x : Str} {i : Nat}, idxN N x = some i → N[i]? = some x
  | [], _, _, h => nomatch h
  | n :: ns, x, i, h => by
    unfold idxN at h
    split at h
    · rename_i e
      subst e
      cases h
      rfl
    · cases e : idxN ns x with
      | none => rw [e] at h; cases h
      | some j =>
        rw [e] at h
        cases h
        rw [List.getElem?_cons_succ]
        exact idxN_at e
theorem we_nm {x : Str} {pos : Pos} {v : V} {Q : VK} (hl : lookN X.N σ x = some v) (q : Q v H) (hv : Vis X.env.scope x := by first | exact Or.inl rfl | exact Or.inr (Or.inl rfl) | exact Or.inr (Or.inr rfl)) (hd : (x == ("__debug__" : Str)) = false := by decide)
    (hcd : (x == ("__classdict__" : Str)) = false := by decide) : WE X (.Name x pos) σ H Q := by
  obtain ⟨i, a, b⟩ := lookN_at hl
  exact WE.of (pe_var a hv hd hcd) ⟨v, b, q⟩
theorem wg_nm {x : Str} {pos : Pos} {v : V} {i : Nat} {Q : L2.St → Hp → Prop} (hN : X.N.Nodup) (hi : idxN X.N x = some i) (q : Q (σ.set i (some v)) H) (hx : Loc X.env.scope x := by first | exact Or.inl rfl | exact Or.inr rfl)
    (hf : X.fn x = true ∨ X.env.scope.names.lookup x = some .local := by first | exact .inl rfl | exact .inr rfl) : WG X (.Name x pos) v σ H Q :=
  WG.of (pg_name hN (idxN_at hi) hx hf) q

/-! ### constants -/
variable {Q : VK} {pos : Pos}
theorem we_int {i j} (q : Q (.int i) H) : WE X (.Constant (.int i) j pos) σ H Q := WE.of pe_int q
theorem we_str {x j} (q : Q (.str x) H) : WE X (.Constant (.str x) j pos) σ H Q := WE.of pe_str q
theorem we_bl {b j} (q : Q (.bl b) H) : WE X (.Constant (.bool b) j pos) σ H Q := WE.of pe_bl q
theorem we_non {j} (q : Q .non H) : WE X (.Constant .none j pos) σ H Q := WE.of pe_non q
theorem we_glob {x : Str} {v : V} {u : Value} (hg : Gl X x) (hm : X.mg x = some u) (r : RelV v u) (q : Q v H) (hd : (x == ("__debug__" : Str)) = false := by decide) : WE X (.Name x pos) σ H Q := WE.of (pe_glob hg hm r hd) q

/-! ### operators -/
theorem we_op {a b : Expr} {op} (q : WE X a σ H fun x H1 => WE X b σ H1 fun y H2 => WO X (binaryOp op) x y H2 Q) : WE X (.BinOp a op b pos) σ H Q := WE.of (pe_op op_w pe_w pe_w) q
theorem we_un {a : Expr} {op} (q : WE X a σ H fun x H1 => WU X (unaryOp op) x H1 Q) : WE X (.UnaryOp op a pos) σ H Q := WE.of (pe_un un_w pe_w) q
theorem we_cmp {a b : Expr} {op} (q : WE X a σ H fun x H1 => WE X b σ H1 fun y H2 => WO X (compareOp op) x y H2 Q) (hm : behindInMarks op b = false := by first | exact nobehind _ (by decide) (by decide) | rfl) : WE X (.Compare a [op] [b] pos) σ H Q := WE.of (pe_cmpR op_w pe_w pe_w hm) q
theorem wt_cmp {a b : Expr} {op} {Q : Bool → Hp → Prop} (q : WE X a σ H fun x H1 => WE X b σ H1 fun y H2 => WO X (compareOp op) x y H2 fun z H3 => ∃ k, z = .bl k ∧ Q k H3) (hm : behindInMarks op b = false := by first | exact nobehind _ (by decide) (by decide) | rfl) : WT X (.Compare a [op] [b] pos) σ H Q := WT.of (pt_cmpR op_w pe_w pe_w hm) q
theorem we_chain {a b c : Expr} {op op'} (q : WE X a σ H fun x H1 => WE X b σ H1 fun y H2 => WO X (compareOp op) x y H2 fun z H3 => ∃ k, z = .bl k ∧ (if k = true then WE X c σ H3 fun w' H4 => WO X (compareOp op') y w' H4 Q else Q (.bl false) H3))
    (hm : lastMarks [op, op'] [b, c] = false := by with_unfolding_all rfl) : WE X (.Compare a [op, op'] [b, c] pos) σ H Q := WE.of (pe_chain op_w op_w pe_w pe_w pe_w hm) q
theorem wt_chain {a b c : Expr} {op op'} {Q : Bool → Hp → Prop} (q : WE X a σ H fun x H1 => WE X b σ H1 fun y H2 => WO X (compareOp op) x y H2 fun z H3 => ∃ k, z = .bl k ∧ (if k = true then WE X c σ H3 fun w' H4 => WO X (compareOp op') y w' H4 fun z H5 => ∃ k, z = .bl k ∧ Q k H5 else ∃ k, V.bl false = .bl k ∧ Q k H3))
    (hm : lastMarks [op, op'] [b, c] = false := by with_unfolding_all rfl) : WT X (.Compare a [op, op'] [b, c] pos) σ H Q := WT.of (pt_chain op_w op_w pe_w pe_w pe_w hm) q
/-! ### tests -/
theorem wt_val {e : Expr} {Q : Bool → Hp → Prop} (q : WE X e σ H fun x H1 => ∃ c, x = .bl c ∧ Q c H1) (he : ∀ whole, isTrue e X.env whole = (do let v ← whole; standAt e.pos; holding [v] (truthy v)) := by intro _; rfl) : WT X e σ H Q := WT.of (pt_val pe_w he) q
theorem wt_not {a : Expr} {Q : Bool → Hp → Prop} (q : WT X a σ H fun c H1 => Q (!c) H1) : WT X (.UnaryOp .Not a pos) σ H Q := WT.of (pt_not pt_w) q
theorem wt_bop {op es} {Q : Bool → Hp → Prop} (q : WW X (.BoolOp op es pos) σ H Q) : WT X (.BoolOp op es pos) σ H Q := WT.of (PW.pt pw_w) q
theorem ww_and {a b : Expr} {rest} {Q : Bool → Hp → Prop} (q : WT X a σ H fun c H1 => if c = true then WW X (.BoolOp .And (b :: rest) pos) σ H1 Q else Q false H1) : WW X (.BoolOp .And (a :: b :: rest) pos) σ H Q := WW.of (pw_and pt_w pw_w) q
theorem ww_and1 {a : Expr} {Q : Bool → Hp → Prop} (q : WT X a σ H Q) : WW X (.BoolOp .And [a] pos) σ H Q := WW.of (pw_and1 pt_w) q
theorem ww_or {a b : Expr} {rest} {Q : Bool → Hp → Prop} (q : WT X a σ H fun c H1 => if c = true then Q true H1 else WW X (.BoolOp .Or (b :: rest) pos) σ H1 Q) : WW X (.BoolOp .Or (a :: b :: rest) pos) σ H Q := WW.of (pw_or pt_w pw_w) q
theorem ww_or1 {a : Expr} {Q : Bool → Hp → Prop} (q : WT X a σ H Q) : WW X (.BoolOp .Or [a] pos) σ H Q := WW.of (pw_or1 pt_w) q
theorem we_and {a b : Expr} {rest} (q : WE X a σ H fun x H1 => ∃ c, x = .bl c ∧ if c = true then WE X (.BoolOp .And (b :: rest) pos) σ H1 Q else Q (.bl false) H1) : WE X (.BoolOp .And (a :: b :: rest) pos) σ H Q := WE.of (pe_and pe_w pe_w) q
theorem we_or {a b : Expr} {rest} (q : WE X a σ H fun x H1 => ∃ c, x = .bl c ∧ if c = true then Q (.bl true) H1 else WE X (.BoolOp .Or (b :: rest) pos) σ H1 Q) : WE X (.BoolOp .Or (a :: b :: rest) pos) σ H Q := WE.of (pe_or pe_w pe_w) q
theorem we_one {a : Expr} {op} (q : WE X a σ H Q) : WE X (.BoolOp op [a] pos) σ H Q := WE.of (pe_one pe_w) q
theorem we_not {a : Expr} (q : WE X a σ H fun x H1 => ∃ c, x = .bl c ∧ Q (.bl (!c)) H1) : WE X (.UnaryOp .Not a pos) σ H Q := WE.of (pe_not pe_w) q
theorem we_if {a b c : Expr} (q : WT X c σ H fun k H1 => if k = true then WE X a σ H1 Q else WE X b σ H1 Q) : WE X (.IfExp c a b pos) σ H Q := WE.of (pe_ifExp pt_w pe_w pe_w) q
/-! ### displays, subscripts -/
theorem we_tup {es x1} (q : WA X es σ H fun xs H1 => xs.length ≤ sizeLine ∧ ∀ p, H1 p = none → Q (.ref p) (upd H1 p (.tup xs))) : WE X (.Tuple es x1 pos) σ H Q := WE.of (pe_tup pa_w) q
theorem we_lst {es} (q : WA X es σ H fun xs H1 => xs.length ≤ sizeLine ∧ ∀ p, H1 p = none → Q (.ref p) (upd H1 p (.lst xs))) : WE X (.List es pos) σ H Q := WE.of (pe_lst pa_w) q
theorem wa_nil {Q : List V → Hp → Prop} (q : Q [] H) : WA X [] σ H Q := WA.of pa_nil q
theorem wa_cons {e es} {Q : List V → Hp → Prop} (q : WE X e σ H fun x H1 => WA X es σ H1 fun xs H2 => Q (x :: xs) H2) (hs : starEach (e :: es) X.env = (false, eval e X.env) :: starEach es X.env := by rfl) : WA X (e :: es) σ H Q := WA.of (pa_cons pe_w pa_w hs) q
theorem we_ix {a b : Expr} (q : WE X a σ H fun x H1 => WE X b σ H1 fun y H2 => WIx X x y H2 Q) (hs : PlainIx b := by exact fun _ _ => rfl) : WE X (.Subscript a b pos) σ H Q := WE.of (pe_ix ix_w pe_w pe_w hs) q
theorem we_sl00 {e : Expr} {p2} (q : WE X e σ H fun x H1 => WSl X x none none H1 Q) : WE X (.Subscript e (.Slice none none none p2) pos) σ H Q := WE.of (pe_slice sl_w pe_w po_none po_none) q
theorem we_sl10 {e l : Expr} {p2} (q : WE X e σ H fun x H1 => WE X l σ H1 fun y H2 => ∃ i, y = .int i ∧ WSl X x (some i) none H2 Q) : WE X (.Subscript e (.Slice (some l) none none p2) pos) σ H Q := WE.of (pe_slice sl_w pe_w (po_some pe_w) po_none) q
theorem we_sl01 {e u : Expr} {p2} (q : WE X e σ H fun x H1 => WE X u σ H1 fun y H2 => ∃ i, y = .int i ∧ WSl X x none (some i) H2 Q) : WE X (.Subscript e (.Slice none (some u) none p2) pos) σ H Q := WE.of (pe_slice sl_w pe_w po_none (po_some pe_w)) q
theorem we_sl11 {e l u : Expr} {p2} (q : WE X e σ H fun x H1 => WE X l σ H1 fun y H2 => ∃ i, y = .int i ∧ WE X u σ H2 fun z H3 => ∃ j, z = .int j ∧ WSl X x (some i) (some j) H3 Q) : WE X (.Subscript e (.Slice (some l) (some u) none p2) pos) σ H Q := WE.of (pe_slice sl_w pe_w (po_some pe_w) (po_some pe_w)) q
/-! ### calls of built-ins -/
theorem we_callB {x : Str} {p : Pos} {e es id} (hg : Gl X x) (hm : X.mg x = none) (hv : bootBuiltins x = some (.builtin id)) (q : WA X (e :: es) σ H fun xs H1 => WC X (.builtin id) xs H1 Q) (hn : x ≠ "__name__" := by decide) (hdb : (x == ("__debug__" : Str)) = false := by decide)
    (he : starEach (e :: es) X.env = (false, eval e X.env) :: starEach es X.env := by rfl) (hpl : (backTo pos (starEach es X.env)).any (·.1) = false := by rfl) : WE X (.Call (.Name x p) (e :: es) [] pos) σ H Q :=
  WE.of (pe_callB call_w hg hm hv pa_w hn hdb he hpl) q
theorem we_callTy {x : Str} {p : Pos} {e es T} (hg : Gl X x) (hm : X.mg x = none) (hv : bootBuiltins x = some (.type T)) (q : WA X (e :: es) σ H fun xs H1 => WC X (.type T) xs H1 Q) (hn : x ≠ "__name__" := by decide) (hdb : (x == ("__debug__" : Str)) = false := by decide)
    (he : starEach (e :: es) X.env = (false, eval e X.env) :: starEach es X.env := by rfl) (hpl : (backTo pos (starEach es X.env)).any (·.1) = false := by rfl) : WE X (.Call (.Name x p) (e :: es) [] pos) σ H Q :=
  WE.of (pe_callTy call_w hg hm hv pa_w hn hdb he hpl) q
theorem we_call {CX k f fd ps sp dvs ds E} {x : Str} {p : Pos} {e es} (F : FnOk X.prog X.w X.K X.mg X.base CX k f fd ps sp) (hr : Room k X.A) (hg : Gl X x) (hm : X.mg x = some (.ref f)) (hk : PySem.W.keepIn X.K (.ref f) = true) (hb : Binds X.K fd ps ds) (hd : Vals dvs ds) (hx : Passes CX X E)
    (q : WA X (e :: es) σ H fun vs H1 => sp (vs ++ dvs) H1 Q E) (hdb : (x == ("__debug__" : Str)) = false := by decide) (he : starEach (e :: es) X.env = (false, eval e X.env) :: starEach es X.env := by rfl) (hpl : (backTo pos (starEach es X.env)).any (·.1) = false := by rfl) :
    WE X (.Call (.Name x p) (e :: es) [] pos) σ H Q := WE.of (pe_call F hr hg hm hk hb hd hx pa_w hdb he hpl) q
theorem we_bm0 {T name id o apos} (pa : PlainAttrs T) (slot : Slot T name id) (hty : typeOf (.builtin id) = pure (.type "method_descriptor")) (q : WE X o σ H fun x H1 => tyV X.K T x H1 ∧ WM X id x [] H1 Q)
    (hbase : attributeBase o name X.env (eval o X.env) = eval o X.env := by rfl) (hline : (apos.endLine == pos.line) = true := by rfl) : WE X (.Call (.Attribute o name apos) [] [] pos) σ H Q := WE.of (pe_bm0 pa slot hty mt_w pe_w hbase hline) q
theorem we_bm {T name id o apos e es} (pa : PlainAttrs T) (slot : Slot T name id) (hty : typeOf (.builtin id) = pure (.type "method_descriptor")) (q : WE X o σ H fun x H1 => tyV X.K T x H1 ∧ WA X (e :: es) σ H1 fun vs H2 => WM X id x vs H2 Q)
    (hbase : attributeBase o name X.env (eval o X.env) = eval o X.env := by rfl)
    (hfew : ((backTo pos (starEach (e :: es) X.env)).all (fun x => !x.1) && (backToKw pos (keywordEach [] X.env)).all (fun x => x.1.isSome)
      && decide ((e :: es).length + ([] : List Keyword).length + (if ([] : List Keyword).isEmpty then 0 else 1) < 30)) = true := by rfl)
    (hline : (apos.endLine == pos.line) = true := by rfl) (hs : starEach (e :: es) X.env = (false, eval e X.env) :: starEach es X.env := by rfl) (hplain : (backTo pos (starEach es X.env)).any (·.1) = false := by rfl) :
    WE X (.Call (.Attribute o name apos) (e :: es) [] pos) σ H Q := WE.of (pe_bm pa slot hty mt_w pe_w pa_w hbase hfew hline hs hplain) q
/-! ### statements -/
variable {D : Ends}
theorem ws_cons {st rest} {nx : L2.St → Hp → Prop} {rt : VK} {bk ct : L2.St → Hp → Prop} (q : WS X st ⟨WSs X rest ⟨nx, rt, bk, ct⟩, rt, bk, ct⟩ σ H) : WSs X (st :: rest) ⟨nx, rt, bk, ct⟩ σ H := WSs.of (pss_cons ps_w pss_w) q
theorem ws_one {st} (q : WS X st D σ H) : WSs X [st] D σ H := WSs.of (pss_one ps_w) q
theorem ws_nil (q : D.nx σ H) : WSs X [] D σ H := WSs.of pss_nil q
theorem ws_pass (q : D.nx σ H) : WS X (.Pass pos) D σ H := WS.of ps_pass q
theorem ws_break (q : D.bk σ H) : WS X (.Break pos) D σ H := WS.of ps_break q
theorem ws_cont (q : D.ct σ H) : WS X (.Continue pos) D σ H := WS.of ps_continue q
theorem ws_expr {e} (q : WE X e σ H fun _ H1 => D.nx σ H1) (hs : swapsWith e none pos.line X.env = pure false := by rfl) : WS X (.Expr e pos) D σ H := WS.of (ps_expr pe_w hs) q
theorem ws_ret {e} (q : WE X e σ H D.rt) : WS X (.Return (some e) pos) D σ H := WS.of (ps_ret pe_w) q
theorem ws_retN (q : D.rt .non H) : WS X (.Return none pos) D σ H := WS.of ps_retN q
theorem ws_if {c a b} (q : WT X c σ H fun k H1 => if k = true then WSs X a D σ H1 else WSs X b D σ H1) : WS X (.If c a b pos) D σ H := WS.of (ps_if pt_w pss_w pss_w) q
theorem ws_asg {tg e} (q : WE X e σ H fun x H1 => WG X tg x σ H1 D.nx) (hs : swapsWithSole [tg] e pos.line X.env = pure false := by rfl) (hw : swappedStores [tg] e X.env = pure none := by rfl)
    (h1 : (assignEach [tg] X.env).map (·.2) = [assign tg X.env] := by rfl) : WS X (.Assign [tg] e pos) D σ H := WS.of (ps_asg pe_w pg_w hs hw h1) q
theorem ws_set {x : Str} {e : Expr} {pos' : Pos} {i : Nat} (hN : X.N.Nodup) (hi : idxN X.N x = some i) (q : WE X e σ H fun v H1 => D.nx (σ.set i (some v)) H1) (hx : Loc X.env.scope x := by first | exact Or.inl rfl | exact Or.inr rfl)
    (hs : swapsWith e (some (.Name x pos')) pos.line X.env = pure false := by rfl) (hf : X.fn x = true ∨ X.env.scope.names.lookup x = some .local := by first | exact .inl rfl | exact .inr rfl) : WS X (.Assign [.Name x pos'] e pos) D σ H :=
  WS.of (ps_set hN (idxN_at hi) hx pe_w hs hf) q
theorem ws_aug {x : Str} {e : Expr} {pos' : Pos} {op : Operator} {i : Nat} {v : V} (hN : X.N.Nodup) (hi : idxN X.N x = some i) (hv : σ[i]? = some (some v)) (q : WE X e σ H fun y H1 => WIp X op v y H1 fun z H2 => D.nx (σ.set i (some z)) H2) (hx : Loc X.env.scope x := by first | exact Or.inl rfl | exact Or.inr rfl)
    (hf : X.fn x = true ∨ X.env.scope.names.lookup x = some .local := by first | exact .inl rfl | exact .inr rfl) : WS X (.AugAssign (.Name x pos') op e pos) D σ H :=
  WS.of (ps_aug hN (idxN_at hi) hx pe_w ip_w hf) ⟨v, hv, q⟩
theorem wg_sub {o i : Expr} {v : V} {Q : L2.St → Hp → Prop} (q : WE X o σ H fun a H1 => WE X i σ H1 fun b H2 => WSet X a b v H2 fun H3 => Q σ H3)
    (ha : ∀ v, assign (.Subscript o i pos) X.env v = (do
      let ov ← holding [v] (eval o X.env)
      let iv ← holding [v, ov] (eval i X.env)
      standAt pos
      holding [v, ov, iv] (setItem ov iv v)
      release [v, ov, iv] []) := by intro _; rfl) : WG X (.Subscript o i pos) v σ H Q := WG.of (pg_sub pe_w pe_w set_w ha) q
theorem ws_par {x y : Str} {a b : Expr} {px py pt : Pos} {kt k2 pt2} {i j : Nat} (q : WA X [a, b] σ H fun vs H1 => ∃ v w, vs = [v, w] ∧ D.nx ((σ.set i (some v)).set j (some w)) H1)
    (h : PS X (.Assign [.Tuple [.Name x px, .Name y py] kt pt] (.Tuple [a, b] k2 pt2) pos) (tPar i j (WA X [a, b]))) :
    WS X (.Assign [.Tuple [.Name x px, .Name y py] kt pt] (.Tuple [a, b] k2 pt2) pos) D σ H := WS.of h q
theorem ws_for {tg iter body} (hp : PassesOwn (model X.prog X.w) X.A X.env X.xe) (hc : X.calm = true) (q : tFor (WI X tg iter) (WG X tg) (WSs X body) D σ H) (hs : ∀ x, foldedSetIterable iter X.env x = pure x := by intro _; rfl) : WS X (.For tg iter body [] pos) D σ H :=
  WS.of (ps_for hp hc pi_w pg_w pss_w hs) q
theorem ws_while {c body} {nx : L2.St → Hp → Prop} {rt : VK} {bk ct : L2.St → Hp → Prop} (hp : PassesOwn (model X.prog X.w) X.A X.env X.xe) (Pv : L2.St → Hp → Prop) (μ : L2.St → Hp → Nat) (h0 : Pv σ H)
    (hs : ∀ σ H, Pv σ H → WT X c σ H fun b H1 => if b = true then WSs X body ⟨fun σ' H' => Pv σ' H' ∧ μ σ' H' < μ σ H, rt, nx, fun σ' H' => Pv σ' H' ∧ μ σ' H' < μ σ H⟩ σ H1 else nx σ H1) :
    WS X (.While c body [] pos) ⟨nx, rt, bk, ct⟩ σ H :=
  WS.of (ps_while hp pt_w pss_w) (while_by Pv μ h0 hs fun _ _ _ _ h q => WT.mono h q)
end
end Wx

namespace Wx
open PySem PySem.Spec PyProof.Rows L2

/-! ### heaps -/
def Ex (H H' : Hp) : Prop := ∀ a o, H a = some o → H' a = some o
theorem Ex.refl (H : Hp) : Ex H H := fun _ _ h => h
theorem Ex.trans {H H1 H2 : Hp} (a : Ex H H1) (b : Ex H1 H2) : Ex H H2 := fun x o h => b x o (a x o h)
theorem Ex.new {H : Hp} {p : Addr} {o : HO} (h : H p = none) : Ex H (upd H p o) := fun a u e => by
  rw [upd_ne (ne_of_none e h)]
  exact e
theorem Ex.mut {H H' : Hp} {p : Addr} {o : HO} (e : Ex H H') (h : H p = none) : Ex H (upd H' p o) := fun a u ha => by
  rw [upd_ne (ne_of_none ha h)]
  exact e a u ha
theorem Ex.fresh {H H' : Hp} {p : Addr} (e : Ex H H') (h : H' p = none) : H p = none := by
  cases h1 : H p with
  | none => rfl
  | some o =>
    rw [e p o h1] at h
    cases h
theorem Ex.rd {H H' : Hp} {a : Addr} {u : HO} (e : Ex H H') (h : Rd H a u) : Rd H' a u := by
  rcases h with h | ⟨o, h⟩
  · exact Or.inl (e a _ h)
  · exact Or.inr ⟨o, e a _ h⟩
theorem Ex.l {K : PySem.W.Frag} {H H' : Hp} {a : Addr} {xs : List V} (e : Ex H H') (h : SqL K H a xs) : SqL K H' a xs := by
  rcases h with h | h
  · exact Or.inl (e.rd h)
  · exact Or.inr h
theorem Ex.t {K : PySem.W.Frag} {H H' : Hp} {a : Addr} {xs : List V} (e : Ex H H') (h : SqT K H a xs) : SqT K H' a xs := by
  rcases h with h | h
  · exact Or.inl (e.rd h)
  · exact Or.inr h
theorem sq_of {K : PySem.W.Frag} {H : Hp} {a : Addr} {xs : List V} (h : H a = some (.lst xs)) : SqL K H a xs := Or.inl (Or.inl h)
theorem st_of {K : PySem.W.Frag} {H : Hp} {a : Addr} {xs : List V} (h : H a = some (.tup xs)) : SqT K H a xs := Or.inl (Or.inl h)
theorem sz_le {n : Nat} (h : n ≤ 1000000) : n ≤ sizeLine := Nat.le_trans h (by decide)
theorem sz_lt {n : Nat} (h : n < 1000000) : n < sizeLine := Nat.lt_of_lt_of_le h (by decide)

section
variable {X : Cx} {σ : L2.St} {H : Hp} {Q : VK} {i j : Int} {pos : Pos}
/-! ### ints -/
theorem wo_add (q : Q (.int (i + j)) H) : WO X (binaryOp .Add) (.int i) (.int j) H Q := WO.of op_add ⟨i, j, rfl, rfl, q⟩
theorem wo_sub (q : Q (.int (i - j)) H) : WO X (binaryOp .Sub) (.int i) (.int j) H Q := WO.of op_sub ⟨i, j, rfl, rfl, q⟩
theorem wo_mul (h : CMul i j) (q : Q (.int (i * j)) H) : WO X (binaryOp .Mult) (.int i) (.int j) H Q := WO.of op_mul ⟨i, j, rfl, rfl, h, q⟩
theorem wo_fdiv (h : CDiv i j) (q : Q (.int (i / j)) H) : WO X (binaryOp .FloorDiv) (.int i) (.int j) H Q := WO.of op_fdiv ⟨i, j, rfl, rfl, h, q⟩
theorem wo_mod (h : 0 < j) (q : Q (.int (i % j)) H) : WO X (binaryOp .Mod) (.int i) (.int j) H Q := WO.of op_mod ⟨i, j, rfl, rfl, h, q⟩
theorem wo_pow (h : CPow i j) (q : Q (.int (i ^ j.toNat)) H) : WO X (binaryOp .Pow) (.int i) (.int j) H Q := WO.of op_pow ⟨i, j, rfl, rfl, h, q⟩
theorem wo_lt (q : Q (.bl (decide (i < j))) H) : WO X (compareOp .Lt) (.int i) (.int j) H Q := WO.of op_lt ⟨i, j, rfl, rfl, q⟩
theorem wo_le (q : Q (.bl (decide (i ≤ j))) H) : WO X (compareOp .LtE) (.int i) (.int j) H Q := WO.of op_le ⟨i, j, rfl, rfl, q⟩
theorem wo_gt (q : Q (.bl (decide (j < i))) H) : WO X (compareOp .Gt) (.int i) (.int j) H Q := WO.of op_gt ⟨i, j, rfl, rfl, q⟩
theorem wo_ge (q : Q (.bl (decide (j ≤ i))) H) : WO X (compareOp .GtE) (.int i) (.int j) H Q := WO.of op_ge ⟨i, j, rfl, rfl, q⟩
theorem decI {i j : Int} : decide (V.int i = V.int j) = decide (i = j) := by
  by_cases h : i = j
  · subst h; simp
  · rw [decide_eq_false h, decide_eq_false (fun e => h (V.int.inj e))]
theorem decS {i j : Str} : decide (V.str i = V.str j) = decide (i = j) := by
  by_cases h : i = j
  · subst h; simp
  · rw [decide_eq_false h, decide_eq_false (fun e => h (V.str.inj e))]
theorem wo_eq (q : Q (.bl (decide (i = j))) H) : WO X (compareOp .Eq) (.int i) (.int j) H Q := WO.of op_eq ⟨rfl, by rw [decI]; exact q⟩
theorem wo_ne (q : Q (.bl (!decide (i = j))) H) : WO X (compareOp .NotEq) (.int i) (.int j) H Q := WO.of op_ne ⟨rfl, by rw [decI]; exact q⟩
theorem wo_eqS {x y : Str} (q : Q (.bl (decide (x = y))) H) : WO X (compareOp .Eq) (.str x) (.str y) H Q := WO.of op_eq ⟨rfl, by rw [decS]; exact q⟩
theorem wo_neS {x y : Str} (q : Q (.bl (!decide (x = y))) H) : WO X (compareOp .NotEq) (.str x) (.str y) H Q := WO.of op_ne ⟨rfl, by rw [decS]; exact q⟩
theorem wo_addS {x y : Str} (h : x.length + y.length ≤ 1000000) (q : Q (.str (x ++ y)) H) : WO X (binaryOp .Add) (.str x) (.str y) H Q := WO.of op_add_str ⟨x, y, rfl, rfl, sz_le h, q⟩
theorem wu_neg (q : Q (.int (-i)) H) : WU X (unaryOp .USub) (.int i) H Q := WU.of un_neg ⟨i, rfl, q⟩
/-! ### lists and tuples -/
theorem wix_l {p : Addr} {xs : List V} {v : V} (h : SqL X.K H p xs) (ha : atI xs i = some v) (q : Q v H) : WIx X (.ref p) (.int i) H Q := WIx.of ix_list ⟨p, xs, i, v, rfl, rfl, h, ha, q⟩
theorem wix_t {p : Addr} {xs : List V} {v : V} (h : SqT X.K H p xs) (ha : atI xs i = some v) (q : Q v H) : WIx X (.ref p) (.int i) H Q := WIx.of ix_tup ⟨p, xs, i, v, rfl, rfl, h, ha, q⟩
theorem wix_s {z : Str} {c : Nat} (h : z.length ≤ 1000000) (ha : atI z.cps.toList i = some c) (q : Q (.str ⟨#[c]⟩) H) : WIx X (.str z) (.int i) H Q := WIx.of ix_str ⟨z, i, c, rfl, rfl, sz_le h, ha, q⟩
theorem wset_l {p : Addr} {xs : List V} {v : V} {k : Nat} {Q : Hp → Prop} (h : H p = some (.lst xs)) (hi : ixN xs.length i = some k) (q : Q (upd H p (.lst (xs.set k v)))) : WSet X (.ref p) (.int i) v H Q := WSet.of set_list ⟨p, xs, i, k, rfl, rfl, h, hi, q⟩
theorem wip_add (q : Q (.int (i + j)) H) : WIp X .Add (.int i) (.int j) H Q := WIp.of ip_add ⟨i, j, rfl, rfl, q⟩
theorem wip_sub (q : Q (.int (i - j)) H) : WIp X .Sub (.int i) (.int j) H Q := WIp.of ip_sub ⟨i, j, rfl, rfl, q⟩
/-! ### built-ins by name -/
theorem we_len {p : Pos} {e es} (hm : X.mg "len" = none) (q : WA X (e :: es) σ H fun xs H1 => WC X (.builtin "len") xs H1 Q) (hg : Gl X "len" := by rfl)
    (he : starEach (e :: es) X.env = (false, eval e X.env) :: starEach es X.env := by rfl) (hpl : (backTo pos (starEach es X.env)).any (·.1) = false := by rfl) : WE X (.Call (.Name "len" p) (e :: es) [] pos) σ H Q := we_callB hg hm PySem.boot_len q (by decide) (by decide) he hpl
theorem boot_int : bootBuiltins "int" = some (.type "int") := by decide +kernel
theorem we_intT {p : Pos} {e es} (hm : X.mg "int" = none) (q : WA X (e :: es) σ H fun xs H1 => WC X (.type "int") xs H1 Q) (hg : Gl X "int" := by rfl)
    (he : starEach (e :: es) X.env = (false, eval e X.env) :: starEach es X.env := by rfl) (hpl : (backTo pos (starEach es X.env)).any (·.1) = false := by rfl) : WE X (.Call (.Name "int" p) (e :: es) [] pos) σ H Q := we_callTy hg hm boot_int q (by decide) (by decide) he hpl
theorem wc_int (q : Q (.int i) H) : WC X (.type "int") [.int i] H Q := WC.of call_int1 (.inl ⟨i, rfl, q⟩)
theorem wc_lenL {p : Addr} {xs : List V} (h : SqL X.K H p xs) (q : Q (.int xs.length) H) : WC X (.builtin "len") [.ref p] H Q := WC.of call_len_seq ⟨p, xs, rfl, .inl h, q⟩
theorem wc_lenT {p : Addr} {xs : List V} (h : SqT X.K H p xs) (q : Q (.int xs.length) H) : WC X (.builtin "len") [.ref p] H Q := WC.of call_len_seq ⟨p, xs, rfl, .inr h, q⟩
theorem wc_lenS {z : Str} (h : z.length ≤ 1000000) (q : Q (.int z.length) H) : WC X (.builtin "len") [.str z] H Q := WC.of call_len_str ⟨z, rfl, sz_le h, q⟩
/-! ### loops -/
variable {D : Ends}
theorem ws_forL {nx : L2.St → Hp → Prop} {rt : VK} {bk ct : L2.St → Hp → Prop} {tg iter body} (hp : PassesOwn (model X.prog X.w) X.A X.env X.xe) (hc : X.calm = true) (q : WE X iter σ H fun x H1 => ∃ a xs, x = .ref a ∧ SqL X.K H1 a xs ∧ ∃ Pv : Nat → L2.St → Hp → Prop, Pv 0 σ H1 ∧ (∀ i σ H, i ≤ xs.length → Pv i σ H → SqL X.K H a xs) ∧
      (∀ i x σ H, xs[i]? = some x → Pv i σ H → WG X tg x σ H fun σ2 H2 => WSs X body ⟨Pv (i + 1), rt, nx, Pv (i + 1)⟩ σ2 H2) ∧ ∀ σ H, Pv xs.length σ H → nx σ H)
    (hs : ∀ x, foldedSetIterable iter X.env x = pure x := by intro _; rfl) : WS X (.For tg iter body [] pos) ⟨nx, rt, bk, ct⟩ σ H :=
  WS.of (ps_for hp hc (pi_list pe_w) pg_w pss_w hs) (WE.mono (fun _ _ ⟨a, xs, e, h, Pv, h0, hl, ht, hd⟩ => ⟨a, e, ⟨xs, h⟩, for_list (xs := xs) Pv h0 hl ht hd⟩) q)
theorem ws_forT {nx : L2.St → Hp → Prop} {rt : VK} {bk ct : L2.St → Hp → Prop} {tg iter body} (hp : PassesOwn (model X.prog X.w) X.A X.env X.xe) (hc : X.calm = true) (q : WE X iter σ H fun x H1 => ∃ a xs, x = .ref a ∧ SqT X.K H1 a xs ∧ ∃ Pv : Nat → L2.St → Hp → Prop, Pv 0 σ H1 ∧ (∀ i σ H, i ≤ xs.length → Pv i σ H → SqT X.K H a xs) ∧
      (∀ i x σ H, xs[i]? = some x → Pv i σ H → WG X tg x σ H fun σ2 H2 => WSs X body ⟨Pv (i + 1), rt, nx, Pv (i + 1)⟩ σ2 H2) ∧ ∀ σ H, Pv xs.length σ H → nx σ H)
    (hs : ∀ x, foldedSetIterable iter X.env x = pure x := by intro _; rfl) : WS X (.For tg iter body [] pos) ⟨nx, rt, bk, ct⟩ σ H :=
  WS.of (ps_for hp hc (pi_tup pe_w) pg_w pss_w hs) (WE.mono (fun _ _ ⟨a, xs, e, h, Pv, h0, hl, ht, hd⟩ => ⟨a, e, ⟨xs, h⟩, for_tup (xs := xs) Pv h0 hl ht hd⟩) q)
theorem ws_forR {nx : L2.St → Hp → Prop} {rt : VK} {bk ct : L2.St → Hp → Prop} {tg e body p p'} (hp : PassesOwn (model X.prog X.w) X.A X.env X.xe) (hc : X.calm = true) (hm : X.mg "range" = none) (q : WE X e σ H fun x H1 => ∃ j : Int, x = .int j ∧ -(2 ^ 62) ≤ j ∧ j < 2 ^ 62 ∧ ∃ Pv : Nat → L2.St → Hp → Prop, Pv 0 σ H1 ∧
      (∀ i σ H, i < j.toNat → Pv i σ H → WG X tg (.int i) σ H fun σ2 H2 => WSs X body ⟨Pv (i + 1), rt, nx, Pv (i + 1)⟩ σ2 H2) ∧ ∀ σ H, Pv j.toNat σ H → nx σ H)
    (hg : Gl X "range" := by rfl) (hse : starEach [e] X.env = [(false, eval e X.env)] := by rfl) (hs : ∀ x, foldedSetIterable (.Call (.Name "range" p) [e] [] p') X.env x = pure x := by intro _; rfl) : WS X (.For tg (.Call (.Name "range" p) [e] [] p') body [] pos) ⟨nx, rt, bk, ct⟩ σ H :=
  WS.of (ps_for hp hc (pi_range1 hg hm (pa_cons pe_w pa_nil hse) hse) pg_w pss_w hs) (WE.mono (fun _ _ ⟨j, e, h1, h2, Pv, h0, ht, hd⟩ => ⟨j, by rw [e], h1, h2, for_range (lo := 0) (n := j.toNat) Pv h0 (fun i σ H hi p => by
    rw [show (0 : Int) + (i : Int) = (i : Int) by omega]
    exact ht i σ H hi p) hd⟩) q)
end
/-! ### callees -/
structure Cal (P : Program) (w : World) (K : PySem.W.Frag) (mg : Str → Option Value) (base : Heap) (CX : CXT) (k : Nat) (x : Str) (sp : Sp) : Prop where
  ex : ∃ f fd ps, FnOk P w K mg base CX k f fd ps sp ∧ mg x = some (.ref f) ∧ PySem.W.keepIn K (.ref f) = true ∧ Binds K fd ps []
theorem we_cal {X : Cx} {σ : L2.St} {H : Hp} {Q : VK} {k x p e es pos sp CX E} (C : Cal X.prog X.w X.K X.mg X.base CX k x sp) (hr : Room k X.A) (hx : Passes CX X E) (q : WA X (e :: es) σ H fun vs H1 => sp vs H1 Q E) (hg : Gl X x := by rfl) (hdb : (x == ("__debug__" : Str)) = false := by decide) (he : starEach (e :: es) X.env = (false, eval e X.env) :: starEach es X.env := by rfl)
    (hpl : (backTo pos (starEach es X.env)).any (·.1) = false := by rfl) : WE X (.Call (.Name x p) (e :: es) [] pos) σ H Q := by
  obtain ⟨f, fd, ps, F, hm, hk, hb⟩ := C.ex
  refine we_call F hr hg hm hk hb .nil hx ?_ hdb he hpl
  have e0 : ∀ vs : List V, vs ++ [] = vs := fun vs => List.append_nil vs
  simp only [e0]
  exact q
end Wx
namespace Wx
open PySem PySem.Spec PyProof.Rows L2
theorem upd_get {H : Hp} {a b : Addr} {o u : HO} (h : b ≠ a) (g : H b = some o) : upd H a u b = some o := (upd_ne h).trans g
theorem Ex.get {H H' : Hp} {a : Addr} {o : HO} (e : Ex H H') (g : H a = some o) : H' a = some o := e a o g
/-! ### the drawn numbers: the list at p may change, the rest stays -/
def pub (p : Addr) (H : Hp) : Hp := fun a => if a = p then none else H a
theorem pub_ex {p : Addr} {H : Hp} : Ex (pub p H) H := fun a o h => by
  unfold pub at h
  split at h
  · cases h
  · exact h
theorem pub_get {p a : Addr} {H : Hp} {o : HO} (hne : a ≠ p) (h : H a = some o) : pub p H a = some o := by
  unfold pub
  rw [if_neg hne]
  exact h
theorem pub_mono {p : Addr} {H H' : Hp} (e : Ex H H') : Ex (pub p H) (pub p H') := fun a o h => by
  unfold pub at h ⊢
  split at h
  · cases h
  · rename_i hn
    rw [if_neg hn]
    exact e a o h
theorem pub_upd {p : Addr} {H : Hp} {o : HO} : pub p (upd H p o) = pub p H := by
  funext a
  unfold pub upd
  split
  · rfl
  · rfl
theorem pub_new {p q : Addr} {H : Hp} {o : HO} (hq : q ≠ p) : pub p (upd H q o) = upd (pub p H) q o := by
  funext a
  unfold pub upd
  by_cases h : a = p
  · subst h
    rw [if_pos rfl, if_neg (fun e => hq e.symm)]
    exact (if_pos rfl).symm
  · rw [if_neg h]
    show _ = if a = q then some o else (if a = p then none else H a)
    rw [if_neg h]
theorem pub_none {p q : Addr} {H : Hp} (h : H q = none) : pub p H q = none := by
  unfold pub
  split
  · rfl
  · exact h
def Src (H : Hp) (p : Addr) (n : Nat) : Prop := ∃ (g s c : Int), H p = some (.lst [.int g, .int s, .int c]) ∧ 0 ≤ s ∧ s < 2147483647 ∧ 0 ≤ c ∧ c ≤ n
theorem Src.mono {H : Hp} {p : Addr} {n m : Nat} (h : Src H p n) (e : n ≤ m) : Src H p m := by
  obtain ⟨g, s, c, a, b, d, f, i⟩ := h
  exact ⟨g, s, c, a, b, d, f, by omega⟩
theorem Src.ex {H H' : Hp} {p : Addr} {n : Nat} (e : Ex H H') (h : Src H p n) : Src H' p n := by
  obtain ⟨g, s, c, a, b⟩ := h
  exact ⟨g, s, c, e p _ a, b⟩
theorem Src.ne {H : Hp} {p q : Addr} {n : Nat} (h : Src H p n) (hq : H q = none) : q ≠ p := by
  obtain ⟨g, s, c, a, _⟩ := h
  exact (ne_of_none a hq).symm
def spDraw : Sp := fun vs H Q _ => ∃ p n m, vs = [.ref p, .int m] ∧ Src H p n ∧ n < 1000000 ∧ 0 < m ∧ m < 1073741824 ∧ ∀ H' d, Ex (pub p H) (pub p H') → Src H' p (n + 1) → 0 ≤ d → d < m → Q (.int d) H'
def spSource (K : PySem.W.Frag) : Sp := fun vs H Q _ => ∃ (a : Addr) (ns : List Int), vs = [.ref a] ∧ SqL K H a (ns.map V.int) ∧ ∀ H' p, Ex H H' → H p = none → Src H' p 0 → Q (.ref p) H'
def spPick (K : PySem.W.Frag) : Sp := fun vs H Q _ => ∃ (p : Addr) (n : Nat) (a : Addr) (xs : List V), vs = [.ref p, .ref a] ∧ Src H p n ∧ n < 1000000 ∧ SqL K (pub p H) a xs ∧ 0 < xs.length ∧ xs.length < 1073741824 ∧ ∀ H' (d : Nat) v, Ex (pub p H) (pub p H') → Src H' p (n + 1) → xs[d]? = some v → Q v H'
theorem wss_of {X : Cx} {D : Ends} {σ : L2.St} {H : Hp} {sts : List Stmt} {st : Stmt} {rest : List Stmt} (h : sts = st :: rest) (q : WSs X (st :: rest) D σ H) : ∃ t, PSs X sts t ∧ t D σ H := ⟨_, pss_w, h ▸ q⟩
end Wx

/-! texts as lists of code points -/
namespace Wx
open PySem PySem.Spec PyProof.Rows L2
def S (l : List Nat) : Str := ⟨l.toArray⟩
theorem S_inj {a b : List Nat} (h : S a = S b) : a = b := by
  have := congrArg (fun s : Str => s.cps.toList) h
  simpa [S] using this
theorem S_len (l : List Nat) : (S l).length = l.length := by simp [S, Str.length]
theorem S_app (a b : List Nat) : S a ++ S b = S (a ++ b) := by
  show (⟨(S a).cps ++ (S b).cps⟩ : Str) = S (a ++ b)
  simp [S]
theorem S_list (l : List Nat) : (S l).cps.toList = l := by simp [S]
theorem S_eq (x : Str) : x = S x.cps.toList := by
  cases x with | mk c => simp [S]
theorem S_dec {a b : List Nat} : decide (S a = S b) = decide (a = b) := by
  by_cases h : a = b
  · subst h; simp
  · rw [decide_eq_false h, decide_eq_false (fun e => h (S_inj e))]
theorem S_one (c : Nat) : (⟨#[c]⟩ : Str) = S [c] := rfl
/-! ### how often a sign stands in a text -/
theorem subAt_one (l : List Nat) (c i : Nat) (hi : i < l.length) : Builtin.Str.subAt (S l) (S [c]) i = decide (l[i]? = some c) := by
  unfold Builtin.Str.subAt
  have e : ((S l).cps.extract i (i + (S [c]).length)) = #[l[i]] := by
    apply Array.ext'
    simp [S, Str.length]
    rw [List.drop_eq_getElem_cons hi, List.take_succ_cons, List.take_zero]
  rw [e, List.getElem?_eq_getElem hi]
  by_cases h : l[i] = c
  · simp [h, S]
  · have h2 : ¬ (#[l[i]] : Array Nat) = (S [c]).cps := fun q => h (by
      have := congrArg Array.toList q
      simpa [S] using this)
    have h3 : ¬ (some l[i] = some c) := fun q => h (Option.some.inj q)
    rw [decide_eq_false h3]
    exact beq_eq_false_iff_ne.mpr h2
theorem occ_sign (l : List Nat) (c limit : Nat) : ∀ (m a : Nat) (st : Array Nat × Nat), a + m = l.length + 1 → st.snd ≤ a → st.fst.size + (l.length - a) < limit →
    (forIn (List.range' a m) st (StrLaws.occBody (S l) (S [c]) (S l).length limit)).run.fst.size = st.fst.size + (l.drop a).count c
  | 0, a, st, h, _, _ => by
    rw [List.drop_of_length_le (by omega)]
    simp
  | m + 1, a, st, h, h2, h3 => by
    rw [List.range'_succ, List.forIn_cons]
    unfold StrLaws.occBody
    by_cases ha : a < l.length
    · have hd : l.drop a = l[a] :: l.drop (a + 1) := List.drop_eq_getElem_cons ha
      rw [subAt_one l c a ha, List.getElem?_eq_getElem ha, hd]
      by_cases hc : l[a] = c
      · have cond : ((st.fst.size < limit ∧ st.snd ≤ a) ∧ a + (S [c]).length ≤ (S l).length) ∧ decide (some l[a] = some c) = true := by
          refine ⟨⟨⟨by omega, h2⟩, ?_⟩, by simp [hc]⟩
          rw [S_len, S_len]
          simp
          omega
        rw [if_pos cond]
        have ih := occ_sign l c limit m (a + 1) (st.fst.push a, a + (S [c]).length) (by omega) (by rw [S_len]; simp) (by show (st.fst.push a).size + (l.length - (a + 1)) < limit; rw [Array.size_push]; omega)
        refine Eq.trans ih ?_
        rw [List.count_cons]
        simp [hc]
        omega
      · have cond : ¬ (((st.fst.size < limit ∧ st.snd ≤ a) ∧ a + (S [c]).length ≤ (S l).length) ∧ decide (some l[a] = some c) = true) := by
          rintro ⟨_, q⟩
          exact hc (by simpa using q)
        rw [if_neg cond]
        have ih := occ_sign l c limit m (a + 1) (st.fst, st.snd) (by omega) (by show st.snd ≤ a + 1; omega) (by show st.fst.size + (l.length - (a + 1)) < limit; omega)
        refine Eq.trans ih ?_
        rw [List.count_cons]
        simp [hc]
    · have cond : ¬ (((st.fst.size < limit ∧ st.snd ≤ a) ∧ a + (S [c]).length ≤ (S l).length) ∧ Builtin.Str.subAt (S l) (S [c]) a = true) := by
        rintro ⟨⟨_, q⟩, _⟩
        rw [S_len, S_len] at q
        simp at q
        omega
      rw [if_neg cond]
      have ih := occ_sign l c limit m (a + 1) (st.fst, st.snd) (by omega) (by show st.snd ≤ a + 1; omega) (by show st.fst.size + (l.length - (a + 1)) < limit; omega)
      refine Eq.trans ih ?_
      rw [List.drop_of_length_le (show l.length ≤ a by omega), List.drop_of_length_le (show l.length ≤ a + 1 by omega)]
theorem count_sign (l : List Nat) (c : Nat) : Txt.count (S l) (S [c]) = ((l.count c : Nat) : Int) := by
  unfold Txt.count
  have e := StrLaws.occ_eq (S l) (S [c]) 0 (S l).length ((S l).length + 1)
  rw [e, Array.length_toList, S_len]
  have q := occ_sign l c (l.length + 1) (l.length + 1) 0 (#[], 0) (by omega) (Nat.le_refl 0) (by show 0 + (l.length - 0) < l.length + 1; omega)
  rw [S_len] at q
  show ((_ : Nat) : Int) = _
  have q2 : (forIn (List.range' 0 (l.length + 1 - 0)) ((#[] : Array Nat), 0) (StrLaws.occBody (S l) (S [c]) l.length (l.length + 1))).run.fst.size = List.count c l := by
    rw [Nat.sub_zero]
    refine q.trans ?_
    simp
  rw [q2]
end Wx
namespace Wx
open PySem PySem.Spec PyProof.Rows L2
theorem fold_cat : ∀ (ls : List (List Nat)) (a : Array Nat), ((ls.map S).foldl (fun acc p => acc ++ (S []).cps ++ p.cps) a).toList = a.toList ++ ls.flatten
  | [], a => by simp
  | l :: ls, a => by
    rw [List.map_cons, List.foldl_cons, fold_cat ls]
    simp [S]
theorem join_nil (ls : List (List Nat)) : Txt.join (S []) (ls.map S) = S ls.flatten := by
  unfold Txt.join Builtin.Str.glued
  cases ls with
  | nil => rfl
  | cons l ls =>
    rw [List.map_cons]
    show (⟨((ls.map S).foldl (fun acc p => acc ++ (S []).cps ++ p.cps) (S l).cps)⟩ : Str) = S (l :: ls).flatten
    have e := fold_cat ls (S l).cps
    have e2 : (ls.map S).foldl (fun acc p => acc ++ (S []).cps ++ p.cps) (S l).cps = ((l :: ls).flatten).toArray := by
      apply Array.ext'
      rw [e]
      simp [S]
    rw [e2]
    rfl
end Wx

namespace Wx
open PySem PySem.Spec PyProof.Rows L2

/-! ### data that never changes: None, bools, ints, texts, tuples of such -/
mutual
inductive Im (H : Hp) : V → PyData → Prop
  | non : Im H .non .none
  | bl (b : Bool) : Im H (.bl b) (.bool b)
  | int (i : Int) : Im H (.int i) (.int i)
  | str (x : Str) : Im H (.str x) (.str x)
  | tup {a : Addr} {xs : List V} {ds : List PyData} : H a = some (.tup xs) → ImAll H xs ds → Im H (.ref a) (.tuple ds)
inductive ImAll (H : Hp) : List V → List PyData → Prop
  | nil : ImAll H [] []
  | cons {v : V} {vs : List V} {d : PyData} {ds : List PyData} : Im H v d → ImAll H vs ds → ImAll H (v :: vs) (d :: ds)
end
def TEx (H H' : Hp) : Prop := ∀ a xs, H a = some (.tup xs) → H' a = some (.tup xs)
theorem TEx.refl (H : Hp) : TEx H H := fun _ _ h => h
theorem TEx.trans {H H1 H2 : Hp} (a : TEx H H1) (b : TEx H1 H2) : TEx H H2 := fun x o h => b x o (a x o h)
theorem Ex.tex {H H' : Hp} (e : Ex H H') : TEx H H' := fun a xs h => e a _ h
theorem tex_new {H : Hp} {p : Addr} {o : HO} (h : H p = none) : TEx H (upd H p o) := (Ex.new h).tex
theorem tex_lst {H : Hp} {p : Addr} {o : HO} {ys : List V} (h : H p = some (.lst ys)) : TEx H (upd H p o) := fun a xs e => by
  have hne : a ≠ p := ne_of e h (fun z => by cases z)
  rw [upd_ne hne]
  exact e
theorem tex_pub {p : Addr} {H H' : Hp} {ys : List V} (h : H p = some (.lst ys)) (e : Ex (pub p H) (pub p H')) : TEx H H' := fun a xs ha => by
  have hne : a ≠ p := ne_of ha h (fun z => by cases z)
  exact pub_ex a _ (e a _ (pub_get hne ha))
mutual
theorem Im.mono {H H' : Hp} (e : TEx H H') : ∀ {v : V} {d : PyData}, Im H v d → Im H' v d
  | _, _, .non => .non
  | _, _, .bl b => .bl b
  | _, _, .int i => .int i
  | _, _, .str x => .str x
  | _, _, .tup h hs => .tup (e _ _ h) (ImAll.mono e hs)
theorem ImAll.mono {H H' : Hp} (e : TEx H H') : ∀ {vs : List V} {ds : List PyData}, ImAll H vs ds → ImAll H' vs ds
  | _, _, .nil => .nil
  | _, _, .cons h hs => .cons (Im.mono e h) (ImAll.mono e hs)
end
mutual
theorem Im.dp {K : PySem.W.Frag} {H : Hp} : ∀ {v : V} {d : PyData}, Im H v d → Dp K H v d
  | _, _, .non => .non
  | _, _, .bl b => .bl b
  | _, _, .int i => .int i
  | _, _, .str x => .str x
  | _, _, .tup h hs => .tup (st_of h) (ImAll.dp hs)
theorem ImAll.dp {K : PySem.W.Frag} {H : Hp} : ∀ {vs : List V} {ds : List PyData}, ImAll H vs ds → DpAll K H vs ds
  | _, _, .nil => .nil
  | _, _, .cons h hs => .cons (Im.dp h) (ImAll.dp hs)
end
theorem ImAll.length {H : Hp} : ∀ {vs : List V} {ds : List PyData}, ImAll H vs ds → vs.length = ds.length
  | _, _, .nil => rfl
  | _, _, .cons _ hs => by rw [List.length_cons, List.length_cons, hs.length]
theorem ImAll.get {H : Hp} : ∀ {vs : List V} {ds : List PyData} {i : Nat} {v : V}, ImAll H vs ds → vs[i]? = some v → ∃ d, ds[i]? = some d ∧ Im H v d
  | _, _, _, _, .nil, h => by simp at h
  | _, _, 0, _, .cons h _, e => by simp at e; subst e; exact ⟨_, rfl, h⟩
  | _, _, i + 1, v, .cons _ hs, e => by
    obtain ⟨d, a, b⟩ := ImAll.get (i := i) (v := v) hs (by simpa using e)
    exact ⟨d, by simpa using a, b⟩
theorem ImAll.get' {H : Hp} : ∀ {vs : List V} {ds : List PyData} {i : Nat} {d : PyData}, ImAll H vs ds → ds[i]? = some d → ∃ v, vs[i]? = some v ∧ Im H v d
  | _, _, _, _, .nil, h => by simp at h
  | _, _, 0, _, .cons h _, e => by simp at e; subst e; exact ⟨_, rfl, h⟩
  | _, _, i + 1, v, .cons _ hs, e => by
    obtain ⟨d, a, b⟩ := ImAll.get' (i := i) (d := v) hs (by simpa using e)
    exact ⟨d, by simpa using a, b⟩
theorem ImAll.app {H : Hp} : ∀ {vs ws : List V} {ds es : List PyData}, ImAll H vs ds → ImAll H ws es → ImAll H (vs ++ ws) (ds ++ es)
  | _, _, _, _, .nil, h => h
  | _, _, _, _, .cons a b, h => .cons a (ImAll.app b h)
theorem ImAll.ints {H : Hp} : ∀ (ns : List Int), ImAll H (ns.map V.int) (ns.map PyData.int)
  | [] => .nil
  | n :: ns => .cons (.int n) (ImAll.ints ns)
theorem ImAll.strs {H : Hp} : ∀ (ns : List Str), ImAll H (ns.map V.str) (ns.map PyData.str)
  | [] => .nil
  | n :: ns => .cons (.str n) (ImAll.strs ns)
theorem ImAll.strs_eq {H : Hp} : ∀ {ns : List Str} {vs : List V}, ImAll H vs (ns.map PyData.str) → vs = ns.map V.str
  | [], _, .nil => rfl
  | n :: ns, _, .cons h hs => by
    cases h
    rw [ImAll.strs_eq hs] <;> rfl
theorem ImAll.ints_eq {H : Hp} : ∀ {ns : List Int} {vs : List V}, ImAll H vs (ns.map PyData.int) → vs = ns.map V.int
  | [], _, .nil => rfl
  | n :: ns, _, .cons h hs => by
    cases h
    rw [ImAll.ints_eq hs] <;> rfl
theorem ImAll.bls_eq {H : Hp} : ∀ {ns : List Bool} {vs : List V}, ImAll H vs (ns.map PyData.bool) → vs = ns.map V.bl
  | [], _, .nil => rfl
  | n :: ns, _, .cons h hs => by
    cases h
    rw [ImAll.bls_eq hs] <;> rfl

section
variable {X : Cx} {σ : L2.St} {H : Hp} {Q : VK} {i j : Int} {pos : Pos}
/-! ### texts -/
theorem op_mulIS : OpR X (binaryOp .Mult) (fun x y H Q => ∃ (n : Int) (z : Str), x = .int n ∧ y = .str z ∧ MulOk z n ∧ Q (.str (Txt.mul z n)) H) := by
  intro pins s σ H x y v u Q I rx ry h
  obtain ⟨n, z, rfl, rfl, hok, q⟩ := h
  obtain ⟨t, rfl⟩ := rx
  obtain ⟨t', rfl⟩ := ry
  refine lm_binaryOp_repeat_right (T := "str") (U := "int") (by decide) (fun s' => typeIs_int s' n t) (typeIs_str s z t') F.fills_int_mul noFill_str_mul F.slot_int_mul lm_noRepeat_int repeat_str F.slot_int_index.lookup
    (call_gives F.slot_int_mul (typeIs_int s n t) F.entry_int_mul (F.args_int_mul_2 _ _) (AutoIntG3.int___mul___int_str_0 n t z t')
      ⟨rfl, typeIs_str s z t', call_gives F.slot_str_mul (typeIs_str s z t') F.entry_str_mul (F.args_str_mul_2 _ _) (gives_str_mul z n t' t hok.1 hok.2.1 hok.2.2) ?_⟩)
  have fin : ∀ tt k, EP X pins σ Q (.str (Txt.mul z n) tt) { s with toks := k } := fun tt k => ⟨.str (Txt.mul z n), H, I.tok k, ⟨tt, rfl⟩, q⟩
  unfold Txt.mul at fin
  by_cases h1 : n < 1
  · rw [if_pos h1]; have h' := fin s.toks (s.toks + 1); rw [if_pos h1] at h'; exact ⟨by decide, h'⟩
  · rw [if_neg h1]; refine post_val_or_made (fun hc => fits_reps (hok.2.2 h1 (by simpa using hc))) fun tt k => ?_
    have h' := fin tt k; rw [if_neg h1] at h'; exact h'
theorem op_mulSI : OpR X (binaryOp .Mult) (fun x y H Q => ∃ (n : Int) (z : Str), x = .str z ∧ y = .int n ∧ MulOk z n ∧ Q (.str (Txt.mul z n)) H) := by
  intro pins s σ H x y v u Q I rx ry h
  obtain ⟨n, z, rfl, rfl, hok, q⟩ := h
  obtain ⟨t, rfl⟩ := rx
  obtain ⟨t', rfl⟩ := ry
  exact SB.mul hok fun tt k => ⟨.str (Txt.mul z n), H, I.tok k, ⟨tt, rfl⟩, q⟩
def rep (n : Nat) (l : List Nat) : List Nat := (List.replicate n l).flatten
theorem rep_len (n : Nat) (l : List Nat) : (rep n l).length = n * l.length := by
  unfold rep
  induction n with
  | zero => simp
  | succ n ih => rw [List.replicate_succ, List.flatten_cons, List.length_append, ih, Nat.succ_mul, Nat.add_comm]
theorem foldl_rep (l : List Nat) : ∀ (n : Nat) (a : Array Nat), ((List.replicate n l.toArray).foldl (· ++ ·) a).toList = a.toList ++ rep n l
  | 0, a => by simp [rep]
  | n + 1, a => by
    rw [List.replicate_succ, List.foldl_cons, foldl_rep l n]
    simp [rep, List.replicate_succ]
theorem mul_S (l : List Nat) (n : Nat) : Txt.mul (S l) (n : Int) = S (rep n l) := by
  unfold Txt.mul
  by_cases h : (n : Int) < 1
  · rw [if_pos h]
    have : n = 0 := by omega
    subst this
    rfl
  · rw [if_neg h]
    by_cases h2 : ((n : Int) == 1 || (S l).length == 0) = true
    · rw [if_pos h2]
      rw [Bool.or_eq_true] at h2
      rcases h2 with h2 | h2
      · have : n = 1 := by have := eq_of_beq h2; omega
        subst this
        simp [rep]
      · have e : l = [] := by
          have := eq_of_beq h2
          rw [S_len] at this
          exact List.length_eq_zero_iff.mp this
        subst e
        have : rep n [] = [] := by
          unfold rep
          induction n with
          | zero => rfl
          | succ n ih => simp
        rw [this]
    · rw [if_neg h2]
      have e := foldl_rep l n #[]
      have e2 : (List.replicate (n : Int).toNat (S l).cps).foldl (· ++ ·) #[] = (rep n l).toArray := by
        apply Array.ext'
        rw [Int.toNat_natCast]
        show ((List.replicate n l.toArray).foldl (· ++ ·) #[]).toList = _
        rw [e]
        simp
      rw [e2]
      rfl
theorem mulOk {l : List Nat} {n : Nat} (h : n * l.length ≤ 1000000) (hn : n ≤ 1000000) (hl : l.length ≤ 1000000) : MulOk (S l) (n : Int) := by
  refine ⟨?_, fun h1 _ hc => ?_, fun h1 _ => ?_⟩
  · rw [Bool.or_eq_false_iff]
    exact ⟨decide_eq_false (by omega), decide_eq_false (by omega)⟩
  · rw [S_len] at hc
    have h2 : 1 ≤ n := by omega
    have h3 : (1000000 : Int) ≤ (2 ^ 63 - 1) / (n : Int) := by
      rw [Int.le_ediv_iff_mul_le (by omega)]
      omega
    omega
  · unfold Builtin.Str.tooLong
    rw [S_len, Int.toNat_natCast]
    have : l.length * n ≤ 1000000 := by rw [Nat.mul_comm]; exact h
    first
      | (simp [sizeLine]; omega)
      | (simp; omega)
theorem wo_mulSI {l : List Nat} {n : Nat} (h : n * l.length ≤ 1000000) (hn : n ≤ 1000000) (hl : l.length ≤ 1000000) (q : Q (.str (S (rep n l))) H) : WO X (binaryOp .Mult) (.str (S l)) (.int (n : Int)) H Q :=
  WO.of op_mulSI ⟨n, S l, rfl, rfl, mulOk h hn hl, by rw [mul_S]; exact q⟩
theorem wo_mulIS {l : List Nat} {n : Nat} (h : n * l.length ≤ 1000000) (hn : n ≤ 1000000) (hl : l.length ≤ 1000000) (q : Q (.str (S (rep n l))) H) : WO X (binaryOp .Mult) (.int (n : Int)) (.str (S l)) H Q :=
  WO.of op_mulIS ⟨n, S l, rfl, rfl, mulOk h hn hl, by rw [mul_S]; exact q⟩
theorem wo_addSS {a b : List Nat} (h : a.length + b.length ≤ 1000000) (q : Q (.str (S (a ++ b))) H) : WO X (binaryOp .Add) (.str (S a)) (.str (S b)) H Q :=
  wo_addS (by rw [S_len, S_len]; exact h) (by rw [S_app]; exact q)
theorem wix_S {l : List Nat} {c : Nat} {k : Nat} (h : l.length ≤ 1000000) (ha : l[k]? = some c) (q : Q (.str (S [c])) H) : WIx X (.str (S l)) (.int (k : Int)) H Q :=
  wix_s (by rw [S_len]; exact h) (by rw [S_list]; exact atI_nat ha) q
theorem wsl_S {l : List Nat} {a b : Nat} (h : l.length ≤ 1000000) (q : Q (.str (S ((l.drop a).take (b - a)))) H) (hb : a ≤ b) : WSl X (.str (S l)) (some (a : Int)) (some (b : Int)) H Q := by
  refine WSl.of sl_str ⟨S l, rfl, sz_le (by rw [S_len]; exact h), ?_⟩
  have e : cutS (S l) (some (a : Int)) (some (b : Int)) = S ((l.drop a).take (b - a)) := by
    unfold cutS
    rw [HT.sIx_nat, HT.sIx_nat, S_len, S_list]
    show S _ = S _
    congr 1
    by_cases h1 : a ≤ l.length
    · rw [Nat.min_eq_left h1]
      by_cases h2 : b ≤ l.length
      · rw [Nat.min_eq_left h2]
      · rw [Nat.min_eq_right (by omega)]
        rw [List.take_of_length_le (by rw [List.length_drop]; omega), List.take_of_length_le (by rw [List.length_drop]; omega)]
    · rw [Nat.min_eq_right (by omega), Nat.min_eq_right (by omega), List.drop_of_length_le (Nat.le_refl _), List.drop_of_length_le (by omega)]
      simp
  rw [e]
  exact q
/-- one sign between two others -/
theorem one_lt {a b : Nat} : decide ([a] < [b]) = decide (a < b) := by
  have : ([a] < [b]) ↔ a < b := by
    constructor
    · intro h
      rcases List.cons_lt_cons_iff.mp h with h | ⟨_, h⟩
      · exact h
      · exact absurd h (List.not_lt_nil _)
    · intro h
      exact List.cons_lt_cons_iff.mpr (.inl h)
  by_cases h : a < b
  · rw [decide_eq_true h, decide_eq_true (this.mpr h)]
  · rw [decide_eq_false h, decide_eq_false (fun q => h (this.mp q))]
theorem wo_leS {a b : List Nat} (q : Q (.bl (!decide (b < a))) H) : WO X (compareOp .LtE) (.str (S a)) (.str (S b)) H Q := WO.of op_le_str ⟨_, _, rfl, rfl, by rw [S_list, S_list]; exact q⟩
theorem wo_ltS {a b : List Nat} (q : Q (.bl (decide (a < b))) H) : WO X (compareOp .Lt) (.str (S a)) (.str (S b)) H Q := WO.of op_lt_str ⟨_, _, rfl, rfl, by rw [S_list, S_list]; exact q⟩
theorem wo_inS {c : Nat} {l : List Nat} (q : Q (.bl (decide (c ∈ l))) H) : WO X (compareOp .In) (.str (S [c])) (.str (S l)) H Q := WO.of op_in_sign ⟨c, S l, rfl, rfl, by rw [S_list]; exact q⟩
theorem wc_lenSS {l : List Nat} (h : l.length ≤ 1000000) (q : Q (.int (l.length : Int)) H) : WC X (.builtin "len") [.str (S l)] H Q := wc_lenS (by rw [S_len]; exact h) (by rw [S_len]; exact q)

/-! ### methods of lists and texts -/
theorem we_append {o e : Expr} {apos : Pos} (q : WE X o σ H fun x H1 => ∃ l xs, x = .ref l ∧ H1 l = some (.lst xs) ∧ WE X e σ H1 fun y H2 => ∃ ys, H2 l = some (.lst ys) ∧ ys.length < 1000000 ∧ Q .non (upd H2 l (.lst (ys ++ [y]))))
    (hbase : attributeBase o "append" X.env (eval o X.env) = eval o X.env := by rfl)
    (hfew : ((backTo pos (starEach [e] X.env)).all (fun x => !x.1) && (backToKw pos (keywordEach [] X.env)).all (fun x => x.1.isSome)
      && decide (([e] : List Expr).length + ([] : List Keyword).length + (if ([] : List Keyword).isEmpty then 0 else 1) < 30)) = true := by rfl)
    (hline : (apos.endLine == pos.line) = true := by rfl) (hs : starEach [e] X.env = (false, eval e X.env) :: starEach [] X.env := by rfl) (hplain : (backTo pos (starEach [] X.env)).any (·.1) = false := by rfl) :
    WE X (.Call (.Attribute o "append" apos) [e] [] pos) σ H Q :=
  we_bm PySem.F.plainAttrs_list PySem.F.slot_list_append PySem.F.type_list_append (WE.mono (fun x H1 ⟨l, xs, ex, hx, q⟩ => ⟨by rw [ex]; exact .inl ⟨rfl, _, sq_of hx⟩, wa_cons (WE.mono (fun y H2 ⟨ys, hy, hl, q⟩ => wa_nil (WM.of mt_append ⟨l, ys, y, ex, rfl, hy, sz_lt hl, q⟩)) q) hs⟩) q) hbase hfew hline hs hplain
theorem we_pop {o : Expr} {apos : Pos} (q : WE X o σ H fun x H1 => ∃ l xs y, x = .ref l ∧ H1 l = some (.lst xs) ∧ xs[xs.length - 1]? = some y ∧ Q y (upd H1 l (.lst xs.dropLast)))
    (hbase : attributeBase o "pop" X.env (eval o X.env) = eval o X.env := by rfl) (hline : (apos.endLine == pos.line) = true := by rfl) : WE X (.Call (.Attribute o "pop" apos) [] [] pos) σ H Q :=
  we_bm0 PySem.F.plainAttrs_list PySem.F.slot_list_pop PySem.F.type_list_pop (WE.mono (fun x H1 ⟨l, xs, y, ex, hx, hy, q⟩ => ⟨by rw [ex]; exact .inl ⟨rfl, _, sq_of hx⟩, WM.of mt_pop ⟨l, xs, y, ex, rfl, hx, hy, q⟩⟩) q) hbase hline
theorem we_count {o e : Expr} {apos : Pos} (q : WE X o σ H fun x H1 => ∃ l, x = .str (S l) ∧ WE X e σ H1 fun y H2 => ∃ c, y = .str (S [c]) ∧ Q (.int ((l.count c : Nat) : Int)) H2)
    (hbase : attributeBase o "count" X.env (eval o X.env) = eval o X.env := by rfl)
    (hfew : ((backTo pos (starEach [e] X.env)).all (fun x => !x.1) && (backToKw pos (keywordEach [] X.env)).all (fun x => x.1.isSome)
      && decide (([e] : List Expr).length + ([] : List Keyword).length + (if ([] : List Keyword).isEmpty then 0 else 1) < 30)) = true := by rfl)
    (hline : (apos.endLine == pos.line) = true := by rfl) (hs : starEach [e] X.env = (false, eval e X.env) :: starEach [] X.env := by rfl) (hplain : (backTo pos (starEach [] X.env)).any (·.1) = false := by rfl) :
    WE X (.Call (.Attribute o "count" apos) [e] [] pos) σ H Q :=
  we_bm PySem.F.plainAttrs_str PySem.F.slot_str_count PySem.F.type_str_count (WE.mono (fun x H1 ⟨l, ex, q⟩ => ⟨by rw [ex]; exact (rfl : "str" = "str"), wa_cons (WE.mono (fun y H2 ⟨c, ey, q⟩ => wa_nil (WM.of mt_count ⟨S l, S [c], ex, by rw [ey], by rw [count_sign]; exact q⟩)) q) hs⟩) q) hbase hfew hline hs hplain
theorem we_join {o e : Expr} {apos : Pos} (q : WE X o σ H fun x H1 => ∃ a, x = .str a ∧ WE X e σ H1 fun y H2 => ∃ (p : Addr) (ys : List Str), y = .ref p ∧ (SqL X.K H2 p (ys.map V.str) ∨ SqT X.K H2 p (ys.map V.str)) ∧ (ys.map (·.length)).sum + ys.length * a.length ≤ 16777216 ∧ Q (.str (Txt.join a ys)) H2)
    (hbase : attributeBase o "join" X.env (eval o X.env) = eval o X.env := by rfl)
    (hfew : ((backTo pos (starEach [e] X.env)).all (fun x => !x.1) && (backToKw pos (keywordEach [] X.env)).all (fun x => x.1.isSome)
      && decide (([e] : List Expr).length + ([] : List Keyword).length + (if ([] : List Keyword).isEmpty then 0 else 1) < 30)) = true := by rfl)
    (hline : (apos.endLine == pos.line) = true := by rfl) (hs : starEach [e] X.env = (false, eval e X.env) :: starEach [] X.env := by rfl) (hplain : (backTo pos (starEach [] X.env)).any (·.1) = false := by rfl) :
    WE X (.Call (.Attribute o "join" apos) [e] [] pos) σ H Q :=
  we_bm PySem.F.plainAttrs_str PySem.F.slot_str_join PySem.F.type_str_join (WE.mono (fun x H1 ⟨a, ex, q⟩ => ⟨by rw [ex]; exact (rfl : "str" = "str"), wa_cons (WE.mono (fun y H2 ⟨p, ys, ey, hp, hz, q⟩ => wa_nil (WM.of mt_join ⟨a, p, ys, ex, by rw [ey], hp, hz, q⟩)) q) hs⟩) q) hbase hfew hline hs hplain

/-! ### tuple(..), isinstance -/
theorem boot_tuple : bootBuiltins "tuple" = some (.type "tuple") := by decide +kernel
theorem boot_str : bootBuiltins "str" = some (.type "str") := by decide +kernel
theorem boot_list : bootBuiltins "list" = some (.type "list") := by decide +kernel
theorem boot_bool : bootBuiltins "bool" = some (.type "bool") := by decide +kernel
theorem boot_isinstance : bootBuiltins "isinstance" = some (.builtin "isinstance") := by decide +kernel
theorem we_tupleT {p : Pos} {e es} (hm : X.mg "tuple" = none) (q : WA X (e :: es) σ H fun xs H1 => WC X (.type "tuple") xs H1 Q) (hg : Gl X "tuple" := by rfl)
    (he : starEach (e :: es) X.env = (false, eval e X.env) :: starEach es X.env := by rfl) (hpl : (backTo pos (starEach es X.env)).any (·.1) = false := by rfl) : WE X (.Call (.Name "tuple" p) (e :: es) [] pos) σ H Q := we_callTy hg hm boot_tuple q (by decide) (by decide) he hpl
theorem wc_tupleL {a : Addr} {xs : List V} (h : SqL X.K H a xs) (q : ∀ l, H l = none → Q (.ref l) (upd H l (.tup xs))) : WC X (.type "tuple") [.ref a] H Q := WC.of call_tuple_of ⟨a, xs, rfl, .inl ⟨h, q⟩⟩
theorem wc_tupleT {a : Addr} {xs : List V} (h : SqT X.K H a xs) (q : Q (.ref a) H) : WC X (.type "tuple") [.ref a] H Q := WC.of call_tuple_of ⟨a, xs, rfl, .inr ⟨h, q⟩⟩
theorem we_isi {p : Pos} {e es} (hm : X.mg "isinstance" = none) (q : WA X (e :: es) σ H fun xs H1 => WC X (.builtin "isinstance") xs H1 Q) (hg : Gl X "isinstance" := by rfl)
    (he : starEach (e :: es) X.env = (false, eval e X.env) :: starEach es X.env := by rfl) (hpl : (backTo pos (starEach es X.env)).any (·.1) = false := by rfl) : WE X (.Call (.Name "isinstance" p) (e :: es) [] pos) σ H Q := we_callB hg hm boot_isinstance q (by decide) (by decide) he hpl
theorem we_tyStr (hm : X.mg "str" = none) (q : Q (.ty "str") H) (hg : Gl X "str" := by rfl) : WE X (.Name "str" pos) σ H Q := WE.of (pe_bltn (v := .ty "str") hg hm boot_str rfl) q
theorem we_tyInt (hm : X.mg "int" = none) (q : Q (.ty "int") H) (hg : Gl X "int" := by rfl) : WE X (.Name "int" pos) σ H Q := WE.of (pe_bltn (v := .ty "int") hg hm boot_int rfl) q
theorem we_tyBool (hm : X.mg "bool" = none) (q : Q (.ty "bool") H) (hg : Gl X "bool" := by rfl) : WE X (.Name "bool" pos) σ H Q := WE.of (pe_bltn (v := .ty "bool") hg hm boot_bool rfl) q
theorem we_tyList (hm : X.mg "list" = none) (q : Q (.ty "list") H) (hg : Gl X "list" := by rfl) : WE X (.Name "list" pos) σ H Q := WE.of (pe_bltn (v := .ty "list") hg hm boot_list rfl) q
theorem we_tyTuple (hm : X.mg "tuple" = none) (q : Q (.ty "tuple") H) (hg : Gl X "tuple" := by rfl) : WE X (.Name "tuple" pos) σ H Q := WE.of (pe_bltn (v := .ty "tuple") hg hm boot_tuple rfl) q
theorem kb_str_str : kitB "str" "str" = some true := by decide +kernel
theorem kb_tuple_str : kitB "tuple" "str" = some false := by decide +kernel
theorem kb_list_str : kitB "list" "str" = some false := by decide +kernel
theorem kb_int_str : kitB "int" "str" = some false := by decide +kernel
theorem kb_non_str : kitB "NoneType" "str" = some false := by decide +kernel
theorem kb_int_int : kitB "int" "int" = some true := by decide +kernel
theorem kb_int_bool : kitB "int" "bool" = some false := by decide +kernel
theorem wc_isi {x : V} {t T : String} {b : Bool} (ty : TyX X.K H x (.type t)) (k : kitB t T = some b) (q : Q (.bl b) H) : WC X (.builtin "isinstance") [x, .ty T] H Q := WC.of call_isi ⟨x, .ty T, .type t, .type T, b, rfl, .ty T, ty, kit_ty k, q⟩
theorem wc_isi_str {z : Str} (q : Q (.bl true) H) : WC X (.builtin "isinstance") [.str z, .ty "str"] H Q := wc_isi (.base (.str z)) kb_str_str q
theorem wc_isi_tup {a : Addr} {xs : List V} (h : H a = some (.tup xs)) (q : Q (.bl false) H) : WC X (.builtin "isinstance") [.ref a, .ty "str"] H Q := wc_isi (.base (.tup h)) kb_tuple_str q
theorem wc_isi_int {i : Int} (q : Q (.bl true) H) : WC X (.builtin "isinstance") [.int i, .ty "int"] H Q := wc_isi (.base (.int i)) kb_int_int q
theorem wc_isi_intB {i : Int} (q : Q (.bl false) H) : WC X (.builtin "isinstance") [.int i, .ty "bool"] H Q := wc_isi (.base (.int i)) kb_int_bool q

/-! ### a loop over a text -/
variable {D : Ends}
theorem ws_forS {nx : L2.St → Hp → Prop} {rt : VK} {bk ct : L2.St → Hp → Prop} {tg iter body} (hp : PassesOwn (model X.prog X.w) X.A X.env X.xe) (hc : X.calm = true) (q : WE X iter σ H fun x H1 => ∃ l : List Nat, x = .str (S l) ∧ ∃ Pv : Nat → L2.St → Hp → Prop, Pv 0 σ H1 ∧
      (∀ i c σ H, l[i]? = some c → Pv i σ H → WG X tg (.str (S [c])) σ H fun σ2 H2 => WSs X body ⟨Pv (i + 1), rt, nx, Pv (i + 1)⟩ σ2 H2) ∧ ∀ σ H, Pv l.length σ H → nx σ H)
    (hs : ∀ x, foldedSetIterable iter X.env x = pure x := by intro _; rfl) : WS X (.For tg iter body [] pos) ⟨nx, rt, bk, ct⟩ σ H := by
  refine WS.of (ps_for hp hc (pi_str pe_w) pg_w pss_w hs) (WE.mono (fun x H1 hq => ?_) q)
  obtain ⟨l, e, Pv, h0, ht, hd⟩ := hq
  refine ⟨S l, e, fun i m σ H => i + m = l.length ∧ Pv i σ H, ⟨l.length, by omega, h0⟩, fun i m σ2 H2 hW => ?_⟩
  obtain ⟨em, hP⟩ := hW
  by_cases hi : i < l.length
  · refine .inr ⟨by show i < (S l).cps.size; simpa [S] using hi, Pv (i + 1), fun σ' H' hN => ⟨m - 1, by omega, by omega, hN⟩, fun v H' hy => ?_⟩
    obtain ⟨rfl, c, hc2, rfl⟩ := hy
    exact ht i c σ2 H' (by simpa [S] using hc2) hP
  · refine .inl ⟨by show (S l).cps.size ≤ i; simp [S]; omega, hd σ2 H2 ?_⟩
    have : i = l.length := by omega
    rw [← this]
    exact hP
end

/-! ### comprehensions -/
section
variable {X : Cx} {σ : L2.St} {H : Hp} {Q : VK} {pos : Pos}
/-- the block of a comprehension -/
abbrev Bk (X : Cx) (scope : Scope) (s : Shared) (H0 : Hp) (C : Addr) (cl : List (Str × Addr)) (fp : List Addr) : Cx := X.blk s H0 scope (compEnvC scope cl C X.env) fp
def gB (X : Cx) (scope : Scope) (tg : Expr) : TG := fun v σ H Q => ∀ s H0 C cl fp, WG (Bk X scope s H0 C cl fp) tg v σ H Q
def tB' (X : Cx) (scope : Scope) (c : Expr) : TT := fun σ H Q => ∀ s H0 C cl fp, WT (Bk X scope s H0 C cl fp) c σ H Q
def eB (X : Cx) (scope : Scope) (e : Expr) : TE := fun σ H Q => ∀ s H0 C cl fp, WE (Bk X scope s H0 C cl fp) e σ H Q
def nofold (iter : Expr) (env : Env) : Prop := ∀ x, foldedSetIterable iter env x = pure x
/-- [elt for tg in iter], iter a list -/
theorem pe_lcB {elt tg iter : Expr} {scope : Scope} {own : List (Str × Nat)} {wi : TI} (hc : X.calm = true) (hN : X.N.Nodup) (hi : PI X tg iter wi) (ok : BlkOk X.N X.env.scope scope own) (hs : nofold iter X.env) :
    PE X (.ListComp elt [⟨tg, iter, [], 0⟩] scope pos) (tLc wi (gB X scope tg) tYes (eB X scope elt) (own.map (·.2))) :=
  pe_lc hc hN hi ok (fun s H0 C cl fp => ⟨fun pins s' σ H v u Q I r h => pg_w.run pins s' σ H v u Q I r (h s H0 C cl fp)⟩) (fun _ _ _ _ _ => pts_nil) (fun s H0 C cl fp => ⟨fun pins s' σ H Q I h => pe_w.run pins s' σ H Q I (h s H0 C cl fp)⟩) hs
theorem pe_lcBi {elt tg iter c : Expr} {scope : Scope} {own : List (Str × Nat)} {wi : TI} (hc : X.calm = true) (hN : X.N.Nodup) (hi : PI X tg iter wi) (ok : BlkOk X.N X.env.scope scope own) (hs : nofold iter X.env) :
    PE X (.ListComp elt [⟨tg, iter, [c], 0⟩] scope pos) (tLc wi (gB X scope tg) (tB' X scope c) (eB X scope elt) (own.map (·.2))) :=
  pe_lc hc hN hi ok (fun s H0 C cl fp => ⟨fun pins s' σ H v u Q I r h => pg_w.run pins s' σ H v u Q I r (h s H0 C cl fp)⟩) (fun s H0 C cl fp => pts_one ⟨fun pins s' σ H Q I h => pt_w.run pins s' σ H Q I (h s H0 C cl fp)⟩) (fun s H0 C cl fp => ⟨fun pins s' σ H Q I h => pe_w.run pins s' σ H Q I (h s H0 C cl fp)⟩) hs
/-- what a turn of a comprehension does: H2 the heap ahead, the item x, the result y at index i -/
def Turn1 (X : Cx) (scope : Scope) (tg elt : Expr) (vs : List Nat) (σ : L2.St) (R : V → Hp → Prop) (x : V) (H2 : Hp) : Prop :=
  gB X scope tg x (wipe σ vs) H2 fun σ2 H3 => wipe σ2 vs = wipe σ vs ∧ eB X scope elt σ2 H3 R
/-- .. M: what may change in a turn; I: what holds between the turns; E i y H: what is known of the i-th result -/
theorem lc_turns {J : It} {n : Nat} {G : Hp → Prop} {Y : Nat → Hp → V → Hp → Prop} {M : Addr → Prop} {I : Nat → Hp → Prop} {E : Nat → V → Hp → Prop} {g : TG} {te : TE} {vs : List Nat} {H1 : Hp} {D : Addr} {Qd : Hp → Prop}
    (w : ∀ i H, i < n → G H → J.go i H) (w2 : ∀ H, G H → J.stop n H) (w3 : ∀ i H x H', i < n → G H → J.yld i H x H' → Y i H x H') (hn : n ≤ 1000000)
    (hM : ∀ a, M a → H1 a ≠ none) (hD : H1 D = none)
    (hG : ∀ i H, I i H → G H) (I0 : I 0 H1) (Is : ∀ i H o, I i H → I i (upd H D o)) (Es : ∀ i v H H' , E i v H → TEx H H' → E i v H')
    (hs : ∀ i x H2 H2', i < n → I i H2 → Y i H2 x H2' → g x (wipe σ vs) H2' fun σ2 H3 => wipe σ2 vs = wipe σ vs ∧ te σ2 H3 fun y H4 => I (i + 1) H4 ∧ E i y H4 ∧ TEx H2 H4 ∧ ∀ a o, ¬ M a → H2 a = some o → H4 a = some o)
    (hd : ∀ ys H2, I n H2 → H2 D = some (.lst ys) → ys.length = n → (∀ i y, ys[i]? = some y → E i y H2) → (∀ a o, ¬ M a → H1 a = some o → H2 a = some o) → Qd H2)
    (mono : ∀ v σ H Q Q', (∀ σ2 H3, Q σ2 H3 → Q' σ2 H3) → g v σ H Q → g v σ H Q') (mono2 : ∀ σ H Q Q', (∀ v H3, Q v H3 → Q' v H3) → te σ H Q → te σ H Q') :
    ∃ W : Nat → Nat → Hp → Prop, (∃ m, W 0 m (upd H1 D (.lst []))) ∧ ∀ i m H, W i m H →
      (J.stop i H ∧ Qd H) ∨ (J.go i H ∧ ∃ Nx : Hp → Prop, (∀ H', Nx H' → ∃ m', m' < m ∧ W (i + 1) m' H') ∧ ∀ x H', J.yld i H x H' → g x (wipe σ vs) H' fun σ2 H2 => wipe σ2 vs = wipe σ vs ∧ tYes σ2 H2 fun b H3 =>
        if b = true then te σ2 H3 fun y H4 => ∃ acc, H4 D = some (.lst acc) ∧ acc.length < sizeLine ∧ Nx (upd H4 D (.lst (acc ++ [y]))) else Nx H3) := by
  have nMD : ¬ M D := fun h => hM D h hD
  refine ⟨fun i m H2 => i + m = n ∧ I i H2 ∧ ∃ ys, H2 D = some (.lst ys) ∧ ys.length = i ∧ (∀ j y, ys[j]? = some y → E j y H2) ∧ (∀ a o, ¬ M a → H1 a = some o → H2 a = some o), ⟨n, by omega, Is _ _ _ I0, [], upd_same, rfl, fun j y h => by simp at h, fun a o _ h => (Ex.new hD) a o h⟩, fun i m H2 hW => ?_⟩
  obtain ⟨em, hI, ys, hys, hl, hE, hX⟩ := hW
  by_cases hi : i < n
  · refine .inr ⟨w i H2 hi (hG i H2 hI), fun H' => I (i + 1) H' ∧ ∃ ys, H' D = some (.lst ys) ∧ ys.length = i + 1 ∧ (∀ j y, ys[j]? = some y → E j y H') ∧ (∀ a o, ¬ M a → H1 a = some o → H' a = some o), fun H' hN => ⟨m - 1, by omega, by omega, hN⟩, fun x H' hy => ?_⟩
    refine mono _ _ _ _ _ (fun σ2 H3 hq => ?_) (hs i x H2 H' hi hI (w3 i H2 x H' hi (hG i H2 hI) hy))
    refine ⟨hq.1, ?_⟩
    unfold tYes
    dsimp only
    rw [if_pos rfl]
    refine mono2 _ _ _ _ (fun y H4 hq => ?_) hq.2
    obtain ⟨hI2, hE2, hT, hK⟩ := hq
    have h4 := hK D _ nMD hys
    refine ⟨ys, h4, sz_lt (by omega), Is _ _ _ hI2, ys ++ [y], upd_same, by rw [List.length_append, hl]; rfl, fun j z hz => ?_, fun a o ha h => ?_⟩
    · have hT2 : TEx H4 (upd H4 D (.lst (ys ++ [y]))) := tex_lst h4
      by_cases hj : j < ys.length
      · rw [List.getElem?_append_left hj] at hz
        exact Es _ _ _ _ (hE j z hz) (hT.trans hT2)
      · have hj2 : j = ys.length := by
          by_cases hj3 : j = ys.length
          · exact hj3
          · rw [List.getElem?_eq_none (by rw [List.length_append]; simp; omega)] at hz
            cases hz
        subst hj2
        rw [List.getElem?_append_right (Nat.le_refl _), Nat.sub_self] at hz
        cases hz
        rw [hl]
        exact Es _ _ _ _ hE2 hT2
    · rw [upd_ne (ne_of_none h hD)]
      exact hK a o ha (hX a o ha h)
  · have e : i = n := by omega
    subst e
    exact .inl ⟨w2 H2 (hG i H2 hI), hd ys H2 hI hys hl hE hX⟩
theorem gB_mono {scope : Scope} {tg : Expr} (v : V) (σ : L2.St) (H : Hp) (Q Q' : L2.St → Hp → Prop) (h : ∀ σ2 H3, Q σ2 H3 → Q' σ2 H3) (q : gB X scope tg v σ H Q) : gB X scope tg v σ H Q' := fun s H0 C cl fp => by
  have := q s H0 C cl fp
  unfold WG at this ⊢
  exact fun pins s' u I r => thn (this pins s' u I r) fun _ _ ⟨σ', H', I', z⟩ => ⟨σ', H', I', h _ _ z⟩
theorem eB_mono {scope : Scope} {e : Expr} (σ : L2.St) (H : Hp) (Q Q' : VK) (h : ∀ v H3, Q v H3 → Q' v H3) (q : eB X scope e σ H Q) : eB X scope e σ H Q' := fun s H0 C cl fp => WE.mono h (q s H0 C cl fp)
/-- [elt for tg in iter] over a list -/
theorem we_lcL {elt tg iter : Expr} {scope : Scope} {own : List (Str × Nat)} (ok : BlkOk X.N X.env.scope scope own) (hN : X.N.Nodup) (hc : X.calm = true) (q : WE X iter σ H fun x H1 => ∃ a xs, x = .ref a ∧ SqL X.K H1 a xs ∧ xs.length ≤ 1000000 ∧
      ∃ (M : Addr → Prop) (I : Nat → Hp → Prop) (E : Nat → V → Hp → Prop), (∀ a, M a → H1 a ≠ none) ∧ I 0 H1 ∧ (∀ i H, I i H → SqL X.K H a xs) ∧ (∀ i H D o, H1 D = none → I i H → I i (upd H D o)) ∧ (∀ i v H H', E i v H → TEx H H' → E i v H') ∧
        (∀ i x H2, xs[i]? = some x → I i H2 → gB X scope tg x (wipe σ (own.map (·.2))) H2 fun σ2 H3 => wipe σ2 (own.map (·.2)) = wipe σ (own.map (·.2)) ∧ eB X scope elt σ2 H3 fun y H4 => I (i + 1) H4 ∧ E i y H4 ∧ TEx H2 H4 ∧ ∀ a o, ¬ M a → H2 a = some o → H4 a = some o) ∧
        ∀ D ys H2, H1 D = none → I xs.length H2 → H2 D = some (.lst ys) → ys.length = xs.length → (∀ i y, ys[i]? = some y → E i y H2) → (∀ a o, ¬ M a → H1 a = some o → H2 a = some o) → Q (.ref D) H2)
    (hs : nofold iter X.env := by intro _; rfl) : WE X (.ListComp elt [⟨tg, iter, [], 0⟩] scope pos) σ H Q := by
  refine WE.of (pe_lcB hc hN (pi_list pe_w) ok hs) (WE.mono (fun x H1 hq => ?_) q)
  obtain ⟨a, xs, e, hx, hl, M, I, E, hM, I0, hG, Is, Es, ht, hd⟩ := hq
  refine ⟨a, e, ⟨xs, hx⟩, fun D hD => ?_⟩
  refine lc_turns (n := xs.length) (G := fun H => SqL X.K H a xs) (Y := fun i H x H' => H' = H ∧ xs[i]? = some x) (M := M) (I := I) (E := E) (fun i H hi h => ⟨xs, xs[i], h, List.getElem?_eq_getElem hi⟩) (fun H h => ⟨xs, h, Nat.le_refl _⟩) (fun i H x H' _ h hy => ⟨hy.1, hy.2 xs h⟩) hl hM hD hG I0 (fun i H o => Is i H D o hD) Es
    (fun i x H2 H2' _ hI hy => ?_) (fun ys H2 h1 h2 h3 h4 h5 => hd D ys H2 hD h1 h2 h3 h4 h5) gB_mono eB_mono
  obtain ⟨rfl, hy⟩ := hy
  exact ht i x H2' hy hI
/-- .. over a tuple -/
theorem we_lcT {elt tg iter : Expr} {scope : Scope} {own : List (Str × Nat)} (ok : BlkOk X.N X.env.scope scope own) (hN : X.N.Nodup) (hc : X.calm = true) (q : WE X iter σ H fun x H1 => ∃ a xs, x = .ref a ∧ SqT X.K H1 a xs ∧ xs.length ≤ 1000000 ∧
      ∃ (M : Addr → Prop) (I : Nat → Hp → Prop) (E : Nat → V → Hp → Prop), (∀ a, M a → H1 a ≠ none) ∧ I 0 H1 ∧ (∀ i H, I i H → SqT X.K H a xs) ∧ (∀ i H D o, H1 D = none → I i H → I i (upd H D o)) ∧ (∀ i v H H', E i v H → TEx H H' → E i v H') ∧
        (∀ i x H2, xs[i]? = some x → I i H2 → gB X scope tg x (wipe σ (own.map (·.2))) H2 fun σ2 H3 => wipe σ2 (own.map (·.2)) = wipe σ (own.map (·.2)) ∧ eB X scope elt σ2 H3 fun y H4 => I (i + 1) H4 ∧ E i y H4 ∧ TEx H2 H4 ∧ ∀ a o, ¬ M a → H2 a = some o → H4 a = some o) ∧
        ∀ D ys H2, H1 D = none → I xs.length H2 → H2 D = some (.lst ys) → ys.length = xs.length → (∀ i y, ys[i]? = some y → E i y H2) → (∀ a o, ¬ M a → H1 a = some o → H2 a = some o) → Q (.ref D) H2)
    (hs : nofold iter X.env := by intro _; rfl) : WE X (.ListComp elt [⟨tg, iter, [], 0⟩] scope pos) σ H Q := by
  refine WE.of (pe_lcB hc hN (pi_tup pe_w) ok hs) (WE.mono (fun x H1 hq => ?_) q)
  obtain ⟨a, xs, e, hx, hl, M, I, E, hM, I0, hG, Is, Es, ht, hd⟩ := hq
  refine ⟨a, e, ⟨xs, hx⟩, fun D hD => ?_⟩
  refine lc_turns (n := xs.length) (G := fun H => SqT X.K H a xs) (Y := fun i H x H' => H' = H ∧ xs[i]? = some x) (M := M) (I := I) (E := E) (fun i H hi h => ⟨xs, xs[i], h, List.getElem?_eq_getElem hi⟩) (fun H h => ⟨xs, h, Nat.le_refl _⟩) (fun i H x H' _ h hy => ⟨hy.1, hy.2 xs h⟩) hl hM hD hG I0 (fun i H o => Is i H D o hD) Es
    (fun i x H2 H2' _ hI hy => ?_) (fun ys H2 h1 h2 h3 h4 h5 => hd D ys H2 hD h1 h2 h3 h4 h5) gB_mono eB_mono
  obtain ⟨rfl, hy⟩ := hy
  exact ht i x H2' hy hI
/-- .. over range(n) -/
theorem we_lcR {elt tg e : Expr} {p p' : Pos} {scope : Scope} {own : List (Str × Nat)} (ok : BlkOk X.N X.env.scope scope own) (hN : X.N.Nodup) (hc : X.calm = true) (hm : X.mg "range" = none) (q : WE X e σ H fun x H1 => ∃ n : Nat, x = .int n ∧ n ≤ 1000000 ∧
      ∃ (M : Addr → Prop) (I : Nat → Hp → Prop) (E : Nat → V → Hp → Prop), (∀ a, M a → H1 a ≠ none) ∧ I 0 H1 ∧ (∀ i H D o, H1 D = none → I i H → I i (upd H D o)) ∧ (∀ i v H H', E i v H → TEx H H' → E i v H') ∧
        (∀ i H2, i < n → I i H2 → gB X scope tg (.int (i : Nat)) (wipe σ (own.map (·.2))) H2 fun σ2 H3 => wipe σ2 (own.map (·.2)) = wipe σ (own.map (·.2)) ∧ eB X scope elt σ2 H3 fun y H4 => I (i + 1) H4 ∧ E i y H4 ∧ TEx H2 H4 ∧ ∀ a o, ¬ M a → H2 a = some o → H4 a = some o) ∧
        ∀ D ys H2, H1 D = none → I n H2 → H2 D = some (.lst ys) → ys.length = n → (∀ i y, ys[i]? = some y → E i y H2) → (∀ a o, ¬ M a → H1 a = some o → H2 a = some o) → Q (.ref D) H2)
    (hg : Gl X "range" := by rfl) (hse : starEach [e] X.env = [(false, eval e X.env)] := by rfl) (hs : nofold (.Call (.Name "range" p) [e] [] p') X.env := by intro _; rfl) : WE X (.ListComp elt [⟨tg, .Call (.Name "range" p) [e] [] p', [], 0⟩] scope pos) σ H Q := by
  refine WE.of (pe_lcB hc hN (pi_range1 hg hm (pa_cons pe_w pa_nil hse) hse) ok hs) (WE.mono (fun x H1 hq => ?_) q)
  obtain ⟨n, e, hl, M, I, E, hM, I0, Is, Es, ht, hd⟩ := hq
  refine ⟨n, by rw [e], by omega, by omega, fun D hD => ?_⟩
  rw [Int.toNat_natCast]
  refine lc_turns (n := n) (G := fun _ => True) (Y := fun i H x H' => H' = H ∧ x = .int (i : Nat)) (M := M) (I := I) (E := E) (fun i H hi h => hi) (fun H h => Nat.le_refl _) (fun i H x H' _ h hy => ⟨hy.1, by rw [hy.2]; congr 1; omega⟩) hl hM hD (fun _ _ _ => True.intro) I0 (fun i H o => Is i H D o hD) Es
    (fun i x H2 H2' hi hI hy => ?_) (fun ys H2 h1 h2 h3 h4 h5 => hd D ys H2 hD h1 h2 h3 h4 h5) gB_mono eB_mono
  obtain ⟨rfl, rfl⟩ := hy
  exact ht i H2' hi hI
end
end Wx
namespace Wx
open PySem PySem.Spec PyProof.Rows L2
section
variable {X : Cx} {σ : L2.St} {H : Hp} {Q : VK} {pos : Pos}
theorem we_strE {x : Str} {l : List Nat} {j} (h : x = S l) (q : Q (.str (S l)) H) : WE X (.Constant (.str x) j pos) σ H Q := we_str (h ▸ q)
theorem wo_eqSS {a b : List Nat} (q : Q (.bl (decide (a = b))) H) : WO X (compareOp .Eq) (.str (S a)) (.str (S b)) H Q := wo_eqS (by rw [S_dec]; exact q)
theorem wo_neSS {a b : List Nat} (q : Q (.bl (!decide (a = b))) H) : WO X (compareOp .NotEq) (.str (S a)) (.str (S b)) H Q := wo_neS (by rw [S_dec]; exact q)
theorem wo_le1 {a b : Nat} (q : Q (.bl (decide (a ≤ b))) H) : WO X (compareOp .LtE) (.str (S [a])) (.str (S [b])) H Q := wo_leS (by
  rw [one_lt]
  have e : (!decide (b < a)) = decide (a ≤ b) := by
    by_cases h : b < a
    · rw [decide_eq_true h, decide_eq_false (by omega)]; rfl
    · rw [decide_eq_false h, decide_eq_true (by omega)]; rfl
  rw [e]; exact q)
end
end Wx
namespace Wx
open PySem PySem.Spec PyProof.Rows L2
section
variable {X : Cx} {σ : L2.St} {H : Hp} {pos : Pos} {Q : L2.St → Hp → Prop}
@[irreducible] def WGs (X : Cx) (ts : List Expr) : TGs := fun vs σ H Q => ∀ pins s us, Inv X pins σ H s → Vals vs us → wpAny (model X.prog X.w) X.A (assignInOrder ((assignEach ts X.env).map (·.2)) us) (fun _ s' => ∃ σ' H', Inv X pins σ' H' s' ∧ Q σ' H') X.xe s
theorem pgs_w {ts} : PGs X ts (WGs X ts) := by
  unfold WGs; exact ⟨fun pins s _ _ _ us _ I r h => h pins s us I r⟩
theorem WGs.of {ts t vs} (h : PGs X ts t) (q : t vs σ H Q) : WGs X ts vs σ H Q := by
  unfold WGs; exact fun pins s us I r => h.run pins s σ H vs us Q I r q
theorem wgs_nil (q : Q σ H) : WGs X [] [] σ H Q := WGs.of pgs_nil ⟨rfl, q⟩
theorem wgs_cons {e es v vs} (q : WG X e v σ H fun σ' H' => WGs X es vs σ' H' Q) (hs : (assignEach (e :: es) X.env).map (·.2) = assign e X.env :: (assignEach es X.env).map (·.2) := by rfl) : WGs X (e :: es) (v :: vs) σ H Q := WGs.of (pgs_cons pg_w pgs_w hs) ⟨v, vs, rfl, q⟩
theorem wg_tup {es k a xs n} (hc : X.calm = true) (h : SqT X.K H a xs) (hl : xs.length = n) (q : WGs X es xs σ H Q) (hn : (assignEach es X.env).length = n := by rfl) (hst : (assignEach es X.env).findIdx? (·.1) = none := by rfl) : WG X (.Tuple es k pos) (.ref a) σ H Q :=
  WG.of (pg_tup hc pgs_w hn hst) ⟨a, xs, rfl, h, hl, q⟩
end
end Wx
namespace Wx
theorem iteN0 {A B : Prop} (h : B) : if (!true) = true then A else B := by
  rw [if_neg (by decide)]
  exact h
theorem iteN1 {A B : Prop} (h : A) : if (!false) = true then A else B := by
  rw [if_pos (by decide)]
  exact h
theorem iteNN {c : Prop} [Decidable c] {A B : Prop} (h1 : c → B) (h2 : ¬ c → A) : if (!decide c) = true then A else B := by
  by_cases h : c
  · rw [decide_eq_true h]; exact iteN0 (h1 h)
  · rw [decide_eq_false h]; exact iteN1 (h2 h)
theorem iteDD {c : Prop} [Decidable c] {A B : Prop} (h1 : c → A) (h2 : ¬ c → B) : if (decide c) = true then A else B := by
  by_cases h : c
  · rw [decide_eq_true h]; exact L2.iteT (h1 h)
  · rw [decide_eq_false h]; exact L2.iteF (h2 h)
end Wx
namespace Wx
open L2
theorem atI_0 {α : Type} {a : α} {xs : List α} : atI (a :: xs) 0 = some a := atI_nat (j := 0) rfl
theorem atI_1 {α : Type} {a b : α} {xs : List α} : atI (a :: b :: xs) 1 = some b := atI_nat (j := 1) rfl
theorem atI_2 {α : Type} {a b c : α} {xs : List α} : atI (a :: b :: c :: xs) 2 = some c := atI_nat (j := 2) rfl
theorem atI_3 {α : Type} {a b c d : α} {xs : List α} : atI (a :: b :: c :: d :: xs) 3 = some d := atI_nat (j := 3) rfl
theorem ixN_0 {α : Type} {a : α} {xs : List α} : ixN (a :: xs).length 0 = some 0 := by
  unfold ixN
  rw [if_pos (by decide), if_pos (by rw [List.length_cons]; omega)]
  rfl
theorem ixN_1 {α : Type} {a b : α} {xs : List α} : ixN (a :: b :: xs).length 1 = some 1 := by
  unfold ixN
  rw [if_pos (by decide), if_pos (by rw [List.length_cons, List.length_cons]; omega)]
  rfl
theorem ixN_2 {α : Type} {a b c : α} {xs : List α} : ixN (a :: b :: c :: xs).length 2 = some 2 := by
  unfold ixN
  rw [if_pos (by decide), if_pos (by rw [List.length_cons, List.length_cons, List.length_cons]; omega)]
  rfl
end Wx
namespace Wx
open PySem L2
theorem wset_0 {X : Cx} {H : Hp} {p : Addr} {a v : V} {xs : List V} {Q : Hp → Prop} (h : H p = some (.lst (a :: xs))) (q : Q (upd H p (.lst (v :: xs)))) : WSet X (.ref p) (.int 0) v H Q := wset_l h ixN_0 q
theorem wset_1 {X : Cx} {H : Hp} {p : Addr} {a b v : V} {xs : List V} {Q : Hp → Prop} (h : H p = some (.lst (a :: b :: xs))) (q : Q (upd H p (.lst (a :: v :: xs)))) : WSet X (.ref p) (.int 1) v H Q := wset_l h ixN_1 q
theorem wset_2 {X : Cx} {H : Hp} {p : Addr} {a b c v : V} {xs : List V} {Q : Hp → Prop} (h : H p = some (.lst (a :: b :: c :: xs))) (q : Q (upd H p (.lst (a :: b :: v :: xs)))) : WSet X (.ref p) (.int 2) v H Q := wset_l h ixN_2 q
end Wx
namespace Wx
open PySem PySem.Spec PyProof.Rows L2
section
variable {X : Cx} {σ : L2.St} {H : Hp} {Q : VK}
theorem wo_neDp {x y : V} {d e : PyData} (hu : X.A.units + 64 < cLine) (hx : Dp X.K H x d) (hy : Dp X.K H y e) (sd : SeqAt.shaped d = true) (se : SeqAt.shaped e = true) (q : Q (.bl (!PyData.eqv d e)) H) : WO X (compareOp .NotEq) x y H Q := WO.of (op_neD hu) ⟨d, e, hx, hy, sd, se, q⟩
theorem wo_eqDp {x y : V} {d e : PyData} (hu : X.A.units + 64 < cLine) (hx : Dp X.K H x d) (hy : Dp X.K H y e) (sd : SeqAt.shaped d = true) (se : SeqAt.shaped e = true) (q : Q (.bl (PyData.eqv d e)) H) : WO X (compareOp .Eq) x y H Q := WO.of (op_eqD hu) ⟨d, e, hx, hy, sd, se, q⟩
end
end Wx
namespace Wx
open PySem L2
theorem ne_new {H : Hp} {a b : Addr} {o : HO} (h' : H b = none) (h : H a = some o) : a ≠ b := ne_of_none h h'
end Wx

/-! sorted of data that never changes; of a dict's tuple keys; setdefault with a tuple key -/
namespace Wx
open PySem PySem.Spec PyProof.Rows L2
section
variable {X : Cx}
/-- what stands in order: the values by their data -/
def srt (vs : List V) (ds : List PyData) : List V := ((vs.zip ds).mergeSort (PySem.W.dataLe false Prod.snd)).map Prod.fst
def srtD (ds : List PyData) : List PyData := ds.mergeSort (PySem.W.dataLe false id)
theorem each_zip {pins : List (Addr × Obj)} {σ : L2.St} {H : Hp} {s : Shared} (I : Inv X pins σ H s) : ∀ {vs : List V} {us : List Value} {ds : List PyData}, Vals vs us → ImAll H vs ds →
    PySem.W.EachIs (fun (v : Value) (b : V × PyData) => RelV b.1 v) us (vs.zip ds) ∧ PySem.W.EachIs (fun (v : Value) (b : V × PyData) => ∃ as, Reads s.heap v b.2 as) us (vs.zip ds)
  | _, _, _, .nil, .nil => ⟨.nil, .nil⟩
  | _, _, _, .cons r t, .cons h hs => by
    obtain ⟨a, b⟩ := each_zip I t hs
    exact ⟨.cons r a, .cons (Dp.reads I _ _ _ (Im.dp h) r) b⟩
theorem zip_snd : ∀ {vs : List V} {ds : List PyData}, vs.length = ds.length → (vs.zip ds).map Prod.snd = ds
  | [], [], _ => rfl
  | [], _ :: _, h => nomatch h
  | _ :: _, [], h => nomatch h
  | v :: vs, d :: ds, h => by
    rw [List.zip_cons_cons, List.map_cons, zip_snd (Nat.succ.inj h)]
theorem vals_each : ∀ {us : List Value} {bs : List (V × PyData)}, PySem.W.EachIs (fun (v : Value) (b : V × PyData) => RelV b.1 v) us bs → Vals (bs.map Prod.fst) us
  | _, _, .nil => .nil
  | _, _, .cons r t => .cons r (vals_each t)
theorem call_sortedIm (hu : X.A.units + 200 < cLine) : CallR X (.builtin "sorted") (fun xs H Q => ∃ (a : Addr) (vs : List V) (ds : List PyData), xs = [.ref a] ∧ SqL X.K H a vs ∧ ImAll H vs ds ∧ PySem.W.AllAlike ds ∧ PySem.W.Sortable ds ∧ (∀ d ∈ ds, d.depth ≤ 64) ∧
    ∀ p, H p = none → Q (.ref p) (upd H p (.lst (srt vs ds)))) := by
  intro pins s σ H xs us Q I r h
  obtain ⟨a, vs, ds, rfl, hs, him, hal, hk, hd, q⟩ := h
  obtain ⟨its, rv, hl, hsz⟩ := I.list hs
  rw [Vals.ref1 r]
  obtain ⟨e1, e2⟩ := each_zip I rv him
  have hlen : vs.length = ds.length := him.length
  have hz : (vs.zip ds).map Prod.snd = ds := zip_snd hlen
  have hzl : (vs.zip ds).length = vs.length := by rw [List.length_zip]; omega
  refine PySem.W.sorted_data (enc := Prod.snd) hl.isList e1 e2 (by rw [hz]; exact hal) (by rw [hz]; exact hk) (by rw [hzl]; exact hsz) (fun b hb => ?_) fun out ho eo => ?_
  · have hm : b.2 ∈ ds := by rw [← hz]; exact List.mem_map.mpr ⟨b, hb, rfl⟩
    have := hd _ hm
    omega
  · obtain ⟨ep, he'⟩ := PyProof.Rows.sortedAll_at s.heap its out.toArray
    have hlen2 : (srt vs ds).length ≤ sizeLine := by
      unfold srt
      rw [List.length_map, List.length_mergeSort, hzl]
      exact hsz
    exact ⟨.ref _, upd H (s.heap.objs.size + 1) (.lst (srt vs ds)), I.laid (t' := s.toks) (fun _ _ => PyProof.Rows.sortedAll_old) (Nat.le_succ _) ⟨hlen2, out, ep, vals_each eo, he'⟩, rfl, q _ (I.hok.fresh (Nat.le_succ _))⟩

theorem zip_im {H : Hp} : ∀ {vs : List V} {ds : List PyData}, ImAll H vs ds → ∀ b ∈ vs.zip ds, Im H b.1 b.2
  | _, _, .nil, b, h => nomatch h
  | _, _, .cons h hs, b, hb => by
    rw [List.zip_cons_cons] at hb
    rcases List.mem_cons.mp hb with rfl | hb
    · exact h
    · exact zip_im hs b hb
theorem im_of {H : Hp} : ∀ {bs : List (V × PyData)}, (∀ b ∈ bs, Im H b.1 b.2) → ImAll H (bs.map Prod.fst) (bs.map Prod.snd)
  | [], _ => .nil
  | b :: bs, h => .cons (h b List.mem_cons_self) (im_of fun c hc => h c (List.mem_cons_of_mem _ hc))
theorem srt_im {H : Hp} {vs : List V} {ds : List PyData} (h : ImAll H vs ds) : ImAll H (srt vs ds) (srtD ds) := by
  have e : srtD ds = ((vs.zip ds).mergeSort (PySem.W.dataLe false Prod.snd)).map Prod.snd := by
    unfold srtD
    rw [List.map_mergeSort (r := PySem.W.dataLe false Prod.snd) (s := PySem.W.dataLe false id) (f := Prod.snd) (l := vs.zip ds) (fun a _ b _ => rfl), zip_snd h.length]
  rw [e]
  unfold srt
  refine im_of fun b hb => ?_
  exact zip_im h b ((List.mergeSort_perm _ _).mem_iff.mp hb)
/-- a key's data -/
def keyD : Key → PyData
  | .inl i => .int i
  | .inr x => .str x
def keyT (k : List Key) : PyData := .tuple (k.map keyD)
theorem keys_im {H : Hp} : ∀ (k : List Key), ImAll H (k.map kV) (k.map keyD)
  | [] => .nil
  | .inl i :: k => .cons (.int i) (keys_im k)
  | .inr x :: k => .cons (.str x) (keys_im k)
mutual
theorem im_reads {pins : List (Addr × Obj)} {σ : L2.St} {H : Hp} {s : Shared} (I : Inv X pins σ H s) : ∀ {v : V} {d : PyData} {u : Value}, Im H v d → RelV v u → Reads s.heap u d []
  | _, _, _, .non, r => by
    cases (show _ = Value.none from r)
    exact .none
  | _, _, _, .bl b, r => by
    cases (show _ = Value.bool b from r)
    exact .bool b
  | _, _, _, .int i, r => by
    obtain ⟨t, e⟩ := (show ∃ t, _ = Value.int i t from r)
    subst e
    exact .int i t
  | _, _, _, .str x, r => by
    obtain ⟨t, e⟩ := (show ∃ t, _ = Value.str x t from r)
    subst e
    exact .str x t
  | _, _, _, .tup (a := a) (xs := xs) h hs, r => by
    cases (show _ = Value.ref a from r)
    obtain ⟨_, its, rv, o, h1, h2, n, h3⟩ := (show ObjOk X.prog X.w H s.heap a (.tup xs) from I.hok a _ h)
    exact .tuple h1 h2 h3 (im_readsAll I hs (by simpa using rv))
theorem im_readsAll {pins : List (Addr × Obj)} {σ : L2.St} {H : Hp} {s : Shared} (I : Inv X pins σ H s) : ∀ {vs : List V} {ds : List PyData} {us : List Value}, ImAll H vs ds → Vals vs us → ReadsAll s.heap us ds []
  | _, _, _, .nil, .nil => .nil
  | _, _, _, .cons h hs, .cons r t => ReadsAll.cons (as := []) (bs := []) (im_reads I h r) (im_readsAll I hs t)
end
theorem each_zip0 {pins : List (Addr × Obj)} {σ : L2.St} {H : Hp} {s : Shared} (I : Inv X pins σ H s) : ∀ {vs : List V} {us : List Value} {ds : List PyData}, Vals vs us → ImAll H vs ds →
    PySem.W.EachIs (fun (v : Value) (b : V × PyData) => Reads s.heap v b.2 []) us (vs.zip ds)
  | _, _, _, .nil, .nil => .nil
  | _, _, _, .cons r t, .cons h hs => .cons (im_reads I h r) (each_zip0 I t hs)
theorem keys_at {H : Hp} : ∀ {kvs : List (List Key × V)} {ys : List (List Key × Addr × Value)}, Paired (fun (p : List Key × V) (q : List Key × Addr × Value) => p.1 = q.1 ∧ H q.2.1 = some (.tup (p.1.map kV)) ∧ RelV p.2 q.2.2) kvs ys →
    ImAll H (ys.map fun y => V.ref y.2.1) (kvs.map fun p => keyT p.1) ∧ Vals (ys.map fun y => V.ref y.2.1) (ys.map fun y => Value.ref y.2.1)
  | _, _, .nil => ⟨.nil, .nil⟩
  | _, _, .cons h t => by
    obtain ⟨a, b⟩ := keys_at t
    exact ⟨.cons (.tup h.2.1 (keys_im _)) a, .cons rfl b⟩
/-- sorted(d), d's keys tuples of ints and texts -/
theorem call_sortedDT (hcalm : X.calm = true) (hu : X.A.units + 200 < cLine) : CallR X (.builtin "sorted") (fun xs H Q => ∃ (a : Addr) (kvs : List (List Key × V)), xs = [.ref a] ∧ Rd H a (.dT kvs) ∧ PySem.W.AllAlike (kvs.map fun p => keyT p.1) ∧ PySem.W.Sortable (kvs.map fun p => keyT p.1) ∧ (∀ d ∈ kvs.map (fun p => keyT p.1), d.depth ≤ 64) ∧
    ∀ p ks, H p = none → ImAll H ks (srtD (kvs.map fun p => keyT p.1)) → Q (.ref p) (upd H p (.lst ks))) := by
  intro pins s σ H xs us Q I r q
  obtain ⟨a, kvs, ex, hd, hal, hk, hdp, q⟩ := q
  subst ex
  obtain ⟨u, eu, rx⟩ := vals1 r
  subst eu
  cases rx
  obtain ⟨hz, lo, ys, hpr, o, es, ep, ho, hex, hda, hes, _⟩ := hd.ok I.hok
  have hraw : s.heap.DictRaw a es ep := ⟨o, ho, hex, hda⟩
  have hsize : es.size = ys.length := by
    have := congrArg List.length hes
    rw [List.length_map, Array.length_toList] at this
    exact this
  have hkl : kvs.length = ys.length := Paired.length hpr
  obtain ⟨him, hvl⟩ := keys_at hpr
  refine Calls.call_function_entry PyProof.Rows.kind_sorted PyProof.Rows.plain_sorted PyProof.Rows.entry_sorted (PyProof.Rows.args_sorted1 _) ?_
  unfold Builtin.«sorted»
  refine wpAny_bind (m := checkCount "sorted" 1 1 _) (wpAny_pure ?_)
  refine wpAny_bind (PySem.W.kdu_collect (A := X.A.in1) (PySem.KdlSrc.rawDict (es := es) (ep := ep) lo) (I.ok.hd hcalm) hraw (by rw [hsize, ← hkl]; exact hz) fun h' tk acc hkp hacc => ?_)
  have hacl : acc.toList.length = ys.length := by rw [Array.length_toList, hacc.1, hsize]
  have hac : acc.toList = ys.map fun y => Value.ref y.2.1 := by
    apply List.ext_getElem?
    intro j
    by_cases hj : j < ys.length
    · have hj2 : j < acc.size := by rw [hacc.1, hsize]; exact hj
      obtain ⟨hi, e⟩ := hacc.2 j acc[j] (Array.getElem?_eq_getElem hj2)
      rw [Array.getElem?_toList, Array.getElem?_eq_getElem hj2, e, List.getElem?_map, List.getElem?_eq_getElem hj]
      have e2 : es.toList[j]? = (ys.map (entryOfKey (tupleKind (mixKind X.prog X.w))))[j]? := by rw [hes]
      rw [Array.getElem?_toList, Array.getElem?_eq_getElem hi, List.getElem?_map, List.getElem?_eq_getElem hj] at e2
      rw [Option.some.inj e2]
      rfl
    · rw [List.getElem?_eq_none (by omega), List.getElem?_eq_none (by rw [List.length_map]; omega)]
  have I1 : Inv X pins σ H { s with heap := h', toks := tk } := I.kept hkp
  refine wpAny_bind (wpAny_newList ?_ (by rw [hacl, ← hkl]; exact hz))
  have hoL : (h'.push (PyProof.Rows.seqObj "list" acc.toList.toArray 0)).get? h'.objs.size = some (PyProof.Rows.seqObj "list" acc.toList.toArray 0) := Heap.get?_push_size _ rfl
  show wpAny _ _ _ _ _ { s with heap := h'.push (PyProof.Rows.seqObj "list" acc.toList.toArray 0), toks := tk }
  have hlen : (ys.map fun y => V.ref y.2.1).length = (kvs.map fun p => keyT p.1).length := him.length
  have hzs : ((ys.map fun y => V.ref y.2.1).zip (kvs.map fun p => keyT p.1)).map Prod.snd = kvs.map fun p => keyT p.1 := zip_snd hlen
  have hzl : ((ys.map fun y => V.ref y.2.1).zip (kvs.map fun p => keyT p.1)).length = kvs.length := by
    rw [List.length_zip, List.length_map, List.length_map]
    omega
  have e1 := (each_zip I1 hvl him).1
  have e2 := each_zip0 I1 hvl him
  have e3 : PySem.W.EachIs (fun (v : Value) (b : V × PyData) => ∃ as, Reads (h'.push (PyProof.Rows.seqObj "list" acc.toList.toArray 0)) v b.2 as ∧ h'.objs.size ∉ as) (ys.map fun y => Value.ref y.2.1) ((ys.map fun y => V.ref y.2.1).zip (kvs.map fun p => keyT p.1)) :=
    e2.mono fun v b rd => ⟨[], PyProof.Rows.Reads.keeps (fun _ _ e => Heap.get?_push_of_some _ e) rd, by simp⟩
  rw [← hac] at e1 e3
  refine wpAny_bind (wpAny_holding (PySem.W.list_sort_data (enc := Prod.snd) (s := { s with heap := h'.push (PyProof.Rows.seqObj "list" acc.toList.toArray 0), toks := tk }) hoL e1 e3 (by rw [hzs]; exact hal) (by rw [hzs]; exact hk) (by rw [hzl]; exact hz) (fun b hb => ?_) fun out hout eo => ?_))
  · have hm : b.2 ∈ kvs.map fun p => keyT p.1 := by rw [← hzs]; exact List.mem_map.mpr ⟨b, hb, rfl⟩
    have := hdp _ hm
    show X.A.in1.units + 1 + b.2.depth < cLine
    have e4 : X.A.in1.units = X.A.units + 1 := rfl
    omega
  · obtain ⟨e', he'⟩ := PyProof.Rows.sortedHeap_at (vs := acc.toList) (out := out.toArray) hoL
    have hlen2 : (srt (ys.map fun y => V.ref y.2.1) (kvs.map fun p => keyT p.1)).length ≤ sizeLine := by
      unfold srt
      rw [List.length_map, List.length_mergeSort, hzl]
      exact hz
    refine wpAny_pure ⟨_, rfl, .ref h'.objs.size, upd H h'.objs.size (.lst (srt (ys.map fun y => V.ref y.2.1) (kvs.map fun p => keyT p.1))), I1.laid (t' := tk) (fun b u e => ?_) (Nat.le_refl _)
      (show ObjOk X.prog X.w _ _ _ (.lst (srt (ys.map fun y => V.ref y.2.1) (kvs.map fun p => keyT p.1))) from ⟨hlen2, out, e', vals_each eo, he'⟩), rfl, q _ _ (I1.hok.fresh (Nat.le_refl _)) (srt_im him)⟩
    have hb : b < h'.objs.size := Heap.lt_size e
    rw [PyProof.Rows.sortedHeap_old (Nat.ne_of_lt hb) (by rw [size_push']; exact Nat.lt_succ_of_lt hb)]
    exact Heap.get?_push_of_some _ e
end
end Wx
namespace Wx
open PySem PySem.Spec PyProof.Rows L2
section
variable {X : Cx} {σ : L2.St} {H : Hp}
theorem d_setdT {pins : List (Addr × Obj)} {s : Shared} {a b : Addr} {k : List Key} {kvs : List (List Key × V)} {d : V} {r : Value} {A : Around} {E : Value → Shared → Prop} {Q : Value → Shared → Prop} (hu : A.units + 1 < cLine) (I : Inv X pins σ H s) (e : H a = some (.dT kvs)) (eb : H b = some (.tup (k.map kV))) (rd : RelV d r) (hl : kvs.length < sizeLine)
    (h1 : ∀ v, valV kvs k = some v → ∀ (w' : Value) (s' : Shared), Inv X pins σ H s' → RelV v w' → Q w' s') (h2 : valV kvs k = none → ∀ (w' : Value) (s' : Shared), Inv X pins σ (upd H a (.dT (putK kvs k d))) s' → RelV d w' → Q w' s') :
    wpAny (model X.prog X.w) A (call (.builtin "dict.setdefault") [.ref a, .ref b, r]) Q E s := by
  obtain ⟨z, hd, xs, rel, dd⟩ := dt_of I.hok e
  have hz : xs.length ≤ sizeLine := by rw [← Paired.length rel]; exact z
  have hl2 : (putK kvs k d).length ≤ sizeLine := by have := length_putK kvs k d; omega
  refine call_setdefault_heap (hsz := hz) (tupleKind_room_in1 hu) (key_of I.hok eb) hd dd (fun p hp => ?_) fun hn h' dd' hs => ?_
  · have q := rel.val k
    rw [hp] at q
    cases q0 : valV kvs k with
    | none =>
      rw [q0] at q
      exact (show False from q).elim
    | some v0 =>
      rw [q0] at q
      exact h1 v0 q0 _ _ (I.tok _) q
  · have q := rel.val k
    rw [hn] at q
    cases q0 : valV kvs k with
    | some v0 =>
      rw [q0] at q
      exact (show False from q).elim
    | none =>
      obtain ⟨q, es, ep, hq, g2, g3, g4, _, g5⟩ := dd'
      refine h2 q0 _ _ (d_write I (by rw [e]; exact True.intro) hs ⟨q, hq⟩ ⟨hl2, hd, _, (rel.put k eb rd).keeps fun c ys ec => ?_, q, es, ep, hq, g2, g3, g4, g5⟩) rd
      rw [upd_ne (ne_of ec e (fun z => nomatch z))]
      exact ec
variable {o e f : Expr} {apos pos : Pos} {Q : VK}
theorem we_setdT (hu : X.A.units + 1 < cLine) (q : WE X o σ H fun x H1 => ∃ a, x = .ref a ∧ IsD H1 a ∧ WE X e σ H1 fun y H2 => WE X f σ H2 fun z H3 => ∃ kvs k b, H3 a = some (.dT kvs) ∧ y = .ref b ∧ H3 b = some (.tup (k.map kV)) ∧ kvs.length < sizeLine ∧ (∀ v, valV kvs k = some v → Q v H3) ∧ (valV kvs k = none → Q z (upd H3 a (.dT (putK kvs k z)))))
    (m : M2 X o "setdefault" apos e f pos := by exact ⟨rfl, rfl, rfl, rfl⟩) : WE X (.Call (.Attribute o "setdefault" apos) [e, f] [] pos) σ H Q := by
  refine WE.of (t := fun σ H Q => WE X o σ H fun x H1 => ∃ a, x = .ref a ∧ IsD H1 a ∧ WE X e σ H1 fun y H2 => WE X f σ H2 fun z H3 => ∃ kvs k b, H3 a = some (.dT kvs) ∧ y = .ref b ∧ H3 b = some (.tup (k.map kV)) ∧ kvs.length < sizeLine ∧ (∀ v, valV kvs k = some v → Q v H3) ∧ (valV kvs k = none → Q z (upd H3 a (.dT (putK kvs k z))))) ⟨fun pins s σ H Q I h => ?_⟩ q
  refine wpAny_Call_method m.base m.few m.line PySem.F.plainAttrs_dict PySem.F.slot_dict_setdefault PySem.F.type_dict_setdefault (thn (pe_w.run pins s σ H _ I h) fun u s1 ⟨x, H1, I1, rx, a, ex, d, q1⟩ => ?_)
  subst ex
  obtain rfl : u = Value.ref a := rx
  obtain ⟨t1, t2, _⟩ := isD_at I1 d
  refine ⟨t1, t2, ?_⟩
  rw [m.trees]
  refine Calls.callWith_builtin rfl (Calls.evalArgs_plain (Calls.spliced_cons (thn (pe_w.run pins s1 σ H1 _ I1 q1) fun iv s2 ⟨y, H2, I2, ry, q2⟩ =>
    Calls.spliced_cons (thn (pe_w.run pins s2 σ H2 _ I2 q2) fun fv s3 ⟨z, H3, I3, rz, kvs, k, b, ea, ey, eb, hl, q3, q4⟩ => Calls.spliced_nil ?_))))
  subst ey
  obtain rfl : iv = Value.ref b := ry
  exact d_setdT hu I3 ea eb rz hl (fun v hv w' s4 I4 rw' => ⟨v, _, I4, rw', q3 v hv⟩) fun hn w' s4 I4 rw' => ⟨z, _, I4, rw', q4 hn⟩
end
end Wx

/-! dicts, instances, stars, least and greatest -/
namespace Wx
open PySem PySem.Spec PyProof.Rows L2
section
variable {X : Cx} {σ : L2.St} {H : Hp} {Q : VK} {pos : Pos}
/-! ### dicts -/
theorem we_newK (q : ∀ p, H p = none → Q (.ref p) (upd H p (.dK []))) : WE X (.Dict [] [] pos) σ H Q := WE.of pe_dnewK q
theorem we_newT (q : ∀ p, H p = none → Q (.ref p) (upd H p (.dT []))) : WE X (.Dict [] [] pos) σ H Q := WE.of pe_dnewT q
theorem we_dix {o i : Expr} (hu : X.A.units + 1 < cLine) (q : WE X o σ H fun x H1 => WE X i σ H1 fun y H2 => ∃ a v, x = .ref a ∧ DGet H2 a y (some v) ∧ Q v H2) (hs : NoSl i := by exact fun _ _ => rfl) : WE X (.Subscript o i pos) σ H Q := WE.of (pe_dget hu pe_w pe_w hs) q
theorem we_get2 {o e f : Expr} {apos : Pos} (hu : X.A.units + 1 < cLine) (q : WE X o σ H fun x H1 => ∃ a, x = .ref a ∧ IsD H1 a ∧ WE X e σ H1 fun y H2 => WE X f σ H2 fun z H3 => ∃ o, DGet H3 a y o ∧ Q (o.getD z) H3)
    (m : M2 X o "get" apos e f pos := by exact ⟨rfl, rfl, rfl, rfl⟩) : WE X (.Call (.Attribute o "get" apos) [e, f] [] pos) σ H Q := WE.of (pe_dget2 hu pe_w pe_w pe_w m) q
theorem we_get1 {o e : Expr} {apos : Pos} (hu : X.A.units + 1 < cLine) (q : WE X o σ H fun x H1 => ∃ a, x = .ref a ∧ IsD H1 a ∧ WE X e σ H1 fun y H2 => ∃ o, DGet H2 a y o ∧ Q (o.getD .non) H2)
    (m : M1 X o "get" apos e pos := by exact ⟨rfl, rfl, rfl, rfl⟩) : WE X (.Call (.Attribute o "get" apos) [e] [] pos) σ H Q := WE.of (pe_dget1 hu pe_w pe_w m) q
theorem we_din {i o : Expr} (hu : X.A.units + 1 < cLine) (q : WE X i σ H fun y H1 => WE X o σ H1 fun x H2 => ∃ a r, x = .ref a ∧ DGet H2 a y r ∧ Q (.bl r.isSome) H2) (hm : behindInMarks .In o = false := by rfl) : WE X (.Compare i [.In] [o] pos) σ H Q := WE.of (pe_cmp (pc_din hu pe_w pe_w) hm) q
theorem we_dnotin {i o : Expr} (hu : X.A.units + 1 < cLine) (q : WE X i σ H fun y H1 => WE X o σ H1 fun x H2 => ∃ a r, x = .ref a ∧ DGet H2 a y r ∧ Q (.bl (!r.isSome)) H2) (hm : behindInMarks .NotIn o = false := by rfl) : WE X (.Compare i [.NotIn] [o] pos) σ H Q := WE.of (pe_cmp (pc_dnotin hu pe_w pe_w) hm) q
theorem wt_din {i o : Expr} {Q : Bool → Hp → Prop} (hu : X.A.units + 1 < cLine) (q : WE X i σ H fun y H1 => WE X o σ H1 fun x H2 => ∃ a r, x = .ref a ∧ DGet H2 a y r ∧ Q r.isSome H2) (hm : behindInMarks .In o = false := by rfl) : WT X (.Compare i [.In] [o] pos) σ H Q :=
  WT.of (pt_cmp (pc_din hu pe_w pe_w) hm) (WE.mono (fun _ _ h => WE.mono (fun _ _ ⟨a, r, e, g, q⟩ => ⟨a, r, e, g, _, rfl, q⟩) h) q)
theorem wt_dnotin {i o : Expr} {Q : Bool → Hp → Prop} (hu : X.A.units + 1 < cLine) (q : WE X i σ H fun y H1 => WE X o σ H1 fun x H2 => ∃ a r, x = .ref a ∧ DGet H2 a y r ∧ Q (!r.isSome) H2) (hm : behindInMarks .NotIn o = false := by rfl) : WT X (.Compare i [.NotIn] [o] pos) σ H Q :=
  WT.of (pt_cmp (pc_dnotin hu pe_w pe_w) hm) (WE.mono (fun _ _ h => WE.mono (fun _ _ ⟨a, r, e, g, q⟩ => ⟨a, r, e, g, _, rfl, q⟩) h) q)
theorem ws_dput {o i value : Expr} {pos' : Pos} {D : Ends} (hu : X.A.units + 1 < cLine) (q : WE X value σ H fun v H1 => WE X o σ H1 fun x H2 => WE X i σ H2 fun y H3 => ∃ a H4, x = .ref a ∧ DPut H3 a y v H4 ∧ D.nx σ H4)
    (hs : swapsWith value (some (.Subscript o i pos')) pos.line X.env = pure false := by rfl) : WS X (.Assign [.Subscript o i pos'] value pos) D σ H := WS.of (ps_dput hu pe_w pe_w pe_w hs) q
/-! ### stars in displays -/
theorem wa_star {e es p} {Q : List V → Hp → Prop} (q : WE X e σ H fun x H1 => ∃ a xs, x = V.ref a ∧ (SqT X.K H1 a xs ∨ SqL X.K H1 a xs) ∧ WA X es σ H1 fun ys H2 => Q (xs ++ ys) H2)
    (hs : starEach (.Starred e p :: es) X.env = (true, eval e X.env) :: starEach es X.env := by rfl) : WA X (.Starred e p :: es) σ H Q := WA.of (StX.pa_star pe_w pa_w hs) q
/-! ### least, greatest, all -/
theorem boot_min : bootBuiltins "min" = some (.builtin "min") := by decide +kernel
theorem boot_max : bootBuiltins "max" = some (.builtin "max") := by decide +kernel
theorem boot_all : bootBuiltins "all" = some (.builtin "all") := by decide +kernel
theorem boot_any : bootBuiltins "any" = some (.builtin "any") := by decide +kernel
theorem boot_sorted : bootBuiltins "sorted" = some (.builtin "sorted") := by decide +kernel
theorem we_min {p : Pos} {e es} (hm : X.mg "min" = none) (q : WA X (e :: es) σ H fun xs H1 => WC X (.builtin "min") xs H1 Q) (hg : Gl X "min" := by rfl)
    (he : starEach (e :: es) X.env = (false, eval e X.env) :: starEach es X.env := by rfl) (hpl : (backTo pos (starEach es X.env)).any (·.1) = false := by rfl) : WE X (.Call (.Name "min" p) (e :: es) [] pos) σ H Q := we_callB hg hm boot_min q (by decide) (by decide) he hpl
theorem we_max {p : Pos} {e es} (hm : X.mg "max" = none) (q : WA X (e :: es) σ H fun xs H1 => WC X (.builtin "max") xs H1 Q) (hg : Gl X "max" := by rfl)
    (he : starEach (e :: es) X.env = (false, eval e X.env) :: starEach es X.env := by rfl) (hpl : (backTo pos (starEach es X.env)).any (·.1) = false := by rfl) : WE X (.Call (.Name "max" p) (e :: es) [] pos) σ H Q := we_callB hg hm boot_max q (by decide) (by decide) he hpl
theorem we_all {p : Pos} {e es} (hm : X.mg "all" = none) (q : WA X (e :: es) σ H fun xs H1 => WC X (.builtin "all") xs H1 Q) (hg : Gl X "all" := by rfl)
    (he : starEach (e :: es) X.env = (false, eval e X.env) :: starEach es X.env := by rfl) (hpl : (backTo pos (starEach es X.env)).any (·.1) = false := by rfl) : WE X (.Call (.Name "all" p) (e :: es) [] pos) σ H Q := we_callB hg hm boot_all q (by decide) (by decide) he hpl
theorem we_any {p : Pos} {e es} (hm : X.mg "any" = none) (q : WA X (e :: es) σ H fun xs H1 => WC X (.builtin "any") xs H1 Q) (hg : Gl X "any" := by rfl)
    (he : starEach (e :: es) X.env = (false, eval e X.env) :: starEach es X.env := by rfl) (hpl : (backTo pos (starEach es X.env)).any (·.1) = false := by rfl) : WE X (.Call (.Name "any" p) (e :: es) [] pos) σ H Q := we_callB hg hm boot_any q (by decide) (by decide) he hpl
theorem we_sorted {p : Pos} {e es} (hm : X.mg "sorted" = none) (q : WA X (e :: es) σ H fun xs H1 => WC X (.builtin "sorted") xs H1 Q) (hg : Gl X "sorted" := by rfl)
    (he : starEach (e :: es) X.env = (false, eval e X.env) :: starEach es X.env := by rfl) (hpl : (backTo pos (starEach es X.env)).any (·.1) = false := by rfl) : WE X (.Call (.Name "sorted" p) (e :: es) [] pos) σ H Q := we_callB hg hm boot_sorted q (by decide) (by decide) he hpl
theorem we_listT {p : Pos} {e es} (hm : X.mg "list" = none) (q : WA X (e :: es) σ H fun xs H1 => WC X (.type "list") xs H1 Q) (hg : Gl X "list" := by rfl)
    (he : starEach (e :: es) X.env = (false, eval e X.env) :: starEach es X.env := by rfl) (hpl : (backTo pos (starEach es X.env)).any (·.1) = false := by rfl) : WE X (.Call (.Name "list" p) (e :: es) [] pos) σ H Q := we_callTy hg hm boot_list q (by decide) (by decide) he hpl
theorem we_strT {p : Pos} {e es} (hm : X.mg "str" = none) (q : WA X (e :: es) σ H fun xs H1 => WC X (.type "str") xs H1 Q) (hg : Gl X "str" := by rfl)
    (he : starEach (e :: es) X.env = (false, eval e X.env) :: starEach es X.env := by rfl) (hpl : (backTo pos (starEach es X.env)).any (·.1) = false := by rfl) : WE X (.Call (.Name "str" p) (e :: es) [] pos) σ H Q := we_callTy hg hm boot_str q (by decide) (by decide) he hpl
theorem wc_strS {z : Str} (q : Q (.str z) H) : WC X (.type "str") [.str z] H Q := WC.of SkE.call_str_str ⟨z, rfl, q⟩
theorem wc_listL {a : Addr} {xs : List V} (h : SqL X.K H a xs ∨ SqT X.K H a xs) (q : ∀ l, H l = none → Q (.ref l) (upd H l (.lst xs))) : WC X (.type "list") [.ref a] H Q := WC.of call_list_of ⟨a, xs, rfl, h, q⟩
theorem wc_min2 {i j : Int} (hc : X.calm = true) (q : Q (.int (if j < i then j else i)) H) : WC X (.builtin "min") [.int i, .int j] H Q := WC.of (call_min2 hc) ⟨i, j, rfl, q⟩
theorem wc_max2 {i j : Int} (hc : X.calm = true) (q : Q (.int (if j > i then j else i)) H) : WC X (.builtin "max") [.int i, .int j] H Q := WC.of (call_max2 hc) ⟨i, j, rfl, q⟩
theorem wc_minL {a : Addr} {ns : List Int} (hc : X.calm = true) (h : SqL X.K H a (ns.map V.int)) (h0 : 0 < ns.length) (q : ∀ m, m ∈ ns → (∀ y, y ∈ ns → m ≤ y) → Q (.int m) H) : WC X (.builtin "min") [.ref a] H Q := WC.of (cr_min hc) ⟨a, ns, rfl, h, h0, q⟩
theorem wc_maxL {a : Addr} {ns : List Int} (hc : X.calm = true) (h : SqL X.K H a (ns.map V.int)) (h0 : 0 < ns.length) (q : ∀ m, m ∈ ns → (∀ y, y ∈ ns → y ≤ m) → Q (.int m) H) : WC X (.builtin "max") [.ref a] H Q := WC.of (cr_max hc) ⟨a, ns, rfl, h, h0, q⟩
theorem wc_allL {a : Addr} {bs : List Bool} (hc : X.calm = true) (h : SqL X.K H a (bs.map V.bl)) (q : Q (.bl (bs.all id)) H) : WC X (.builtin "all") [.ref a] H Q := WC.of (cr_all hc) ⟨a, bs, rfl, h, q⟩
theorem wc_anyL {a : Addr} {bs : List Bool} (hc : X.calm = true) (h : SqL X.K H a (bs.map V.bl)) (q : Q (.bl (bs.any id)) H) : WC X (.builtin "any") [.ref a] H Q := WC.of (cr_any hc) ⟨a, bs, rfl, h, q⟩
theorem wc_sortedIm {a : Addr} {vs : List V} {ds : List PyData} (hu : X.A.units + 200 < cLine) (h : SqL X.K H a vs) (him : ImAll H vs ds) (hal : PySem.W.AllAlike ds) (hk : PySem.W.Sortable ds) (hd : ∀ d ∈ ds, d.depth ≤ 64) (q : ∀ p, H p = none → Q (.ref p) (upd H p (.lst (srt vs ds)))) : WC X (.builtin "sorted") [.ref a] H Q :=
  WC.of (call_sortedIm hu) ⟨a, vs, ds, rfl, h, him, hal, hk, hd, q⟩
theorem wc_sortedDT {a : Addr} {kvs : List (List Key × V)} (hc : X.calm = true) (hu : X.A.units + 200 < cLine) (h : Rd H a (.dT kvs)) (hal : PySem.W.AllAlike (kvs.map fun p => keyT p.1)) (hk : PySem.W.Sortable (kvs.map fun p => keyT p.1)) (hd : ∀ d ∈ kvs.map (fun p => keyT p.1), d.depth ≤ 64)
    (q : ∀ p ks, H p = none → ImAll H ks (srtD (kvs.map fun p => keyT p.1)) → Q (.ref p) (upd H p (.lst ks))) : WC X (.builtin "sorted") [.ref a] H Q := WC.of (call_sortedDT hc hu) ⟨a, kvs, rfl, h, hal, hk, hd, q⟩
theorem wc_sortedDS {a : Addr} {kvs : List (Key × V)} {ks : List Str} (hc : X.calm = true) (h : Rd H a (.dK kvs)) (hk : kvs.map (·.1) = ks.map Sum.inr) (hl : ks.length < 64) (q : ∀ ys p, ys.Perm ks → sortedS ys = true → H p = none → Q (.ref p) (upd H p (.lst (ys.map V.str)))) : WC X (.builtin "sorted") [.ref a] H Q :=
  WC.of (call_sortedD hc) ⟨a, kvs, ks, rfl, h, hk, hl, q⟩
/-! ### instances -/
theorem we_fld {e : Expr} {f : Str} (q : WE X e σ H fun x H1 => ∃ a C dx fs v, x = .ref a ∧ H1 a = some (.ins C dx fs) ∧ Cls X.K C ∧ NoAttr X.K C f ∧ fs.lookup f = some v ∧ Q v H1) (hb : attributeBase e f X.env (eval e X.env) = eval e X.env := by rfl) : WE X (.Attribute e f pos) σ H Q := WE.of (pe_fld pe_w hb) q
theorem ws_fld {o value : Expr} {f : Str} {pos' : Pos} {D : Ends} (q : sFld X.K (WE X o) (WE X value) f D σ H) (hs : swapsWith value (some (.Attribute o f pos')) pos.line X.env = pure false := by rfl) : WS X (.Assign [.Attribute o f pos'] value pos) D σ H := WS.of (ps_fld pe_w pe_w hs) q
/-- a property of class C, by its getter's promise -/
structure Prp (P : Program) (w : World) (K : PySem.W.Frag) (mg : Str → Option Value) (base : Heap) (CX : CXT) (k : Nat) (C : Addr) (f : Str) (sp : Sp) : Prop where
  ex : ∃ p g fd ps, PropOf K C f p g ∧ FnOk P w K mg base CX k g fd ps sp ∧ Binds K fd ps []
theorem we_prp {CX k C sp E} {e : Expr} {f : Str} (R : Prp X.prog X.w X.K X.mg X.base CX k C f sp) (c : Cls X.K C) (hr : Room (k + 1) X.A) (hx : Passes CX X.nox E) (q : WE X e σ H fun x H1 => ∃ a dx fs, x = .ref a ∧ H1 a = some (.ins C dx fs) ∧ sp [.ref a] H1 Q E)
    (hab : attributeBase e f X.env (eval e X.env) = eval e X.env := by rfl) : WE X (.Attribute e f pos) σ H Q := by
  obtain ⟨p, g, fd, ps, hp, F, hb⟩ := R.ex
  exact WE.of (pe_prop pe_w c hp F hr hb .nil hx hab) q
/-- a method of class C -/
structure Mth (P : Program) (w : World) (K : PySem.W.Frag) (mg : Str → Option Value) (base : Heap) (CX : CXT) (k : Nat) (C : Addr) (m : Str) (sp : Sp) : Prop where
  ex : ∃ f fd ps, Meth K C m f ∧ FnOk P w K mg base CX k f fd ps sp ∧ Binds K fd ps []
/-- a class by its __init__ -/
structure Mkr (P : Program) (w : World) (K : PySem.W.Frag) (mg : Str → Option Value) (base : Heap) (CX : CXT) (k : Nat) (x : Str) (C : Addr) (sp : Sp) : Prop where
  ex : ∃ f fd ps, L2.Mk K C f ∧ FnOk P w K mg base CX k f fd ps sp ∧ Binds K fd ps [] ∧ mg x = some (.ref C)
theorem we_mk {CX k C sp E x p e es} (M : Mkr X.prog X.w X.K X.mg X.base CX k x C sp) (hr : Room (k + 1) X.A) (hx : Passes CX X E)
    (q : WA X (e :: es) σ H fun vs H1 => ∀ x dx, H1 x = none → H1 dx = none → dx ≠ x → sp (.ref x :: vs) (upd (upd H1 dx (.own x)) x (.ins C dx [])) (fun v H2 => v = .non ∧ Q (.ref x) H2) E)
    (hg : Gl X x := by rfl) (hdb : (x == ("__debug__" : Str)) = false := by decide) (he : starEach (e :: es) X.env = (false, eval e X.env) :: starEach es X.env := by rfl) (hpl : (backTo pos (starEach es X.env)).any (·.1) = false := by rfl) :
    WE X (.Call (.Name x p) (e :: es) [] pos) σ H Q := by
  obtain ⟨f, fd, ps, hM, F, hb, hm⟩ := M.ex
  refine WE.of (pe_make hM F hr hg hm hb .nil hx pa_w hdb he hpl) ?_
  have e0 : ∀ vs : List V, vs ++ [] = vs := fun vs => List.append_nil vs
  unfold tMake
  simp only [e0]
  exact q
end
end Wx
namespace Wx
open PySem PySem.Spec PyProof.Rows L2
def GStr (mg : Str → Option Value) (x : Str) (l : List Nat) : Prop := ∃ t, mg x = some (.str (S l) t)
def GInt (mg : Str → Option Value) (x : Str) (i : Int) : Prop := ∃ t, mg x = some (.int i t)
section
variable {X : Cx} {σ : L2.St} {H : Hp} {Q : VK} {pos : Pos}
theorem we_gS {x : Str} {l : List Nat} (h : GStr X.mg x l) (q : Q (.str (S l)) H) (hg : Gl X x := by rfl) (hd : (x == ("__debug__" : Str)) = false := by decide) : WE X (.Name x pos) σ H Q := by
  obtain ⟨t, e⟩ := h
  exact we_glob (v := .str (S l)) hg e ⟨t, rfl⟩ q hd
theorem we_gI {x : Str} {i : Int} (h : GInt X.mg x i) (q : Q (.int i) H) (hg : Gl X x := by rfl) (hd : (x == ("__debug__" : Str)) = false := by decide) : WE X (.Name x pos) σ H Q := by
  obtain ⟨t, e⟩ := h
  exact we_glob (v := .int i) hg e ⟨t, rfl⟩ q hd
/-- [elt for tg in text] -/
theorem we_lcS {elt tg iter : Expr} {scope : Scope} {own : List (Str × Nat)} (ok : BlkOk X.N X.env.scope scope own) (hN : X.N.Nodup) (hc : X.calm = true) (q : WE X iter σ H fun x H1 => ∃ l : List Nat, x = .str (S l) ∧ l.length ≤ 1000000 ∧
      ∃ (M : Addr → Prop) (I : Nat → Hp → Prop) (E : Nat → V → Hp → Prop), (∀ a, M a → H1 a ≠ none) ∧ I 0 H1 ∧ (∀ i H D o, H1 D = none → I i H → I i (upd H D o)) ∧ (∀ i v H H', E i v H → TEx H H' → E i v H') ∧
        (∀ i c H2, l[i]? = some c → I i H2 → gB X scope tg (.str (S [c])) (wipe σ (own.map (·.2))) H2 fun σ2 H3 => wipe σ2 (own.map (·.2)) = wipe σ (own.map (·.2)) ∧ eB X scope elt σ2 H3 fun y H4 => I (i + 1) H4 ∧ E i y H4 ∧ TEx H2 H4 ∧ ∀ a o, ¬ M a → H2 a = some o → H4 a = some o) ∧
        ∀ D ys H2, H1 D = none → I l.length H2 → H2 D = some (.lst ys) → ys.length = l.length → (∀ i y, ys[i]? = some y → E i y H2) → (∀ a o, ¬ M a → H1 a = some o → H2 a = some o) → Q (.ref D) H2)
    (hs : nofold iter X.env := by intro _; rfl) : WE X (.ListComp elt [⟨tg, iter, [], 0⟩] scope pos) σ H Q := by
  refine WE.of (pe_lcB hc hN (pi_str pe_w) ok hs) (WE.mono (fun x H1 hq => ?_) q)
  obtain ⟨l, e, hl, M, I, E, hM, I0, Is, Es, ht, hd⟩ := hq
  refine ⟨S l, e, fun D hD => ?_⟩
  have hsz : (S l).cps.size = l.length := by simp [S]
  refine lc_turns (n := l.length) (G := fun _ => True) (Y := fun i H x H' => H' = H ∧ ∃ c, l[i]? = some c ∧ x = .str (S [c])) (M := M) (I := I) (E := E) (fun i H hi h => by show i < (S l).cps.size; omega) (fun H h => by show (S l).cps.size ≤ l.length; omega) (fun i H x H' _ h hy => ⟨hy.1, by
      obtain ⟨_, c, hc, rfl⟩ := hy
      exact ⟨c, by simpa [S] using hc, rfl⟩⟩) hl hM hD (fun _ _ _ => True.intro) I0 (fun i H o => Is i H D o hD) Es
    (fun i x H2 H2' _ hI hy => ?_) (fun ys H2 h1 h2 h3 h4 h5 => hd D ys H2 hD h1 h2 h3 h4 h5) gB_mono eB_mono
  obtain ⟨rfl, c, hc, rfl⟩ := hy
  exact ht i c H2' hc hI
/-- pure results: the i-th is f of the i-th -/
theorem list_of {α β : Type} {ys : List β} {xs : List α} (f : α → β) (hl : ys.length = xs.length) (h : ∀ (i : Nat) (y : β), ys[i]? = some y → ∃ x, xs[i]? = some x ∧ y = f x) : ys = xs.map f := by
  apply List.ext_getElem?
  intro i
  by_cases hi : i < ys.length
  · obtain ⟨x, hx, hy⟩ := h i _ (List.getElem?_eq_getElem hi)
    rw [List.getElem?_eq_getElem hi, List.getElem?_map, hx, hy]
    rfl
  · rw [List.getElem?_eq_none (by omega), List.getElem?_eq_none (by rw [List.length_map]; omega)]
end
end Wx
namespace Wx
open PySem PySem.Spec PyProof.Rows L2
/-! ### the keys of a dict -/
section
variable {κ : Type} [DecidableEq κ]
theorem keys_any (kvs : List (κ × V)) (k : κ) : (kvs.any fun kv => decide (kv.1 = k)) = decide (k ∈ kvs.map (·.1)) := by
  induction kvs with
  | nil => simp
  | cons p r ih =>
    rw [List.any_cons, ih, List.map_cons]
    by_cases h : p.1 = k
    · simp [h]
    · have : ¬ k = p.1 := fun e => h e.symm
      simp [h, this]
theorem keys_putK (kvs : List (κ × V)) (k : κ) (v : V) : (putK kvs k v).map (·.1) = if k ∈ kvs.map (·.1) then kvs.map (·.1) else kvs.map (·.1) ++ [k] := by
  unfold putK
  rw [keys_any]
  by_cases h : k ∈ kvs.map (·.1)
  · rw [if_pos (decide_eq_true h), if_pos h, List.map_map]
    apply List.map_congr_left
    intro p _
    show (if p.1 = k then (p.1, v) else p).1 = p.1
    split <;> rfl
  · rw [if_neg (by simpa using h), if_neg h, List.map_append]
    rfl
theorem keys_put_nodup {kvs : List (κ × V)} (k : κ) (v : V) (h : (kvs.map (·.1)).Nodup) : ((putK kvs k v).map (·.1)).Nodup := by
  rw [keys_putK]
  split
  · exact h
  · rename_i hn
    rw [List.nodup_append]
    refine ⟨h, by simp, fun a ha b hb => ?_⟩
    rw [List.mem_singleton] at hb
    subst hb
    exact fun e => hn (e ▸ ha)
theorem keys_put_mem {kvs : List (κ × V)} (k j : κ) (v : V) : j ∈ (putK kvs k v).map (·.1) ↔ j ∈ kvs.map (·.1) ∨ j = k := by
  rw [keys_putK]
  split
  · rename_i h
    constructor
    · exact .inl
    · rintro (h2 | rfl)
      · exact h2
      · exact h
  · rw [List.mem_append, List.mem_singleton]
theorem valV_keys {kvs : List (κ × V)} {k : κ} : (valV kvs k).isSome = decide (k ∈ kvs.map (·.1)) := by
  rw [← keys_any, valV_any]
end
section
variable {X : Cx} {σ : L2.St} {H : Hp} {Q : VK} {pos : Pos}
theorem snoc_ind {α : Type} {P : List α → Prop} (h0 : P []) (hs : ∀ l x, P l → P (l ++ [x])) : ∀ l, P l := fun l => by
  have h : ∀ m : List α, P m.reverse := fun m => by
    induction m with
    | nil => exact h0
    | cons x m ih => rw [List.reverse_cons]; exact hs _ _ ih
  have := h l.reverse
  rwa [List.reverse_reverse] at this
def putAll (ps : List (Key × V)) : List (Key × V) := ps.foldl (fun kvs p => putK kvs p.1 p.2) []
theorem putAll_snoc (ps : List (Key × V)) (p : Key × V) : putAll (ps ++ [p]) = putK (putAll ps) p.1 p.2 := by
  unfold putAll
  rw [List.foldl_append]
  rfl
theorem putAll_len (ps : List (Key × V)) : (putAll ps).length ≤ ps.length := by
  refine snoc_ind (P := fun ps => (putAll ps).length ≤ ps.length) (Nat.le_refl _) (fun ps p ih => ?_) ps
  show (putAll (ps ++ [p])).length ≤ (ps ++ [p]).length
  rw [putAll_snoc, List.length_append]
  have := length_putK (putAll ps) p.1 p.2
  simp
  omega
theorem putAll_keys (ps : List (Key × V)) : ((putAll ps).map (·.1)).Nodup ∧ ∀ k, k ∈ (putAll ps).map (·.1) ↔ k ∈ ps.map (·.1) := by
  refine snoc_ind (P := fun ps => ((putAll ps).map (·.1)).Nodup ∧ ∀ k, k ∈ (putAll ps).map (·.1) ↔ k ∈ ps.map (·.1)) ⟨List.nodup_nil, fun k => Iff.rfl⟩ (fun ps p ih => ?_) ps
  rw [putAll_snoc]
  refine ⟨keys_put_nodup _ _ ih.1, fun k => ?_⟩
  rw [keys_put_mem, ih.2, List.map_append, List.mem_append, List.map_singleton, List.mem_singleton]
/-- {key: value for tg in names}, the source's items by a walk J -/
theorem pe_dcB {kx vx tg iter : Expr} {scope : Scope} {own : List (Str × Nat)} {wi : TI} (hc : X.calm = true) (hN : X.N.Nodup) (hi : PI X tg iter wi) (ok : BlkOk X.N X.env.scope scope own) (hs : nofold iter X.env) :
    PE X (.DictComp kx vx [⟨tg, iter, [], 0⟩] scope pos) (tDc wi (gB X scope tg) tYes (eB X scope kx) (eB X scope vx) (own.map (·.2))) :=
  pe_dc hc hN hi ok (fun s H0 C cl fp => ⟨fun pins s' σ H v u Q I r h => pg_w.run pins s' σ H v u Q I r (h s H0 C cl fp)⟩) (fun _ _ _ _ _ => pts_nil) (fun s H0 C cl fp => ⟨fun pins s' σ H Q I h => pe_w.run pins s' σ H Q I (h s H0 C cl fp)⟩)
    (fun s H0 C cl fp => ⟨fun pins s' σ H Q I h => pe_w.run pins s' σ H Q I (h s H0 C cl fp)⟩) hs
/-- over a list or a tuple that the walk reads off; the turns change nothing -/
theorem dc_turns {J : It} {ps : List (Key × V)} {xs : List V} {g : TG} {tk tv : TE} {vs : List Nat} {H1 : Hp} {D : Addr} {Qd : Hp → Prop} (hpl : ps.length = xs.length) (hn : ps.length ≤ 1000000) (hD : H1 D = none)
    (w : ∀ i H, i < xs.length → Ex H1 H → J.go i H) (w2 : ∀ H, Ex H1 H → J.stop xs.length H) (w3 : ∀ i H x H', i < xs.length → Ex H1 H → J.yld i H x H' → H' = H ∧ xs[i]? = some x)
    (hs : ∀ (i : Nat) (x : V) (p : Key × V) (H2 : Hp), xs[i]? = some x → ps[i]? = some p → Ex H1 H2 → g x (wipe σ vs) H2 fun σ2 H3 => wipe σ2 vs = wipe σ vs ∧ tk σ2 H3 fun y H4 => tv σ2 H4 fun z H5 => y = kV p.1 ∧ z = p.2 ∧ Ex H2 H5)
    (hd : ∀ H2, Ex H1 H2 → H2 D = some (.dK (putAll ps)) → Qd H2)
    (mono : ∀ v σ H Q Q', (∀ σ2 H3, Q σ2 H3 → Q' σ2 H3) → g v σ H Q → g v σ H Q') (mono2 : ∀ σ H Q Q', (∀ v H3, Q v H3 → Q' v H3) → tk σ H Q → tk σ H Q') (mono3 : ∀ σ H Q Q', (∀ v H3, Q v H3 → Q' v H3) → tv σ H Q → tv σ H Q') :
    ∃ W : Nat → Nat → Hp → Prop, (∃ m, W 0 m (upd H1 D (.dK []))) ∧ ∀ i m H, W i m H →
      (J.stop i H ∧ Qd H) ∨ (J.go i H ∧ ∃ Nx : Hp → Prop, (∀ H', Nx H' → ∃ m', m' < m ∧ W (i + 1) m' H') ∧ ∀ x H', J.yld i H x H' → g x (wipe σ vs) H' fun σ2 H2 => wipe σ2 vs = wipe σ vs ∧ tYes σ2 H2 fun b H3 =>
        if b = true then tk σ2 H3 fun y H4 => tv σ2 H4 fun z H5 => ∃ kvs k, y = kV k ∧ H5 D = some (.dK kvs) ∧ kvs.length < sizeLine ∧ Nx (upd H5 D (.dK (putK kvs k z))) else Nx H3) := by
  refine ⟨fun i m H2 => i + m = xs.length ∧ Ex H1 H2 ∧ H2 D = some (.dK (putAll (ps.take i))), ⟨xs.length, by omega, Ex.new hD, upd_same⟩, fun i m H2 hW => ?_⟩
  obtain ⟨em, hX, hI⟩ := hW
  by_cases hi : i < xs.length
  · obtain ⟨p, hp⟩ : ∃ p, ps[i]? = some p := ⟨ps[i]'(by omega), List.getElem?_eq_getElem _⟩
    refine .inr ⟨w i H2 hi hX, fun H' => Ex H1 H' ∧ H' D = some (.dK (putAll (ps.take (i + 1)))), fun H' hN => ⟨m - 1, by omega, by omega, hN⟩, fun x H' hy => ?_⟩
    obtain ⟨rfl, hx⟩ := w3 i H2 x H' hi hX hy
    refine mono _ _ _ _ _ (fun σ2 H3 hq => ?_) (hs i x p H' hx hp hX)
    refine ⟨hq.1, ?_⟩
    unfold tYes
    dsimp only
    rw [if_pos rfl]
    refine mono2 _ _ _ _ (fun y H4 hq => ?_) hq.2
    refine mono3 _ _ _ _ (fun z H5 hq => ?_) hq
    obtain ⟨rfl, rfl, e5⟩ := hq
    have hl := putAll_len (ps.take i)
    rw [List.length_take] at hl
    refine ⟨_, p.1, rfl, e5 D _ hI, sz_lt (by omega), (hX.trans e5).mut hD, ?_⟩
    rw [upd_same, List.take_add_one, hp]
    show _ = some (HO.dK (putAll (ps.take i ++ [p])))
    rw [putAll_snoc]
  · have e : i = xs.length := by omega
    subst e
    refine .inl ⟨w2 H2 hX, hd H2 hX ?_⟩
    rw [hI, List.take_of_length_le (by omega)]
theorem we_dcL {kx vx tg iter : Expr} {scope : Scope} {own : List (Str × Nat)} (ok : BlkOk X.N X.env.scope scope own) (hN : X.N.Nodup) (hc : X.calm = true) (q : WE X iter σ H fun x H1 => ∃ (a : Addr) (xs : List V) (ps : List (Key × V)), x = .ref a ∧ SqL X.K H1 a xs ∧ ps.length = xs.length ∧ ps.length ≤ 1000000 ∧
      (∀ (i : Nat) (x : V) (p : Key × V) (H2 : Hp), xs[i]? = some x → ps[i]? = some p → Ex H1 H2 → gB X scope tg x (wipe σ (own.map (·.2))) H2 fun σ2 H3 => wipe σ2 (own.map (·.2)) = wipe σ (own.map (·.2)) ∧ eB X scope kx σ2 H3 fun y H4 => eB X scope vx σ2 H4 fun z H5 => y = kV p.1 ∧ z = p.2 ∧ Ex H2 H5) ∧
      ∀ D H2, H1 D = none → Ex H1 H2 → H2 D = some (.dK (putAll ps)) → Q (.ref D) H2)
    (hs : nofold iter X.env := by intro _; rfl) : WE X (.DictComp kx vx [⟨tg, iter, [], 0⟩] scope pos) σ H Q := by
  refine WE.of (pe_dcB hc hN (pi_list pe_w) ok hs) (WE.mono (fun x H1 hq => ?_) q)
  obtain ⟨a, xs, ps, e, hx, hpl, hl, ht, hd⟩ := hq
  refine ⟨a, e, ⟨xs, hx⟩, fun D hD => ?_⟩
  exact dc_turns (ps := ps) (xs := xs) hpl hl hD (fun i H hi h => ⟨xs, xs[i], h.l hx, List.getElem?_eq_getElem hi⟩) (fun H h => ⟨xs, h.l hx, Nat.le_refl _⟩) (fun i H x H' _ h hy => ⟨hy.1, hy.2 xs (h.l hx)⟩) ht (fun H2 h1 h2 => hd D H2 hD h1 h2) gB_mono eB_mono eB_mono
theorem we_dcT {kx vx tg iter : Expr} {scope : Scope} {own : List (Str × Nat)} (ok : BlkOk X.N X.env.scope scope own) (hN : X.N.Nodup) (hc : X.calm = true) (q : WE X iter σ H fun x H1 => ∃ (a : Addr) (xs : List V) (ps : List (Key × V)), x = .ref a ∧ SqT X.K H1 a xs ∧ ps.length = xs.length ∧ ps.length ≤ 1000000 ∧
      (∀ (i : Nat) (x : V) (p : Key × V) (H2 : Hp), xs[i]? = some x → ps[i]? = some p → Ex H1 H2 → gB X scope tg x (wipe σ (own.map (·.2))) H2 fun σ2 H3 => wipe σ2 (own.map (·.2)) = wipe σ (own.map (·.2)) ∧ eB X scope kx σ2 H3 fun y H4 => eB X scope vx σ2 H4 fun z H5 => y = kV p.1 ∧ z = p.2 ∧ Ex H2 H5) ∧
      ∀ D H2, H1 D = none → Ex H1 H2 → H2 D = some (.dK (putAll ps)) → Q (.ref D) H2)
    (hs : nofold iter X.env := by intro _; rfl) : WE X (.DictComp kx vx [⟨tg, iter, [], 0⟩] scope pos) σ H Q := by
  refine WE.of (pe_dcB hc hN (pi_tup pe_w) ok hs) (WE.mono (fun x H1 hq => ?_) q)
  obtain ⟨a, xs, ps, e, hx, hpl, hl, ht, hd⟩ := hq
  refine ⟨a, e, ⟨xs, hx⟩, fun D hD => ?_⟩
  exact dc_turns (ps := ps) (xs := xs) hpl hl hD (fun i H hi h => ⟨xs, xs[i], h.t hx, List.getElem?_eq_getElem hi⟩) (fun H h => ⟨xs, h.t hx, Nat.le_refl _⟩) (fun i H x H' _ h hy => ⟨hy.1, hy.2 xs (h.t hx)⟩) ht (fun H2 h1 h2 => hd D H2 hD h1 h2) gB_mono eB_mono eB_mono
end
end Wx
namespace Wx
open PySem PySem.Spec PyProof.Rows L2
section
variable {X : Cx} {σ : L2.St} {H : Hp} {Q : VK} {pos : Pos}
theorem kb_tuple_list : kitB "tuple" "list" = some false := by decide +kernel
theorem kb_tuple_tuple : kitB "tuple" "tuple" = some true := by decide +kernel
theorem kb_list_list : kitB "list" "list" = some true := by decide +kernel
theorem kb_bool_int : kitB "bool" "int" = some true := by decide +kernel
theorem kb_bool_bool : kitB "bool" "bool" = some true := by decide +kernel
theorem wc_isiLT_t {a tp : Addr} {xs : List V} (h : H a = some (.tup xs)) (hT : H tp = some (.tup [.ty "list", .ty "tuple"])) (q : Q (.bl true) H) : WC X (.builtin "isinstance") [.ref a, .ref tp] H Q :=
  WC.of call_isiT ⟨.ref a, tp, _, .type "tuple", [.type "list", .type "tuple"], true, rfl, hT, .cons (.ty "list") (.cons (.ty "tuple") .nil), .base (.tup h), kitAny_cons (kit_ty kb_tuple_list) (fun _ => kitAny_cons (kit_ty kb_tuple_tuple) (fun z => nomatch z) (fun _ => rfl)) (fun z => nomatch z), q⟩
theorem wc_isiLT_l {a tp : Addr} {xs : List V} (h : H a = some (.lst xs)) (hT : H tp = some (.tup [.ty "list", .ty "tuple"])) (q : Q (.bl true) H) : WC X (.builtin "isinstance") [.ref a, .ref tp] H Q :=
  WC.of call_isiT ⟨.ref a, tp, _, .type "list", [.type "list", .type "tuple"], true, rfl, hT, .cons (.ty "list") (.cons (.ty "tuple") .nil), .base (.lst h), kitAny_cons (kit_ty kb_list_list) (fun z => nomatch z) (fun _ => rfl), q⟩
end
end Wx
namespace Wx
open PySem PySem.Spec PyProof.Rows L2
theorem strs_of : ∀ {l : List Key}, (∀ k ∈ l, ∃ x, k = Sum.inr x) → ∃ ks : List Str, l = ks.map Sum.inr
  | [], _ => ⟨[], rfl⟩
  | k :: l, h => by
    obtain ⟨x, rfl⟩ := h k List.mem_cons_self
    obtain ⟨ks, e⟩ := strs_of (l := l) fun k hk => h k (List.mem_cons_of_mem _ hk)
    exact ⟨x :: ks, by rw [e]; rfl⟩
theorem nodup_map {α β : Type} {f : α → β} : ∀ {l : List α}, (l.map f).Nodup → l.Nodup
  | [], _ => List.nodup_nil
  | x :: l, h => by
    rw [List.map_cons, List.nodup_cons] at h
    exact List.nodup_cons.mpr ⟨fun hx => h.1 (List.mem_map.mpr ⟨x, hx, rfl⟩), nodup_map h.2⟩
theorem inr_mem {x : Str} {ks : List Str} : (Sum.inr x : Key) ∈ ks.map Sum.inr ↔ x ∈ ks := by
  constructor
  · intro h
    obtain ⟨y, hy, e⟩ := List.mem_map.mp h
    cases e
    exact hy
  · intro h
    exact List.mem_map.mpr ⟨x, h, rfl⟩
/-- a dict of names: its keys -/
def namesD (ns : List Str) : List (Key × V) := putAll (ns.map fun n => ((Sum.inr n : Key), V.bl true))
theorem namesD_keys (ns : List Str) : ∃ ks : List Str, (namesD ns).map (·.1) = ks.map Sum.inr ∧ ks.Nodup ∧ ∀ x, x ∈ ks ↔ x ∈ ns := by
  obtain ⟨kn, km⟩ := putAll_keys (ns.map fun n => ((Sum.inr n : Key), V.bl true))
  have e0 : ∀ x : Str, (Sum.inr x : Key) ∈ (ns.map fun n => ((Sum.inr n : Key), V.bl true)).map (·.1) ↔ x ∈ ns := fun x => by
    rw [List.map_map]
    show (Sum.inr x : Key) ∈ ns.map Sum.inr ↔ _
    exact inr_mem
  obtain ⟨ks, hk⟩ := strs_of (l := (namesD ns).map (·.1)) fun k hk => by
    have := (km k).mp hk
    rw [List.map_map] at this
    obtain ⟨x, _, e⟩ := List.mem_map.mp this
    exact ⟨x, e.symm⟩
  refine ⟨ks, hk, ?_, fun x => ?_⟩
  · have : ((namesD ns).map (·.1)).Nodup := kn
    rw [hk] at this
    exact nodup_map this
  · rw [← e0, ← km]
    show x ∈ ks ↔ (Sum.inr x : Key) ∈ (namesD ns).map (·.1)
    rw [hk]
    exact inr_mem.symm
theorem wc_names {X : Cx} {H : Hp} {D : Addr} {ns : List Str} {Q : VK} (hc : X.calm = true) (hD : H D = some (.dK (namesD ns))) (h64 : ∀ us : List Str, us.Nodup → (∀ x ∈ us, x ∈ ns) → us.length < 64)
    (q : ∀ p (ys : List Str), H p = none → ys.Nodup → (∀ x, x ∈ ys ↔ x ∈ ns) → sortedS ys = true → Q (.ref p) (upd H p (.lst (ys.map V.str)))) : WC X (.builtin "sorted") [.ref D] H Q := by
  obtain ⟨ks, hk, hkn, hkm⟩ := namesD_keys ns
  exact wc_sortedDS hc (.inl hD) hk (h64 ks hkn fun x hx => (hkm x).mp hx) fun ys p hp hs hn => q p ys hn (hp.nodup_iff.mpr hkn) (fun x => hp.mem_iff.trans (hkm x)) hs
end Wx
namespace Wx
open PySem PySem.Spec PyProof.Rows L2
section
variable {X : Cx} {σ : L2.St} {H : Hp} {Q : VK} {pos : Pos}
theorem ws_forR2 {nx : L2.St → Hp → Prop} {rt : VK} {bk ct : L2.St → Hp → Prop} {tg e1 e2 body p p'} (hp : PassesOwn (model X.prog X.w) X.A X.env X.xe) (hc : X.calm = true) (hm : X.mg "range" = none) (q : WE X e1 σ H fun x H0 => WE X e2 σ H0 fun y H1 => ∃ i j : Int, x = .int i ∧ y = .int j ∧ (-(2 ^ 62) ≤ i ∧ i < 2 ^ 62 ∧ -(2 ^ 62) ≤ j ∧ j < 2 ^ 62) ∧ ∃ Pv : Nat → L2.St → Hp → Prop, Pv 0 σ H1 ∧
      (∀ k σ H, k < (j - i).toNat → Pv k σ H → WG X tg (.int (i + k)) σ H fun σ2 H2 => WSs X body ⟨Pv (k + 1), rt, nx, Pv (k + 1)⟩ σ2 H2) ∧ ∀ σ H, Pv (j - i).toNat σ H → nx σ H)
    (hg : Gl X "range" := by rfl) (hse : starEach [e1, e2] X.env = [(false, eval e1 X.env), (false, eval e2 X.env)] := by rfl) (hse2 : starEach [e2] X.env = [(false, eval e2 X.env)] := by rfl) (hs : ∀ x, foldedSetIterable (.Call (.Name "range" p) [e1, e2] [] p') X.env x = pure x := by intro _; rfl) : WS X (.For tg (.Call (.Name "range" p) [e1, e2] [] p') body [] pos) ⟨nx, rt, bk, ct⟩ σ H :=
  WS.of (ps_for hp hc (pi_range2 hg hm (pa_cons pe_w (pa_cons pe_w pa_nil hse2) (by rw [hse, hse2])) hse hse2) pg_w pss_w hs) (WE.mono (fun x H0 h => WE.mono (fun y H1 ⟨i, j, ex, ey, hb, Pv, h0, ht, hd⟩ => ⟨i, j, by rw [ex, ey], hb, for_range (lo := i) (n := (j - i).toNat) Pv h0 ht hd⟩) h) q)
theorem we_extend {o e : Expr} {apos : Pos} (q : WE X o σ H fun x H1 => ∃ l xs, x = .ref l ∧ H1 l = some (.lst xs) ∧ WE X e σ H1 fun y H2 => ∃ b ys zs, y = .ref b ∧ H2 l = some (.lst ys) ∧ H2 b = some (.lst zs) ∧ ys.length + zs.length ≤ 1000000 ∧ Q .non (upd H2 l (.lst (ys ++ zs))))
    (hbase : attributeBase o "extend" X.env (eval o X.env) = eval o X.env := by rfl)
    (hfew : ((backTo pos (starEach [e] X.env)).all (fun x => !x.1) && (backToKw pos (keywordEach [] X.env)).all (fun x => x.1.isSome)
      && decide (([e] : List Expr).length + ([] : List Keyword).length + (if ([] : List Keyword).isEmpty then 0 else 1) < 30)) = true := by rfl)
    (hline : (apos.endLine == pos.line) = true := by rfl) (hs : starEach [e] X.env = (false, eval e X.env) :: starEach [] X.env := by rfl) (hplain : (backTo pos (starEach [] X.env)).any (·.1) = false := by rfl) :
    WE X (.Call (.Attribute o "extend" apos) [e] [] pos) σ H Q :=
  we_bm PySem.F.plainAttrs_list PySem.F.slot_list_extend PySem.F.type_list_extend (WE.mono (fun x H1 ⟨l, xs, ex, hx, q⟩ => ⟨by rw [ex]; exact .inl ⟨rfl, _, sq_of hx⟩, wa_cons (WE.mono (fun y H2 ⟨b, ys, zs, ey, hy, hz, hl, q⟩ => wa_nil (WM.of mt_extend ⟨l, b, ys, zs, ex, by rw [ey], hy, hz, sz_le hl, q⟩)) q) hs⟩) q) hbase hfew hline hs hplain
theorem wix_sq {p : Addr} {xs : List V} {v : V} {k : Nat} (h : SqL X.K H p xs ∨ SqT X.K H p xs) (ha : xs[k]? = some v) (q : Q v H) : WIx X (.ref p) (.int (k : Int)) H Q := by
  rcases h with h | h
  · exact wix_l h (atI_nat ha) q
  · exact wix_t h (atI_nat ha) q
theorem wc_lenSq {p : Addr} {xs : List V} (h : SqL X.K H p xs ∨ SqT X.K H p xs) (q : Q (.int xs.length) H) : WC X (.builtin "len") [.ref p] H Q := WC.of call_len_seq ⟨p, xs, rfl, h, q⟩
theorem Ex.sq {K : PySem.W.Frag} {H H' : Hp} {a : Addr} {xs : List V} (e : Ex H H') (h : SqL K H a xs ∨ SqT K H a xs) : SqL K H' a xs ∨ SqT K H' a xs := h.elim (fun h => .inl (e.l h)) (fun h => .inr (e.t h))
/-- all but x stays -/
def Exo (x : Addr) (H H' : Hp) : Prop := ∀ a o, a ≠ x → H a = some o → H' a = some o
theorem Exo.of {x : Addr} {H H' : Hp} (e : Ex H H') : Exo x H H' := fun a o _ h => e a o h
theorem Exo.trans {x : Addr} {H H1 H2 : Hp} (a : Exo x H H1) (b : Exo x H1 H2) : Exo x H H2 := fun c o hc h => b c o hc (a c o hc h)
theorem Exo.self {x : Addr} {H : Hp} {o : HO} : Exo x H (upd H x o) := fun a u ha h => (upd_ne ha).trans h
theorem nodup_le {α : Type} [DecidableEq α] : ∀ {us L : List α}, us.Nodup → (∀ x ∈ us, x ∈ L) → us.length ≤ L.length
  | [], _, _, _ => Nat.zero_le _
  | u :: us, L, hn, hs => by
    have hm := hs u List.mem_cons_self
    have h2 := nodup_le (us := us) (L := L.erase u) (List.nodup_cons.mp hn).2 fun x hx => by
      have hne : x ≠ u := fun e => (List.nodup_cons.mp hn).1 (e ▸ hx)
      exact (List.mem_erase_of_ne hne).mpr (hs x (List.mem_cons_of_mem _ hx))
    rw [List.length_erase_of_mem hm] at h2
    have := List.length_pos_of_mem hm
    rw [List.length_cons]
    omega
end
end Wx

/-! loops over a dict's items -/
namespace Wx
open PySem PySem.Spec PyProof.Rows L2
section
variable {X : Cx} {σ : L2.St} {H : Hp} {Q : VK} {pos : Pos}
/-- for k, v in d.items(): d is read alone while it runs -/
theorem ws_forItems {nx : L2.St → Hp → Prop} {rt : VK} {bk ct : L2.St → Hp → Prop} {elts : List Expr} {kk : Nat} {tpos apos cpos : Pos} {e : Expr} {body} {d : Addr} {kvs : List (Key × V)} (hp : PassesOwn (model X.prog X.w) X.A X.env X.xe) (hc : X.calm = true) (hd : H d = some (.dK kvs))
    (q : ∀ o, WE X e σ (upd H d (.frz o (.dK kvs))) fun x H1 => x = .ref d ∧ H1 = upd H d (.frz o (.dK kvs)) ∧ ∃ Pv : Nat → L2.St → Hp → Prop, Pv 0 σ H1 ∧ (∀ i σ H, Pv i σ H → H d = some (.frz o (.dK kvs))) ∧
      (∀ i k v t σ H, kvs[i]? = some (k, v) → H t = none → Pv i σ H → WG X (.Tuple elts kk tpos) (.ref t) σ (upd H t (.tup [kV k, v])) fun σ2 H2 => WSs X body ⟨Pv (i + 1), fun u H' => H' d = some (.frz o (.dK kvs)) ∧ rt u (upd H' d (.dK kvs)), fun σ' H' => H' d = some (.frz o (.dK kvs)) ∧ nx σ' (upd H' d (.dK kvs)), Pv (i + 1)⟩ σ2 H2) ∧
      ∀ σ H, Pv kvs.length σ H → nx σ (upd H d (.dK kvs)))
    (hs : ∀ x, foldedSetIterable (.Call (.Attribute e "items" apos) [] [] cpos) X.env x = pure x := by intro _; rfl) (hbase : attributeBase e "items" X.env (eval e X.env) = eval e X.env := by rfl) (hline : (apos.endLine == cpos.line) = true := by rfl) :
    WS X (.For (.Tuple elts kk tpos) (.Call (.Attribute e "items" apos) [] [] cpos) body [] pos) ⟨nx, rt, bk, ct⟩ σ H := by
  refine WS.of (ps_lock (ps_for hp hc (pi_items pe_w hbase hline) pg_w pss_w hs)) ⟨d, _, hd, True.intro, fun o => ?_⟩
  refine WE.mono (fun x H1 hq => ?_) (q o)
  obtain ⟨e1, e2, Pv, h0, hf, ht, hn⟩ := hq
  refine ⟨d, o, kvs, e1, by rw [e2, upd_same], ?_⟩
  refine for_it (walk_items (d := d) (o := o) (kvs := kvs)) Pv h0 (fun i σ H _ h => hf i σ H h) (fun i x σ H H' hi hP hy => ?_) (fun σ H hP => ⟨hf _ _ _ hP, hn _ _ hP⟩)
  obtain ⟨T, y, z, rfl, hT, rfl, hy, hz⟩ := hy
  have hk : kvs[i]? = some (kvs[i].1, kvs[i].2) := List.getElem?_eq_getElem hi
  dsimp only at hy hz
  rw [hk] at hy hz
  cases hy
  cases hz
  exact ht i _ _ T σ H hk hT hP
end
end Wx
namespace Wx
open PySem PySem.Spec PyProof.Rows L2
section
variable {X : Cx} {H : Hp} {Q : VK} {a : Addr} {y v : V} {r : Option V}
theorem wo_din (hu : X.A.units + 1 < cLine) (g : DGet H a y r) (q : Q (.bl r.isSome) H) : WO X (compareOp .In) y (.ref a) H Q := by
  refine WO.of (r := fun x z H Q => ∃ a r, z = .ref a ∧ DGet H a x r ∧ Q (.bl r.isSome) H) (fun pins s σ H x z vv u Q I rx rz h => ?_) ⟨a, r, rfl, g, q⟩
  obtain ⟨a, r, rfl, g, q⟩ := h
  obtain rfl : u = Value.ref a := rz
  exact d_in hu I g rx fun s3 I3 => ⟨.bl r.isSome, H, I3, rfl, q⟩
theorem wo_dnotin (hu : X.A.units + 1 < cLine) (g : DGet H a y r) (q : Q (.bl (!r.isSome)) H) : WO X (compareOp .NotIn) y (.ref a) H Q := by
  refine WO.of (r := fun x z H Q => ∃ a r, z = .ref a ∧ DGet H a x r ∧ Q (.bl (!r.isSome)) H) (fun pins s σ H x z vv u Q I rx rz h => ?_) ⟨a, r, rfl, g, q⟩
  obtain ⟨a, r, rfl, g, q⟩ := h
  obtain rfl : u = Value.ref a := rz
  exact d_notIn hu I g rx fun s3 I3 => ⟨.bl (!r.isSome), H, I3, rfl, q⟩
theorem wset_d {H4 : Hp} {Q : Hp → Prop} (hu : X.A.units + 1 < cLine) (g : DPut H a y v H4) (q : Q H4) : WSet X (.ref a) y v H Q := by
  refine WSet.of (r := fun o i v H Q => ∃ a H4, o = .ref a ∧ DPut H a i v H4 ∧ Q H4) (fun pins s σ H o i v ov iv u Q I r1 r2 r3 h => ?_) ⟨a, H4, rfl, g, q⟩
  obtain ⟨a, H4, rfl, g, q⟩ := h
  obtain rfl : ov = Value.ref a := r1
  exact d_setItem hu I g r2 r3 fun s4 I4 => ⟨H4, I4, q⟩
theorem wix_d (hu : X.A.units + 1 < cLine) (g : DGet H a y (some v)) (q : Q v H) : WIx X (.ref a) y H Q := by
  refine WIx.of (r := fun x y H Q => ∃ a v, x = .ref a ∧ DGet H a y (some v) ∧ Q v H) (fun value slice pins s σ H x y xv yv Q I rx ry h hs => ?_) ⟨a, v, rfl, g, q⟩
  obtain ⟨a, v, rfl, g, q⟩ := h
  obtain rfl : xv = Value.ref a := rx
  have hT := dict_typeIs I g
  have h2 := d_getItem (A := X.A) (E := X.xe) hu I g ry (Q := EP X pins σ Q) fun w' s3 I3 rw' => ⟨v, H, I3, rw', q⟩
  unfold subscriptTail
  refine wpAny_bind ?_
  rw [getitemInPython_of_ne hT.not_modules]
  refine wpAny_bind (wpAny_specialOf hT PySem.F.slot_dict_getitem.lookup ?_)
  have fin : wpAny (model X.prog X.w) X.A (subscripted slice false (.ref a) yv) (fun r s₃ => wpAny (model X.prog X.w) X.A (letTemporaryGo value (.ref a) r >>= fun _ => pure r) (EP X pins σ Q) X.xe s₃) X.xe s := by
    rw [hs]
    exact wpAny_operating (wpAny_mono h2 (fun r s₃ h₃ => wpAny_bind (wpAny_letTemporaryGo (wpAny_pure h₃))) fun _ _ x => x)
  exact wpAny_pure (wpAny_bind fin)
end
end Wx

/-! Ia: a small language of trees; wp, wps: what a text of it does (no model in sight). -/
namespace Ir
inductive Tr where
  | non | bl (b : Bool) | int (i : Int) | str (l : List Nat) | ty (n : String)
  | tup (ts : List Tr) | lst (ts : List Tr) | dic (b : Bool) (kvs : List (Tr × Tr))
  | obj (c : Nat) (fs : List (Nat × Tr)) | ptr (i : Nat) | ktup (ts : List Tr) | scr (ns : List Int)
inductive Cel where
  | gone | lst (ts : List Tr) | lst2 (tss : List (List Tr)) | dic (b : Bool) (kvs : List (Tr × Tr)) | obj (c : Nat) (fs : List (Nat × Tr)) | objW (c : Nat) (fs : List (Nat × Tr)) (kvs : List (Tr × List Tr)) | src (n : Nat)
abbrev Mem := List Cel
abbrev Ev := List (Option Tr)
abbrev EK := Tr → Mem → Prop
abbrev SK := Ev → Mem → Prop
abbrev EX := Tr → Ev → Mem → Prop
abbrev Con := List Tr → Mem → EK → EK → Prop

/-! ### state, in the style of continuations -/
def setK : Ev → Nat → Tr → (Ev → Prop) → Prop
  | [], _, _, _ => False
  | _ :: r, 0, t, k => k (some t :: r)
  | a :: r, n + 1, t, k => setK r n t (fun r => k (a :: r))
def getK : Ev → Nat → (Tr → Prop) → Prop
  | [], _, _ => False
  | a :: _, 0, k => match a with | some t => k t | none => False
  | _ :: r, n + 1, k => getK r n k
def wipe1 : Ev → Nat → Ev
  | [], _ => []
  | _ :: r, 0 => none :: r
  | a :: r, n + 1 => a :: wipe1 r n
def wipeE (ρ : Ev) : List Nat → Ev
  | [] => ρ
  | v :: vs => wipe1 (wipeE ρ vs) v
def celK : Mem → Nat → (Cel → Prop) → Prop
  | [], _, _ => False
  | a :: _, 0, k => k a
  | _ :: r, n + 1, k => celK r n k
def cputK : Mem → Nat → Cel → (Mem → Prop) → Prop
  | [], _, _, _ => False
  | _ :: r, 0, c, k => k (c :: r)
  | a :: r, n + 1, c, k => cputK r n c (fun r => k (a :: r))
def snocK : Mem → Nat → Cel → (Nat → Mem → Prop) → Prop
  | [], n, c, k => k n [c]
  | a :: r, n, c, k => snocK r (n + 1) c (fun i r => k i (a :: r))
/-- a value looked at: what stands behind a pointer -/
def tv (μ : Mem) : Tr → (Tr → Prop) → Prop
  | .ptr i, k => celK μ i fun c => match c with
    | .lst ts => k (.lst ts)
    | .dic b kvs => k (.dic b kvs)
    | _ => False
  | t, k => k t
/-- no pointer stands in the list -/
@[irreducible] def noP : List Tr → Prop → Prop
  | [], P => P
  | t :: ts, P => match t with | .ptr _ => False | _ => noP ts P
/-! ### targets -/
inductive Tg where
  | nm (i : Nat) | nil | cons (a b : Tg)
mutual
def tgK : Tg → Tr → Ev → (Ev → Prop) → Prop
  | .nm i, t, ρ, k => setK ρ i t k
  | .nil, _, _, _ => False
  | .cons a b, t, ρ, k => match t with
    | .tup (x :: xs) => tgK a x ρ fun ρ => tgL b xs ρ k
    | .lst (x :: xs) => tgK a x ρ fun ρ => tgL b xs ρ k
    | _ => False
def tgL : Tg → List Tr → Ev → (Ev → Prop) → Prop
  | .nm _, _, _, _ => False
  | .nil, xs, ρ, k => match xs with | [] => k ρ | _ => False
  | .cons a b, xs, ρ, k => match xs with
    | x :: xs => tgK a x ρ fun ρ => tgL b xs ρ k
    | _ => False
end
/-! ### operations -/
inductive Op | add | sub | mul | fdiv | mod
  deriving DecidableEq
inductive Cm | eq | ne | lt | le | gt | ge | isin | notin | is | isnot
def szK (n : Nat) (P : Prop) : Prop := match Nat.ble n 1000000 with | true => P | false => False
def szF (n : Nat) (P : Prop) : Prop := match Nat.blt n 1000 with | true => P | false => False
theorem szF_le {n : Nat} {P : Prop} (h : szF n P) : n < 1000 ∧ P := by
  unfold szF at h
  cases e : Nat.blt n 1000 with
  | true => rw [e] at h; exact ⟨Nat.le_of_ble_eq_true e, h⟩
  | false => rw [e] at h; exact h.elim
theorem szK_of {n : Nat} {P : Prop} (h : n ≤ 1000000) (p : P) : szK n P := by
  unfold szK
  rw [Nat.ble_eq_true_of_le h]
  exact p
theorem szK_le {n : Nat} {P : Prop} (h : szK n P) : n ≤ 1000000 ∧ P := by
  unfold szK at h
  cases e : Nat.ble n 1000000 with
  | true => rw [e] at h; exact ⟨Nat.le_of_ble_eq_true e, h⟩
  | false => rw [e] at h; exact h.elim
def repL (n : Nat) (l : List Nat) : List Nat := (List.replicate n l).flatten
def opK : Op → Tr → Tr → (Tr → Prop) → Prop
  | .add, .int i, .int j, k => k (.int (i + j))
  | .add, .str a, .str b, k => szK (a.length + b.length) (k (.str (a ++ b)))
  | .add, .tup (x :: a), .tup b, k => szK ((x :: a).length + b.length) (k (.tup ((x :: a) ++ b)))
  | .sub, .int i, .int j, k => k (.int (i - j))
  | .mul, .int i, .int j, k => (-(2 ^ 62) ≤ i ∧ i ≤ 2 ^ 62) ∧ k (.int (i * j))
  | .mul, .str a, .int j, k => 0 ≤ j ∧ szK j.toNat (szK a.length (szK (j.toNat * a.length) (k (.str (repL j.toNat a)))))
  | .mul, .int j, .str a, k => 0 ≤ j ∧ szK j.toNat (szK a.length (szK (j.toNat * a.length) (k (.str (repL j.toNat a)))))
  | .fdiv, .int i, .int j, k => (0 < j ∧ j < 1073741824) ∧ k (.int (i / j))
  | .mod, .int i, .int j, k => 0 < j ∧ k (.int (i % j))
  | _, _, _, _ => False
def okS (l : List Nat) : Bool := l.all fun c => Nat.blt c 55296
/-- flat -/
def isF : Tr → Bool
  | .non => true
  | .bl _ => true
  | .int _ => true
  | .str _ => true
  | _ => false
mutual
/-- data that == looks at, of a depth below n -/
def isD : Nat → Tr → Bool
  | _, .non => true
  | _, .bl _ => true
  | _, .int _ => true
  | _, .str l => okS l
  | n + 1, .tup ts => isDs n ts
  | n + 1, .lst ts => isDs n ts
  | _, _ => false
def isDs : Nat → List Tr → Bool
  | _, [] => true
  | n, t :: ts => isD n t && isDs n ts
end
mutual
/-- == of data -/
def eqT : Tr → Tr → Bool
  | .non, .non => true
  | .bl a, .bl b => decide (a = b)
  | .bl a, .int j => decide ((if a then 1 else 0) = j)
  | .int i, .bl b => decide (i = (if b then 1 else 0))
  | .int i, .int j => decide (i = j)
  | .str a, .str b => decide (a = b)
  | .tup a, .tup b => eqTs a b
  | .lst a, .lst b => eqTs a b
  | _, _ => false
def eqTs : List Tr → List Tr → Bool
  | [], [] => true
  | a :: as, b :: bs => eqT a b && eqTs as bs
  | _, _ => false
end
def eqK : Tr → Tr → (Bool → Prop) → Prop
  | .int i, .int j, k => k (decide (i = j))
  | .str a, .str b, k => k (decide (a = b))
  | a, b, k => (isD 60 a && isD 60 b) = true ∧ k (eqT a b)
/-! dicts -/
def getT : List (Tr × Tr) → Tr → Option Tr
  | [], _ => none
  | (k, v) :: r, x => if eqT k x = true then some v else getT r x
def putT (kvs : List (Tr × Tr)) (x y : Tr) : List (Tr × Tr) :=
  if (kvs.any fun p => eqT p.1 x) = true then kvs.map (fun p => if eqT p.1 x = true then (p.1, y) else p) else kvs ++ [(x, y)]
/-- a key: an int, a text, or a tuple of these -/
def isAt : Tr → Bool
  | .int _ => true
  | .str _ => true
  | _ => false
def isKey : Bool → Tr → Bool
  | false, .int _ => true
  | false, .str _ => true
  | true, .tup ts => ts.all isAt
  | _, _ => false
/-- one sign -/
def sgK : Tr → (Nat → Prop) → Prop
  | .str [c], k => k c
  | _, _ => False
def cmpK : Cm → Tr → Tr → (Tr → Prop) → Prop
  | .eq, a, b, k => eqK a b fun r => k (.bl r)
  | .ne, a, b, k => eqK a b fun r => k (.bl (!r))
  | .lt, .int i, .int j, k => k (.bl (decide (i < j)))
  | .le, .int i, .int j, k => k (.bl (decide (i ≤ j)))
  | .gt, .int i, .int j, k => k (.bl (decide (j < i)))
  | .ge, .int i, .int j, k => k (.bl (decide (j ≤ i)))
  | .lt, .str a, .str b, k => k (.bl (decide (a < b)))
  | .le, .str a, .str b, k => k (.bl (!decide (b < a)))
  | .isin, x, .str l, k => sgK x fun c => k (.bl (decide (c ∈ l)))
  | .notin, x, .str l, k => sgK x fun c => k (.bl (!decide (c ∈ l)))
  | .isin, x, .lst ts, k => ((isF x && ts.all isF) || (isD 60 x && isDs 60 ts)) = true ∧ k (.bl (ts.any fun t => eqT t x))
  | .notin, x, .lst ts, k => ((isF x && ts.all isF) || (isD 60 x && isDs 60 ts)) = true ∧ k (.bl (!ts.any fun t => eqT t x))
  | .isin, x, .tup ts, k => ((isF x && ts.all isF) || (isD 60 x && isDs 60 ts)) = true ∧ k (.bl (ts.any fun t => eqT t x))
  | .notin, x, .tup ts, k => ((isF x && ts.all isF) || (isD 60 x && isDs 60 ts)) = true ∧ k (.bl (!ts.any fun t => eqT t x))
  | .isin, x, .ktup ts, k => (isF x && ts.all isF) = true ∧ k (.bl (ts.any fun t => eqT t x))
  | .notin, x, .ktup ts, k => (isF x && ts.all isF) = true ∧ k (.bl (!ts.any fun t => eqT t x))
  | .isin, x, .dic b kvs, k => isKey b x = true ∧ k (.bl (getT kvs x).isSome)
  | .notin, x, .dic b kvs, k => isKey b x = true ∧ k (.bl (!(getT kvs x).isSome))
  | .is, x, .non, k => match x with | .non => k (.bl true) | .ptr _ => False | _ => k (.bl false)
  | .isnot, x, .non, k => match x with | .non => k (.bl false) | .ptr _ => False | _ => k (.bl true)
  | _, _, _, _ => False
/-- xs[i] -/
def ixT (n : Nat) (i : Int) : Option Nat := if 0 ≤ i then (if i < n then some i.toNat else none) else if -(n : Int) ≤ i then some (i + n).toNat else none
def atT {α : Type} (xs : List α) (i : Int) : Option α := (ixT xs.length i).bind fun j => xs[j]?
def ixK : Tr → Tr → (Tr → Prop) → Prop
  | .lst ts, .int i, k => ∃ t, atT ts i = some t ∧ k t
  | .tup ts, .int i, k => ∃ t, atT ts i = some t ∧ k t
  | .ktup ts, .int i, k => ∃ t, atT ts i = some t ∧ k t
  | .str l, .int i, k => szK l.length (∃ c, atT l i = some c ∧ k (.str [c]))
  | .dic b kvs, x, k => isKey b x = true ∧ ∃ t, getT kvs x = some t ∧ k t
  | _, _, _ => False
/-- the part from lo to hi -/
def bnd (n d : Nat) : Option Int → Nat
  | none => d
  | some v => if v < 0 then (v + (n : Int)).toNat else min v.toNat n
def part {α : Type} (l : List α) (lo hi : Option Int) : List α := (l.drop (bnd l.length 0 lo)).take (bnd l.length l.length hi - bnd l.length 0 lo)
def slK (x : Tr) (l h : Option Int) (k : Tr → Prop) : Prop := match x with
  | .str s => szK s.length (k (.str (part s l h)))
  | .tup ts => ¬ (bnd ts.length 0 l = 0 ∧ bnd ts.length ts.length h = ts.length) ∧ k (.tup (part ts l h))
  | .lst ts => k (.lst (part ts l h))
  | _ => False
def lmin : List Int → Int
  | [] => 0
  | [a] => a
  | a :: b :: r => min a (lmin (b :: r))
def lmax : List Int → Int
  | [] => 0
  | [a] => a
  | a :: b :: r => max a (lmax (b :: r))
/-! ### the language -/
inductive Ty | str | int | bool | list | tuple
inductive Bl | len | int | tuple | list | min2 | max2 | minL | maxL | all | any | str | dict | max3
inductive I where
  | nm (i : Nat) | c (t : Tr) | nil | cons (a b : I) | star (a b : I)
  | tup (a : I) | lst (a : I) | ow (a : I) | mv (i : Nat)
  | op (o : Op) (a b : I) | addL (a b : I) | neg (a : I) | not (a : I)
  | cmp (o : Cm) (a b : I) | chain (o p : Cm) (a b c : I)
  | and (a b : I) | or (a b : I) | ife (c a b : I)
  | ix (a b : I) | sl00 (a : I) | sl10 (a lo : I) | sl01 (a hi : I) | sl11 (a lo hi : I) | rev (a : I) | revS (a : I)
  | call (c : Con) (a : I)
  | blt (f : Bl) (a : I)
  | isi (a : I) (ns : List Ty)
  | fld (d : Nat) (a : I) (f : Nat) | prp (d : Nat) (c : Con) (a : I) | mth (d : Nat) (c : Con) (a b : I) | new (d : Nat) (c : Con) (a : I) | sorted (a : I) | eqO (d : Nat) (c : Con) (neg : Bool) (a b : I)
  | join (a b : I)
  | get2 (d k v : I) | get1 (d k : I)
  | emp (b : Bool)
  | itS (a : I) | rng (a b : I) | enm (s : Int) (a : I) | zip (a b : I) | keys (a : I) | items (a : I)
  | comp (tg : Tg) (own : List Nat) (it c e : I)
  | dcomp (b : Bool) (tg : Tg) (own : List Nat) (it ke ve : I)
  | yes | src (y : Nat)
  | isO (d : Nat) (a : I) | enmS (a : I) | dictP (a : I) | lrng (a : I) | idx (a b : I) | minD (a d : I) | pop (x : Nat)
  | comp2 (tg : Tg) (own : List Nat) (it : I) (tg1 : Tg) (own1 : List Nat) (it1 c e : I)
def compK0 (f : Tr → Mem → (Option Tr → Mem → Prop) → Prop) : List Tr → Mem → (List Tr → Mem → Prop) → Prop
  | [], μ, φ => φ [] μ
  | t :: ts, μ, φ => f t μ fun r μ => match r with
    | some r => compK0 f ts μ fun rs μ => φ (r :: rs) μ
    | none => compK0 f ts μ φ
@[irreducible] def compK (f : Tr → Mem → (Option Tr → Mem → Prop) → Prop) (ts : List Tr) (μ : Mem) (φ : List Tr → Mem → Prop) : Prop := compK0 f ts μ φ
theorem compK_nil {f μ φ} : compK f [] μ φ = φ [] μ := by unfold compK; rfl
theorem compK_cons {f t ts μ φ} : compK f (t :: ts) μ φ = f t μ fun r μ => match r with
    | some r => compK f ts μ fun rs μ => φ (r :: rs) μ
    | none => compK f ts μ φ := by unfold compK; rfl
def dcompK0 (b : Bool) (f : Tr → Mem → (Tr → Tr → Mem → Prop) → Prop) : List Tr → List (Tr × Tr) → Mem → (List (Tr × Tr) → Mem → Prop) → Prop
  | [], kvs, μ, φ => φ kvs μ
  | t :: ts, kvs, μ, φ => f t μ fun x y μ => isKey b x = true ∧ dcompK0 b f ts (putT kvs x y) μ φ
@[irreducible] def dcompK (b : Bool) (f : Tr → Mem → (Tr → Tr → Mem → Prop) → Prop) (ts : List Tr) (kvs : List (Tr × Tr)) (μ : Mem) (φ : List (Tr × Tr) → Mem → Prop) : Prop := dcompK0 b f ts kvs μ φ
theorem dcompK_nil {b f kvs μ φ} : dcompK b f [] kvs μ φ = φ kvs μ := by unfold dcompK; rfl
theorem dcompK_cons {b f t ts kvs μ φ} : dcompK b f (t :: ts) kvs μ φ = f t μ fun x y μ => isKey b x = true ∧ dcompK b f ts (putT kvs x y) μ φ := by unfold dcompK; rfl
/-- two walks, one in the other -/
def comp2K0 (f : Tr → Mem → (List Tr → Mem → Prop) → Prop) : List Tr → Mem → (List Tr → Mem → Prop) → Prop
  | [], μ, φ => φ [] μ
  | t :: ts, μ, φ => f t μ fun r μ => comp2K0 f ts μ fun rs μ => φ (r ++ rs) μ
@[irreducible] def comp2K (f : Tr → Mem → (List Tr → Mem → Prop) → Prop) (ts : List Tr) (μ : Mem) (φ : List Tr → Mem → Prop) : Prop := comp2K0 f ts μ φ
theorem comp2K_nil {f μ φ} : comp2K f [] μ φ = φ [] μ := by unfold comp2K; rfl
theorem comp2K_cons {f t ts μ φ} : comp2K f (t :: ts) μ φ = f t μ fun r μ => comp2K f ts μ fun rs μ => φ (r ++ rs) μ := by unfold comp2K; rfl
/-- where the first one stands -/
def idxK : Tr → Tr → (Tr → Prop) → Prop
  | .lst ts, y, k => (isF y && ts.all isF) = true ∧ ∃ j : Nat, ts.findIdx? (fun t => eqT t y) = some j ∧ k (.int j)
  | .tup ts, y, k => ∃ (ls : List (List Nat)) (l : List Nat), ts = ls.map Tr.str ∧ y = .str l ∧ ∃ j : Nat, ls.findIdx? (fun t => decide (t = l)) = some j ∧ k (.int j)
  | _, _, _ => False
/-! calls: the cells that are handed over -/
def renum : List Tr → Nat → (List Tr → List Nat → Prop) → Prop
  | [], _, k => k [] []
  | .ptr i :: ts, n, k => renum ts (n + 1) fun us is => k (.ptr n :: us) (i :: is)
  | t :: ts, n, k => renum ts n fun us is => k (t :: us) is
def pickK (μ : Mem) : List Nat → (List Cel → Prop) → Prop
  | [], k => k []
  | i :: is, k => celK μ i fun c => pickK μ is fun cs => k (c :: cs)
/-- the cells come back; what is new comes behind -/
def backK : Mem → List Nat → List Cel → (Mem → Prop) → Prop
  | μ, i :: is, c :: cs, k => cputK μ i c fun μ => backK μ is cs k
  | μ, [], [], k => k μ
  | _, _, _, _ => False
def dupF : List Nat → Bool
  | [] => true
  | i :: is => !(is.contains i) && dupF is
@[irreducible] def callK (c : Con) (xs : List Tr) (μ : Mem) (φ ε : EK) : Prop :=
  renum xs 0 fun us is => match is with
    | [] => c us [] (fun t cs => match t, cs with | .ptr _, _ => False | t, [] => φ t μ | _, _ => False) (fun t cs => match t, cs with | .ptr _, _ => False | t, [] => ε t μ | _, _ => False)
    | i :: is => dupF (i :: is) = true ∧ pickK μ (i :: is) fun cs => c us cs (fun t cs => match t with | .ptr _ => False | t => backK μ (i :: is) cs fun μ => φ t μ) (fun t cs => match t with | .ptr _ => False | t => backK μ (i :: is) cs fun μ => ε t μ)
def bltK : Bl → List Tr → (Tr → Prop) → Prop
  | .len, [.lst ts], k => k (.int ts.length)
  | .len, [.tup ts], k => k (.int ts.length)
  | .len, [.str l], k => szK l.length (k (.int l.length))
  | .int, [.int i], k => k (.int i)
  | .int, [.bl b], k => k (.int (if b then 1 else 0))
  | .str, [.str l], k => k (.str l)
  | .tuple, [.lst ts], k => k (.tup ts)
  | .tuple, [.tup ts], k => k (.tup ts)
  | .list, [.lst ts], k => k (.lst ts)
  | .list, [.tup ts], k => k (.lst ts)
  | .min2, [.int i, .int j], k => k (.int (min i j))
  | .max2, [.int i, .int j], k => k (.int (max i j))
  | .max3, [.int i, .int j, .int l], k => k (.int (max (max i j) l))
  | .minL, [.lst ts], k => ∃ ns : List Int, ts = ns.map Tr.int ∧ 0 < ns.length ∧ k (.int (lmin ns))
  | .maxL, [.lst ts], k => ∃ ns : List Int, ts = ns.map Tr.int ∧ 0 < ns.length ∧ k (.int (lmax ns))
  | .all, [.lst ts], k => ∃ bs : List Bool, ts = bs.map Tr.bl ∧ k (.bl (bs.all id))
  | .any, [.lst ts], k => ∃ bs : List Bool, ts = bs.map Tr.bl ∧ k (.bl (bs.any id))
  | _, _, _ => False
def Ty.has : Ty → Tr → Bool
  | .str, .str _ => true
  | .int, .int _ => true
  | .int, .bl _ => true
  | .bool, .bl _ => true
  | .list, .lst _ => true
  | .tuple, .tup _ => true
  | _, _ => false
def isiK (t : Tr) (ns : List Ty) (k : Bool → Prop) : Prop := match t with
  | .dic true _ => False
  | .obj _ _ => False
  | .ty _ => False
  | .ptr _ => False
  | .ktup _ => False
  | .scr _ => False
  | t => k (ns.any fun y => y.has t)
def fldK : List (Nat × Tr) → Nat → (Tr → Prop) → Prop
  | [], _, _ => False
  | (g, t) :: r, f, k => match Nat.beq g f with | true => k t | false => fldK r f k
/-- an object of the class d, by its fields -/
def clsK (μ : Mem) (d : Nat) : Tr → (List (Nat × Tr) → Prop) → Prop
  | .obj e fs, k => (match Nat.beq e d with | true => k fs | false => False)
  | .ptr i, k => celK μ i fun c => match c with | .obj e fs => (match Nat.beq e d with | true => k fs | false => False) | _ => False
  | _, _ => False
/-- .. by its fields alone -/
def clsF (μ : Mem) (d : Nat) : Tr → (List (Nat × Tr) → Prop) → Prop
  | .obj e fs, k => (match Nat.beq e d with | true => k fs | false => False)
  | .ptr i, k => celK μ i fun c => match c with
    | .obj e fs => (match Nat.beq e d with | true => k fs | false => False)
    | .objW e fs _ => (match Nat.beq e d with | true => k fs | false => False)
    | _ => False
  | _, _ => False
/-- an object that was made: its dict of lists, if it has one, comes last -/
def newK : Tr → List Cel → (Tr → Prop) → Prop
  | .non, [.obj e fs], k => k (.obj e fs)
  | .non, [.objW e fs kvs], k => k (.obj e (fs ++ [(4, .dic true (kvs.map fun p => (p.1, .lst p.2)))]))
  | _, _, _ => False
/-- atoms -/
def atmT : Int ⊕ List Nat → Tr
  | .inl i => .int i
  | .inr l => .str l
def lexA : List (Int ⊕ List Nat) → List (Int ⊕ List Nat) → Bool
  | [], _ => true
  | _ :: _, [] => false
  | a :: as, b :: bs => match a, b with
    | .inl i, .inl j => decide (i < j) || (decide (i = j) && lexA as bs)
    | .inr l, .inr m => decide (l < m) || (decide (l = m) && lexA as bs)
    | _, _ => false
/-- sorted: texts, or tuples of one kind -/
def sortL (ts : List Tr) (k : Tr → Prop) : Prop :=
  (∃ ls : List (List Nat), ts = ls.map Tr.str ∧ ∀ rs : List (List Nat), rs.Perm ls → rs.Pairwise (fun a b => ¬ b < a) → k (.lst (rs.map Tr.str))) ∨
  (∃ (ks : List (List (Int ⊕ List Nat))) (pat : List Bool), ts = ks.map (fun k => Tr.tup (k.map atmT)) ∧ pat ≠ [] ∧ (∀ k ∈ ks, k.map Sum.isLeft = pat) ∧ ∀ rs : List (List (Int ⊕ List Nat)), rs.Perm ks → rs.Pairwise (fun a b => lexA a b = true) → k (.lst (rs.map fun k => Tr.tup (k.map atmT))))
def sortK : Tr → (Tr → Prop) → Prop
  | .lst ts, k => sortL ts k
  | .dic b kvs, k => (b = false → kvs.length < 64) ∧ sortL (kvs.map Prod.fst) k
  | _, _ => False
def strsK (ts : List Tr) (k : List (List Nat) → Prop) : Prop := ∃ ls : List (List Nat), ts = ls.map Tr.str ∧ k ls
def sqLT : Tr → (List Tr → Prop) → Prop
  | .lst ts, k => k ts
  | .tup ts, k => k ts
  | _, _ => False
/-- the items that a walk gives out -/
def seqK : Tr → (List Tr → Prop) → Prop
  | .lst ts, k => k ts
  | .tup ts, k => k ts
  | .str l, k => k (l.map fun c => .str [c])
  | _, _ => False
def rngL (lo hi : Int) : List Tr := (List.range (hi - lo).toNat).map fun i => Tr.int (lo + (i : Nat))
def enmL : Int → List Tr → List Tr
  | _, [] => []
  | n, t :: ts => .tup [.int n, t] :: enmL (n + 1) ts
def zipL : List Tr → List Tr → List Tr
  | a :: as, b :: bs => .tup [a, b] :: zipL as bs
  | _, _ => []
def joinL (s : List Nat) : List (List Nat) → List Nat
  | [] => []
  | [a] => a
  | a :: b :: r => a ++ s ++ joinL s (b :: r)
def wp : I → Ev → Mem → EK → EK → Prop
  | .nm i, ρ, μ, φ, _ => getK ρ i fun t => φ t μ
  | .c t, _, μ, φ, _ => φ t μ
  | .yes, _, μ, φ, _ => φ (.bl true) μ
  | .nil, _, μ, φ, _ => φ (.tup []) μ
  | .src y, ρ, μ, φ, _ => getK ρ y fun t => match t with
    | .scr _ => snocK μ 0 (.src 0) fun i μ => φ (.ptr i) μ
    | _ => False
  | .cons a b, ρ, μ, φ, ε => wp a ρ μ (fun x μ => wp b ρ μ (fun y μ => match y with | .tup xs => φ (.tup (x :: xs)) μ | _ => False) ε) ε
  | .star a b, ρ, μ, φ, ε => wp a ρ μ (fun x μ => tv μ x fun x => sqLT x fun zs => wp b ρ μ (fun y μ => match y with | .tup xs => szK (zs.length + xs.length) (φ (.tup (zs ++ xs)) μ) | _ => False) ε) ε
  | .tup a, ρ, μ, φ, ε => wp a ρ μ (fun y μ => match y with | .tup xs => szK xs.length (noP xs (φ (.tup xs) μ)) | _ => False) ε
  | .lst a, ρ, μ, φ, ε => wp a ρ μ (fun y μ => match y with | .tup xs => szK xs.length (noP xs (φ (.lst xs) μ)) | _ => False) ε
  | .ow a, ρ, μ, φ, ε => wp a ρ μ (fun y μ => match y with
    | .lst ts => snocK μ 0 (.lst ts) fun i μ => φ (.ptr i) μ
    | .dic b kvs => snocK μ 0 (.dic b kvs) fun i μ => φ (.ptr i) μ
    | _ => False) ε
  | .mv i, ρ, μ, φ, _ => getK ρ i fun t => match t with
    | .ptr a => celK μ a fun c => match c with
      | .lst ts => cputK μ a .gone fun μ => φ (.lst ts) μ
      | .lst2 tss => cputK μ a .gone fun μ => φ (.lst (tss.map .lst)) μ
      | .dic b kvs => cputK μ a .gone fun μ => φ (.dic b kvs) μ
      | .obj c fs => cputK μ a .gone fun μ => φ (.obj c fs) μ
      | _ => False
    | _ => False
  | .op o a b, ρ, μ, φ, ε => wp a ρ μ (fun x μ => wp b ρ μ (fun y μ => opK o x y fun t => φ t μ) ε) ε
  | .addL a b, ρ, μ, φ, ε => wp a ρ μ (fun x μ => wp b ρ μ (fun y μ => tv μ x fun x => tv μ y fun y => match x, y with | .lst a, .lst b => szK (a.length + b.length) (φ (.lst (a ++ b)) μ) | _, _ => False) ε) ε
  | .neg a, ρ, μ, φ, ε => wp a ρ μ (fun x μ => match x with | .int i => φ (.int (-i)) μ | _ => False) ε
  | .not a, ρ, μ, φ, ε => wp a ρ μ (fun x μ => match x with | .bl b => φ (.bl (!b)) μ | _ => False) ε
  | .cmp o a b, ρ, μ, φ, ε => wp a ρ μ (fun x μ => wp b ρ μ (fun y μ => tv μ x fun x => tv μ y fun y => cmpK o x y fun t => φ t μ) ε) ε
  | .chain o p a b c, ρ, μ, φ, ε => wp a ρ μ (fun x μ => wp b ρ μ (fun y μ => cmpK o x y fun t => match t with
      | .bl true => wp c ρ μ (fun z μ => cmpK p y z fun t => φ t μ) ε
      | .bl false => φ (.bl false) μ
      | _ => False) ε) ε
  | .and a b, ρ, μ, φ, ε => wp a ρ μ (fun x μ => match x with | .bl true => wp b ρ μ φ ε | .bl false => φ (.bl false) μ | _ => False) ε
  | .or a b, ρ, μ, φ, ε => wp a ρ μ (fun x μ => match x with | .bl true => φ (.bl true) μ | .bl false => wp b ρ μ φ ε | _ => False) ε
  | .ife c a b, ρ, μ, φ, ε => wp c ρ μ (fun x μ => match x with | .bl true => wp a ρ μ φ ε | .bl false => wp b ρ μ φ ε | _ => False) ε
  | .ix a b, ρ, μ, φ, ε => wp a ρ μ (fun x μ => wp b ρ μ (fun y μ => tv μ x fun x => ixK x y fun t => φ t μ) ε) ε
  | .sl00 a, ρ, μ, φ, ε => wp a ρ μ (fun x μ => tv μ x fun x => slK x none none fun t => φ t μ) ε
  | .sl10 a lo, ρ, μ, φ, ε => wp a ρ μ (fun x μ => wp lo ρ μ (fun l μ => match l with | .int i => tv μ x fun x => slK x (some i) none fun t => φ t μ | _ => False) ε) ε
  | .sl01 a hi, ρ, μ, φ, ε => wp a ρ μ (fun x μ => wp hi ρ μ (fun l μ => match l with | .int i => tv μ x fun x => slK x none (some i) fun t => φ t μ | _ => False) ε) ε
  | .sl11 a lo hi, ρ, μ, φ, ε => wp a ρ μ (fun x μ => wp lo ρ μ (fun l μ => match l with | .int i => wp hi ρ μ (fun h μ => match h with | .int j => tv μ x fun x => slK x (some i) (some j) fun t => φ t μ | _ => False) ε | _ => False) ε) ε
  | .rev a, ρ, μ, φ, ε => wp a ρ μ (fun x μ => tv μ x fun x => match x with
      | .lst ts => φ (.lst ts.reverse) μ
      | _ => False) ε
  | .revS a, ρ, μ, φ, ε => wp a ρ μ (fun x μ => match x with
      | .str s => szK s.length (φ (.str s.reverse) μ)
      | _ => False) ε
  | .call c a, ρ, μ, φ, ε => wp a ρ μ (fun y μ => match y with | .tup xs => callK c xs μ φ ε | _ => False) ε
  | .blt f a, ρ, μ, φ, ε => wp a ρ μ (fun y μ => match y with
      | .tup [x] => tv μ x fun x => bltK f [x] fun t => φ t μ
      | .tup xs => bltK f xs fun t => φ t μ
      | _ => False) ε
  | .isi a ns, ρ, μ, φ, ε => wp a ρ μ (fun x μ => tv μ x fun x => isiK x ns fun b => φ (.bl b) μ) ε
  | .fld d a f, ρ, μ, φ, ε => wp a ρ μ (fun x μ => clsF μ d x fun fs => fldK fs f fun t => φ t μ) ε
  | .prp d c a, ρ, μ, φ, ε => wp a ρ μ (fun x μ => clsK μ d x fun _ => callK c [x] μ φ (fun _ _ => False)) ε
  | .mth d c a b, ρ, μ, φ, ε => wp a ρ μ (fun x μ => clsK μ d x fun _ => wp b ρ μ (fun y μ => match y with | .tup xs => callK c (x :: xs) μ φ ε | _ => False) ε) ε
  | .new d c a, ρ, μ, φ, ε => wp a ρ μ (fun y μ => match y with | .tup xs => noP xs (c (.ptr 0 :: xs) [.obj d []] (fun t cs => newK t cs fun o => φ o μ) (fun t _ => ε t μ)) | _ => False) ε
  | .sorted a, ρ, μ, φ, ε => wp a ρ μ (fun x μ => tv μ x fun x => sortK x fun t => φ t μ) ε
  | .eqO d c neg a b, ρ, μ, φ, ε => wp a ρ μ (fun x μ => wp b ρ μ (fun y μ => clsK μ d x fun _ => clsK μ d y fun _ => callK c [x, y] μ (fun t μ => match t with | .bl r => φ (.bl (if neg then !r else r)) μ | _ => False) (fun _ _ => False)) ε) ε
  | .join a b, ρ, μ, φ, ε => wp a ρ μ (fun x μ => match x with
      | .str s => wp b ρ μ (fun y μ => tv μ y fun y => sqLT y fun ts => strsK ts fun ls => szK ((ls.map (·.length)).sum + ls.length * s.length) (φ (.str (joinL s ls)) μ)) ε
      | _ => False) ε
  | .get2 d k v, ρ, μ, φ, ε => wp d ρ μ (fun d μ => tv μ d fun d0 => match d0 with
      | .dic _ _ => wp k ρ μ (fun x μ => wp v ρ μ (fun y μ => tv μ d fun d => match d with
        | .dic b kvs => isKey b x = true ∧ φ ((getT kvs x).getD y) μ
        | _ => False) ε) ε
      | _ => False) ε
  | .get1 d k, ρ, μ, φ, ε => wp d ρ μ (fun d μ => tv μ d fun d0 => match d0 with
      | .dic _ _ => wp k ρ μ (fun x μ => tv μ d fun d => match d with
        | .dic b kvs => isKey b x = true ∧ φ ((getT kvs x).getD .non) μ
        | _ => False) ε
      | _ => False) ε
  | .emp b, _, μ, φ, _ => φ (.dic b []) μ
  | .itS a, ρ, μ, φ, ε => wp a ρ μ (fun x μ => seqK x fun ts => φ (.tup ts) μ) ε
  | .rng a b, ρ, μ, φ, ε => wp a ρ μ (fun x μ => wp b ρ μ (fun y μ => match x, y with
      | .int i, .int j => (-(2 ^ 62) ≤ i ∧ i < 2 ^ 62 ∧ -(2 ^ 62) ≤ j ∧ j < 2 ^ 62) ∧ φ (.tup (rngL i j)) μ
      | _, _ => False) ε) ε
  | .enm s a, ρ, μ, φ, ε => wp a ρ μ (fun x μ => match x with | .lst ts => φ (.tup (enmL s ts)) μ | _ => False) ε
  | .zip a b, ρ, μ, φ, ε => wp a ρ μ (fun x μ => wp b ρ μ (fun y μ => match x, y with | .lst ts, .lst us => φ (.tup (zipL ts us)) μ | _, _ => False) ε) ε
  | .keys a, ρ, μ, φ, ε => wp a ρ μ (fun x μ => match x with | .dic b kvs => φ (.tup (kvs.map Prod.fst)) μ | _ => False) ε
  | .items a, ρ, μ, φ, ε => wp a ρ μ (fun x μ => match x with | .dic b kvs => φ (.tup (kvs.map fun p => .tup [p.1, p.2])) μ | _ => False) ε
  | .comp tg own it c e, ρ, μ, φ, ε => wp it ρ μ (fun y μ => match y with
      | .tup ts => szK ts.length (compK (fun t μ k => tgK tg t (wipeE ρ own) fun ρ => wp c ρ μ (fun b μ => match b with
          | .bl true => wp e ρ μ (fun r μ => match r with | .ptr _ => False | r => k (some r) μ) (fun _ _ => False)
          | .bl false => k none μ
          | _ => False) (fun _ _ => False)) ts μ fun rs μ => φ (.lst rs) μ)
      | _ => False) ε
  | .dcomp b tg own it ke ve, ρ, μ, φ, ε => wp it ρ μ (fun y μ => match y with
      | .tup ts => szK ts.length (dcompK b (fun t μ k => tgK tg t (wipeE ρ own) fun ρ => wp ke ρ μ (fun x μ => wp ve ρ μ (fun y μ => match y with | .ptr _ => False | y => k x y μ) (fun _ _ => False)) (fun _ _ => False)) ts [] μ fun kvs μ => φ (.dic b kvs) μ)
      | _ => False) ε
  | .isO d a, ρ, μ, φ, ε => wp a ρ μ (fun x μ => clsK μ d x fun _ => φ (.bl true) μ) ε
  | .enmS a, ρ, μ, φ, ε => wp a ρ μ (fun x μ => match x with | .str l => φ (.tup (enmL 0 (l.map fun c => .str [c]))) μ | _ => False) ε
  | .dictP a, ρ, μ, φ, ε => wp a ρ μ (fun x μ => tv μ x fun x => match x with
      | .lst ts => ∃ kvs : List (Tr × Tr), ts = kvs.map (fun p => .tup [p.1, p.2]) ∧ (∀ p ∈ kvs, isKey false p.1 = true) ∧ φ (.dic false (kvs.foldl (fun d p => putT d p.1 p.2) [])) μ
      | _ => False) ε
  | .lrng a, ρ, μ, φ, ε => wp a ρ μ (fun x μ => match x with | .int n => (0 ≤ n ∧ n ≤ 1000000) ∧ φ (.lst (rngL 0 n)) μ | _ => False) ε
  | .idx a b, ρ, μ, φ, ε => wp a ρ μ (fun x μ => wp b ρ μ (fun y μ => tv μ x fun x => idxK x y fun t => φ t μ) ε) ε
  | .minD a d, ρ, μ, φ, ε => wp a ρ μ (fun x μ => wp d ρ μ (fun y μ => tv μ x fun x => match x with
      | .lst ts => ∃ ns : List Int, ts = ns.map Tr.int ∧ (match ns with | [] => φ y μ | n :: r => φ (.int (lmin (n :: r))) μ)
      | _ => False) ε) ε
  | .pop x, ρ, μ, φ, _ => getK ρ x fun t => match t with
    | .ptr a => celK μ a fun c => match c with
      | .lst ts => ∃ us u, ts = us ++ [u] ∧ cputK μ a (.lst us) fun μ => φ u μ
      | _ => False
    | _ => False
  | .comp2 tg own it tg1 own1 it1 c e, ρ, μ, φ, ε => wp it ρ μ (fun y μ => match y with
      | .tup ts => szF ts.length (comp2K (fun t μ k => tgK tg t (wipeE ρ own) fun ρ => wp it1 ρ μ (fun y μ => match y with
          | .tup us => szF us.length (compK (fun u μ k => tgK tg1 u (wipeE ρ own1) fun ρ => wp c ρ μ (fun b μ => match b with
            | .bl true => wp e ρ μ (fun r μ => match r with | .ptr _ => False | r => k (some r) μ) (fun _ _ => False)
            | .bl false => k none μ
            | _ => False) (fun _ _ => False)) us μ fun rs μ => k rs μ)
          | _ => False) (fun _ _ => False)) ts μ fun rs μ => φ (.lst rs) μ)
      | _ => False) ε
/-! ### statements -/
inductive Sm where
  | skip | seq (a b : Sm) | asg (tg : Tg) (e : I) | ex (e : I)
  | ite (c : I) (a b : Sm) | ret (e : I) | brk | cnt | bad
  | for (tg : Tg) (it : I) (b : Sm) | whl (c : I) (b : Sm)
  | app (x : Nat) (e : I) | ext (x : Nat) (e : I) | seti (x : Nat) (i e : I) | setf (x d f : Nat) (e : I) | ways0 (x d : Nat) | waysA (x d k1 k2 v1 v2 : Nat) | forI (g : Tg) (x : Nat) (b : Sm) | augI (x : Nat) (o : Op) (e : I) | par (is : List Nat) (a : I) | clr (x : Nat) | rvs (x : Nat) | unpO (i : Nat) (g : Tg) (c : Con) (a : I)
  | rse (d f : Nat) (e : I) | rs0 (d : Nat) | tryX (b : Sm) (i : Nat) (hs : List (Nat × Tr × Option (Nat × Nat)))
def forK0 (f : Tr → Ev → Mem → SK → Prop) : List Tr → Ev → Mem → SK → Prop
  | [], ρ, μ, k => k ρ μ
  | t :: ts, ρ, μ, k => f t ρ μ fun ρ μ => forK0 f ts ρ μ k
@[irreducible] def forK (f : Tr → Ev → Mem → SK → Prop) (ts : List Tr) (ρ : Ev) (μ : Mem) (k : SK) : Prop := forK0 f ts ρ μ k
theorem forK_nil {f ρ μ k} : forK f [] ρ μ k = k ρ μ := by unfold forK; rfl
theorem forK_cons {f t ts ρ μ k} : forK f (t :: ts) ρ μ k = f t ρ μ fun ρ μ => forK f ts ρ μ k := by unfold forK; rfl
def setsK : Ev → List Nat → List Tr → (Ev → Prop) → Prop
  | ρ, [], [], k => k ρ
  | ρ, i :: is, t :: ts, k => setK ρ i t fun ρ => setsK ρ is ts k
  | _, _, _, _ => False
def putN (f : Nat) (t : Tr) : List (Nat × Tr) → List (Nat × Tr)
  | [] => [(f, t)]
  | (g, u) :: r => match Nat.beq g f with | true => (g, t) :: r | false => (g, u) :: putN f t r
def hasN (f : Nat) : List (Nat × Tr) → Bool
  | [] => false
  | (g, _) :: r => match Nat.beq g f with | true => true | false => hasN f r
def addW (kvs : List (Tr × List Tr)) (k v : Tr) : List (Tr × List Tr) :=
  if (kvs.any fun p => eqT p.1 k) = true then kvs.map (fun p => if eqT p.1 k = true then (p.1, p.2 ++ [v]) else p) else kvs ++ [(k, [v])]
/-- what the except clauses give a name for an error of the class c with the fields fs: a constant, or a pair of it and a field (the clause's name, in the slot j, is gone behind it) -/
def hdK : List (Nat × Tr × Option (Nat × Nat)) → Nat → List (Nat × Tr) → Ev → (Tr → Ev → Prop) → Prop
  | [], _, _, _, _ => False
  | (d, t, o) :: r, c, fs, ρ, k => match Nat.beq c d with
    | true => (match o with
      | none => k t ρ
      | some (j, f) => fldK fs f fun x => k (.tup [t, x]) (wipe1 ρ j))
    | false => hdK r c fs ρ k
def wps : Sm → SK → EK → SK → SK → EX → Ev → Mem → Prop
  | .skip, nx, rt, bk, ct, ε, ρ, μ => nx ρ μ
  | .seq a b, nx, rt, bk, ct, ε, ρ, μ => wps a (fun ρ μ => wps b nx rt bk ct ε ρ μ) rt bk ct ε ρ μ
  | .asg tg e, nx, rt, bk, ct, ε, ρ, μ => wp e ρ μ (fun t μ => tgK tg t ρ fun ρ => nx ρ μ) (fun t μ => ε t ρ μ)
  | .ex e, nx, rt, bk, ct, ε, ρ, μ => wp e ρ μ (fun t μ => nx ρ μ) (fun t μ => ε t ρ μ)
  | .ite c a b, nx, rt, bk, ct, ε, ρ, μ => wp c ρ μ (fun x μ => match x with | .bl true => wps a nx rt bk ct ε ρ μ | .bl false => wps b nx rt bk ct ε ρ μ | _ => False) (fun t μ => ε t ρ μ)
  | .ret e, nx, rt, bk, ct, ε, ρ, μ => wp e ρ μ rt (fun t μ => ε t ρ μ)
  | .brk, nx, rt, bk, ct, ε, ρ, μ => bk ρ μ
  | .cnt, nx, rt, bk, ct, ε, ρ, μ => ct ρ μ
  | .bad, nx, rt, bk, ct, ε, ρ, μ => False
  | .for tg it b, nx, rt, bk, ct, ε, ρ, μ => wp it ρ μ (fun y μ => match y with
      | .tup ts => forK (fun t ρ μ k => tgK tg t ρ fun ρ => wps b k rt nx k ε ρ μ) ts ρ μ nx
      | _ => False) (fun t μ => ε t ρ μ)
  | .whl c b, nx, rt, bk, ct, ε, ρ, μ => ∃ (P : Ev → Mem → Prop) (m : Ev → Mem → Nat), P ρ μ ∧ ∀ ρ μ, P ρ μ → wp c ρ μ (fun x μ' => match x with
      | .bl true => wps b (fun ρ' μ'' => P ρ' μ'' ∧ m ρ' μ'' < m ρ μ) rt nx (fun ρ' μ'' => P ρ' μ'' ∧ m ρ' μ'' < m ρ μ) ε ρ μ'
      | .bl false => nx ρ μ'
      | _ => False) (fun t μ => ε t ρ μ)
  | .app x e, nx, rt, bk, ct, ε, ρ, μ => getK ρ x fun p => match p with
      | .ptr a => celK μ a fun c => match c with
        | .lst _ => wp e ρ μ (fun t μ => match t with | .ptr _ => False | t => celK μ a fun c => match c with
          | .lst ts => szK (ts.length + 1) (cputK μ a (.lst (ts ++ [t])) fun μ => nx ρ μ)
          | _ => False) (fun t μ => ε t ρ μ)
        | _ => False
      | _ => False
  | .ext x e, nx, rt, bk, ct, ε, ρ, μ => getK ρ x fun p => match p with
      | .ptr a => celK μ a fun c => match c with
        | .lst _ => wp e ρ μ (fun t μ => match t with
          | .lst us => celK μ a fun c => match c with
            | .lst ts => szK (ts.length + us.length) (cputK μ a (.lst (ts ++ us)) fun μ => nx ρ μ)
            | _ => False
          | _ => False) (fun t μ => ε t ρ μ)
        | _ => False
      | _ => False
  | .seti x i e, nx, rt, bk, ct, ε, ρ, μ => wp e ρ μ (fun t μ => match t with | .ptr _ => False | t => getK ρ x fun p => match p with
      | .ptr a => wp i ρ μ (fun y μ => celK μ a fun c => match c with
        | .lst ts => (match y with | .int i => ∃ n, ixT ts.length i = some n ∧ cputK μ a (.lst (ts.set n t)) fun μ => nx ρ μ | _ => False)
        | .dic b kvs => isKey b y = true ∧ szK (kvs.length + 1) (cputK μ a (.dic b (putT kvs y t)) fun μ => nx ρ μ)
        | _ => False) (fun t μ => ε t ρ μ)
      | _ => False) (fun t μ => ε t ρ μ)
  | .setf x d f e, nx, rt, bk, ct, ε, ρ, μ => wp e ρ μ (fun t μ => match t with | .ptr _ => False | t => getK ρ x fun p => match p with
      | .ptr a => celK μ a fun c => match c with
        | .obj e fs => (match Nat.beq e d with | true => szF fs.length (cputK μ a (.obj e (putN f t fs)) fun μ => nx ρ μ) | false => False)
        | _ => False
      | _ => False) (fun t μ => ε t ρ μ)
  | .ways0 x d, nx, rt, bk, ct, ε, ρ, μ => getK ρ x fun p => match p with
      | .ptr a => celK μ a fun c => match c with
        | .obj e fs => (match Nat.beq e d with | true => (match hasN 4 fs with | false => szF fs.length (cputK μ a (.objW e fs []) fun μ => nx ρ μ) | true => False) | false => False)
        | _ => False
      | _ => False
  | .waysA x d k1 k2 v1 v2, nx, rt, bk, ct, ε, ρ, μ => getK ρ x fun p => match p with
      | .ptr a => celK μ a fun c => match c with
        | .objW e fs kvs => (match Nat.beq e d with
            | true => getK ρ k1 fun k1 => getK ρ k2 fun k2 => getK ρ v1 fun v1 => getK ρ v2 fun v2 =>
              (match isKey true (.tup [k1, k2]) with
              | true => noP [v1, v2] (szK (kvs.length + 1) ((∀ ts, (Tr.tup [k1, k2], ts) ∈ kvs → ts.length < 1000000) ∧ cputK μ a (.objW e fs (addW kvs (.tup [k1, k2]) (.tup [v1, v2]))) fun μ => nx ρ μ))
              | false => False)
            | false => False)
        | _ => False
      | _ => False
  | .forI g x b, nx, rt, bk, ct, ε, ρ, μ => getK ρ x fun y => match y with
      | .dic false kvs => forK (fun t ρ μ k => tgK g t ρ fun ρ => wps b k rt nx k (fun _ _ _ => False) ρ μ) (kvs.map fun p => .tup [p.1, p.2]) ρ μ nx
      | _ => False
  | .augI x o e, nx, rt, bk, ct, ε, ρ, μ => getK ρ x fun v => match v with
      | .int i => wp e ρ μ (fun y μ => match y with | .int j => setK ρ x (.int (if o = .add then i + j else i - j)) fun ρ => nx ρ μ | _ => False) (fun t μ => ε t ρ μ)
      | _ => False
  | .clr x, nx, rt, bk, ct, ε, ρ, μ => getK ρ x fun p => match p with
      | .ptr a => celK μ a fun c => match c with
        | .lst _ => cputK μ a (.lst []) fun μ => nx ρ μ
        | _ => False
      | _ => False
  | .rvs x, nx, rt, bk, ct, ε, ρ, μ => getK ρ x fun p => match p with
      | .ptr a => celK μ a fun c => match c with
        | .lst ts => cputK μ a (.lst ts.reverse) fun μ => nx ρ μ
        | _ => False
      | _ => False
  | .unpO i g c a, nx, rt, bk, ct, ε, ρ, μ => wp a ρ μ (fun y μ => match y with
      | .tup xs => noP xs (c xs [] (fun t _ => match t with
        | .tup (.lst ts :: rest) => snocK μ 0 (.lst ts) fun p μ => setK ρ i (.ptr p) fun ρ => tgL g rest ρ fun ρ => nx ρ μ
        | _ => False) (fun _ _ => False))
      | _ => False) (fun t μ => ε t ρ μ)
  | .rse d f e, nx, rt, bk, ct, ε, ρ, μ => wp e ρ μ (fun t μ => match t with | .ptr _ => False | t => ε (.obj d [(f, t)]) ρ μ) (fun t μ => ε t ρ μ)
  | .rs0 d, nx, rt, bk, ct, ε, ρ, μ => ε (.obj d []) ρ μ
  | .tryX b i hs, nx, rt, bk, ct, ε, ρ, μ => wps b nx rt bk ct (fun t ρ μ => match t with
      | .obj c fs => hdK hs c fs ρ (fun r ρ => setK ρ i r fun ρ => nx ρ μ)
      | _ => False) ρ μ
  | .par is a, nx, rt, bk, ct, ε, ρ, μ => wp a ρ μ (fun y μ => match y with | .tup xs => setsK ρ is xs fun ρ => nx ρ μ | _ => False) (fun t μ => ε t ρ μ)
/-- a def's body: the cells that were handed over are given back, its own ones are dropped -/
def wpB (b : Sm) (n : Nat) (ts : List Tr) (μ : Mem) (φ ε : EK) : Prop :=
  wps b (fun _ μ' => φ .non (μ'.take μ.length)) (fun t μ' => match t with | .ptr _ => False | t => φ t (μ'.take μ.length)) (fun _ _ => False) (fun _ _ => False) (fun t _ μ' => match t with | .ptr _ => False | t => ε t (μ'.take μ.length)) (ts.map some ++ List.replicate n none) μ
/-- the members of a tuple that is handed over: the first one is a list of the def's own -/
def ownK (xs : List Tr) (μ : Mem) (φ : EK) : Prop := match xs with
  | .ptr i :: rest => szK (rest.length + 1) (noP rest (celK μ i fun c => match c with | .lst ts => φ (.tup (.lst ts :: rest)) [] | _ => False))
  | _ => False
/-- .. and such a def -/
def wpO (b : Sm) (a : I) (n : Nat) (ts : List Tr) (φ : EK) : Prop :=
  wps b (fun ρ μ => wp a ρ μ (fun y μ => match y with | .tup xs => ownK xs μ φ | _ => False) (fun _ _ => False)) (fun _ _ => False) (fun _ _ => False) (fun _ _ => False) (fun _ _ _ => False) (ts.map some ++ List.replicate n none) []
end Ir

/-! Ib: trees and the heap. -/
namespace Is
open PySem PySem.Spec PyProof.Rows L2 Wx
open Ir (Tr Cel Mem Ev EK SK Con Tg Op Cm I Sm wp wps)

structure Bs where
  K : PySem.W.Frag
  cl : Nat → Addr

def TupAt (K : PySem.W.Frag) (H : Hp) (a : Addr) (xs : List V) : Prop := H a = some (.tup xs)
def KupAt (K : PySem.W.Frag) (a : Addr) (xs : List V) : Prop :=
  ∃ (o : Obj) (its : Array Value) (n : Nat), K.lookup a = some o ∧ o.cls = .type "tuple" ∧ o.data = .seq its n ∧ its.size ≤ sizeLine ∧ Vals xs its.toList
def LstAt (K : PySem.W.Frag) (H : Hp) (a : Addr) (xs : List V) : Prop := H a = some (.lst xs)
def ScrAt (K : PySem.W.Frag) (F : Hp) (a : Addr) (xs : List V) : Prop := F a = some (.lst xs) ∨
    ∃ (o : Obj) (its : Array Value) (n : Nat), K.lookup a = some o ∧ o.cls = .type "list" ∧ o.dict = none ∧ o.data = .seq its n ∧ its.size ≤ sizeLine ∧ Vals xs its.toList
theorem ScrAt.mono {K : PySem.W.Frag} {F F' : Hp} {a : Addr} {xs : List V} (e : Ex F F') (h : ScrAt K F a xs) : ScrAt K F' a xs := by
  rcases h with h | h
  · exact .inl (e _ _ h)
  · exact .inr h
theorem TupAt.sq {K H a xs} (h : TupAt K H a xs) : SqT K H a xs := .inl (.inl h)
theorem KupAt.sq {K H a xs} (h : KupAt K a xs) : SqT K H a xs := .inr h
theorem TupAt.mono {K H H' a xs} (e : TEx H H') (h : TupAt K H a xs) : TupAt K H' a xs := e _ _ h
theorem LstAt.mono {K F F' a xs} (e : Ex F F') (h : LstAt K F a xs) : LstAt K F' a xs := e _ _ h
def kTr : Key → Tr
  | .inl i => .int i
  | .inr x => .str x.cps.toList
def kTs (k : List Key) : Tr := .tup (k.map kTr)
def fname : Nat → Str
  | 0 => "own_arrows"
  | 1 => "own_starts"
  | 2 => "own_ends"
  | 3 => "own_states"
  | 4 => "ways"
  | 5 => "own_ranks"
  | 6 => "ranks"
  | 7 => "most"
  | 8 => "own_machine"
  | 9 => "letters_read"
  | 10 => "steps"
  | 11 => "machines"
  | 12 => "found"
  | 13 => "waiting"
  | 14 => "last_ones"
  | 15 => "line"
  | 16 => "state"
  | 17 => "count"
  | 18 => "row"
  | 19 => "arrow"
  | 20 => "number"
  | 21 => "place"
  | 22 => "part"
  | _ => ""
def fN (p : Nat × Tr) : Str := fname p.1
theorem fname_inj : ∀ a < 23, ∀ b < 23, fname a = fname b → a = b := by decide +kernel
theorem fname_big (a : Nat) (h : 23 ≤ a) : fname a = "" := by
  match a, h with
  | a + 23, _ => rfl
theorem fname_ne : ∀ a < 23, fname a ≠ "" := by decide +kernel
theorem fname_eq {a f : Nat} (hf : f < 23) (h : fname a = fname f) : a = f := by
  by_cases ha : a < 23
  · exact fname_inj a ha f hf h
  · rw [fname_big a (by omega)] at h
    exact absurd h.symm (fname_ne f hf)

mutual
inductive Rv (B : Bs) (H F : Hp) : V → Tr → Prop
  | non : Rv B H F .non .non
  | bl (b : Bool) : Rv B H F (.bl b) (.bl b)
  | int (i : Int) : Rv B H F (.int i) (.int i)
  | str (l : List Nat) : Rv B H F (.str (S l)) (.str l)
  | ty (n : String) : Rv B H F (.ty n) (.ty n)
  | tup {a vs ts} : TupAt B.K H a vs → Rvs B H F vs ts → Rv B H F (.ref a) (.tup ts)
  | kup {a vs ts} : KupAt B.K a vs → Rvs B H F vs ts → Rv B H F (.ref a) (.ktup ts)
  | scr {a} {ns : List Int} : ScrAt B.K F a (ns.map V.int) → Rv B H F (.ref a) (.scr ns)
  | lst {a vs ts} : LstAt B.K F a vs → Rvs B H F vs ts → Rv B H F (.ref a) (.lst ts)
  | dK {a us kvs} : F a = some (.dK us) → us.map (fun p => kTr p.1) = kvs.map Prod.fst → Rvs B H F (us.map Prod.snd) (kvs.map Prod.snd) → Rv B H F (.ref a) (.dic false kvs)
  | dT {a us kvs} : F a = some (.dT us) → us.map (fun p => kTs p.1) = kvs.map Prod.fst → Rvs B H F (us.map Prod.snd) (kvs.map Prod.snd) → Rv B H F (.ref a) (.dic true kvs)
  | obj {a c dx fvs fs} : F a = some (.ins (B.cl c) dx fvs) → F dx = some (.own a) → fvs.map Prod.fst = fs.map fN → Rvs B H F (fvs.map Prod.snd) (fs.map Prod.snd) → Rv B H F (.ref a) (.obj c fs)
inductive Rvs (B : Bs) (H F : Hp) : List V → List Tr → Prop
  | nil : Rvs B H F [] []
  | cons {v vs t ts} : Rv B H F v t → Rvs B H F vs ts → Rvs B H F (v :: vs) (t :: ts)
end
mutual
theorem Rv.mono {B H F H' F'} (e : TEx H H') (f : Ex F F') : ∀ {v t}, Rv B H F v t → Rv B H' F' v t
  | _, _, .non => .non
  | _, _, .bl b => .bl b
  | _, _, .int i => .int i
  | _, _, .str l => .str l
  | _, _, .ty n => .ty n
  | _, _, .tup h hs => .tup (h.mono e) (Rvs.mono e f hs)
  | _, _, .kup h hs => .kup h (Rvs.mono e f hs)
  | _, _, .scr h => .scr (h.mono f)
  | _, _, .lst h hs => .lst (h.mono f) (Rvs.mono e f hs)
  | _, _, .dK h k hs => .dK (f _ _ h) k (Rvs.mono e f hs)
  | _, _, .dT h k hs => .dT (f _ _ h) k (Rvs.mono e f hs)
  | _, _, .obj h h2 k hs => .obj (f _ _ h) (f _ _ h2) k (Rvs.mono e f hs)
theorem Rvs.mono {B H F H' F'} (e : TEx H H') (f : Ex F F') : ∀ {v t}, Rvs B H F v t → Rvs B H' F' v t
  | _, _, .nil => .nil
  | _, _, .cons h hs => .cons (Rv.mono e f h) (Rvs.mono e f hs)
end
section
variable {B : Bs} {H F : Hp}
theorem Rvs.length : ∀ {vs ts}, Rvs B H F vs ts → vs.length = ts.length
  | _, _, .nil => rfl
  | _, _, .cons _ hs => by rw [List.length_cons, List.length_cons, hs.length]
theorem Rvs.get : ∀ {vs ts} {i : Nat} {v : V}, Rvs B H F vs ts → vs[i]? = some v → ∃ t, ts[i]? = some t ∧ Rv B H F v t
  | _, _, _, _, .nil, h => by simp at h
  | _, _, 0, _, .cons h _, e => by simp at e; subst e; exact ⟨_, rfl, h⟩
  | _, _, i + 1, v, .cons _ hs, e => by
    obtain ⟨d, a, b⟩ := Rvs.get (i := i) (v := v) hs (by simpa using e)
    exact ⟨d, by simpa using a, b⟩
theorem Rvs.get' : ∀ {vs ts} {i : Nat} {t : Tr}, Rvs B H F vs ts → ts[i]? = some t → ∃ v, vs[i]? = some v ∧ Rv B H F v t
  | _, _, _, _, .nil, h => by simp at h
  | _, _, 0, _, .cons h _, e => by simp at e; subst e; exact ⟨_, rfl, h⟩
  | _, _, i + 1, v, .cons _ hs, e => by
    obtain ⟨d, a, b⟩ := Rvs.get' (i := i) (t := v) hs (by simpa using e)
    exact ⟨d, by simpa using a, b⟩
theorem Rvs.app : ∀ {vs ws ts us}, Rvs B H F vs ts → Rvs B H F ws us → Rvs B H F (vs ++ ws) (ts ++ us)
  | _, _, _, _, .nil, h => h
  | _, _, _, _, .cons a b, h => .cons a (Rvs.app b h)
theorem Rvs.set {v t} (h : Rv B H F v t) : ∀ {vs ts} (i : Nat), Rvs B H F vs ts → Rvs B H F (vs.set i v) (ts.set i t)
  | _, _, _, .nil => .nil
  | _, _, 0, .cons _ b => .cons h b
  | _, _, i + 1, .cons a b => .cons a (Rvs.set h i b)
theorem Rvs.take : ∀ {vs ts} (i : Nat), Rvs B H F vs ts → Rvs B H F (vs.take i) (ts.take i)
  | _, _, 0, _ => .nil
  | _, _, _ + 1, .nil => .nil
  | _, _, i + 1, .cons a b => .cons a (Rvs.take i b)
theorem Rvs.drop : ∀ {vs ts} (i : Nat), Rvs B H F vs ts → Rvs B H F (vs.drop i) (ts.drop i)
  | _, _, 0, h => h
  | _, _, _ + 1, .nil => .nil
  | _, _, i + 1, .cons a b => Rvs.drop i b
theorem Rvs.rev : ∀ {vs ts}, Rvs B H F vs ts → Rvs B H F vs.reverse ts.reverse
  | _, _, .nil => .nil
  | _, _, .cons a b => by
    rw [List.reverse_cons, List.reverse_cons]
    exact Rvs.app (Rvs.rev b) (.cons a .nil)
theorem Rvs.strs : ∀ (ls : List (List Nat)), Rvs B H F (ls.map fun l => V.str (S l)) (ls.map Tr.str)
  | [] => .nil
  | l :: ls => .cons (.str l) (Rvs.strs ls)
theorem Rvs.strs_eq : ∀ {ls : List (List Nat)} {vs}, Rvs B H F vs (ls.map Tr.str) → vs = ls.map fun l => V.str (S l)
  | [], _, .nil => rfl
  | l :: ls, _, .cons h hs => by
    cases h
    rw [Rvs.strs_eq hs] <;> rfl
theorem Rvs.ints_eq : ∀ {ls : List Int} {vs}, Rvs B H F vs (ls.map Tr.int) → vs = ls.map V.int
  | [], _, .nil => rfl
  | l :: ls, _, .cons h hs => by
    cases h
    rw [Rvs.ints_eq hs] <;> rfl
theorem Rvs.bls_eq : ∀ {ls : List Bool} {vs}, Rvs B H F vs (ls.map Tr.bl) → vs = ls.map V.bl
  | [], _, .nil => rfl
  | l :: ls, _, .cons h hs => by
    cases h
    rw [Rvs.bls_eq hs] <;> rfl
theorem Rv.noptr {v : V} {i : Nat} (h : Rv B H F v (.ptr i)) : False := by cases h
end

/-! ### the world -/
structure Wd where
  A : List Addr
  O : List (List Addr)
  G : Hp
  F : Hp
  H : Hp
/-- how the world goes on: G (what others own) stays; F (frozen) grows; what is G's alone is not frozen; the cells keep their places -/
structure Go (W W' : Wd) : Prop where
  g : Ex W.G W'.G
  f : Ex W.F W'.F
  t : TEx W.H W'.H
  n : ∀ a, W.G a ≠ none → W.F a = none → W'.F a = none
  p : ∀ (i : Nat) a, W.A[i]? = some a → W'.A[i]? = some a
theorem Go.refl {W : Wd} : Go W W := ⟨Ex.refl _, Ex.refl _, TEx.refl _, fun _ _ h => h, fun _ _ h => h⟩
theorem Ex.ne {H H' : Hp} {a : Addr} (e : Ex H H') (h : H a ≠ none) : H' a ≠ none := by
  cases q : H a with
  | none => exact absurd q h
  | some o => rw [e _ _ q]; exact fun z => nomatch z
theorem Go.trans {W W1 W2 : Wd} (a : Go W W1) (b : Go W1 W2) : Go W W2 :=
  ⟨a.g.trans b.g, a.f.trans b.f, a.t.trans b.t, fun x h h' => b.n x (Ex.ne a.g h) (a.n x h h'), fun i x h => b.p i x (a.p i x h)⟩
/-- a cell in memory: a its place, fp all that it owns -/
def Rc (B : Bs) (H F : Hp) (a : Addr) (fp : List Addr) : Cel → Prop
  | .gone => fp = []
  | .lst ts => fp = [a] ∧ ∃ vs, H a = some (.lst vs) ∧ Rvs B H F vs ts
  | .lst2 tss => ∃ bs : List Addr, fp = a :: bs ∧ H a = some (.lst (bs.map V.ref)) ∧ bs.length = tss.length ∧ ∀ (i : Nat) b ts, bs[i]? = some b → tss[i]? = some ts → ∃ vs, H b = some (.lst vs) ∧ Rvs B H F vs ts
  | .dic false kvs => fp = [a] ∧ ∃ us, H a = some (.dK us) ∧ us.map (fun p => kTr p.1) = kvs.map Prod.fst ∧ Rvs B H F (us.map Prod.snd) (kvs.map Prod.snd)
  | .dic true kvs => fp = [a] ∧ ∃ us, H a = some (.dT us) ∧ us.map (fun p => kTs p.1) = kvs.map Prod.fst ∧ Rvs B H F (us.map Prod.snd) (kvs.map Prod.snd)
  | .obj c fs => ∃ dx fvs, fp = [a, dx] ∧ H a = some (.ins (B.cl c) dx fvs) ∧ H dx = some (.own a) ∧ fvs.map Prod.fst = fs.map fN ∧ Rvs B H F (fvs.map Prod.snd) (fs.map Prod.snd)
  | .objW c fs kvs => ∃ (dx wd : Addr) (fvs : List (Str × V)) (us : List (List Key × V)) (bs : List Addr), fp = a :: dx :: wd :: bs ∧ H a = some (.ins (B.cl c) dx (fvs ++ [(fname 4, .ref wd)])) ∧ H dx = some (.own a) ∧ fvs.map Prod.fst = fs.map fN ∧ Rvs B H F (fvs.map Prod.snd) (fs.map Prod.snd) ∧
      H wd = some (.dT us) ∧ us.map (fun p => kTs p.1) = kvs.map Prod.fst ∧ us.map Prod.snd = bs.map V.ref ∧ Ir.hasN 4 fs = false ∧ (us.map Prod.fst).Nodup ∧ ∀ (i : Nat) b ts, bs[i]? = some b → (kvs.map Prod.snd)[i]? = some ts → ∃ vs, H b = some (.lst vs) ∧ Rvs B H F vs ts
  | .src n => fp = [a] ∧ Src H a n
/-- a value by its tree, at the top a pointer too -/
def Rp (B : Bs) (W : Wd) (v : V) (t : Tr) : Prop := Rv B W.H W.F v t ∨ ∃ i a, t = .ptr i ∧ v = .ref a ∧ W.A[i]? = some a
inductive Rps (B : Bs) (W : Wd) : List V → List Tr → Prop
  | nil : Rps B W [] []
  | cons {v vs t ts} : Rp B W v t → Rps B W vs ts → Rps B W (v :: vs) (t :: ts)
def frzb : HO → Bool
  | .ins .. => false
  | .own .. => false
  | .tup .. => false
  | _ => true
structure Sa (B : Bs) (W : Wd) (σ : L2.St) (ρ : Ev) (μ : Mem) : Prop where
  gh : Ex W.G W.H
  fg : ∀ a o, W.F a = some o → W.G a = some o ∨ ((∃ b, W.G a = some (.frz b o)) ∧ frzb o = true)
  env : ∀ (i : Nat) (t : Tr), ρ[i]? = some (some t) → ∃ v, σ[i]? = some (some v) ∧ Rp B W v t
  lA : W.A.length = μ.length
  lO : W.O.length = μ.length
  mem : ∀ (i : Nat) c, μ[i]? = some c → ∃ a fp, W.A[i]? = some a ∧ W.O[i]? = some fp ∧ Rc B W.H W.F a fp c
  nd : W.O.flatten.Nodup
  own : ∀ x ∈ W.O.flatten, W.G x = none ∧ W.H x ≠ none
  ln : ρ.length = σ.length
section
variable {B : Bs} {W W' : Wd} {σ σ' : L2.St} {ρ ρ' : Ev} {μ : Mem}
theorem Rp.go {v t} (g : Go W W') (r : Rp B W v t) : Rp B W' v t := by
  rcases r with r | ⟨i, a, h1, h2, h3⟩
  · exact .inl (r.mono g.t g.f)
  · exact .inr ⟨i, a, h1, h2, g.p i a h3⟩
/-- the same, whatever others do -/
structure GoF (W W' : Wd) : Prop where
  f : Ex W.F W'.F
  t : TEx W.H W'.H
  p : ∀ (i : Nat) a, W.A[i]? = some a → W'.A[i]? = some a
theorem Go.gf (g : Go W W') : GoF W W' := ⟨g.f, g.t, g.p⟩
theorem GoF.refl : GoF W W := Go.refl.gf
theorem GoF.trans {W1 W2 W3 : Wd} (a : GoF W1 W2) (b : GoF W2 W3) : GoF W1 W3 := ⟨a.f.trans b.f, a.t.trans b.t, fun i x h => b.p i x (a.p i x h)⟩
theorem Rp.goF {v t} (g : GoF W W') (r : Rp B W v t) : Rp B W' v t := by
  rcases r with h | ⟨i, a, rfl, rfl, h⟩
  · exact .inl (h.mono g.t g.f)
  · exact .inr ⟨i, a, rfl, rfl, g.p i a h⟩
theorem Rps.go {vs ts} (g : Go W W') (r : Rps B W vs ts) : Rps B W' vs ts := by
  induction r with
  | nil => exact .nil
  | cons h _ ih => exact .cons (h.go g) ih
theorem Rp.rv {v t} (r : Rp B W v t) (h : ∀ i, t ≠ .ptr i) : Rv B W.H W.F v t := by
  rcases r with r | ⟨i, a, h1, _⟩
  · exact r
  · exact absurd h1 (h i)
theorem Rp.ptr {v i} (r : Rp B W v (.ptr i)) : ∃ a, v = .ref a ∧ W.A[i]? = some a := by
  rcases r with r | ⟨j, a, h1, h2, h3⟩
  · exact r.noptr.elim
  · cases h1; exact ⟨a, h2, h3⟩
theorem Rps.length {vs ts} (r : Rps B W vs ts) : vs.length = ts.length := by
  induction r with
  | nil => rfl
  | cons _ _ ih => rw [List.length_cons, List.length_cons, ih]
theorem Rps.of {vs ts} (r : Rvs B W.H W.F vs ts) : Rps B W vs ts := by
  induction ts generalizing vs with
  | nil => cases r; exact .nil
  | cons t ts ih => cases r with | cons a b => exact .cons (.inl a) (ih b)
theorem Rps.rvs {vs ts} (r : Rps B W vs ts) {P : Prop} (h : Ir.noP ts P) : Rvs B W.H W.F vs ts ∧ P := by
  induction r with
  | nil => unfold Ir.noP at h; exact ⟨.nil, h⟩
  | cons a b ih =>
    rename_i v vs t ts
    have hn : ∀ i, t ≠ .ptr i := fun i e => by subst e; unfold Ir.noP at h; exact h
    have h' : Ir.noP ts P := by
      unfold Ir.noP at h
      split at h
      · exact h.elim
      · exact h
    exact ⟨.cons (a.rv hn) (ih h').1, (ih h').2⟩
theorem Sa.fh {a o} (S : Sa B W σ ρ μ) (h : W.F a = some o) : Rd W.H a o := (S.fg a o h).elim (fun h => .inl (S.gh _ _ h)) (fun ⟨⟨b, h⟩, _⟩ => .inr ⟨b, S.gh _ _ h⟩)
theorem Sa.fx {a o} (S : Sa B W σ ρ μ) (h : W.F a = some o) (hb : frzb o = false) : W.H a = some o := (S.fg a o h).elim (fun h => S.gh _ _ h) (fun ⟨_, h⟩ => by rw [hb] at h; cases h)
theorem Sa.scr {a xs} (S : Sa B W σ ρ μ) (h : ScrAt B.K W.F a xs) : SqL B.K W.H a xs := by
  rcases h with h | h
  · exact .inl (S.fh h)
  · exact .inr h
theorem Sa.lst {a xs} (S : Sa B W σ ρ μ) (h : LstAt B.K W.F a xs) : SqL B.K W.H a xs := .inl (S.fh h)
theorem Sa.sub (S : Sa B W σ ρ μ) (hl : ρ'.length = σ'.length) (h : ∀ (i : Nat) t, ρ'[i]? = some (some t) → ∃ v, σ'[i]? = some (some v) ∧ Rp B W v t) : Sa B W σ' ρ' μ := ⟨S.gh, S.fg, h, S.lA, S.lO, S.mem, S.nd, S.own, hl⟩
theorem Sa.nil (S : Sa B W σ ρ μ) : Sa B W [] [] μ := S.sub rfl fun i t h => by simp at h
theorem Sa.env' (S : Sa B W σ ρ μ) (S' : Sa B W' [] [] μ') (g : Go W W') : Sa B W' σ ρ μ' := S'.sub S.ln fun i t h => by
  obtain ⟨v, h1, h2⟩ := S.env i t h
  exact ⟨v, h1, h2.go g⟩
theorem Sa.envF (S : Sa B W σ ρ μ) (S' : Sa B W' [] [] μ') (g : GoF W W') : Sa B W' σ ρ μ' := S'.sub S.ln fun i t h => by
  obtain ⟨v, h1, h2⟩ := S.env i t h
  exact ⟨v, h1, h2.goF g⟩
theorem Sa.gnone (S : Sa B W σ ρ μ) {a} (h : W.H a = none) : W.G a = none := S.gh.fresh h
theorem Sa.fnone (S : Sa B W σ ρ μ) {a} (h : W.G a = none) : W.F a = none := by
  cases q : W.F a with
  | none => rfl
  | some o => rcases S.fg a o q with h1 | ⟨⟨b, h1⟩, _⟩ <;> (rw [h] at h1; cases h1)
theorem Sa.onone (S : Sa B W σ ρ μ) {a} (h : W.H a = none) : a ∉ W.O.flatten := fun hm => (S.own a hm).2 h
/-- a cell leans on its own objects alone -/
theorem Rc.frame {H F H' F' : Hp} {a fp c} (r : Rc B H F a fp c) (h : ∀ x ∈ fp, H' x = H x) (t : TEx H H') (f : Ex F F') : Rc B H' F' a fp c := by
  cases c with
  | gone => exact r
  | lst ts =>
    obtain ⟨rfl, vs, h1, h2⟩ := r
    exact ⟨rfl, vs, (h a (by simp)).trans h1, h2.mono t f⟩
  | lst2 tss =>
    obtain ⟨bs, rfl, h1, h2, h3⟩ := r
    refine ⟨bs, rfl, (h a (by simp)).trans h1, h2, fun i b ts hb ht => ?_⟩
    obtain ⟨vs, h4, h5⟩ := h3 i b ts hb ht
    exact ⟨vs, (h b (List.mem_cons_of_mem _ (List.mem_of_getElem? hb))).trans h4, h5.mono t f⟩
  | dic b kvs =>
    cases b with
    | false =>
      obtain ⟨rfl, us, h1, h2, h3⟩ := r
      exact ⟨rfl, us, (h a (by simp)).trans h1, h2, h3.mono t f⟩
    | true =>
      obtain ⟨rfl, us, h1, h2, h3⟩ := r
      exact ⟨rfl, us, (h a (by simp)).trans h1, h2, h3.mono t f⟩
  | obj c fs =>
    obtain ⟨dx, fvs, rfl, h1, h2, h3, h4⟩ := r
    exact ⟨dx, fvs, rfl, (h a (by simp)).trans h1, (h dx (by simp)).trans h2, h3, h4.mono t f⟩
  | objW c fs kvs =>
    obtain ⟨dx, wd, fvs, us, bs, rfl, h1, h2, h3, h4, h5, h6, h7, h9, h10, h8⟩ := r
    refine ⟨dx, wd, fvs, us, bs, rfl, (h a (by simp)).trans h1, (h dx (by simp)).trans h2, h3, h4.mono t f, (h wd (by simp)).trans h5, h6, h7, h9, h10, fun i b ts hb ht => ?_⟩
    obtain ⟨vs, q1, q2⟩ := h8 i b ts hb ht
    exact ⟨vs, (h b (by simp [List.mem_of_getElem? hb])).trans q1, q2.mono t f⟩
  | src n =>
    obtain ⟨rfl, g, s, c, h1, h2⟩ := r
    exact ⟨rfl, g, s, c, (h a (by simp)).trans h1, h2⟩
/-- the heap changes outside of all that is known -/
theorem Sa.heap (S : Sa B W σ ρ μ) {H' : Hp} (g : Ex W.G H') (o : ∀ x ∈ W.O.flatten, H' x = W.H x) (t : TEx W.H H') : Go W { W with H := H' } ∧ Sa B { W with H := H' } σ ρ μ := by
  have gg : Go W { W with H := H' } := ⟨Ex.refl _, Ex.refl _, t, fun _ _ h => h, fun _ _ h => h⟩
  refine ⟨gg, ⟨g, S.fg, fun i u hi => ?_, S.lA, S.lO, fun i c hc => ?_, S.nd, fun x hx => ?_, S.ln⟩⟩
  · obtain ⟨v, h1, h2⟩ := S.env i u hi
    exact ⟨v, h1, h2.go gg⟩
  · obtain ⟨a, fp, h1, h2, h3⟩ := S.mem i c hc
    exact ⟨a, fp, h1, h2, h3.frame (fun x hx => o x (List.mem_flatten.mpr ⟨fp, List.mem_of_getElem? h2, hx⟩)) t (Ex.refl _)⟩
  · exact ⟨(S.own x hx).1, by rw [show ({ W with H := H' } : Wd).H x = W.H x from o x hx]; exact (S.own x hx).2⟩
theorem Sa.fresh (S : Sa B W σ ρ μ) {a o} (h : W.H a = none) : Go W { W with H := upd W.H a o } ∧ Sa B { W with H := upd W.H a o } σ ρ μ :=
  S.heap (S.gh.trans (Ex.new h)) (fun x hx => upd_ne fun e => S.onone h (e ▸ hx)) (tex_new h)
/-- what stands outside becomes frozen -/
theorem Sa.newF (S : Sa B W σ ρ μ) {a o} (h : W.H a = none) : Go W { W with G := upd W.G a o, F := upd W.F a o, H := upd W.H a o } ∧ Sa B { W with G := upd W.G a o, F := upd W.F a o, H := upd W.H a o } σ ρ μ := by
  obtain ⟨g, S1⟩ := S.fresh (o := o) h
  have hg := S.gnone h
  have hf := S.fnone hg
  have eF : Ex W.F (upd W.F a o) := Ex.new hf
  have g2 : Go { W with H := upd W.H a o } { W with G := upd W.G a o, F := upd W.F a o, H := upd W.H a o } := ⟨Ex.new hg, eF, TEx.refl _, fun b h1 h2 => (upd_ne (fun e => by subst e; exact h1 hg)).trans h2, fun _ _ h => h⟩
  refine ⟨g.trans g2, ⟨fun b u hb => ?_, fun b u hb => ?_, fun i u hi => ?_, S.lA, S.lO, fun i c hc => ?_, S.nd, fun x hx => ?_, S.ln⟩⟩
  · by_cases e : b = a
    · subst e
      exact (upd_same.trans (upd_same.symm.trans hb))
    · exact S1.gh b u ((upd_ne e).symm.trans hb)
  · by_cases e : b = a
    · subst e
      exact .inl (upd_same.trans (upd_same.symm.trans hb))
    · have hb' : W.F b = some u := (upd_ne e).symm.trans hb
      rcases S.fg b u hb' with h1 | ⟨⟨d, h1⟩, h2⟩
      · exact .inl ((upd_ne e).trans h1)
      · exact .inr ⟨⟨d, (upd_ne e).trans h1⟩, h2⟩
  · obtain ⟨v, h1, h2⟩ := S1.env i u hi
    exact ⟨v, h1, h2.go g2⟩
  · obtain ⟨b, fp, h1, h2, h3⟩ := S1.mem i c hc
    exact ⟨b, fp, h1, h2, h3.frame (fun _ _ => rfl) (TEx.refl _) eF⟩
  · have hx' : x ≠ a := fun e => S.onone h (e ▸ hx)
    exact ⟨(upd_ne hx').trans (S.own x hx).1, (S1.own x hx).2⟩
end
end Is

/-! Ic: cells; views; judgements. -/
namespace Is
open PySem PySem.Spec PyProof.Rows L2 Wx
open Ir (Tr Cel Mem Ev EK SK Con Tg Op Cm I Sm wp wps)
section
variable {B : Bs} {W W' : Wd} {σ σ' : L2.St} {ρ ρ' : Ev} {μ : Mem}
theorem flat_get {O : List (List Addr)} {i : Nat} {fp : List Addr} (h : O[i]? = some fp) {x} (hx : x ∈ fp) : x ∈ O.flatten := List.mem_flatten.mpr ⟨fp, List.mem_of_getElem? h, hx⟩
/-- two cells stand apart -/
theorem nd_apart : ∀ {O : List (List Addr)} {i j : Nat} {fp fq : List Addr} {x : Addr}, O.flatten.Nodup → O[i]? = some fp → O[j]? = some fq → x ∈ fp → x ∈ fq → i = j
  | [], i, j, fp, fq, x, _, h, _, _, _ => by simp at h
  | o :: O, i, j, fp, fq, x, nd, hi, hj, hx, hy => by
    rw [List.flatten_cons, List.nodup_append] at nd
    obtain ⟨n1, n2, n3⟩ := nd
    match i, j with
    | 0, 0 => rfl
    | 0, j + 1 =>
      simp at hi hj; subst hi
      exact absurd rfl (n3 x hx x (flat_get hj hy))
    | i + 1, 0 =>
      simp at hi hj; subst hj
      exact absurd rfl (n3 x hy x (flat_get hi hx))
    | i + 1, j + 1 =>
      simp at hi hj
      rw [nd_apart n2 hi hj hx hy]
theorem mem_set_flat {O : List (List Addr)} {j : Nat} {fq : List Addr} {x : Addr} (h : x ∈ (O.set j fq).flatten) : x ∈ fq ∨ ∃ (i : Nat) (fp : List Addr), i ≠ j ∧ O[i]? = some fp ∧ x ∈ fp := by
  obtain ⟨l, hl, hx⟩ := List.mem_flatten.mp h
  obtain ⟨i, hi⟩ := List.mem_iff_getElem?.mp hl
  by_cases e : j = i
  · subst e
    have hlt : j < O.length := by
      have := (List.getElem?_eq_some_iff.mp hi).1
      rwa [List.length_set] at this
    rw [List.getElem?_set_self hlt] at hi
    cases hi
    exact .inl hx
  · rw [List.getElem?_set_ne e] at hi
    exact .inr ⟨i, l, fun z => e z.symm, hi, hx⟩
theorem nd_set : ∀ {O : List (List Addr)} {j : Nat} {fq : List Addr}, O.flatten.Nodup → fq.Nodup → (∀ (i : Nat) (fp : List Addr), i ≠ j → O[i]? = some fp → ∀ x ∈ fp, x ∉ fq) → (O.set j fq).flatten.Nodup
  | [], j, fq, nd, _, _ => by simp
  | o :: O, 0, fq, nd, nq, h => by
    rw [List.flatten_cons, List.nodup_append] at nd
    obtain ⟨n1, n2, n3⟩ := nd
    rw [List.set_cons_zero, List.flatten_cons, List.nodup_append]
    refine ⟨nq, n2, fun x hx y hy e => ?_⟩
    subst e
    obtain ⟨l, hl, hy⟩ := List.mem_flatten.mp hy
    obtain ⟨i, hi⟩ := List.mem_iff_getElem?.mp hl
    exact h (i + 1) l (by omega) (by simpa using hi) x hy hx
  | o :: O, j + 1, fq, nd, nq, h => by
    rw [List.flatten_cons, List.nodup_append] at nd
    obtain ⟨n1, n2, n3⟩ := nd
    rw [List.set_cons_succ, List.flatten_cons, List.nodup_append]
    refine ⟨n1, nd_set n2 nq fun i fp hi hf => h (i + 1) fp (by omega) (by simpa using hf), fun x hx y hy e => ?_⟩
    subst e
    rcases mem_set_flat hy with hq | ⟨i, fp, hi, hf, hxf⟩
    · exact h 0 o (by omega) (by simp) x hx hq
    · exact n3 x hx x (flat_get hf hxf) rfl
/-- the cell at j changes: the heap elsewhere stays; what it owns now was its own or is new -/
theorem Sa.cellU (S : Sa B W σ ρ μ) {j : Nat} {a fp fq c' H'} (ha : W.A[j]? = some a) (hO : W.O[j]? = some fp) (h : ∀ x, x ∉ fp → W.H x ≠ none → H' x = W.H x) (t : TEx W.H H')
    (hq : fq.Nodup) (hqn : ∀ x ∈ fq, (x ∈ fp ∨ W.H x = none) ∧ H' x ≠ none) (hc : Rc B H' W.F a fq c') :
    Go W { W with O := W.O.set j fq, H := H' } ∧ Sa B { W with O := W.O.set j fq, H := H' } σ ρ (μ.set j c') := by
  have gg : Go W { W with O := W.O.set j fq, H := H' } := ⟨Ex.refl _, Ex.refl _, t, fun _ _ h => h, fun _ _ h => h⟩
  have hlt : j < μ.length := by
    rw [← S.lA]
    exact (List.getElem?_eq_some_iff.mp ha).1
  have hltO : j < W.O.length := by rw [S.lO]; exact hlt
  have apart : ∀ (i : Nat) (fr : List Addr), i ≠ j → W.O[i]? = some fr → ∀ x ∈ fr, x ∉ fp ∧ x ∉ fq := fun i fr hi hf x hx => by
    have n1 : x ∉ fp := fun hp => hi (nd_apart S.nd hf hO hx hp)
    refine ⟨n1, fun hxq => ?_⟩
    rcases (hqn x hxq).1 with h1 | h1
    · exact n1 h1
    · exact (S.own x (flat_get hf hx)).2 h1
  refine ⟨gg, ⟨fun x o hx => ?_, S.fg, fun i u hi => ?_, by rw [List.length_set]; exact S.lA, by rw [List.length_set, List.length_set]; exact S.lO, fun i d hd => ?_, ?_, fun x hx => ?_, S.ln⟩⟩
  · have h1 := S.gh x o hx
    rw [show ({ W with O := W.O.set j fq, H := H' } : Wd).H x = W.H x from h x (fun hp => ?_) (by rw [h1]; exact fun z => nomatch z)]
    · exact h1
    · have := (S.own x (flat_get hO hp)).1
      rw [this] at hx
      cases hx
  · obtain ⟨v, h1, h2⟩ := S.env i u hi
    exact ⟨v, h1, h2.go gg⟩
  · by_cases e : j = i
    · subst e
      rw [List.getElem?_set_self hlt] at hd
      cases hd
      exact ⟨a, fq, ha, List.getElem?_set_self hltO, hc⟩
    · rw [List.getElem?_set_ne e] at hd
      obtain ⟨b, fr, h1, h2, h3⟩ := S.mem i d hd
      refine ⟨b, fr, h1, (List.getElem?_set_ne e).trans h2, h3.frame (fun x hx => h x (apart i fr (fun z => e z.symm) h2 x hx).1 (S.own x (flat_get h2 hx)).2) t (Ex.refl _)⟩
  · exact nd_set S.nd hq fun i fr hi hf x hx => (apart i fr hi hf x hx).2
  · rcases mem_set_flat hx with hx | ⟨i, fr, hi, hf, hx⟩
    · refine ⟨?_, (hqn x hx).2⟩
      rcases (hqn x hx).1 with h1 | h1
      · exact (S.own x (flat_get hO h1)).1
      · exact S.gnone h1
    · have h1 := S.own x (flat_get hf hx)
      refine ⟨h1.1, ?_⟩
      rw [show ({ W with O := W.O.set j fq, H := H' } : Wd).H x = W.H x from h x (apart i fr hi hf x hx).1 h1.2]
      exact h1.2
/-- a new cell -/
theorem Sa.newC (S : Sa B W σ ρ μ) {a fq c H'} (h : ∀ x, W.H x ≠ none → H' x = W.H x) (hq : fq.Nodup) (hqn : ∀ x ∈ fq, W.H x = none ∧ H' x ≠ none) (hc : Rc B H' W.F a fq c) :
    Go W { W with A := W.A ++ [a], O := W.O ++ [fq], H := H' } ∧ Sa B { W with A := W.A ++ [a], O := W.O ++ [fq], H := H' } σ ρ (μ ++ [c]) := by
  have t : TEx W.H H' := fun x xs hx => by rw [h x (by rw [hx]; exact fun z => nomatch z)]; exact hx
  have gg : Go W { W with A := W.A ++ [a], O := W.O ++ [fq], H := H' } := ⟨Ex.refl _, Ex.refl _, t, fun _ _ h => h, fun i x hx => by rw [show ({ W with A := W.A ++ [a], O := W.O ++ [fq], H := H' } : Wd).A = W.A ++ [a] from rfl, List.getElem?_append_left (List.getElem?_eq_some_iff.mp hx).1]; exact hx⟩
  refine ⟨gg, ⟨fun x o hx => ?_, S.fg, fun i u hi => ?_, by simp [S.lA], by simp [S.lO], fun i d hd => ?_, ?_, fun x hx => ?_, S.ln⟩⟩
  · have h1 := S.gh x o hx
    exact (h x (by rw [h1]; exact fun z => nomatch z)).trans h1
  · obtain ⟨v, h1, h2⟩ := S.env i u hi
    exact ⟨v, h1, h2.go gg⟩
  · by_cases hi : i < μ.length
    · rw [List.getElem?_append_left hi] at hd
      obtain ⟨b, fr, h1, h2, h3⟩ := S.mem i d hd
      exact ⟨b, fr, (List.getElem?_append_left (by rw [S.lA]; exact hi)).trans h1, (List.getElem?_append_left (by rw [S.lO]; exact hi)).trans h2, h3.frame (fun x hx => h x (S.own x (flat_get h2 hx)).2) t (Ex.refl _)⟩
    · have e : i = μ.length := by
        have := (List.getElem?_eq_some_iff.mp hd).1
        simp at this
        omega
      subst e
      rw [List.getElem?_append_right (Nat.le_refl _), Nat.sub_self] at hd
      cases hd
      refine ⟨a, fq, ?_, ?_, hc⟩
      · rw [show ({ W with A := W.A ++ [a], O := W.O ++ [fq], H := H' } : Wd).A = W.A ++ [a] from rfl, ← S.lA, List.getElem?_append_right (Nat.le_refl _), Nat.sub_self]; rfl
      · rw [show ({ W with A := W.A ++ [a], O := W.O ++ [fq], H := H' } : Wd).O = W.O ++ [fq] from rfl, ← S.lO, List.getElem?_append_right (Nat.le_refl _), Nat.sub_self]; rfl
  · show (W.O ++ [fq]).flatten.Nodup
    rw [List.flatten_append, List.flatten_singleton, List.nodup_append]
    exact ⟨S.nd, hq, fun x hx y hy e => by subst e; exact (S.own x hx).2 (hqn x hy).1⟩
  · have hx' : x ∈ (W.O ++ [fq]).flatten := hx
    rw [List.flatten_append, List.flatten_singleton, List.mem_append] at hx'
    rcases hx' with hx | hx
    · have h1 := S.own x hx
      exact ⟨h1.1, by rw [show ({ W with A := W.A ++ [a], O := W.O ++ [fq], H := H' } : Wd).H x = W.H x from h x h1.2]; exact h1.2⟩
    · exact ⟨S.gnone (hqn x hx).1, (hqn x hx).2⟩
def addH (G H : Hp) (fp : List Addr) : Hp := fun x => if x ∈ fp then H x else G x
theorem addH_in {G H : Hp} {fp : List Addr} {x} (h : x ∈ fp) : addH G H fp x = H x := if_pos h
theorem addH_out {G H : Hp} {fp : List Addr} {x} (h : x ∉ fp) : addH G H fp x = G x := if_neg h
/-- a cell is frozen -/
theorem Sa.freeze (S : Sa B W σ ρ μ) {j : Nat} {fp} (hO : W.O[j]? = some fp) :
    Go W { W with O := W.O.set j [], G := addH W.G W.H fp, F := addH W.F W.H fp } ∧ Sa B { W with O := W.O.set j [], G := addH W.G W.H fp, F := addH W.F W.H fp } σ ρ (μ.set j .gone) := by
  have hg : ∀ x ∈ fp, W.G x = none := fun x hx => (S.own x (flat_get hO hx)).1
  have eG : Ex W.G (addH W.G W.H fp) := fun x o hx => by
    rw [addH_out fun hp => by rw [hg x hp] at hx; cases hx]
    exact hx
  have eF : Ex W.F (addH W.F W.H fp) := fun x o hx => by
    rw [addH_out fun hp => by rw [S.fnone (hg x hp)] at hx; cases hx]
    exact hx
  have hltO : j < W.O.length := (List.getElem?_eq_some_iff.mp hO).1
  have hlt : j < μ.length := by rw [← S.lO]; exact hltO
  have gg : Go W { W with O := W.O.set j [], G := addH W.G W.H fp, F := addH W.F W.H fp } := ⟨eG, eF, TEx.refl _, fun x h1 h2 => (addH_out fun hp => h1 (hg x hp)).trans h2, fun _ _ h => h⟩
  refine ⟨gg, ⟨fun x o hx => ?_, fun x o hx => ?_, fun i u hi => ?_, by rw [List.length_set]; exact S.lA, by rw [List.length_set, List.length_set]; exact S.lO, fun i d hd => ?_, nd_set S.nd List.nodup_nil fun i fr hi hf x hx => by simp, fun x hx => ?_, S.ln⟩⟩
  · by_cases hp : x ∈ fp
    · exact (addH_in hp).symm.trans hx
    · exact S.gh x o ((addH_out hp).symm.trans hx)
  · by_cases hp : x ∈ fp
    · exact .inl ((addH_in hp).trans ((addH_in hp).symm.trans hx))
    · rcases S.fg x o ((addH_out hp).symm.trans hx) with h1 | ⟨⟨d, h1⟩, h2⟩
      · exact .inl ((addH_out hp).trans h1)
      · exact .inr ⟨⟨d, (addH_out hp).trans h1⟩, h2⟩
  · obtain ⟨v, h1, h2⟩ := S.env i u hi
    exact ⟨v, h1, h2.go gg⟩
  · by_cases e : j = i
    · subst e
      rw [List.getElem?_set_self hlt] at hd
      cases hd
      obtain ⟨c, hc⟩ : ∃ c, μ[j]? = some c := ⟨μ[j], List.getElem?_eq_getElem hlt⟩
      obtain ⟨b, fr, h1, h2, h3⟩ := S.mem j c hc
      exact ⟨b, [], h1, List.getElem?_set_self hltO, rfl⟩
    · rw [List.getElem?_set_ne e] at hd
      obtain ⟨b, fr, h1, h2, h3⟩ := S.mem i d hd
      exact ⟨b, fr, h1, (List.getElem?_set_ne e).trans h2, h3.frame (fun _ _ => rfl) (TEx.refl _) eF⟩
  · rcases mem_set_flat hx with hx | ⟨i, fr, hi, hf, hx⟩
    · simp at hx
    · have h1 := S.own x (flat_get hf hx)
      exact ⟨(addH_out fun hp => hi (nd_apart S.nd hf hO hx hp)).trans h1.1, h1.2⟩
/-- cells by continuations -/
theorem celK_at {μ : Mem} {i : Nat} {k : Cel → Prop} (h : Ir.celK μ i k) : ∃ c, μ[i]? = some c ∧ k c := by
  induction μ generalizing i with
  | nil => exact h.elim
  | cons c r ih =>
    cases i with
    | zero => exact ⟨c, rfl, h⟩
    | succ i => exact ih h
theorem cputK_at {μ : Mem} {i : Nat} {c : Cel} {k : Mem → Prop} (h : Ir.cputK μ i c k) : k (μ.set i c) := by
  induction μ generalizing i k with
  | nil => exact h.elim
  | cons d r ih =>
    cases i with
    | zero => exact h
    | succ i => exact ih h
theorem snocK_at {μ : Mem} {n : Nat} {c : Cel} {k : Nat → Mem → Prop} (h : Ir.snocK μ n c k) : k (n + μ.length) (μ ++ [c]) := by
  induction μ generalizing n k with
  | nil => exact h
  | cons d r ih =>
    have := ih h
    rw [List.length_cons, List.cons_append]
    rw [show n + (r.length + 1) = n + 1 + r.length by omega]
    exact this
theorem getK_at {ρ : Ev} {i : Nat} {k : Tr → Prop} (h : Ir.getK ρ i k) : ∃ t, ρ[i]? = some (some t) ∧ k t := by
  induction ρ generalizing i with
  | nil => exact h.elim
  | cons c r ih =>
    cases i with
    | zero =>
      cases c with
      | none => exact h.elim
      | some t => exact ⟨t, rfl, h⟩
    | succ i => exact ih h
theorem setK_at {ρ : Ev} {i : Nat} {t : Tr} {k : Ev → Prop} (h : Ir.setK ρ i t k) : k (ρ.set i (some t)) := by
  induction ρ generalizing i k with
  | nil => exact h.elim
  | cons d r ih =>
    cases i with
    | zero => exact h
    | succ i => exact ih h
theorem Sa.set (S : Sa B W σ ρ μ) {i : Nat} {v : V} {t : Tr} (r : Rp B W v t) : Sa B W (σ.set i (some v)) (ρ.set i (some t)) μ := S.sub (by rw [List.length_set, List.length_set]; exact S.ln) fun j u hj => by
  by_cases e : i = j
  · subst e
    have hlt : i < ρ.length := by
      have := (List.getElem?_eq_some_iff.mp hj).1
      rwa [List.length_set] at this
    rw [List.getElem?_set_self hlt] at hj
    cases hj
    exact ⟨v, List.getElem?_set_self (by rw [← S.ln]; exact hlt), r⟩
  · rw [List.getElem?_set_ne e] at hj
    obtain ⟨w, h1, h2⟩ := S.env j u hj
    exact ⟨w, (List.getElem?_set_ne e).trans h1, h2⟩
/-! ### views -/
/-- a value as it is just now -/
def Rw (B : Bs) (W : Wd) (v : V) : Tr → Prop
  | .lst ts => ∃ a vs, v = .ref a ∧ SqL B.K W.H a vs ∧ Rvs B W.H W.F vs ts
  | .dic false kvs => ∃ a us, v = .ref a ∧ Rd W.H a (.dK us) ∧ us.map (fun p => kTr p.1) = kvs.map Prod.fst ∧ Rvs B W.H W.F (us.map Prod.snd) (kvs.map Prod.snd)
  | .dic true kvs => ∃ a us, v = .ref a ∧ Rd W.H a (.dT us) ∧ us.map (fun p => kTs p.1) = kvs.map Prod.fst ∧ Rvs B W.H W.F (us.map Prod.snd) (kvs.map Prod.snd)
  | t => Rv B W.H W.F v t
theorem Rv.rw {v t} (S : Sa B W σ ρ μ) (r : Rv B W.H W.F v t) : Rw B W v t := by
  cases t with
  | lst ts => cases r with | lst h hs => exact ⟨_, _, rfl, S.lst h, hs⟩
  | dic b kvs =>
    cases r with
    | dK h k hs => exact ⟨_, _, rfl, S.fh h, k, hs⟩
    | dT h k hs => exact ⟨_, _, rfl, S.fh h, k, hs⟩
  | _ => exact r
theorem Rp.view {v t} {k : Tr → Prop} (S : Sa B W σ ρ μ) (r : Rp B W v t) (h : Ir.tv μ t k) : ∃ t', Rw B W v t' ∧ k t' := by
  rcases r with r | ⟨i, a, rfl, rfl, ha⟩
  · cases t with
    | ptr i => exact r.noptr.elim
    | _ => exact ⟨_, r.rw S, h⟩
  · obtain ⟨c, hc, h⟩ := celK_at h
    obtain ⟨b, fp, h1, h2, h3⟩ := S.mem i c hc
    rw [ha] at h1
    cases h1
    cases c with
    | lst ts =>
      obtain ⟨_, vs, h4, h5⟩ := h3
      exact ⟨.lst ts, ⟨a, vs, rfl, sq_of h4, h5⟩, h⟩
    | dic b kvs =>
      cases b with
      | false =>
        obtain ⟨_, us, h4, h5⟩ := h3
        exact ⟨.dic false kvs, ⟨a, us, rfl, .of h4, h5⟩, h⟩
      | true =>
        obtain ⟨_, us, h4, h5⟩ := h3
        exact ⟨.dic true kvs, ⟨a, us, rfl, .of h4, h5⟩, h⟩
    | _ => exact h.elim
end
end Is

/-! Id: judgements; expressions. -/
namespace Is
open PySem PySem.Spec PyProof.Rows L2 Wx
open Ir (Tr Cel Mem Ev EK SK Con Tg Op Cm I Sm wp wps)
abbrev XB (X : Cx) (c : Nat → Addr) : Bs := ⟨X.K, c⟩
structure Cf (X : Cx) (n : Nat) : Prop where
  calm : X.calm = true
  nd : X.N.Nodup
  r : Room n X.A
theorem Cf.hu {X n} (f : Cf X n) : X.A.units + 200 < cLine := by have := f.r.un; omega
theorem Cf.hu1 {X n} (f : Cf X n) : X.A.units + 1 < cLine := by have := f.hu; omega
theorem Cf.hu64 {X n} (f : Cf X n) : X.A.units + 64 < cLine := by have := f.hu; omega
/-- an exception by its tree -/
def Rx (B : Bs) (W : Wd) (cls : Value) (d : Option Addr) (t : Tr) : Prop := ∃ c fs, t = .obj c fs ∧ cls = .ref (B.cl c) ∧
  ((fs = [] ∧ d = none) ∨ ∃ dx fvs, d = some dx ∧ W.H dx = some (.xd fvs) ∧ fvs.map Prod.fst = fs.map fN ∧ Rvs B W.H W.F (fvs.map Prod.snd) (fs.map Prod.snd))
def xW (B : Bs) (W : Wd) (σ : L2.St) (ρ : Ev) (ε : EK) : WX := fun cls d σ' H' => σ' = σ ∧ ∃ W' t μ', W'.H = H' ∧ Go W W' ∧ Sa B W' σ ρ μ' ∧ Rx B W' cls d t ∧ ε t μ'
section
variable {X : Cx} {c : Nat → Addr}
theorem tk_go {W W1 : Wd} {σ ρ ε} (g : Go W W1) (t : Takes X (xW (XB X c) W σ ρ ε)) : Takes X (xW (XB X c) W1 σ ρ ε) :=
  t.imp fun cls d σ' H' ⟨e, W', u, μ', h1, h2, h3⟩ => ⟨e, W', u, μ', h1, g.trans h2, h3⟩
theorem tk_no {W : Wd} {σ ρ} : Takes X (xW (XB X c) W σ ρ (fun _ _ => False)) := fun u s' ⟨_, _, _, _, _, _, _, _, _, _, _, _, _, _, _, _, _, _, _, _, _, _, _, _, h⟩ => h.elim
/-! ### judgements -/
def JE (X : Cx) (c : Nat → Addr) (e : Expr) (ρ : Ev) (μ : Mem) (φ ε : EK) : Prop := ∀ W σ (Q : VK), Sa (XB X c) W σ ρ μ →
  (∀ W' v t μ', Go W W' → Sa (XB X c) W' σ ρ μ' → Rp (XB X c) W' v t → φ t μ' → Q v W'.H) → Takes X (xW (XB X c) W σ ρ ε) → WE X e σ W.H Q
def PJ (X : Cx) (c : Nat → Addr) (e : Expr) (i : I) : Prop := ∀ ρ μ φ ε, wp i ρ μ φ ε → JE X c e ρ μ φ ε
/-- a test -/
def PT (X : Cx) (c : Nat → Addr) (e : Expr) (i : I) : Prop := ∀ ρ μ φ ε, wp i ρ μ φ ε → (∀ t μ, φ t μ → ∃ b, t = .bl b) → ∀ W σ (Q : Bool → Hp → Prop), Sa (XB X c) W σ ρ μ →
  (∀ W' b μ', Go W W' → Sa (XB X c) W' σ ρ μ' → φ (.bl b) μ' → Q b W'.H) → Takes X (xW (XB X c) W σ ρ ε) → WT X e σ W.H Q
def PW (X : Cx) (c : Nat → Addr) (e : Expr) (i : I) : Prop := ∀ ρ μ φ ε, wp i ρ μ φ ε → (∀ t μ, φ t μ → ∃ b, t = .bl b) → ∀ W σ (Q : Bool → Hp → Prop), Sa (XB X c) W σ ρ μ →
  (∀ W' b μ', Go W W' → Sa (XB X c) W' σ ρ μ' → φ (.bl b) μ' → Q b W'.H) → Takes X (xW (XB X c) W σ ρ ε) → WW X e σ W.H Q
/-- arguments -/
def PA (X : Cx) (c : Nat → Addr) (es : List Expr) (i : I) : Prop := ∀ ρ μ (ψ : List Tr → Mem → Prop) ε, wp i ρ μ (fun y μ => match y with | .tup xs => ψ xs μ | _ => False) ε → ∀ W σ (Q : List V → Hp → Prop), Sa (XB X c) W σ ρ μ →
  (∀ W' vs ts μ', Go W W' → Sa (XB X c) W' σ ρ μ' → Rps (XB X c) W' vs ts → ψ ts μ' → Q vs W'.H) → Takes X (xW (XB X c) W σ ρ ε) → WA X es σ W.H Q
/-- a new list or dict, not yet anybody's -/
def Nwl (W : Wd) (p : Addr) (vs : List V) (W' : Wd) : Prop := W.H p = none ∧ W'.A = W.A ∧ W'.O = W.O ∧ W'.G = W.G ∧ W'.F = W.F ∧ W'.H = upd W.H p (.lst vs)
def PN (X : Cx) (c : Nat → Addr) (e : Expr) (i : I) : Prop := ∀ ρ μ φ ε, wp i ρ μ φ ε → ∀ W σ (Q : VK), Sa (XB X c) W σ ρ μ →
  (∀ W' p vs ts μ', Go W W' → Sa (XB X c) W' σ ρ μ' → W'.H p = none → Rvs (XB X c) W'.H W'.F vs ts → φ (.lst ts) μ' → Q (.ref p) (upd W'.H p (.lst vs))) →
  (∀ W' p us kvs μ', Go W W' → Sa (XB X c) W' σ ρ μ' → W'.H p = none → us.map (fun q => kTr q.1) = kvs.map Prod.fst → Rvs (XB X c) W'.H W'.F (us.map Prod.snd) (kvs.map Prod.snd) → φ (.dic false kvs) μ' → Q (.ref p) (upd W'.H p (.dK us))) →
  (∀ W' p us kvs μ', Go W W' → Sa (XB X c) W' σ ρ μ' → W'.H p = none → us.map (fun q => kTs q.1) = kvs.map Prod.fst → Rvs (XB X c) W'.H W'.F (us.map Prod.snd) (kvs.map Prod.snd) → φ (.dic true kvs) μ' → Q (.ref p) (upd W'.H p (.dT us))) →
  Takes X (xW (XB X c) W σ ρ ε) → WE X e σ W.H Q
/-! ### names, constants -/
theorem pj_nm {x : Str} {pos : Pos} {i : Nat} (hi : X.N[i]? = some x) (hv : Vis X.env.scope x := by first | exact Or.inl rfl | exact Or.inr (Or.inl rfl) | exact Or.inr (Or.inr rfl)) (hd : (x == ("__debug__" : Str)) = false := by decide)
    (hcd : (x == ("__classdict__" : Str)) = false := by decide) : PJ X c (.Name x pos) (.nm i) := fun ρ μ φ ε h W σ Q S k tk => by
  obtain ⟨t, h1, h2⟩ := getK_at h
  obtain ⟨v, h3, h4⟩ := S.env i t h1
  exact WE.of (pe_var hi hv hd hcd) ⟨v, h3, k W v t μ Go.refl S h4 h2⟩
theorem pj_int {i j pos} : PJ X c (.Constant (.int i) j pos) (.c (.int i)) := fun ρ μ φ ε h W σ Q S k tk => we_int (k W _ _ μ Go.refl S (.inl (.int i)) h)
theorem pj_str {x l j pos} (e : x = S l) : PJ X c (.Constant (.str x) j pos) (.c (.str l)) := fun ρ μ φ ε h W σ Q S k tk => we_strE e (k W _ _ μ Go.refl S (.inl (.str l)) h)
theorem pj_bl {b j pos} : PJ X c (.Constant (.bool b) j pos) (.c (.bl b)) := fun ρ μ φ ε h W σ Q S k tk => we_bl (k W _ _ μ Go.refl S (.inl (.bl b)) h)
theorem pj_non {j pos} : PJ X c (.Constant .none j pos) (.c .non) := fun ρ μ φ ε h W σ Q S k tk => we_non (k W _ _ μ Go.refl S (.inl .non) h)
theorem pj_gI {x : Str} {i pos} (g : GInt X.mg x i) (hg : Gl X x := by rfl) (hd : (x == ("__debug__" : Str)) = false := by decide) : PJ X c (.Name x pos) (.c (.int i)) := fun ρ μ φ ε h W σ Q S k tk => we_gI g (k W _ _ μ Go.refl S (.inl (.int i)) h) hg hd
theorem pj_gS {x : Str} {l pos} (g : GStr X.mg x l) (hg : Gl X x := by rfl) (hd : (x == ("__debug__" : Str)) = false := by decide) : PJ X c (.Name x pos) (.c (.str l)) := fun ρ μ φ ε h W σ Q S k tk => we_gS g (k W _ _ μ Go.refl S (.inl (.str l)) h) hg hd
/-! ### arguments -/
theorem pa_nil : PA X c [] .nil := fun ρ μ ψ ε h W σ Q S k tk => wa_nil (k W _ _ μ Go.refl S .nil h)
theorem pa_cons {e es a b} (ha : PJ X c e a) (hb : PA X c es b) (hs : starEach (e :: es) X.env = (false, eval e X.env) :: starEach es X.env := by rfl) : PA X c (e :: es) (.cons a b) := fun ρ μ ψ ε h W σ Q S k tk => by
  refine wa_cons (ha ρ μ _ ε h W σ _ S (fun W1 v1 t1 μ1 g1 S1 r1 h1 => ?_) tk) hs
  refine hb ρ μ1 (fun xs μ => ψ (t1 :: xs) μ) ε ?_ W1 σ _ S1 (fun W2 vs ts μ2 g2 S2 r2 h2 => k W2 _ _ μ2 (g1.trans g2) S2 (.cons (r1.go g2) r2) h2) (tk_go g1 tk)
  refine cast (congrArg (fun z => wp b ρ μ1 z ε) ?_) h1
  funext y μ'
  cases y <;> rfl
/-! ### operators -/
theorem min_eq {i j : Int} : (if j < i then j else i) = min i j := by
  by_cases h : j < i
  · rw [if_pos h]; omega
  · rw [if_neg h]; omega
theorem max_eq {i j : Int} : (if j > i then j else i) = max i j := by
  by_cases h : j > i
  · rw [if_pos h]; omega
  · rw [if_neg h]; omega
def opOf : Op → Operator
  | .add => .Add
  | .sub => .Sub
  | .mul => .Mult
  | .fdiv => .FloorDiv
  | .mod => .Mod
theorem repL_eq (n : Nat) (l : List Nat) : Ir.repL n l = Wx.rep n l := rfl
theorem opK_ok {o t1 t2 k v1 v2 W σ ρ μ} {Q : VK} (S : Sa (XB X c) W σ ρ μ) (r1 : Rp (XB X c) W v1 t1) (r2 : Rp (XB X c) W v2 t2) (h : Ir.opK o t1 t2 k)
    (q : ∀ W' v t, Go W W' → Sa (XB X c) W' σ ρ μ → Rv (XB X c) W'.H W'.F v t → k t → Q v W'.H) : WO X (binaryOp (opOf o)) v1 v2 W.H Q := by
  unfold Ir.opK at h
  split at h
  · have r1 := r1.rv (by intro i e; cases e); have r2 := r2.rv (by intro i e; cases e)
    cases r1; cases r2
    exact wo_add (q W _ _ Go.refl S (.int _) h)
  · have r1 := r1.rv (by intro i e; cases e); have r2 := r2.rv (by intro i e; cases e)
    cases r1; cases r2
    obtain ⟨hz, h⟩ := Ir.szK_le h
    exact wo_addSS hz (q W _ _ Go.refl S (.str _) h)
  · have r1 := r1.rv (by intro i e; cases e); have r2 := r2.rv (by intro i e; cases e)
    cases r1 with
    | tup h1 s1 =>
      cases r2 with
      | tup h2 s2 =>
        obtain ⟨hz, h⟩ := Ir.szK_le h
        have l1 := s1.length
        have l2 := s2.length
        have e1 : ∀ {vs : List V} {t : Tr} {ts : List Tr}, Rvs (XB X c) W.H W.F vs (t :: ts) → vs ≠ [] := fun r e => by subst e; cases r
        refine WO.of op_catT ⟨_, _, _, _, rfl, rfl, h1.sq, h2.sq, e1 s1, sz_le (by rw [l1, l2]; exact hz), fun e => ?_, fun _ p hp => ?_⟩
        · subst e
          cases s2
          rw [List.append_nil] at h
          exact q W _ _ Go.refl S (.tup h1 s1) h
        · obtain ⟨g, S'⟩ := S.fresh (o := .tup _) hp
          exact q _ _ _ g S' (.tup upd_same ((s1.app s2).mono g.t g.f)) h
  · have r1 := r1.rv (by intro i e; cases e); have r2 := r2.rv (by intro i e; cases e)
    cases r1; cases r2
    exact wo_sub (q W _ _ Go.refl S (.int _) h)
  · have r1 := r1.rv (by intro i e; cases e); have r2 := r2.rv (by intro i e; cases e)
    cases r1; cases r2
    refine wo_mul (.inl ⟨by omega, by omega⟩) (q W _ _ Go.refl S (.int _) h.2)
  · have r1 := r1.rv (by intro i e; cases e); have r2 := r2.rv (by intro i e; cases e)
    cases r1; cases r2
    obtain ⟨h0, h⟩ := h
    obtain ⟨z1, h⟩ := Ir.szK_le h
    obtain ⟨z2, h⟩ := Ir.szK_le h
    obtain ⟨z3, h⟩ := Ir.szK_le h
    have e := Int.toNat_of_nonneg h0
    rw [← e]
    exact wo_mulSI z3 z1 z2 (q W _ _ Go.refl S (.str _) h)
  · have r1 := r1.rv (by intro i e; cases e); have r2 := r2.rv (by intro i e; cases e)
    cases r1; cases r2
    obtain ⟨h0, h⟩ := h
    obtain ⟨z1, h⟩ := Ir.szK_le h
    obtain ⟨z2, h⟩ := Ir.szK_le h
    obtain ⟨z3, h⟩ := Ir.szK_le h
    have e := Int.toNat_of_nonneg h0
    rw [← e]
    exact wo_mulIS z3 z1 z2 (q W _ _ Go.refl S (.str _) h)
  · have r1 := r1.rv (by intro i e; cases e); have r2 := r2.rv (by intro i e; cases e)
    cases r1; cases r2
    exact wo_fdiv ⟨h.1.1, h.1.2⟩ (q W _ _ Go.refl S (.int _) h.2)
  · have r1 := r1.rv (by intro i e; cases e); have r2 := r2.rv (by intro i e; cases e)
    cases r1; cases r2
    exact wo_mod h.1 (q W _ _ Go.refl S (.int _) h.2)
  · exact h.elim
theorem pj_op {o a b x y pos} (ha : PJ X c a x) (hb : PJ X c b y) : PJ X c (.BinOp a (opOf o) b pos) (.op o x y) := fun ρ μ φ ε h W σ Q S k tk =>
  we_op (ha ρ μ _ ε h W σ _ S (fun W1 v1 t1 μ1 g1 S1 r1 h1 => hb ρ μ1 _ ε h1 W1 σ _ S1 (fun W2 v2 t2 μ2 g2 S2 r2 h2 =>
    opK_ok S2 (r1.go g2) r2 h2 fun W' v t g S' r h' => k W' v t μ2 ((g1.trans g2).trans g) S' (.inl r) h') (tk_go g1 tk)) tk)
end
end Is

/-! Ie: comparisons, subscripts. -/
namespace Is
open PySem PySem.Spec PyProof.Rows L2 Wx
open Ir (Tr Cel Mem Ev EK SK Con Tg Op Cm I Sm wp wps)
/-! ### data -/
mutual
def dat : Tr → PyData
  | .non => .none
  | .bl b => .bool b
  | .int i => .int i
  | .str l => .str (S l)
  | .tup ts => .tuple (dats ts)
  | .lst ts => .list (dats ts)
  | _ => .none
def dats : List Tr → List PyData
  | [] => []
  | t :: ts => dat t :: dats ts
end
section
variable {X : Cx} {c : Nat → Addr} {W : Wd} {σ : L2.St} {ρ : Ev} {μ : Mem}
theorem S_beq (l m : List Nat) : (S l == S m) = decide (l = m) := by
  rw [← SeqAt.str_beq, S_list, S_list, Bool.eq_iff_iff]
  simp
theorem okS_ok {l : List Nat} (h : Ir.okS l = true) : PyData.strOk (S l) = true := by
  unfold PyData.strOk S
  unfold Ir.okS at h
  rw [List.all_eq_true] at h
  rw [show (⟨l.toArray⟩ : Str).cps = l.toArray from rfl, List.all_toArray, List.all_eq_true]
  intro x hx
  have := h x hx
  have h2 : x < 55296 := Nat.le_of_ble_eq_true this
  exact decide_eq_true (Nat.lt_of_lt_of_le h2 (by decide))
mutual
theorem dat_shape : ∀ (n : Nat) (t : Tr), Ir.isD n t = true → (dat t).canLay0 = true ∧ (dat t).depth ≤ n
  | _, .non, _ => ⟨rfl, Nat.zero_le _⟩
  | _, .bl _, _ => ⟨rfl, Nat.zero_le _⟩
  | _, .int _, _ => ⟨rfl, Nat.zero_le _⟩
  | n, .str l, h => ⟨okS_ok (by unfold Ir.isD at h; exact h), Nat.zero_le _⟩
  | 0, .tup ts, h => by unfold Ir.isD at h; cases h
  | n + 1, .tup ts, h => by
    unfold Ir.isD at h
    have := dats_shape n ts h
    exact ⟨this.1, Nat.succ_le_succ this.2⟩
  | 0, .lst ts, h => by unfold Ir.isD at h; cases h
  | n + 1, .lst ts, h => by
    unfold Ir.isD at h
    have := dats_shape n ts h
    exact ⟨this.1, Nat.succ_le_succ this.2⟩
  | n, .ty _, h => by unfold Ir.isD at h; cases h
  | n, .dic _ _, h => by unfold Ir.isD at h; cases h
  | n, .obj _ _, h => by unfold Ir.isD at h; cases h
  | n, .ptr _, h => by unfold Ir.isD at h; cases h
  | n, .ktup _, h => by unfold Ir.isD at h; cases h
  | n, .scr _, h => by unfold Ir.isD at h; cases h
theorem dats_shape : ∀ (n : Nat) (ts : List Tr), Ir.isDs n ts = true → PyData.canLayAll0 (dats ts) = true ∧ PyData.depthAll (dats ts) ≤ n
  | _, [], _ => ⟨rfl, Nat.zero_le _⟩
  | n, t :: ts, h => by
    unfold Ir.isDs at h
    rw [Bool.and_eq_true] at h
    have h1 := dat_shape n t h.1
    have h2 := dats_shape n ts h.2
    refine ⟨?_, ?_⟩
    · show (PyData.canLay0 (dat t) && PyData.canLayAll0 (dats ts)) = true
      rw [h1.1, h2.1]
      rfl
    · show max (dat t).depth (PyData.depthAll (dats ts)) ≤ n
      omega
end
theorem dat_shaped {n : Nat} {t : Tr} (h : Ir.isD n t = true) (hn : n ≤ 64) : SeqAt.shaped (dat t) = true := by
  have := dat_shape n t h
  unfold SeqAt.shaped
  rw [this.1, decide_eq_true (Nat.le_trans this.2 hn)]
  rfl
theorem dats_shapedL {n : Nat} {ts : List Tr} (h : Ir.isDs n ts = true) (hn : n < 64) : SeqAt.shaped (.list (dats ts)) = true := by
  have := dats_shape n ts h
  unfold SeqAt.shaped
  rw [show PyData.canLay0 (.list (dats ts)) = true from this.1, decide_eq_true (show PyData.depth (.list (dats ts)) ≤ 64 from Nat.le_trans (Nat.succ_le_succ this.2) hn)]
  rfl
mutual
theorem eqT_eqv : ∀ (n m : Nat) (a b : Tr), Ir.isD n a = true → Ir.isD m b = true → Ir.eqT a b = PyData.eqv (dat a) (dat b)
  | n, m, a, b, ha, hb => by
    cases a with
    | ty _ => unfold Ir.isD at ha; cases ha
    | dic _ _ => unfold Ir.isD at ha; cases ha
    | obj _ _ => unfold Ir.isD at ha; cases ha
    | ptr _ => unfold Ir.isD at ha; cases ha
    | ktup _ => unfold Ir.isD at ha; cases ha
    | scr _ => unfold Ir.isD at ha; cases ha
    | tup as =>
      cases b with
      | ty _ => unfold Ir.isD at hb; cases hb
      | dic _ _ => unfold Ir.isD at hb; cases hb
      | obj _ _ => unfold Ir.isD at hb; cases hb
      | ptr _ => unfold Ir.isD at hb; cases hb
      | ktup _ => unfold Ir.isD at hb; cases hb
      | scr _ => unfold Ir.isD at hb; cases hb
      | tup bs =>
        cases n with
        | zero => unfold Ir.isD at ha; cases ha
        | succ n =>
          cases m with
          | zero => unfold Ir.isD at hb; cases hb
          | succ m =>
            unfold Ir.isD at ha hb
            have := eqTs_eqv n m as bs ha hb
            unfold Ir.eqT dat PyData.eqv
            exact this
      | _ => unfold Ir.eqT dat PyData.eqv; rfl
    | lst as =>
      cases b with
      | ty _ => unfold Ir.isD at hb; cases hb
      | dic _ _ => unfold Ir.isD at hb; cases hb
      | obj _ _ => unfold Ir.isD at hb; cases hb
      | ptr _ => unfold Ir.isD at hb; cases hb
      | ktup _ => unfold Ir.isD at hb; cases hb
      | scr _ => unfold Ir.isD at hb; cases hb
      | lst bs =>
        cases n with
        | zero => unfold Ir.isD at ha; cases ha
        | succ n =>
          cases m with
          | zero => unfold Ir.isD at hb; cases hb
          | succ m =>
            unfold Ir.isD at ha hb
            have := eqTs_eqv n m as bs ha hb
            unfold Ir.eqT dat PyData.eqv
            exact this
      | _ => unfold Ir.eqT dat PyData.eqv; rfl
    | str l =>
      cases b with
      | ty _ => unfold Ir.isD at hb; cases hb
      | dic _ _ => unfold Ir.isD at hb; cases hb
      | obj _ _ => unfold Ir.isD at hb; cases hb
      | ptr _ => unfold Ir.isD at hb; cases hb
      | ktup _ => unfold Ir.isD at hb; cases hb
      | scr _ => unfold Ir.isD at hb; cases hb
      | str m =>
        unfold Ir.eqT dat PyData.eqv
        show decide (l = m) = (S l == S m)
        exact (S_beq l m).symm
      | _ => unfold Ir.eqT dat PyData.eqv; rfl
    | _ =>
      cases b with
      | ty _ => unfold Ir.isD at hb; cases hb
      | dic _ _ => unfold Ir.isD at hb; cases hb
      | obj _ _ => unfold Ir.isD at hb; cases hb
      | ptr _ => unfold Ir.isD at hb; cases hb
      | ktup _ => unfold Ir.isD at hb; cases hb
      | scr _ => unfold Ir.isD at hb; cases hb
      | _ => unfold Ir.eqT dat PyData.eqv; rfl
theorem eqTs_eqv : ∀ (n m : Nat) (a b : List Tr), Ir.isDs n a = true → Ir.isDs m b = true → Ir.eqTs a b = PyData.eqvAll (dats a) (dats b)
  | n, m, [], [], _, _ => rfl
  | n, m, [], b :: bs, _, _ => rfl
  | n, m, a :: as, [], _, _ => rfl
  | n, m, a :: as, b :: bs, ha, hb => by
    unfold Ir.isDs at ha hb
    rw [Bool.and_eq_true] at ha hb
    have h1 := eqT_eqv n m a b ha.1 hb.1
    have h2 := eqTs_eqv n m as bs ha.2 hb.2
    unfold Ir.eqTs dats PyData.eqvAll
    rw [h1, h2]
end
mutual
theorem Rv.dp (S : Sa (XB X c) W σ ρ μ) : ∀ {n : Nat} {v : V} {t : Tr}, Ir.isD n t = true → Rv (XB X c) W.H W.F v t → Dp X.K W.H v (dat t)
  | _, _, _, _, .non => .non
  | _, _, _, _, .bl b => .bl b
  | _, _, _, _, .int i => .int i
  | _, _, _, _, .str l => .str _
  | n, _, _, h, .ty _ => by unfold Ir.isD at h; cases h
  | 0, _, _, h, .tup _ _ => by unfold Ir.isD at h; cases h
  | n + 1, _, _, h, .tup ht hs => .tup ht.sq (Rvs.dp S (n := n) (by unfold Ir.isD at h; exact h) hs)
  | n, _, _, h, .kup _ _ => by unfold Ir.isD at h; cases h
  | n, _, _, h, .scr _ => by unfold Ir.isD at h; cases h
  | 0, _, _, h, .lst _ _ => by unfold Ir.isD at h; cases h
  | n + 1, _, _, h, .lst ht hs => .lst (S.lst ht) (Rvs.dp S (n := n) (by unfold Ir.isD at h; exact h) hs)
  | n, _, _, h, .dK _ _ _ => by unfold Ir.isD at h; cases h
  | n, _, _, h, .dT _ _ _ => by unfold Ir.isD at h; cases h
  | n, _, _, h, .obj _ _ _ _ => by unfold Ir.isD at h; cases h
theorem Rvs.dp (S : Sa (XB X c) W σ ρ μ) : ∀ {n : Nat} {vs : List V} {ts : List Tr}, Ir.isDs n ts = true → Rvs (XB X c) W.H W.F vs ts → DpAll X.K W.H vs (dats ts)
  | _, _, _, _, .nil => .nil
  | n, _, _, h, .cons a b => .cons (Rv.dp S (n := n) (by unfold Ir.isDs at h; exact (Bool.and_eq_true_iff.mp h).1) a) (Rvs.dp S (n := n) (by unfold Ir.isDs at h; exact (Bool.and_eq_true_iff.mp h).2) b)
end
theorem Rw.dp (S : Sa (XB X c) W σ ρ μ) {n : Nat} {v : V} {t : Tr} (h : Ir.isD n t = true) (r : Rw (XB X c) W v t) : Dp X.K W.H v (dat t) := by
  cases t with
  | lst ts =>
    obtain ⟨a, vs, rfl, h1, h2⟩ := r
    cases n with
    | zero => unfold Ir.isD at h; cases h
    | succ n => exact .lst h1 (h2.dp S (n := n) (by unfold Ir.isD at h; exact h))
  | dic _ _ => unfold Ir.isD at h; cases h
  | _ => exact Rv.dp S h r
/-- flat ones -/
def flT : Tr → V
  | .non => .non
  | .bl b => .bl b
  | .int i => .int i
  | .str l => .str (S l)
  | _ => .non
theorem Rv.flat {H F : Hp} {B : Bs} {v : V} {t : Tr} (h : Ir.isF t = true) (r : Rv B H F v t) : v = flT t ∧ flatV v = true := by
  cases r <;> first | exact ⟨rfl, rfl⟩ | cases h
theorem Rvs.flat {H F : Hp} {B : Bs} : ∀ {vs : List V} {ts : List Tr}, ts.all Ir.isF = true → Rvs B H F vs ts → vs = ts.map flT ∧ vs.all flatV = true
  | _, _, _, .nil => ⟨rfl, rfl⟩
  | _, _, h, .cons a b => by
    rw [List.all_cons, Bool.and_eq_true] at h
    obtain ⟨e1, f1⟩ := a.flat h.1
    obtain ⟨e2, f2⟩ := Rvs.flat h.2 b
    refine ⟨by rw [e1, e2]; rfl, ?_⟩
    rw [List.all_cons, f1, f2]
    rfl
theorem eqV_eqT {a b : Tr} (ha : Ir.isF a = true) (hb : Ir.isF b = true) : eqV (flT a) (flT b) = Ir.eqT a b := by
  cases a <;> first | exact absurd ha Bool.false_ne_true | skip
  all_goals (cases b <;> first | exact absurd hb Bool.false_ne_true | skip)
  all_goals first | exact S_beq _ _ | (unfold flT eqV Ir.eqT; rfl)
theorem inV_any {x : Tr} {ts : List Tr} (hx : Ir.isF x = true) (h : ts.all Ir.isF = true) : inV (flT x) (ts.map flT) = ts.any fun t => Ir.eqT t x := by
  unfold inV
  rw [List.any_map]
  induction ts with
  | nil => rfl
  | cons t ts ih =>
    rw [List.all_cons, Bool.and_eq_true] at h
    rw [List.any_cons, List.any_cons, ih h.2]
    show (eqV (flT t) (flT x) || _) = _
    rw [eqV_eqT h.1 hx]
theorem any_dats {x : Tr} {n m : Nat} (hx : Ir.isD n x = true) : ∀ {ts : List Tr}, Ir.isDs m ts = true → ((dats ts).any fun z => PyData.eqv z (dat x)) = ts.any fun t => Ir.eqT t x
  | [], _ => rfl
  | t :: ts, h => by
    unfold Ir.isDs at h
    rw [Bool.and_eq_true] at h
    show (PyData.eqv (dat t) (dat x) || (dats ts).any fun z => PyData.eqv z (dat x)) = _
    rw [any_dats hx h.2, ← eqT_eqv m n t x h.1 hx]
    rfl
end
end Is

/-! If: comparisons, tests. -/
namespace Is
open PySem PySem.Spec PyProof.Rows L2 Wx
open Ir (Tr Cel Mem Ev EK SK Con Tg Op Cm I Sm wp wps)
section
variable {X : Cx} {c : Nat → Addr} {W : Wd} {σ : L2.St} {ρ : Ev} {μ : Mem} {n : Nat}
/-! in a tuple of data -/
theorem op_inTD {X : Cx} (hu : X.A.units + 65 < cLine) : OpR X (compareOp .In) (fun x y H Q => ∃ d ds, Dp X.K H x d ∧ Dp X.K H y (.tuple ds) ∧ SeqAt.shaped d = true ∧ SeqAt.shaped (.list ds) = true ∧ Q (.bl (ds.any fun z => PyData.eqv z d)) H) := by
  intro pins s σ H x y v u Q I rx ry h
  obtain ⟨d, ds, hd, he, sd, se, q⟩ := h
  obtain ⟨as, r1⟩ := Dp.reads I d x v hd rx
  obtain ⟨bs, r2⟩ := Dp.reads I (.tuple ds) y u he ry
  exact SeqAt.in_tuple_reads r2 r1 (SeqAt.canLay_of_shaped (d := .list ds) se) (SeqAt.canLay_of_shaped sd) (room_in_shaped sd hu) ⟨.bl _, H, I, rfl, q⟩
theorem op_notInTD {X : Cx} (hu : X.A.units + 65 < cLine) : OpR X (compareOp .NotIn) (fun x y H Q => ∃ d ds, Dp X.K H x d ∧ Dp X.K H y (.tuple ds) ∧ SeqAt.shaped d = true ∧ SeqAt.shaped (.list ds) = true ∧ Q (.bl (!ds.any fun z => PyData.eqv z d)) H) := by
  intro pins s σ H x y v u Q I rx ry h
  obtain ⟨d, ds, hd, he, sd, se, q⟩ := h
  obtain ⟨as, r1⟩ := Dp.reads I d x v hd rx
  obtain ⟨bs, r2⟩ := Dp.reads I (.tuple ds) y u he ry
  exact SeqAt.notIn_tuple_reads r2 r1 (SeqAt.canLay_of_shaped (d := .list ds) se) (SeqAt.canLay_of_shaped sd) (room_in_shaped sd hu) ⟨.bl _, H, I, rfl, q⟩
def cmOf : Cm → CmpOp
  | .eq => .Eq
  | .ne => .NotEq
  | .lt => .Lt
  | .le => .LtE
  | .gt => .Gt
  | .ge => .GtE
  | .isin => .In
  | .notin => .NotIn
  | .is => .Is
  | .isnot => .IsNot
/-! keys -/
def trK : Tr → Key
  | .int i => .inl i
  | .str l => .inr (S l)
  | _ => .inl 0
theorem kTr_trK {t : Tr} (h : Ir.isAt t = true) : kTr (trK t) = t := by
  cases t <;> first | exact absurd h Bool.false_ne_true | skip
  · rfl
  · show Tr.str (S _).cps.toList = _
    rw [S_list]
theorem kTr_inj {a b : Key} (h : kTr a = kTr b) : a = b := by
  cases a with
  | inl i => cases b with
    | inl j => cases h; rfl
    | inr y => cases h
  | inr x => cases b with
    | inl j => cases h
    | inr y =>
      have h' : x.cps.toList = y.cps.toList := Tr.str.inj h
      rw [S_eq x, S_eq y, h']
theorem kTr_eqT (a b : Key) : Ir.eqT (kTr a) (kTr b) = decide (a = b) := by
  cases a with
  | inl i => cases b with
    | inl j => show decide (i = j) = _; rw [Bool.eq_iff_iff]; simp
    | inr y => show false = _; simp
  | inr x => cases b with
    | inl j => show false = _; simp
    | inr y =>
      show decide (x.cps.toList = y.cps.toList) = _
      rw [Bool.eq_iff_iff]
      simp only [decide_eq_true_eq]
      exact ⟨fun h => by rw [S_eq x, S_eq y, h], fun h => by cases h; rfl⟩
theorem kTs_eqT (a b : List Key) : Ir.eqT (kTs a) (kTs b) = decide (a = b) := by
  show Ir.eqTs (a.map kTr) (b.map kTr) = _
  induction a generalizing b with
  | nil => cases b with
    | nil => rfl
    | cons y b => rfl
  | cons x a ih => cases b with
    | nil => rfl
    | cons y b =>
      show (Ir.eqT (kTr x) (kTr y) && Ir.eqTs (a.map kTr) (b.map kTr)) = _
      rw [kTr_eqT, ih, Bool.eq_iff_iff]
      simp
theorem kV_rv {B : Bs} {H F : Hp} {v : V} {t : Tr} (h : Ir.isAt t = true) (r : Rv B H F v t) : v = kV (trK t) := by
  cases r <;> first | exact absurd h Bool.false_ne_true | rfl
theorem kVs_rv {B : Bs} {H F : Hp} : ∀ {vs : List V} {ts : List Tr}, ts.all Ir.isAt = true → Rvs B H F vs ts → vs = (ts.map trK).map kV
  | _, _, _, .nil => rfl
  | _, _, h, .cons a b => by
    rw [List.all_cons, Bool.and_eq_true] at h
    rw [kV_rv h.1 a, kVs_rv h.2 b]
    rfl
theorem kTs_trK {ts : List Tr} (h : ts.all Ir.isAt = true) : kTs (ts.map trK) = .tup ts := by
  unfold kTs
  rw [List.map_map]
  congr 1
  rw [List.all_eq_true] at h
  exact (List.map_congr_left (fun t ht => kTr_trK (h t ht))).trans (List.map_id _)
/-- looked up in the tree and in the heap -/
theorem getT_val {κ : Type} [DecidableEq κ] {f : κ → Tr} (hf : ∀ a b, Ir.eqT (f a) (f b) = decide (a = b)) {B : Bs} {H F : Hp} : ∀ {us : List (κ × V)} {kvs : List (Tr × Tr)} (k : κ), us.map (fun p => f p.1) = kvs.map Prod.fst → Rvs B H F (us.map Prod.snd) (kvs.map Prod.snd) →
    (valV us k = none ∧ Ir.getT kvs (f k) = none) ∨ ∃ v t, valV us k = some v ∧ Ir.getT kvs (f k) = some t ∧ Rv B H F v t
  | [], [], k, _, _ => .inl ⟨rfl, rfl⟩
  | [], _ :: _, k, h, _ => by cases h
  | _ :: _, [], k, h, _ => by cases h
  | (k', v) :: us, (x, t) :: kvs, k, h, r => by
    rw [List.map_cons, List.map_cons] at h
    injection h with h1 h2
    simp only at h1
    subst h1
    cases r with
    | cons r1 r2 =>
      by_cases e : k' = k
      · subst e
        refine .inr ⟨v, t, ?_, ?_, r1⟩
        · simp [valV]
        · unfold Ir.getT
          rw [hf, decide_eq_true rfl, if_pos rfl]
      · have e1 : valV ((k', v) :: us) k = valV us k := by
          unfold valV
          rw [List.find?_cons_of_neg (by simpa using e)]
        have e2 : Ir.getT ((f k', t) :: kvs) (f k) = Ir.getT kvs (f k) := by
          show (if Ir.eqT (f k') (f k) = true then some t else Ir.getT kvs (f k)) = _
          rw [hf, decide_eq_false e, if_neg Bool.false_ne_true]
        rw [e1, e2]
        exact getT_val hf k h2 r2
theorem putT_put {κ : Type} [DecidableEq κ] {f : κ → Tr} (hf : ∀ a b, Ir.eqT (f a) (f b) = decide (a = b)) {B : Bs} {H F : Hp} {us : List (κ × V)} {kvs : List (Tr × Tr)} (k : κ) {v : V} {t : Tr} (h : us.map (fun p => f p.1) = kvs.map Prod.fst) (r : Rvs B H F (us.map Prod.snd) (kvs.map Prod.snd)) (q : Rv B H F v t) :
    (L2.putK us k v).map (fun p => f p.1) = (Ir.putT kvs (f k) t).map Prod.fst ∧ Rvs B H F ((L2.putK us k v).map Prod.snd) ((Ir.putT kvs (f k) t).map Prod.snd) := by
  have ha : (us.any fun kv => decide (kv.1 = k)) = kvs.any fun p => Ir.eqT p.1 (f k) := by
    have h1 : (us.any fun kv => decide (kv.1 = k)) = (us.map fun p => f p.1).any fun x => Ir.eqT x (f k) := by
      rw [List.any_map]
      congr 1
      funext p
      show _ = Ir.eqT (f p.1) (f k)
      rw [hf]
    rw [h1, h, List.any_map]
    rfl
  unfold L2.putK Ir.putT
  rw [ha]
  split
  · refine ⟨?_, ?_⟩
    · rw [List.map_map, List.map_map]
      have e1 : ((fun p : κ × V => f p.1) ∘ fun kv : κ × V => if kv.1 = k then (kv.1, v) else kv) = fun p => f p.1 := by
        funext p
        show f (if p.1 = k then (p.1, v) else p).1 = f p.1
        split <;> rfl
      have e2 : ((Prod.fst : Tr × Tr → Tr) ∘ fun p : Tr × Tr => if Ir.eqT p.1 (f k) = true then (p.1, t) else p) = Prod.fst := by
        funext p
        show (if Ir.eqT p.1 (f k) = true then (p.1, t) else p).1 = p.1
        split <;> rfl
      rw [e1, e2]
      exact h
    · clear ha
      rename_i hz
      clear hz
      induction us generalizing kvs with
      | nil => cases kvs with
        | nil => exact .nil
        | cons => cases h
      | cons p us ih => cases kvs with
        | nil => cases h
        | cons x kvs =>
          rw [List.map_cons, List.map_cons] at h
          injection h with h1 h2
          cases r with
          | cons r1 r2 =>
            have := ih h2 r2
            show Rvs B H F ((if p.1 = k then (p.1, v) else p).2 :: _) ((if Ir.eqT x.1 (f k) = true then (x.1, t) else x).2 :: _)
            refine .cons ?_ this
            rw [← h1, hf]
            by_cases e : p.1 = k
            · rw [if_pos e, decide_eq_true e, if_pos rfl]; exact q
            · rw [if_neg e, decide_eq_false e, if_neg Bool.false_ne_true]; exact r1
  · refine ⟨?_, ?_⟩
    · rw [List.map_append, List.map_append, h]; rfl
    · rw [List.map_append, List.map_append]; exact r.app (.cons q .nil)
/-- a dict that is looked at, by a key -/
theorem dget_ok {W : Wd} {σ ρ μ} {v y : V} {b : Bool} {kvs : List (Tr × Tr)} {x : Tr} (Sx : Sa (XB X c) W σ ρ μ) (r : Rw (XB X c) W v (.dic b kvs)) (q : Rv (XB X c) W.H W.F y x) (hk : Ir.isKey b x = true) :
    ∃ a o, v = .ref a ∧ IsD W.H a ∧ DGet W.H a y o ∧ ((o = none ∧ Ir.getT kvs x = none) ∨ ∃ u t, o = some u ∧ Ir.getT kvs x = some t ∧ Rv (XB X c) W.H W.F u t) := by
  cases b with
  | false =>
    obtain ⟨a, us, rfl, h1, h2, h3⟩ := r
    have hx : Ir.isAt x = true := by cases x <;> first | rfl | exact absurd hk Bool.false_ne_true
    have e : y = kV (trK x) := kV_rv hx q
    have := getT_val kTr_eqT (trK x) h2 h3
    rw [kTr_trK hx] at this
    exact ⟨a, _, rfl, .inl ⟨us, h1⟩, .inl ⟨us, trK x, h1, e, rfl⟩, this⟩
  | true =>
    obtain ⟨a, us, rfl, h1, h2, h3⟩ := r
    cases x with
    | tup ts =>
      have hk : ts.all Ir.isAt = true := hk
      cases q with
      | tup q1 q2 =>
        have e2 := kVs_rv hk q2
        have q1 : W.H _ = some _ := q1
        have := getT_val kTs_eqT (ts.map trK) h2 h3
        rw [kTs_trK hk] at this
        exact ⟨a, _, rfl, .inr ⟨us, h1⟩, .inr ⟨us, ts.map trK, _, h1, rfl, by rw [q1, e2], rfl⟩, this⟩
    | _ => exact absurd hk Bool.false_ne_true
end
end Is

/-! Ig: comparisons, tests, subscripts. -/
namespace Is
open PySem PySem.Spec PyProof.Rows L2 Wx
open Ir (Tr Cel Mem Ev EK SK Con Tg Op Cm I Sm wp wps)
section
variable {X : Cx} {c : Nat → Addr} {W : Wd} {σ : L2.St} {ρ : Ev} {μ : Mem} {n : Nat}
theorem Rw.rv {v t} (r : Rw (XB X c) W v t) (h1 : ∀ ts, t ≠ .lst ts) (h2 : ∀ b kvs, t ≠ .dic b kvs) : Rv (XB X c) W.H W.F v t := by
  cases t with
  | lst ts => exact absurd rfl (h1 ts)
  | dic b kvs => exact absurd rfl (h2 b kvs)
  | _ => exact r
theorem isKey_rv {b : Bool} {v x} (h : Ir.isKey b x = true) (r : Rw (XB X c) W v x) : Rv (XB X c) W.H W.F v x := by
  cases x with
  | lst ts => cases b <;> exact absurd h Bool.false_ne_true
  | dic d kvs => cases b <;> exact absurd h Bool.false_ne_true
  | _ => exact r
theorem inK_ok {neg : Bool} {x : Tr} {ts : List Tr} {v y : V} {Q : VK} (f : Cf X n) (Sx : Sa (XB X c) W σ ρ μ) (r1 : Rw (XB X c) W v x) (r2 : (Rw (XB X c) W y (.lst ts)) ∨ Rw (XB X c) W y (.tup ts)) (h : ((Ir.isF x && ts.all Ir.isF) || (Ir.isD 60 x && Ir.isDs 60 ts)) = true)
    (q : Q (.bl (if neg = true then !ts.any fun t => Ir.eqT t x else ts.any fun t => Ir.eqT t x)) W.H) : WO X (compareOp (if neg = true then .NotIn else .In)) v y W.H Q := by
  have hu : X.A.units + 65 < cLine := by have := f.hu; omega
  rw [Bool.or_eq_true, Bool.and_eq_true, Bool.and_eq_true] at h
  rcases h with h | h
  · have hs : ∃ p xs, y = .ref p ∧ (SqL X.K W.H p xs ∨ SqT X.K W.H p xs) ∧ Rvs (XB X c) W.H W.F xs ts := by
      rcases r2 with ⟨a, vs, rfl, h1, h2⟩ | r2
      · exact ⟨a, vs, rfl, .inl h1, h2⟩
      · cases r2 with | tup h1 h2 => exact ⟨_, _, rfl, .inr h1.sq, h2⟩
    obtain ⟨p, xs, rfl, hs, hr⟩ := hs
    have r1' : Rv (XB X c) W.H W.F v x := r1.rv (fun ts e => by subst e; exact absurd h.1 Bool.false_ne_true) (fun b kvs e => by subst e; exact absurd h.1 Bool.false_ne_true)
    obtain ⟨rfl, fx⟩ := r1'.flat h.1
    obtain ⟨rfl, fs⟩ := hr.flat h.2
    cases neg with
    | false => exact WO.of op_in_seq ⟨p, _, rfl, hs, fx, fs, by rw [inV_any h.1 h.2]; exact q⟩
    | true => exact WO.of op_notIn_seq ⟨p, _, rfl, hs, fx, fs, by rw [inV_any h.1 h.2]; exact q⟩
  · have d1 := r1.dp Sx h.1
    have s1 := dat_shaped h.1 (by decide)
    have s2 := dats_shapedL h.2 (by decide)
    rcases r2 with ⟨a, vs, rfl, h1, h2⟩ | r2
    · have d2 : Dp X.K W.H (.ref a) (.list (dats ts)) := .lst h1 (h2.dp Sx h.2)
      cases neg with
      | false => exact WO.of (op_inD hu) ⟨_, _, d1, d2, s1, s2, by rw [any_dats h.1 h.2]; exact q⟩
      | true => exact WO.of (op_notInD hu) ⟨_, _, d1, d2, s1, s2, by rw [any_dats h.1 h.2]; exact q⟩
    · cases r2 with
      | tup h1 h2 =>
        have d2 : Dp X.K W.H (.ref _) (.tuple (dats ts)) := .tup h1.sq (h2.dp Sx h.2)
        cases neg with
        | false => exact WO.of (op_inTD hu) ⟨_, _, d1, d2, s1, s2, by rw [any_dats h.1 h.2]; exact q⟩
        | true => exact WO.of (op_notInTD hu) ⟨_, _, d1, d2, s1, s2, by rw [any_dats h.1 h.2]; exact q⟩
theorem inKup_ok {neg : Bool} {x : Tr} {ts : List Tr} {v y : V} {Q : VK} (r1 : Rw (XB X c) W v x) (r2 : Rw (XB X c) W y (.ktup ts)) (h : (Ir.isF x && ts.all Ir.isF) = true)
    (q : Q (.bl (if neg = true then !ts.any fun t => Ir.eqT t x else ts.any fun t => Ir.eqT t x)) W.H) : WO X (compareOp (if neg = true then .NotIn else .In)) v y W.H Q := by
  rw [Bool.and_eq_true] at h
  cases r2 with
  | kup h1 hr =>
    have r1' : Rv (XB X c) W.H W.F v x := r1.rv (fun ts e => by subst e; exact absurd h.1 Bool.false_ne_true) (fun b kvs e => by subst e; exact absurd h.1 Bool.false_ne_true)
    obtain ⟨rfl, fx⟩ := r1'.flat h.1
    obtain ⟨rfl, fs⟩ := hr.flat h.2
    cases neg with
    | false => exact WO.of op_in_seq ⟨_, _, rfl, .inr h1.sq, fx, fs, by rw [inV_any h.1 h.2]; exact q⟩
    | true => exact WO.of op_notIn_seq ⟨_, _, rfl, .inr h1.sq, fx, fs, by rw [inV_any h.1 h.2]; exact q⟩
theorem eqK_ok {x z : Tr} {v y : V} {k : Bool → Prop} (f : Cf X n) (Sx : Sa (XB X c) W σ ρ μ) (r1 : Rw (XB X c) W v x) (r2 : Rw (XB X c) W y z) (h : Ir.eqK x z k) : ∃ b, k b ∧ (∀ Q : VK, Q (.bl b) W.H → WO X (compareOp .Eq) v y W.H Q) ∧ (∀ Q : VK, Q (.bl (!b)) W.H → WO X (compareOp .NotEq) v y W.H Q) := by
  unfold Ir.eqK at h
  split at h
  · cases r1; cases r2
    exact ⟨_, h, fun Q q => wo_eq q, fun Q q => wo_ne q⟩
  · cases r1; cases r2
    exact ⟨_, h, fun Q q => wo_eqSS q, fun Q q => wo_neSS q⟩
  · obtain ⟨h0, h⟩ := h
    rw [Bool.and_eq_true] at h0
    have d1 := r1.dp Sx h0.1
    have d2 := r2.dp Sx h0.2
    have s1 := dat_shaped h0.1 (by decide)
    have s2 := dat_shaped h0.2 (by decide)
    have e := eqT_eqv 60 60 _ _ h0.1 h0.2
    exact ⟨_, h, fun Q q => wo_eqDp f.hu64 d1 d2 s1 s2 (by rw [← e]; exact q), fun Q q => wo_neDp f.hu64 d1 d2 s1 s2 (by rw [← e]; exact q)⟩
theorem rw_non {x : Tr} (r : Rw (XB X c) W .non x) (h : x = .non → False) : False := by
  cases x with
  | lst ts => obtain ⟨a, vs, e, _⟩ := r; cases e
  | dic b kvs => cases b <;> (obtain ⟨a, vs, e, _⟩ := r; cases e)
  | non => exact h rfl
  | _ => cases r
theorem wo_in1 {c0 : Nat} {l : List Nat} {Q : VK} (q : Q (.bl (!decide (c0 ∈ l))) W.H) : WO X (compareOp .NotIn) (.str (S [c0])) (.str (S l)) W.H Q := by
  exact WO.of op_notIn_sign ⟨c0, S l, rfl, rfl, by rw [S_list]; exact q⟩
theorem cmpK_ok {o : Cm} {x z : Tr} {v y : V} {k : Tr → Prop} {Q : VK} (f : Cf X n) (Sx : Sa (XB X c) W σ ρ μ) (r1 : Rw (XB X c) W v x) (r2 : Rw (XB X c) W y z) (h : Ir.cmpK o x z k)
    (q : ∀ b, k (.bl b) → Q (.bl b) W.H) : WO X (compareOp (cmOf o)) v y W.H Q := by
  unfold Ir.cmpK at h
  split at h
  · obtain ⟨b, h1, h2, _⟩ := eqK_ok f Sx r1 r2 h
    exact h2 Q (q _ h1)
  · obtain ⟨b, h1, _, h2⟩ := eqK_ok f Sx r1 r2 h
    exact h2 Q (q _ h1)
  · cases r1; cases r2; exact wo_lt (q _ h)
  · cases r1; cases r2; exact wo_le (q _ h)
  · cases r1; cases r2; exact wo_gt (q _ h)
  · cases r1; cases r2; exact wo_ge (q _ h)
  · cases r1; cases r2; exact wo_ltS (q _ h)
  · cases r1; cases r2; exact wo_leS (q _ h)
  · unfold Ir.sgK at h
    split at h
    · cases r1; cases r2; exact wo_inS (q _ h)
    · exact h.elim
  · unfold Ir.sgK at h
    split at h
    · cases r1; cases r2; exact wo_in1 (q _ h)
    · exact h.elim
  · exact inK_ok (neg := false) f Sx r1 (.inl r2) h.1 (q _ h.2)
  · exact inK_ok (neg := true) f Sx r1 (.inl r2) h.1 (q _ h.2)
  · exact inK_ok (neg := false) f Sx r1 (.inr r2) h.1 (q _ h.2)
  · exact inK_ok (neg := true) f Sx r1 (.inr r2) h.1 (q _ h.2)
  · exact inKup_ok (neg := false) r1 r2 h.1 (q _ h.2)
  · exact inKup_ok (neg := true) r1 r2 h.1 (q _ h.2)
  · have r1' : Rv (XB X c) W.H W.F v _ := isKey_rv h.1 r1
    obtain ⟨a, o, rfl, h1, h2, h3⟩ := dget_ok Sx r2 r1' h.1
    refine wo_din f.hu1 h2 ?_
    rcases h3 with ⟨rfl, e⟩ | ⟨u, t, rfl, e, _⟩
    · have h := h.2; rw [e] at h; exact q _ h
    · have h := h.2; rw [e] at h; exact q _ h
  · have r1' : Rv (XB X c) W.H W.F v _ := isKey_rv h.1 r1
    obtain ⟨a, o, rfl, h1, h2, h3⟩ := dget_ok Sx r2 r1' h.1
    refine wo_dnotin f.hu1 h2 ?_
    rcases h3 with ⟨rfl, e⟩ | ⟨u, t, rfl, e, _⟩
    · have h := h.2; rw [e] at h; exact q _ h
    · have h := h.2; rw [e] at h; exact q _ h
  · cases r2
    refine WO.of op_isN ⟨rfl, ?_⟩
    split at h
    · cases r1
      exact q _ h
    · exact h.elim
    · rename_i hn _
      have : v ≠ .non := fun e => by subst e; exact rw_non r1 hn
      rw [decide_eq_false this]
      exact q _ h
  · cases r2
    refine WO.of op_notN ⟨rfl, ?_⟩
    split at h
    · cases r1
      exact q _ h
    · exact h.elim
    · rename_i hn _
      have : v ≠ .non := fun e => by subst e; exact rw_non r1 hn
      rw [decide_eq_false this]
      exact q _ h
  · exact h.elim
end
end Is

/-! Ih: expressions. -/
namespace Is
open PySem PySem.Spec PyProof.Rows L2 Wx
open Ir (Tr Cel Mem Ev EK SK Con Tg Op Cm I Sm wp wps)
section
variable {X : Cx} {c : Nat → Addr} {n : Nat} {pos : Pos}
theorem rv_noptr {B : Bs} {H F : Hp} {v : V} {t : Tr} (r : Rv B H F v t) (i : Nat) : t ≠ .ptr i := fun e => by subst e; exact r.noptr
/-! ### comparisons -/
theorem pj_cmp {o a b x y} (f : Cf X n) (ha : PJ X c a x) (hb : PJ X c b y) (hm : behindInMarks (cmOf o) b = false := by first | exact nobehind _ (by decide) (by decide) | rfl) : PJ X c (.Compare a [cmOf o] [b] pos) (.cmp o x y) := fun ρ μ φ ε h W σ Q Sx k tk =>
  we_cmp (ha ρ μ _ ε h W σ _ Sx (fun W1 v1 t1 μ1 g1 S1 r1 h1 => hb ρ μ1 _ ε h1 W1 σ _ S1 (fun W2 v2 t2 μ2 g2 S2 r2 h2 => by
    obtain ⟨t1', r1', h2⟩ := (r1.go g2).view S2 h2
    obtain ⟨t2', r2', h2⟩ := r2.view S2 h2
    exact cmpK_ok f S2 r1' r2' h2 fun b hb => k W2 _ _ μ2 (g1.trans g2) S2 (.inl (.bl b)) hb) (tk_go g1 tk)) tk) hm
theorem pt_cmp {o a b x y} (f : Cf X n) (ha : PJ X c a x) (hb : PJ X c b y) (hm : behindInMarks (cmOf o) b = false := by first | exact nobehind _ (by decide) (by decide) | rfl) : PT X c (.Compare a [cmOf o] [b] pos) (.cmp o x y) := fun ρ μ φ ε h hφ W σ Q Sx k tk =>
  wt_cmp (ha ρ μ _ ε h W σ _ Sx (fun W1 v1 t1 μ1 g1 S1 r1 h1 => hb ρ μ1 _ ε h1 W1 σ _ S1 (fun W2 v2 t2 μ2 g2 S2 r2 h2 => by
    obtain ⟨t1', r1', h2⟩ := (r1.go g2).view S2 h2
    obtain ⟨t2', r2', h2⟩ := r2.view S2 h2
    exact cmpK_ok f S2 r1' r2' h2 fun b hb => ⟨b, rfl, k W2 b μ2 (g1.trans g2) S2 hb⟩) (tk_go g1 tk)) tk) hm
theorem rw_of_cmp {o : Cm} {x y : Tr} {k : Tr → Prop} {W : Wd} {v : V} {σ ρ μ} (Sx : Sa (XB X c) W σ ρ μ) (r : Rp (XB X c) W v x) (h : Ir.cmpK o x y k) (hx : ∀ i, x ≠ .ptr i) : Rw (XB X c) W v x := (r.rv hx).rw Sx
/-- a chain of two: ints and texts -/
theorem chain_noptr {o : Cm} {x y : Tr} {k : Tr → Prop} (h : Ir.cmpK o x y k) (ho : o = .lt ∨ o = .le) : (∀ i, x ≠ .ptr i) ∧ ∀ i, y ≠ .ptr i := by
  refine ⟨fun i e => ?_, fun i e => ?_⟩
  · subst e
    rcases ho with rfl | rfl <;> (unfold Ir.cmpK at h; cases y <;> exact h)
  · subst e
    rcases ho with rfl | rfl <;> (unfold Ir.cmpK at h; cases x <;> exact h)
theorem pj_chain {o p a b d x y z} (f : Cf X n) (ho : o = .lt ∨ o = .le) (hp : p = .lt ∨ p = .le) (ha : PJ X c a x) (hb : PJ X c b y) (hd : PJ X c d z) (hm : lastMarks [cmOf o, cmOf p] [b, d] = false := by with_unfolding_all rfl) : PJ X c (.Compare a [cmOf o, cmOf p] [b, d] pos) (.chain o p x y z) := fun ρ μ φ ε h W σ Q Sx k tk =>
  we_chain (ha ρ μ _ ε h W σ _ Sx (fun W1 v1 t1 μ1 g1 S1 r1 h1 => hb ρ μ1 _ ε h1 W1 σ _ S1 (fun W2 v2 t2 μ2 g2 S2 r2 h2 => by
    obtain ⟨n1, n2⟩ := chain_noptr h2 ho
    refine cmpK_ok f S2 ((r1.go g2).rv n1 |>.rw S2) ((r2.rv n2).rw S2) h2 fun b0 hb0 => ⟨b0, rfl, ?_⟩
    cases b0 with
    | true =>
      rw [if_pos rfl]
      exact hd ρ μ2 _ ε hb0 W2 σ _ S2 (fun W3 v3 t3 μ3 g3 S3 r3 h3 => by
        obtain ⟨n3, n4⟩ := chain_noptr h3 hp
        exact cmpK_ok f S3 (((r2.go g3).rv n3).rw S3) ((r3.rv n4).rw S3) h3 fun b1 hb1 => k W3 _ _ μ3 ((g1.trans g2).trans g3) S3 (.inl (.bl b1)) hb1) (tk_go (g1.trans g2) tk)
    | false =>
      rw [if_neg Bool.false_ne_true]
      exact k W2 _ _ μ2 (g1.trans g2) S2 (.inl (.bl false)) hb0) (tk_go g1 tk)) tk) hm
/-! ### tests -/
theorem pt_val {e x} (h : PJ X c e x) (he : ∀ whole, isTrue e X.env whole = (do let v ← whole; standAt e.pos; holding [v] (truthy v)) := by intro _; rfl) : PT X c e x := fun ρ μ φ ε hw hφ W σ Q Sx k tk =>
  wt_val (h ρ μ φ ε hw W σ _ Sx (fun W1 v1 t1 μ1 g1 S1 r1 h1 => by
    obtain ⟨b, rfl⟩ := hφ _ _ h1
    have r1 := r1.rv (by intro i e; cases e)
    cases r1
    exact ⟨b, rfl, k W1 b μ1 g1 S1 h1⟩) tk) he
theorem pt_not {a x} (h : PT X c a x) : PT X c (.UnaryOp .Not a pos) (.not x) := fun ρ μ φ ε hw hφ W σ Q Sx k tk =>
  wt_not (h ρ μ _ ε hw (fun t μ h => by cases t <;> first | exact ⟨_, rfl⟩ | exact h.elim) W σ _ Sx (fun W1 b μ1 g1 S1 h1 => k W1 _ μ1 g1 S1 h1) tk)
theorem pt_bop {op es x} (h : PW X c (.BoolOp op es pos) x) : PT X c (.BoolOp op es pos) x := fun ρ μ φ ε hw hφ W σ Q Sx k tk => wt_bop (h ρ μ φ ε hw hφ W σ Q Sx k tk)
theorem pw_one {op a x} (hop : op = .And ∨ op = .Or) (h : PT X c a x) : PW X c (.BoolOp op [a] pos) x := fun ρ μ φ ε hw hφ W σ Q Sx k tk => by
  rcases hop with rfl | rfl
  · exact ww_and1 (h ρ μ φ ε hw hφ W σ Q Sx k tk)
  · exact ww_or1 (h ρ μ φ ε hw hφ W σ Q Sx k tk)
theorem pw_and {a b rest x y} (ha : PT X c a x) (hb : PW X c (.BoolOp .And (b :: rest) pos) y) : PW X c (.BoolOp .And (a :: b :: rest) pos) (.and x y) := fun ρ μ φ ε hw hφ W σ Q Sx k tk =>
  ww_and (ha ρ μ _ ε hw (fun t μ h => by cases t <;> first | exact ⟨_, rfl⟩ | exact h.elim) W σ _ Sx (fun W1 b0 μ1 g1 S1 h1 => by
    cases b0 with
    | true => rw [if_pos rfl]; exact hb ρ μ1 φ ε h1 hφ W1 σ _ S1 (fun W2 b μ2 g2 S2 h2 => k W2 b μ2 (g1.trans g2) S2 h2) (tk_go g1 tk)
    | false => rw [if_neg Bool.false_ne_true]; exact k W1 false μ1 g1 S1 h1) tk)
theorem pw_or {a b rest x y} (ha : PT X c a x) (hb : PW X c (.BoolOp .Or (b :: rest) pos) y) : PW X c (.BoolOp .Or (a :: b :: rest) pos) (.or x y) := fun ρ μ φ ε hw hφ W σ Q Sx k tk =>
  ww_or (ha ρ μ _ ε hw (fun t μ h => by cases t <;> first | exact ⟨_, rfl⟩ | exact h.elim) W σ _ Sx (fun W1 b0 μ1 g1 S1 h1 => by
    cases b0 with
    | false => rw [if_neg Bool.false_ne_true]; exact hb ρ μ1 φ ε h1 hφ W1 σ _ S1 (fun W2 b μ2 g2 S2 h2 => k W2 b μ2 (g1.trans g2) S2 h2) (tk_go g1 tk)
    | true => rw [if_pos rfl]; exact k W1 true μ1 g1 S1 h1) tk)
/-- .. as values -/
theorem pj_one {op a x} (h : PJ X c a x) : PJ X c (.BoolOp op [a] pos) x := fun ρ μ φ ε hw W σ Q Sx k tk => we_one (h ρ μ φ ε hw W σ Q Sx k tk)
theorem pj_and {a b rest x y} (ha : PJ X c a x) (hb : PJ X c (.BoolOp .And (b :: rest) pos) y) : PJ X c (.BoolOp .And (a :: b :: rest) pos) (.and x y) := fun ρ μ φ ε hw W σ Q Sx k tk =>
  we_and (ha ρ μ _ ε hw W σ _ Sx (fun W1 v1 t1 μ1 g1 S1 r1 h1 => by
    split at h1
    · have r1 := r1.rv (by intro i e; cases e)
      cases r1
      refine ⟨true, rfl, ?_⟩
      rw [if_pos rfl]
      exact hb ρ μ1 φ ε h1 W1 σ _ S1 (fun W2 v t μ2 g2 S2 r2 h2 => k W2 v t μ2 (g1.trans g2) S2 r2 h2) (tk_go g1 tk)
    · have r1 := r1.rv (by intro i e; cases e)
      cases r1
      refine ⟨false, rfl, ?_⟩
      rw [if_neg Bool.false_ne_true]
      exact k W1 _ _ μ1 g1 S1 (.inl (.bl false)) h1
    · exact h1.elim) tk)
theorem pj_or {a b rest x y} (ha : PJ X c a x) (hb : PJ X c (.BoolOp .Or (b :: rest) pos) y) : PJ X c (.BoolOp .Or (a :: b :: rest) pos) (.or x y) := fun ρ μ φ ε hw W σ Q Sx k tk =>
  we_or (ha ρ μ _ ε hw W σ _ Sx (fun W1 v1 t1 μ1 g1 S1 r1 h1 => by
    split at h1
    · have r1 := r1.rv (by intro i e; cases e)
      cases r1
      refine ⟨true, rfl, ?_⟩
      rw [if_pos rfl]
      exact k W1 _ _ μ1 g1 S1 (.inl (.bl true)) h1
    · have r1 := r1.rv (by intro i e; cases e)
      cases r1
      refine ⟨false, rfl, ?_⟩
      rw [if_neg Bool.false_ne_true]
      exact hb ρ μ1 φ ε h1 W1 σ _ S1 (fun W2 v t μ2 g2 S2 r2 h2 => k W2 v t μ2 (g1.trans g2) S2 r2 h2) (tk_go g1 tk)
    · exact h1.elim) tk)
theorem pj_not {a x} (h : PJ X c a x) : PJ X c (.UnaryOp .Not a pos) (.not x) := fun ρ μ φ ε hw W σ Q Sx k tk =>
  we_not (h ρ μ _ ε hw W σ _ Sx (fun W1 v1 t1 μ1 g1 S1 r1 h1 => by
    split at h1
    · have r1 := r1.rv (by intro i e; cases e)
      cases r1
      exact ⟨_, rfl, k W1 _ _ μ1 g1 S1 (.inl (.bl _)) h1⟩
    · exact h1.elim) tk)
theorem pj_neg {a x} (h : PJ X c a x) : PJ X c (.UnaryOp .USub a pos) (.neg x) := fun ρ μ φ ε hw W σ Q Sx k tk =>
  we_un (h ρ μ _ ε hw W σ _ Sx (fun W1 v1 t1 μ1 g1 S1 r1 h1 => by
    split at h1
    · have r1 := r1.rv (by intro i e; cases e)
      cases r1
      exact wu_neg (k W1 _ _ μ1 g1 S1 (.inl (.int _)) h1)
    · exact h1.elim) tk)
theorem pj_ife {a b d x y z} (hd : PT X c d z) (ha : PJ X c a x) (hb : PJ X c b y) : PJ X c (.IfExp d a b pos) (.ife z x y) := fun ρ μ φ ε hw W σ Q Sx k tk =>
  we_if (hd ρ μ _ ε hw (fun t μ h => by cases t <;> first | exact ⟨_, rfl⟩ | exact h.elim) W σ _ Sx (fun W1 b0 μ1 g1 S1 h1 => by
    cases b0 with
    | true => rw [if_pos rfl]; exact ha ρ μ1 φ ε h1 W1 σ _ S1 (fun W2 v t μ2 g2 S2 r2 h2 => k W2 v t μ2 (g1.trans g2) S2 r2 h2) (tk_go g1 tk)
    | false => rw [if_neg Bool.false_ne_true]; exact hb ρ μ1 φ ε h1 W1 σ _ S1 (fun W2 v t μ2 g2 S2 r2 h2 => k W2 v t μ2 (g1.trans g2) S2 r2 h2) (tk_go g1 tk)) tk)
/-! ### displays -/
theorem pj_tup {es x1 a} (h : PA X c es a) : PJ X c (.Tuple es x1 pos) (.tup a) := fun ρ μ φ ε hw W σ Q Sx k tk =>
  we_tup (h ρ μ _ ε hw W σ _ Sx (fun W1 vs ts μ1 g1 S1 r1 h1 => by
    obtain ⟨hz, h1⟩ := Ir.szK_le h1
    obtain ⟨r, h1⟩ := r1.rvs h1
    refine ⟨by rw [r.length]; exact sz_le hz, fun p hp => ?_⟩
    obtain ⟨g, S'⟩ := S1.fresh (o := .tup vs) hp
    exact k _ _ _ μ1 (g1.trans g) S' (.inl (.tup upd_same (r.mono g.t g.f))) h1) tk)
theorem pn_lst {es a} (h : PA X c es a) : PN X c (.List es pos) (.lst a) := fun ρ μ φ ε hw W σ Q Sx k k2 k3 tk =>
  we_lst (h ρ μ _ ε hw W σ _ Sx (fun W1 vs ts μ1 g1 S1 r1 h1 => by
    obtain ⟨hz, h1⟩ := Ir.szK_le h1
    obtain ⟨r, h1⟩ := r1.rvs h1
    exact ⟨by rw [r.length]; exact sz_le hz, fun p hp => k W1 p vs ts μ1 g1 S1 hp r h1⟩) tk)
theorem pn_empK : PN X c (.Dict [] [] pos) (.emp false) := fun ρ μ φ ε hw W σ Q Sx k k2 k3 tk => we_newK fun p hp => k2 W p [] [] μ Go.refl Sx hp rfl .nil hw
theorem pn_empT : PN X c (.Dict [] [] pos) (.emp true) := fun ρ μ φ ε hw W σ Q Sx k k2 k3 tk => we_newT fun p hp => k3 W p [] [] μ Go.refl Sx hp rfl .nil hw
/-- a new thing, frozen at once -/
theorem pj_fz {e a} (h : PN X c e a) : PJ X c e a := fun ρ μ φ ε hw W σ Q Sx k tk =>
  h ρ μ φ ε hw W σ Q Sx (fun W1 p vs ts μ1 g1 S1 hp r h1 => by
      obtain ⟨g, S'⟩ := S1.newF (o := .lst vs) hp
      exact k _ _ _ μ1 (g1.trans g) S' (.inl (.lst upd_same (r.mono g.t g.f))) h1)
    (fun W1 p us kvs μ1 g1 S1 hp e r h1 => by
      obtain ⟨g, S'⟩ := S1.newF (o := .dK us) hp
      exact k _ _ _ μ1 (g1.trans g) S' (.inl (.dK upd_same e (r.mono g.t g.f))) h1)
    (fun W1 p us kvs μ1 g1 S1 hp e r h1 => by
      obtain ⟨g, S'⟩ := S1.newF (o := .dT us) hp
      exact k _ _ _ μ1 (g1.trans g) S' (.inl (.dT upd_same e (r.mono g.t g.f))) h1) tk
theorem own1 {W : Wd} {p : Addr} {o : HO} (hp : W.H p = none) : (∀ x, W.H x ≠ none → upd W.H p o x = W.H x) ∧ (∀ x ∈ [p], W.H x = none ∧ upd W.H p o x ≠ none) :=
  ⟨fun x hx => upd_ne fun e => by subst e; exact hx hp, fun x hx => by
    have : x = p := by simpa using hx
    subst this
    exact ⟨hp, by rw [upd_same]; exact fun z => nomatch z⟩⟩
theorem len_get {α : Type} {l : List α} {a : α} {m : Nat} (h : l.length = m) : (l ++ [a])[0 + m]? = some a := by
  rw [← h, Nat.zero_add, List.getElem?_append_right (Nat.le_refl _), Nat.sub_self]
  rfl
/-- a new thing, a cell of its own -/
theorem pj_ow {e a} (h : PN X c e a) : PJ X c e (.ow a) := fun ρ μ φ ε hw W σ Q Sx k tk =>
  h ρ μ _ ε hw W σ Q Sx (fun W1 p vs ts μ1 g1 S1 hp r h1 => by
      have h1 := snocK_at h1
      obtain ⟨o1, o2⟩ := own1 (o := .lst vs) hp
      have t1 : TEx W1.H (upd W1.H p (.lst vs)) := tex_new hp
      obtain ⟨g, S'⟩ := S1.newC (a := p) (fq := [p]) (c := .lst ts) o1 (by simp) o2 ⟨rfl, vs, upd_same, r.mono t1 (Ex.refl _)⟩
      exact k _ _ _ _ (g1.trans g) S' (.inr ⟨_, p, rfl, rfl, len_get S1.lA⟩) h1)
    (fun W1 p us kvs μ1 g1 S1 hp e r h1 => by
      have h1 := snocK_at h1
      obtain ⟨o1, o2⟩ := own1 (o := .dK us) hp
      have t1 : TEx W1.H (upd W1.H p (.dK us)) := tex_new hp
      obtain ⟨g, S'⟩ := S1.newC (a := p) (fq := [p]) (c := .dic false kvs) o1 (by simp) o2 ⟨rfl, us, upd_same, e, r.mono t1 (Ex.refl _)⟩
      exact k _ _ _ _ (g1.trans g) S' (.inr ⟨_, p, rfl, rfl, len_get S1.lA⟩) h1)
    (fun W1 p us kvs μ1 g1 S1 hp e r h1 => by
      have h1 := snocK_at h1
      obtain ⟨o1, o2⟩ := own1 (o := .dT us) hp
      have t1 : TEx W1.H (upd W1.H p (.dT us)) := tex_new hp
      obtain ⟨g, S'⟩ := S1.newC (a := p) (fq := [p]) (c := .dic true kvs) o1 (by simp) o2 ⟨rfl, us, upd_same, e, r.mono t1 (Ex.refl _)⟩
      exact k _ _ _ _ (g1.trans g) S' (.inr ⟨_, p, rfl, rfl, len_get S1.lA⟩) h1) tk
end
end Is

/-! Ii: more expressions. -/
namespace Is
open PySem PySem.Spec PyProof.Rows L2 Wx
open Ir (Tr Cel Mem Ev EK SK Con Tg Op Cm I Sm wp wps)
section
variable {X : Cx} {c : Nat → Addr} {n : Nat} {pos : Pos} {W : Wd} {σ : L2.St} {ρ : Ev} {μ : Mem}
/-! ### a cell is given out, frozen -/
theorem addH_at {G H : Hp} {fp : List Addr} {x : Addr} {o : HO} (h : x ∈ fp) (e : H x = some o) : addH G H fp x = some o := (addH_in h).trans e
theorem pj_mv {x : Str} {i : Nat} (hi : X.N[i]? = some x) (hv : Vis X.env.scope x := by first | exact Or.inl rfl | exact Or.inr (Or.inl rfl) | exact Or.inr (Or.inr rfl)) (hd : (x == ("__debug__" : Str)) = false := by decide)
    (hcd : (x == ("__classdict__" : Str)) = false := by decide) : PJ X c (.Name x pos) (.mv i) := fun ρ μ φ ε h W σ Q Sx k tk => by
  obtain ⟨t, h1, h2⟩ := getK_at h
  obtain ⟨v, h3, h4⟩ := Sx.env i t h1
  refine WE.of (pe_var hi hv hd hcd) ⟨v, h3, ?_⟩
  cases t with
  | ptr j =>
    obtain ⟨a, rfl, ha⟩ := h4.ptr
    obtain ⟨cl, hc, h2⟩ := celK_at h2
    obtain ⟨b, fp, hb, hO, hr⟩ := Sx.mem j cl hc
    rw [ha] at hb
    cases hb
    obtain ⟨g, S'⟩ := Sx.freeze hO
    have eF : Ex W.F (addH W.F W.H fp) := g.f
    cases cl with
    | lst ts =>
      obtain ⟨rfl, vs, e1, e2⟩ := hr
      have hh := k _ _ _ _ g S' (.inl (.lst (addH_at (by simp) e1) (e2.mono (TEx.refl _) eF))) (cputK_at h2)
      exact hh
    | lst2 tss =>
      obtain ⟨bs, rfl, e1, e2, e3⟩ := hr
      have : ∀ (bs : List Addr) (tss : List (List Tr)), bs.length = tss.length → (∀ (i : Nat) b ts, bs[i]? = some b → tss[i]? = some ts → ∃ vs, addH W.F W.H (a :: bs) b = some (.lst vs) ∧ Rvs (XB X c) W.H (addH W.F W.H (a :: bs)) vs ts) → Rvs (XB X c) W.H (addH W.F W.H (a :: bs)) (bs.map V.ref) (tss.map Tr.lst) := by
        intro bs tss hl
        generalize addH W.F W.H (a :: bs) = F'
        intro h
        induction bs generalizing tss with
        | nil => cases tss with
          | nil => exact .nil
          | cons => cases hl
        | cons b bs ih => cases tss with
          | nil => cases hl
          | cons ts tss =>
            obtain ⟨vs, q1, q2⟩ := h 0 b ts rfl rfl
            refine .cons (.lst q1 q2) (ih tss (by simpa using hl) fun i b' ts' h1 h2 => h (i + 1) b' ts' (by simpa using h1) (by simpa using h2))
      have hs := this bs tss e2 fun i b ts h1 h2 => by
        obtain ⟨vs, q1, q2⟩ := e3 i b ts h1 h2
        exact ⟨vs, addH_at (List.mem_cons_of_mem _ (List.mem_of_getElem? h1)) q1, q2.mono (TEx.refl _) eF⟩
      have hh := k _ _ _ _ g S' (.inl (.lst (addH_at (by simp) e1) hs)) (cputK_at h2)
      exact hh
    | dic b kvs =>
      cases b with
      | false =>
        obtain ⟨rfl, us, e1, e2, e3⟩ := hr
        have hh := k _ _ _ _ g S' (.inl (.dK (addH_at (by simp) e1) e2 (e3.mono (TEx.refl _) eF))) (cputK_at h2)
        exact hh
      | true =>
        obtain ⟨rfl, us, e1, e2, e3⟩ := hr
        have hh := k _ _ _ _ g S' (.inl (.dT (addH_at (by simp) e1) e2 (e3.mono (TEx.refl _) eF))) (cputK_at h2)
        exact hh
    | obj d fs =>
      obtain ⟨dx, fvs, rfl, e1, e2, e3, e4⟩ := hr
      have hh := k _ _ _ _ g S' (.inl (.obj (addH_at (by simp) e1) (addH_at (by simp) e2) e3 (e4.mono (TEx.refl _) eF))) (cputK_at h2)
      exact hh
    | _ => exact h2.elim
  | _ => exact h2.elim
/-! ### subscripts -/
theorem at_get {vs : List V} {ts : List Tr} {B : Bs} {H F : Hp} {i : Int} {t : Tr} (r : Rvs B H F vs ts) (h : Ir.atT ts i = some t) : ∃ v, atI vs i = some v ∧ Rv B H F v t := by
  unfold Ir.atT at h
  obtain ⟨j, hj, h⟩ := Option.bind_eq_some_iff.mp h
  obtain ⟨v, hv, rv⟩ := r.get' h
  refine ⟨v, ?_, rv⟩
  unfold atI
  rw [r.length, show ixN ts.length i = some j from hj]
  exact hv
theorem ixK_ok {x z : Tr} {v y : V} {k : Tr → Prop} {Q : VK} (f : Cf X n) (Sx : Sa (XB X c) W σ ρ μ) (r1 : Rw (XB X c) W v x) (r2 : Rp (XB X c) W y z) (h : Ir.ixK x z k)
    (q : ∀ u t, Rv (XB X c) W.H W.F u t → k t → Q u W.H) : WIx X v y W.H Q := by
  unfold Ir.ixK at h
  split at h
  · have r2 := r2.rv (by intro i e; cases e)
    cases r2
    obtain ⟨a, vs, rfl, h1, h2⟩ := r1
    obtain ⟨t, ht, h⟩ := h
    obtain ⟨u, hu, ru⟩ := at_get h2 ht
    exact wix_l h1 hu (q u t ru h)
  · have r2 := r2.rv (by intro i e; cases e)
    cases r2
    cases r1 with
    | tup h1 h2 =>
      obtain ⟨t, ht, h⟩ := h
      obtain ⟨u, hu, ru⟩ := at_get h2 ht
      exact wix_t h1.sq hu (q u t ru h)
  · have r2 := r2.rv (by intro i e; cases e)
    cases r2
    cases r1 with
    | kup h1 h2 =>
      obtain ⟨t, ht, h⟩ := h
      obtain ⟨u, hu, ru⟩ := at_get h2 ht
      exact wix_t h1.sq hu (q u t ru h)
  · have r2 := r2.rv (by intro i e; cases e)
    cases r2
    cases r1
    obtain ⟨hz, h⟩ := Ir.szK_le h
    obtain ⟨c0, hc, h⟩ := h
    exact wix_s (by rw [S_len]; exact hz) (by rw [S_list]; exact hc) (q _ _ (.str [c0]) h)
  · obtain ⟨hk, t, ht, h⟩ := h
    have r2' : Rv (XB X c) W.H W.F y z := by
      refine r2.rv fun i e => ?_
      subst e
      rename_i b kvs
      cases b <;> exact absurd hk Bool.false_ne_true
    obtain ⟨a, o, rfl, h1, h2, h3⟩ := dget_ok Sx r1 r2' hk
    rcases h3 with ⟨rfl, e⟩ | ⟨u, t', rfl, e, ru⟩
    · rw [e] at ht; cases ht
    · rw [e] at ht
      cases ht
      exact wix_d f.hu1 h2 (q u t ru h)
  · exact h.elim
theorem pj_ix {a b x y} (f : Cf X n) (ha : PJ X c a x) (hb : PJ X c b y) (hs : PlainIx b := by exact fun _ _ => rfl) : PJ X c (.Subscript a b pos) (.ix x y) := fun ρ μ φ ε h W σ Q Sx k tk =>
  we_ix (ha ρ μ _ ε h W σ _ Sx (fun W1 v1 t1 μ1 g1 S1 r1 h1 => hb ρ μ1 _ ε h1 W1 σ _ S1 (fun W2 v2 t2 μ2 g2 S2 r2 h2 => by
    obtain ⟨t1', r1', h2⟩ := (r1.go g2).view S2 h2
    exact ixK_ok f S2 r1' r2 h2 fun u t ru hk => k W2 u t μ2 (g1.trans g2) S2 (.inl ru) hk) (tk_go g1 tk)) tk) hs
/-! ### slices -/
theorem part_cut {vs : List V} {ts : List Tr} {B : Bs} {H F : Hp} {lo hi : Option Int} (r : Rvs B H F vs ts) : Rvs B H F (cutV vs lo hi) (Ir.part ts lo hi) := by
  unfold cutV Ir.part
  rw [r.length]
  exact (r.drop _).take _
theorem bnd_eq (n d : Nat) (o : Option Int) : Ir.bnd n d o = HT.sIx n d o := by cases o <;> rfl
theorem part_cutS (l : List Nat) (lo hi : Option Int) : cutS (S l) lo hi = S (Ir.part l lo hi) := by
  unfold cutS Ir.part
  rw [S_len, S_list]
  rfl
/-- a part: a text, a new tuple, a new list -/
theorem slK_ok {x : Tr} {lo hi : Option Int} {v : V} {k : Tr → Prop} {Q : VK} (Sx : Sa (XB X c) W σ ρ μ) (r1 : Rw (XB X c) W v x) (h : Ir.slK x lo hi k)
    (q : ∀ W' u t, Go W W' → Sa (XB X c) W' σ ρ μ → Rv (XB X c) W'.H W'.F u t → k t → Q u W'.H) (q2 : ∀ p vs ts, W.H p = none → Rvs (XB X c) W.H W.F vs ts → k (.lst ts) → Q (.ref p) (upd W.H p (.lst vs))) : WSl X v lo hi W.H Q := by
  unfold Ir.slK at h
  split at h
  · cases r1
    obtain ⟨hz, h⟩ := Ir.szK_le h
    exact WSl.of sl_str ⟨_, rfl, sz_le (by rw [S_len]; exact hz), by rw [part_cutS]; exact q W _ _ Go.refl Sx (.str _) h⟩
  · cases r1 with
    | tup h1 h2 =>
      refine WSl.of sl_tup ⟨_, _, rfl, h1.sq, ?_, fun p hp => ?_⟩
      · rw [h2.length, ← bnd_eq, ← bnd_eq]; exact h.1
      · obtain ⟨g, S'⟩ := Sx.fresh (o := .tup (cutV _ lo hi)) hp
        exact q _ _ _ g S' (.tup upd_same ((part_cut h2).mono g.t g.f)) h.2
  · obtain ⟨a, vs, rfl, h1, h2⟩ := r1
    exact WSl.of sl_list ⟨a, vs, rfl, h1, fun p hp => q2 p _ _ hp (part_cut h2) h⟩
  · exact h.elim
/-- a part, its result by k (texts, tuples) or by k2 (a new list) -/
def SlQ (X : Cx) (c : Nat → Addr) (W : Wd) (σ : L2.St) (ρ : Ev) (φ : EK) (Q : VK) : Prop := (∀ W' v t μ', Go W W' → Sa (XB X c) W' σ ρ μ' → Rv (XB X c) W'.H W'.F v t → φ t μ' → Q v W'.H) ∧ (∀ W' p vs ts μ', Go W W' → Sa (XB X c) W' σ ρ μ' → W'.H p = none → Rvs (XB X c) W'.H W'.F vs ts → φ (.lst ts) μ' → Q (.ref p) (upd W'.H p (.lst vs)))
theorem sl_fin {W W3 : Wd} {φ : EK} {Q : VK} (hq : SlQ X c W σ ρ φ Q) {v : V} {t : Tr} {μ3 : Mem} {a b : Option Int} (g3 : Go W W3) (S3 : Sa (XB X c) W3 σ ρ μ3) (r3 : Rp (XB X c) W3 v t) (h3 : Ir.tv μ3 t fun t => Ir.slK t a b fun t => φ t μ3) : WSl X v a b W3.H Q := by
  obtain ⟨t', r', h3⟩ := r3.view S3 h3
  exact slK_ok S3 r' h3 (fun W' u t g S' ru hk => hq.1 W' u t μ3 (g3.trans g) S' ru hk) fun p vs ts hp r hk => hq.2 W3 p vs ts μ3 g3 S3 hp r hk
theorem int_of {B : Bs} {W : Wd} {v : V} {i : Int} (r : Rp B W v (.int i)) : v = .int i := by
  have r := r.rv (by intro i e; cases e)
  cases r
  rfl
section
variable {e lo hi : Expr} {x l h : I} {p2 : Pos}
theorem sl00_ok (he : PJ X c e x) {ρ μ φ ε} (hw : wp (.sl00 x) ρ μ φ ε) {W : Wd} {σ} {Q : VK} (Sx : Sa (XB X c) W σ ρ μ) (hq : SlQ X c W σ ρ φ Q) (tk : Takes X (xW (XB X c) W σ ρ ε)) : WE X (.Subscript e (.Slice none none none p2) pos) σ W.H Q :=
  we_sl00 (he ρ μ _ ε hw W σ _ Sx (fun W1 v1 t1 μ1 g1 S1 r1 h1 => sl_fin hq g1 S1 r1 h1) tk)
theorem sl01_ok (he : PJ X c e x) (hh : PJ X c hi h) {ρ μ φ ε} (hw : wp (.sl01 x h) ρ μ φ ε) {W : Wd} {σ} {Q : VK} (Sx : Sa (XB X c) W σ ρ μ) (hq : SlQ X c W σ ρ φ Q) (tk : Takes X (xW (XB X c) W σ ρ ε)) : WE X (.Subscript e (.Slice none (some hi) none p2) pos) σ W.H Q :=
  we_sl01 (he ρ μ _ ε hw W σ _ Sx (fun W1 v1 t1 μ1 g1 S1 r1 h1 => hh ρ μ1 _ ε h1 W1 σ _ S1 (fun W2 v2 t2 μ2 g2 S2 r2 h2 => by
    split at h2
    · exact ⟨_, int_of r2, sl_fin hq (g1.trans g2) S2 (r1.go g2) h2⟩
    · exact h2.elim) (tk_go g1 tk)) tk)
theorem sl10_ok (he : PJ X c e x) (hl : PJ X c lo l) {ρ μ φ ε} (hw : wp (.sl10 x l) ρ μ φ ε) {W : Wd} {σ} {Q : VK} (Sx : Sa (XB X c) W σ ρ μ) (hq : SlQ X c W σ ρ φ Q) (tk : Takes X (xW (XB X c) W σ ρ ε)) : WE X (.Subscript e (.Slice (some lo) none none p2) pos) σ W.H Q :=
  we_sl10 (he ρ μ _ ε hw W σ _ Sx (fun W1 v1 t1 μ1 g1 S1 r1 h1 => hl ρ μ1 _ ε h1 W1 σ _ S1 (fun W2 v2 t2 μ2 g2 S2 r2 h2 => by
    split at h2
    · exact ⟨_, int_of r2, sl_fin hq (g1.trans g2) S2 (r1.go g2) h2⟩
    · exact h2.elim) (tk_go g1 tk)) tk)
theorem sl11_ok (he : PJ X c e x) (hl : PJ X c lo l) (hh : PJ X c hi h) {ρ μ φ ε} (hw : wp (.sl11 x l h) ρ μ φ ε) {W : Wd} {σ} {Q : VK} (Sx : Sa (XB X c) W σ ρ μ) (hq : SlQ X c W σ ρ φ Q) (tk : Takes X (xW (XB X c) W σ ρ ε)) : WE X (.Subscript e (.Slice (some lo) (some hi) none p2) pos) σ W.H Q :=
  we_sl11 (he ρ μ _ ε hw W σ _ Sx (fun W1 v1 t1 μ1 g1 S1 r1 h1 => hl ρ μ1 _ ε h1 W1 σ _ S1 (fun W2 v2 t2 μ2 g2 S2 r2 h2 => by
    split at h2
    · refine ⟨_, int_of r2, ?_⟩
      exact hh ρ μ2 _ ε h2 W2 σ _ S2 (fun W3 v3 t3 μ3 g3 S3 r3 h3 => by
        split at h3
        · exact ⟨_, int_of r3, sl_fin hq ((g1.trans g2).trans g3) S3 ((r1.go g2).go g3) h3⟩
        · exact h3.elim) (tk_go (g1.trans g2) tk)
    · exact h2.elim) (tk_go g1 tk)) tk)
/-- results: of any kind, frozen; of lists, new -/
theorem slq_j {φ : EK} {Q : VK} (k : ∀ W' v t μ', Go W W' → Sa (XB X c) W' σ ρ μ' → Rp (XB X c) W' v t → φ t μ' → Q v W'.H) : SlQ X c W σ ρ φ Q := ⟨fun W' v t μ' g S' r h => k W' v t μ' g S' (.inl r) h, fun W1 p vs ts μ1 g1 S1 hp r h1 => by
  obtain ⟨g, S'⟩ := S1.newF (o := .lst vs) hp
  exact k _ _ _ μ1 (g1.trans g) S' (.inl (.lst upd_same (r.mono g.t g.f))) h1⟩
theorem pj_sl00 (he : PJ X c e x) : PJ X c (.Subscript e (.Slice none none none p2) pos) (.sl00 x) := fun ρ μ φ ε hw W σ Q Sx k tk => sl00_ok he hw Sx (slq_j k) tk
theorem pj_sl01 (he : PJ X c e x) (hh : PJ X c hi h) : PJ X c (.Subscript e (.Slice none (some hi) none p2) pos) (.sl01 x h) := fun ρ μ φ ε hw W σ Q Sx k tk => sl01_ok he hh hw Sx (slq_j k) tk
theorem pj_sl10 (he : PJ X c e x) (hl : PJ X c lo l) : PJ X c (.Subscript e (.Slice (some lo) none none p2) pos) (.sl10 x l) := fun ρ μ φ ε hw W σ Q Sx k tk => sl10_ok he hl hw Sx (slq_j k) tk
theorem pj_sl11 (he : PJ X c e x) (hl : PJ X c lo l) (hh : PJ X c hi h) : PJ X c (.Subscript e (.Slice (some lo) (some hi) none p2) pos) (.sl11 x l h) := fun ρ μ φ ε hw W σ Q Sx k tk => sl11_ok he hl hh hw Sx (slq_j k) tk
end
/-! ### star -/
theorem Rps.app {B : Bs} {W : Wd} {vs ws : List V} {ts us : List Tr} (a : Rps B W vs ts) (b : Rps B W ws us) : Rps B W (vs ++ ws) (ts ++ us) := by
  induction a with
  | nil => exact b
  | cons h _ ih => exact .cons h ih
theorem pa_star {e es p a b} (ha : PJ X c e a) (hb : PA X c es b) (hs : starEach (.Starred e p :: es) X.env = (true, eval e X.env) :: starEach es X.env := by rfl) : PA X c (.Starred e p :: es) (.star a b) := fun ρ μ ψ ε h W σ Q Sx k tk => by
  refine wa_star (ha ρ μ _ ε h W σ _ Sx (fun W1 v1 t1 μ1 g1 S1 r1 h1 => ?_) tk) hs
  obtain ⟨t', r', h1⟩ := r1.view S1 h1
  unfold Ir.sqLT at h1
  have go : ∀ (a0 : Addr) (vs : List V) (zs : List Tr), v1 = .ref a0 → (SqT X.K W1.H a0 vs ∨ SqL X.K W1.H a0 vs) → Rvs (XB X c) W1.H W1.F vs zs → wp b ρ μ1 (fun y μ => match y with | .tup xs => Ir.szK (zs.length + xs.length) (ψ (zs ++ xs) μ) | _ => False) ε → ∃ a xs, v1 = V.ref a ∧ (SqT X.K W1.H a xs ∨ SqL X.K W1.H a xs) ∧ WA X es σ W1.H fun ys H2 => Q (xs ++ ys) H2 := fun a0 vs zs e0 hsq r hw => by
    refine ⟨a0, vs, e0, hsq, hb ρ μ1 (fun xs μ => Ir.szK (zs.length + xs.length) (ψ (zs ++ xs) μ)) ε hw W1 σ _ S1 (fun W2 ws ts μ2 g2 S2 r2 h2 => ?_) (tk_go g1 tk)⟩
    obtain ⟨_, h2⟩ := Ir.szK_le h2
    refine k W2 _ _ μ2 (g1.trans g2) S2 ?_ h2
    exact (Rps.of (B := XB X c) (W := W2) (r.mono g2.t g2.f)).app r2
  split at h1
  · obtain ⟨a0, vs, e0, h3, h4⟩ := r'
    exact go a0 vs _ e0 (.inr h3) h4 h1
  · cases r' with
    | tup h3 h4 => exact go _ _ _ rfl (.inl h3.sq) h4 h1
  · exact h1.elim
end
end Is

/-! Ij: built-ins. -/
namespace Is
open PySem PySem.Spec PyProof.Rows L2 Wx
open Ir (Tr Cel Mem Ev EK SK Con Tg Op Cm I Sm wp wps)
section
variable {X : Cx} {c : Nat → Addr} {n : Nat} {pos p0 : Pos} {W : Wd} {σ : L2.St} {ρ : Ev} {μ : Mem}
theorem lmin_eq : ∀ {ns : List Int} {m : Int}, m ∈ ns → (∀ y, y ∈ ns → m ≤ y) → Ir.lmin ns = m
  | [], m, h, _ => by cases h
  | [a], m, h, _ => by
    have : m = a := by simpa using h
    exact this.symm
  | a :: b :: r, m, h, hm => by
    show min a (Ir.lmin (b :: r)) = m
    have key : ∀ l : List Int, l ≠ [] → Ir.lmin l ∈ l ∧ ∀ y ∈ l, Ir.lmin l ≤ y := by
      intro l hl
      induction l with
      | nil => exact absurd rfl hl
      | cons a l ih =>
        cases l with
        | nil => exact ⟨by simp [Ir.lmin], fun y hy => by simp [Ir.lmin] at hy ⊢; omega⟩
        | cons b l =>
          obtain ⟨h1, h2⟩ := ih (by simp)
          have e : Ir.lmin (a :: b :: l) = min a (Ir.lmin (b :: l)) := rfl
          rw [e]
          refine ⟨?_, fun y hy => ?_⟩
          · by_cases hh : a ≤ Ir.lmin (b :: l)
            · rw [show min a (Ir.lmin (b :: l)) = a by omega]; simp
            · rw [show min a (Ir.lmin (b :: l)) = Ir.lmin (b :: l) by omega]; exact List.mem_cons_of_mem _ h1
          · rcases List.mem_cons.mp hy with rfl | hy
            · omega
            · have := h2 y hy; omega
    obtain ⟨h1, h2⟩ := key (a :: b :: r) (by simp)
    have e : Ir.lmin (a :: b :: r) = min a (Ir.lmin (b :: r)) := rfl
    rw [e] at h1 h2
    have h3 := h2 m h
    have h4 := hm _ h1
    omega
theorem lmax_eq : ∀ {ns : List Int} {m : Int}, m ∈ ns → (∀ y, y ∈ ns → y ≤ m) → Ir.lmax ns = m := by
  intro ns m h hm
  have key : ∀ l : List Int, l ≠ [] → Ir.lmax l ∈ l ∧ ∀ y ∈ l, y ≤ Ir.lmax l := by
    intro l hl
    induction l with
    | nil => exact absurd rfl hl
    | cons a l ih =>
      cases l with
      | nil => exact ⟨by simp [Ir.lmax], fun y hy => by simp [Ir.lmax] at hy ⊢; omega⟩
      | cons b l =>
        obtain ⟨h1, h2⟩ := ih (by simp)
        have e : Ir.lmax (a :: b :: l) = max a (Ir.lmax (b :: l)) := rfl
        rw [e]
        refine ⟨?_, fun y hy => ?_⟩
        · by_cases hh : Ir.lmax (b :: l) ≤ a
          · rw [show max a (Ir.lmax (b :: l)) = a by omega]; simp
          · rw [show max a (Ir.lmax (b :: l)) = Ir.lmax (b :: l) by omega]; exact List.mem_cons_of_mem _ h1
        · rcases List.mem_cons.mp hy with rfl | hy
          · omega
          · have := h2 y hy; omega
  have hne : ns ≠ [] := fun e => by subst e; cases h
  obtain ⟨h1, h2⟩ := key ns hne
  have h3 := h2 m h
  have h4 := hm _ h1
  omega
/-- the argument of a built-in of one argument -/
theorem call1 {e : Expr} {a : I} {f : Value} (ha : PJ X c e a) {ρ μ ε} {ψ : Tr → Mem → Prop} (h : wp a ρ μ (fun x μ => Ir.tv μ x fun x => ψ x μ) ε) {W : Wd} {σ} {Q : VK} (Sx : Sa (XB X c) W σ ρ μ)
    (k : ∀ W' v t μ', Go W W' → Sa (XB X c) W' σ ρ μ' → Rw (XB X c) W' v t → ψ t μ' → WC X f [v] W'.H Q) (tk : Takes X (xW (XB X c) W σ ρ ε)) (hs : starEach [e] X.env = (false, eval e X.env) :: starEach [] X.env := by rfl) : WA X [e] σ W.H fun xs H1 => WC X f xs H1 Q :=
  wa_cons (ha ρ μ _ ε h W σ _ Sx (fun W1 v1 t1 μ1 g1 S1 r1 h1 => by
    obtain ⟨t', r', h1⟩ := r1.view S1 h1
    exact wa_nil (k W1 v1 t' μ1 g1 S1 r' h1)) tk) hs
theorem wp1 {f : Ir.Bl} {a : I} {ρ μ φ ε} (h : wp (.blt f (.cons a .nil)) ρ μ φ ε) : wp a ρ μ (fun x μ => Ir.tv μ x fun x => Ir.bltK f [x] fun t => φ t μ) ε := h
theorem pj_len {e a} (hm : X.mg "len" = none) (ha : PJ X c e a) (hs : starEach [e] X.env = (false, eval e X.env) :: starEach [] X.env := by rfl) (hg : Gl X "len" := by rfl) : PJ X c (.Call (.Name "len" p0) [e] [] pos) (.blt .len (.cons a .nil)) := fun ρ μ φ ε h W σ Q Sx k tk =>
  we_len hm (call1 ha (wp1 h) Sx (fun W1 v t μ1 g1 S1 r1 h1 => by
    cases t with
    | lst ts =>
      obtain ⟨a0, vs, rfl, h3, h4⟩ := r1
      exact wc_lenL h3 (by rw [h4.length]; exact k W1 _ _ μ1 g1 S1 (.inl (.int _)) h1)
    | tup ts => cases r1 with | tup h3 h4 => exact wc_lenT h3.sq (by rw [h4.length]; exact k W1 _ _ μ1 g1 S1 (.inl (.int _)) h1)
    | str l =>
      cases r1
      obtain ⟨hz, h1⟩ := Ir.szK_le h1
      exact wc_lenSS hz (k W1 _ _ μ1 g1 S1 (.inl (.int _)) h1)
    | _ => exact h1.elim) tk hs) hg hs rfl
theorem pj_intT {e a} (hm : X.mg "int" = none) (ha : PJ X c e a) (hs : starEach [e] X.env = (false, eval e X.env) :: starEach [] X.env := by rfl) (hg : Gl X "int" := by rfl) : PJ X c (.Call (.Name "int" p0) [e] [] pos) (.blt .int (.cons a .nil)) := fun ρ μ φ ε h W σ Q Sx k tk =>
  we_intT hm (call1 ha (wp1 h) Sx (fun W1 v t μ1 g1 S1 r1 h1 => by
    cases t with
    | int i => cases r1; exact wc_int (k W1 _ _ μ1 g1 S1 (.inl (.int _)) h1)
    | bl b => cases r1; exact WC.of call_int1 (.inr ⟨b, rfl, k W1 _ _ μ1 g1 S1 (.inl (.int _)) h1⟩)
    | _ => exact h1.elim) tk hs) hg hs rfl
theorem pj_strT {e a} (hm : X.mg "str" = none) (ha : PJ X c e a) (hs : starEach [e] X.env = (false, eval e X.env) :: starEach [] X.env := by rfl) (hg : Gl X "str" := by rfl) : PJ X c (.Call (.Name "str" p0) [e] [] pos) (.blt .str (.cons a .nil)) := fun ρ μ φ ε h W σ Q Sx k tk =>
  we_strT hm (call1 ha (wp1 h) Sx (fun W1 v t μ1 g1 S1 r1 h1 => by
    cases t with
    | str l => cases r1; exact wc_strS (k W1 _ _ μ1 g1 S1 (.inl (.str _)) h1)
    | _ => exact h1.elim) tk hs) hg hs rfl
theorem pj_tupleT {e a} (hm : X.mg "tuple" = none) (ha : PJ X c e a) (hs : starEach [e] X.env = (false, eval e X.env) :: starEach [] X.env := by rfl) (hg : Gl X "tuple" := by rfl) : PJ X c (.Call (.Name "tuple" p0) [e] [] pos) (.blt .tuple (.cons a .nil)) := fun ρ μ φ ε h W σ Q Sx k tk =>
  we_tupleT hm (call1 ha (wp1 h) Sx (fun W1 v t μ1 g1 S1 r1 h1 => by
    cases t with
    | lst ts =>
      obtain ⟨a0, vs, rfl, h3, h4⟩ := r1
      refine wc_tupleL h3 fun p hp => ?_
      obtain ⟨g, S'⟩ := S1.fresh (o := .tup vs) hp
      exact k _ _ _ μ1 (g1.trans g) S' (.inl (.tup upd_same (h4.mono g.t g.f))) h1
    | tup ts => cases r1 with | tup h3 h4 => exact wc_tupleT h3.sq (k W1 _ _ μ1 g1 S1 (.inl (.tup h3 h4)) h1)
    | _ => exact h1.elim) tk hs) hg hs rfl
theorem pn_listT {e a} (hm : X.mg "list" = none) (ha : PJ X c e a) (hs : starEach [e] X.env = (false, eval e X.env) :: starEach [] X.env := by rfl) (hg : Gl X "list" := by rfl) : PN X c (.Call (.Name "list" p0) [e] [] pos) (.blt .list (.cons a .nil)) := fun ρ μ φ ε h W σ Q Sx k k2 k3 tk =>
  we_listT hm (call1 ha (wp1 h) Sx (fun W1 v t μ1 g1 S1 r1 h1 => by
    cases t with
    | lst ts =>
      obtain ⟨a0, vs, rfl, h3, h4⟩ := r1
      exact wc_listL (.inl h3) fun p hp => k W1 p vs ts μ1 g1 S1 hp h4 h1
    | tup ts => cases r1 with | tup h3 h4 => exact wc_listL (.inr h3.sq) fun p hp => k W1 p _ ts μ1 g1 S1 hp h4 h1
    | _ => exact h1.elim) tk hs) hg hs rfl
theorem pj_minL {e a} (f : Cf X n) (hm : X.mg "min" = none) (ha : PJ X c e a) (hs : starEach [e] X.env = (false, eval e X.env) :: starEach [] X.env := by rfl) (hg : Gl X "min" := by rfl) : PJ X c (.Call (.Name "min" p0) [e] [] pos) (.blt .minL (.cons a .nil)) := fun ρ μ φ ε h W σ Q Sx k tk =>
  we_min hm (call1 ha (wp1 h) Sx (fun W1 v t μ1 g1 S1 r1 h1 => by
    cases t with
    | lst ts =>
      obtain ⟨a0, vs, rfl, h3, h4⟩ := r1
      obtain ⟨ns, rfl, h0, h1⟩ := h1
      rw [h4.ints_eq] at h3
      exact wc_minL f.calm h3 h0 fun m hm1 hm2 => by rw [← lmin_eq hm1 hm2]; exact k W1 _ _ μ1 g1 S1 (.inl (.int _)) h1
    | _ => exact h1.elim) tk hs) hg hs rfl
theorem pj_maxL {e a} (f : Cf X n) (hm : X.mg "max" = none) (ha : PJ X c e a) (hs : starEach [e] X.env = (false, eval e X.env) :: starEach [] X.env := by rfl) (hg : Gl X "max" := by rfl) : PJ X c (.Call (.Name "max" p0) [e] [] pos) (.blt .maxL (.cons a .nil)) := fun ρ μ φ ε h W σ Q Sx k tk =>
  we_max hm (call1 ha (wp1 h) Sx (fun W1 v t μ1 g1 S1 r1 h1 => by
    cases t with
    | lst ts =>
      obtain ⟨a0, vs, rfl, h3, h4⟩ := r1
      obtain ⟨ns, rfl, h0, h1⟩ := h1
      rw [h4.ints_eq] at h3
      exact wc_maxL f.calm h3 h0 fun m hm1 hm2 => by rw [← lmax_eq hm1 hm2]; exact k W1 _ _ μ1 g1 S1 (.inl (.int _)) h1
    | _ => exact h1.elim) tk hs) hg hs rfl
theorem pj_all {e a} (f : Cf X n) (hm : X.mg "all" = none) (ha : PJ X c e a) (hs : starEach [e] X.env = (false, eval e X.env) :: starEach [] X.env := by rfl) (hg : Gl X "all" := by rfl) : PJ X c (.Call (.Name "all" p0) [e] [] pos) (.blt .all (.cons a .nil)) := fun ρ μ φ ε h W σ Q Sx k tk =>
  we_all hm (call1 ha (wp1 h) Sx (fun W1 v t μ1 g1 S1 r1 h1 => by
    cases t with
    | lst ts =>
      obtain ⟨a0, vs, rfl, h3, h4⟩ := r1
      obtain ⟨bs, rfl, h1⟩ := h1
      rw [h4.bls_eq] at h3
      exact wc_allL f.calm h3 (k W1 _ _ μ1 g1 S1 (.inl (.bl _)) h1)
    | _ => exact h1.elim) tk hs) hg hs rfl
theorem pj_any {e a} (f : Cf X n) (hm : X.mg "any" = none) (ha : PJ X c e a) (hs : starEach [e] X.env = (false, eval e X.env) :: starEach [] X.env := by rfl) (hg : Gl X "any" := by rfl) : PJ X c (.Call (.Name "any" p0) [e] [] pos) (.blt .any (.cons a .nil)) := fun ρ μ φ ε h W σ Q Sx k tk =>
  we_any hm (call1 ha (wp1 h) Sx (fun W1 v t μ1 g1 S1 r1 h1 => by
    cases t with
    | lst ts =>
      obtain ⟨a0, vs, rfl, h3, h4⟩ := r1
      obtain ⟨bs, rfl, h1⟩ := h1
      rw [h4.bls_eq] at h3
      exact wc_anyL f.calm h3 (k W1 _ _ μ1 g1 S1 (.inl (.bl _)) h1)
    | _ => exact h1.elim) tk hs) hg hs rfl
/-- two ints -/
theorem call2 {e d : Expr} {a b : I} {f : Value} (ha : PJ X c e a) (hb : PJ X c d b) {ρ μ ε} {ψ : Tr → Tr → Mem → Prop} (h : wp a ρ μ (fun x μ => wp b ρ μ (fun y μ => ψ x y μ) ε) ε) {W : Wd} {σ} {Q : VK} (Sx : Sa (XB X c) W σ ρ μ)
    (k : ∀ W' v u t s μ', Go W W' → Sa (XB X c) W' σ ρ μ' → Rp (XB X c) W' v t → Rp (XB X c) W' u s → ψ t s μ' → WC X f [v, u] W'.H Q) (tk : Takes X (xW (XB X c) W σ ρ ε)) (hs : starEach [e, d] X.env = (false, eval e X.env) :: starEach [d] X.env := by rfl) (hs2 : starEach [d] X.env = (false, eval d X.env) :: starEach [] X.env := by rfl) : WA X [e, d] σ W.H fun xs H1 => WC X f xs H1 Q :=
  wa_cons (ha ρ μ _ ε h W σ _ Sx (fun W1 v1 t1 μ1 g1 S1 r1 h1 => wa_cons (hb ρ μ1 _ ε h1 W1 σ _ S1 (fun W2 v2 t2 μ2 g2 S2 r2 h2 => wa_nil (k W2 v1 v2 t1 t2 μ2 (g1.trans g2) S2 (r1.go g2) r2 h2)) (tk_go g1 tk)) hs2) tk) hs
theorem int_ofK {x y : Tr} {f : Ir.Bl} {k : Tr → Prop} (hf : f = .min2 ∨ f = .max2) (h : Ir.bltK f [x, y] k) : ∃ i j, x = .int i ∧ y = .int j := by
  rcases hf with rfl | rfl
  · cases x <;> first | exact h.elim | skip
    cases y <;> first | exact h.elim | exact ⟨_, _, rfl, rfl⟩
  · cases x <;> first | exact h.elim | skip
    cases y <;> first | exact h.elim | exact ⟨_, _, rfl, rfl⟩
theorem pj_min2 {e d a b} (f : Cf X n) (hm : X.mg "min" = none) (ha : PJ X c e a) (hb : PJ X c d b) (hs : starEach [e, d] X.env = (false, eval e X.env) :: starEach [d] X.env := by rfl) (hs2 : starEach [d] X.env = (false, eval d X.env) :: starEach [] X.env := by rfl) (hg : Gl X "min" := by rfl) (hpl : (backTo pos (starEach [d] X.env)).any (·.1) = false := by rfl) :
    PJ X c (.Call (.Name "min" p0) [e, d] [] pos) (.blt .min2 (.cons a (.cons b .nil))) := fun ρ μ φ ε h W σ Q Sx k tk =>
  we_min hm (call2 (ψ := fun x y μ => Ir.bltK .min2 [x, y] fun t => φ t μ) ha hb h Sx (fun W1 v u t s μ1 g1 S1 r1 r2 h1 => by
    obtain ⟨i, j, rfl, rfl⟩ := int_ofK (.inl rfl) h1
    rw [int_of r1, int_of r2]
    exact wc_min2 f.calm (by rw [min_eq]; exact k W1 _ _ μ1 g1 S1 (.inl (.int _)) h1)) tk hs hs2) hg hs hpl
theorem pj_max2 {e d a b} (f : Cf X n) (hm : X.mg "max" = none) (ha : PJ X c e a) (hb : PJ X c d b) (hs : starEach [e, d] X.env = (false, eval e X.env) :: starEach [d] X.env := by rfl) (hs2 : starEach [d] X.env = (false, eval d X.env) :: starEach [] X.env := by rfl) (hg : Gl X "max" := by rfl) (hpl : (backTo pos (starEach [d] X.env)).any (·.1) = false := by rfl) :
    PJ X c (.Call (.Name "max" p0) [e, d] [] pos) (.blt .max2 (.cons a (.cons b .nil))) := fun ρ μ φ ε h W σ Q Sx k tk =>
  we_max hm (call2 (ψ := fun x y μ => Ir.bltK .max2 [x, y] fun t => φ t μ) ha hb h Sx (fun W1 v u t s μ1 g1 S1 r1 r2 h1 => by
    obtain ⟨i, j, rfl, rfl⟩ := int_ofK (.inr rfl) h1
    rw [int_of r1, int_of r2]
    exact wc_max2 f.calm (by rw [max_eq]; exact k W1 _ _ μ1 g1 S1 (.inl (.int _)) h1)) tk hs hs2) hg hs hpl
/-! ### isinstance -/
theorem pj_ty {x : Str} {T : String} (hm : X.mg x = none) (hb : bootBuiltins x = some (.type T)) (hg : Gl X x := by rfl) (hn : x ≠ "__name__" := by decide) (hdb : (x == ("__debug__" : Str)) = false := by decide) : PJ X c (.Name x pos) (.c (.ty T)) := fun ρ μ φ ε h W σ Q Sx k tk =>
  WE.of (pe_bltn (v := .ty T) hg hm hb rfl hn hdb) (k W _ _ μ Go.refl Sx (.inl (.ty T)) h)
/-- what isinstance asks of the kinds of values -/
def tyN : Tr → Option String
  | .non => some "NoneType"
  | .bl _ => some "bool"
  | .int _ => some "int"
  | .str _ => some "str"
  | .tup _ => some "tuple"
  | .lst _ => some "list"
  | .dic false _ => some "dict"
  | _ => none
theorem tyX_of {v : V} {t : Tr} {T : String} (Sx : Sa (XB X c) W σ ρ μ) (r : Rw (XB X c) W v t) (h : tyN t = some T) : TyX X.K W.H v (.type T) := by
  cases t <;> first | (cases h) | skip
  · cases r; exact .base .non
  · cases r; exact .base (.bl _)
  · cases r; exact .base (.int _)
  · cases r; exact .base (.str _)
  · cases r with | tup h1 h2 => exact .base (.tup h1)
  · obtain ⟨a, vs, rfl, h1, h2⟩ := r
    rcases h1 with (h1 | ⟨o, h1⟩) | ⟨o, its, n, h1, h2, _⟩
    · exact .base (.lst h1)
    · exact .base (.frz h1)
    · exact .kList h1 h2
  · rename_i b kvs
    cases b with
    | true => cases h
    | false =>
      cases h
      obtain ⟨a, us, rfl, h1, _⟩ := r
      rcases h1 with h1 | ⟨o, h1⟩
      · exact .base (.dK h1)
      · exact .fDict h1
end
end Is

/-! Ik: isinstance, fields, texts, dicts. -/
namespace Is
open PySem PySem.Spec PyProof.Rows L2 Wx
open Ir (Tr Cel Mem Ev EK SK Con Tg Op Cm I Sm wp wps)
open Ir (Ty)
def tyS : Ty → String
  | .str => "str"
  | .int => "int"
  | .bool => "bool"
  | .list => "list"
  | .tuple => "tuple"
theorem kit_non (y : Ty) : kitB "NoneType" (tyS y) = some (y.has .non) := by cases y <;> decide +kernel
theorem kit_bl (y : Ty) : kitB "bool" (tyS y) = some (y.has (.bl true)) := by cases y <;> decide +kernel
theorem kit_int (y : Ty) : kitB "int" (tyS y) = some (y.has (.int 0)) := by cases y <;> decide +kernel
theorem kit_str (y : Ty) : kitB "str" (tyS y) = some (y.has (.str [])) := by cases y <;> decide +kernel
theorem kit_tup (y : Ty) : kitB "tuple" (tyS y) = some (y.has (.tup [])) := by cases y <;> decide +kernel
theorem kit_lst (y : Ty) : kitB "list" (tyS y) = some (y.has (.lst [])) := by cases y <;> decide +kernel
theorem kit_dic (y : Ty) : kitB "dict" (tyS y) = some (y.has (.dic false [])) := by cases y <;> decide +kernel
theorem kit_has {t : Tr} {T : String} (y : Ty) (h : tyN t = some T) : kitB T (tyS y) = some (y.has t) := by
  cases t <;> first | (cases h; done) | skip
  · cases h; exact kit_non y
  · cases h; rw [kit_bl y]; cases y <;> rfl
  · cases h; rw [kit_int y]; cases y <;> rfl
  · cases h; rw [kit_str y]; cases y <;> rfl
  · cases h; rw [kit_tup y]; cases y <;> rfl
  · cases h; rw [kit_lst y]; cases y <;> rfl
  · rename_i b kvs
    cases b <;> cases h
    rw [kit_dic y]; cases y <;> rfl
theorem isiK_at {t : Tr} {ns : List Ty} {k : Bool → Prop} (h : Ir.isiK t ns k) : (∃ T, tyN t = some T) ∧ k (ns.any fun y => y.has t) := by
  cases t <;> first | exact h.elim | exact ⟨⟨_, rfl⟩, h⟩ | skip
  rename_i b kvs
  cases b
  · exact ⟨⟨_, rfl⟩, h⟩
  · exact h.elim
section
variable {X : Cx} {c : Nat → Addr} {n : Nat} {pos p0 p1 : Pos} {W : Wd} {σ : L2.St} {ρ : Ev} {μ : Mem}
/-- isinstance(e, T) -/
theorem pj_isi {e a} {x : Str} (y : Ty) (hm : X.mg "isinstance" = none) (hx : X.mg x = none) (hb : bootBuiltins x = some (.type (tyS y))) (ha : PJ X c e a) (hs : starEach [e, .Name x p1] X.env = (false, eval e X.env) :: starEach [.Name x p1] X.env := by rfl) (hs2 : starEach [.Name x p1] X.env = (false, eval (.Name x p1) X.env) :: starEach [] X.env := by rfl) (hg : Gl X "isinstance" := by rfl) (hgx : Gl X x := by rfl)
    (hpl : (backTo pos (starEach [.Name x p1] X.env)).any (·.1) = false := by rfl) (hn : x ≠ "__name__" := by decide) (hdb : (x == ("__debug__" : Str)) = false := by decide) : PJ X c (.Call (.Name "isinstance" p0) [e, .Name x p1] [] pos) (.isi a [y]) := fun ρ μ φ ε h W σ Q Sx k tk =>
  we_isi hm (wa_cons (ha ρ μ _ ε h W σ _ Sx (fun W1 v1 t1 μ1 g1 S1 r1 h1 => wa_cons (WE.of (pe_bltn (v := .ty (tyS y)) hgx hx hb rfl hn hdb) (wa_nil (by
    obtain ⟨t', r', h1⟩ := r1.view S1 h1
    obtain ⟨⟨T, hT⟩, h1⟩ := isiK_at h1
    refine wc_isi (tyX_of S1 r' hT) (kit_has y hT) (k W1 _ _ μ1 g1 S1 (.inl (.bl _)) ?_)
    rw [List.any_cons, List.any_nil, Bool.or_false] at h1
    exact h1))) hs2) tk) hs) hg hs hpl
/-- isinstance(e, (T, U)) -/
theorem pj_isi2 {e a} {x z : Str} {p2 p3 : Pos} {x1} (y w : Ty) (hm : X.mg "isinstance" = none) (hx : X.mg x = none) (hb : bootBuiltins x = some (.type (tyS y))) (hz : X.mg z = none) (hb2 : bootBuiltins z = some (.type (tyS w))) (ha : PJ X c e a)
    (hs : starEach [e, .Tuple [.Name x p1, .Name z p2] x1 p3] X.env = (false, eval e X.env) :: starEach [.Tuple [.Name x p1, .Name z p2] x1 p3] X.env := by rfl) (hs2 : starEach [.Tuple [.Name x p1, .Name z p2] x1 p3] X.env = (false, eval (.Tuple [.Name x p1, .Name z p2] x1 p3) X.env) :: starEach [] X.env := by rfl)
    (hs3 : starEach [.Name x p1, .Name z p2] X.env = (false, eval (.Name x p1) X.env) :: starEach [.Name z p2] X.env := by rfl) (hs4 : starEach [.Name z p2] X.env = (false, eval (.Name z p2) X.env) :: starEach [] X.env := by rfl) (hg : Gl X "isinstance" := by rfl) (hgx : Gl X x := by rfl) (hgz : Gl X z := by rfl)
    (hpl : (backTo pos (starEach [.Tuple [.Name x p1, .Name z p2] x1 p3] X.env)).any (·.1) = false := by rfl) (hn : x ≠ "__name__" := by decide) (hdb : (x == ("__debug__" : Str)) = false := by decide) (hn2 : z ≠ "__name__" := by decide) (hdb2 : (z == ("__debug__" : Str)) = false := by decide) :
    PJ X c (.Call (.Name "isinstance" p0) [e, .Tuple [.Name x p1, .Name z p2] x1 p3] [] pos) (.isi a [y, w]) := fun ρ μ φ ε h W σ Q Sx k tk =>
  we_isi hm (wa_cons (ha ρ μ _ ε h W σ _ Sx (fun W1 v1 t1 μ1 g1 S1 r1 h1 => wa_cons (we_tup (wa_cons (WE.of (pe_bltn (v := .ty (tyS y)) hgx hx hb rfl hn hdb) (wa_cons (WE.of (pe_bltn (v := .ty (tyS w)) hgz hz hb2 rfl hn2 hdb2) (wa_nil (by
    refine ⟨sz_le (Nat.le_of_ble_eq_true rfl), fun p hp => wa_nil ?_⟩
    obtain ⟨g, S2⟩ := S1.fresh (o := .tup [.ty (tyS y), .ty (tyS w)]) hp
    obtain ⟨t', r', h1⟩ := (r1.go g).view S2 h1
    obtain ⟨⟨T, hT⟩, h1⟩ := isiK_at h1
    refine WC.of call_isiT ⟨v1, p, _, _, [.type (tyS y), .type (tyS w)], _, rfl, upd_same, .cons (.ty _) (.cons (.ty _) .nil), tyX_of S2 r' hT, ?_, k _ _ _ μ1 (g1.trans g) S2 (.inl (.bl _)) h1⟩
    have k1 := kit_ty (K := X.K) (kit_has y hT)
    have k2 := kit_ty (K := X.K) (kit_has w hT)
    unfold PySem.W.kitAny
    rw [k1]
    cases h3 : y.has t' with
    | true => simp [h3]
    | false =>
      unfold PySem.W.kitAny
      rw [k2]
      cases h4 : w.has t' with
      | true => simp [h3, h4]
      | false => simp [h3, h4, PySem.W.kitAny]))) hs4)) hs3)) hs2) tk) hs) hg hs hpl
/-! ### fields -/
theorem lookup_fld {B : Bs} {H F : Hp} {f : Nat} (hf : f < 23) : ∀ {fvs : List (Str × V)} {fs : List (Nat × Tr)} {k : Tr → Prop}, fvs.map Prod.fst = fs.map fN → Rvs B H F (fvs.map Prod.snd) (fs.map Prod.snd) → Ir.fldK fs f k → ∃ v t, fvs.lookup (fname f) = some v ∧ Rv B H F v t ∧ k t
  | [], [], _, _, _, h => h.elim
  | [], _ :: _, _, e, _, _ => by cases e
  | _ :: _, [], _, e, _, _ => by cases e
  | (a, v) :: fvs, (g, t) :: fs, k, e, r, h => by
    rw [List.map_cons, List.map_cons] at e
    injection e with e1 e2
    have e1 : a = fname g := e1
    subst e1
    cases r with
    | cons r1 r2 =>
      have h : (match Nat.beq g f with | true => k t | false => Ir.fldK fs f k) := h
      cases hg : Nat.beq g f with
      | true =>
        rw [hg] at h
        have := Nat.eq_of_beq_eq_true hg
        subst this
        exact ⟨v, t, by simp [List.lookup], r1, h⟩
      | false =>
        rw [hg] at h
        obtain ⟨v', t', h1, h2, h3⟩ := lookup_fld hf e2 r2 h
        refine ⟨v', t', ?_, h2, h3⟩
        rw [List.lookup_cons, show (fname f == fname g) = false from beq_eq_false_iff_ne.mpr fun e => Nat.ne_of_beq_eq_false hg (fname_eq hf e.symm)]
        exact h1
/-- an object that is looked at -/
theorem cls_at {d : Nat} {x : Tr} {v : V} {k : List (Nat × Tr) → Prop} (Sx : Sa (XB X c) W σ ρ μ) (r : Rp (XB X c) W v x) (h : Ir.clsK μ d x k) : ∃ a dx fvs fs, v = .ref a ∧ W.H a = some (.ins (c d) dx fvs) ∧ fvs.map Prod.fst = fs.map fN ∧ Rvs (XB X c) W.H W.F (fvs.map Prod.snd) (fs.map Prod.snd) ∧ k fs := by
  cases x with
  | obj e fs =>
    have r := r.rv (by intro i e; cases e)
    have h2 : (match Nat.beq e d with | true => k fs | false => False) := h
    clear h
    cases he : Nat.beq e d with
    | false => rw [he] at h2; exact h2.elim
    | true =>
      rw [he] at h2
      have h : k fs := h2
      have := Nat.eq_of_beq_eq_true he
      subst this
      cases r with
      | obj h1 h2 h3 h4 => exact ⟨_, _, _, fs, rfl, Sx.fx h1 rfl, h3, h4, h⟩
  | ptr i =>
    obtain ⟨a, rfl, ha⟩ := r.ptr
    obtain ⟨cl, hc, h⟩ := celK_at h
    obtain ⟨b, fp, hb, hO, hr⟩ := Sx.mem i cl hc
    rw [ha] at hb
    cases hb
    cases cl with
    | obj e fs =>
      have h2 : (match Nat.beq e d with | true => k fs | false => False) := h
      clear h
      cases he : Nat.beq e d with
      | false => rw [he] at h2; exact h2.elim
      | true =>
        rw [he] at h2
        have hk : k fs := h2
        have := Nat.eq_of_beq_eq_true he
        subst this
        obtain ⟨dx, fvs, rfl, h1, h2, h3, h4⟩ := hr
        exact ⟨a, dx, fvs, fs, rfl, h1, h3, h4, hk⟩
    | _ => exact h.elim
  | _ => exact h.elim
theorem lookup_app {α : Type} {k : Str} {v : α} {r : List (Str × α)} : ∀ {l : List (Str × α)}, l.lookup k = some v → (l ++ r).lookup k = some v
  | [], h => by cases h
  | (a, b) :: l, h => by
    rw [List.lookup_cons] at h
    rw [List.cons_append, List.lookup_cons]
    cases e : k == a with
    | true => rw [e] at h; exact h
    | false => rw [e] at h; exact lookup_app h
theorem clsF_at {d : Nat} {x : Tr} {v : V} {k : List (Nat × Tr) → Prop} (Sx : Sa (XB X c) W σ ρ μ) (r : Rp (XB X c) W v x) (h : Ir.clsF μ d x k) : ∃ a dx fvs rs fs, v = .ref a ∧ W.H a = some (.ins (c d) dx (fvs ++ rs)) ∧ fvs.map Prod.fst = fs.map fN ∧ Rvs (XB X c) W.H W.F (fvs.map Prod.snd) (fs.map Prod.snd) ∧ k fs := by
  have old : Ir.clsK μ d x k → ∃ a dx fvs rs fs, v = .ref a ∧ W.H a = some (.ins (c d) dx (fvs ++ rs)) ∧ fvs.map Prod.fst = fs.map fN ∧ Rvs (XB X c) W.H W.F (fvs.map Prod.snd) (fs.map Prod.snd) ∧ k fs := fun h => by
    obtain ⟨a, dx, fvs, fs, q1, q2, q3, q4, q5⟩ := cls_at Sx r h
    exact ⟨a, dx, fvs, [], fs, q1, by rw [List.append_nil]; exact q2, q3, q4, q5⟩
  cases x with
  | ptr i =>
    obtain ⟨a, rfl, ha⟩ := r.ptr
    have h0 := h
    obtain ⟨cl, hc, h⟩ := celK_at h
    obtain ⟨b, fp, hb, hO, hr⟩ := Sx.mem i cl hc
    rw [ha] at hb
    cases hb
    cases cl with
    | objW e fs kvs =>
      have h2 : (match Nat.beq e d with | true => k fs | false => False) := h
      cases he : Nat.beq e d with
      | false => rw [he] at h2; exact h2.elim
      | true =>
        rw [he] at h2
        have := Nat.eq_of_beq_eq_true he
        subst this
        obtain ⟨dx, wd, fvs, us, bs, _, q1, q2, q3, q4, _⟩ := hr
        exact ⟨a, dx, fvs, _, fs, rfl, q1, q3, q4, h2⟩
    | obj e fs =>
      have h2 : (match Nat.beq e d with | true => k fs | false => False) := h
      cases he : Nat.beq e d with
      | false => rw [he] at h2; exact h2.elim
      | true =>
        rw [he] at h2
        have := Nat.eq_of_beq_eq_true he
        subst this
        obtain ⟨dx, fvs, _, q1, q2, q3, q4⟩ := hr
        exact ⟨a, dx, fvs, [], fs, rfl, by rw [List.append_nil]; exact q1, q3, q4, h2⟩
    | _ => exact h.elim
  | obj e fs => exact old h
  | _ => exact h.elim
theorem pj_fld {e a} {d f : Nat} {x : Str} (hC : Cls X.K (c d)) (hN : NoAttr X.K (c d) x) (he : x = fname f) (hf : f < 23) (ha : PJ X c e a) (hb : attributeBase e x X.env (eval e X.env) = eval e X.env := by rfl) : PJ X c (.Attribute e x pos) (.fld d a f) := fun ρ μ φ ε h W σ Q Sx k tk =>
  we_fld (ha ρ μ _ ε h W σ _ Sx (fun W1 v1 t1 μ1 g1 S1 r1 h1 => by
    obtain ⟨a0, dx, fvs, rs, fs, rfl, q1, q2, q3, h1⟩ := clsF_at S1 r1 h1
    obtain ⟨v, t, q4, q5, h1⟩ := lookup_fld hf q2 q3 h1
    exact ⟨a0, _, dx, _, v, rfl, q1, hC, hN, by rw [he]; exact lookup_app q4, k W1 v t μ1 g1 S1 (.inl q5) h1⟩) tk) hb
/-! ### texts -/
theorem fold_sep (s : List Nat) : ∀ (ls : List (List Nat)) (a : Array Nat), ((ls.map S).foldl (fun acc p => acc ++ (S s).cps ++ p.cps) a).toList = a.toList ++ (ls.map fun l => s ++ l).flatten
  | [], a => by simp
  | l :: ls, a => by
    rw [List.map_cons, List.foldl_cons, fold_sep s ls]
    simp [S]
theorem joinL_eq (s : List Nat) : ∀ (l : List Nat) (ls : List (List Nat)), Ir.joinL s (l :: ls) = l ++ (ls.map fun m => s ++ m).flatten
  | l, [] => by simp [Ir.joinL]
  | l, m :: ls => by
    show l ++ s ++ Ir.joinL s (m :: ls) = _
    rw [joinL_eq s m ls]
    simp
theorem joinL_txt (s : List Nat) (ls : List (List Nat)) : Txt.join (S s) (ls.map S) = S (Ir.joinL s ls) := by
  unfold Txt.join Builtin.Str.glued
  cases ls with
  | nil => rfl
  | cons l ls =>
    rw [List.map_cons]
    show (⟨((ls.map S).foldl (fun acc p => acc ++ (S s).cps ++ p.cps) (S l).cps)⟩ : Str) = S (Ir.joinL s (l :: ls))
    have e := fold_sep s ls (S l).cps
    have e2 : (ls.map S).foldl (fun acc p => acc ++ (S s).cps ++ p.cps) (S l).cps = (Ir.joinL s (l :: ls)).toArray := by
      apply Array.ext'
      rw [e, joinL_eq]
      simp [S]
    rw [e2]
    rfl
theorem strs_V (ls : List (List Nat)) : (ls.map fun l => V.str (S l)) = (ls.map S).map V.str := by rw [List.map_map]; rfl
theorem len_S (ls : List (List Nat)) : ((ls.map S).map (·.length)).sum = (ls.map (·.length)).sum := by
  congr 1
  rw [List.map_map]
  exact List.map_congr_left fun l _ => S_len l
theorem sqLT_at {x : Tr} {v : V} {k : List Tr → Prop} (r : Rw (XB X c) W v x) (h : Ir.sqLT x k) : ∃ a vs ts, v = .ref a ∧ (SqL X.K W.H a vs ∨ SqT X.K W.H a vs) ∧ Rvs (XB X c) W.H W.F vs ts ∧ k ts := by
  cases x with
  | lst ts => obtain ⟨a, vs, rfl, h1, h2⟩ := r; exact ⟨a, vs, ts, rfl, .inl h1, h2, h⟩
  | tup ts => cases r with | tup h1 h2 => exact ⟨_, _, ts, rfl, .inr h1.sq, h2, h⟩
  | _ => exact h.elim
theorem pj_join {o e a b} {apos : Pos} (ho : PJ X c o a) (he : PJ X c e b) (hbase : attributeBase o "join" X.env (eval o X.env) = eval o X.env := by rfl)
    (hfew : ((backTo pos (starEach [e] X.env)).all (fun x => !x.1) && (backToKw pos (keywordEach [] X.env)).all (fun x => x.1.isSome)
      && decide (([e] : List Expr).length + ([] : List Keyword).length + (if ([] : List Keyword).isEmpty then 0 else 1) < 30)) = true := by rfl)
    (hline : (apos.endLine == pos.line) = true := by rfl) (hs : starEach [e] X.env = (false, eval e X.env) :: starEach [] X.env := by rfl) (hplain : (backTo pos (starEach [] X.env)).any (·.1) = false := by rfl) : PJ X c (.Call (.Attribute o "join" apos) [e] [] pos) (.join a b) := fun ρ μ φ ε h W σ Q Sx k tk => by
  refine we_join (ho ρ μ _ ε h W σ _ Sx (fun W1 v1 t1 μ1 g1 S1 r1 h1 => ?_) tk) hbase hfew hline hs hplain
  cases t1 with
  | str s =>
    have r1 := r1.rv (by intro i e; cases e)
    cases r1
    refine ⟨S s, rfl, he ρ μ1 _ ε h1 W1 σ _ S1 (fun W2 v2 t2 μ2 g2 S2 r2 h2 => ?_) (tk_go g1 tk)⟩
    obtain ⟨t', r', h2⟩ := r2.view S2 h2
    obtain ⟨a0, vs, ts, rfl, hsq, hr, ls, rfl, h2⟩ := sqLT_at r' h2
    obtain ⟨hz, h2⟩ := Ir.szK_le h2
    rw [hr.strs_eq, strs_V] at hsq
    refine ⟨a0, ls.map S, rfl, hsq, ?_, ?_⟩
    · rw [len_S, List.length_map, S_len]
      omega
    · rw [joinL_txt]
      exact k W2 _ _ μ2 (g1.trans g2) S2 (.inl (.str _)) h2
  | _ => exact h1.elim
/-! ### dicts -/
theorem isD_of {b : Bool} {kvs : List (Tr × Tr)} {v : V} (r : Rw (XB X c) W v (.dic b kvs)) : ∃ a, v = .ref a ∧ IsD W.H a := by
  cases b with
  | false => obtain ⟨a, us, rfl, h, _⟩ := r; exact ⟨a, rfl, .inl ⟨us, h⟩⟩
  | true => obtain ⟨a, us, rfl, h, _⟩ := r; exact ⟨a, rfl, .inr ⟨us, h⟩⟩
theorem pj_get2 {o e f a b d} {apos : Pos} (cf : Cf X n) (ho : PJ X c o a) (he : PJ X c e b) (hf : PJ X c f d) (m : M2 X o "get" apos e f pos := by exact ⟨rfl, rfl, rfl, rfl⟩) : PJ X c (.Call (.Attribute o "get" apos) [e, f] [] pos) (.get2 a b d) := fun ρ μ φ ε h W σ Q Sx k tk => by
  refine we_get2 cf.hu1 (ho ρ μ _ ε h W σ _ Sx (fun W1 v1 t1 μ1 g1 S1 r1 h1 => ?_) tk) m
  obtain ⟨t0, r0, h1⟩ := r1.view S1 h1
  cases t0 with
  | dic b0 kvs0 =>
    obtain ⟨a0, rfl, hD⟩ := isD_of r0
    refine ⟨a0, rfl, hD, he ρ μ1 _ ε h1 W1 σ _ S1 (fun W2 v2 t2 μ2 g2 S2 r2 h2 => hf ρ μ2 _ ε h2 W2 σ _ S2 (fun W3 v3 t3 μ3 g3 S3 r3 h3 => ?_) (tk_go (g1.trans g2) tk)) (tk_go g1 tk)⟩
    obtain ⟨t, r, h3⟩ := ((r1.go g2).go g3).view S3 h3
    cases t with
    | dic b1 kvs =>
      have r2' : Rv (XB X c) W3.H W3.F v2 t2 := (r2.go g3).rv fun i e => by subst e; cases b1 <;> exact absurd h3.1 Bool.false_ne_true
      obtain ⟨a1, o1, e1, _, q2, q3⟩ := dget_ok S3 r r2' h3.1
      cases e1
      refine ⟨o1, q2, ?_⟩
      rcases q3 with ⟨rfl, e⟩ | ⟨u, t, rfl, e, ru⟩
      · have h3 := h3.2; rw [e] at h3; exact k W3 _ _ μ3 ((g1.trans g2).trans g3) S3 r3 h3
      · have h3 := h3.2; rw [e] at h3; exact k W3 _ _ μ3 ((g1.trans g2).trans g3) S3 (.inl ru) h3
    | _ => exact h3.elim
  | _ => exact h1.elim
theorem pj_get1 {o e a b} {apos : Pos} (cf : Cf X n) (ho : PJ X c o a) (he : PJ X c e b) (m : M1 X o "get" apos e pos := by exact ⟨rfl, rfl, rfl, rfl⟩) : PJ X c (.Call (.Attribute o "get" apos) [e] [] pos) (.get1 a b) := fun ρ μ φ ε h W σ Q Sx k tk => by
  refine we_get1 cf.hu1 (ho ρ μ _ ε h W σ _ Sx (fun W1 v1 t1 μ1 g1 S1 r1 h1 => ?_) tk) m
  obtain ⟨t0, r0, h1⟩ := r1.view S1 h1
  cases t0 with
  | dic b0 kvs0 =>
    obtain ⟨a0, rfl, hD⟩ := isD_of r0
    refine ⟨a0, rfl, hD, he ρ μ1 _ ε h1 W1 σ _ S1 (fun W3 v2 t2 μ3 g3 S3 r2 h3 => ?_) (tk_go g1 tk)⟩
    obtain ⟨t, r, h3⟩ := (r1.go g3).view S3 h3
    cases t with
    | dic b1 kvs =>
      have r2' : Rv (XB X c) W3.H W3.F v2 t2 := r2.rv fun i e => by subst e; cases b1 <;> exact absurd h3.1 Bool.false_ne_true
      obtain ⟨a1, o1, e1, _, q2, q3⟩ := dget_ok S3 r r2' h3.1
      cases e1
      refine ⟨o1, q2, ?_⟩
      rcases q3 with ⟨rfl, e⟩ | ⟨u, t, rfl, e, ru⟩
      · have h3 := h3.2; rw [e] at h3; exact k W3 _ _ μ3 (g1.trans g3) S3 (.inl .non) h3
      · have h3 := h3.2; rw [e] at h3; exact k W3 _ _ μ3 (g1.trans g3) S3 (.inl ru) h3
    | _ => exact h3.elim
  | _ => exact h1.elim
end
end Is

/-! Il: calls. -/
namespace Is
open PySem PySem.Spec PyProof.Rows L2 Wx
open Ir (Tr Cel Mem Ev EK SK Con Tg Op Cm I Sm wp wps)
/-! ### several places set -/
def setAll {α : Type} : List α → List Nat → List α → List α
  | l, i :: is, x :: xs => setAll (l.set i x) is xs
  | l, _, _ => l
theorem setAll_len {α : Type} : ∀ (l : List α) (is : List Nat) (xs : List α), (setAll l is xs).length = l.length
  | l, [], xs => by unfold setAll; rfl
  | l, i :: is, [] => by unfold setAll; rfl
  | l, i :: is, x :: xs => by unfold setAll; rw [setAll_len, List.length_set]
theorem setAll_out {α : Type} : ∀ (l : List α) (is : List Nat) (xs : List α) (j : Nat), j ∉ is → (setAll l is xs)[j]? = l[j]?
  | l, [], xs, j, _ => by unfold setAll; rfl
  | l, i :: is, [], j, _ => by unfold setAll; rfl
  | l, i :: is, x :: xs, j, h => by
    unfold setAll
    rw [setAll_out _ _ _ _ (fun e => h (List.mem_cons_of_mem _ e)), List.getElem?_set_ne (fun e => h (by rw [← e]; exact List.mem_cons_self))]
theorem setAll_in {α : Type} : ∀ (l : List α) (is : List Nat) (xs : List α) (k j : Nat), is.Nodup → is.length = xs.length → is[k]? = some j → j < l.length → (setAll l is xs)[j]? = xs[k]?
  | l, [], xs, k, j, _, _, h, _ => by simp at h
  | l, i :: is, [], k, j, _, hl, _, _ => by cases hl
  | l, i :: is, x :: xs, 0, j, nd, hl, h, hj => by
    simp at h
    subst h
    unfold setAll
    rw [setAll_out _ _ _ _ (List.nodup_cons.mp nd).1, List.getElem?_set_self hj]
    rfl
  | l, i :: is, x :: xs, k + 1, j, nd, hl, h, hj => by
    unfold setAll
    rw [setAll_in _ is xs k j (List.nodup_cons.mp nd).2 (by simpa using hl) (by simpa using h) (by rw [List.length_set]; exact hj)]
    rfl
theorem nd_each : ∀ {O : List (List Addr)} {i : Nat} {fp}, O.flatten.Nodup → O[i]? = some fp → fp.Nodup
  | [], i, fp, _, hi => by simp at hi
  | o :: O, 0, fp, h, hi => by
    simp at hi; subst hi
    rw [List.flatten_cons, List.nodup_append] at h
    exact h.1
  | o :: O, i + 1, fp, h, hi => by
    rw [List.flatten_cons, List.nodup_append] at h
    exact nd_each h.2.1 (by simpa using hi)
theorem nd_of : ∀ {O : List (List Addr)}, (∀ (i : Nat) fp, O[i]? = some fp → fp.Nodup) → (∀ (i j : Nat) fp fq x, O[i]? = some fp → O[j]? = some fq → x ∈ fp → x ∈ fq → i = j) → O.flatten.Nodup
  | [], _, _ => List.nodup_nil
  | o :: O, h1, h2 => by
    rw [List.flatten_cons, List.nodup_append]
    refine ⟨h1 0 o rfl, nd_of (fun i fp hi => h1 (i + 1) fp (by simpa using hi)) (fun i j fp fq x hi hj hx hy => ?_), fun x hx y hy e => ?_⟩
    · have := h2 (i + 1) (j + 1) fp fq x (by simpa using hi) (by simpa using hj) hx hy
      omega
    · subst e
      obtain ⟨l, hl, hy⟩ := List.mem_flatten.mp hy
      obtain ⟨i, hi⟩ := List.mem_iff_getElem?.mp hl
      have := h2 0 (i + 1) o l x rfl (by simpa using hi) hx hy
      omega
/-! ### the cells that are handed over -/
section
variable {B : Bs} {W : Wd} {σ : L2.St} {ρ : Ev} {μ : Mem}
def pickA {α : Type} (l : List α) (is : List Nat) : List α := is.filterMap fun i => l[i]?
theorem pickA_get {α : Type} {l : List α} : ∀ {is : List Nat}, (∀ i ∈ is, i < l.length) → (pickA l is).length = is.length ∧ ∀ (k j : Nat), is[k]? = some j → (pickA l is)[k]? = l[j]?
  | [], _ => ⟨rfl, fun k j h => by simp at h⟩
  | i :: is, h => by
    obtain ⟨h1, h2⟩ := pickA_get (l := l) (is := is) fun j hj => h j (List.mem_cons_of_mem _ hj)
    have hi := h i List.mem_cons_self
    have e : pickA l (i :: is) = l[i] :: pickA l is := by
      unfold pickA
      rw [List.filterMap_cons, List.getElem?_eq_getElem hi]
    rw [e]
    refine ⟨by rw [List.length_cons, List.length_cons, h1], fun k j hk => ?_⟩
    cases k with
    | zero => simp at hk; subst hk; rw [List.getElem?_eq_getElem hi]; rfl
    | succ k => simpa using h2 k j (by simpa using hk)
/-- what is not handed over -/
def restO (O : List (List Addr)) (is : List Nat) (x : Addr) : Prop := ∃ (i : Nat) (fp : List Addr), i ∉ is ∧ O[i]? = some fp ∧ x ∈ fp
open Classical in
noncomputable def calW (W : Wd) (is : List Nat) : Wd := ⟨pickA W.A is, pickA W.O is, fun x => if restO W.O is x then W.H x else W.G x, W.F, W.H⟩
open Classical in
noncomputable def retW (W W' : Wd) (is : List Nat) : Wd := ⟨W.A, setAll W.O is W'.O, fun x => if restO W.O is x then none else W'.G x, W'.F, W'.H⟩
open Classical in
theorem Sa.calW (S : Sa B W σ ρ μ) {is : List Nat} (hi : ∀ i ∈ is, i < μ.length) (nd : is.Nodup) : Sa B (calW W is) [] [] (pickA μ is) := by
  have hA : ∀ i ∈ is, i < W.A.length := fun i h => by rw [S.lA]; exact hi i h
  have hO : ∀ i ∈ is, i < W.O.length := fun i h => by rw [S.lO]; exact hi i h
  obtain ⟨a1, a2⟩ := pickA_get (l := W.A) hA
  obtain ⟨o1, o2⟩ := pickA_get (l := W.O) hO
  obtain ⟨m1, m2⟩ := pickA_get (l := μ) hi
  have hk : ∀ (k : Nat) {α : Type} (l : List α) (x : α), (pickA l is).length = is.length → (pickA l is)[k]? = some x → ∃ j, is[k]? = some j := fun k α l x hl h => by
    have : k < is.length := by rw [← hl]; exact (List.getElem?_eq_some_iff.mp h).1
    exact ⟨is[k], List.getElem?_eq_getElem this⟩
  have hin : ∀ x ∈ (pickA W.O is).flatten, ∃ (j : Nat) (fp : List Addr), j ∈ is ∧ W.O[j]? = some fp ∧ x ∈ fp := fun x hx => by
    obtain ⟨l, hl, hx⟩ := List.mem_flatten.mp hx
    obtain ⟨k, hk'⟩ := List.mem_iff_getElem?.mp hl
    obtain ⟨j, hj⟩ := hk k W.O l o1 hk'
    exact ⟨j, l, List.mem_of_getElem? hj, by rw [← o2 k j hj]; exact hk', hx⟩
  refine ⟨fun x o hx => ?_, fun x o hx => ?_, fun i t h => by simp at h, by rw [m1]; exact a1, by rw [m1]; exact o1, fun k cl hc => ?_, ?_, fun x hx => ?_, rfl⟩
  · have hx : (if restO W.O is x then W.H x else W.G x) = some o := hx
    split at hx
    · exact hx
    · exact S.gh x o hx
  · have hx : W.F x = some o := hx
    have hn : ¬ restO W.O is x := fun ⟨i, fp, _, h2, h3⟩ => by
      have := S.fnone (S.own x (flat_get h2 h3)).1
      rw [this] at hx; cases hx
    rcases S.fg x o hx with h1 | ⟨⟨b, h1⟩, h2⟩
    · exact .inl ((if_neg hn).trans h1)
    · exact .inr ⟨⟨b, (if_neg hn).trans h1⟩, h2⟩
  · obtain ⟨j, hj⟩ := hk k μ cl m1 hc
    rw [m2 k j hj] at hc
    obtain ⟨a, fp, h1, h2, h3⟩ := S.mem j cl hc
    exact ⟨a, fp, (a2 k j hj).trans h1, (o2 k j hj).trans h2, h3⟩
  · refine nd_of (fun k fp h => ?_) fun k l fp fq x h1 h2 hx hy => ?_
    · obtain ⟨j, hj⟩ := hk k W.O fp o1 h
      rw [show (Is.calW W is).O[k]? = W.O[j]? from o2 k j hj] at h
      exact nd_each S.nd h
    · obtain ⟨j, hj⟩ := hk k W.O fp o1 h1
      obtain ⟨i, hi'⟩ := hk l W.O fq o1 h2
      rw [show (Is.calW W is).O[k]? = W.O[j]? from o2 k j hj] at h1
      rw [show (Is.calW W is).O[l]? = W.O[i]? from o2 l i hi'] at h2
      have := nd_apart S.nd h1 h2 hx hy
      subst this
      exact (List.getElem?_inj (List.getElem?_eq_some_iff.mp hj).1 nd).mp (hj.trans hi'.symm)
  · obtain ⟨j, fp, h1, h2, h3⟩ := hin x hx
    have h4 := S.own x (flat_get h2 h3)
    refine ⟨?_, h4.2⟩
    show (if restO W.O is x then W.H x else W.G x) = none
    rw [if_neg]
    · exact h4.1
    · rintro ⟨i, fq, n1, n2, n3⟩
      have := nd_apart S.nd n2 h2 n3 h3
      subst this
      exact n1 h1
open Classical in
/-- back from the callee -/
theorem Sa.retW {W' : Wd} {cs : List Cel} (S : Sa B W σ ρ μ) {is : List Nat} (hi : ∀ i ∈ is, i < μ.length) (nd : is.Nodup) (g : Go (Is.calW W is) W') (S' : Sa B W' [] [] cs) (hl : cs.length = is.length) : Go W (retW W W' is) ∧ Sa B (retW W W' is) σ ρ (setAll μ is cs) := by
  have hO : ∀ i ∈ is, i < W.O.length := fun i h => by rw [S.lO]; exact hi i h
  have hA : ∀ i ∈ is, i < W.A.length := fun i h => by rw [S.lA]; exact hi i h
  obtain ⟨a1, a2⟩ := pickA_get (l := W.A) hA
  have rn : ∀ x, restO W.O is x → W.G x = none ∧ W.H x ≠ none ∧ W.F x = none := fun x ⟨i, fp, _, h2, h3⟩ => by
    have := S.own x (flat_get h2 h3)
    exact ⟨this.1, this.2, S.fnone this.1⟩
  have rk : ∀ x, restO W.O is x → W'.G x = W.H x := fun x hx => by
    cases e : W.H x with
    | none => exact absurd e (rn x hx).2.1
    | some o => exact g.g x o ((if_pos hx).trans e)
  have rh : ∀ x, restO W.O is x → W'.H x = W.H x := fun x hx => by
    cases e : W.H x with
    | none => exact absurd e (rn x hx).2.1
    | some o => exact S'.gh x o ((rk x hx).trans e)
  have gG : ∀ x o, W.G x = some o → W'.G x = some o ∧ ¬ restO W.O is x := fun x o hx => by
    have hn : ¬ restO W.O is x := fun h => by rw [(rn x h).1] at hx; cases hx
    exact ⟨g.g x o ((if_neg hn).trans hx), hn⟩
  have fr : ∀ x, restO W.O is x → W'.F x = none := fun x hx => g.n x (by
    show (if restO W.O is x then W.H x else W.G x) ≠ none
    rw [if_pos hx]; exact (rn x hx).2.1) (rn x hx).2.2
  have gg : Go W (Is.retW W W' is) := ⟨fun x o hx => (if_neg (gG x o hx).2).trans (gG x o hx).1, g.f, g.t, fun x h1 h2 => by
    cases e : W.G x with
    | none => exact absurd e h1
    | some o => exact g.n x (by
        show (if restO W.O is x then W.H x else W.G x) ≠ none
        rw [if_neg (gG x o e).2]; exact h1) h2, fun i a h => h⟩
  have hl2 : is.length = W'.O.length := by rw [S'.lO, hl]
  have opt : ∀ (i : Nat) fp, (setAll W.O is W'.O)[i]? = some fp → (i ∉ is ∧ W.O[i]? = some fp) ∨ ∃ k, is[k]? = some i ∧ W'.O[k]? = some fp := fun i fp h => by
    by_cases hm : i ∈ is
    · obtain ⟨k, hk⟩ := List.mem_iff_getElem?.mp hm
      rw [setAll_in W.O is W'.O k i nd hl2 hk (hO i hm)] at h
      exact .inr ⟨k, hk, h⟩
    · rw [setAll_out _ _ _ _ hm] at h
      exact .inl ⟨hm, h⟩
  have apart : ∀ (k : Nat) fq x, W'.O[k]? = some fq → x ∈ fq → ¬ restO W.O is x := fun k fq x hk hx hr => by
    have := (S'.own x (flat_get hk hx)).1
    rw [rk x hr] at this
    exact (rn x hr).2.1 this
  refine ⟨gg, ⟨fun x o hx => ?_, fun x o hx => ?_, fun i t h => ?_, by rw [setAll_len]; exact S.lA, by show (setAll W.O is W'.O).length = _; rw [setAll_len, setAll_len]; exact S.lO, fun i cl hc => ?_, ?_, fun x hx => ?_, S.ln⟩⟩
  · have hx : (if restO W.O is x then none else W'.G x) = some o := hx
    split at hx
    · cases hx
    · exact S'.gh x o hx
  · have hx : W'.F x = some o := hx
    have hn : ¬ restO W.O is x := fun h => by rw [fr x h] at hx; cases hx
    rcases S'.fg x o hx with h1 | ⟨⟨b, h1⟩, h2⟩
    · exact .inl ((if_neg hn).trans h1)
    · exact .inr ⟨⟨b, (if_neg hn).trans h1⟩, h2⟩
  · obtain ⟨v, h1, h2⟩ := S.env i t h
    exact ⟨v, h1, h2.go gg⟩
  · by_cases hm : i ∈ is
    · obtain ⟨k, hk⟩ := List.mem_iff_getElem?.mp hm
      rw [setAll_in μ is cs k i nd hl.symm hk (hi i hm)] at hc
      obtain ⟨a, fp, h1, h2, h3⟩ := S'.mem k cl hc
      obtain ⟨a0, ha0⟩ : ∃ a0, W.A[i]? = some a0 := ⟨W.A[i]'(hA i hm), List.getElem?_eq_getElem _⟩
      have := g.p k a0 ((a2 k i hk).trans ha0)
      rw [this] at h1
      cases h1
      exact ⟨a, fp, ha0, (setAll_in W.O is W'.O k i nd hl2 hk (hO i hm)).trans h2, h3⟩
    · rw [setAll_out _ _ _ _ hm] at hc
      obtain ⟨a, fp, h1, h2, h3⟩ := S.mem i cl hc
      exact ⟨a, fp, h1, (setAll_out _ _ _ _ hm).trans h2, h3.frame (fun x hx => rh x ⟨i, fp, hm, h2, hx⟩) g.t g.f⟩
  · refine nd_of (fun i fp h => ?_) fun i j fp fq x h1 h2 hx hy => ?_
    · rcases opt i fp h with ⟨_, h⟩ | ⟨k, _, h⟩
      · exact nd_each S.nd h
      · exact nd_each S'.nd h
    · rcases opt i fp h1 with ⟨n1, h1⟩ | ⟨k, k1, h1⟩
      · rcases opt j fq h2 with ⟨n2, h2⟩ | ⟨l, l1, h2⟩
        · exact nd_apart S.nd h1 h2 hx hy
        · exact absurd ⟨i, fp, n1, h1, hx⟩ (apart l fq x h2 hy)
      · rcases opt j fq h2 with ⟨n2, h2⟩ | ⟨l, l1, h2⟩
        · exact absurd ⟨j, fq, n2, h2, hy⟩ (apart k fp x h1 hx)
        · have := nd_apart S'.nd h1 h2 hx hy
          subst this
          rw [k1] at l1
          exact Option.some.inj l1
  · obtain ⟨l, hl', hx'⟩ := List.mem_flatten.mp hx
    obtain ⟨i, hi'⟩ := List.mem_iff_getElem?.mp hl'
    rcases opt i l hi' with ⟨n1, h1⟩ | ⟨k, k1, h1⟩
    · have hr : restO W.O is x := ⟨i, l, n1, h1, hx'⟩
      refine ⟨if_pos hr, ?_⟩
      show W'.H x ≠ none
      rw [rh x hr]; exact (rn x hr).2.1
    · have h2 := S'.own x (flat_get h1 hx')
      exact ⟨(if_neg (apart k l x h1 hx')).trans h2.1, h2.2⟩
/-! ### a call by the callee's contract -/
theorem renum_at {k : List Tr → List Nat → Prop} : ∀ {xs : List Tr} {n : Nat}, Ir.renum xs n k → ∃ us is, k us is ∧ ∀ {vs : List V} {W : Wd} {A' : List Addr}, Rps B W vs xs → (∀ (j i : Nat) a, is[j]? = some i → W.A[i]? = some a → A'[n + j]? = some a) → ∀ W' : Wd, W'.A = A' → W'.H = W.H → W'.F = W.F → Rps B W' vs us
  | [], n, h => ⟨[], [], h, fun r _ W' _ _ _ => by cases r; exact .nil⟩
  | t :: ts, n, h => by
    cases t with
    | ptr i =>
      obtain ⟨us, is, h1, h2⟩ := renum_at (k := fun us is => k (.ptr n :: us) (i :: is)) (xs := ts) h
      refine ⟨_, _, h1, fun r hA W' e1 e2 e3 => ?_⟩
      cases r with
      | cons a b =>
        obtain ⟨a0, rfl, ha⟩ := a.ptr
        refine .cons (.inr ⟨n, a0, rfl, rfl, ?_⟩) (h2 b (fun j i' a hj ha' => ?_) W' e1 e2 e3)
        · rw [e1]; exact hA 0 i a0 rfl ha
        · rw [show n + 1 + j = n + (j + 1) by omega]; exact hA (j + 1) i' a (by simpa using hj) ha'
    | _ =>
      obtain ⟨us, is, h1, h2⟩ := renum_at (k := fun us is => k (_ :: us) is) (xs := ts) h
      refine ⟨_, _, h1, fun r hA W' e1 e2 e3 => ?_⟩
      cases r with
      | cons a b =>
        refine .cons (.inl ?_) (h2 b hA W' e1 e2 e3)
        rw [e2, e3]
        exact a.rv (by intro i e; cases e)
theorem pickK_at {k : List Cel → Prop} : ∀ {is : List Nat}, Ir.pickK μ is k → (∀ i ∈ is, i < μ.length) ∧ k (pickA μ is)
  | [], h => ⟨fun i hi => by simp at hi, h⟩
  | i :: is, h => by
    obtain ⟨cl, hc, h⟩ := celK_at h
    obtain ⟨h1, h2⟩ := pickK_at (k := fun cs => k (cl :: cs)) h
    have hi := (List.getElem?_eq_some_iff.mp hc).1
    refine ⟨fun j hj => ?_, ?_⟩
    · rcases List.mem_cons.mp hj with rfl | hj
      · exact hi
      · exact h1 j hj
    · unfold pickA
      rw [List.filterMap_cons, hc]
      exact h2
theorem dupF_nd : ∀ {is : List Nat}, Ir.dupF is = true → is.Nodup
  | [], _ => List.nodup_nil
  | i :: is, h => by
    unfold Ir.dupF at h
    rw [Bool.and_eq_true] at h
    refine List.nodup_cons.mpr ⟨fun hm => ?_, dupF_nd h.2⟩
    have := h.1
    simp at this
    exact this hm
theorem backK_at {k : Mem → Prop} : ∀ {μ : Mem} {is : List Nat} {cs : List Cel}, Ir.backK μ is cs k → cs.length = is.length ∧ k (setAll μ is cs)
  | μ, [], [], h => ⟨rfl, h⟩
  | μ, [], _ :: _, h => h.elim
  | μ, _ :: _, [], h => h.elim
  | μ, i :: is, c :: cs, h => by
    have h := cputK_at h
    obtain ⟨h1, h2⟩ := backK_at h
    exact ⟨by rw [List.length_cons, List.length_cons, h1], h2⟩
def spOf (cl : Nat → Addr) (K : PySem.W.Frag) (con : Con) : Sp := fun vs H Q E => ∃ W ts μ φ ε, W.H = H ∧ Sa ⟨K, cl⟩ W [] [] μ ∧ Rps ⟨K, cl⟩ W vs ts ∧ con ts μ φ ε ∧
  (∀ W' v t μ', Go W W' → Sa ⟨K, cl⟩ W' [] [] μ' → Rp ⟨K, cl⟩ W' v t → φ t μ' → Q v W'.H) ∧ (∀ W' cls d t μ', Go W W' → Sa ⟨K, cl⟩ W' [] [] μ' → Rx ⟨K, cl⟩ W' cls d t → ε t μ' → E cls d W'.H)
theorem call_frame {cl : Nat → Addr} {K : PySem.W.Frag} {con : Con} {vs : List V} {ts : List Tr} {φ ε : EK} {Q : VK} {E : XK} (S1 : Sa ⟨K, cl⟩ W σ ρ μ) (r : Rps ⟨K, cl⟩ W vs ts) (h : Ir.callK con ts μ φ ε)
    (k : ∀ W' v t μ', Go W W' → Sa ⟨K, cl⟩ W' σ ρ μ' → Rp ⟨K, cl⟩ W' v t → φ t μ' → Q v W'.H) (kE : ∀ W' cls d t μ', Go W W' → Sa ⟨K, cl⟩ W' σ ρ μ' → Rx ⟨K, cl⟩ W' cls d t → ε t μ' → E cls d W'.H) : spOf cl K con vs W.H Q E := by
  unfold Ir.callK at h
  obtain ⟨us, is, h1, h2⟩ := renum_at (B := ⟨K, cl⟩) h
  have main : ∀ (hi : ∀ i ∈ is, i < μ.length) (nd : is.Nodup) (φ' ε' : EK), con us (pickA μ is) φ' ε' → (∀ t cs, φ' t cs → (∀ i, t ≠ .ptr i) ∧ cs.length = is.length ∧ φ t (setAll μ is cs)) → (∀ t cs, ε' t cs → cs.length = is.length ∧ ε t (setAll μ is cs)) → spOf cl K con vs W.H Q E := fun hi nd φ' ε' hc hφ hε => by
    have hA : ∀ i ∈ is, i < W.A.length := fun i h => by rw [S1.lA]; exact hi i h
    obtain ⟨a1, a2⟩ := pickA_get (l := W.A) hA
    refine ⟨calW W is, us, pickA μ is, φ', ε', rfl, S1.calW hi nd, h2 r (A' := pickA W.A is) (fun j i a hj ha => by rw [Nat.zero_add]; exact (a2 j i hj).trans ha) _ rfl rfl rfl, hc, fun W' v t cs g S' rv hh => ?_, fun W' cls d t cs g S' rx hh => ?_⟩
    · obtain ⟨n1, n2, n3⟩ := hφ t cs hh
      obtain ⟨g2, S2⟩ := S1.retW hi nd g S' n2
      exact k (retW W W' is) v t _ g2 S2 (.inl (rv.rv n1)) n3
    · obtain ⟨n2, n3⟩ := hε t cs hh
      obtain ⟨g2, S2⟩ := S1.retW hi nd g S' n2
      exact kE (retW W W' is) cls d t _ g2 S2 rx n3
  cases is with
  | nil =>
    refine main (fun i hi => by simp at hi) List.nodup_nil _ _ h1 (fun t cs ht => ?_) (fun t cs ht => ?_)
    · split at ht
      · exact ht.elim
      · rename_i hn
        exact ⟨fun i e => hn i e, rfl, ht⟩
      · exact ht.elim
    · split at ht
      · exact ht.elim
      · exact ⟨rfl, ht⟩
      · exact ht.elim
  | cons i is =>
    obtain ⟨hd, h1⟩ := h1
    obtain ⟨hi, h1⟩ := pickK_at h1
    refine main hi (dupF_nd hd) _ _ h1 (fun t cs ht => ?_) (fun t cs ht => ?_)
    · split at ht
      · exact ht.elim
      · rename_i hn
        obtain ⟨q1, q2⟩ := backK_at ht
        exact ⟨fun i e => hn i e, q1, q2⟩
    · split at ht
      · exact ht.elim
      · obtain ⟨q1, q2⟩ := backK_at ht
        exact ⟨q1, q2⟩
end
section
variable {X : Cx} {c : Nat → Addr} {pos p0 : Pos}
theorem pj_call {x : Str} {e es a con k} (C : Cal X.prog X.w X.K X.mg X.base (L2.CX X.prog X.w) k x (spOf c X.K con)) (hr : Room k X.A) (ha : PA X c (e :: es) a) (hg : Gl X x := by rfl) (hdb : (x == ("__debug__" : Str)) = false := by decide) (he : starEach (e :: es) X.env = (false, eval e X.env) :: starEach es X.env := by rfl)
    (hpl : (backTo pos (starEach es X.env)).any (·.1) = false := by rfl) : PJ X c (.Call (.Name x p0) (e :: es) [] pos) (.call con a) := fun ρ μ φ ε h W σ Q Sx k tk => by
  obtain ⟨f, fd, ps, F, hm, hk, hb⟩ := C.ex
  refine WE.of (pe_callS F hr hg hm hk hb (fun σ' => passAt tk σ') pa_w hdb he hpl) ?_
  exact ha ρ μ (fun xs μ => Ir.callK con xs μ φ ε) ε h W σ _ Sx (fun W1 vs ts μ1 g1 S1 r1 h1 => call_frame S1 r1 h1 (fun W' v t μ' g S' r hh => k W' v t μ' (g1.trans g) S' r hh) fun W' cls d t μ' g S' rx hh => ⟨rfl, W', t, μ', rfl, g1.trans g, S', rx, hh⟩) tk
end
end Is

/-! Im: walks, targets, comprehensions. -/
namespace Is
open PySem PySem.Spec PyProof.Rows L2 Wx
open Ir (Tr Cel Mem Ev EK SK Con Tg Op Cm I Sm wp wps)
/-- over a list, a tuple or a text -/
def iSeq (K : PySem.W.Frag) (tl : TE) : TI := fun σ H R => tl σ H fun x H1 => (∃ a, x = .ref a ∧ (∃ xs, SqL K H1 a xs) ∧ R (Itl K a) H1) ∨ (∃ a, x = .ref a ∧ (∃ xs, SqT K H1 a xs) ∧ R (Itt K a) H1) ∨ ∃ z, x = .str z ∧ R (Its z) H1
theorem pi_seq {X : Cx} {tg l : Expr} {tl : TE} (hl : PE X l tl) : PI X tg l (iSeq X.K tl) := by
  refine ⟨fun pins s σ H R I h => ?_⟩
  refine thn (hl.run pins s σ H _ I h) fun v s1 ⟨x, H1, I1, r1, q1⟩ => ?_
  rcases q1 with ⟨a, e, ⟨xs, hq⟩, q⟩ | ⟨a, e, ⟨xs, hq⟩, q⟩ | ⟨z, e, q⟩
  · subst e
    cases r1
    obtain ⟨its, rv, p, hz⟩ := I1.list hq
    exact wpAny_pyIter_list p.isList (pi_one (tk := s1.toks) I1 _ (turn_list a _) ⟨_, Heap.get?_push_size _ rfl, rfl, rfl⟩ q)
  · subst e
    cases r1
    obtain ⟨its, rv, p, hz⟩ := I1.tuple hq
    exact wpAny_pyIter_tuple (show s1.heap.IsTuple a its.toArray from p) (pi_one (tk := s1.toks) I1 _ (turn_tuple a _) ⟨_, Heap.get?_push_size _ rfl, rfl, rfl⟩ q)
  · subst e
    obtain ⟨t, rfl⟩ := r1
    cases ha : z.cps.all (· < 128)
    · exact wpAny_pyIter_wide ha (pi_one (tk := s1.toks) I1 _ (turn_str _ z t "str_iterator" (.inr rfl)) ⟨_, Heap.get?_push_size _ rfl, rfl, rfl⟩ q)
    · exact wpAny_pyIter_ascii ha (pi_one (tk := s1.toks) I1 _ (turn_str _ z t "str_ascii_iterator" (.inl rfl)) ⟨_, Heap.get?_push_size _ rfl, rfl, rfl⟩ q)
section
variable {X : Cx} {c : Nat → Addr} {n : Nat} {pos p0 : Pos}
/-- J gives out ts, whatever is done meanwhile -/
def Walk (B : Bs) (W0 : Wd) (J : It) (ts : List Tr) : Prop := ∀ W σ ρ μ, GoF W0 W → Sa B W σ ρ μ → (∀ i, i < ts.length → J.go i W.H) ∧ J.stop ts.length W.H ∧
  ∀ i x H', i < ts.length → J.yld i W.H x H' → ∃ t W', ts[i]? = some t ∧ W'.H = H' ∧ Go W W' ∧ Sa B W' σ ρ μ ∧ Rv B W'.H W'.F x t
def PIt (X : Cx) (c : Nat → Addr) (tg iter : Expr) (i : I) : Prop := ∀ ρ μ (ψ : List Tr → Mem → Prop) ε, wp i ρ μ (fun y μ => match y with | .tup ts => ψ ts μ | _ => False) ε → ∀ W σ (R : It → Hp → Prop), Sa (XB X c) W σ ρ μ →
  (∀ W' J ts μ', Go W W' → Sa (XB X c) W' σ ρ μ' → Walk (XB X c) W' J ts → ψ ts μ' → R J W'.H) → Takes X (xW (XB X c) W σ ρ ε) → WI X tg iter σ W.H R
theorem walk_l {W : Wd} {a : Addr} {vs : List V} {ts : List Tr} (h : LstAt X.K W.F a vs) (r : Rvs (XB X c) W.H W.F vs ts) : Walk (XB X c) W (Itl X.K a) ts := fun W1 σ ρ μ g Sx => by
  have h1 : SqL X.K W1.H a vs := Sx.lst (h.mono g.f)
  have r1 := r.mono g.t g.f
  have hl := r1.length
  refine ⟨fun i hi => ⟨vs, vs[i]'(by omega), h1, List.getElem?_eq_getElem _⟩, ⟨vs, h1, by omega⟩, fun i x H' hi hy => ?_⟩
  obtain ⟨rfl, hy⟩ := hy
  obtain ⟨t, ht, rt⟩ := r1.get (hy vs h1)
  exact ⟨t, W1, ht, rfl, Go.refl, Sx, rt⟩
theorem walk_t {W : Wd} {a : Addr} {vs : List V} {ts : List Tr} (h : TupAt X.K W.H a vs) (r : Rvs (XB X c) W.H W.F vs ts) : Walk (XB X c) W (Itt X.K a) ts := fun W1 σ ρ μ g Sx => by
  have h1 : SqT X.K W1.H a vs := (h.mono g.t).sq
  have r1 := r.mono g.t g.f
  have hl := r1.length
  refine ⟨fun i hi => ⟨vs, vs[i]'(by omega), h1, List.getElem?_eq_getElem _⟩, ⟨vs, h1, by omega⟩, fun i x H' hi hy => ?_⟩
  obtain ⟨rfl, hy⟩ := hy
  obtain ⟨t, ht, rt⟩ := r1.get (hy vs h1)
  exact ⟨t, W1, ht, rfl, Go.refl, Sx, rt⟩
theorem walk_s {W : Wd} {l : List Nat} : Walk (XB X c) W (Its (S l)) (l.map fun c => .str [c]) := fun W1 σ ρ μ g Sx => by
  have hsz : (S l).cps.size = l.length := by simp [S]
  refine ⟨fun i hi => by show i < (S l).cps.size; rw [List.length_map] at hi; omega, by show (S l).cps.size ≤ _; rw [List.length_map]; omega, fun i x H' hi hy => ?_⟩
  obtain ⟨rfl, c0, hc, rfl⟩ := hy
  have hc : l[i]? = some c0 := by simpa [S] using hc
  exact ⟨.str [c0], W1, by rw [List.getElem?_map, hc]; rfl, rfl, Go.refl, Sx, .str [c0]⟩
theorem pit_seq {tg e a} (ha : PJ X c e a) : PIt X c tg e (.itS a) := fun ρ μ ψ ε h W σ R Sx k tk => by
  refine WI.of (pi_seq pe_w) (ha ρ μ _ ε h W σ _ Sx (fun W1 v1 t1 μ1 g1 S1 r1 h1 => ?_) tk)
  cases t1 with
  | lst ts =>
    have r1 := r1.rv (by intro i e; cases e)
    cases r1 with
    | lst q1 q2 => exact .inl ⟨_, rfl, ⟨_, S1.lst q1⟩, k W1 _ ts μ1 g1 S1 (walk_l q1 q2) h1⟩
  | tup ts =>
    have r1 := r1.rv (by intro i e; cases e)
    cases r1 with
    | tup q1 q2 => exact .inr (.inl ⟨_, rfl, ⟨_, q1.sq⟩, k W1 _ ts μ1 g1 S1 (walk_t q1 q2) h1⟩)
  | str l =>
    have r1 := r1.rv (by intro i e; cases e)
    cases r1
    exact .inr (.inr ⟨_, rfl, k W1 _ _ μ1 g1 S1 walk_s h1⟩)
  | _ => exact h1.elim
theorem walk_r {W : Wd} {lo hi : Int} : Walk (XB X c) W (Itr lo (hi - lo).toNat) (Ir.rngL lo hi) := fun W1 σ ρ μ g Sx => by
  have hl : (Ir.rngL lo hi).length = (hi - lo).toNat := by simp [Ir.rngL]
  refine ⟨fun i hi' => by rw [hl] at hi'; exact hi', by rw [hl]; exact Nat.le_refl _, fun i x H' hi' hy => ?_⟩
  obtain ⟨rfl, rfl⟩ := hy
  rw [hl] at hi'
  refine ⟨.int (lo + (i : Nat)), W1, ?_, rfl, Go.refl, Sx, .int _⟩
  unfold Ir.rngL
  rw [List.getElem?_map, List.getElem?_range hi']
  rfl
theorem pit_rng1 {tg e a} (hm : X.mg "range" = none) (ha : PJ X c e a) (hg : Gl X "range" := by rfl) (hse : starEach [e] X.env = [(false, eval e X.env)] := by rfl) : PIt X c tg (.Call (.Name "range" p0) [e] [] pos) (.rng (.c (.int 0)) a) := fun ρ μ ψ ε h W σ R Sx k tk => by
  refine WI.of (pi_range1 hg hm (L2.pa_cons pe_w L2.pa_nil hse) hse) (ha ρ μ _ ε h W σ _ Sx (fun W1 v1 t1 μ1 g1 S1 r1 h1 => ?_) tk)
  cases t1 with
  | int j =>
    rw [int_of r1]
    obtain ⟨⟨_, _, q1, q2⟩, h1⟩ := h1
    refine ⟨j, rfl, q1, q2, ?_⟩
    have := k W1 _ _ μ1 g1 S1 (walk_r (lo := 0) (hi := j)) h1
    rw [Int.sub_zero] at this
    exact this
  | _ => exact h1.elim
theorem pit_rng2 {tg e d a b} (hm : X.mg "range" = none) (ha : PJ X c e a) (hb : PJ X c d b) (hg : Gl X "range" := by rfl) (hse : starEach [e, d] X.env = [(false, eval e X.env), (false, eval d X.env)] := by rfl) (hs2 : starEach [d] X.env = [(false, eval d X.env)] := by rfl) : PIt X c tg (.Call (.Name "range" p0) [e, d] [] pos) (.rng a b) := fun ρ μ ψ ε h W σ R Sx k tk => by
  refine WI.of (pi_range2 hg hm (L2.pa_cons pe_w (L2.pa_cons pe_w L2.pa_nil hs2) (by rw [hse, hs2])) hse hs2) (ha ρ μ _ ε h W σ _ Sx (fun W1 v1 t1 μ1 g1 S1 r1 h1 => hb ρ μ1 _ ε h1 W1 σ _ S1 (fun W2 v2 t2 μ2 g2 S2 r2 h2 => ?_) (tk_go g1 tk)) tk)
  cases t1 with
  | int i =>
    cases t2 with
    | int j =>
      rw [int_of r1, int_of r2]
      obtain ⟨⟨q1, q2, q3, q4⟩, h2⟩ := h2
      exact ⟨i, j, rfl, ⟨q1, q2, q3, q4⟩, k W2 _ _ μ2 (g1.trans g2) S2 (walk_r (lo := i) (hi := j)) h2⟩
    | _ => exact h2.elim
  | _ => exact h2.elim
/-- pairs made anew at each turn -/
theorem walk_pair {W : Wd} {J : It} {ts : List Tr} (hgo : ∀ W1 σ ρ μ, GoF W W1 → Sa (XB X c) W1 σ ρ μ → (∀ i, i < ts.length → J.go i W1.H) ∧ J.stop ts.length W1.H ∧ ∀ i x H', i < ts.length → J.yld i W1.H x H' → ∃ T vs us, x = .ref T ∧ W1.H T = none ∧ H' = upd W1.H T (.tup vs) ∧ ts[i]? = some (.tup us) ∧ Rvs (XB X c) W1.H W1.F vs us) : Walk (XB X c) W J ts := fun W1 σ ρ μ g Sx => by
  obtain ⟨h1, h2, h3⟩ := hgo W1 σ ρ μ g Sx
  refine ⟨h1, h2, fun i x H' hi hy => ?_⟩
  obtain ⟨T, vs, us, rfl, hT, rfl, ht, r⟩ := h3 i x H' hi hy
  obtain ⟨g2, S2⟩ := Sx.fresh (o := .tup vs) hT
  exact ⟨_, _, ht, rfl, g2, S2, .tup upd_same (r.mono g2.t g2.f)⟩
theorem enmL_get : ∀ (ts : List Tr) (s : Int) (i : Nat), (Ir.enmL s ts)[i]? = (ts[i]?).map fun t => .tup [.int (s + (i : Nat)), t]
  | [], s, i => by simp [Ir.enmL]
  | t :: ts, s, 0 => by simp [Ir.enmL]
  | t :: ts, s, i + 1 => by
    show (Ir.enmL (s + 1) ts)[i]? = _
    rw [enmL_get ts (s + 1) i]
    simp
    congr 1
    funext t
    congr 3
    omega
theorem enmL_len (ts : List Tr) : ∀ s, (Ir.enmL s ts).length = ts.length := by
  induction ts with
  | nil => intro s; rfl
  | cons t ts ih => intro s; show (Ir.enmL (s + 1) ts).length + 1 = _; rw [ih]; rfl
theorem pit_enm {e a} {elts : List Expr} {kk : Nat} {tpos : Pos} (hm : X.mg "enumerate" = none) (ha : PJ X c e a) (hg : Gl X "enumerate" := by rfl) (hse : starEach [e] X.env = [(false, eval e X.env)] := by rfl) : PIt X c (.Tuple elts kk tpos) (.Call (.Name "enumerate" p0) [e] [] pos) (.enm 0 a) := fun ρ μ ψ ε h W σ R Sx k tk => by
  refine WI.of (pi_enum hg hm (L2.pa_cons pe_w L2.pa_nil hse) hse) (ha ρ μ _ ε h W σ _ Sx (fun W1 v1 t1 μ1 g1 S1 r1 h1 => ?_) tk)
  cases t1 with
  | lst ts =>
    have r1 := r1.rv (by intro i e; cases e)
    cases r1 with
    | lst q1 q2 =>
      refine ⟨_, _, rfl, S1.lst q1, k W1 _ _ μ1 g1 S1 (walk_pair fun W2 σ2 ρ2 μ2 g2 S2 => ?_) h1⟩
      have h3 := S2.lst (q1.mono g2.f)
      have r3 := q2.mono g2.t g2.f
      have hl := r3.length
      rw [enmL_len]
      refine ⟨fun i hi => ⟨_, _, h3, List.getElem?_eq_getElem (by omega)⟩, ⟨_, h3, by omega⟩, fun i x H' hi hy => ?_⟩
      obtain ⟨T, y, rfl, hT, rfl, hy⟩ := hy
      obtain ⟨t, ht, rt⟩ := r3.get (hy _ h3)
      refine ⟨T, _, _, rfl, hT, rfl, by rw [enmL_get, ht]; rfl, .cons ?_ (.cons rt .nil)⟩
      rw [Int.zero_add]
      exact .int _
  | _ => exact h1.elim
/-! ### targets -/
mutual
def slots : Tg → List Nat
  | .nm i => [i]
  | .nil => []
  | .cons a b => slots a ++ slots b
end
def glen : Tg → Nat
  | .cons _ b => glen b + 1
  | _ => 0
def PGt (X : Cx) (c : Nat → Addr) (tg : Expr) (g : Tg) : Prop := ∀ ρ μ t (κ : Ev → Prop), Ir.tgK g t ρ κ → ∀ W σ v (Q : L2.St → Hp → Prop), Sa (XB X c) W σ ρ μ → Rp (XB X c) W v t →
  (∀ σ' ρ', Sa (XB X c) W σ' ρ' μ → (∀ i, i ∉ slots g → σ'[i]? = σ[i]?) → σ'.length = σ.length → κ ρ' → Q σ' W.H) → WG X tg v σ W.H Q
def PGl (X : Cx) (c : Nat → Addr) (tgs : List Expr) (g : Tg) : Prop := ∀ ρ μ ts (κ : Ev → Prop), Ir.tgL g ts ρ κ → ∀ W σ vs (Q : L2.St → Hp → Prop), Sa (XB X c) W σ ρ μ → Rvs (XB X c) W.H W.F vs ts →
  (∀ σ' ρ', Sa (XB X c) W σ' ρ' μ → (∀ i, i ∉ slots g → σ'[i]? = σ[i]?) → σ'.length = σ.length → κ ρ' → Q σ' W.H) → WGs X tgs vs σ W.H Q
theorem pg_nm {x : Str} {i : Nat} (f : Cf X n) (hi : X.N[i]? = some x) (hx : Loc X.env.scope x := by first | exact Or.inl rfl | exact Or.inr rfl) (hf : X.fn x = true ∨ X.env.scope.names.lookup x = some .local := by first | exact .inl rfl | exact .inr rfl) : PGt X c (.Name x pos) (.nm i) := fun ρ μ t κ h W σ v Q Sx r k =>
  WG.of (pg_name f.nd hi hx hf) (k _ _ (Sx.set r) (fun j hj => by
    have : i ≠ j := fun e => hj (by rw [e]; exact List.mem_singleton.mpr rfl)
    exact List.getElem?_set_ne this) (by rw [List.length_set]) (setK_at h))
theorem pgl_nil : PGl X c [] .nil := fun ρ μ ts κ h W σ vs Q Sx r k => by
  unfold Ir.tgL at h
  cases ts with
  | nil => cases r; exact wgs_nil (k σ ρ Sx (fun _ _ => rfl) rfl h)
  | cons => exact h.elim
theorem pgl_cons {e es a b} (ha : PGt X c e a) (hb : PGl X c es b) (hs : (assignEach (e :: es) X.env).map (·.2) = assign e X.env :: (assignEach es X.env).map (·.2) := by rfl) : PGl X c (e :: es) (.cons a b) := fun ρ μ ts κ h W σ vs Q Sx r k => by
  unfold Ir.tgL at h
  cases ts with
  | nil => exact h.elim
  | cons t ts =>
    cases r with
    | cons r1 r2 =>
      refine wgs_cons (ha ρ μ t _ h W σ _ _ Sx (.inl r1) fun σ1 ρ1 S1 e1 l1 h1 => hb ρ1 μ ts κ h1 W σ1 _ Q S1 r2 fun σ2 ρ2 S2 e2 l2 h2 => k σ2 ρ2 S2 (fun i hi => ?_) (l2.trans l1) h2) hs
      rw [e2 i (fun h => hi (List.mem_append_right _ h)), e1 i (fun h => hi (List.mem_append_left _ h))]
theorem tgL_len : ∀ {g : Tg} {ts : List Tr} {ρ : Ev} {κ : Ev → Prop}, Ir.tgL g ts ρ κ → (∀ ρ κ t a, Ir.tgK a t ρ κ → ∃ ρ', κ ρ') → ts.length = glen g
  | .nm _, ts, ρ, κ, h, _ => by unfold Ir.tgL at h; exact h.elim
  | .nil, ts, ρ, κ, h, _ => by
    unfold Ir.tgL at h
    cases ts with
    | nil => rfl
    | cons => exact h.elim
  | .cons a b, ts, ρ, κ, h, ht => by
    unfold Ir.tgL at h
    cases ts with
    | nil => exact h.elim
    | cons t ts =>
      obtain ⟨ρ', h'⟩ := ht _ _ _ _ h
      show ts.length + 1 = glen b + 1
      rw [tgL_len h' ht]
mutual
theorem tgK_ex : ∀ (a : Tg) (ρ : Ev) (κ : Ev → Prop) (t : Tr), Ir.tgK a t ρ κ → ∃ ρ', κ ρ'
  | .nm i, ρ, κ, t, h => ⟨_, setK_at (by unfold Ir.tgK at h; exact h)⟩
  | .nil, ρ, κ, t, h => by unfold Ir.tgK at h; exact h.elim
  | .cons a b, ρ, κ, t, h => by
    unfold Ir.tgK at h
    split at h
    · obtain ⟨ρ1, h⟩ := tgK_ex a _ _ _ h
      exact tgL_ex b _ _ _ h
    · obtain ⟨ρ1, h⟩ := tgK_ex a _ _ _ h
      exact tgL_ex b _ _ _ h
    · exact h.elim
theorem tgL_ex : ∀ (a : Tg) (ρ : Ev) (κ : Ev → Prop) (ts : List Tr), Ir.tgL a ts ρ κ → ∃ ρ', κ ρ'
  | .nm i, ρ, κ, t, h => by unfold Ir.tgL at h; exact h.elim
  | .nil, ρ, κ, t, h => by
    unfold Ir.tgL at h
    split at h
    · exact ⟨ρ, h⟩
    · exact h.elim
  | .cons a b, ρ, κ, t, h => by
    unfold Ir.tgL at h
    split at h
    · obtain ⟨ρ1, h⟩ := tgK_ex a _ _ _ h
      exact tgL_ex b _ _ _ h
    · exact h.elim
end
theorem pg_tup {es k g} (f : Cf X n) (h : PGl X c es g) (hg : ∃ a b, g = .cons a b) (hn : (assignEach es X.env).length = glen g := by rfl) (hst : (assignEach es X.env).findIdx? (·.1) = none := by rfl) : PGt X c (.Tuple es k pos) g := fun ρ μ t κ hk W σ v Q Sx r q => by
  obtain ⟨a, b, rfl⟩ := hg
  have hL : ∀ ts, Ir.tgL (.cons a b) ts ρ κ → ts.length = glen (.cons a b) := fun ts h => tgL_len h fun ρ κ t a h => tgK_ex a ρ κ t h
  unfold Ir.tgK at hk
  split at hk
  · rename_i x xs
    have r := r.rv (by intro i e; cases e)
    cases r with
    | tup h1 h2 =>
      have hk' : Ir.tgL (.cons a b) (x :: xs) ρ κ := by unfold Ir.tgL; exact hk
      exact WG.of (L2.pg_tup f.calm pgs_w hn hst) ⟨_, _, rfl, h1.sq, by rw [h2.length]; exact hL _ hk', h ρ μ _ κ hk' W σ _ Q Sx h2 q⟩
  · rename_i x xs
    have r := r.rv (by intro i e; cases e)
    cases r with
    | lst h1 h2 =>
      have hk' : Ir.tgL (.cons a b) (x :: xs) ρ κ := by unfold Ir.tgL; exact hk
      exact WG.of (pg_lst f.calm pgs_w hn hst) ⟨_, _, rfl, Sx.lst h1, by rw [h2.length]; exact hL _ hk', h ρ μ _ κ hk' W σ _ Q Sx h2 q⟩
  · exact hk.elim
end
end Is

/-! In: comprehensions. -/
namespace Is
open PySem PySem.Spec PyProof.Rows L2 Wx
open Ir (Tr Cel Mem Ev EK SK Con Tg Op Cm I Sm wp wps)
section
variable {B : Bs} {W W' : Wd} {σ σ' : L2.St} {ρ ρ' : Ev} {μ : Mem}
theorem wipe1_eq : ∀ (ρ : Ev) (v : Nat), Ir.wipe1 ρ v = ρ.set v none
  | [], v => rfl
  | _ :: _, 0 => rfl
  | a :: r, v + 1 => by show a :: Ir.wipe1 r v = _; rw [wipe1_eq r v]; rfl
theorem wipeE_len (ρ : Ev) : ∀ vs, (Ir.wipeE ρ vs).length = ρ.length
  | [] => rfl
  | v :: vs => by unfold Ir.wipeE; rw [wipe1_eq, List.length_set, wipeE_len ρ vs]
theorem wipeE_some {i : Nat} {t : Tr} : ∀ {vs : List Nat}, (Ir.wipeE ρ vs)[i]? = some (some t) → ρ[i]? = some (some t) ∧ i ∉ vs
  | [], h => ⟨h, by simp⟩
  | v :: vs, h => by
    unfold Ir.wipeE at h
    rw [wipe1_eq] at h
    by_cases e : v = i
    · subst e
      rw [List.getElem?_set_self' ] at h
      cases q : (Ir.wipeE ρ vs)[v]? with
      | none => rw [q] at h; cases h
      | some x => rw [q] at h; cases h
    · rw [List.getElem?_set_ne e] at h
      obtain ⟨h1, h2⟩ := wipeE_some h
      exact ⟨h1, fun hm => by rcases List.mem_cons.mp hm with rfl | hm; exact e rfl; exact h2 hm⟩
theorem wipe_out {i : Nat} : ∀ {vs : List Nat}, i ∉ vs → (wipe σ vs)[i]? = σ[i]?
  | [], _ => rfl
  | v :: vs, h => by
    unfold wipe
    rw [List.getElem?_set_ne (fun e => h (by rw [← e]; exact List.mem_cons_self)), wipe_out fun hm => h (List.mem_cons_of_mem _ hm)]
theorem wipe_in {i : Nat} : ∀ {vs : List Nat}, i ∈ vs → i < σ.length → (wipe σ vs)[i]? = some none
  | [], h, _ => by simp at h
  | v :: vs, h, hl => by
    unfold wipe
    by_cases e : v = i
    · subst e
      rw [List.getElem?_set_self (by rw [wipe_length]; exact hl)]
    · rw [List.getElem?_set_ne e]
      rcases List.mem_cons.mp h with rfl | h
      · exact absurd rfl e
      · exact wipe_in h hl
theorem wipe_eq {vs : List Nat} (hl : σ'.length = σ.length) (h : ∀ i, i ∉ vs → σ'[i]? = σ[i]?) : wipe σ' vs = wipe σ vs := by
  apply List.ext_getElem?
  intro i
  by_cases hi : i ∈ vs
  · by_cases hlt : i < σ.length
    · rw [wipe_in hi hlt, wipe_in hi (by rw [hl]; exact hlt)]
    · rw [List.getElem?_eq_none (by rw [wipe_length, hl]; omega), List.getElem?_eq_none (by rw [wipe_length]; omega)]
  · rw [wipe_out hi, wipe_out hi, h i hi]
theorem Sa.wiped (Sx : Sa B W σ ρ μ) (vs : List Nat) : Sa B W (wipe σ vs) (Ir.wipeE ρ vs) μ := Sx.sub (by rw [wipeE_len, wipe_length]; exact Sx.ln) fun i t h => by
  obtain ⟨h1, h2⟩ := wipeE_some h
  obtain ⟨v, h3, h4⟩ := Sx.env i t h1
  exact ⟨v, (wipe_out h2).trans h3, h4⟩
/-! a list that is being filled: known as somebody else's -/
structure Fill (W1 W : Wd) (D : Addr) (o : HO) : Prop where
  g : Go W1 W
  G : W.G D = some o
  F : W.F D = none
theorem Fill.go {W1 W W2 : Wd} {D : Addr} {o : HO} (f : Fill W1 W D o) (g : Go W W2) : Fill W1 W2 D o := ⟨f.g.trans g, g.g _ _ f.G, g.n D (by rw [f.G]; exact fun z => nomatch z) f.F⟩
def notTup : HO → Prop
  | .tup _ => False
  | _ => True
theorem tex_nt {H : Hp} {p : Addr} {o u : HO} (h : H p = some u) (hu : notTup u) : TEx H (upd H p o) := fun a xs e => by
  rw [upd_ne]
  · exact e
  · intro z
    subst z
    rw [h] at e
    cases e
    exact hu
/-- it begins -/
theorem Sa.fill0 (Sx : Sa B W σ ρ μ) {D : Addr} {o : HO} (h : W.H D = none) : Fill W { W with G := upd W.G D o, H := upd W.H D o } D o ∧ Sa B { W with G := upd W.G D o, H := upd W.H D o } σ ρ μ := by
  obtain ⟨g, S1⟩ := Sx.fresh (o := o) h
  have hg := Sx.gnone h
  have hf := Sx.fnone hg
  have g2 : Go { W with H := upd W.H D o } { W with G := upd W.G D o, H := upd W.H D o } := ⟨Ex.new hg, Ex.refl _, TEx.refl _, fun _ _ h => h, fun _ _ h => h⟩
  refine ⟨⟨g.trans g2, upd_same, hf⟩, ⟨fun b u hb => ?_, fun b u hb => ?_, fun i u hi => ?_, Sx.lA, Sx.lO, fun i c hc => ?_, Sx.nd, fun x hx => ?_, Sx.ln⟩⟩
  · by_cases e : b = D
    · subst e
      exact (upd_same.trans (upd_same.symm.trans hb))
    · exact S1.gh b u ((upd_ne e).symm.trans hb)
  · have hb' : W.F b = some u := hb
    have e : b ≠ D := fun e => by subst e; rw [hf] at hb'; cases hb'
    rcases Sx.fg b u hb' with h1 | ⟨⟨d, h1⟩, h2⟩
    · exact .inl ((upd_ne e).trans h1)
    · exact .inr ⟨⟨d, (upd_ne e).trans h1⟩, h2⟩
  · obtain ⟨v, h1, h2⟩ := S1.env i u hi
    exact ⟨v, h1, h2.go g2⟩
  · exact S1.mem i c hc
  · have hx' : x ≠ D := fun e => Sx.onone h (e ▸ hx)
    exact ⟨(upd_ne hx').trans (Sx.own x hx).1, (S1.own x hx).2⟩
/-- it is written -/
theorem Sa.fill1 {W1 : Wd} (Sx : Sa B W σ ρ μ) {D : Addr} {o u : HO} (f : Fill W1 W D o) (ho : notTup o) (h1 : W1.G D = none) : Fill W1 { W with G := upd W.G D u, H := upd W.H D u } D u ∧ TEx W.H (upd W.H D u) ∧ Sa B { W with G := upd W.G D u, H := upd W.H D u } [] [] μ := by
  have hD := Sx.gh D o f.G
  have t : TEx W.H (upd W.H D u) := tex_nt hD ho
  have nO : ∀ x ∈ W.O.flatten, x ≠ D := fun x hx e => by subst e; have := (Sx.own x hx).1; rw [f.G] at this; cases this
  refine ⟨⟨⟨fun x o' hx => ?_, f.g.f, f.g.t.trans t, f.g.n, f.g.p⟩, upd_same, f.F⟩, t, ⟨fun b v hb => ?_, fun b v hb => ?_, fun i v hi => by simp at hi, Sx.lA, Sx.lO, fun i c hc => ?_, Sx.nd, fun x hx => ?_, rfl⟩⟩
  · exact (upd_ne fun e => by subst e; rw [h1] at hx; cases hx).trans (f.g.g x o' hx)
  · by_cases e : b = D
    · subst e
      exact (upd_same.trans (upd_same.symm.trans hb))
    · exact (upd_ne e).trans (Sx.gh b v ((upd_ne e).symm.trans hb))
  · have hb' : W.F b = some v := hb
    have e : b ≠ D := fun e => by subst e; rw [f.F] at hb'; cases hb'
    rcases Sx.fg b v hb' with h1 | ⟨⟨d, h1⟩, h2⟩
    · exact .inl ((upd_ne e).trans h1)
    · exact .inr ⟨⟨d, (upd_ne e).trans h1⟩, h2⟩
  · obtain ⟨a, fp, h1, h2, h3⟩ := Sx.mem i c hc
    exact ⟨a, fp, h1, h2, h3.frame (fun x hx => upd_ne (nO x (flat_get h2 hx))) t (Ex.refl _)⟩
  · exact ⟨(upd_ne (nO x hx)).trans (Sx.own x hx).1, fun z => (Sx.own x hx).2 ((upd_ne (nO x hx)).symm.trans z)⟩
def delH (H : Hp) (D : Addr) : Hp := fun x => if x = D then none else H x
theorem delH_ne {H : Hp} {D x : Addr} (h : x ≠ D) : delH H D x = H x := if_neg h
theorem delH_same {H : Hp} {D : Addr} : delH H D D = none := if_pos rfl
theorem upd_del {H : Hp} {D : Addr} {o : HO} (h : H D = some o) : upd (delH H D) D o = H := by
  funext x
  by_cases e : x = D
  · subst e; rw [upd_same, h]
  · rw [upd_ne e, delH_ne e]
/-- it is done: nobody's -/
theorem Sa.fill2 {W1 : Wd} (Sx : Sa B W σ ρ μ) {D : Addr} {o : HO} (f : Fill W1 W D o) (ho : notTup o) (h1 : W1.G D = none) : Go W1 { W with G := delH W.G D, H := delH W.H D } ∧ TEx W.H (delH W.H D) ∧ Sa B { W with G := delH W.G D, H := delH W.H D } [] [] μ := by
  have hD := Sx.gh D o f.G
  have t : TEx W.H (delH W.H D) := fun a xs e => by
    rw [delH_ne]
    · exact e
    · intro z; subst z; rw [hD] at e; cases e; exact ho
  have nO : ∀ x ∈ W.O.flatten, x ≠ D := fun x hx e => by subst e; have := (Sx.own x hx).1; rw [f.G] at this; cases this
  refine ⟨⟨fun x o' hx => (delH_ne fun e => by subst e; rw [h1] at hx; cases hx).trans (f.g.g x o' hx), f.g.f, f.g.t.trans t, f.g.n, f.g.p⟩, t, ⟨fun b v hb => ?_, fun b v hb => ?_, fun i v hi => by simp at hi, Sx.lA, Sx.lO, fun i c hc => ?_, Sx.nd, fun x hx => ?_, rfl⟩⟩
  · have e : b ≠ D := fun e => by
      subst e
      rw [show ({ W with G := delH W.G b, H := delH W.H b } : Wd).G b = none from delH_same] at hb
      cases hb
    exact (delH_ne e).trans (Sx.gh b v ((delH_ne e).symm.trans hb))
  · have hb' : W.F b = some v := hb
    have e : b ≠ D := fun e => by subst e; rw [f.F] at hb'; cases hb'
    rcases Sx.fg b v hb' with h1 | ⟨⟨d, h1⟩, h2⟩
    · exact .inl ((delH_ne e).trans h1)
    · exact .inr ⟨⟨d, (delH_ne e).trans h1⟩, h2⟩
  · obtain ⟨a, fp, h1, h2, h3⟩ := Sx.mem i c hc
    exact ⟨a, fp, h1, h2, h3.frame (fun x hx => delH_ne (nO x (flat_get h2 hx))) t (Ex.refl _)⟩
  · exact ⟨(delH_ne (nO x hx)).trans (Sx.own x hx).1, fun z => (Sx.own x hx).2 ((delH_ne (nO x hx)).symm.trans z)⟩
end
section
variable {X : Cx} {c : Nat → Addr} {n : Nat} {pos : Pos}
/-- [elt for tg in iter if cond]: the turn's parts; tt is the test's reading -/
theorem lc_go {elt tg iter : Expr} {scope : Scope} {own : List (Str × Nat)} {g : Tg} {i ce e' : I} {tt : TT} (hi : PIt X c tg iter i)
    (hg : ∀ s H0 C cl fp, PGt (Bk X scope s H0 C cl fp) c tg g) (hgs : ∀ j ∈ slots g, j ∈ own.map (·.2)) (he : ∀ s H0 C cl fp, PJ (Bk X scope s H0 C cl fp) c elt e')
    (ht : ∀ ρ μ (φ : EK), wp ce ρ μ φ (fun _ _ => False) → (∀ t μ, φ t μ → ∃ b, t = .bl b) → ∀ W σ (Q : Bool → Hp → Prop), Sa (XB X c) W σ ρ μ → (∀ W' b μ', Go W W' → Sa (XB X c) W' σ ρ μ' → φ (.bl b) μ' → Q b W'.H) → tt σ W.H Q)
    {ρ μ φ ε} (hw : wp (.comp g (own.map (·.2)) i ce e') ρ μ φ ε) {W : Wd} {σ : L2.St} {Q : VK} (Sx : Sa (XB X c) W σ ρ μ)
    (k : ∀ W' p vs ts μ', Go W W' → Sa (XB X c) W' σ ρ μ' → W'.H p = none → Rvs (XB X c) W'.H W'.F vs ts → φ (.lst ts) μ' → Q (.ref p) (upd W'.H p (.lst vs))) (tk : Takes X (xW (XB X c) W σ ρ ε)) :
    tLc (WI X tg iter) (gB X scope tg) tt (eB X scope elt) (own.map (·.2)) σ W.H Q := by
  refine hi ρ μ (fun ts μ => Ir.szK ts.length (Ir.compK (fun t μ k => Ir.tgK g t (Ir.wipeE ρ (own.map (·.2))) fun ρ => wp ce ρ μ (fun b μ => match b with
          | .bl true => wp e' ρ μ (fun r μ => match r with | .ptr _ => False | r => k (some r) μ) (fun _ _ => False)
          | .bl false => k none μ
          | _ => False) (fun _ _ => False)) ts μ fun rs μ => φ (.lst rs) μ)) ε hw W σ _ Sx (fun W1 J ts μ1 g1 S1 wk h1 => ?_) tk
  obtain ⟨hz, h1⟩ := Ir.szK_le h1
  intro D hD
  have hG1 := S1.gnone hD
  obtain ⟨f0, S0⟩ := S1.fill0 (o := .lst []) hD
  refine ⟨fun i m H => ∃ W2 μ2 acc rs, W2.H = H ∧ Fill W1 W2 D (.lst acc) ∧ Sa (XB X c) W2 σ ρ μ2 ∧ Rvs (XB X c) W2.H W2.F acc rs ∧ acc.length ≤ i ∧ i + m = ts.length ∧ Ir.compK (fun t μ k => Ir.tgK g t (Ir.wipeE ρ (own.map (·.2))) fun ρ => wp ce ρ μ (fun b μ => match b with
          | .bl true => wp e' ρ μ (fun r μ => match r with | .ptr _ => False | r => k (some r) μ) (fun _ _ => False)
          | .bl false => k none μ
          | _ => False) (fun _ _ => False)) (ts.drop i) μ2 fun rs' μ => φ (.lst (rs ++ rs')) μ, ⟨ts.length, _, μ1, [], [], rfl, f0, S0, .nil, Nat.le_refl _, Nat.zero_add _, h1⟩, fun i m H hW => ?_⟩
  obtain ⟨W2, μ2, acc, rs, rfl, fl, S2, r2, hl2, hm, hk⟩ := hW
  obtain ⟨w1, w2, w3⟩ := wk W2 σ ρ μ2 fl.g.gf S2
  have hDl := S2.gh D _ fl.G
  by_cases hi' : i < ts.length
  · refine .inr ⟨w1 i hi', fun H' => ∃ W2 μ2 acc rs, W2.H = H' ∧ Fill W1 W2 D (.lst acc) ∧ Sa (XB X c) W2 σ ρ μ2 ∧ Rvs (XB X c) W2.H W2.F acc rs ∧ acc.length ≤ i + 1 ∧ Ir.compK (fun t μ k => Ir.tgK g t (Ir.wipeE ρ (own.map (·.2))) fun ρ => wp ce ρ μ (fun b μ => match b with
          | .bl true => wp e' ρ μ (fun r μ => match r with | .ptr _ => False | r => k (some r) μ) (fun _ _ => False)
          | .bl false => k none μ
          | _ => False) (fun _ _ => False)) (ts.drop (i + 1)) μ2 fun rs' μ => φ (.lst (rs ++ rs')) μ, fun H' ⟨W3, μ3, acc3, rs3, e1, e2, e3, e4, e5, e6⟩ => ⟨m - 1, by omega, W3, μ3, acc3, rs3, e1, e2, e3, e4, e5, by omega, e6⟩, fun x H' hy => ?_⟩
    obtain ⟨t, W3, htt, rfl, g3, S3, rt⟩ := w3 i x H' hi' hy
    rw [List.drop_eq_getElem_cons hi', show ts[i] = t from (List.getElem?_eq_some_iff.mp htt).2] at hk
    rw [Ir.compK_cons] at hk
    have fl3 := fl.go g3
    have r3 := r2.mono g3.t g3.f
    intro s H0 C cl fp
    refine hg s H0 C cl fp (Ir.wipeE ρ (own.map (·.2))) μ2 t _ hk W3 _ x _ (S3.wiped _) (.inl rt) fun σ4 ρ4 S4 e4 l4 h4 => ⟨?_, ?_⟩
    · rw [wipe_length] at l4
      exact wipe_eq l4 fun j hj => (e4 j fun hs => hj (hgs j hs)).trans (wipe_out hj)
    · refine ht ρ4 μ2 _ h4 (fun t μ h => by cases t <;> first | exact ⟨_, rfl⟩ | exact h.elim) W3 σ4 _ S4 fun W5 b μ5 g5 S5 h5 => ?_
      cases b with
      | true =>
        rw [if_pos rfl]
        intro s H0 C cl fp
        refine he s H0 C cl fp ρ4 μ5 _ _ h5 W5 σ4 _ S5 (fun W6 v6 t6 μ6 g6 S6 r6 h6 => ?_) tk_no
        have fl6 := (fl3.go g5).go g6
        have hn : ∀ j, t6 ≠ .ptr j := fun j e => by subst e; exact h6
        have h6' : Ir.compK (fun t μ k => Ir.tgK g t (Ir.wipeE ρ (own.map (·.2))) fun ρ => wp ce ρ μ (fun b μ => match b with
          | .bl true => wp e' ρ μ (fun r μ => match r with | .ptr _ => False | r => k (some r) μ) (fun _ _ => False)
          | .bl false => k none μ
          | _ => False) (fun _ _ => False)) (ts.drop (i + 1)) μ6 fun rs' μ => φ (.lst (rs ++ (t6 :: rs'))) μ := by
          cases t6 <;> first | exact h6 | exact h6.elim
        have rv6 := r6.rv hn
        refine ⟨acc, S6.gh D _ fl6.G, sz_lt (by omega), ?_⟩
        obtain ⟨f7, t7, S7⟩ := S6.fill1 (u := .lst (acc ++ [v6])) fl6 True.intro hG1
        have r6' := (r3.mono g5.t g5.f).mono g6.t g6.f
        refine ⟨_, μ6, acc ++ [v6], rs ++ [t6], rfl, f7, S1.env' S7 f7.g, ((r6'.app (.cons rv6 .nil)).mono t7 (Ex.refl _)), by rw [List.length_append]; simp; omega, ?_⟩
        simp only [List.append_assoc, List.singleton_append]
        exact h6'
      | false =>
        rw [if_neg Bool.false_ne_true]
        have fl5 := fl3.go g5
        exact ⟨W5, μ5, acc, rs, rfl, fl5, S1.env' S5.nil fl5.g, r3.mono g5.t g5.f, by omega, h5⟩
  · have e : i = ts.length := by omega
    subst e
    refine .inl ⟨w2, ?_⟩
    rw [List.drop_of_length_le (Nat.le_refl _)] at hk
    rw [Ir.compK_nil] at hk
    have hk : φ (.lst (rs ++ [])) μ2 := hk
    rw [List.append_nil] at hk
    obtain ⟨g3, t3, S3⟩ := S2.fill2 fl True.intro hG1
    have := k _ D acc rs μ2 (g1.trans g3) (S1.env' S3 g3) delH_same (r2.mono t3 (Ex.refl _)) hk
    rw [show upd ({ W2 with G := delH W2.G D, H := delH W2.H D } : Wd).H D (.lst acc) = W2.H from upd_del hDl] at this
    exact this
theorem pn_lc {elt tg iter : Expr} {scope : Scope} {own : List (Str × Nat)} {vs : List Nat} {g : Tg} {i e' : I} (f : Cf X n) (ok : BlkOk X.N X.env.scope scope own) (hvs : vs = own.map (·.2)) (hgs : ∀ j ∈ slots g, j ∈ vs) (hi : PIt X c tg iter i) (hg : ∀ s H0 C cl fp, PGt (Bk X scope s H0 C cl fp) c tg g)
    (he : ∀ s H0 C cl fp, PJ (Bk X scope s H0 C cl fp) c elt e') (hs : nofold iter X.env := by intro _; rfl) : PN X c (.ListComp elt [⟨tg, iter, [], 0⟩] scope pos) (.comp g vs i .yes e') := fun ρ μ φ ε hw W σ Q Sx k k2 k3 tk => by
  subst hvs
  refine WE.of (pe_lcB f.calm f.nd pi_w ok hs) (lc_go (ce := .yes) hi hg hgs he (fun ρ μ φ h hφ W σ Q Sx k => ?_) hw Sx k tk)
  exact k W true μ Go.refl Sx h
theorem pn_lci {elt tg iter cond : Expr} {scope : Scope} {own : List (Str × Nat)} {vs : List Nat} {g : Tg} {i ce e' : I} (f : Cf X n) (ok : BlkOk X.N X.env.scope scope own) (hvs : vs = own.map (·.2)) (hgs : ∀ j ∈ slots g, j ∈ vs) (hi : PIt X c tg iter i) (hg : ∀ s H0 C cl fp, PGt (Bk X scope s H0 C cl fp) c tg g)
    (hc : ∀ s H0 C cl fp, PT (Bk X scope s H0 C cl fp) c cond ce) (he : ∀ s H0 C cl fp, PJ (Bk X scope s H0 C cl fp) c elt e') (hs : nofold iter X.env := by intro _; rfl) : PN X c (.ListComp elt [⟨tg, iter, [cond], 0⟩] scope pos) (.comp g vs i ce e') := fun ρ μ φ ε hw W σ Q Sx k k2 k3 tk => by
  subst hvs
  refine WE.of (pe_lcBi f.calm f.nd pi_w ok hs) (lc_go (ce := ce) hi hg hgs he (fun ρ μ φ h hφ W σ Q Sx k => ?_) hw Sx k tk)
  intro s H0 C cl fp
  exact hc s H0 C cl fp ρ μ φ _ h hφ W σ Q Sx k tk_no
end
end Is

/-! Io: statements. -/
namespace Is
open PySem PySem.Spec PyProof.Rows L2 Wx
open Ir (Tr Cel Mem Ev EK SK EX Con Tg Op Cm I Sm wp wps)
def xWs (B : Bs) (W : Wd) (ε : EX) : WX := fun cls d σ' H' => ∃ W' ρ' t μ', W'.H = H' ∧ Go W W' ∧ Sa B W' σ' ρ' μ' ∧ Rx B W' cls d t ∧ ε t ρ' μ'
structure Lk (B : Bs) (W : Wd) (D : Ends) (nx : SK) (rt : EK) (bk ct : SK) : Prop where
  nx : ∀ W' σ' ρ' μ', Go W W' → Sa B W' σ' ρ' μ' → nx ρ' μ' → D.nx σ' W'.H
  rt : ∀ W' v t μ', Go W W' → Sa B W' [] [] μ' → Rp B W' v t → rt t μ' → D.rt v W'.H
  bk : ∀ W' σ' ρ' μ', Go W W' → Sa B W' σ' ρ' μ' → bk ρ' μ' → D.bk σ' W'.H
  ct : ∀ W' σ' ρ' μ', Go W W' → Sa B W' σ' ρ' μ' → ct ρ' μ' → D.ct σ' W'.H
theorem Lk.go {B W W1 D nx rt bk ct} (g : Go W W1) (l : Lk B W D nx rt bk ct) : Lk B W1 D nx rt bk ct :=
  ⟨fun W' σ' ρ' μ' g' => l.nx W' σ' ρ' μ' (g.trans g'), fun W' v t μ' g' => l.rt W' v t μ' (g.trans g'), fun W' σ' ρ' μ' g' => l.bk W' σ' ρ' μ' (g.trans g'), fun W' σ' ρ' μ' g' => l.ct W' σ' ρ' μ' (g.trans g')⟩
section
variable {X : Cx} {c : Nat → Addr} {n : Nat} {pos : Pos}
def PS (X : Cx) (c : Nat → Addr) (st : Stmt) (s : Sm) : Prop := ∀ nx rt bk ct ε ρ μ, wps s nx rt bk ct ε ρ μ → ∀ W σ D, Sa (XB X c) W σ ρ μ → Lk (XB X c) W D nx rt bk ct → Takes X (xWs (XB X c) W ε) → WS X st D σ W.H
def PSs (X : Cx) (c : Nat → Addr) (sts : List Stmt) (s : Sm) : Prop := ∀ nx rt bk ct ε ρ μ, wps s nx rt bk ct ε ρ μ → ∀ W σ D, Sa (XB X c) W σ ρ μ → Lk (XB X c) W D nx rt bk ct → Takes X (xWs (XB X c) W ε) → WSs X sts D σ W.H
theorem tks_go {W W1 : Wd} {ε : EX} (g : Go W W1) (t : Takes X (xWs (XB X c) W ε)) : Takes X (xWs (XB X c) W1 ε) :=
  t.imp fun cls d σ' H' ⟨W', ρ', u, μ', h1, h2, h3⟩ => ⟨W', ρ', u, μ', h1, g.trans h2, h3⟩
theorem tks_e {W : Wd} {σ ρ} {ε : EX} (t : Takes X (xWs (XB X c) W ε)) : Takes X (xW (XB X c) W σ ρ (fun t μ => ε t ρ μ)) :=
  t.imp fun cls d σ' H' ⟨e, W', u, μ', h1, h2, h3, h4, h5⟩ => by subst e; exact ⟨W', ρ, u, μ', h1, h2, h3, h4, h5⟩
theorem pss_nil : PSs X c [] .skip := fun nx rt bk ct ε ρ μ h W σ D Sx l tk => ws_nil (l.nx W σ ρ μ Go.refl Sx h)
theorem pss_one {st s} (h : PS X c st s) : PSs X c [st] s := fun nx rt bk ct ε ρ μ hw W σ D Sx l tk => ws_one (h nx rt bk ct ε ρ μ hw W σ D Sx l tk)
theorem pss_cons {st rest s t} (h : PS X c st s) (hr : PSs X c rest t) : PSs X c (st :: rest) (.seq s t) := fun nx rt bk ct ε ρ μ hw W σ D Sx l tk => by
  obtain ⟨n1, n2, n3, n4⟩ := D
  exact ws_cons (h _ rt bk ct ε ρ μ hw W σ _ Sx ⟨fun W' σ' ρ' μ' g S' h' => hr nx rt bk ct ε ρ' μ' h' W' σ' _ S' (l.go g) (tks_go g tk), l.rt, l.bk, l.ct⟩ tk)
theorem ps_pass : PS X c (.Pass pos) .skip := fun nx rt bk ct ε ρ μ h W σ D Sx l tk => ws_pass (l.nx W σ ρ μ Go.refl Sx h)
theorem ps_brk : PS X c (.Break pos) .brk := fun nx rt bk ct ε ρ μ h W σ D Sx l tk => ws_break (l.bk W σ ρ μ Go.refl Sx h)
theorem ps_cnt : PS X c (.Continue pos) .cnt := fun nx rt bk ct ε ρ μ h W σ D Sx l tk => ws_cont (l.ct W σ ρ μ Go.refl Sx h)
theorem ps_bad {st} : PS X c st .bad := fun nx rt bk ct ε ρ μ h W σ D Sx l tk => h.elim
theorem ps_ex {e a} (ha : PJ X c e a) (hs : swapsWith e none pos.line X.env = pure false := by rfl) : PS X c (.Expr e pos) (.ex a) := fun nx rt bk ct ε ρ μ h W σ D Sx l tk =>
  ws_expr (ha ρ μ _ _ h W σ _ Sx (fun W1 v t μ1 g1 S1 r1 h1 => l.nx W1 σ ρ μ1 g1 S1 h1) (tks_e tk)) hs
theorem ps_ret {e a} (ha : PJ X c e a) : PS X c (.Return (some e) pos) (.ret a) := fun nx rt bk ct ε ρ μ h W σ D Sx l tk =>
  ws_ret (ha ρ μ _ _ h W σ _ Sx (fun W1 v t μ1 g1 S1 r1 h1 => l.rt W1 v t μ1 g1 S1.nil r1 h1) (tks_e tk))
theorem ps_retN : PS X c (.Return none pos) (.ret (.c .non)) := fun nx rt bk ct ε ρ μ h W σ D Sx l tk => ws_retN (l.rt W _ _ μ Go.refl Sx.nil (.inl .non) h)
theorem ps_if {e a b x s t} (hc : PT X c e x) (ha : PSs X c a s) (hb : PSs X c b t) : PS X c (.If e a b pos) (.ite x s t) := fun nx rt bk ct ε ρ μ h W σ D Sx l tk =>
  ws_if (hc ρ μ _ _ h (fun t μ h => by cases t <;> first | exact ⟨_, rfl⟩ | exact h.elim) W σ _ Sx (fun W1 b0 μ1 g1 S1 h1 => by
    cases b0 with
    | true => rw [if_pos rfl]; exact ha nx rt bk ct ε ρ μ1 h1 W1 σ D S1 (l.go g1) (tks_go g1 tk)
    | false => rw [if_neg Bool.false_ne_true]; exact hb nx rt bk ct ε ρ μ1 h1 W1 σ D S1 (l.go g1) (tks_go g1 tk)) (tks_e tk))
theorem ps_asg {tg e g a} (hg : PGt X c tg g) (ha : PJ X c e a) (hs : swapsWithSole [tg] e pos.line X.env = pure false := by rfl) (hw : swappedStores [tg] e X.env = pure none := by rfl)
    (h1 : (assignEach [tg] X.env).map (·.2) = [assign tg X.env] := by rfl) : PS X c (.Assign [tg] e pos) (.asg g a) := fun nx rt bk ct ε ρ μ h W σ D Sx l tk =>
  ws_asg (ha ρ μ _ _ h W σ _ Sx (fun W1 v t μ1 g1 S1 r1 h1 => hg ρ μ1 t _ h1 W1 σ v _ S1 r1 fun σ' ρ' S' _ _ h2 => l.nx W1 σ' ρ' μ1 g1 S' h2) (tks_e tk)) hs hw h1
theorem ps_set {x : Str} {e a} {i : Nat} {pos'} (f : Cf X n) (hi : X.N[i]? = some x) (ha : PJ X c e a) (hx : Loc X.env.scope x := by first | exact Or.inl rfl | exact Or.inr rfl)
    (hs : swapsWith e (some (.Name x pos')) pos.line X.env = pure false := by rfl) (hf : X.fn x = true ∨ X.env.scope.names.lookup x = some .local := by first | exact .inl rfl | exact .inr rfl) : PS X c (.Assign [.Name x pos'] e pos) (.asg (.nm i) a) := fun nx rt bk ct ε ρ μ h W σ D Sx l tk =>
  WS.of (L2.ps_set f.nd hi hx pe_w hs hf) (ha ρ μ _ _ h W σ _ Sx (fun W1 v t μ1 g1 S1 r1 h1 => by
    unfold Ir.tgK at h1
    exact l.nx W1 _ _ μ1 g1 (S1.set r1) (setK_at h1)) (tks_e tk))
theorem opW : ∀ o : Op, (o = .add ∨ o = .sub) → ∀ {i j : Int} {H : Hp} {Q : VK}, (Q (.int (if o = .add then i + j else i - j)) H) → WIp X (opOf o) (.int i) (.int j) H Q := by
  intro o ho i j H Q q
  rcases ho with rfl | rfl
  · exact wip_add q
  · exact wip_sub q
theorem ps_aug {x : Str} {e a} {i : Nat} {o : Op} {pos'} (f : Cf X n) (ho : o = .add ∨ o = .sub) (hi : X.N[i]? = some x) (ha : PJ X c e a) (hx : Loc X.env.scope x := by first | exact Or.inl rfl | exact Or.inr rfl) (hf : X.fn x = true ∨ X.env.scope.names.lookup x = some .local := by first | exact .inl rfl | exact .inr rfl) :
    PS X c (.AugAssign (.Name x pos') (opOf o) e pos) (.augI i o a) := fun nx rt bk ct ε ρ μ h W σ D Sx l tk => by
  obtain ⟨t, h1, h2⟩ := getK_at h
  obtain ⟨v, h3, h4⟩ := Sx.env i t h1
  cases t with
  | int i0 =>
    rw [int_of h4] at h3
    refine WS.of (L2.ps_aug f.nd hi hx pe_w ip_w hf) ⟨_, h3, ha ρ μ _ _ h2 W σ _ Sx (fun W1 v t μ1 g1 S1 r1 h5 => ?_) (tks_e tk)⟩
    cases t with
    | int j0 =>
      rw [int_of r1]
      exact opW o ho (l.nx W1 _ _ μ1 g1 (S1.set (.inl (.int _))) (setK_at h5))
    | _ => exact h5.elim
  | _ => exact h2.elim
/-! ### loops -/
theorem ps_for {tg iter body g i b} (hp : PassesOwn (model X.prog X.w) X.A X.env X.xe) (f : Cf X n) (hi : PIt X c tg iter i) (hg : PGt X c tg g) (hb : PSs X c body b) (hs : ∀ x, foldedSetIterable iter X.env x = pure x := by intro _; rfl) : PS X c (.For tg iter body [] pos) (.for g i b) := fun nx rt bk ct ε ρ μ h W σ D Sx l tk => by
  refine ws_for hp f.calm ?_ hs
  refine hi ρ μ (fun ts μ => Ir.forK (fun t ρ μ k => Ir.tgK g t ρ fun ρ => wps b k rt nx k ε ρ μ) ts ρ μ nx) _ h W σ _ Sx (fun W1 J ts μ1 g1 S1 wk h1 => ?_) (tks_e tk)
  refine ⟨fun i m σ2 H2 => ∃ W2 ρ2 μ2, W2.H = H2 ∧ Go W1 W2 ∧ Sa (XB X c) W2 σ2 ρ2 μ2 ∧ i + m = ts.length ∧ Ir.forK (fun t ρ μ k => Ir.tgK g t ρ fun ρ => wps b k rt nx k ε ρ μ) (ts.drop i) ρ2 μ2 nx, ⟨ts.length, W1, ρ, μ1, rfl, Go.refl, S1, Nat.zero_add _, h1⟩, fun i m σ2 H2 hW => ?_⟩
  obtain ⟨W2, ρ2, μ2, rfl, g2, S2, hm, hk⟩ := hW
  obtain ⟨w1, w2, w3⟩ := wk W2 σ2 ρ2 μ2 g2.gf S2
  by_cases hi' : i < ts.length
  · refine .inr ⟨w1 i hi', fun σ' H' => ∃ W2 ρ2 μ2, W2.H = H' ∧ Go W1 W2 ∧ Sa (XB X c) W2 σ' ρ2 μ2 ∧ Ir.forK (fun t ρ μ k => Ir.tgK g t ρ fun ρ => wps b k rt nx k ε ρ μ) (ts.drop (i + 1)) ρ2 μ2 nx, fun σ' H' ⟨W3, ρ3, μ3, e1, e2, e3, e4⟩ => ⟨m - 1, by omega, W3, ρ3, μ3, e1, e2, e3, by omega, e4⟩, fun x H' hy => ?_⟩
    obtain ⟨t, W3, htt, rfl, g3, S3, rt3⟩ := w3 i x H' hi' hy
    rw [List.drop_eq_getElem_cons hi', show ts[i] = t from (List.getElem?_eq_some_iff.mp htt).2, Ir.forK_cons] at hk
    have gg := g1.trans (g2.trans g3)
    refine hg ρ2 μ2 t _ hk W3 σ2 x _ S3 (.inl rt3) fun σ4 ρ4 S4 _ _ h4 => ?_
    exact hb _ rt nx _ ε ρ4 μ2 h4 W3 σ4 _ S4 ⟨fun W5 σ5 ρ5 μ5 g5 S5 h5 => ⟨W5, ρ5, μ5, rfl, (g2.trans g3).trans g5, S5, h5⟩, fun W5 v t μ5 g5 => l.rt W5 v t μ5 (gg.trans g5), fun W5 σ5 ρ5 μ5 g5 => l.nx W5 σ5 ρ5 μ5 (gg.trans g5), fun W5 σ5 ρ5 μ5 g5 S5 h5 => ⟨W5, ρ5, μ5, rfl, (g2.trans g3).trans g5, S5, h5⟩⟩ (tks_go gg tk)
  · have e : i = ts.length := by omega
    subst e
    refine .inl ⟨w2, ?_⟩
    rw [List.drop_of_length_le (Nat.le_refl _), Ir.forK_nil] at hk
    exact l.nx W2 σ2 ρ2 μ2 (g1.trans g2) S2 hk
theorem ps_whl {e body x b} (hp : PassesOwn (model X.prog X.w) X.A X.env X.xe) (hc : PT X c e x) (hb : PSs X c body b) : PS X c (.While e body [] pos) (.whl x b) := fun nx rt bk ct ε ρ μ h W σ D Sx l tk => by
  obtain ⟨P, m, h0, hs⟩ := h
  refine WS.of (L2.ps_while hp pt_w pss_w) ⟨fun k σ2 H2 => ∃ W2 ρ2 μ2, W2.H = H2 ∧ Go W W2 ∧ Sa (XB X c) W2 σ2 ρ2 μ2 ∧ P ρ2 μ2 ∧ m ρ2 μ2 = k, ⟨_, W, ρ, μ, rfl, Go.refl, Sx, h0, rfl⟩, fun k σ2 H2 hW => ?_⟩
  obtain ⟨W2, ρ2, μ2, rfl, g2, S2, hP, rfl⟩ := hW
  refine hc ρ2 μ2 _ _ (hs ρ2 μ2 hP) (fun t μ h => by cases t <;> first | exact ⟨_, rfl⟩ | exact h.elim) W2 σ2 _ S2 (fun W3 b0 μ3 g3 S3 h3 => ?_) (tks_e (tks_go g2 tk))
  have gg := g2.trans g3
  cases b0 with
  | true =>
    rw [if_pos rfl]
    refine ⟨fun σ' H' => ∃ W4 ρ4 μ4, W4.H = H' ∧ Go W W4 ∧ Sa (XB X c) W4 σ' ρ4 μ4 ∧ P ρ4 μ4 ∧ m ρ4 μ4 < m ρ2 μ2, fun σ' H' ⟨W4, ρ4, μ4, e1, e2, e3, e4, e5⟩ => ⟨_, e5, W4, ρ4, μ4, e1, e2, e3, e4, rfl⟩, ?_⟩
    exact hb _ rt nx _ ε ρ2 μ3 h3 W3 σ2 _ S3 ⟨fun W5 σ5 ρ5 μ5 g5 S5 h5 => ⟨W5, ρ5, μ5, rfl, gg.trans g5, S5, h5.1, h5.2⟩, fun W5 v t μ5 g5 => l.rt W5 v t μ5 (gg.trans g5), fun W5 σ5 ρ5 μ5 g5 => l.nx W5 σ5 ρ5 μ5 (gg.trans g5), fun W5 σ5 ρ5 μ5 g5 S5 h5 => ⟨W5, ρ5, μ5, rfl, gg.trans g5, S5, h5.1, h5.2⟩⟩ (tks_go gg tk)
  | false =>
    rw [if_neg Bool.false_ne_true]
    exact l.nx W3 σ2 ρ2 μ3 gg S3 h3
end
end Is

/-! Ip: stores; defs. -/
namespace Is
open PySem PySem.Spec PyProof.Rows L2 Wx
open Ir (Tr Cel Mem Ev EK SK EX Con Tg Op Cm I Sm wp wps)
section
variable {X : Cx} {c : Nat → Addr} {n : Nat} {pos : Pos}
/-- l.extend(x), x any list that is read -/
theorem mt_extendR {X : Cx} : MtM X "list.extend" (fun x vs H Q => ∃ l b xs zs, x = .ref l ∧ vs = [.ref b] ∧ H l = some (.lst xs) ∧ Rd H b (.lst zs) ∧ xs.length + zs.length ≤ sizeLine ∧ Q .non (upd H l (.lst (xs ++ zs)))) := by
  intro pins s σ H x vs v us Q I rx rv h
  obtain ⟨l, b, xs, zs, rfl, rfl, hH, hB, hz, q⟩ := h
  cases rx
  obtain ⟨u, rfl, ru⟩ := rv.one
  cases ru
  obtain ⟨z, its, n, r, hl, e⟩ := I.lstM hH
  obtain ⟨z2, its2, n2, r2, e2⟩ := (show ObjOk X.prog X.w H s.heap b (.lst zs) from hB.ok I.hok)
  have hl2 := r2.length
  have hsz : its.toArray.size + its2.toArray.size ≤ sizeLine := by rw [List.size_toArray, List.size_toArray]; omega
  have hlong : ¬ (!its.toArray.isEmpty && Builtin.List.listTooLong (its.toArray.size + its2.toArray.size)) = true := by
    rw [notLongL hsz, Bool.and_false]
    exact Bool.false_ne_true
  refine call_meets F.slot_list_extend ⟨_, e, rfl⟩ F.entry_list_extend (F.args_list_extend_2 _ _)
    (AutoSeq1.list_extend_list_list_0 l its.toArray n b its2.toArray n2 hlong (by rw [List.size_toArray]; omega) (by omega)) ⟨e, e2, ?_⟩
  refine ⟨.non, _, I.lset (its' := its ++ its2) hH e (by simp) (r.append r2) ?_, rfl, q⟩
  rw [List.length_append]
  omega
theorem op_catR {X : Cx} : OpR X (binaryOp .Add) (fun x y H Q => ∃ l b xs zs, x = .ref l ∧ y = .ref b ∧ Rd H l (.lst xs) ∧ Rd H b (.lst zs) ∧ xs.length + zs.length ≤ sizeLine ∧ ∀ p, H p = none → Q (.ref p) (upd H p (.lst (xs ++ zs)))) := by
  intro pins s σ H x y v u Q I rx ry h
  obtain ⟨l, b, xs, zs, rfl, rfl, hH, hB, hz, q⟩ := h
  cases rx
  cases ry
  obtain ⟨z, its, n, r, e⟩ := (show ObjOk X.prog X.w H s.heap l (.lst xs) from hH.ok I.hok)
  obtain ⟨z2, its2, n2, r2, e2⟩ := (show ObjOk X.prog X.w H s.heap b (.lst zs) from hB.ok I.hok)
  have hl := r.length
  have hl2 := r2.length
  refine PySem.P.add_list e e2 ?_ (by rw [List.size_toArray, List.size_toArray]; omega)
  have ea : its.toArray ++ its2.toArray = (its ++ its2).toArray := by simp
  rw [ea]
  exact ⟨.ref _, _, I.lnew (t' := s.toks) (r.append r2) (by rw [List.length_append]; omega), rfl, q _ I.fresh⟩
/-- a list that may be looked at, as it lies -/
theorem rd_of {W : Wd} {σ ρ μ} {v : V} {t : Tr} {k : Tr → Prop} (Sx : Sa (XB X c) W σ ρ μ) (r : Rp (XB X c) W v t) (h : Ir.tv μ t k) : (∃ ts a vs, v = .ref a ∧ Rd W.H a (.lst vs) ∧ Rvs (XB X c) W.H W.F vs ts ∧ k (.lst ts)) ∨ (∃ t', k t' ∧ ∀ ts, t' ≠ .lst ts) := by
  rcases r with r | ⟨i, a, rfl, rfl, ha⟩
  · cases t with
    | ptr i => exact r.noptr.elim
    | lst ts => cases r with | lst h1 h2 => exact .inl ⟨ts, _, _, rfl, Sx.fh h1, h2, h⟩
    | _ => exact .inr ⟨_, h, fun ts e => by cases e⟩
  · obtain ⟨cl, hc, h⟩ := celK_at h
    obtain ⟨b, fp, h1, h2, h3⟩ := Sx.mem i cl hc
    rw [ha] at h1
    cases h1
    cases cl with
    | lst ts =>
      obtain ⟨_, vs, h4, h5⟩ := h3
      exact .inl ⟨ts, a, vs, rfl, .of h4, h5, h⟩
    | dic b kvs => exact .inr ⟨_, h, fun ts e => by cases e⟩
    | _ => exact h.elim
theorem pn_addL {a b x y} (ha : PJ X c a x) (hb : PJ X c b y) : PN X c (.BinOp a .Add b pos) (.addL x y) := fun ρ μ φ ε h W σ Q Sx k k2 k3 tk =>
  we_op (ha ρ μ _ ε h W σ _ Sx (fun W1 v1 t1 μ1 g1 S1 r1 h1 => hb ρ μ1 _ ε h1 W1 σ _ S1 (fun W2 v2 t2 μ2 g2 S2 r2 h2 => by
    rcases rd_of S2 (r1.go g2) h2 with ⟨ts, a1, vs, rfl, q1, q2, h2⟩ | ⟨t', h2, hn⟩
    · rcases rd_of S2 r2 h2 with ⟨us, a2, ws, rfl, q3, q4, h2⟩ | ⟨t', h2, hn⟩
      · obtain ⟨hz, h2⟩ := Ir.szK_le h2
        exact WO.of op_catR ⟨a1, a2, vs, ws, rfl, rfl, q1, q3, by rw [q2.length, q4.length]; exact sz_le hz, fun p hp => k W2 p _ _ μ2 (g1.trans g2) S2 hp (q2.app q4) h2⟩
      · cases t' <;> first | exact h2.elim | exact absurd rfl (hn _)
    · obtain ⟨t2', _, h2⟩ := r2.view S2 h2
      cases t' <;> first | exact h2.elim | exact absurd rfl (hn _)) (tk_go g1 tk)) tk)
/-- a pointer's cell -/
theorem cell_at {W : Wd} {σ ρ μ} {a : Addr} {i : Nat} {cl : Cel} (Sx : Sa (XB X c) W σ ρ μ) (ha : W.A[i]? = some a) (hc : μ[i]? = some cl) : ∃ fp, W.O[i]? = some fp ∧ Rc (XB X c) W.H W.F a fp cl := by
  obtain ⟨b, fp, h1, h2, h3⟩ := Sx.mem i cl hc
  rw [ha] at h1
  cases h1
  exact ⟨fp, h2, h3⟩
/-- a cell of one object is written -/
theorem Sa.put1 {W : Wd} {σ ρ μ} {a : Addr} {i : Nat} {cl' : Cel} {o u : HO} (Sx : Sa (XB X c) W σ ρ μ) (ha : W.A[i]? = some a) (hO : W.O[i]? = some [a]) (ho : W.H a = some o) (hn : notTup o) (hr : Rc (XB X c) (upd W.H a u) W.F a [a] cl') :
    ∃ W', W'.H = upd W.H a u ∧ Go W W' ∧ Sa (XB X c) W' σ ρ (μ.set i cl') := by
  have t : TEx W.H (upd W.H a u) := tex_nt ho hn
  obtain ⟨g, S'⟩ := Sx.cellU (fq := [a]) (c' := cl') (H' := upd W.H a u) ha hO (fun x hx _ => upd_ne fun e => hx (by rw [e]; exact List.mem_singleton.mpr rfl)) t (by simp) (fun x hx => ⟨.inl hx, by
    have : x = a := by simpa using hx
    subst this
    rw [upd_same]; exact fun z => nomatch z⟩) hr
  exact ⟨_, rfl, g, S'⟩
theorem ps_app {x : Str} {e b} {i : Nat} {p1 apos cpos : Pos} (hi : X.N[i]? = some x) (he : PJ X c e b) (hv : Vis X.env.scope x := by first | exact Or.inl rfl | exact Or.inr (Or.inl rfl) | exact Or.inr (Or.inr rfl)) (hd : (x == ("__debug__" : Str)) = false := by decide) (hcd : (x == ("__classdict__" : Str)) = false := by decide)
    (hbase : attributeBase (.Name x p1) "append" X.env (eval (.Name x p1) X.env) = eval (.Name x p1) X.env := by rfl)
    (hfew : ((backTo cpos (starEach [e] X.env)).all (fun x => !x.1) && (backToKw cpos (keywordEach [] X.env)).all (fun x => x.1.isSome) && decide (([e] : List Expr).length + ([] : List Keyword).length + (if ([] : List Keyword).isEmpty then 0 else 1) < 30)) = true := by rfl)
    (hline : (apos.endLine == cpos.line) = true := by rfl) (hs : starEach [e] X.env = (false, eval e X.env) :: starEach [] X.env := by rfl) (hplain : (backTo cpos (starEach [] X.env)).any (·.1) = false := by rfl)
    (hsw : swapsWith (.Call (.Attribute (.Name x p1) "append" apos) [e] [] cpos) none pos.line X.env = pure false := by rfl) : PS X c (.Expr (.Call (.Attribute (.Name x p1) "append" apos) [e] [] cpos) pos) (.app i b) := fun nx rt bk ct ε ρ μ h W σ D Sx l tk => by
  obtain ⟨t, h1, h2⟩ := getK_at h
  obtain ⟨v, h3, h4⟩ := Sx.env i t h1
  cases t with
  | ptr j =>
    obtain ⟨a, rfl, ha⟩ := h4.ptr
    obtain ⟨cl, hc, h2⟩ := celK_at h2
    cases cl with
    | lst ts0 =>
      obtain ⟨fp, hO, rfl, vs, e1, e2⟩ := cell_at Sx ha hc
      refine ws_expr (we_append (WE.of (pe_var hi hv hd hcd) ⟨_, h3, a, vs, rfl, e1, he ρ μ _ _ h2 W σ _ Sx (fun W1 v1 t1 μ1 g1 S1 r1 h1 => ?_) (tks_e tk)⟩) hbase hfew hline hs hplain) hsw
      have hn : ∀ k, t1 ≠ .ptr k := fun k e => by subst e; exact h1
      have h1' : Ir.celK μ1 j fun c => match c with | .lst ts => Ir.szK (ts.length + 1) (Ir.cputK μ1 j (.lst (ts ++ [t1])) fun μ => nx ρ μ) | _ => False := by
        cases t1 <;> first | exact h1 | exact h1.elim
      obtain ⟨cl, hc1, h1'⟩ := celK_at h1'
      cases cl with
      | lst ts =>
        obtain ⟨hz, h1'⟩ := Ir.szK_le h1'
        obtain ⟨fp1, hO1, rfl, vs1, e3, e4⟩ := cell_at S1 (g1.p _ _ ha) hc1
        have t0 : TEx W1.H (upd W1.H a (.lst (vs1 ++ [v1]))) := tex_lst e3
        obtain ⟨W2, eH, g2, S2⟩ := S1.put1 (u := .lst (vs1 ++ [v1])) (cl' := .lst (ts ++ [t1])) (g1.p _ _ ha) hO1 e3 True.intro ⟨rfl, _, upd_same, (e4.app (.cons (r1.rv hn) .nil)).mono t0 (Ex.refl _)⟩
        refine ⟨vs1, e3, by rw [e4.length]; omega, ?_⟩
        rw [← eH]
        exact l.nx W2 σ ρ _ (g1.trans g2) S2 (cputK_at h1')
      | _ => exact h1'.elim
    | _ => exact h2.elim
  | _ => exact h2.elim
theorem ps_ext {x : Str} {e b} {i : Nat} {p1 apos cpos : Pos} (hi : X.N[i]? = some x) (he : PJ X c e b) (hv : Vis X.env.scope x := by first | exact Or.inl rfl | exact Or.inr (Or.inl rfl) | exact Or.inr (Or.inr rfl)) (hd : (x == ("__debug__" : Str)) = false := by decide) (hcd : (x == ("__classdict__" : Str)) = false := by decide)
    (hbase : attributeBase (.Name x p1) "extend" X.env (eval (.Name x p1) X.env) = eval (.Name x p1) X.env := by rfl)
    (hfew : ((backTo cpos (starEach [e] X.env)).all (fun x => !x.1) && (backToKw cpos (keywordEach [] X.env)).all (fun x => x.1.isSome) && decide (([e] : List Expr).length + ([] : List Keyword).length + (if ([] : List Keyword).isEmpty then 0 else 1) < 30)) = true := by rfl)
    (hline : (apos.endLine == cpos.line) = true := by rfl) (hs : starEach [e] X.env = (false, eval e X.env) :: starEach [] X.env := by rfl) (hplain : (backTo cpos (starEach [] X.env)).any (·.1) = false := by rfl)
    (hsw : swapsWith (.Call (.Attribute (.Name x p1) "extend" apos) [e] [] cpos) none pos.line X.env = pure false := by rfl) : PS X c (.Expr (.Call (.Attribute (.Name x p1) "extend" apos) [e] [] cpos) pos) (.ext i b) := fun nx rt bk ct ε ρ μ h W σ D Sx l tk => by
  obtain ⟨t, h1, h2⟩ := getK_at h
  obtain ⟨v, h3, h4⟩ := Sx.env i t h1
  cases t with
  | ptr j =>
    obtain ⟨a, rfl, ha⟩ := h4.ptr
    obtain ⟨cl, hc, h2⟩ := celK_at h2
    cases cl with
    | lst ts0 =>
      obtain ⟨fp, hO, rfl, vs, e1, e2⟩ := cell_at Sx ha hc
      refine ws_expr (we_bm PySem.F.plainAttrs_list PySem.F.slot_list_extend PySem.F.type_list_extend (WE.of (pe_var hi hv hd hcd) ⟨_, h3, .inl ⟨rfl, _, sq_of e1⟩, wa_cons (he ρ μ _ _ h2 W σ _ Sx (fun W1 v1 t1 μ1 g1 S1 r1 h1 => ?_) (tks_e tk)) hs⟩) hbase hfew hline hs hplain) hsw
      cases t1 with
      | lst us =>
        have r1 := r1.rv (by intro i e; cases e)
        cases r1 with
        | @lst a1 ws _ q1 q2 =>
          obtain ⟨cl, hc1, h1'⟩ := celK_at h1
          cases cl with
          | lst ts =>
            obtain ⟨hz, h1'⟩ := Ir.szK_le h1'
            obtain ⟨fp1, hO1, rfl, vs1, e3, e4⟩ := cell_at S1 (g1.p _ _ ha) hc1
            have t0 : TEx W1.H (upd W1.H a (.lst (vs1 ++ ws))) := tex_lst e3
            obtain ⟨W2, eH, g2, S2⟩ := S1.put1 (u := .lst (vs1 ++ ws)) (cl' := .lst (ts ++ us)) (g1.p _ _ ha) hO1 e3 True.intro ⟨rfl, _, upd_same, (e4.app q2).mono t0 (Ex.refl _)⟩
            refine wa_nil (WM.of mt_extendR ⟨a, _, vs1, ws, rfl, rfl, e3, S1.fh q1, by rw [e4.length, q2.length]; exact sz_le hz, ?_⟩)
            rw [← eH]
            exact l.nx W2 σ ρ _ (g1.trans g2) S2 (cputK_at h1')
          | _ => exact h1'.elim
      | _ => exact h1.elim
    | _ => exact h2.elim
  | _ => exact h2.elim
/-- x[i] = e -/
theorem ps_seti {x : Str} {e d b y} {i : Nat} {p1 pos' : Pos} (f : Cf X n) (hi : X.N[i]? = some x) (he : PJ X c e b) (hd0 : PJ X c d y) (hv : Vis X.env.scope x := by first | exact Or.inl rfl | exact Or.inr (Or.inl rfl) | exact Or.inr (Or.inr rfl)) (hd : (x == ("__debug__" : Str)) = false := by decide) (hcd : (x == ("__classdict__" : Str)) = false := by decide)
    (hs : swapsWithSole [.Subscript (.Name x p1) d pos'] e pos.line X.env = pure false := by rfl) (hw : swappedStores [.Subscript (.Name x p1) d pos'] e X.env = pure none := by rfl) (h1 : (assignEach [.Subscript (.Name x p1) d pos'] X.env).map (·.2) = [assign (.Subscript (.Name x p1) d pos') X.env] := by rfl)
    (ha : ∀ v, assign (.Subscript (.Name x p1) d pos') X.env v = (do
      let ov ← holding [v] (eval (.Name x p1) X.env)
      let iv ← holding [v, ov] (eval d X.env)
      standAt pos'
      holding [v, ov, iv] (setItem ov iv v)
      release [v, ov, iv] []) := by intro _; rfl) : PS X c (.Assign [.Subscript (.Name x p1) d pos'] e pos) (.seti i y b) := fun nx rt bk ct ε ρ μ h W σ D Sx l tk => by
  refine ws_asg (he ρ μ _ _ h W σ _ Sx (fun W1 v1 t1 μ1 g1 S1 r1 h1 => ?_) (tks_e tk)) hs hw h1
  have hn : ∀ k, t1 ≠ .ptr k := fun k e => by subst e; exact h1
  have h1' : Ir.getK ρ i fun p => match p with
      | .ptr a => wp y ρ μ1 (fun y μ => Ir.celK μ a fun c => match c with
        | .lst ts => (match y with | .int i => ∃ n, Ir.ixT ts.length i = some n ∧ Ir.cputK μ a (.lst (ts.set n t1)) fun μ => nx ρ μ | _ => False)
        | .dic b kvs => Ir.isKey b y = true ∧ Ir.szK (kvs.length + 1) (Ir.cputK μ a (.dic b (Ir.putT kvs y t1)) fun μ => nx ρ μ)
        | _ => False) (fun t μ => ε t ρ μ)
      | _ => False := by
    cases t1 <;> first | exact h1 | exact h1.elim
  obtain ⟨t, h2, h3⟩ := getK_at h1'
  obtain ⟨v, h4, h5⟩ := S1.env i t h2
  cases t with
  | ptr j =>
    obtain ⟨a, rfl, ha0⟩ := h5.ptr
    refine wg_sub (WE.of (pe_var hi hv hd hcd) ⟨_, h4, hd0 ρ μ1 _ _ h3 W1 σ _ S1 (fun W2 v2 t2 μ2 g2 S2 r2 h6 => ?_) (tks_e (tks_go g1 tk))⟩) ha
    obtain ⟨cl, hc2, h6⟩ := celK_at h6
    have r1v := (r1.rv hn).mono g2.t g2.f
    have ha2 := g2.p _ _ ha0
    cases cl with
    | lst ts =>
      obtain ⟨fp1, hO1, rfl, vs1, e3, e4⟩ := cell_at S2 ha2 hc2
      cases t2 with
      | int i0 =>
        obtain ⟨m, hm, h6⟩ := h6
        rw [int_of r2]
        have t0 : TEx W2.H (upd W2.H a (.lst (vs1.set m v1))) := tex_lst e3
        obtain ⟨W3, eH, g3, S3⟩ := S2.put1 (u := .lst (vs1.set m v1)) (cl' := .lst (ts.set m t1)) ha2 hO1 e3 True.intro ⟨rfl, _, upd_same, (e4.set r1v m).mono t0 (Ex.refl _)⟩
        refine wset_l e3 (k := m) (by rw [e4.length]; exact hm) ?_
        rw [← eH]
        exact l.nx W3 σ ρ _ ((g1.trans g2).trans g3) S3 (cputK_at h6)
      | _ => exact h6.elim
    | dic b0 kvs =>
      obtain ⟨hk, h6⟩ := h6
      obtain ⟨hz, h6⟩ := Ir.szK_le h6
      have r2v : Rv (XB X c) W2.H W2.F v2 t2 := r2.rv fun i e => by subst e; cases b0 <;> exact absurd hk Bool.false_ne_true
      cases b0 with
      | false =>
        obtain ⟨fp1, hO1, rfl, us, e3, e4, e5⟩ := cell_at S2 ha2 hc2
        have hx : Ir.isAt t2 = true := by cases t2 <;> first | rfl | exact absurd hk Bool.false_ne_true
        have e : v2 = kV (trK t2) := kV_rv hx r2v
        obtain ⟨p1, p2⟩ := putT_put kTr_eqT (trK t2) e4 e5 r1v
        rw [kTr_trK hx] at p1 p2
        have t0 : TEx W2.H (upd W2.H a (.dK (L2.putK us (trK t2) v1))) := tex_nt e3 True.intro
        obtain ⟨W3, eH, g3, S3⟩ := S2.put1 (u := .dK (L2.putK us (trK t2) v1)) (cl' := .dic false (Ir.putT kvs t2 t1)) ha2 hO1 e3 True.intro ⟨rfl, _, upd_same, p1, p2.mono t0 (Ex.refl _)⟩
        have hl : us.length = kvs.length := by have := congrArg List.length e4; simpa using this
        rw [e]
        refine wset_d f.hu1 (DPut.k e3 (sz_lt (by omega))) ?_
        rw [← eH]
        exact l.nx W3 σ ρ _ ((g1.trans g2).trans g3) S3 (cputK_at h6)
      | true =>
        obtain ⟨fp1, hO1, rfl, us, e3, e4, e5⟩ := cell_at S2 ha2 hc2
        cases t2 with
        | tup ks =>
          have hk : ks.all Ir.isAt = true := hk
          cases r2v with
          | tup q1 q2 =>
            have e2 := kVs_rv hk q2
            have q1 : W2.H _ = some _ := q1
            obtain ⟨p1, p2⟩ := putT_put kTs_eqT (ks.map trK) e4 e5 r1v
            rw [kTs_trK hk] at p1 p2
            have t0 : TEx W2.H (upd W2.H a (.dT (L2.putK us (ks.map trK) v1))) := tex_nt e3 True.intro
            obtain ⟨W3, eH, g3, S3⟩ := S2.put1 (u := .dT (L2.putK us (ks.map trK) v1)) (cl' := .dic true (Ir.putT kvs (.tup ks) t1)) ha2 hO1 e3 True.intro ⟨rfl, _, upd_same, p1, p2.mono t0 (Ex.refl _)⟩
            have hl : us.length = kvs.length := by have := congrArg List.length e4; simpa using this
            refine wset_d f.hu1 (DPut.t e3 (by rw [q1, e2]) (sz_lt (by omega))) ?_
            rw [← eH]
            exact l.nx W3 σ ρ _ ((g1.trans g2).trans g3) S3 (cputK_at h6)
        | _ => exact absurd hk Bool.false_ne_true
    | _ => exact h6.elim
  | _ => exact h3.elim
end
/-! ### defs -/
theorem FnOk.cx {P : Program} {w : World} {K : PySem.W.Frag} {mg : Str → Option Value} {base : Heap} {CX : CXT} {k : Nat} {f : Addr} {fd : FuncData} {ps : List Str} {sp : Sp} (F : FnOk P w K mg base CX0 k f fd ps sp) : FnOk P w K mg base CX k f fd ps sp :=
  ⟨F.len, fun A outer s H args us vs Q E hr he hb hv hs => codeAny_mono (F.run A outer s H args us vs Q E hr he hb hv hs) fun r s' h => by
    cases r with
    | ok r => cases r <;> exact h
    | error e => exact h.elim⟩
theorem sa_take {B : Bs} {W : Wd} {μ : Mem} (n : Nat) (Sx : Sa B W [] [] μ) : ∃ W', W'.H = W.H ∧ W'.F = W.F ∧ (∀ W0, Go W0 W → W0.A.length ≤ n → Go W0 W') ∧ Sa B W' [] [] (μ.take n) := by
  refine ⟨{ W with A := W.A.take n, O := W.O.take n }, rfl, rfl, fun W0 g hl => ⟨g.g, g.f, g.t, g.n, fun i a h => ?_⟩, ⟨Sx.gh, Sx.fg, fun i t h => by simp at h, by simp [Sx.lA], by simp [Sx.lO], fun i cl h => ?_, ?_, fun x hx => ?_, rfl⟩⟩
  · have : i < n := Nat.lt_of_lt_of_le (List.getElem?_eq_some_iff.mp h).1 hl
    rw [show ({ W with A := W.A.take n, O := W.O.take n } : Wd).A = W.A.take n from rfl, List.getElem?_take_of_lt this]
    exact g.p i a h
  · have hi : i < n := by
      have := (List.getElem?_eq_some_iff.mp h).1
      rw [List.length_take] at this
      omega
    rw [List.getElem?_take_of_lt hi] at h
    obtain ⟨a, fp, h1, h2, h3⟩ := Sx.mem i cl h
    exact ⟨a, fp, (List.getElem?_take_of_lt hi).trans h1, (List.getElem?_take_of_lt hi).trans h2, h3⟩
  · have tk : ∀ (i : Nat) fp, (W.O.take n)[i]? = some fp → W.O[i]? = some fp := fun i fp h => by
      have hi : i < n := by
        have := (List.getElem?_eq_some_iff.mp h).1
        rw [List.length_take] at this
        omega
      rwa [List.getElem?_take_of_lt hi] at h
    exact nd_of (fun i fp h => nd_each Sx.nd (tk i fp h)) fun i j fp fq x h1 h2 hx hy => nd_apart Sx.nd (tk i fp h1) (tk j fq h2) hx hy
  · refine Sx.own x ?_
    obtain ⟨l, hl, hx⟩ := List.mem_flatten.mp hx
    exact List.mem_flatten.mpr ⟨l, List.mem_of_mem_take hl, hx⟩
theorem Rp.get {B : Bs} {W : Wd} {vs : List V} {ts : List Tr} (r : Rps B W vs ts) : ∀ (i : Nat) t, ts[i]? = some t → ∃ v, vs[i]? = some v ∧ Rp B W v t := by
  induction r with
  | nil => intro i t h; simp at h
  | cons a b ih =>
    intro i t h
    cases i with
    | zero => simp at h; subst h; exact ⟨_, rfl, a⟩
    | succ i => obtain ⟨v, h1, h2⟩ := ih i t (by simpa using h); exact ⟨v, by simpa using h1, h2⟩
theorem sa_start {B : Bs} {W : Wd} {μ : Mem} {N : List Str} {vs : List V} {ts : List Tr} (Sx : Sa B W [] [] μ) (r : Rps B W vs ts) : Sa B W (start N vs) (ts.map some ++ List.replicate (N.length - ts.length) none) μ := by
  have hl := r.length
  refine Sx.sub (by unfold L2.start; simp [hl]) fun i t h => ?_
  have hi : i < ts.length := by
    by_cases hi : i < ts.length
    · exact hi
    · rw [List.getElem?_append_right (by simpa using hi), List.getElem?_replicate] at h
      split at h <;> cases h
  rw [List.getElem?_append_left (by simpa using hi), List.getElem?_map] at h
  cases e : ts[i]? with
  | none => rw [e] at h; cases h
  | some u =>
    rw [e] at h
    cases h
    obtain ⟨v, h1, h2⟩ := Rp.get r i t e
    refine ⟨v, ?_, h2⟩
    unfold L2.start
    rw [List.getElem?_append_left (by simpa [hl] using hi), List.getElem?_map, h1]
    rfl
/-- a def by its text in the small language -/
theorem fn_ir {P : Program} {w : World} {K : PySem.W.Frag} {mg : Str → Option Value} {base : Heap} {cl : Nat → Addr} {x qual : Str} {st : Stmt} {f : Addr} {fd : FuncData} {N ps : List Str} {k : Nat} {con : Con} {body : Sm} (F : Fun K x qual st f fd) (S : FnScope N ps (defScope st))
    (hc : ∀ ts μ φ ε, con ts μ φ ε → ts.length = ps.length ∧ Ir.wpB body (N.length - ps.length) ts μ φ ε)
    (hj : ∀ (cdv : Value) (A : Around) (outer : List Env) (s : Shared) (H : Hp) (E : XK), Cf (cxOf (L2.CX P w) P w K mg base N qual (defScope st) f cdv A outer s H E) k → PassesOwn (model P w) (cxOf (L2.CX P w) P w K mg base N qual (defScope st) f cdv A outer s H E).A (cxOf (L2.CX P w) P w K mg base N qual (defScope st) f cdv A outer s H E).env (cxOf (L2.CX P w) P w K mg base N qual (defScope st) f cdv A outer s H E).xe →
      PSs (cxOf (L2.CX P w) P w K mg base N qual (defScope st) f cdv A outer s H E) cl (defBody st) body) : FnOk P w K mg base (L2.CX P w) (k + 1) f fd ps (spOf cl K con) := by
  refine Fun.okX F S (fun vs H Q E h => ?_) fun cdv A outer s H vs Q E hr h => ?_
  · obtain ⟨W, ts, μ, φ, ε, rfl, Sx, r, hcon, _⟩ := h
    rw [r.length]
    exact (hc ts μ φ ε hcon).1
  · obtain ⟨W, ts, μ, φ, ε, rfl, Sx, r, hcon, kφ, kε⟩ := h
    obtain ⟨hl, hw⟩ := hc ts μ φ ε hcon
    have hlA : W.A.length ≤ μ.length := by rw [Sx.lA]; exact Nat.le_refl _
    refine ⟨_, pss_w, ?_⟩
    have S0 := sa_start (N := N) Sx r
    rw [hl] at S0
    refine hj cdv A outer s W.H E ⟨rfl, S.nd, hr⟩ (passes_of rfl) _ _ _ _ _ _ _ hw W (start N vs) _ S0 ⟨fun W' σ' ρ' μ' g S' h' => ?_, fun W' v t μ' g S' rv h' => ?_, fun W' σ' ρ' μ' g S' h' => h'.elim, fun W' σ' ρ' μ' g S' h' => h'.elim⟩ ?_
    · obtain ⟨W2, e1, e2, g2, S2⟩ := sa_take μ.length S'.nil
      show Q .non W'.H
      rw [← e1]
      exact kφ W2 .non .non _ (g2 W g hlA) S2 (.inl .non) h'
    · obtain ⟨W2, e1, e2, g2, S2⟩ := sa_take μ.length S'
      have hn : ∀ j, t ≠ .ptr j := fun j e => by subst e; exact h'
      have h2 : φ t (μ'.take μ.length) := by cases t <;> first | exact h' | exact h'.elim
      show Q v W'.H
      rw [← e1]
      exact kφ W2 v t _ (g2 W g hlA) S2 (.inl (by rw [e1, e2]; exact rv.rv hn)) h2
    · refine (takes_of (X := cxOf (L2.CX P w) P w K mg base N qual (defScope st) f cdv A outer s W.H E) (E := E) rfl rfl rfl rfl).imp fun cls d σ' H' ⟨W', ρ', t, μ', e0, g, S', rx, h'⟩ => ?_
      obtain ⟨W2, e1, e2, g2, S2⟩ := sa_take μ.length S'.nil
      have h2 : ε t (μ'.take μ.length) := by cases t <;> first | exact h' | exact h'.elim
      rw [← e0, ← e1]
      refine kε W2 cls d t _ (g2 W g hlA) S2 ?_ h2
      obtain ⟨c0, fs, q1, q2, q3⟩ := rx
      refine ⟨c0, fs, q1, q2, ?_⟩
      rw [e1, e2]
      exact q3
end Is

/-! Iq: more rules. -/
namespace Is
open PySem PySem.Spec PyProof.Rows L2 Wx
open Ir (Tr Cel Mem Ev EK SK EX Con Tg Op Cm I Sm wp wps)
section
variable {X : Cx} {c : Nat → Addr} {n : Nat} {pos : Pos}
theorem bk_cf {scope s H0 C cl fp} (f : Cf X n) : Cf (Bk X scope s H0 C cl fp) n := ⟨f.calm, f.nd, f.r⟩
theorem pss_of {sts : List Stmt} {st rest s} (h : sts = st :: rest) (p : PSs X c (st :: rest) s) : PSs X c sts s := h ▸ p
end
section
variable {X : Cx} {c : Nat → Addr} {n : Nat} {pos : Pos}
/-! ### blocks by a look -/
def blkB (N : List Str) (sc scope : Scope) (own : List (Str × Nat)) : Bool :=
  decide (scope.kind = .function) && scope.names.all (fun y => decide (scope.names.lookup y.1 = some y.2)) && own.all (fun p => decide (N[p.2]? = some p.1)) &&
  scope.names.all (fun y => decide (y.2 ≠ .free) || decide (sc.names.lookup y.1 = some .cell) || decide (sc.names.lookup y.1 = some .free)) &&
  scope.names.all (fun y => (decide (y.2 ≠ .local) && decide (y.2 ≠ .cell)) || decide (y.1 ∈ own.map (·.1)) || decide (y.1 ∉ N))
theorem blk_of {N : List Str} {sc scope : Scope} {own : List (Str × Nat)} (h : blkB N sc scope own = true) : BlkOk N sc scope own := by
  unfold blkB at h
  simp only [Bool.and_eq_true, List.all_eq_true, decide_eq_true_eq, Bool.or_eq_true] at h
  obtain ⟨⟨⟨⟨h1, h2⟩, h3⟩, h4⟩, h5⟩ := h
  refine ⟨h1, h2, h3, fun y hy hf => ?_, fun y hy hf => ?_⟩
  · rcases h4 y hy with (h | h) | h
    · exact absurd hf h
    · exact .inl h
    · exact .inr h
  · rcases h5 y hy with (h | h) | h
    · rcases hf with hf | hf
      · exact absurd hf h.1
      · exact absurd hf h.2
    · exact .inl h
    · exact .inr h
/-! ### a name is given a new thing -/
def PNq (X : Cx) (c : Nat → Addr) (T : TE) (i : I) : Prop := ∀ ρ μ φ ε, wp i ρ μ φ ε → ∀ W σ (Q : VK), Sa (XB X c) W σ ρ μ →
  (∀ W' p vs ts μ', Go W W' → Sa (XB X c) W' σ ρ μ' → W'.H p = none → Rvs (XB X c) W'.H W'.F vs ts → φ (.lst ts) μ' → Q (.ref p) (upd W'.H p (.lst vs))) →
  (∀ W' p us kvs μ', Go W W' → Sa (XB X c) W' σ ρ μ' → W'.H p = none → us.map (fun q => kTr q.1) = kvs.map Prod.fst → Rvs (XB X c) W'.H W'.F (us.map Prod.snd) (kvs.map Prod.snd) → φ (.dic false kvs) μ' → Q (.ref p) (upd W'.H p (.dK us))) →
  (∀ W' p us kvs μ', Go W W' → Sa (XB X c) W' σ ρ μ' → W'.H p = none → us.map (fun q => kTs q.1) = kvs.map Prod.fst → Rvs (XB X c) W'.H W'.F (us.map Prod.snd) (kvs.map Prod.snd) → φ (.dic true kvs) μ' → Q (.ref p) (upd W'.H p (.dT us))) →
  Takes X (xW (XB X c) W σ ρ ε) → T σ W.H Q
/-- frozen, or a cell: what is asked of the new thing -/
theorem nq_fz {T : TE} {a : I} (h : PNq X c T a) {ρ μ φ ε} (hw : wp a ρ μ φ ε) {W σ} {Q : VK} (Sx : Sa (XB X c) W σ ρ μ) (k : ∀ W' v t μ', Go W W' → Sa (XB X c) W' σ ρ μ' → Rp (XB X c) W' v t → φ t μ' → Q v W'.H) (tk : Takes X (xW (XB X c) W σ ρ ε)) : T σ W.H Q :=
  h ρ μ φ ε hw W σ Q Sx (fun W1 p vs ts μ1 g1 S1 hp r h1 => by
      obtain ⟨g, S'⟩ := S1.newF (o := .lst vs) hp
      exact k _ _ _ μ1 (g1.trans g) S' (.inl (.lst upd_same (r.mono g.t g.f))) h1)
    (fun W1 p us kvs μ1 g1 S1 hp e r h1 => by
      obtain ⟨g, S'⟩ := S1.newF (o := .dK us) hp
      exact k _ _ _ μ1 (g1.trans g) S' (.inl (.dK upd_same e (r.mono g.t g.f))) h1)
    (fun W1 p us kvs μ1 g1 S1 hp e r h1 => by
      obtain ⟨g, S'⟩ := S1.newF (o := .dT us) hp
      exact k _ _ _ μ1 (g1.trans g) S' (.inl (.dT upd_same e (r.mono g.t g.f))) h1) tk
theorem nq_ow {T : TE} {a : I} (h : PNq X c T a) {ρ μ φ ε} (hw : wp (.ow a) ρ μ φ ε) {W σ} {Q : VK} (Sx : Sa (XB X c) W σ ρ μ) (k : ∀ W' v t μ', Go W W' → Sa (XB X c) W' σ ρ μ' → Rp (XB X c) W' v t → φ t μ' → Q v W'.H) (tk : Takes X (xW (XB X c) W σ ρ ε)) : T σ W.H Q :=
  h ρ μ _ ε hw W σ Q Sx (fun W1 p vs ts μ1 g1 S1 hp r h1 => by
      have h1 := snocK_at h1
      obtain ⟨o1, o2⟩ := own1 (o := .lst vs) hp
      have t1 : TEx W1.H (upd W1.H p (.lst vs)) := tex_new hp
      obtain ⟨g, S'⟩ := S1.newC (a := p) (fq := [p]) (c := .lst ts) o1 (by simp) o2 ⟨rfl, vs, upd_same, r.mono t1 (Ex.refl _)⟩
      exact k _ _ _ _ (g1.trans g) S' (.inr ⟨_, p, rfl, rfl, len_get S1.lA⟩) h1)
    (fun W1 p us kvs μ1 g1 S1 hp e r h1 => by
      have h1 := snocK_at h1
      obtain ⟨o1, o2⟩ := own1 (o := .dK us) hp
      have t1 : TEx W1.H (upd W1.H p (.dK us)) := tex_new hp
      obtain ⟨g, S'⟩ := S1.newC (a := p) (fq := [p]) (c := .dic false kvs) o1 (by simp) o2 ⟨rfl, us, upd_same, e, r.mono t1 (Ex.refl _)⟩
      exact k _ _ _ _ (g1.trans g) S' (.inr ⟨_, p, rfl, rfl, len_get S1.lA⟩) h1)
    (fun W1 p us kvs μ1 g1 S1 hp e r h1 => by
      have h1 := snocK_at h1
      obtain ⟨o1, o2⟩ := own1 (o := .dT us) hp
      have t1 : TEx W1.H (upd W1.H p (.dT us)) := tex_new hp
      obtain ⟨g, S'⟩ := S1.newC (a := p) (fq := [p]) (c := .dic true kvs) o1 (by simp) o2 ⟨rfl, us, upd_same, e, r.mono t1 (Ex.refl _)⟩
      exact k _ _ _ _ (g1.trans g) S' (.inr ⟨_, p, rfl, rfl, len_get S1.lA⟩) h1) tk
theorem ps_setN {st : Stmt} {T : TE} {i : Nat} {a b : I} (hst : L2.PS X st (tAsg T (gName i))) (h : PNq X c T a) (hb : b = a ∨ b = .ow a) : PS X c st (.asg (.nm i) b) := fun nx rt bk ct ε ρ μ hw W σ D Sx l tk => by
  have fin : ∀ W1 v t μ1, Go W W1 → Sa (XB X c) W1 σ ρ μ1 → Rp (XB X c) W1 v t → (Ir.tgK (.nm i) t ρ fun ρ => nx ρ μ1) → gName i v σ W1.H D.nx := fun W1 v t μ1 g1 S1 r1 h1 => by
    unfold Ir.tgK at h1
    exact l.nx W1 _ _ μ1 g1 (S1.set r1) (setK_at h1)
  rcases hb with rfl | rfl
  · exact WS.of hst (nq_fz h hw Sx fin (tks_e tk))
  · exact WS.of hst (nq_ow h hw Sx fin (tks_e tk))
theorem nq_lc {elt tg iter : Expr} {scope : Scope} {own : List (Str × Nat)} {g : Tg} {i e' : I} (hgs : ∀ j ∈ slots g, j ∈ own.map (·.2)) (hi : PIt X c tg iter i) (hg : ∀ s H0 C cl fp, PGt (Bk X scope s H0 C cl fp) c tg g)
    (he : ∀ s H0 C cl fp, PJ (Bk X scope s H0 C cl fp) c elt e') : PNq X c (tLc (WI X tg iter) (gB X scope tg) tYes (eB X scope elt) (own.map (·.2))) (.comp g (own.map (·.2)) i .yes e') := fun ρ μ φ ε hw W σ Q Sx k k2 k3 tk =>
  lc_go (ce := .yes) hi hg hgs he (fun ρ μ φ h hφ W σ Q Sx k => k W true μ Go.refl Sx h) hw Sx k tk
theorem nq_lci {elt tg iter cond : Expr} {scope : Scope} {own : List (Str × Nat)} {g : Tg} {i ce e' : I} (hgs : ∀ j ∈ slots g, j ∈ own.map (·.2)) (hi : PIt X c tg iter i) (hg : ∀ s H0 C cl fp, PGt (Bk X scope s H0 C cl fp) c tg g)
    (hc : ∀ s H0 C cl fp, PT (Bk X scope s H0 C cl fp) c cond ce) (he : ∀ s H0 C cl fp, PJ (Bk X scope s H0 C cl fp) c elt e') : PNq X c (tLc (WI X tg iter) (gB X scope tg) (tB' X scope cond) (eB X scope elt) (own.map (·.2))) (.comp g (own.map (·.2)) i ce e') := fun ρ μ φ ε hw W σ Q Sx k k2 k3 tk =>
  lc_go (ce := ce) hi hg hgs he (fun ρ μ φ h hφ W σ Q Sx k => fun s H0 C cl fp => hc s H0 C cl fp ρ μ φ _ h hφ W σ Q Sx k tk_no) hw Sx k tk
/-- name = [..] -/
theorem ps_setLC {y : Str} {py spos : Pos} {i0 : Nat} {elt tg iter : Expr} {scope : Scope} {own : List (Str × Nat)} {vs : List Nat} {g : Tg} {i e' b : I} (f : Cf X n) (hy : X.N[i0]? = some y) (ok : BlkOk X.N X.env.scope scope own) (hvs : vs = own.map (·.2)) (hgs : ∀ j ∈ slots g, j ∈ vs) (hi : PIt X c tg iter i) (hg : ∀ s H0 C cl fp, PGt (Bk X scope s H0 C cl fp) c tg g)
    (he : ∀ s H0 C cl fp, PJ (Bk X scope s H0 C cl fp) c elt e') (hb : b = .comp g vs i .yes e' ∨ b = .ow (.comp g vs i .yes e')) (hyl : X.env.scope.names.lookup y = some .local := by rfl) (hsw : swapsWith (.ListComp elt [⟨tg, iter, [], 0⟩] scope pos) (some (.Name y py)) spos.line X.env = pure true := by rfl) (hs : nofold iter X.env := by intro _; rfl) :
    PS X c (.Assign [.Name y py] (.ListComp elt [⟨tg, iter, [], 0⟩] scope pos) spos) (.asg (.nm i0) b) := by
  subst hvs
  exact ps_setN (L2.ps_setLc f.calm f.nd hy hyl hsw pi_w ok (fun s H0 C cl fp => ⟨fun pins s' σ H v u Q I r h => pg_w.run pins s' σ H v u Q I r (h s H0 C cl fp)⟩) (fun _ _ _ _ _ => pts_nil) (fun s H0 C cl fp => ⟨fun pins s' σ H Q I h => pe_w.run pins s' σ H Q I (h s H0 C cl fp)⟩) hs) (nq_lc hgs hi hg he) hb
theorem ps_setLCi {y : Str} {py spos : Pos} {i0 : Nat} {elt tg iter cond : Expr} {scope : Scope} {own : List (Str × Nat)} {vs : List Nat} {g : Tg} {i ce e' b : I} (f : Cf X n) (hy : X.N[i0]? = some y) (ok : BlkOk X.N X.env.scope scope own) (hvs : vs = own.map (·.2)) (hgs : ∀ j ∈ slots g, j ∈ vs) (hi : PIt X c tg iter i) (hg : ∀ s H0 C cl fp, PGt (Bk X scope s H0 C cl fp) c tg g)
    (hc : ∀ s H0 C cl fp, PT (Bk X scope s H0 C cl fp) c cond ce) (he : ∀ s H0 C cl fp, PJ (Bk X scope s H0 C cl fp) c elt e') (hb : b = .comp g vs i ce e' ∨ b = .ow (.comp g vs i ce e')) (hyl : X.env.scope.names.lookup y = some .local := by rfl) (hsw : swapsWith (.ListComp elt [⟨tg, iter, [cond], 0⟩] scope pos) (some (.Name y py)) spos.line X.env = pure true := by rfl) (hs : nofold iter X.env := by intro _; rfl) :
    PS X c (.Assign [.Name y py] (.ListComp elt [⟨tg, iter, [cond], 0⟩] scope pos) spos) (.asg (.nm i0) b) := by
  subst hvs
  exact ps_setN (L2.ps_setLc f.calm f.nd hy hyl hsw pi_w ok (fun s H0 C cl fp => ⟨fun pins s' σ H v u Q I r h => pg_w.run pins s' σ H v u Q I r (h s H0 C cl fp)⟩) (fun s H0 C cl fp => pts_one ⟨fun pins s' σ H Q I h => pt_w.run pins s' σ H Q I (h s H0 C cl fp)⟩) (fun s H0 C cl fp => ⟨fun pins s' σ H Q I h => pe_w.run pins s' σ H Q I (h s H0 C cl fp)⟩) hs) (nq_lci hgs hi hg hc he) hb
end
abbrev DX (P : Program) (w : World) (K : PySem.W.Frag) (mg : Str → Option Value) (base : Heap) (N : List Str) (qual : Str) (st : Stmt) (f : Addr) (cdv : Value) (A : Around) (outer : List Env) (s : Shared) (H : Hp) (E : XK) : Cx := cxOf (L2.CX P w) P w K mg base N qual (defScope st) f cdv A outer s H E
def DJ (P : Program) (w : World) (K : PySem.W.Frag) (mg : Str → Option Value) (base : Heap) (cl : Nat → Addr) (N : List Str) (qual : Str) (st : Stmt) (f : Addr) (k : Nat) (body : Sm) : Prop := ∀ (cdv : Value) (A : Around) (outer : List Env) (s : Shared) (H : Hp) (E : XK),
  Cf (DX P w K mg base N qual st f cdv A outer s H E) k → PassesOwn (model P w) (DX P w K mg base N qual st f cdv A outer s H E).A (DX P w K mg base N qual st f cdv A outer s H E).env (DX P w K mg base N qual st f cdv A outer s H E).xe → PSs (DX P w K mg base N qual st f cdv A outer s H E) cl (defBody st) body
theorem fn_dj {P : Program} {w : World} {K : PySem.W.Frag} {mg : Str → Option Value} {base : Heap} {cl : Nat → Addr} {x qual : Str} {st : Stmt} {f : Addr} {fd : FuncData} {N ps : List Str} {k : Nat} {con : Con} {body : Sm} (F : Fun K x qual st f fd) (S : FnScope N ps (defScope st))
    (hc : ∀ ts μ φ ε, con ts μ φ ε → ts.length = ps.length ∧ Ir.wpB body (N.length - ps.length) ts μ φ ε) (hj : DJ P w K mg base cl N qual st f k body) : FnOk P w K mg base (L2.CX P w) (k + 1) f fd ps (spOf cl K con) := fn_ir F S hc hj
end Is

/-! Iv: properties, methods, objects. -/
namespace Is
open PySem PySem.Spec PyProof.Rows L2 Wx
open Ir (Tr Cel Mem Ev EK SK EX Con Tg Op Cm I Sm wp wps)
section
variable {X : Cx} {CX : CXT} {k : Nat} {f C : Addr} {fd : FuncData} {ps : List Str} {sp : Sp} {E : L2.St → XK} {x m : Str} {p pos apos : Pos} {e o : Expr} {es : List Expr} {ta : TE} {t : TA}
/-- methods and classes, the wish by the slots -/
def tMethS (C : Addr) (m : Str) (sp : Sp) (E : L2.St → XK) (ta : TE) (t : TA) : TE := fun σ H Q => ta σ H fun x H1 => ∃ a dx fs, x = .ref a ∧ H1 a = some (.ins C dx fs) ∧ fs.lookup m = none ∧ t σ H1 fun vs H2 => sp (x :: vs) H2 Q (E σ)
theorem pe_methS {pl : Sem Bool} (he : L2.PE X o ta) (c : Cls X.K C) (hm : Meth X.K C m f) (F : FnOk X.prog X.w X.K X.mg X.base CX k f fd ps sp) (hr : Room k X.A) (hb : Binds X.K fd ps []) (hx : ∀ σ, PassesAt CX X σ (E σ)) (ha : L2.PA X (e :: es) t)
    (hst : starEach (e :: es) X.env = (false, eval e X.env) :: starEach es X.env := by rfl) (hpl : (backTo pos (starEach es X.env)).any (·.1) = false := by rfl)
    (ht : eval (.Call (.Attribute o m apos) (e :: es) [] pos) X.env = (do
      let ov ← eval o X.env
      standAt apos.atName
      let (f, first) ← holding [ov] (getMethod ov m pl)
      callWith pos f first (backTo pos (starEach (e :: es) X.env)) (backToKw pos (keywordEach [] X.env))) := by rfl) :
    L2.PE X (.Call (.Attribute o m apos) (e :: es) [] pos) (tMethS C m sp E ta t) := by
  refine ⟨fun pins s σ H Q I h => ?_⟩
  refine PySem.W.methodCall_KW (pl := pl) (thn (he.run pins s σ H _ I h) fun u s1 ⟨x, H1, I1, rx, a, dx, fs, ex, ea, l, q⟩ => ?_) ht
  subst ex
  obtain rfl : u = Value.ref a := rx
  refine getmeth_ok I1 ea c hm l ?_
  refine PySem.W.callWith_K (first := [.ref a]) (h₀ := X.base) I.ok.mod.kin hm.kp (thn (ha.run pos pins s1 σ H1 _ I1 q) fun us s2 ⟨vs, H2, I2, r, q2⟩ => ⟨I2.kIn, ?_⟩) hst hpl
  exact run_fnS (us := .ref a :: us) (vs := .ref a :: vs) F hr hb (hx σ) I2 (.cons rfl r) q2
theorem pe_methS0 {pl : Sem Bool} (he : L2.PE X o ta) (c : Cls X.K C) (hm : Meth X.K C m f) (F : FnOk X.prog X.w X.K X.mg X.base CX k f fd ps sp) (hr : Room k X.A) (hb : Binds X.K fd ps []) (hx : ∀ σ, PassesAt CX X σ (E σ))
    (ht : eval (.Call (.Attribute o m apos) [] [] pos) X.env = (do
      let ov ← eval o X.env
      standAt apos.atName
      let (f, first) ← holding [ov] (getMethod ov m pl)
      callWith pos f first (backTo pos (starEach [] X.env)) (backToKw pos (keywordEach [] X.env))) := by rfl) :
    L2.PE X (.Call (.Attribute o m apos) [] [] pos) (tMethS C m sp E ta tNil) := by
  refine ⟨fun pins s σ H Q I h => ?_⟩
  refine PySem.W.methodCall_KW (pl := pl) (thn (he.run pins s σ H _ I h) fun u s1 ⟨x, H1, I1, rx, a, dx, fs, ex, ea, l, q⟩ => ?_) ht
  subst ex
  obtain rfl : u = Value.ref a := rx
  refine getmeth_ok I1 ea c hm l ?_
  exact PySem.W.callWith_K0 (first := [.ref a]) I1.kIn hm.kp (run_fnS (us := [.ref a]) (vs := [.ref a]) F hr hb (hx σ) I1 (.cons rfl .nil) q)
theorem run_makeS {pins : List (Addr × Obj)} {σ : L2.St} {H : Hp} {s : Shared} {Q : VK} {us : List Value} {vs : List V} (M : L2.Mk X.K C f) (F : FnOk X.prog X.w X.K X.mg X.base CX k f fd ps sp) (hr : Room (k + 1) X.A) (hb : Binds X.K fd ps [])
    (hx : PassesAt CX X σ (E σ)) (I : Inv X pins σ H s) (r : Vals vs us)
    (h : ∀ x dx, H x = none → H dx = none → dx ≠ x → sp (.ref x :: vs) (upd (upd H dx (.own x)) x (.ins C dx [])) (fun v H2 => v = .non ∧ Q (.ref x) H2) (E σ)) :
    wpAny (model X.prog X.w) X.A (call (.ref C) us) (EP X pins σ Q) X.xe s := by
  have hq := h (s.heap.objs.size + 1) s.heap.objs.size (I.hok.fresh (Nat.le_succ _)) (I.hok.fresh (Nat.le_refl _)) (Nat.ne_of_lt (Nat.lt_succ_self _))
  have I2 := Inv.made (C := C) I
  have r2 : Vals (V.ref (s.heap.objs.size + 1) :: vs) (Value.ref (s.heap.objs.size + 1) :: us) := .cons rfl r
  have hl : (Value.ref (s.heap.objs.size + 1) :: us ++ []).length = ps.length := by
    have e := r2.length
    rw [F.len _ _ _ _ hq] at e
    rw [List.append_nil]
    exact e.symm
  have hbb := hb _ (Value.ref (s.heap.objs.size + 1) :: us) I2.kIn hl
  rw [List.append_nil] at hbb
  refine wpAny_call (make_map (f := f) I.kIn M.makes M.init (beq_iff_eq.mp M.fn) (codeAny_mono (F.run _ X.stack _ _ ⟨Value.ref (s.heap.objs.size + 1) :: us, []⟩ (Value.ref (s.heap.objs.size + 1) :: us) _ _ (E σ) (hr.make C us [])
    (I2.env0.make C us []) hbb r2 hq) fun r s' hq' => ?_))
  cases r with
  | error e => exact hx pins _ _ e s' I2 hq'
  | ok fl =>
    cases fl with
    | ret u =>
      obtain ⟨v, H', I3, rv, ev, q3⟩ := I2.after hq'
      subst ev
      exact ⟨rv, ⟨V.ref (s.heap.objs.size + 1), H', I3, rfl, q3⟩⟩
    | next => exact False.elim hq'
    | brk => exact False.elim hq'
    | cont => exact False.elim hq'
def tMakeS (C : Addr) (sp : Sp) (E : L2.St → XK) (t : TA) : TE := fun σ H Q => t σ H fun vs H1 => ∀ x dx, H1 x = none → H1 dx = none → dx ≠ x →
  sp (.ref x :: vs) (upd (upd H1 dx (.own x)) x (.ins C dx [])) (fun v H2 => v = .non ∧ Q (.ref x) H2) (E σ)
theorem pe_makeS (M : L2.Mk X.K C f) (F : FnOk X.prog X.w X.K X.mg X.base CX k f fd ps sp) (hr : Room (k + 1) X.A) (hg : Gl X x) (hm : X.mg x = some (.ref C)) (hb : Binds X.K fd ps []) (hx : ∀ σ, PassesAt CX X σ (E σ))
    (ha : L2.PA X (e :: es) t) (hdb : (x == ("__debug__" : Str)) = false := by decide) (he : starEach (e :: es) X.env = (false, eval e X.env) :: starEach es X.env := by rfl) (hpl : (backTo pos (starEach es X.env)).any (·.1) = false := by rfl) :
    L2.PE X (.Call (.Name x p) (e :: es) [] pos) (tMakeS C sp E t) := by
  refine ⟨fun pins s σ H Q I h => ?_⟩
  refine wpAny_Call_Name_kw (ld_glob I hg hm ?_ hdb)
  refine PySem.W.callWith_K (h₀ := X.base) I.ok.mod.kin M.kp (thn (ha.run pos pins s σ H _ I h) fun us s1 ⟨vs, H1, I1, r, q⟩ => ⟨I1.kIn, ?_⟩) he hpl
  exact run_makeS M F hr hb (hx σ) I1 r q
end
section
variable {X : Cx} {c : Nat → Addr} {n : Nat} {pos p0 apos : Pos}
theorem pass_no {P w} (h1 : X.prog = P) (h2 : X.w = w) : Passes (L2.CX P w) X.nox (fun _ _ _ => False) := by
  subst h1; subst h2
  intro pins σ H s e s' I ⟨_, _, _, _, _, _, _, _, _, _, _, _, h⟩
  exact h.elim
theorem pj_prp {x : Str} {e a con k} {d : Nat} (R : Prp X.prog X.w X.K X.mg X.base (L2.CX X.prog X.w) k (c d) x (spOf c X.K con)) (hC : Cls X.K (c d)) (hr : Room (k + 1) X.A) (ha : PJ X c e a) (hab : attributeBase e x X.env (eval e X.env) = eval e X.env := by rfl) : PJ X c (.Attribute e x pos) (.prp d con a) := fun ρ μ φ ε h W σ Q Sx k tk =>
  we_prp R hC hr (pass_no rfl rfl) (ha ρ μ _ ε h W σ _ Sx (fun W1 v1 t1 μ1 g1 S1 r1 h1 => by
    obtain ⟨a0, dx, fvs, fs, rfl, q1, q2, q3, h1⟩ := cls_at S1 r1 h1
    exact ⟨a0, dx, fvs, rfl, q1, call_frame S1 (.cons r1 .nil) h1 (fun W' v t μ' g S' r hh => k W' v t μ' (g1.trans g) S' r hh) fun W' cls d t μ' g S' rx hh => hh⟩) tk) hab
/-- no field of the object has the method's name -/
def noM (m : Str) : Prop := ∀ f, f < 23 → fname f ≠ m
theorem lookup_none {m : Str} : ∀ {fvs : List (Str × V)} {fs : List (Nat × Tr)}, fvs.map Prod.fst = fs.map fN → (∀ f, fname f ≠ m) → fvs.lookup m = none
  | [], [], _, _ => rfl
  | [], _ :: _, e, _ => by cases e
  | _ :: _, [], e, _ => by cases e
  | (a, v) :: fvs, (g, t) :: fs, e, h => by
    rw [List.map_cons, List.map_cons] at e
    injection e with e1 e2
    have e1 : a = fname g := e1
    subst e1
    rw [List.lookup_cons, show (m == fname g) = false from beq_eq_false_iff_ne.mpr fun e => h g e.symm]
    exact lookup_none e2 h
theorem noM_all {m : Str} (h : (List.range 24).all (fun f => decide (fname f ≠ m)) = true) : ∀ f, fname f ≠ m := fun f => by
  rw [List.all_eq_true] at h
  by_cases hf : f < 24
  · simpa using h f (List.mem_range.mpr hf)
  · have := h 23 (List.mem_range.mpr (by decide))
    rw [fname_big f (by omega)]
    rw [fname_big 23 (by omega)] at this
    simpa using this
theorem pj_mth {m : Str} {o e : Expr} {es : List Expr} {a b con k} {d : Nat} {pl : Sem Bool} (R : Mth X.prog X.w X.K X.mg X.base (L2.CX X.prog X.w) k (c d) m (spOf c X.K con)) (hC : Cls X.K (c d)) (hr : Room k X.A) (ho : PJ X c o a) (hb : PA X c (e :: es) b) (hm : (List.range 24).all (fun f => decide (fname f ≠ m)) = true := by decide +kernel)
    (hst : starEach (e :: es) X.env = (false, eval e X.env) :: starEach es X.env := by rfl) (hpl : (backTo pos (starEach es X.env)).any (·.1) = false := by rfl)
    (ht : eval (.Call (.Attribute o m apos) (e :: es) [] pos) X.env = (do
      let ov ← eval o X.env
      standAt apos.atName
      let (f, first) ← holding [ov] (getMethod ov m pl)
      callWith pos f first (backTo pos (starEach (e :: es) X.env)) (backToKw pos (keywordEach [] X.env))) := by rfl) : PJ X c (.Call (.Attribute o m apos) (e :: es) [] pos) (.mth d con a b) := fun ρ μ φ ε h W σ Q Sx k tk => by
  obtain ⟨f, fd, ps, hM, F, hB⟩ := R.ex
  refine WE.of (Is.pe_methS (pl := pl) pe_w hC hM F hr hB (fun σ' => passAt tk σ') pa_w hst hpl ht) ?_
  refine ho ρ μ _ ε h W σ _ Sx (fun W1 v1 t1 μ1 g1 S1 r1 h1 => ?_) tk
  obtain ⟨a0, dx, fvs, fs, rfl, q1, q2, q3, h1⟩ := cls_at S1 r1 h1
  refine ⟨a0, dx, fvs, rfl, q1, lookup_none q2 (noM_all hm), ?_⟩
  exact hb ρ μ1 (fun xs μ => Ir.callK con (t1 :: xs) μ φ ε) ε h1 W1 σ _ S1 (fun W2 vs ts μ2 g2 S2 r2 h2 => call_frame S2 (.cons (r1.go g2) r2) h2 (fun W' v t μ' g S' r hh => k W' v t μ' ((g1.trans g2).trans g) S' r hh) fun W' cls d t μ' g S' rx hh => ⟨rfl, W', t, μ', rfl, (g1.trans g2).trans g, S', rx, hh⟩) (tk_go g1 tk)
theorem pj_mth0 {m : Str} {o : Expr} {a con k} {d : Nat} {pl : Sem Bool} (R : Mth X.prog X.w X.K X.mg X.base (L2.CX X.prog X.w) k (c d) m (spOf c X.K con)) (hC : Cls X.K (c d)) (hr : Room k X.A) (ho : PJ X c o a) (hm : (List.range 24).all (fun f => decide (fname f ≠ m)) = true := by decide +kernel)
    (ht : eval (.Call (.Attribute o m apos) [] [] pos) X.env = (do
      let ov ← eval o X.env
      standAt apos.atName
      let (f, first) ← holding [ov] (getMethod ov m pl)
      callWith pos f first (backTo pos (starEach [] X.env)) (backToKw pos (keywordEach [] X.env))) := by rfl) : PJ X c (.Call (.Attribute o m apos) [] [] pos) (.mth d con a .nil) := fun ρ μ φ ε h W σ Q Sx k tk => by
  obtain ⟨f, fd, ps, hM, F, hB⟩ := R.ex
  refine WE.of (pe_methS0 (pl := pl) pe_w hC hM F hr hB (fun σ' => passAt tk σ') ht) ?_
  refine ho ρ μ _ ε h W σ _ Sx (fun W1 v1 t1 μ1 g1 S1 r1 h1 => ?_) tk
  obtain ⟨a0, dx, fvs, fs, rfl, q1, q2, q3, h1⟩ := cls_at S1 r1 h1
  refine ⟨a0, dx, fvs, rfl, q1, lookup_none q2 (noM_all hm), ?_⟩
  exact call_frame S1 (.cons r1 .nil) h1 (fun W' v t μ' g S' r hh => k W' v t μ' (g1.trans g) S' r hh) fun W' cls d t μ' g S' rx hh => ⟨rfl, W', t, μ', rfl, g1.trans g, S', rx, hh⟩
/-! ### a new object -/
theorem Rvs.map_ref {B : Bs} {H F : Hp} : ∀ {bs : List Addr} {tss : List (List Tr)}, bs.length = tss.length → (∀ (i : Nat) b ts, bs[i]? = some b → tss[i]? = some ts → ∃ vs, F b = some (.lst vs) ∧ Rvs B H F vs ts) → Rvs B H F (bs.map V.ref) (tss.map Tr.lst)
  | [], [], _, _ => .nil
  | [], _ :: _, h, _ => by cases h
  | _ :: _, [], h, _ => by cases h
  | b :: bs, ts :: tss, hl, h => by
    obtain ⟨vs, q1, q2⟩ := h 0 b ts rfl rfl
    exact .cons (.lst q1 q2) (Rvs.map_ref (by simpa using hl) fun i b' ts' h1 h2 => h (i + 1) b' ts' (by simpa using h1) (by simpa using h2))
/-- an object's cell, frozen -/
theorem obj_frz {W : Wd} {cs : List Cel} {t : Tr} {v : V} {x : Addr} {k : Tr → Prop} (Sx : Sa (XB X c) W [] [] cs) (hx : W.A[0]? = some x) (r : Rp (XB X c) W v t) (h : Ir.newK t cs k) : v = .non ∧ ∃ (W' : Wd) (o : Tr), W'.H = W.H ∧ (∀ W0, Go W0 W → W0.A = [] → Go W0 W') ∧ Sa (XB X c) W' [] [] [] ∧ Rv (XB X c) W'.H W'.F (.ref x) o ∧ k o := by
  cases t <;> first | exact h.elim | skip
  have hv : v = .non := by
    have r := r.rv (by intro i e; cases e)
    cases r
    rfl
  refine ⟨hv, ?_⟩
  match cs, h with
  | [.obj e fs], h =>
    obtain ⟨b, fp, h1, h2, h3⟩ := Sx.mem 0 _ rfl
    rw [hx] at h1
    cases h1
    obtain ⟨g, S'⟩ := Sx.freeze h2
    obtain ⟨W2, e1, e2, g2, S2⟩ := sa_take 0 S'
    obtain ⟨dx, fvs, rfl, q1, q2, q3, q4⟩ := h3
    refine ⟨W2, .obj e fs, e1, fun W0 g0 hA => g2 W0 (g0.trans g) (by rw [hA]; exact Nat.le_refl _), S2, ?_, h⟩
    rw [e1, e2]
    exact .obj (addH_at (by simp) q1) (addH_at (by simp) q2) q3 (q4.mono (TEx.refl _) g.f)
  | [.objW e fs kvs], h =>
    obtain ⟨b, fp, h1, h2, h3⟩ := Sx.mem 0 _ rfl
    rw [hx] at h1
    cases h1
    obtain ⟨g, S'⟩ := Sx.freeze h2
    obtain ⟨W2, e1, e2, g2, S2⟩ := sa_take 0 S'
    obtain ⟨dx, wd, fvs, us, bs, rfl, q1, q2, q3, q4, q5, q6, q7, _, _, q8⟩ := h3
    refine ⟨W2, _, e1, fun W0 g0 hA => g2 W0 (g0.trans g) (by rw [hA]; exact Nat.le_refl _), S2, ?_, h⟩
    rw [e1, e2]
    have hlen : bs.length = (kvs.map Prod.snd).length := by
      have z1 := congrArg List.length q6
      have z2 := congrArg List.length q7
      simp at z1 z2 ⊢
      omega
    have hd : Rv (XB X c) W.H (addH W.F W.H (x :: dx :: wd :: bs)) (.ref wd) (.dic true (kvs.map fun p => (p.1, .lst p.2))) := by
      refine .dT (addH_at (by simp) q5) (by rw [q6, List.map_map]; rfl) ?_
      rw [q7, List.map_map]
      have := Rvs.map_ref (B := XB X c) (H := W.H) (F := addH W.F W.H (x :: dx :: wd :: bs)) (tss := kvs.map Prod.snd) hlen fun i b ts hb ht => by
        obtain ⟨vs, z1, z2⟩ := q8 i b ts hb ht
        exact ⟨vs, addH_at (by simp [List.mem_of_getElem? hb]) z1, z2.mono (TEx.refl _) g.f⟩
      rw [List.map_map] at this
      exact this
    refine .obj (addH_at (by simp) q1) (addH_at (by simp) q2) (by rw [List.map_append, List.map_append, q3]; rfl) ?_
    rw [List.map_append, List.map_append]
    exact (q4.mono (TEx.refl _) g.f).app (.cons hd .nil)
theorem pj_new {x : Str} {e es a con k} {d : Nat} (M : Mkr X.prog X.w X.K X.mg X.base (L2.CX X.prog X.w) k x (c d) (spOf c X.K con)) (hr : Room (k + 1) X.A) (ha : PA X c (e :: es) a) (hg : Gl X x := by rfl) (hdb : (x == ("__debug__" : Str)) = false := by decide) (he : starEach (e :: es) X.env = (false, eval e X.env) :: starEach es X.env := by rfl)
    (hpl : (backTo pos (starEach es X.env)).any (·.1) = false := by rfl) : PJ X c (.Call (.Name x p0) (e :: es) [] pos) (.new d con a) := fun ρ μ φ ε h W σ Q Sx k tk => by
  obtain ⟨f, fd, ps, hM, F, hb, hm⟩ := M.ex
  refine WE.of (pe_makeS hM F hr hg hm hb (fun σ' => passAt tk σ') pa_w hdb he hpl) ?_
  refine ha ρ μ _ ε h W σ _ Sx (fun W1 vs ts μ1 g1 S1 r1 h1 => ?_) tk
  intro x dx hx hdx hne
  obtain ⟨r, h1⟩ := r1.rvs h1
  have S2 := S1.calW (is := []) (fun i hi => by simp at hi) List.nodup_nil
  have hxne : x ≠ dx := fun e => hne e.symm
  have hH : ∀ y, (calW W1 []).H y ≠ none → upd (upd W1.H dx (.own x)) x (.ins (c d) dx []) y = (calW W1 []).H y := fun y hy => by
    have hy : W1.H y ≠ none := hy
    exact (upd_ne (fun e => by subst e; exact hy hx)).trans (upd_ne (fun e => by subst e; exact hy hdx))
  obtain ⟨g3, S3⟩ := S2.newC (a := x) (fq := [x, dx]) (c := .obj d []) hH (by simp [hxne]) (fun y hy => by
    have hy : y = x ∨ y = dx := by simpa using hy
    rcases hy with rfl | rfl
    · exact ⟨hx, by rw [upd_same]; exact fun z => nomatch z⟩
    · exact ⟨hdx, by rw [upd_ne hne, upd_same]; exact fun z => nomatch z⟩) ⟨dx, [], rfl, upd_same, (upd_ne hne).trans upd_same, rfl, .nil⟩
  refine ⟨_, _, _, _, _, rfl, S3, .cons (.inr ⟨0, x, rfl, rfl, rfl⟩) (Rps.of (r.mono g3.t g3.f)), h1, fun W' v t cs g S' rv hh => ?_, fun W' cls d' t cs g S' rx hh => ?_⟩
  · obtain ⟨hv, W4, ob, e1, g4, S4, ro, ho⟩ := obj_frz S' (g.p 0 x rfl) rv hh
    refine ⟨hv, ?_⟩
    obtain ⟨g5, S5⟩ := S1.retW (is := []) (fun i hi => by simp at hi) List.nodup_nil (g4 (calW W1 []) (g3.trans g) rfl) S4 rfl
    have := k _ _ _ _ (g1.trans g5) S5 (.inl ro) ho
    rw [← e1]
    exact this
  · obtain ⟨W4, e1, e2, g4, S4⟩ := sa_take 0 S'
    obtain ⟨g5, S5⟩ := S1.retW (is := []) (fun i hi => by simp at hi) List.nodup_nil (g4 (calW W1 []) (g3.trans g) (Nat.le_refl _)) S4 (by simp)
    refine ⟨rfl, _, t, _, ?_, g1.trans g5, S5, ?_, hh⟩
    · exact e1
    · obtain ⟨c0, fs, q1, q2, q3⟩ := rx
      refine ⟨c0, fs, q1, q2, ?_⟩
      show _ ∨ ∃ dx fvs, _ ∧ W4.H dx = _ ∧ _ ∧ Rvs _ W4.H W4.F _ _
      rw [e1, e2]
      exact q3
end
end Is

/-! Iw: fields stored, the dict of lists. -/
namespace Is
open PySem PySem.Spec PyProof.Rows L2 Wx
open Ir (Tr Cel Mem Ev EK SK EX Con Tg Op Cm I Sm wp wps)
section
variable {X : Cx} {c : Nat → Addr} {n : Nat} {pos p0 apos : Pos}
theorem putN_put {B : Bs} {H F : Hp} {f : Nat} {v : V} {t : Tr} (hf : f < 23) (q : Rv B H F v t) : ∀ {fvs : List (Str × V)} {fs : List (Nat × Tr)}, fvs.map Prod.fst = fs.map fN → Rvs B H F (fvs.map Prod.snd) (fs.map Prod.snd) →
    (putF (fname f) v fvs).map Prod.fst = (Ir.putN f t fs).map fN ∧ Rvs B H F ((putF (fname f) v fvs).map Prod.snd) ((Ir.putN f t fs).map Prod.snd)
  | [], [], _, _ => ⟨rfl, .cons q .nil⟩
  | [], _ :: _, e, _ => by cases e
  | _ :: _, [], e, _ => by cases e
  | (a, w) :: fvs, (g, u) :: fs, e, r => by
    rw [List.map_cons, List.map_cons] at e
    injection e with e1 e2
    have e1 : a = fname g := e1
    subst e1
    cases r with
    | cons r1 r2 =>
      obtain ⟨h1, h2⟩ := putN_put hf q e2 r2
      by_cases hg : g = f
      · subst hg
        have z1 : putF (fname g) v ((fname g, w) :: fvs) = (fname g, v) :: fvs := if_pos rfl
        have z2 : Ir.putN g t ((g, u) :: fs) = (g, t) :: fs := by
          show (match Nat.beq g g with | true => _ | false => _) = _
          rw [Nat.beq_refl]
        rw [z1, z2]
        exact ⟨by rw [List.map_cons, List.map_cons, e2]; rfl, .cons q r2⟩
      · have z1 : putF (fname f) v ((fname g, w) :: fvs) = (fname g, w) :: putF (fname f) v fvs := if_neg fun e => hg (fname_eq hf e)
        have z2 : Ir.putN f t ((g, u) :: fs) = (g, u) :: Ir.putN f t fs := by
          show (match Nat.beq g f with | true => _ | false => _) = _
          rw [show Nat.beq g f = false from by
            cases hb : Nat.beq g f with
            | false => rfl
            | true => exact absurd (Nat.eq_of_beq_eq_true hb) hg]
        rw [z1, z2]
        exact ⟨by rw [List.map_cons, List.map_cons, h1]; rfl, .cons r1 h2⟩
/-- an object's cell is written -/
theorem Sa.putO {W : Wd} {σ ρ μ} {a dx : Addr} {i : Nat} {cl' : Cel} {fp : List Addr} {u : HO} (Sx : Sa (XB X c) W σ ρ μ) (ha : W.A[i]? = some a) (hO : W.O[i]? = some fp) (hm : a ∈ fp) {o : HO} (ho : W.H a = some o) (hn : notTup o) (hr : Rc (XB X c) (upd W.H a u) W.F a fp cl') :
    ∃ W', W'.H = upd W.H a u ∧ Go W W' ∧ Sa (XB X c) W' σ ρ (μ.set i cl') := by
  have t : TEx W.H (upd W.H a u) := tex_nt ho hn
  obtain ⟨g, S'⟩ := Sx.cellU (fq := fp) (c' := cl') (H' := upd W.H a u) ha hO (fun x hx _ => upd_ne fun e => hx (by rw [e]; exact hm)) t (nd_each Sx.nd hO) (fun x hx => ⟨.inl hx, by
    by_cases e : x = a
    · subst e; rw [upd_same]; exact fun z => nomatch z
    · rw [upd_ne e]; exact (Sx.own x (flat_get hO hx)).2⟩) hr
  exact ⟨_, rfl, g, S'⟩
theorem ps_setf {x fnm : Str} {e b} {i d f : Nat} {p1 pos' : Pos} (hi : X.N[i]? = some x) (hC : Cls X.K (c d)) (hN : NoAttr X.K (c d) fnm) (hfn : fnm = fname f) (hf : f < 23) (he : PJ X c e b) (hv : Vis X.env.scope x := by first | exact Or.inl rfl | exact Or.inr (Or.inl rfl) | exact Or.inr (Or.inr rfl)) (hd : (x == ("__debug__" : Str)) = false := by decide) (hcd : (x == ("__classdict__" : Str)) = false := by decide)
    (hs : swapsWith e (some (.Attribute (.Name x p1) fnm pos')) pos.line X.env = pure false := by rfl) : PS X c (.Assign [.Attribute (.Name x p1) fnm pos'] e pos) (.setf i d f b) := fun nx rt bk ct ε ρ μ h W σ D Sx l tk => by
  refine ws_fld (he ρ μ _ _ h W σ _ Sx (fun W1 v1 t1 μ1 g1 S1 r1 h1 => ?_) (tks_e tk)) hs
  have hn : ∀ k, t1 ≠ .ptr k := fun k e => by subst e; exact h1
  have h1' : Ir.getK ρ i fun p => match p with
      | .ptr a => Ir.celK μ1 a fun c => match c with
        | .obj e fs => (match Nat.beq e d with | true => Ir.szF fs.length (Ir.cputK μ1 a (.obj e (Ir.putN f t1 fs)) fun μ => nx ρ μ) | false => False)
        | _ => False
      | _ => False := by
    cases t1 <;> first | exact h1 | exact h1.elim
  obtain ⟨t, h2, h3⟩ := getK_at h1'
  obtain ⟨v, h4, h5⟩ := S1.env i t h2
  cases t with
  | ptr j =>
    obtain ⟨a, rfl, ha⟩ := h5.ptr
    obtain ⟨cl, hc, h3⟩ := celK_at h3
    cases cl with
    | obj e0 fs =>
      obtain ⟨fp, hO, dx, fvs, rfl, q1, q2, q3, q4⟩ := cell_at S1 ha hc
      have h6 : (match Nat.beq e0 d with | true => Ir.szF fs.length (Ir.cputK μ1 j (.obj e0 (Ir.putN f t1 fs)) fun μ => nx ρ μ) | false => False) := h3
      cases hb : Nat.beq e0 d with
      | false => rw [hb] at h6; exact h6.elim
      | true =>
        rw [hb] at h6
        have := Nat.eq_of_beq_eq_true hb
        subst this
        dsimp only at h6
        obtain ⟨hz, h7⟩ := Ir.szF_le h6
        have hne : dx ≠ a := fun e => by
          have := nd_each S1.nd hO
          rw [e] at this
          simp at this
        have t0 : TEx W1.H (upd W1.H a (.ins (c e0) dx (putF (fname f) v1 fvs))) := tex_nt q1 True.intro
        obtain ⟨p1, p2⟩ := putN_put hf ((r1.rv hn).mono t0 (Ex.refl _)) q3 (q4.mono t0 (Ex.refl _))
        obtain ⟨W2, eH, g2, S2⟩ := S1.putO (u := .ins (c e0) dx (putF (fname f) v1 fvs)) (cl' := .obj e0 (Ir.putN f t1 fs)) (dx := dx) ha hO (by simp) q1 True.intro ⟨dx, _, rfl, upd_same, (upd_ne hne).trans q2, p1, p2⟩
        have hl : fvs.length = fs.length := by have := congrArg List.length q3; simpa using this
        refine WE.of (pe_var hi hv hd hcd) ⟨_, h4, a, _, dx, fvs, rfl, q1, hC, hN, by omega, ?_⟩
        rw [hfn, ← eH]
        exact l.nx W2 σ ρ _ (g1.trans g2) S2 (cputK_at h7)
    | _ => exact h3.elim
  | _ => exact h3.elim
/-! ### a machine's dict of lists -/
theorem putF_new {v : V} : ∀ {fvs : List (Str × V)} {fs : List (Nat × Tr)}, fvs.map Prod.fst = fs.map fN → Ir.hasN 4 fs = false → putF (fname 4) v fvs = fvs ++ [(fname 4, v)] ∧ fvs.lookup (fname 4) = none
  | [], [], _, _ => ⟨rfl, rfl⟩
  | [], _ :: _, e, _ => by cases e
  | _ :: _, [], e, _ => by cases e
  | (a, w) :: fvs, (g, u) :: fs, e, h => by
    rw [List.map_cons, List.map_cons] at e
    injection e with e1 e2
    have e1 : a = fname g := e1
    subst e1
    have h2 : (match Nat.beq g 4 with | true => true | false => Ir.hasN 4 fs) = false := h
    cases hb : Nat.beq g 4 with
    | true => rw [hb] at h2; cases h2
    | false =>
      rw [hb] at h2
      obtain ⟨h3, h4⟩ := putF_new e2 h2
      have hg : fname g ≠ fname 4 := fun e => Nat.ne_of_beq_eq_false hb (fname_eq (by decide) e)
      refine ⟨?_, ?_⟩
      · show (if fname g = fname 4 then _ else _) = _
        rw [if_neg hg, h3]
        rfl
      · rw [List.lookup_cons, show (fname 4 == fname g) = false from beq_eq_false_iff_ne.mpr fun e => hg e.symm]
        exact h4
theorem ps_ways0 {x : Str} {i d : Nat} {p1 p2 pos' : Pos} (hi : X.N[i]? = some x) (hC : Cls X.K (c d)) (hN : NoAttr X.K (c d) "ways") (hv : Vis X.env.scope x := by first | exact Or.inl rfl | exact Or.inr (Or.inl rfl) | exact Or.inr (Or.inr rfl)) (hd : (x == ("__debug__" : Str)) = false := by decide) (hcd : (x == ("__classdict__" : Str)) = false := by decide)
    (hs : swapsWith (.Dict [] [] p2) (some (.Attribute (.Name x p1) "ways" pos')) pos.line X.env = pure false := by rfl) : PS X c (.Assign [.Attribute (.Name x p1) "ways" pos'] (.Dict [] [] p2) pos) (.ways0 i d) := fun nx rt bk ct ε ρ μ h W σ D Sx l tk => by
  obtain ⟨t, h2, h3⟩ := getK_at h
  obtain ⟨v, h4, h5⟩ := Sx.env i t h2
  cases t with
  | ptr j =>
    obtain ⟨a, rfl, ha⟩ := h5.ptr
    obtain ⟨cl, hc, h3⟩ := celK_at h3
    cases cl with
    | obj e0 fs =>
      obtain ⟨fp, hO, dx, fvs, rfl, q1, q2, q3, q4⟩ := cell_at Sx ha hc
      have h6 : (match Nat.beq e0 d with | true => (match Ir.hasN 4 fs with | false => Ir.szF fs.length (Ir.cputK μ j (.objW e0 fs []) fun μ => nx ρ μ) | true => False) | false => False) := h3
      cases hb : Nat.beq e0 d with
      | false => rw [hb] at h6; exact h6.elim
      | true =>
        rw [hb] at h6
        have := Nat.eq_of_beq_eq_true hb
        subst this
        dsimp only at h6
        cases hh : Ir.hasN 4 fs with
        | true => rw [hh] at h6; exact h6.elim
        | false =>
          rw [hh] at h6
          dsimp only at h6
          obtain ⟨hz, h7⟩ := Ir.szF_le h6
          have hl : fvs.length = fs.length := by have := congrArg List.length q3; simpa using this
          have nd2 := nd_each Sx.nd hO
          have hne : dx ≠ a := fun e => by rw [e] at nd2; simp at nd2
          refine ws_fld (we_newT fun p hp => ?_) hs
          have hpa : p ≠ a := fun e => by rw [e, q1] at hp; cases hp
          have hpd : p ≠ dx := fun e => by rw [e, q2] at hp; cases hp
          have e1 : upd W.H p (.dT []) a = some (.ins (c e0) dx fvs) := (upd_ne fun e => hpa e.symm).trans q1
          refine WE.of (pe_var hi hv hd hcd) ⟨_, h4, a, _, dx, fvs, rfl, e1, hC, hN, by omega, ?_⟩
          rw [show putF "ways" (.ref p) fvs = fvs ++ [(fname 4, .ref p)] from (putF_new q3 hh).1]
          have t1 : TEx W.H (upd (upd W.H p (.dT [])) a (.ins (c e0) dx (fvs ++ [(fname 4, .ref p)]))) := (tex_new hp).trans (tex_nt e1 True.intro)
          obtain ⟨g2, S2⟩ := Sx.cellU (fq := [a, dx, p]) (c' := .objW e0 fs []) (H' := upd (upd W.H p (.dT [])) a (.ins (c e0) dx (fvs ++ [(fname 4, .ref p)]))) ha hO (fun y hy hyn => by
              have y1 : y ≠ a := fun e => hy (by rw [e]; simp)
              have y2 : y ≠ p := fun e => by rw [e] at hyn; exact hyn hp
              rw [upd_ne y1, upd_ne y2]) t1 (by simp [hpa.symm, hpd.symm, hne.symm]) (fun y hy => by
              have hy : y = a ∨ y = dx ∨ y = p := by simpa using hy
              rcases hy with rfl | rfl | rfl
              · exact ⟨.inl (by simp), by rw [upd_same]; exact fun z => nomatch z⟩
              · exact ⟨.inl (by simp), by rw [upd_ne hne, upd_ne (fun e => hpd e.symm), q2]; exact fun z => nomatch z⟩
              · exact ⟨.inr hp, by rw [upd_ne hpa, upd_same]; exact fun z => nomatch z⟩)
            ⟨dx, p, fvs, [], [], rfl, upd_same, (upd_ne hne).trans ((upd_ne fun e => hpd e.symm).trans q2), q3, q4.mono t1 (Ex.refl _), (upd_ne hpa).trans upd_same, rfl, rfl, hh, List.nodup_nil, fun i b ts hb => by simp at hb⟩
          exact l.nx _ σ ρ _ g2 S2 (cputK_at h7)
    | _ => exact h3.elim
  | _ => exact h3.elim
/-- keys of the dict of lists -/
theorem addW_some {κ : Type} [DecidableEq κ] {f : κ → Tr} (hf : ∀ a b, Ir.eqT (f a) (f b) = decide (a = b)) {us : List (κ × V)} {kvs : List (Tr × List Tr)} {k : κ} {v : Tr} (h : us.map (fun p => f p.1) = kvs.map Prod.fst) (hk : k ∈ us.map Prod.fst) :
    (Ir.addW kvs (f k) v).map Prod.fst = kvs.map Prod.fst ∧ ∀ (i : Nat) (p : κ × V) ts, us[i]? = some p → (kvs.map Prod.snd)[i]? = some ts → ((Ir.addW kvs (f k) v).map Prod.snd)[i]? = some (if p.1 = k then ts ++ [v] else ts) := by
  have ha : (kvs.any fun p => Ir.eqT p.1 (f k)) = true := by
    obtain ⟨p, hp, e⟩ := List.mem_map.mp hk
    have hm : f k ∈ kvs.map Prod.fst := by rw [← h, ← e]; exact List.mem_map.mpr ⟨p, hp, rfl⟩
    obtain ⟨q, hq, e2⟩ := List.mem_map.mp hm
    rw [List.any_eq_true]
    exact ⟨q, hq, by rw [e2, hf]; simp⟩
  unfold Ir.addW
  rw [if_pos ha]
  refine ⟨?_, fun i p ts hp ht => ?_⟩
  · rw [List.map_map]
    congr 1
    funext p
    show (if Ir.eqT p.1 (f k) = true then (p.1, p.2 ++ [v]) else p).1 = p.1
    split <;> rfl
  · rw [List.map_map, List.getElem?_map]
    rw [List.getElem?_map] at ht
    cases e : kvs[i]? with
    | none => rw [e] at ht; cases ht
    | some q =>
      rw [e] at ht
      cases ht
      have e1 : f p.1 = q.1 := by
        have z : (us.map fun p => f p.1)[i]? = (kvs.map Prod.fst)[i]? := by rw [h]
        rw [List.getElem?_map, List.getElem?_map, hp, e] at z
        exact Option.some.inj z
      show some ((if Ir.eqT q.1 (f k) = true then (q.1, q.2 ++ [v]) else q).2) = _
      rw [← e1, hf]
      by_cases hk2 : p.1 = k
      · rw [decide_eq_true hk2, if_pos rfl, if_pos hk2]
      · rw [decide_eq_false hk2, if_neg Bool.false_ne_true, if_neg hk2]
theorem addW_none {κ : Type} [DecidableEq κ] {f : κ → Tr} (hf : ∀ a b, Ir.eqT (f a) (f b) = decide (a = b)) {us : List (κ × V)} {kvs : List (Tr × List Tr)} {k : κ} {v : Tr} (h : us.map (fun p => f p.1) = kvs.map Prod.fst) (hk : k ∉ us.map Prod.fst) : Ir.addW kvs (f k) v = kvs ++ [(f k, [v])] := by
  have ha : ¬ (kvs.any fun p => Ir.eqT p.1 (f k)) = true := fun ha => by
    rw [List.any_eq_true] at ha
    obtain ⟨q, hq, e⟩ := ha
    have hm : q.1 ∈ us.map fun p => f p.1 := by rw [h]; exact List.mem_map.mpr ⟨q, hq, rfl⟩
    obtain ⟨p, hp, e2⟩ := List.mem_map.mp hm
    rw [← e2, hf] at e
    exact hk (List.mem_map.mpr ⟨p, hp, of_decide_eq_true e⟩)
  unfold Ir.addW
  rw [if_neg ha]
theorem valV_at {κ : Type} [DecidableEq κ] {us : List (κ × V)} {k : κ} {v : V} (h : valV us k = some v) : ∃ i : Nat, us[i]? = some (k, v) := by
  unfold valV at h
  obtain ⟨p, hp, e⟩ := Option.map_eq_some_iff.mp h
  have h1 := List.find?_some hp
  have h2 := List.mem_of_find?_eq_some hp
  obtain ⟨i, hi⟩ := List.mem_iff_getElem?.mp h2
  refine ⟨i, ?_⟩
  rw [hi]
  obtain ⟨p1, p2⟩ := p
  have : p1 = k := of_decide_eq_true h1
  subst this
  cases e
  rfl
theorem putK_none {κ : Type} [DecidableEq κ] {us : List (κ × V)} {k : κ} {v : V} (h : valV us k = none) : k ∉ us.map Prod.fst ∧ putK us k v = us ++ [(k, v)] := by
  have hn : ∀ p ∈ us, ¬ p.1 = k := fun p hp e => by
    unfold valV at h
    rw [Option.map_eq_none_iff, List.find?_eq_none] at h
    exact h p hp (decide_eq_true e)
  have hk : k ∉ us.map Prod.fst := fun hk => by
    obtain ⟨p, hp, e⟩ := List.mem_map.mp hk
    exact hn p hp e
  refine ⟨hk, ?_⟩
  unfold putK
  rw [if_neg]
  intro ha
  rw [List.any_eq_true] at ha
  obtain ⟨p, hp, e⟩ := ha
  exact hn p hp (of_decide_eq_true e)
/-- a list of the dict grows -/
theorem Sa.waysU {W : Wd} {σ ρ μ} {a : Addr} {j e0 : Nat} {fs : List (Nat × Tr)} {kvs : List (Tr × List Tr)} {k : List Key} {dx wd : Addr} {fvs : List (Str × V)} {us : List (List Key × V)} {bs : List Addr} {H' : Hp} {l : Addr} {vs : List V} {v : V} {t : Tr} {ix : Nat}
    (Sx : Sa (XB X c) W σ ρ μ) (ha : W.A[j]? = some a) (hO : W.O[j]? = some (a :: dx :: wd :: bs))
    (q1 : W.H a = some (.ins (c e0) dx (fvs ++ [(fname 4, .ref wd)]))) (q2 : W.H dx = some (.own a)) (q3 : fvs.map Prod.fst = fs.map fN) (q4 : Rvs (XB X c) W.H W.F (fvs.map Prod.snd) (fs.map Prod.snd))
    (q5 : W.H wd = some (.dT us)) (q6 : us.map (fun p => kTs p.1) = kvs.map Prod.fst) (q7 : us.map Prod.snd = bs.map V.ref) (q8 : Ir.hasN 4 fs = false) (q9 : (us.map Prod.fst).Nodup)
    (q10 : ∀ (i : Nat) b ts, bs[i]? = some b → (kvs.map Prod.snd)[i]? = some ts → ∃ vs, W.H b = some (.lst vs) ∧ Rvs (XB X c) W.H W.F vs ts)
    (hx : us[ix]? = some (k, .ref l)) (hl : W.H l = some (.lst vs)) (hH : ∀ x, x ≠ l → W.H x ≠ none → H' x = W.H x) (hl' : H' l = some (.lst (vs ++ [v]))) (tx : TEx W.H H') (rv : Rv (XB X c) H' W.F v t) :
    ∃ W', W'.H = H' ∧ Go W W' ∧ Sa (XB X c) W' σ ρ (μ.set j (.objW e0 fs (Ir.addW kvs (kTs k) t))) := by
  have nd := nd_each Sx.nd hO
  have hlb : bs[ix]? = some l := by
    have z : (us.map Prod.snd)[ix]? = (bs.map V.ref)[ix]? := by rw [q7]
    rw [List.getElem?_map, List.getElem?_map, hx] at z
    cases e : bs[ix]? with
    | none => rw [e] at z; cases z
    | some b => rw [e] at z; cases z; rfl
  have hlm : l ∈ bs := List.mem_of_getElem? hlb
  have nd' := nd
  rw [List.nodup_cons, List.nodup_cons, List.nodup_cons] at nd'
  obtain ⟨n1, n2, n3, n4⟩ := nd'
  have na : a ≠ l := fun e => n1 (by rw [e]; simp [hlm])
  have nx : dx ≠ l := fun e => n2 (by rw [e]; simp [hlm])
  have nw : wd ≠ l := fun e => n3 (by rw [e]; exact hlm)
  have some_ne : ∀ {x : Addr} {o : HO}, W.H x = some o → W.H x ≠ none := fun h z => by rw [z] at h; cases h
  have hk : k ∈ us.map Prod.fst := List.mem_map.mpr ⟨_, List.mem_of_getElem? hx, rfl⟩
  obtain ⟨w1, w2⟩ := addW_some (v := t) kTs_eqT q6 hk
  have hul : us.length = kvs.length := by have := congrArg List.length q6; simpa using this
  have hub : us.length = bs.length := by have := congrArg List.length q7; simpa using this
  obtain ⟨g2, S2⟩ := Sx.cellU (fq := a :: dx :: wd :: bs) (c' := .objW e0 fs (Ir.addW kvs (kTs k) t)) (H' := H') ha hO (fun y hy hyn => hH y (fun e => hy (by rw [e]; simp [hlm])) hyn) tx nd (fun y hy => ⟨.inl hy, by
      by_cases e : y = l
      · rw [e, hl']; exact fun z => nomatch z
      · rw [hH y e (Sx.own y (flat_get hO hy)).2]; exact (Sx.own y (flat_get hO hy)).2⟩)
    ⟨dx, wd, fvs, us, bs, rfl, (hH _ na (some_ne q1)).trans q1, (hH _ nx (some_ne q2)).trans q2, q3, q4.mono tx (Ex.refl _), (hH _ nw (some_ne q5)).trans q5, q6.trans w1.symm, q7, q8, q9, fun i b ts hb ht => by
      have hi : i < us.length := by rw [hub]; exact (List.getElem?_eq_some_iff.mp hb).1
      have hu : us[i]? = some us[i] := List.getElem?_eq_getElem hi
      have hik : i < kvs.length := by omega
      have hk0 : (kvs.map Prod.snd)[i]? = some kvs[i].2 := by rw [List.getElem?_map, List.getElem?_eq_getElem hik]; rfl
      obtain ⟨vs0, p1, p2⟩ := q10 i b _ hb hk0
      have w3 := w2 i _ _ hu hk0
      rw [w3] at ht
      injection ht with ht
      by_cases e : i = ix
      · subst e
        rw [hlb] at hb
        cases hb
        rw [hx] at hu
        have hu2 : us[i] = (k, V.ref l) := (Option.some.inj hu).symm
        rw [hu2, if_pos rfl] at ht
        subst ht
        rw [hl] at p1
        cases p1
        exact ⟨_, hl', (p2.mono tx (Ex.refl _)).app (.cons rv .nil)⟩
      · have hbl : b ≠ l := fun z => by
          subst z
          exact e ((List.getElem?_inj (by omega : i < bs.length) n4).mp (hb.trans hlb.symm))
        have hpk : us[i].1 ≠ k := fun z => by
          have z1 : (us.map Prod.fst)[i]? = (us.map Prod.fst)[ix]? := by
            rw [List.getElem?_map, List.getElem?_map, hu, hx]
            show some us[i].1 = some k
            rw [z]
          exact e ((List.getElem?_inj (by simpa using hi) q9).mp z1)
        rw [if_neg hpk] at ht
        subst ht
        exact ⟨_, (hH b hbl (some_ne p1)).trans p1, p2.mono tx (Ex.refl _)⟩⟩
  exact ⟨_, rfl, g2, S2⟩
/-- a list is new in the dict -/
theorem Sa.waysN {W : Wd} {σ ρ μ} {a : Addr} {j e0 : Nat} {fs : List (Nat × Tr)} {kvs : List (Tr × List Tr)} {k : List Key} {dx wd : Addr} {fvs : List (Str × V)} {us : List (List Key × V)} {bs : List Addr} {H' : Hp} {z : Addr} {v : V} {t : Tr}
    (Sx : Sa (XB X c) W σ ρ μ) (ha : W.A[j]? = some a) (hO : W.O[j]? = some (a :: dx :: wd :: bs))
    (q1 : W.H a = some (.ins (c e0) dx (fvs ++ [(fname 4, .ref wd)]))) (q2 : W.H dx = some (.own a)) (q3 : fvs.map Prod.fst = fs.map fN) (q4 : Rvs (XB X c) W.H W.F (fvs.map Prod.snd) (fs.map Prod.snd))
    (q5 : W.H wd = some (.dT us)) (q6 : us.map (fun p => kTs p.1) = kvs.map Prod.fst) (q7 : us.map Prod.snd = bs.map V.ref) (q8 : Ir.hasN 4 fs = false) (q9 : (us.map Prod.fst).Nodup)
    (q10 : ∀ (i : Nat) b ts, bs[i]? = some b → (kvs.map Prod.snd)[i]? = some ts → ∃ vs, W.H b = some (.lst vs) ∧ Rvs (XB X c) W.H W.F vs ts)
    (hk : k ∉ us.map Prod.fst) (hz : W.H z = none) (hH : ∀ x, x ≠ wd → W.H x ≠ none → H' x = W.H x) (hwd : H' wd = some (.dT (us ++ [(k, .ref z)]))) (hz' : H' z = some (.lst [v])) (tx : TEx W.H H') (rv : Rv (XB X c) H' W.F v t) :
    ∃ W', W'.H = H' ∧ Go W W' ∧ Sa (XB X c) W' σ ρ (μ.set j (.objW e0 fs (Ir.addW kvs (kTs k) t))) := by
  have nd := nd_each Sx.nd hO
  have nd' := nd
  rw [List.nodup_cons, List.nodup_cons, List.nodup_cons] at nd'
  obtain ⟨n1, n2, n3, n4⟩ := nd'
  have na : a ≠ wd := fun e => n1 (by rw [e]; simp)
  have nx : dx ≠ wd := fun e => n2 (by rw [e]; simp)
  have some_ne : ∀ {x : Addr} {o : HO}, W.H x = some o → W.H x ≠ none := fun h z => by rw [z] at h; cases h
  have hzn : ∀ y ∈ a :: dx :: wd :: bs, y ≠ z := fun y hy e => (Sx.own y (flat_get hO hy)).2 (by rw [e]; exact hz)
  have hul : us.length = kvs.length := by have := congrArg List.length q6; simpa using this
  have hub : us.length = bs.length := by have := congrArg List.length q7; simpa using this
  rw [addW_none (v := t) kTs_eqT q6 hk]
  obtain ⟨g2, S2⟩ := Sx.cellU (fq := a :: dx :: wd :: (bs ++ [z])) (c' := .objW e0 fs (kvs ++ [(kTs k, [t])])) (H' := H') ha hO (fun y hy hyn => hH y (fun e => hy (by rw [e]; simp)) hyn) tx (by
      have e : a :: dx :: wd :: (bs ++ [z]) = (a :: dx :: wd :: bs) ++ [z] := rfl
      rw [e, List.nodup_append]
      exact ⟨nd, by simp, fun x hx y hy e => by
        have : y = z := by simpa using hy
        exact hzn x hx (e.trans this)⟩) (fun y hy => by
      have e : a :: dx :: wd :: (bs ++ [z]) = (a :: dx :: wd :: bs) ++ [z] := rfl
      rw [e, List.mem_append] at hy
      rcases hy with hy | hy
      · refine ⟨.inl hy, ?_⟩
        by_cases e : y = wd
        · rw [e, hwd]; exact fun z => nomatch z
        · rw [hH y e (Sx.own y (flat_get hO hy)).2]; exact (Sx.own y (flat_get hO hy)).2
      · have : y = z := by simpa using hy
        subst this
        exact ⟨.inr hz, by rw [hz']; exact fun z => nomatch z⟩)
    ⟨dx, wd, fvs, us ++ [(k, .ref z)], bs ++ [z], rfl, (hH _ na (some_ne q1)).trans q1, (hH _ nx (some_ne q2)).trans q2, q3, q4.mono tx (Ex.refl _), hwd, by rw [List.map_append, List.map_append, q6]; rfl, by rw [List.map_append, List.map_append, q7]; rfl, q8, by
        rw [List.map_append, List.nodup_append]
        exact ⟨q9, by simp, fun x hx y hy e => by
          have : y = k := by simpa using hy
          exact hk (by rw [← this, ← e]; exact hx)⟩, fun i b ts hb ht => by
      rw [List.map_append] at ht
      by_cases hi : i < bs.length
      · rw [List.getElem?_append_left hi] at hb
        rw [List.getElem?_append_left (by rw [List.length_map]; omega)] at ht
        obtain ⟨vs0, p1, p2⟩ := q10 i b _ hb ht
        have hbm : b ∈ bs := List.mem_of_getElem? hb
        exact ⟨vs0, (hH b (fun e => n3 (by rw [← e]; exact hbm)) (some_ne p1)).trans p1, p2.mono tx (Ex.refl _)⟩
      · rw [List.getElem?_append_right (by omega)] at hb
        rw [List.getElem?_append_right (by rw [List.length_map]; omega)] at ht
        have e0 : i - bs.length = 0 := by
          have := (List.getElem?_eq_some_iff.mp hb).1
          simp at this
          omega
        have e1 : i - (kvs.map Prod.snd).length = 0 := by rw [List.length_map]; omega
        rw [e0] at hb
        rw [e1] at ht
        cases hb
        cases ht
        exact ⟨[v], hz', .cons rv .nil⟩⟩
  exact ⟨_, rfl, g2, S2⟩
theorem lookup_last {α : Type} {k : Str} {v : α} : ∀ {l : List (Str × α)}, l.lookup k = none → (l ++ [(k, v)]).lookup k = some v
  | [], _ => by simp [List.lookup]
  | (a, b) :: l, h => by
    rw [List.lookup_cons] at h
    rw [List.cons_append, List.lookup_cons]
    cases e : k == a with
    | true => rw [e] at h; cases h
    | false => rw [e] at h; exact lookup_last h
theorem ps_waysA {x y1 y2 z1 z2 : Str} {i d k1 k2 v1 v2 : Nat} {px pw pa1 pc1 py1 py2 pt1 pl pa2 pc2 pz1 pz2 pt2 : Pos} {n1 n2} (f : Cf X n) (hi : X.N[i]? = some x) (hk1 : X.N[k1]? = some y1) (hk2 : X.N[k2]? = some y2) (hv1 : X.N[v1]? = some z1) (hv2 : X.N[v2]? = some z2) (hC : Cls X.K (c d)) (hN : NoAttr X.K (c d) "ways")
    (vx : ∀ q ∈ [x, y1, y2, z1, z2], Vis X.env.scope q ∧ (q == ("__debug__" : Str)) = false ∧ (q == ("__classdict__" : Str)) = false)
    (hb : attributeBase (.Name x px) "ways" X.env (eval (.Name x px) X.env) = eval (.Name x px) X.env := by rfl)
    (m : M2 X (.Attribute (.Name x px) "ways" pw) "setdefault" pa1 (.Tuple [.Name y1 py1, .Name y2 py2] n1 pt1) (.List [] pl) pc1 := by exact ⟨rfl, rfl, rfl, rfl⟩)
    (s1 : starEach [.Name y1 py1, .Name y2 py2] X.env = (false, eval (.Name y1 py1) X.env) :: starEach [.Name y2 py2] X.env := by rfl) (s2 : starEach [.Name y2 py2] X.env = (false, eval (.Name y2 py2) X.env) :: starEach [] X.env := by rfl)
    (s3 : starEach [.Name z1 pz1, .Name z2 pz2] X.env = (false, eval (.Name z1 pz1) X.env) :: starEach [.Name z2 pz2] X.env := by rfl) (s4 : starEach [.Name z2 pz2] X.env = (false, eval (.Name z2 pz2) X.env) :: starEach [] X.env := by rfl)
    (hbase : attributeBase (.Call (.Attribute (.Attribute (.Name x px) "ways" pw) "setdefault" pa1) [.Tuple [.Name y1 py1, .Name y2 py2] n1 pt1, .List [] pl] [] pc1) "append" X.env (eval (.Call (.Attribute (.Attribute (.Name x px) "ways" pw) "setdefault" pa1) [.Tuple [.Name y1 py1, .Name y2 py2] n1 pt1, .List [] pl] [] pc1) X.env) = eval (.Call (.Attribute (.Attribute (.Name x px) "ways" pw) "setdefault" pa1) [.Tuple [.Name y1 py1, .Name y2 py2] n1 pt1, .List [] pl] [] pc1) X.env := by rfl)
    (hfew : ((backTo pc2 (starEach [.Tuple [.Name z1 pz1, .Name z2 pz2] n2 pt2] X.env)).all (fun x => !x.1) && (backToKw pc2 (keywordEach [] X.env)).all (fun x => x.1.isSome) && decide (([.Tuple [.Name z1 pz1, .Name z2 pz2] n2 pt2] : List Expr).length + ([] : List Keyword).length + (if ([] : List Keyword).isEmpty then 0 else 1) < 30)) = true := by rfl)
    (hline : (pa2.endLine == pc2.line) = true := by rfl) (hs : starEach [.Tuple [.Name z1 pz1, .Name z2 pz2] n2 pt2] X.env = (false, eval (.Tuple [.Name z1 pz1, .Name z2 pz2] n2 pt2) X.env) :: starEach [] X.env := by rfl) (hplain : (backTo pc2 (starEach [] X.env)).any (·.1) = false := by rfl)
    (hsw : swapsWith (.Call (.Attribute (.Call (.Attribute (.Attribute (.Name x px) "ways" pw) "setdefault" pa1) [.Tuple [.Name y1 py1, .Name y2 py2] n1 pt1, .List [] pl] [] pc1) "append" pa2) [.Tuple [.Name z1 pz1, .Name z2 pz2] n2 pt2] [] pc2) none pos.line X.env = pure false := by rfl) :
    PS X c (.Expr (.Call (.Attribute (.Call (.Attribute (.Attribute (.Name x px) "ways" pw) "setdefault" pa1) [.Tuple [.Name y1 py1, .Name y2 py2] n1 pt1, .List [] pl] [] pc1) "append" pa2) [.Tuple [.Name z1 pz1, .Name z2 pz2] n2 pt2] [] pc2) pos) (.waysA i d k1 k2 v1 v2) := fun nx rt bk ct ε ρ μ h W σ D Sx l tk => by
  obtain ⟨t, h2, h3⟩ := getK_at h
  obtain ⟨v, h4, h5⟩ := Sx.env i t h2
  cases t with
  | ptr j =>
    obtain ⟨a, rfl, ha⟩ := h5.ptr
    obtain ⟨cl, hc, h30⟩ := celK_at h3
    clear h3
    cases cl with
    | objW e0 fs kvs =>
      obtain ⟨fp, hO, dx, wd, fvs, us, bs, rfl, q1, q2, q3, q4, q5, q6, q7, q8, q9, q10⟩ := cell_at Sx ha hc
      cases hbq : Nat.beq e0 d with
      | false => simp only [hbq] at h30
      | true =>
        simp only [hbq] at h30
        have := Nat.eq_of_beq_eq_true hbq
        subst this
        obtain ⟨tk1, a1, h31⟩ := getK_at h30
        obtain ⟨tk2, a2, h32⟩ := getK_at h31
        obtain ⟨tv1, a3, h33⟩ := getK_at h32
        obtain ⟨tv2, a4, h3⟩ := getK_at h33
        clear h30 h31 h32 h33
        obtain ⟨w1, b1, r1⟩ := Sx.env k1 tk1 a1
        obtain ⟨w2, b2, r2⟩ := Sx.env k2 tk2 a2
        obtain ⟨w3, b3, r3⟩ := Sx.env v1 tv1 a3
        obtain ⟨w4, b4, r4⟩ := Sx.env v2 tv2 a4
        cases hkey : Ir.isKey true (.tup [tk1, tk2]) with
        | false => rw [hkey] at h3; exact h3.elim
        | true =>
          rw [hkey] at h3
          dsimp only at h3
          obtain ⟨rv34, h3⟩ := (Rps.cons r3 (.cons r4 .nil)).rvs h3
          obtain ⟨hz, hlen, h3⟩ := Ir.szK_le h3
          have hkk : [tk1, tk2].all Ir.isAt = true := hkey
          have hk12 : Ir.isAt tk1 = true ∧ Ir.isAt tk2 = true := by simpa [Bool.and_eq_true] using hkk
          have rv1 : Rv (XB X c) W.H W.F w1 tk1 := r1.rv fun i e => by subst e; exact absurd hk12.1 Bool.false_ne_true
          have rv2 : Rv (XB X c) W.H W.F w2 tk2 := r2.rv fun i e => by subst e; exact absurd hk12.2 Bool.false_ne_true
          have e1 := kV_rv hk12.1 rv1
          have e2 := kV_rv hk12.2 rv2
          have ekt : kTs [trK tk1, trK tk2] = .tup [tk1, tk2] := kTs_trK (ts := [tk1, tk2]) hkk
          have hul : us.length = kvs.length := by have := congrArg List.length q6; simpa using this
          have nd2 := nd_each Sx.nd hO
          have vis := fun q hq => (vx q hq)
          refine ws_expr (we_append (we_setdT f.hu1 (we_fld (WE.of (pe_var hi (vis x (by simp)).1 (vis x (by simp)).2.1 (vis x (by simp)).2.2) ⟨_, h4, a, _, dx, _, .ref wd, rfl, q1, hC, hN, ?_, wd, rfl, .inr ⟨us, .of q5⟩, we_tup (wa_cons (WE.of (pe_var hk1 (vis y1 (by simp)).1 (vis y1 (by simp)).2.1 (vis y1 (by simp)).2.2) ⟨_, b1, wa_cons (WE.of (pe_var hk2 (vis y2 (by simp)).1 (vis y2 (by simp)).2.1 (vis y2 (by simp)).2.2) ⟨_, b2, wa_nil ⟨sz_le (Nat.le_of_ble_eq_true rfl), fun b hb0 => we_lst (wa_nil ⟨sz_le (Nat.zero_le _), fun z hz0 => ?_⟩)⟩⟩) s2⟩) s1)⟩) hb) m) hbase hfew hline hs hplain) hsw
          · exact lookup_last (putF_new (v := .ref wd) q3 q8).2
          · have nb : ∀ {y : Addr} {o : HO}, W.H y = some o → y ≠ b := fun h e => by rw [e, hb0] at h; cases h
            have hz1 : W.H z = none := by
              by_cases e : z = b
              · rw [e]; exact hb0
              · rw [upd_ne e] at hz0; exact hz0
            have hzb : z ≠ b := fun e => by rw [e, upd_same] at hz0; cases hz0
            have nz : ∀ {y : Addr} {o : HO}, W.H y = some o → y ≠ z := fun h e => by rw [e, hz1] at h; cases h
            have ext2 : ∀ y, W.H y ≠ none → upd (upd W.H b (.tup [w1, w2])) z (.lst []) y = W.H y := fun y hy => by
              have y1 : y ≠ b := fun e => hy (by rw [e]; exact hb0)
              have y2 : y ≠ z := fun e => hy (by rw [e]; exact hz1)
              rw [upd_ne y2, upd_ne y1]
            have some_ne : ∀ {x : Addr} {o : HO}, W.H x = some o → W.H x ≠ none := fun h z => by rw [z] at h; cases h
            have tx2 : TEx W.H (upd (upd W.H b (.tup [w1, w2])) z (.lst [])) := fun y ys hy => (ext2 y (some_ne hy)).trans hy
            refine ⟨us, [trK tk1, trK tk2], b, (ext2 wd (some_ne q5)).trans q5, rfl, ?_, by rw [hul]; exact sz_lt (by omega), fun v hv => ?_, fun hv => ?_⟩
            · rw [upd_ne hzb.symm, upd_same, e1, e2]; rfl
            · obtain ⟨ix, hix⟩ := valV_at hv
              have hvb : (us.map Prod.snd)[ix]? = some v := by rw [List.getElem?_map, hix]; rfl
              rw [q7, List.getElem?_map] at hvb
              cases hbx : bs[ix]? with
              | none => rw [hbx] at hvb; cases hvb
              | some l0 =>
                rw [hbx] at hvb
                cases hvb
                have hixk : ix < kvs.length := by rw [← hul]; exact (List.getElem?_eq_some_iff.mp hix).1
                have hk0 : (kvs.map Prod.snd)[ix]? = some kvs[ix].2 := by rw [List.getElem?_map, List.getElem?_eq_getElem hixk]; rfl
                have hkf : kvs[ix].1 = .tup [tk1, tk2] := by
                  have z : (us.map fun p => kTs p.1)[ix]? = (kvs.map Prod.fst)[ix]? := by rw [q6]
                  rw [List.getElem?_map, List.getElem?_map, hix, List.getElem?_eq_getElem hixk] at z
                  exact (Option.some.inj z).symm.trans ekt
                obtain ⟨vs, p1, p2⟩ := q10 ix l0 _ hbx hk0
                have hlv : vs.length < 1000000 := by
                  rw [p2.length]
                  exact hlen _ (by rw [← hkf]; exact List.getElem_mem hixk)
                refine ⟨l0, vs, rfl, (ext2 l0 (some_ne p1)).trans p1, we_tup (wa_cons (WE.of (pe_var hv1 (vis z1 (by simp)).1 (vis z1 (by simp)).2.1 (vis z1 (by simp)).2.2) ⟨_, b3, wa_cons (WE.of (pe_var hv2 (vis z2 (by simp)).1 (vis z2 (by simp)).2.1 (vis z2 (by simp)).2.2) ⟨_, b4, wa_nil ⟨sz_le (Nat.le_of_ble_eq_true rfl), fun t0 ht0 => ?_⟩⟩) s4⟩) s3)⟩
                have ht1 : W.H t0 = none := by
                  cases e : W.H t0 with
                  | none => rfl
                  | some o => rw [ext2 t0 (some_ne e), e] at ht0; cases ht0
                have hl0 : l0 ≠ t0 := fun e => by rw [← e, p1] at ht1; cases ht1
                refine ⟨vs, (upd_ne hl0).trans ((ext2 l0 (some_ne p1)).trans p1), hlv, ?_⟩
                have tx3 := tx2.trans (tex_new (o := .tup [w3, w4]) ht0)
                have tx4 := tx3.trans (tex_nt (o := .lst (vs ++ [.ref t0])) ((upd_ne hl0).trans ((ext2 l0 (some_ne p1)).trans p1)) True.intro)
                obtain ⟨W', eH, g2, S2⟩ := Sx.waysU (t := .tup [tv1, tv2]) (v := .ref t0) ha hO q1 q2 q3 q4 q5 q6 q7 q8 q9 q10 hix p1 (H' := upd (upd (upd (upd W.H b (.tup [w1, w2])) z (.lst [])) t0 (.tup [w3, w4])) l0 (.lst (vs ++ [.ref t0]))) (fun y hy hyn => by
                    rw [upd_ne hy, upd_ne (fun e => hyn (by rw [e]; exact ht1)), ext2 y hyn]) upd_same tx4 (.tup (by
                    show upd _ l0 _ t0 = _
                    rw [upd_ne hl0.symm, upd_same]) (rv34.mono tx4 (Ex.refl _)))
                rw [← eH]
                rw [ekt] at S2
                exact l.nx W' σ ρ _ g2 S2 (cputK_at h3)
            · obtain ⟨hk0, epk⟩ := putK_none (v := V.ref z) hv
              rw [epk]
              have hzw : z ≠ wd := (nz q5).symm
              have hbw : b ≠ wd := (nb q5).symm
              refine ⟨z, [], rfl, (upd_ne hzw).trans upd_same, we_tup (wa_cons (WE.of (pe_var hv1 (vis z1 (by simp)).1 (vis z1 (by simp)).2.1 (vis z1 (by simp)).2.2) ⟨_, b3, wa_cons (WE.of (pe_var hv2 (vis z2 (by simp)).1 (vis z2 (by simp)).2.1 (vis z2 (by simp)).2.2) ⟨_, b4, wa_nil ⟨sz_le (Nat.le_of_ble_eq_true rfl), fun t0 ht0 => ?_⟩⟩) s4⟩) s3)⟩
              have htw : t0 ≠ wd := fun e => by rw [e, upd_same] at ht0; cases ht0
              have ht2 : upd (upd W.H b (.tup [w1, w2])) z (.lst []) t0 = none := by rw [upd_ne htw] at ht0; exact ht0
              have htz : t0 ≠ z := fun e => by rw [e, upd_same] at ht2; cases ht2
              have ht1 : W.H t0 = none := by
                cases e : W.H t0 with
                | none => rfl
                | some o => rw [ext2 t0 (some_ne e), e] at ht2; cases ht2
              refine ⟨[], (upd_ne htz.symm).trans ((upd_ne hzw).trans upd_same), by decide, ?_⟩
              have tx3 := tx2.trans (tex_nt (o := .dT (us ++ [([trK tk1, trK tk2], .ref z)])) ((ext2 wd (some_ne q5)).trans q5) True.intro)
              have tx4 := tx3.trans (tex_new (o := .tup [w3, w4]) ht0)
              have tx5 := tx4.trans (tex_nt (o := .lst [.ref t0]) ((upd_ne htz.symm).trans ((upd_ne hzw).trans upd_same)) True.intro)
              obtain ⟨W', eH, g2, S2⟩ := Sx.waysN (t := .tup [tv1, tv2]) (v := .ref t0) ha hO q1 q2 q3 q4 q5 q6 q7 q8 q9 q10 hk0 hz1 (H' := upd (upd (upd (upd (upd W.H b (.tup [w1, w2])) z (.lst [])) wd (.dT (us ++ [([trK tk1, trK tk2], .ref z)]))) t0 (.tup [w3, w4])) z (.lst [.ref t0])) (fun y hy hyn => by
                    rw [upd_ne (fun e => hyn (by rw [e]; exact hz1)), upd_ne (fun e => hyn (by rw [e]; exact ht1)), upd_ne hy, ext2 y hyn]) ((upd_ne hzw.symm).trans ((upd_ne htw.symm).trans upd_same)) upd_same tx5 (.tup (by
                    show upd _ z _ t0 = _
                    rw [upd_ne htz, upd_same]) (rv34.mono tx5 (Ex.refl _)))
              rw [List.nil_append, ← eH]
              rw [ekt] at S2
              exact l.nx W' σ ρ _ g2 S2 (cputK_at h3)
    | _ => exact h30.elim
  | _ => exact h3.elim
end
end Is

/-! Ix: dict comprehensions. -/
namespace Is
open PySem PySem.Spec PyProof.Rows L2 Wx
open Ir (Tr Cel Mem Ev EK SK EX Con Tg Op Cm I Sm wp wps)
section
variable {X : Cx} {c : Nat → Addr} {n : Nat} {pos : Pos}
theorem putT_len (kvs : List (Tr × Tr)) (x y : Tr) : (Ir.putT kvs x y).length ≤ kvs.length + 1 := by
  unfold Ir.putT
  split
  · rw [List.length_map]; omega
  · rw [List.length_append]; simp
theorem dc_go {kx vx tg iter : Expr} {scope : Scope} {own : List (Str × Nat)} {g : Tg} {i ke ve : I} (hi : PIt X c tg iter i)
    (hg : ∀ s H0 C cl fp, PGt (Bk X scope s H0 C cl fp) c tg g) (hgs : ∀ j ∈ slots g, j ∈ own.map (·.2)) (hk : ∀ s H0 C cl fp, PJ (Bk X scope s H0 C cl fp) c kx ke) (he : ∀ s H0 C cl fp, PJ (Bk X scope s H0 C cl fp) c vx ve)
    {ρ μ φ ε} (hw : wp (.dcomp false g (own.map (·.2)) i ke ve) ρ μ φ ε) {W : Wd} {σ : L2.St} {Q : VK} (Sx : Sa (XB X c) W σ ρ μ)
    (k : ∀ W' p us kvs μ', Go W W' → Sa (XB X c) W' σ ρ μ' → W'.H p = none → us.map (fun q => kTr q.1) = kvs.map Prod.fst → Rvs (XB X c) W'.H W'.F (us.map Prod.snd) (kvs.map Prod.snd) → φ (.dic false kvs) μ' → Q (.ref p) (upd W'.H p (.dK us))) (tk : Takes X (xW (XB X c) W σ ρ ε)) :
    tDc (WI X tg iter) (gB X scope tg) tYes (eB X scope kx) (eB X scope vx) (own.map (·.2)) σ W.H Q := by
  refine hi ρ μ (fun ts μ => Ir.szK ts.length (Ir.dcompK false (fun t μ k => Ir.tgK g t (Ir.wipeE ρ (own.map (·.2))) fun ρ => wp ke ρ μ (fun x μ => wp ve ρ μ (fun y μ => match y with | .ptr _ => False | y => k x y μ) (fun _ _ => False)) (fun _ _ => False)) ts [] μ fun kvs μ => φ (.dic false kvs) μ)) ε hw W σ _ Sx (fun W1 J ts μ1 g1 S1 wk h1 => ?_) tk
  obtain ⟨hz, h1⟩ := Ir.szK_le h1
  intro D hD
  have hG1 := S1.gnone hD
  obtain ⟨f0, S0⟩ := S1.fill0 (o := .dK []) hD
  refine ⟨fun i m H => ∃ W2 μ2 us kvs, W2.H = H ∧ Fill W1 W2 D (.dK us) ∧ Sa (XB X c) W2 σ ρ μ2 ∧ us.map (fun q => kTr q.1) = kvs.map Prod.fst ∧ Rvs (XB X c) W2.H W2.F (us.map Prod.snd) (kvs.map Prod.snd) ∧ kvs.length ≤ i ∧ i + m = ts.length ∧ Ir.dcompK false (fun t μ k => Ir.tgK g t (Ir.wipeE ρ (own.map (·.2))) fun ρ => wp ke ρ μ (fun x μ => wp ve ρ μ (fun y μ => match y with | .ptr _ => False | y => k x y μ) (fun _ _ => False)) (fun _ _ => False)) (ts.drop i) kvs μ2 fun kvs μ => φ (.dic false kvs) μ, ⟨ts.length, _, μ1, [], [], rfl, f0, S0, rfl, .nil, Nat.le_refl _, Nat.zero_add _, h1⟩, fun i m H hW => ?_⟩
  obtain ⟨W2, μ2, us, kvs, rfl, fl, S2, ek, r2, hl2, hm, hk1⟩ := hW
  obtain ⟨w1, w2, w3⟩ := wk W2 σ ρ μ2 fl.g.gf S2
  have hDl := S2.gh D _ fl.G
  have hul : us.length = kvs.length := by have := congrArg List.length ek; simpa using this
  by_cases hi' : i < ts.length
  · refine .inr ⟨w1 i hi', fun H' => ∃ W2 μ2 us kvs, W2.H = H' ∧ Fill W1 W2 D (.dK us) ∧ Sa (XB X c) W2 σ ρ μ2 ∧ us.map (fun q => kTr q.1) = kvs.map Prod.fst ∧ Rvs (XB X c) W2.H W2.F (us.map Prod.snd) (kvs.map Prod.snd) ∧ kvs.length ≤ i + 1 ∧ Ir.dcompK false (fun t μ k => Ir.tgK g t (Ir.wipeE ρ (own.map (·.2))) fun ρ => wp ke ρ μ (fun x μ => wp ve ρ μ (fun y μ => match y with | .ptr _ => False | y => k x y μ) (fun _ _ => False)) (fun _ _ => False)) (ts.drop (i + 1)) kvs μ2 fun kvs μ => φ (.dic false kvs) μ, fun H' ⟨W3, μ3, us3, kvs3, e1, e2, e3, e4, e5, e6, e7⟩ => ⟨m - 1, by omega, W3, μ3, us3, kvs3, e1, e2, e3, e4, e5, e6, by omega, e7⟩, fun x H' hy => ?_⟩
    obtain ⟨t, W3, htt, rfl, g3, S3, rt⟩ := w3 i x H' hi' hy
    rw [List.drop_eq_getElem_cons hi', show ts[i] = t from (List.getElem?_eq_some_iff.mp htt).2] at hk1
    rw [Ir.dcompK_cons] at hk1
    have fl3 := fl.go g3
    have r3 := r2.mono g3.t g3.f
    intro s H0 C cl fp
    refine hg s H0 C cl fp (Ir.wipeE ρ (own.map (·.2))) μ2 t _ hk1 W3 _ x _ (S3.wiped _) (.inl rt) fun σ4 ρ4 S4 e4 l4 h4 => ⟨?_, ?_⟩
    · rw [wipe_length] at l4
      exact wipe_eq l4 fun j hj => (e4 j fun hs => hj (hgs j hs)).trans (wipe_out hj)
    · unfold tYes
      dsimp only
      rw [if_pos rfl]
      intro s H0 C cl fp
      refine hk s H0 C cl fp ρ4 μ2 _ _ h4 W3 σ4 _ S4 (fun W5 v5 t5 μ5 g5 S5 r5 h5 => ?_) tk_no
      intro s H0 C cl fp
      refine he s H0 C cl fp ρ4 μ5 _ _ h5 W5 σ4 _ S5 (fun W6 v6 t6 μ6 g6 S6 r6 h6 => ?_) tk_no
      have fl6 := (fl3.go g5).go g6
      have hn : ∀ j, t6 ≠ .ptr j := fun j e => by subst e; exact h6
      have h6' : Ir.isKey false t5 = true ∧ Ir.dcompK false (fun t μ k => Ir.tgK g t (Ir.wipeE ρ (own.map (·.2))) fun ρ => wp ke ρ μ (fun x μ => wp ve ρ μ (fun y μ => match y with | .ptr _ => False | y => k x y μ) (fun _ _ => False)) (fun _ _ => False)) (ts.drop (i + 1)) (Ir.putT kvs t5 t6) μ6 fun kvs μ => φ (.dic false kvs) μ := by
        cases t6 <;> first | exact h6 | exact h6.elim
      have rv6 := r6.rv hn
      have hat : Ir.isAt t5 = true := by
        have := h6'.1
        cases t5 <;> first | rfl | exact absurd this Bool.false_ne_true
      have rv5 : Rv (XB X c) W5.H W5.F v5 t5 := r5.rv fun j e => by subst e; exact absurd hat Bool.false_ne_true
      refine ⟨us, trK t5, kV_rv hat rv5, S6.gh D _ fl6.G, sz_lt (by omega), ?_⟩
      obtain ⟨f7, t7, S7⟩ := S6.fill1 (u := .dK (L2.putK us (trK t5) v6)) fl6 True.intro hG1
      have r6' := (r3.mono g5.t g5.f).mono g6.t g6.f
      obtain ⟨p1, p2⟩ := putT_put kTr_eqT (trK t5) ek r6' rv6
      rw [kTr_trK hat] at p1 p2
      have := putT_len kvs t5 t6
      exact ⟨_, μ6, _, Ir.putT kvs t5 t6, rfl, f7, S1.env' S7 f7.g, p1, p2.mono t7 (Ex.refl _), by omega, h6'.2⟩
  · have e : i = ts.length := by omega
    subst e
    refine .inl ⟨w2, ?_⟩
    rw [List.drop_of_length_le (Nat.le_refl _)] at hk1
    rw [Ir.dcompK_nil] at hk1
    have hk1 : φ (.dic false kvs) μ2 := hk1
    obtain ⟨g3, t3, S3⟩ := S2.fill2 fl True.intro hG1
    have := k _ D us kvs μ2 (g1.trans g3) (S1.env' S3 g3) delH_same ek (r2.mono t3 (Ex.refl _)) hk1
    rw [show upd ({ W2 with G := delH W2.G D, H := delH W2.H D } : Wd).H D (.dK us) = W2.H from upd_del hDl] at this
    exact this
theorem pn_dc {kx vx tg iter : Expr} {scope : Scope} {own : List (Str × Nat)} {vs : List Nat} {g : Tg} {i ke ve : I} (f : Cf X n) (ok : BlkOk X.N X.env.scope scope own) (hvs : vs = own.map (·.2)) (hgs : ∀ j ∈ slots g, j ∈ vs) (hi : PIt X c tg iter i) (hg : ∀ s H0 C cl fp, PGt (Bk X scope s H0 C cl fp) c tg g)
    (hk : ∀ s H0 C cl fp, PJ (Bk X scope s H0 C cl fp) c kx ke) (he : ∀ s H0 C cl fp, PJ (Bk X scope s H0 C cl fp) c vx ve) (hs : nofold iter X.env := by intro _; rfl) : PN X c (.DictComp kx vx [⟨tg, iter, [], 0⟩] scope pos) (.dcomp false g vs i ke ve) := fun ρ μ φ ε hw W σ Q Sx k k2 k3 tk => by
  subst hvs
  exact WE.of (pe_dcB f.calm f.nd pi_w ok hs) (dc_go hi hg hgs hk he hw Sx k2 tk)
theorem nq_dc {kx vx tg iter : Expr} {scope : Scope} {own : List (Str × Nat)} {g : Tg} {i ke ve : I} (hgs : ∀ j ∈ slots g, j ∈ own.map (·.2)) (hi : PIt X c tg iter i) (hg : ∀ s H0 C cl fp, PGt (Bk X scope s H0 C cl fp) c tg g)
    (hk : ∀ s H0 C cl fp, PJ (Bk X scope s H0 C cl fp) c kx ke) (he : ∀ s H0 C cl fp, PJ (Bk X scope s H0 C cl fp) c vx ve) : PNq X c (tDc (WI X tg iter) (gB X scope tg) tYes (eB X scope kx) (eB X scope vx) (own.map (·.2))) (.dcomp false g (own.map (·.2)) i ke ve) := fun ρ μ φ ε hw W σ Q Sx k k2 k3 tk =>
  dc_go hi hg hgs hk he hw Sx k2 tk
/-- the swapped store of a dict: read off the comprehension's own run -/
theorem st_dc {i : Nat} {y : Str} {py : Pos} {kx vx tg iter : Expr} {scope : Scope} {own : List (Str × Nat)} {pos spos : Pos} {wi : TI} (hc : X.calm = true) (hN : X.N.Nodup) (hy : X.N[i]? = some y) (hyl : X.env.scope.names.lookup y = some .local)
    (hsw : swapsWith (.DictComp kx vx [⟨tg, iter, [], 0⟩] scope pos) (some (.Name y py)) spos.line X.env = pure true) (hi : PI X tg iter wi) (ok : BlkOk X.N X.env.scope scope own) (hs : nofold iter X.env) :
    L2.PS X (.Assign [.Name y py] (.DictComp kx vx [⟨tg, iter, [], 0⟩] scope pos) spos) (tAsg (tDc wi (gB X scope tg) tYes (eB X scope kx) (eB X scope vx) (own.map (·.2))) (gName i)) := by
  refine ⟨fun pins s σ H D I h => ?_⟩
  rw [exec_Assign_Name_used _ _ _ _ hsw]
  refine wpAny_bind (wpAny_standAt (wpAny_bind ?_))
  show wpAny _ X.A (do let _ ← comprehension (.DictComp kx vx [⟨tg, iter, [], 0⟩] scope pos) scope X.env (firstIterPos [⟨tg, iter, [], 0⟩] pos) newDict false (eval iter X.env) (some (assign (.Name y py) X.env))) _ _ s
  have h' : tDc wi (gB X scope tg) tYes (eB X scope kx) (eB X scope vx) (own.map (·.2)) σ H (fun x H1 => gName i x σ H1 D.nx) := h
  refine wpAny_bind (thn (dc_core (Qf := fun _ s' => SP X pins D .next s') hc hN I hi ok (fun s H0 C cl fp => ⟨fun pins s' σ H v u Q I r h => pg_w.run pins s' σ H v u Q I r (h s H0 C cl fp)⟩) (fun _ _ _ _ _ => pts_nil) (fun s H0 C cl fp => ⟨fun pins s' σ H Q I h => pe_w.run pins s' σ H Q I (h s H0 C cl fp)⟩)
    (fun s H0 C cl fp => ⟨fun pins s' σ H Q I h => pe_w.run pins s' σ H Q I (h s H0 C cl fp)⟩) hs h' fun L C s1 m H1 I1 q hn f => ?_) fun _ s' hq => wpAny_pure (wpAny_pure hq))
  show wpAny _ _ (assign (.Name y py) X.env (.ref L)) _ _ _
  refine wpAny_assign_Name (store_ok2 (v := V.ref L) I1 hN hy (.inl hyl) rfl (fun s2 I2 ⟨a, sb, ha⟩ => ?_) (.inr hyl))
  obtain ⟨f0, f1, f2, f3, f4, f5⟩ := f
  have haC : C ≠ a := ha.elim (fun z => by rw [z]; exact f1) (fun z e => f4 y a z e.symm)
  exact ⟨m, hn.sameBut sb haC, fun h3 sb3 => ⟨_, H1, I2.turned (t' := s2.toks) (fun b o hb e => (sb3.2 b hb).trans e) f0 f1 f3 f4 f5, q⟩⟩
theorem ps_setDC {y : Str} {py spos : Pos} {i0 : Nat} {kx vx tg iter : Expr} {scope : Scope} {own : List (Str × Nat)} {vs : List Nat} {g : Tg} {i ke ve b : I} (f : Cf X n) (hy : X.N[i0]? = some y) (ok : BlkOk X.N X.env.scope scope own) (hvs : vs = own.map (·.2)) (hgs : ∀ j ∈ slots g, j ∈ vs) (hi : PIt X c tg iter i) (hg : ∀ s H0 C cl fp, PGt (Bk X scope s H0 C cl fp) c tg g)
    (hk : ∀ s H0 C cl fp, PJ (Bk X scope s H0 C cl fp) c kx ke) (he : ∀ s H0 C cl fp, PJ (Bk X scope s H0 C cl fp) c vx ve) (hb : b = .dcomp false g vs i ke ve ∨ b = .ow (.dcomp false g vs i ke ve)) (hyl : X.env.scope.names.lookup y = some .local := by rfl) (hsw : swapsWith (.DictComp kx vx [⟨tg, iter, [], 0⟩] scope pos) (some (.Name y py)) spos.line X.env = pure true := by rfl) (hs : nofold iter X.env := by intro _; rfl) :
    PS X c (.Assign [.Name y py] (.DictComp kx vx [⟨tg, iter, [], 0⟩] scope pos) spos) (.asg (.nm i0) b) := by
  subst hvs
  exact ps_setN (st_dc f.calm f.nd hy hyl hsw pi_w ok hs) (nq_dc hgs hi hg hk he) hb
end
end Is

/-! Iy: sorted. -/
namespace Is
open PySem PySem.Spec PyProof.Rows L2 Wx
open Ir (Tr Cel Mem Ev EK SK EX Con Tg Op Cm I Sm wp wps)
def atD : Int ⊕ List Nat → PyData
  | .inl i => .int i
  | .inr l => .str (S l)
def tuD (k : List (Int ⊕ List Nat)) : PyData := .tuple (k.map atD)
section
variable {B : Bs} {H F : Hp}
theorem im_at {v : V} : ∀ {k : Int ⊕ List Nat}, Rv B H F v (Ir.atmT k) → Im H v (atD k)
  | .inl i, r => by cases r; exact .int i
  | .inr l, r => by cases r; exact .str _
theorem im_ats : ∀ {k : List (Int ⊕ List Nat)} {vs : List V}, Rvs B H F vs (k.map Ir.atmT) → ImAll H vs (k.map atD)
  | [], _, .nil => .nil
  | _ :: _, _, .cons a b => .cons (im_at a) (im_ats b)
theorem im_tus : ∀ {ks : List (List (Int ⊕ List Nat))} {vs : List V}, Rvs B H F vs (ks.map fun k => Tr.tup (k.map Ir.atmT)) → ImAll H vs (ks.map tuD)
  | [], _, .nil => .nil
  | _ :: _, _, .cons a b => .cons (by cases a with | tup h hs => exact .tup h (im_ats hs)) (im_tus b)
theorem im_strs : ∀ {ls : List (List Nat)} {vs : List V}, Rvs B H F vs (ls.map Tr.str) → ImAll H vs (ls.map fun l => PyData.str (S l))
  | [], _, .nil => .nil
  | _ :: _, _, .cons a b => .cons (by cases a; exact .str _) (im_strs b)
theorem rv_at {v : V} : ∀ {k : Int ⊕ List Nat}, Im H v (atD k) → Rv B H F v (Ir.atmT k)
  | .inl i, r => by cases r; exact .int i
  | .inr l, r => by cases r; exact .str _
theorem rv_ats : ∀ {k : List (Int ⊕ List Nat)} {vs : List V}, ImAll H vs (k.map atD) → Rvs B H F vs (k.map Ir.atmT)
  | [], _, .nil => .nil
  | _ :: _, _, .cons a b => .cons (rv_at a) (rv_ats b)
theorem rv_tus : ∀ {ks : List (List (Int ⊕ List Nat))} {vs : List V}, ImAll H vs (ks.map tuD) → Rvs B H F vs (ks.map fun k => Tr.tup (k.map Ir.atmT))
  | [], _, .nil => .nil
  | _ :: _, _, .cons a b => .cons (by cases a with | tup h hs => exact .tup h (rv_ats hs)) (rv_tus b)
theorem rv_strs : ∀ {ls : List (List Nat)} {vs : List V}, ImAll H vs (ls.map fun l => PyData.str (S l)) → Rvs B H F vs (ls.map Tr.str)
  | [], _, .nil => .nil
  | _ :: _, _, .cons a b => .cons (by cases a; exact .str _) (rv_strs b)
end
/-! the order -/
theorem srtD_map {α : Type} (f : α → PyData) (l : List α) : srtD (l.map f) = (l.mergeSort (PySem.W.dataLe false f)).map f := by
  unfold srtD
  rw [List.map_mergeSort (r := PySem.W.dataLe false f) (s := PySem.W.dataLe false id) (f := f) (l := l) (fun a _ b _ => rfl)]
theorem srt_pw {α : Type} (f : α → PyData) (l : List α) : (l.mergeSort (PySem.W.dataLe false f)).Pairwise fun a b => PyProof.Rows.lexLt itemOrd (PySem.W.keyToks (f b)) (PySem.W.keyToks (f a)) = false := by
  have h := List.pairwise_mergeSort (le := PySem.W.dataLe false f) (fun a b c => (PySem.W.sortLe_total _ false _).trans a b c) (fun a b => by
    have := (PySem.W.sortLe_total (listOrd itemOrd) false fun b => PySem.W.keyToks (f b)).total a b
    simpa [PySem.W.dataLe] using this) l
  refine h.imp fun {a b} hab => ?_
  have : (!PyProof.Rows.lexLt itemOrd (PySem.W.keyToks (f b)) (PySem.W.keyToks (f a))) = true := hab
  simpa using this
theorem lex_str {a b : List Nat} (h : PyProof.Rows.lexLt itemOrd (PySem.W.keyToks (PyData.str (S b))) (PySem.W.keyToks (PyData.str (S a))) = false) : ¬ b < a := by
  intro hlt
  unfold PySem.W.keyToks at h
  rw [S_list, S_list] at h
  unfold PyProof.Rows.lexLt at h
  have : itemLt (Sum.inr b) (Sum.inr a) = true := decide_eq_true hlt
  simp [this] at h
theorem lex_tu : ∀ {a b : List (Int ⊕ List Nat)}, a.map Sum.isLeft = b.map Sum.isLeft → PyProof.Rows.lexLt itemOrd (PySem.W.keyToksAll (b.map atD)) (PySem.W.keyToksAll (a.map atD)) = false → Ir.lexA a b = true
  | [], _, _, _ => rfl
  | _ :: _, [], e, _ => by cases e
  | .inl i :: as, .inl j :: bs, e, h => by
    have e2 : as.map Sum.isLeft = bs.map Sum.isLeft := by injection e
    have ih := @lex_tu as bs e2
    show (decide (i < j) || (decide (i = j) && Ir.lexA as bs)) = true
    simp only [List.map_cons, PySem.W.keyToksAll, atD, PySem.W.keyToks, List.singleton_append, PyProof.Rows.lexLt] at h
    by_cases h1 : i < j
    · simp [h1]
    · by_cases h2 : j < i
      · simp [itemLt, h2] at h
      · have : i = j := by omega
        subst this
        simp [itemLt] at h
        simp [ih h]
  | .inr i :: as, .inr j :: bs, e, h => by
    have e2 : as.map Sum.isLeft = bs.map Sum.isLeft := by injection e
    have ih := @lex_tu as bs e2
    show (decide (i < j) || (decide (i = j) && Ir.lexA as bs)) = true
    simp only [List.map_cons, PySem.W.keyToksAll, atD, PySem.W.keyToks, List.singleton_append, PyProof.Rows.lexLt, S_list] at h
    by_cases h1 : i < j
    · simp [h1]
    · by_cases h2 : j < i
      · simp [itemLt, h2] at h
      · have : i = j := List.le_antisymm (List.not_lt.mp h2) (List.not_lt.mp h1)
        subst this
        simp [itemLt, List.lt_irrefl] at h
        simp [ih h]
  | .inl i :: as, .inr j :: bs, e, h => by cases e
  | .inr i :: as, .inl j :: bs, e, h => by cases e
theorem alike_at : ∀ {a b : List (Int ⊕ List Nat)}, a.map Sum.isLeft = b.map Sum.isLeft → PySem.W.alikeAll (a.map atD) (b.map atD) = true
  | [], _, _ => by unfold PySem.W.alikeAll; rfl
  | _ :: _, [], e => by cases e
  | .inl i :: as, .inl j :: bs, e => by
    have e2 : as.map Sum.isLeft = bs.map Sum.isLeft := by injection e
    simp [PySem.W.alikeAll, PySem.W.alike, atD, alike_at e2]
  | .inr i :: as, .inr j :: bs, e => by
    have e2 : as.map Sum.isLeft = bs.map Sum.isLeft := by injection e
    simp [PySem.W.alikeAll, PySem.W.alike, atD, alike_at e2]
  | .inl i :: as, .inr j :: bs, e => by cases e
  | .inr i :: as, .inl j :: bs, e => by cases e
theorem tus_alike {ks : List (List (Int ⊕ List Nat))} {pat : List Bool} (h : ∀ k ∈ ks, k.map Sum.isLeft = pat) : PySem.W.AllAlike (ks.map tuD) := fun d hd d' hd' => by
  obtain ⟨a, ha, rfl⟩ := List.mem_map.mp hd
  obtain ⟨b, hb, rfl⟩ := List.mem_map.mp hd'
  show PySem.W.alikeAll (a.map atD) (b.map atD) = true
  exact alike_at ((h a ha).trans (h b hb).symm)
theorem tus_sortable {ks : List (List (Int ⊕ List Nat))} {pat : List Bool} (hp : pat ≠ []) (h : ∀ k ∈ ks, k.map Sum.isLeft = pat) : PySem.W.Sortable (ks.map tuD) := .inl fun d hd => by
  obtain ⟨a, ha, rfl⟩ := List.mem_map.mp hd
  cases a with
  | nil => exact absurd (h _ ha).symm hp
  | cons x r => exact ⟨_, _, rfl⟩
end Is

/-! Iz: sorted as a rule; items; drawn numbers. -/
namespace Is
open PySem PySem.Spec PyProof.Rows L2 Wx
open Ir (Tr Cel Mem Ev EK SK EX Con Tg Op Cm I Sm wp wps)
theorem ltCps_iff : ∀ (a b : List Nat), ltCps a b = true ↔ a < b
  | [], [] => by simp [ltCps]
  | [], b :: bs => by simp [ltCps]
  | a :: as, [] => by simp [ltCps]
  | a :: as, b :: bs => by
    rw [List.cons_lt_cons_iff, ← ltCps_iff as bs]
    simp [ltCps]
theorem rising_pw : ∀ (p : Str) (l : List Str), risingS p l = true → (p :: l).Pairwise fun a b => ¬ b.cps.toList < a.cps.toList
  | p, [], _ => by simp
  | p, x :: r, h => by
    unfold risingS at h
    rw [Bool.and_eq_true] at h
    have h1 : ¬ x.cps.toList < p.cps.toList := fun hl => by
      have := (ltCps_iff _ _).mpr hl
      rw [this] at h
      exact absurd h.1 (by simp)
    have ih := rising_pw x r h.2
    refine List.Pairwise.cons (fun y hy => ?_) ih
    rcases List.mem_cons.mp hy with rfl | hy
    · exact h1
    · have h2 := (List.pairwise_cons.mp ih).1 y hy
      intro hlt
      exact h2 (Std.lt_of_lt_of_le hlt (List.not_lt.mp h1))
theorem sortedS_pw (l : List Str) (h : sortedS l = true) : l.Pairwise fun a b => ¬ b.cps.toList < a.cps.toList := by
  cases l with
  | nil => exact List.Pairwise.nil
  | cons x r => exact rising_pw x r h
theorem depth_ats : ∀ (k : List (Int ⊕ List Nat)), PyData.depthAll (k.map atD) ≤ 1
  | [] => by simp [PyData.depthAll]
  | .inl i :: k => by simpa [PyData.depthAll, PyData.depth, atD] using depth_ats k
  | .inr i :: k => by simpa [PyData.depthAll, PyData.depth, atD] using depth_ats k
theorem depth_tu (k : List (Int ⊕ List Nat)) : (tuD k).depth ≤ 64 := by
  have := depth_ats k
  show PyData.depthAll (k.map atD) + 1 ≤ 64
  omega
theorem key_atm (k : Key) : ∃ a : Int ⊕ List Nat, Ir.atmT a = kTr k ∧ atD a = keyD k := by
  cases k with
  | inl i => exact ⟨.inl i, rfl, rfl⟩
  | inr x => exact ⟨.inr x.cps.toList, rfl, by show PyData.str (S x.cps.toList) = .str x; rw [← S_eq]⟩
theorem map_inj_of {α β : Type} {f : α → β} (hf : ∀ a b, f a = f b → a = b) : ∀ {l m : List α}, l.map f = m.map f → l = m
  | [], [], _ => rfl
  | [], _ :: _, e => by cases e
  | _ :: _, [], e => by cases e
  | a :: l, b :: m, e => by
    rw [List.map_cons, List.map_cons] at e
    injection e with e1 e2
    rw [hf a b e1, map_inj_of hf e2]
theorem map_rel {α β γ δ : Type} {f : α → γ} {g : β → γ} {f' : α → δ} {g' : β → δ} : ∀ {l : List α} {m : List β}, l.map f = m.map g → (∀ a b, f a = g b → f' a = g' b) → l.map f' = m.map g'
  | [], [], _, _ => rfl
  | [], _ :: _, e, _ => by cases e
  | _ :: _, [], e, _ => by cases e
  | a :: l, b :: m, e, h => by
    rw [List.map_cons, List.map_cons] at e
    injection e with e1 e2
    rw [List.map_cons, List.map_cons, h a b e1, map_rel e2 h]
section
variable {X : Cx} {c : Nat → Addr} {n : Nat} {pos p0 : Pos}
theorem pn_sorted {e a} (f : Cf X n) (hm : X.mg "sorted" = none) (ha : PJ X c e a) (hs : starEach [e] X.env = (false, eval e X.env) :: starEach [] X.env := by rfl) (hg : Gl X "sorted" := by rfl) : PN X c (.Call (.Name "sorted" p0) [e] [] pos) (.sorted a) := fun ρ μ φ ε h W σ Q Sx k k2 k3 tk =>
  we_sorted hm (call1 (ψ := fun x μ => Ir.sortK x fun t => φ t μ) ha h Sx (fun W1 v t μ1 g1 S1 r1 h1 => by
    cases t with
    | lst ts =>
      obtain ⟨a0, vs, rfl, h3, h4⟩ := r1
      rcases h1 with ⟨ls, rfl, h1⟩ | ⟨ks, pat, rfl, hp, hpat, h1⟩
      · refine wc_sortedIm f.hu h3 (im_strs h4) (fun d hd d' hd' => ?_) (.inr fun d hd => ?_) (fun d hd => ?_) fun p hp => ?_
        · obtain ⟨x, _, rfl⟩ := List.mem_map.mp hd
          obtain ⟨y, _, rfl⟩ := List.mem_map.mp hd'
          rfl
        · obtain ⟨x, _, rfl⟩ := List.mem_map.mp hd
          exact ⟨(fun z => nomatch z), fun _ z => nomatch z⟩
        · obtain ⟨x, _, rfl⟩ := List.mem_map.mp hd
          exact Nat.le_of_ble_eq_true rfl
        · have him := srt_im (im_strs h4)
          rw [srtD_map] at him
          exact k W1 p _ _ μ1 g1 S1 hp (rv_strs him) (h1 _ (List.mergeSort_perm _ _) ((srt_pw (fun l => PyData.str (S l)) ls).imp fun {a b} hab => lex_str hab))
      · refine wc_sortedIm f.hu h3 (im_tus h4) (tus_alike hpat) (tus_sortable hp hpat) (fun d hd => ?_) fun p hp => ?_
        · obtain ⟨x, _, rfl⟩ := List.mem_map.mp hd
          exact depth_tu x
        · have him := srt_im (im_tus h4)
          rw [srtD_map] at him
          have hpm := List.mergeSort_perm ks (PySem.W.dataLe false tuD)
          exact k W1 p _ _ μ1 g1 S1 hp (rv_tus him) (h1 _ hpm (List.Pairwise.imp_of_mem (fun {a b} ha hb hab => lex_tu ((hpat a (hpm.mem_iff.mp ha)).trans (hpat b (hpm.mem_iff.mp hb)).symm) hab) (srt_pw tuD ks)))
    | dic b kvs =>
      obtain ⟨hl, h1⟩ := h1
      cases b with
      | false =>
        obtain ⟨a0, us, rfl, h3, h4, h5⟩ := r1
        rcases h1 with ⟨ls, e1, h1⟩ | ⟨ks, pat, e1, hp, hpat, h1⟩
        · have e2 : us.map (·.1) = (ls.map S).map Sum.inr := by
            have e3 : (us.map (·.1)).map kTr = ((ls.map S).map Sum.inr).map kTr := by
              rw [List.map_map, List.map_map, List.map_map]
              refine (show us.map (kTr ∘ fun x => x.1) = us.map (fun p => kTr p.1) from rfl).trans ((h4.trans e1).trans ?_)
              refine List.map_congr_left fun l _ => ?_
              show Tr.str l = Tr.str (S l).cps.toList
              rw [S_list]
            exact map_inj_of (fun a b => kTr_inj) e3
          have hlen : (ls.map S).length < 64 := by
            have q1 := hl rfl
            have q2 := congrArg List.length e1
            rw [List.length_map, List.length_map] at q2
            rw [List.length_map]
            omega
          refine wc_sortedDS f.calm h3 e2 hlen fun ys p hpm hss hpn => ?_
          obtain ⟨zs, rfl⟩ : ∃ zs : List (List Nat), ys = zs.map S := ⟨ys.map fun y => y.cps.toList, by
            rw [List.map_map]
            refine (List.map_id ys).symm.trans (List.map_congr_left fun y _ => ?_)
            exact S_eq y⟩
          have hpm2 : zs.Perm ls := by
            have := hpm.map fun y : Str => y.cps.toList
            rw [List.map_map, List.map_map] at this
            have e4 : ∀ l : List (List Nat), l.map ((fun y : Str => y.cps.toList) ∘ S) = l := fun l => by
              refine (List.map_congr_left fun y _ => ?_).trans (List.map_id l)
              exact S_list y
            rwa [e4, e4] at this
          have hpw : zs.Pairwise fun a b => ¬ b < a := by
            have := sortedS_pw _ hss
            rw [List.pairwise_map] at this
            exact this.imp fun {a b} h => by rwa [S_list, S_list] at h
          have hr : Rvs (XB X c) W1.H W1.F ((zs.map S).map V.str) (zs.map Tr.str) := by
            rw [List.map_map]
            exact Rvs.strs zs
          exact k W1 p _ _ μ1 g1 S1 hpn hr (h1 zs hpm2 hpw)
        · cases ks with
          | nil =>
            have e0 : us = [] := by
              have := h4.trans e1
              simpa using this
            subst e0
            refine wc_sortedDS (ks := []) f.calm h3 rfl (by decide) fun ys p hpm hss hpn => ?_
            have : ys = [] := hpm.eq_nil
            subst this
            exact k W1 p [] [] μ1 g1 S1 hpn .nil (h1 [] (List.Perm.refl _) List.Pairwise.nil)
          | cons k0 ks =>
            cases us with
            | nil =>
              have := h4.trans e1
              simp at this
            | cons u us =>
              have := h4.trans e1
              rw [List.map_cons, List.map_cons] at this
              injection this with z1 z2
              cases hu : u.1 with
              | inl i => rw [hu] at z1; cases z1
              | inr x => rw [hu] at z1; cases z1
      | true =>
        obtain ⟨a0, us, rfl, h3, h4, h5⟩ := r1
        rcases h1 with ⟨ls, e1, h1⟩ | ⟨ks, pat, e1, hp, hpat, h1⟩
        · cases ls with
          | nil =>
            have e0 : us = [] := by
              have := h4.trans e1
              simpa using this
            subst e0
            refine wc_sortedDT f.calm f.hu h3 (fun d hd => nomatch hd) (.inl fun d hd => nomatch hd) (fun d hd => nomatch hd) fun p ks hpn him => ?_
            have e5 : srtD (([] : List (List Key × V)).map fun p => keyT p.1) = [] := by
              have : (srtD (([] : List (List Key × V)).map fun p => keyT p.1)).length = 0 := by unfold srtD; rw [List.length_mergeSort]; rfl
              exact List.length_eq_zero_iff.mp this
            rw [e5] at him
            cases him
            exact k W1 p [] [] μ1 g1 S1 hpn .nil (h1 [] (List.Perm.refl _) List.Pairwise.nil)
          | cons k0 ks =>
            cases us with
            | nil =>
              have := h4.trans e1
              simp at this
            | cons u us =>
              have := h4.trans e1
              rw [List.map_cons, List.map_cons] at this
              injection this with z1 z2
              cases z1
        · have eD : us.map (fun p => keyT p.1) = ks.map tuD := by
            have e3 : us.map (fun p => kTs p.1) = ks.map fun k => Tr.tup (k.map Ir.atmT) := h4.trans e1
            refine map_rel e3 fun u k hk => ?_
            have hk : Tr.tup (u.1.map kTr) = Tr.tup (k.map Ir.atmT) := hk
            injection hk with hk
            show PyData.tuple (u.1.map keyD) = PyData.tuple (k.map atD)
            refine congrArg PyData.tuple (map_rel hk fun a b hab => ?_)
            cases a with
            | inl i => cases b with
              | inl j => cases hab; rfl
              | inr m => cases hab
            | inr x => cases b with
              | inl j => cases hab
              | inr m =>
                have hab : Tr.str x.cps.toList = Tr.str m := hab
                injection hab with hab
                subst hab
                show PyData.str x = PyData.str (S x.cps.toList)
                rw [← S_eq]
          refine wc_sortedDT f.calm f.hu h3 (by rw [eD]; exact tus_alike hpat) (by rw [eD]; exact tus_sortable hp hpat) (by
            rw [eD]
            intro d hd
            obtain ⟨x, _, rfl⟩ := List.mem_map.mp hd
            exact depth_tu x) fun p vs hpn him => ?_
          rw [eD, srtD_map] at him
          have hpm := List.mergeSort_perm ks (PySem.W.dataLe false tuD)
          exact k W1 p _ _ μ1 g1 S1 hpn (rv_tus him) (h1 _ hpm (List.Pairwise.imp_of_mem (fun {a b} ha hb hab => lex_tu ((hpat a (hpm.mem_iff.mp ha)).trans (hpat b (hpm.mem_iff.mp hb)).symm) hab) (srt_pw tuD ks)))
    | _ => exact h1.elim) tk hs) hg hs rfl
end
end Is

/-! Ja: loops and comprehensions of the small language. -/
namespace Ir
/-- a comprehension whose elements are pure -/
theorem compK_map {α : Type} {f : Tr → Mem → (Option Tr → Mem → Prop) → Prop} {enc g : α → Tr} {μ : Mem} : ∀ {xs : List α} {φ : List Tr → Mem → Prop}, (∀ x ∈ xs, ∀ k : Option Tr → Mem → Prop, k (some (g x)) μ → f (enc x) μ k) → φ (xs.map g) μ → compK f (xs.map enc) μ φ
  | [], φ, _, h => by rw [List.map_nil, compK_nil]; exact h
  | x :: xs, φ, hf, h => by rw [List.map_cons, compK_cons]; exact hf x List.mem_cons_self _ (compK_map (fun y hy => hf y (List.mem_cons_of_mem _ hy)) h)
/-- .. some of them left out -/
theorem compK_fmap {α : Type} {f : Tr → Mem → (Option Tr → Mem → Prop) → Prop} {enc : α → Tr} {g : α → Option Tr} {μ : Mem} : ∀ {xs : List α} {φ : List Tr → Mem → Prop}, (∀ x ∈ xs, ∀ k : Option Tr → Mem → Prop, k (g x) μ → f (enc x) μ k) → φ (xs.filterMap g) μ → compK f (xs.map enc) μ φ
  | [], φ, _, h => by rw [List.map_nil, compK_nil]; exact h
  | x :: xs, φ, hf, h => by
    rw [List.map_cons, compK_cons]
    refine hf x List.mem_cons_self _ ?_
    cases e : g x with
    | none =>
      rw [List.filterMap_cons_none e] at h
      exact compK_fmap (fun y hy => hf y (List.mem_cons_of_mem _ hy)) h
    | some t =>
      rw [List.filterMap_cons_some e] at h
      exact compK_fmap (φ := fun rs μ => φ (t :: rs) μ) (fun y hy => hf y (List.mem_cons_of_mem _ hy)) h
/-- any comprehension: P of the items gone through, the results, the memory -/
theorem compK_inv {f : Tr → Mem → (Option Tr → Mem → Prop) → Prop} (P : List Tr → List Tr → Mem → Prop) : ∀ {ts pre rs : List Tr} {μ : Mem} {φ : List Tr → Mem → Prop}, P pre rs μ →
    (∀ pre t post rs μ, pre ++ t :: post = pre ++ t :: post → P pre rs μ → ∀ k : Option Tr → Mem → Prop, (∀ r μ', P (pre ++ [t]) (match r with | some r => rs ++ [r] | none => rs) μ' → k r μ') → f t μ k) →
    (∀ rs' μ', P (pre ++ ts) (rs ++ rs') μ' → φ rs' μ') → compK f ts μ φ
  | [], pre, rs, μ, φ, h0, _, hd => by rw [compK_nil]; exact hd [] μ (by simpa using h0)
  | t :: ts, pre, rs, μ, φ, h0, hs, hd => by
    rw [compK_cons]
    refine hs pre t ts rs μ rfl h0 _ fun r μ' hr => ?_
    cases r with
    | none => exact compK_inv P (pre := pre ++ [t]) (rs := rs) hr hs fun rs' μ' h => hd rs' μ' (by simpa using h)
    | some r => exact compK_inv P (pre := pre ++ [t]) (rs := rs ++ [r]) hr hs fun rs' μ' h => hd (r :: rs') μ' (by simpa using h)
/-- .. over typed items -/
theorem compK_for {α : Type} {enc : α → Tr} {f : Tr → Mem → (Option Tr → Mem → Prop) → Prop} (P : List α → List Tr → Mem → Prop) : ∀ {xs pre : List α} {rs : List Tr} {μ : Mem} {φ : List Tr → Mem → Prop}, P pre rs μ →
    (∀ pre x rs μ, x ∈ xs → P pre rs μ → ∀ k : Option Tr → Mem → Prop, (∀ r μ', P (pre ++ [x]) (match r with | some r => rs ++ [r] | none => rs) μ' → k r μ') → f (enc x) μ k) →
    (∀ rs' μ', P (pre ++ xs) (rs ++ rs') μ' → φ rs' μ') → compK f (xs.map enc) μ φ
  | [], pre, rs, μ, φ, h0, _, hd => by rw [List.map_nil, compK_nil]; exact hd [] μ (by simpa using h0)
  | x :: xs, pre, rs, μ, φ, h0, hs, hd => by
    rw [List.map_cons, compK_cons]
    refine hs pre x rs μ List.mem_cons_self h0 _ fun r μ' hr => ?_
    cases r with
    | none => exact compK_for P (pre := pre ++ [x]) (rs := rs) hr (fun pre y rs μ hy => hs pre y rs μ (List.mem_cons_of_mem _ hy)) fun rs' μ' h => hd rs' μ' (by simpa using h)
    | some r => exact compK_for P (pre := pre ++ [x]) (rs := rs ++ [r]) hr (fun pre y rs μ hy => hs pre y rs μ (List.mem_cons_of_mem _ hy)) fun rs' μ' h => hd (r :: rs') μ' (by simpa using h)
theorem dcompK_map {α : Type} {b : Bool} {f : Tr → Mem → (Tr → Tr → Mem → Prop) → Prop} {enc g h : α → Tr} {μ : Mem} : ∀ {xs : List α} {kvs : List (Tr × Tr)} {φ : List (Tr × Tr) → Mem → Prop}, (∀ x ∈ xs, isKey b (g x) = true) → (∀ x ∈ xs, ∀ k : Tr → Tr → Mem → Prop, k (g x) (h x) μ → f (enc x) μ k) → φ (xs.foldl (fun kvs x => putT kvs (g x) (h x)) kvs) μ → dcompK b f (xs.map enc) kvs μ φ
  | [], kvs, φ, _, _, h => by rw [List.map_nil, dcompK_nil]; exact h
  | x :: xs, kvs, φ, hk, hf, h => by rw [List.map_cons, dcompK_cons]; exact hf x List.mem_cons_self _ ⟨hk x List.mem_cons_self, dcompK_map (fun y hy => hk y (List.mem_cons_of_mem _ hy)) (fun y hy => hf y (List.mem_cons_of_mem _ hy)) h⟩
/-- a loop by what holds between the turns -/
theorem forK_for {α : Type} {enc : α → Tr} {f : Tr → Ev → Mem → SK → Prop} (P : List α → Ev → Mem → Prop) : ∀ {xs pre : List α} {ρ : Ev} {μ : Mem} {nx : SK}, P pre ρ μ →
    (∀ pre x ρ μ, x ∈ xs → P pre ρ μ → ∀ k : SK, (∀ ρ' μ', P (pre ++ [x]) ρ' μ' → k ρ' μ') → f (enc x) ρ μ k) →
    (∀ ρ' μ', P (pre ++ xs) ρ' μ' → nx ρ' μ') → forK f (xs.map enc) ρ μ nx
  | [], pre, ρ, μ, nx, h0, _, hd => by rw [List.map_nil, forK_nil]; exact hd ρ μ (by simpa using h0)
  | x :: xs, pre, ρ, μ, nx, h0, hs, hd => by
    rw [List.map_cons, forK_cons]
    refine hs pre x ρ μ List.mem_cons_self h0 _ fun ρ' μ' hr => ?_
    exact forK_for P (pre := pre ++ [x]) hr (fun pre y ρ μ hy => hs pre y ρ μ (List.mem_cons_of_mem _ hy)) fun ρ' μ' h => hd ρ' μ' (by simpa using h)
/-- .. the items before and behind are known -/
theorem forK_at {α : Type} {enc : α → Tr} {f : Tr → Ev → Mem → SK → Prop} (P : List α → Ev → Mem → Prop) {all : List α} : ∀ {xs pre : List α} {ρ : Ev} {μ : Mem} {nx : SK}, pre ++ xs = all → P pre ρ μ →
    (∀ pre x post ρ μ, pre ++ x :: post = all → P pre ρ μ → ∀ k : SK, (∀ ρ' μ', P (pre ++ [x]) ρ' μ' → k ρ' μ') → f (enc x) ρ μ k) →
    (∀ ρ' μ', P all ρ' μ' → nx ρ' μ') → forK f (xs.map enc) ρ μ nx
  | [], pre, ρ, μ, nx, ha, h0, _, hd => by rw [List.map_nil, forK_nil]; exact hd ρ μ (by rw [← ha]; simpa using h0)
  | x :: xs, pre, ρ, μ, nx, ha, h0, hs, hd => by
    rw [List.map_cons, forK_cons]
    refine hs pre x xs ρ μ ha h0 _ fun ρ' μ' hr => ?_
    exact forK_at P (pre := pre ++ [x]) (by simpa using ha) hr hs hd
/-! equality of data -/
mutual
theorem eqT_refl : ∀ (n : Nat) (t : Tr), isD n t = true → eqT t t = true
  | n, .non, _ => rfl
  | n, .bl b, _ => by show decide (b = b) = true; simp
  | n, .int i, _ => by show decide (i = i) = true; simp
  | n, .str l, _ => by show decide (l = l) = true; simp
  | 0, .tup ts, h => by unfold isD at h; cases h
  | n + 1, .tup ts, h => by unfold isD at h; exact eqTs_refl n ts h
  | 0, .lst ts, h => by unfold isD at h; cases h
  | n + 1, .lst ts, h => by unfold isD at h; exact eqTs_refl n ts h
  | n, .ty _, h => by unfold isD at h; cases h
  | n, .dic _ _, h => by unfold isD at h; cases h
  | n, .obj _ _, h => by unfold isD at h; cases h
  | n, .ptr _, h => by unfold isD at h; cases h
  | n, .ktup _, h => by unfold isD at h; cases h
  | n, .scr _, h => by unfold isD at h; cases h
theorem eqTs_refl : ∀ (n : Nat) (ts : List Tr), isDs n ts = true → eqTs ts ts = true
  | _, [], _ => rfl
  | n, t :: ts, h => by
    unfold isDs at h
    rw [Bool.and_eq_true] at h
    show (eqT t t && eqTs ts ts) = true
    rw [eqT_refl n t h.1, eqTs_refl n ts h.2]
    rfl
end
theorem eqTs_map {α : Type} [DecidableEq α] {enc : α → Tr} (h : ∀ a b, eqT (enc a) (enc b) = decide (a = b)) : ∀ (xs ys : List α), eqTs (xs.map enc) (ys.map enc) = decide (xs = ys)
  | [], [] => rfl
  | [], y :: ys => rfl
  | x :: xs, [] => rfl
  | x :: xs, y :: ys => by
    show (eqT (enc x) (enc y) && eqTs (xs.map enc) (ys.map enc)) = _
    rw [h, eqTs_map h, Bool.eq_iff_iff]
    simp
theorem isDs_map {α : Type} {enc : α → Tr} {n : Nat} : ∀ {xs : List α}, (∀ x ∈ xs, isD n (enc x) = true) → isDs n (xs.map enc) = true
  | [], _ => rfl
  | x :: xs, h => by
    show (isD n (enc x) && isDs n (xs.map enc)) = true
    rw [h x List.mem_cons_self, isDs_map fun y hy => h y (List.mem_cons_of_mem _ hy)]
    rfl
theorem any_enc {α : Type} [DecidableEq α] {enc : α → Tr} (h : ∀ a b, eqT (enc a) (enc b) = decide (a = b)) (xs : List α) (y : α) : ((xs.map enc).any fun t => eqT t (enc y)) = decide (y ∈ xs) := by
  rw [List.any_map, Bool.eq_iff_iff]
  simp only [List.any_eq_true, Function.comp, h, decide_eq_true_eq]
  exact ⟨fun ⟨x, hx, e⟩ => e ▸ hx, fun hy => ⟨y, hy, rfl⟩⟩
theorem atT_nat {α : Type} {xs : List α} {j : Nat} {v : α} (h : xs[j]? = some v) : atT xs (j : Int) = some v := by
  have hj : j < xs.length := (List.getElem?_eq_some_iff.mp h).1
  have e : ixT xs.length (j : Int) = some j := by
    unfold ixT
    rw [if_pos (by omega), if_pos (by omega)]; simp
  unfold atT; rw [e]; exact h
theorem atT_last {α : Type} (xs : List α) (v : α) : atT (xs ++ [v]) (-1) = some v := by
  unfold atT ixT
  rw [if_neg (by omega), if_pos (by simp; omega), Option.bind_some]
  have : (-1 + ((xs ++ [v]).length : Int)).toNat = xs.length := by simp; omega
  rw [this, List.getElem?_append_right (Nat.le_refl _), Nat.sub_self]
  rfl
theorem bools {α : Type} (xs : List α) (d : α → Bool) : xs.map (fun x => Tr.bl (d x)) = (xs.map d).map Tr.bl := by rw [List.map_map]; rfl
theorem intsT {α : Type} (xs : List α) (d : α → Int) : xs.map (fun x => Tr.int (d x)) = (xs.map d).map Tr.int := by rw [List.map_map]; rfl
theorem strsT {α : Type} (xs : List α) (d : α → List Nat) : xs.map (fun x => Tr.str (d x)) = (xs.map d).map Tr.str := by rw [List.map_map]; rfl
theorem lmin_mem : ∀ {l : List Int}, l ≠ [] → lmin l ∈ l
  | [], h => absurd rfl h
  | [a], _ => by simp [lmin]
  | a :: b :: r, _ => by
    have ih := lmin_mem (l := b :: r) (by simp)
    show min a (lmin (b :: r)) ∈ _
    by_cases hh : a ≤ lmin (b :: r)
    · rw [show min a (lmin (b :: r)) = a by omega]; simp
    · rw [show min a (lmin (b :: r)) = lmin (b :: r) by omega]; exact List.mem_cons_of_mem _ ih
theorem lmin_le : ∀ {l : List Int} {y : Int}, y ∈ l → lmin l ≤ y
  | [], _, h => by cases h
  | [a], y, h => by simp [lmin] at h ⊢; omega
  | a :: b :: r, y, h => by
    show min a (lmin (b :: r)) ≤ y
    rcases List.mem_cons.mp h with rfl | h
    · omega
    · have := lmin_le h; omega
end Ir

/-! Ca: names, arrows, what is least; no program in sight. -/
namespace G
open Ir (Tr)
/-! ### names -/
def LET : List Nat := [97, 98, 99, 100, 101, 102, 103, 104, 105, 106, 107, 108, 109, 110, 111, 112, 113, 114, 115, 116, 117, 118, 119, 120, 121, 122]
def nameB (l : List Nat) : Bool := decide (1 ≤ (l.length : Int)) && (decide ((l.length : Int) ≤ 8) && l.all fun c => decide (c ∈ LET))
def rowB (l : List Nat) : Bool := decide ((l.length : Int) ≤ 5000) && l.all fun c => decide (c ∈ LET)
def letB : List Nat → Bool
  | [c] => decide (c ∈ LET)
  | _ => false
def nameT : Tr → Bool
  | .str l => nameB l
  | _ => false
def rowT : Tr → Bool
  | .str l => rowB l
  | _ => false
def letT : Tr → Bool
  | .str l => letB l
  | _ => false
def priT : Tr → Bool
  | .int i => decide (0 ≤ i) && decide (i ≤ 99)
  | _ => false
def arrT : Tr → Bool
  | .tup [a, b, c, d] => nameT a && letT b && nameT c && priT d
  | .lst [a, b, c, d] => nameT a && letT b && nameT c && priT d
  | _ => false
/-- what may be asked for its kind -/
def okI : Tr → Bool
  | .dic true _ => false
  | .obj _ _ => false
  | .ty _ => false
  | .ptr _ => false
  | .ktup _ => false
  | .scr _ => false
  | .str l => Nat.ble l.length 1000000
  | _ => true
/-- .. and its items -/
def okA : Tr → Bool
  | .tup ts => ts.all okI
  | .lst ts => ts.all okI
  | t => okI t
/-! ### arrows -/
structure Ar where
  s : List Nat
  l : List Nat
  a : List Nat
  p : Int
  deriving DecidableEq
def sqT : Bool → List Tr → Tr
  | true, ts => .tup ts
  | false, ts => .lst ts
def aT (b : Bool) (x : Ar) : Tr := sqT b [.str x.s, .str x.l, .str x.a, .int x.p]
def aK (x : Ar) : List (List Nat) := [x.s, x.l, x.a]
def tA (x : Ar) : Tr := aT true x
def okAr (x : Ar) : Bool := nameB x.s && letB x.l && nameB x.a && (decide (0 ≤ x.p) && decide (x.p ≤ 99))
/-! ### in order, each once -/
section
variable {α : Type} [DecidableEq α]
/-- a strict order -/
structure Ord (lt : α → α → Bool) : Prop where
  ir : ∀ a, lt a a = false
  tr : ∀ a b c, lt a b = true → lt b c = true → lt a c = true
  to : ∀ a b, lt a b = false → lt b a = false → a = b
def insU (lt : α → α → Bool) (x : α) : List α → List α
  | [] => [x]
  | y :: r => if lt x y = true then x :: y :: r else if x = y then y :: r else y :: insU lt x r
def srtU (lt : α → α → Bool) (l : List α) : List α := l.foldr (insU lt) []
def Asc (lt : α → α → Bool) (l : List α) : Prop := l.Pairwise fun a b => lt a b = true
theorem insU_mem {lt : α → α → Bool} {x z : α} : ∀ {l : List α}, z ∈ insU lt x l ↔ z = x ∨ z ∈ l
  | [] => by simp [insU]
  | y :: r => by
    unfold insU
    split
    · simp
    · split
      · rename_i h; subst h; simp
      · rw [List.mem_cons, insU_mem (l := r), List.mem_cons]
        constructor
        · rintro (h | h | h) <;> simp [h]
        · rintro (h | h | h) <;> simp [h]
theorem insU_asc {lt : α → α → Bool} (O : Ord lt) {x : α} : ∀ {l : List α}, Asc lt l → Asc lt (insU lt x l)
  | [], _ => by simp [insU, Asc]
  | y :: r, h => by
    have h' := List.pairwise_cons.mp h
    unfold insU
    split
    · rename_i hlt
      refine List.Pairwise.cons (fun z hz => ?_) h
      rcases List.mem_cons.mp hz with rfl | hz
      · exact hlt
      · exact O.tr _ _ _ hlt (h'.1 z hz)
    · split
      · exact h
      · rename_i h1 h2
        refine List.Pairwise.cons (fun z hz => ?_) (insU_asc O h'.2)
        rcases insU_mem.mp hz with rfl | hz
        · cases e : lt y z with
          | true => rfl
          | false => exact absurd (O.to _ _ (by simpa using h1) e) h2
        · exact h'.1 z hz
theorem srtU_mem {lt : α → α → Bool} {z : α} : ∀ {l : List α}, z ∈ srtU lt l ↔ z ∈ l
  | [] => Iff.rfl
  | x :: l => by
    show z ∈ insU lt x (srtU lt l) ↔ _
    rw [insU_mem, srtU_mem (l := l), List.mem_cons]
theorem srtU_asc {lt : α → α → Bool} (O : Ord lt) : ∀ {l : List α}, Asc lt (srtU lt l)
  | [] => List.Pairwise.nil
  | x :: l => insU_asc O (srtU_asc O)
/-- two ascending lists with the same items are one -/
theorem asc_uniq {lt : α → α → Bool} (O : Ord lt) : ∀ {l m : List α}, Asc lt l → Asc lt m → (∀ x, x ∈ l ↔ x ∈ m) → l = m
  | [], [], _, _, _ => rfl
  | [], y :: m, _, _, h => by have := (h y).mpr List.mem_cons_self; cases this
  | x :: l, [], _, _, h => by have := (h x).mp List.mem_cons_self; cases this
  | x :: l, y :: m, hl, hm, h => by
    have hl' := List.pairwise_cons.mp hl
    have hm' := List.pairwise_cons.mp hm
    have exy : x = y := by
      rcases List.mem_cons.mp ((h x).mp List.mem_cons_self) with e | e
      · exact e
      · rcases List.mem_cons.mp ((h y).mpr List.mem_cons_self) with e2 | e2
        · exact e2.symm
        · have h1 := hm'.1 x e
          have h2 := hl'.1 y e2
          have := O.tr _ _ _ h1 h2
          rw [O.ir] at this
          cases this
    subst exy
    congr 1
    refine asc_uniq O hl'.2 hm'.2 fun z => ?_
    have hz := h z
    rw [List.mem_cons, List.mem_cons] at hz
    constructor
    · intro hzl
      rcases hz.mp (.inr hzl) with e | e
      · subst e
        have := hl'.1 z hzl
        rw [O.ir] at this
        cases this
      · exact e
    · intro hzm
      rcases hz.mpr (.inr hzm) with e | e
      · subst e
        have := hm'.1 z hzm
        rw [O.ir] at this
        cases this
      · exact e
theorem asc_srtU {lt : α → α → Bool} (O : Ord lt) {l m : List α} (h : Asc lt m) (hm : ∀ x, x ∈ m ↔ x ∈ l) : m = srtU lt l := asc_uniq O h (srtU_asc O) fun x => (hm x).trans srtU_mem.symm
end
def ltN (a b : List Nat) : Bool := decide (a < b)
theorem ordN : Ord ltN := ⟨fun a => by simp [ltN, List.lt_irrefl], fun a b c h1 h2 => by
  simp only [ltN, decide_eq_true_eq] at *
  exact List.lt_trans h1 h2, fun a b h1 h2 => by
  simp only [ltN, decide_eq_false_iff_not] at *
  exact List.le_antisymm (List.not_lt.mp h2) (List.not_lt.mp h1)⟩
abbrev uniq (l : List (List Nat)) : List (List Nat) := srtU ltN l
/-! ### what is least -/
def IsMin (P : Int → Prop) (o : Option Int) : Prop := match o with | none => ∀ c, ¬ P c | some c => P c ∧ ∀ d, P d → c ≤ d
theorem IsMin.uniq {P : Int → Prop} {o o' : Option Int} (h : IsMin P o) (h' : IsMin P o') : o = o' := by
  cases o with
  | none =>
    cases o' with
    | none => rfl
    | some c => exact absurd h'.1 (h c)
  | some c =>
    cases o' with
    | none => exact absurd h.1 (h' c)
    | some c' =>
      have h1 := h.2 c' h'.1
      have h2 := h'.2 c h.1
      rw [show c = c' by omega]
theorem IsMin.congr {P P' : Int → Prop} {o : Option Int} (e : ∀ c, P c ↔ P' c) (h : IsMin P o) : IsMin P' o := by
  cases o with
  | none => exact fun c hc => h c ((e c).mpr hc)
  | some c => exact ⟨(e c).mp h.1, fun d hd => h.2 d ((e d).mpr hd)⟩
def oT : Option Int → Tr
  | none => .non
  | some c => .int c
/-- a run along arrows -/
inductive Path (as : List Ar) : List Nat → List Nat → List Nat → Int → Prop
  | nil (s : List Nat) : Path as s [] s 0
  | snoc {s row t c} {x : Ar} {k : Nat} : Path as s row t c → x ∈ as → x.s = t → x.l = [k] → Path as s (row ++ [k]) x.a (c + x.p)
end G
namespace G
open Ir (Tr Con)
def c_law_draw : Con := fun ts μ φ ε => ∃ (n : Nat) (m : Int), ts = [.ptr 0, .int m] ∧ μ = [.src n] ∧ n < 1000000 ∧ 0 < m ∧ m < 1073741824 ∧ ∀ d : Int, 0 ≤ d → d < m → φ (.int d) [.src (n + 1)]
def c_law : Con := fun ts μ φ ε => ∃ ns : List Int, ts = [.scr ns] ∧ μ = [] ∧ φ (.bl true) []
end G

/-! Ka: for .. in d.items(); drawn numbers. -/
namespace Is
open PySem PySem.Spec PyProof.Rows L2 Wx
open Ir (Tr Cel Mem Ev EK SK EX Con Tg Op Cm I Sm wp wps)
section
variable {B : Bs} {W W' : Wd} {σ σ' : L2.St} {ρ ρ' : Ev} {μ : Mem}
/-- an object of the others is written anew (locked, or unlocked): F stays -/
theorem Sa.relock (Sx : Sa B W σ ρ μ) {d : Addr} {o u : HO} (hG : W.G d = some o) (ho : notTup o) (hF : ∀ v, W.F d = some v → u = v ∨ ((∃ b, u = .frz b v) ∧ frzb v = true)) :
    Sa B { W with G := upd W.G d u, H := upd W.H d u } σ ρ μ := by
  have hD := Sx.gh d o hG
  have t : TEx W.H (upd W.H d u) := tex_nt hD ho
  have nO : ∀ x ∈ W.O.flatten, x ≠ d := fun x hx e => by subst e; have := (Sx.own x hx).1; rw [hG] at this; cases this
  refine ⟨fun b v hb => ?_, fun b v hb => ?_, fun i v hi => ?_, Sx.lA, Sx.lO, fun i c hc => ?_, Sx.nd, fun x hx => ?_, Sx.ln⟩
  · by_cases e : b = d
    · subst e
      exact (upd_same.trans (upd_same.symm.trans hb))
    · exact (upd_ne e).trans (Sx.gh b v ((upd_ne e).symm.trans hb))
  · have hb' : W.F b = some v := hb
    by_cases e : b = d
    · subst e
      rcases hF v hb' with h | ⟨⟨z, h⟩, h2⟩
      · subst h; exact .inl upd_same
      · subst h; exact .inr ⟨⟨z, upd_same⟩, h2⟩
    · rcases Sx.fg b v hb' with h1 | ⟨⟨d', h1⟩, h2⟩
      · exact .inl ((upd_ne e).trans h1)
      · exact .inr ⟨⟨d', (upd_ne e).trans h1⟩, h2⟩
  · obtain ⟨w, h1, h2⟩ := Sx.env i v hi
    refine ⟨w, h1, ?_⟩
    rcases h2 with h2 | ⟨j, a, e1, e2, e3⟩
    · exact .inl (h2.mono t (Ex.refl _))
    · exact .inr ⟨j, a, e1, e2, e3⟩
  · obtain ⟨a, fp, h1, h2, h3⟩ := Sx.mem i c hc
    exact ⟨a, fp, h1, h2, h3.frame (fun x hx => upd_ne (nO x (flat_get h2 hx))) t (Ex.refl _)⟩
  · exact ⟨(upd_ne (nO x hx)).trans (Sx.own x hx).1, fun z => (Sx.own x hx).2 ((upd_ne (nO x hx)).symm.trans z)⟩
end
section
variable {X : Cx} {c : Nat → Addr} {n : Nat} {pos : Pos}
theorem tks_no {W : Wd} : Takes X (xWs (XB X c) W (fun _ _ _ => False)) := fun u s' ⟨_, _, _, _, _, _, _, _, _, _, _, _, _, _, _, _, _, _, _, _, _, _, _, h⟩ => h.2.elim

theorem ws_forItemsF {σ : L2.St} {H : Hp} {nx : L2.St → Hp → Prop} {rt : VK} {bk ct : L2.St → Hp → Prop} {elts : List Expr} {kk : Nat} {tpos apos cpos : Pos} {e : Expr} {body} {d : Addr} {o : Obj} {kvs : List (Key × V)} (hp : PassesOwn (model X.prog X.w) X.A X.env X.xe) (hc : X.calm = true)
    (q : WE X e σ H fun x H1 => x = .ref d ∧ H1 d = some (.frz o (.dK kvs)) ∧ ∃ Pv : Nat → L2.St → Hp → Prop, Pv 0 σ H1 ∧ (∀ i σ H, Pv i σ H → H d = some (.frz o (.dK kvs))) ∧
      (∀ i k v t σ H, kvs[i]? = some (k, v) → H t = none → Pv i σ H → WG X (.Tuple elts kk tpos) (.ref t) σ (upd H t (.tup [kV k, v])) fun σ2 H2 => WSs X body ⟨Pv (i + 1), rt, nx, Pv (i + 1)⟩ σ2 H2) ∧
      ∀ σ H, Pv kvs.length σ H → nx σ H)
    (hs : ∀ x, foldedSetIterable (.Call (.Attribute e "items" apos) [] [] cpos) X.env x = pure x := by intro _; rfl) (hbase : attributeBase e "items" X.env (eval e X.env) = eval e X.env := by rfl) (hline : (apos.endLine == cpos.line) = true := by rfl) :
    WS X (.For (.Tuple elts kk tpos) (.Call (.Attribute e "items" apos) [] [] cpos) body [] pos) ⟨nx, rt, bk, ct⟩ σ H := by
  refine WS.of (L2.ps_for hp hc (pi_items pe_w hbase hline) pg_w pss_w hs) ?_
  refine WE.mono (fun x H1 hq => ?_) q
  obtain ⟨e1, e2, Pv, h0, hf, ht, hn⟩ := hq
  refine ⟨d, o, kvs, e1, e2, ?_⟩
  refine for_it (walk_items (d := d) (o := o) (kvs := kvs)) Pv h0 (fun i σ H _ h => hf i σ H h) (fun i x σ H H' hi hP hy => ?_) (fun σ H hP => hn _ _ hP)
  obtain ⟨T, y, z, rfl, hT, rfl, hy, hz⟩ := hy
  have hk : kvs[i]? = some (kvs[i].1, kvs[i].2) := List.getElem?_eq_getElem hi
  dsimp only at hy hz
  rw [hk] at hy hz
  cases hy
  cases hz
  exact ht i _ _ T σ H hk hT hP
theorem rv_kV {B : Bs} {H F : Hp} (k : Key) : Rv B H F (kV k) (kTr k) := by
  cases k with
  | inl i => exact .int i
  | inr x =>
    show Rv B H F (.str x) (.str x.cps.toList)
    have := Rv.str (B := B) (H := H) (F := F) x.cps.toList
    rwa [← S_eq] at this
theorem ps_forI {x : Str} {i : Nat} {elts : List Expr} {kk : Nat} {tpos apos cpos xpos : Pos} {body g b} (hp : PassesOwn (model X.prog X.w) X.A X.env X.xe) (f : Cf X n) (hi : X.N[i]? = some x) (hg : PGt X c (.Tuple elts kk tpos) g) (hb : PSs X c body b)
    (hv : Vis X.env.scope x := by first | exact Or.inl rfl | exact Or.inr (Or.inl rfl) | exact Or.inr (Or.inr rfl)) (hd : (x == ("__debug__" : Str)) = false := by decide) (hcd : (x == ("__classdict__" : Str)) = false := by decide)
    (hs : ∀ y, foldedSetIterable (.Call (.Attribute (.Name x xpos) "items" apos) [] [] cpos) X.env y = pure y := by intro _; rfl) (hbase : attributeBase (.Name x xpos) "items" X.env (eval (.Name x xpos) X.env) = eval (.Name x xpos) X.env := by rfl) (hline : (apos.endLine == cpos.line) = true := by rfl) :
    PS X c (.For (.Tuple elts kk tpos) (.Call (.Attribute (.Name x xpos) "items" apos) [] [] cpos) body [] pos) (.forI g i b) := fun nx rt bk ct ε ρ μ h W σ D Sx l tk => by
  obtain ⟨t, h2, h3⟩ := getK_at h
  obtain ⟨v, h4, h5⟩ := Sx.env i t h2
  cases t with
  | dic bb kvs =>
    cases bb with
    | true => exact h3.elim
    | false =>
      have r := h5.rv fun i e => nomatch e
      cases r with
      | dK hF hk hvs =>
        rename_i d us
        have hul : us.length = kvs.length := by have := congrArg List.length hk; simpa using this
        have main : ∀ (W1 : Wd) (o : Obj) (D' : Ends), Sa (XB X c) W1 σ ρ μ → TEx W.H W1.H → W1.F = W.F → W1.G d = some (.frz o (.dK us)) → (∀ W' σ' ρ' μ', Go W1 W' → Sa (XB X c) W' σ' ρ' μ' → nx ρ' μ' → D'.nx σ' W'.H) → (∀ W' v t μ', Go W1 W' → Sa (XB X c) W' [] [] μ' → Rp (XB X c) W' v t → rt t μ' → D'.rt v W'.H) →
            ∃ Pv : Nat → L2.St → Hp → Prop, Pv 0 σ W1.H ∧ (∀ i σ H, Pv i σ H → H d = some (.frz o (.dK us))) ∧
            (∀ i k v t σ H, us[i]? = some (k, v) → H t = none → Pv i σ H → WG X (.Tuple elts kk tpos) (.ref t) σ (upd H t (.tup [kV k, v])) fun σ2 H2 => WSs X body ⟨Pv (i + 1), D'.rt, D'.nx, Pv (i + 1)⟩ σ2 H2) ∧
            ∀ σ H, Pv us.length σ H → D'.nx σ H := fun W1 o D' S1 tx eF hG ln lr => by
          refine ⟨fun i σ2 H2 => ∃ W2 ρ2 μ2, W2.H = H2 ∧ Go W1 W2 ∧ Sa (XB X c) W2 σ2 ρ2 μ2 ∧ Ir.forK (fun t ρ μ k => Ir.tgK g t ρ fun ρ => wps b k rt nx k (fun _ _ _ => False) ρ μ) ((kvs.map fun p : Tr × Tr => Tr.tup [p.1, p.2]).drop i) ρ2 μ2 nx, ⟨W1, ρ, μ, rfl, Go.refl, S1, h3⟩, ?_, ?_, ?_⟩
          · rintro i σ2 H2 ⟨W2, ρ2, μ2, rfl, g2, S2, _⟩
            exact S2.gh d _ (g2.g d _ hG)
          · rintro i k v t σ2 H2 hu ht ⟨W2, ρ2, μ2, rfl, g2, S2, hf⟩
            have hlt : i < us.length := (List.getElem?_eq_some_iff.mp hu).1
            have hlk : i < kvs.length := by omega
            have e1 : kTr k = kvs[i].1 := by
              have z : (us.map fun p => kTr p.1)[i]? = (kvs.map Prod.fst)[i]? := by rw [hk]
              rw [List.getElem?_map, List.getElem?_map, hu, List.getElem?_eq_getElem hlk] at z
              exact Option.some.inj z
            obtain ⟨t2, e2, rv2⟩ := hvs.get (i := i) (v := v) (by rw [List.getElem?_map, hu]; rfl)
            have e3 : t2 = kvs[i].2 := by
              rw [List.getElem?_map, List.getElem?_eq_getElem hlk] at e2
              exact (Option.some.inj e2).symm
            subst e3
            obtain ⟨g3, S3⟩ := S2.fresh (o := .tup [kV k, v]) ht
            have gg := g2.trans g3
            have rt3 : Rv (XB X c) (upd W2.H t (.tup [kV k, v])) W2.F (.ref t) (.tup [kvs[i].1, kvs[i].2]) := by
              refine .tup upd_same (.cons (by rw [← e1]; exact rv_kV k) (.cons (rv2.mono (tx.trans gg.t) ?_) .nil))
              rw [← eF]
              exact gg.f
            rw [List.drop_eq_getElem_cons (by rw [List.length_map]; exact hlk), List.getElem_map, Ir.forK_cons] at hf
            refine hg ρ2 μ2 _ _ hf _ σ2 _ _ S3 (.inl rt3) fun σ4 ρ4 S4 _ _ h6 => ?_
            exact hb _ rt nx _ _ ρ4 μ2 h6 _ σ4 _ S4 ⟨fun W5 σ5 ρ5 μ5 g5 S5 h7 => ⟨W5, ρ5, μ5, rfl, gg.trans g5, S5, h7⟩, fun W5 v t μ5 g5 => lr W5 v t μ5 (gg.trans g5), fun W5 σ5 ρ5 μ5 g5 => ln W5 σ5 ρ5 μ5 (gg.trans g5), fun W5 σ5 ρ5 μ5 g5 S5 h7 => ⟨W5, ρ5, μ5, rfl, gg.trans g5, S5, h7⟩⟩ tks_no
          · rintro σ2 H2 ⟨W2, ρ2, μ2, rfl, g2, S2, hf⟩
            rw [List.drop_of_length_le (by rw [List.length_map]; omega), Ir.forK_nil] at hf
            exact ln W2 σ2 ρ2 μ2 g2 S2 hf
        obtain ⟨n1, n2, n3, n4⟩ := D
        rcases Sx.fg d _ hF with hG | ⟨⟨o, hG⟩, _⟩
        · refine ws_forItems hp f.calm (Sx.gh d _ hG) (fun o => WE.of (pe_var hi hv hd hcd) ⟨_, h4, rfl, rfl, ?_⟩) hs hbase hline
          have t1 : TEx W.H (upd W.H d (.frz o (.dK us))) := tex_nt (Sx.gh d _ hG) True.intro
          have S1 : Sa (XB X c) { W with G := upd W.G d (.frz o (.dK us)), H := upd W.H d (.frz o (.dK us)) } σ ρ μ := Sx.relock hG True.intro fun v hv => by
            rw [hF] at hv
            cases hv
            exact .inr ⟨⟨o, rfl⟩, rfl⟩
          have back : ∀ {W' : Wd} {σ' ρ' μ'}, Go { W with G := upd W.G d (.frz o (.dK us)), H := upd W.H d (.frz o (.dK us)) } W' → Sa (XB X c) W' σ' ρ' μ' → W'.H d = some (.frz o (.dK us)) ∧ TEx W'.H (upd W'.H d (.dK us)) ∧ Go W { W' with G := upd W'.G d (.dK us), H := upd W'.H d (.dK us) } ∧ Sa (XB X c) { W' with G := upd W'.G d (.dK us), H := upd W'.H d (.dK us) } σ' ρ' μ' := fun {W' σ' ρ' μ'} g' S' => by
            have hG' : W'.G d = some (.frz o (.dK us)) := g'.g d _ upd_same
            have hH' := S'.gh d _ hG'
            have t2 : TEx W'.H (upd W'.H d (.dK us)) := tex_nt hH' True.intro
            refine ⟨hH', t2, ⟨fun a u ha => ?_, g'.f, (t1.trans g'.t).trans t2, fun a h1 h2 => g'.n a ?_ h2, g'.p⟩, S'.relock hG' True.intro fun v hv => ?_⟩
            · by_cases e : a = d
              · subst e
                rw [hG] at ha
                cases ha
                exact upd_same
              · exact (upd_ne e).trans (g'.g a u ((upd_ne e).trans ha))
            · by_cases e : a = d
              · subst e
                exact fun z => by rw [show ({ W with G := upd W.G a (.frz o (.dK us)), H := upd W.H a (.frz o (.dK us)) } : Wd).G a = some (.frz o (.dK us)) from upd_same] at z; cases z
              · exact fun z => h1 ((upd_ne e).symm.trans z)
            · have : W'.F d = some (.dK us) := g'.f d _ hF
              rw [this] at hv
              cases hv
              exact .inl rfl
          obtain ⟨Pv, q1, q2, q3, q4⟩ := main _ o ⟨fun σ' H' => H' d = some (.frz o (.dK us)) ∧ n1 σ' (upd H' d (.dK us)), fun u H' => H' d = some (.frz o (.dK us)) ∧ n2 u (upd H' d (.dK us)), n3, n4⟩ S1 t1 rfl upd_same (fun W' σ' ρ' μ' g' S' hn => by
              obtain ⟨b1, b2, b3, b4⟩ := back g' S'
              exact ⟨b1, l.nx _ σ' ρ' μ' b3 b4 hn⟩) (fun W' v t μ' g' S' r' hn => by
              obtain ⟨b1, b2, b3, b4⟩ := back g' S'
              refine ⟨b1, l.rt _ v t μ' b3 b4 ?_ hn⟩
              rcases r' with r' | ⟨j, a, e1, e2, e3⟩
              · exact .inl (r'.mono b2 (Ex.refl _))
              · exact .inr ⟨j, a, e1, e2, e3⟩)
          exact ⟨Pv, q1, q2, q3, fun σ' H' hh => (q4 σ' H' hh).2⟩
        · obtain ⟨Pv, q1, q2, q3, q4⟩ := main W o ⟨n1, n2, n3, n4⟩ Sx (TEx.refl _) rfl hG l.nx l.rt
          exact ws_forItemsF hp f.calm (WE.of (pe_var hi hv hd hcd) ⟨_, h4, rfl, Sx.gh d _ hG, Pv, q1, q2, q3, q4⟩) hs hbase hline
  | _ => exact h3.elim
end
end Is
namespace Is
open PySem PySem.Spec PyProof.Rows L2 Wx
open Ir (Tr Cel Mem Ev EK SK EX Con Tg Op Cm I Sm wp wps)
theorem FnOk.sub {P : Program} {w : World} {K : PySem.W.Frag} {mg : Str → Option Value} {base : Heap} {CX : CXT} {k : Nat} {f : Addr} {fd : FuncData} {ps : List Str} {sp sp' : Sp} (F : FnOk P w K mg base CX k f fd ps sp) (h : ∀ vs H Q E, sp' vs H Q E → sp vs H Q E) : FnOk P w K mg base CX k f fd ps sp' :=
  ⟨fun vs H Q E hs => F.len vs H Q E (h vs H Q E hs), fun A outer s H args us vs Q E hr he hb hv hs => F.run A outer s H args us vs Q E hr he hb hv (h vs H Q E hs)⟩
theorem sp_draw {cl : Nat → Addr} {K : PySem.W.Frag} (vs : List V) (H : Hp) (Q : VK) (E : XK) (h : spOf cl K G.c_law_draw vs H Q E) : spDraw vs H Q E := by
  obtain ⟨W, ts, μ, φ, ε, rfl, Sx, r, ⟨n, m, rfl, rfl, hn, h0, h1, hd⟩, kφ, kε⟩ := h
  cases r with
  | cons r1 r2 =>
    cases r2 with
    | cons r2 r3 =>
      cases r3
      obtain ⟨a, rfl, ha⟩ := r1.ptr
      have r2 := r2.rv fun i e => nomatch e
      cases r2
      obtain ⟨b, fp, e1, e2, e3⟩ := Sx.mem 0 (.src n) rfl
      rw [ha] at e1
      cases e1
      obtain ⟨rfl, hs⟩ := e3
      refine ⟨a, n, m, rfl, hs, hn, h0, h1, fun H' d ex hs' hd0 hd1 => ?_⟩
      have hne : W.H a ≠ none := by obtain ⟨_, _, _, z, _⟩ := hs; rw [z]; exact fun z => nomatch z
      have keep : ∀ x, x ≠ a → W.H x ≠ none → H' x = W.H x := fun x hx hx2 => by
        cases e : W.H x with
        | none => exact absurd e hx2
        | some o =>
          have := ex x o (pub_get hx e)
          exact pub_ex x o this
      have tx : TEx W.H H' := fun x xs hx => by
        have : x ≠ a := fun e => by
          subst e
          obtain ⟨_, _, _, z, _⟩ := hs
          rw [hx] at z
          cases z
        exact (keep x this (by rw [hx]; exact fun z => nomatch z)).trans hx
      obtain ⟨g, S'⟩ := Sx.cellU (fq := [a]) (c' := .src (n + 1)) (H' := H') ha e2 (fun x hx hxn => keep x (fun e => hx (by rw [e]; simp)) hxn) tx (by simp) (fun x hx => ⟨.inl hx, by
        have : x = a := by simpa using hx
        subst this
        obtain ⟨_, _, _, z, _⟩ := hs'
        rw [z]
        exact fun z => nomatch z⟩) ⟨rfl, hs'⟩
      exact kφ _ _ _ _ g S' (.inl (.int d)) (hd d hd0 hd1)
section
variable {X : Cx} {c : Nat → Addr} {n : Nat} {pos p0 p1 : Pos}
theorem pj_src {y : Str} {i k : Nat} (C : Cal X.prog X.w X.K X.mg X.base CX0 k "_law_source" (spSource X.K)) (hr : Room k X.A) (hi : X.N[i]? = some y) (hv : Vis X.env.scope y := by first | exact Or.inl rfl | exact Or.inr (Or.inl rfl) | exact Or.inr (Or.inr rfl)) (hd : (y == ("__debug__" : Str)) = false := by decide) (hcd : (y == ("__classdict__" : Str)) = false := by decide)
    (hg : Gl X "_law_source" := by rfl) (he : starEach [.Name y p1] X.env = (false, eval (.Name y p1) X.env) :: starEach [] X.env := by rfl) (hpl : (backTo pos (starEach [] X.env)).any (·.1) = false := by rfl) : PJ X c (.Call (.Name "_law_source" p0) [.Name y p1] [] pos) (.src i) := fun ρ μ φ ε h W σ Q Sx k tk => by
  obtain ⟨t, h2, h3⟩ := getK_at h
  obtain ⟨v, h4, h5⟩ := Sx.env i t h2
  cases t with
  | scr ns =>
    have r := h5.rv fun i e => nomatch e
    cases r with
    | scr hl =>
      refine we_cal (E := fun _ _ _ => False) C hr L2.pass0 (wa_cons (WE.of (pe_var hi hv hd hcd) ⟨_, h4, wa_nil ⟨_, ns, rfl, Sx.scr hl, fun H' p ex hp hs => ?_⟩⟩) he) hg (by decide) he hpl
      have h3 := snocK_at h3
      obtain ⟨g, S'⟩ := Sx.newC (a := p) (fq := [p]) (c := .src 0) (H' := H') (fun x hx => by
        cases e : W.H x with
        | none => exact absurd e hx
        | some o => exact ex x o e) (by simp) (fun x hx => by
        have : x = p := by simpa using hx
        subst this
        refine ⟨hp, ?_⟩
        obtain ⟨_, _, _, z, _⟩ := hs
        rw [z]
        exact fun z => nomatch z) ⟨rfl, hs⟩
      exact k _ _ _ _ g S' (.inr ⟨_, p, rfl, rfl, len_get Sx.lA⟩) h3
  | _ => exact h3.elim
theorem pt_chain {o p a b d x y z} (f : Cf X n) (ho : o = .lt ∨ o = .le) (hp : p = .lt ∨ p = .le) (ha : PJ X c a x) (hb : PJ X c b y) (hd : PJ X c d z) (hm : lastMarks [cmOf o, cmOf p] [b, d] = false := by with_unfolding_all rfl) : PT X c (.Compare a [cmOf o, cmOf p] [b, d] pos) (.chain o p x y z) := fun ρ μ φ ε h hφ W σ Q Sx k tk =>
  wt_chain (ha ρ μ _ ε h W σ _ Sx (fun W1 v1 t1 μ1 g1 S1 r1 h1 => hb ρ μ1 _ ε h1 W1 σ _ S1 (fun W2 v2 t2 μ2 g2 S2 r2 h2 => by
    obtain ⟨n1, n2⟩ := chain_noptr h2 ho
    refine cmpK_ok f S2 ((r1.go g2).rv n1 |>.rw S2) ((r2.rv n2).rw S2) h2 fun b0 hb0 => ⟨b0, rfl, ?_⟩
    cases b0 with
    | true =>
      rw [if_pos rfl]
      exact hd ρ μ2 _ ε hb0 W2 σ _ S2 (fun W3 v3 t3 μ3 g3 S3 r3 h3 => by
        obtain ⟨n3, n4⟩ := chain_noptr h3 hp
        exact cmpK_ok f S3 (((r2.go g3).rv n3).rw S3) ((r3.rv n4).rw S3) h3 fun b1 hb1 => ⟨b1, rfl, k W3 b1 μ3 ((g1.trans g2).trans g3) S3 hb1⟩) (tk_go (g1.trans g2) tk)
    | false =>
      rw [if_neg Bool.false_ne_true]
      exact ⟨false, rfl, k W2 false μ2 (g1.trans g2) S2 hb0⟩) (tk_go g1 tk)) tk) hm
theorem ps_par2 {i j : Nat} {x y : Str} {a b : Expr} {ia : I} {px py pt : Pos} {kt k2 pt2} (f : Cf X n) (hi : X.N[i]? = some x) (hj : X.N[j]? = some y) (hij : i ≠ j) (ha : PA X c [a, b] ia) (hx : X.env.scope.names.lookup x = some .local := by rfl) (hy : X.env.scope.names.lookup y = some .local := by rfl)
    (hw : swappedStores [.Tuple [.Name x px, .Name y py] kt pt] (.Tuple [a, b] k2 pt2) X.env = pure (some [x, y]) := by rfl)
    (hs : swapsWithSole [.Tuple [.Name x px, .Name y py] kt pt] (.Tuple [a, b] k2 pt2) pos.line X.env = pure false := by rfl) : PS X c (.Assign [.Tuple [.Name x px, .Name y py] kt pt] (.Tuple [a, b] k2 pt2) pos) (.par [i, j] ia) := fun nx rt bk ct ε ρ μ h W σ D Sx l tk => by
  refine WS.of (L2.ps_par f.calm f.nd hi hj hij hx hy pa_w hw hs) (ha ρ μ (fun xs μ => Ir.setsK ρ [i, j] xs fun ρ => nx ρ μ) _ h W σ _ Sx (fun W1 vs ts μ1 g1 S1 r1 h1 => ?_) (tks_e tk))
  match ts, r1, h1 with
  | [t1, t2], .cons q1 (.cons q2 .nil), h1 =>
    refine ⟨_, _, rfl, l.nx W1 _ _ μ1 g1 ((S1.set q1).set q2) (setK_at (setK_at h1))⟩
  | [], _, h1 => exact h1.elim
  | [_], _, h1 => exact (setK_at h1).elim
  | _ :: _ :: _ :: _, _, h1 => exact (setK_at (setK_at h1)).elim
theorem ps_par3 {i j m : Nat} {x y z : Str} {a b d : Expr} {ia : I} {px py pz pt : Pos} {kt k2 pt2} (f : Cf X n) (hi : X.N[i]? = some x) (hj : X.N[j]? = some y) (hm : X.N[m]? = some z) (hij : i ≠ j) (him : i ≠ m) (hjm : j ≠ m) (ha : PA X c [a, b, d] ia) (hx : X.env.scope.names.lookup x = some .local := by rfl) (hy : X.env.scope.names.lookup y = some .local := by rfl) (hz : X.env.scope.names.lookup z = some .local := by rfl)
    (hw : swappedStores [.Tuple [.Name x px, .Name y py, .Name z pz] kt pt] (.Tuple [a, b, d] k2 pt2) X.env = pure (some [x, y, z]) := by rfl)
    (hs : swapsWithSole [.Tuple [.Name x px, .Name y py, .Name z pz] kt pt] (.Tuple [a, b, d] k2 pt2) pos.line X.env = pure false := by rfl) : PS X c (.Assign [.Tuple [.Name x px, .Name y py, .Name z pz] kt pt] (.Tuple [a, b, d] k2 pt2) pos) (.par [i, j, m] ia) := fun nx rt bk ct ε ρ μ h W σ D Sx l tk => by
  refine WS.of (L2.ps_par3 f.calm f.nd hi hj hm hij him hjm hx hy hz pa_w hw hs) (ha ρ μ (fun xs μ => Ir.setsK ρ [i, j, m] xs fun ρ => nx ρ μ) _ h W σ _ Sx (fun W1 vs ts μ1 g1 S1 r1 h1 => ?_) (tks_e tk))
  match ts, r1, h1 with
  | [t1, t2, t3], .cons q1 (.cons q2 (.cons q3 .nil)), h1 =>
    refine ⟨_, _, _, rfl, l.nx W1 _ _ μ1 g1 (((S1.set q1).set q2).set q3) (setK_at (setK_at (setK_at h1)))⟩
  | [], _, h1 => exact h1.elim
  | [_], _, h1 => exact (setK_at h1).elim
  | [_, _], _, h1 => exact (setK_at (setK_at h1)).elim
  | _ :: _ :: _ :: _ :: _, _, h1 => exact (setK_at (setK_at (setK_at h1))).elim
end
end Is
namespace Is
open PySem PySem.Spec PyProof.Rows L2 Wx
open Ir (Tr Cel Mem Ev EK SK EX Con Tg Op Cm I Sm wp wps)
/-- what the head asks of the law -/
def spHead (K : PySem.W.Frag) : Sp := fun vs H Q _ => ∃ (a : Addr) (ns : List Int), vs = [.ref a] ∧ Only H ∧ SqL K H a (ns.map V.int) ∧ ∀ H', Q (.bl true) H'
theorem sp_law {cl : Nat → Addr} {K : PySem.W.Frag} (vs : List V) (H : Hp) (Q : VK) (E : XK) (h : spHead K vs H Q E) : spOf cl K G.c_law vs H Q E := by
  obtain ⟨a, ns, rfl, hO, hS, hQ⟩ := h
  have Sx0 : ∀ F : Hp, (∀ x o, F x = some o → (∃ b, H x = some (.frz b o)) ∧ frzb o = true) → Sa ⟨K, cl⟩ ⟨[], [], H, F, H⟩ [] [] [] := fun F hF =>
    ⟨Ex.refl _, (fun x o h => .inr (hF x o h)), (fun i t h => by simp at h), rfl, rfl, (fun i c h => by simp at h), List.nodup_nil, (fun x h => nomatch h), rfl⟩
  have fin : ∀ F : Hp, (∀ x o, F x = some o → (∃ b, H x = some (.frz b o)) ∧ frzb o = true) → ScrAt K F a (ns.map V.int) → spOf cl K G.c_law [.ref a] H Q E := fun F hF hA =>
    ⟨⟨[], [], H, F, H⟩, [.scr ns], [], fun t _ => t = .bl true, fun _ _ => False, rfl, Sx0 F hF, .cons (.inl (.scr hA)) .nil, ⟨ns, rfl, rfl, rfl⟩, fun W' v t μ' g S' r e => by
      have e : t = .bl true := e
      subst e
      have r := r.rv fun i e => nomatch e
      cases r
      exact hQ _, fun _ _ _ _ _ _ _ _ h => h.elim⟩
  rcases hS with h | h
  · have h2 : ∃ o, H a = some (.frz o (.lst (ns.map V.int))) := by
      rcases h with h | h
      · rcases hO a with z | ⟨o, xs, z⟩
        · rw [z] at h; cases h
        · rw [z] at h; cases h
      · exact h
    obtain ⟨o, h2⟩ := h2
    refine fin (fun x => if x = a then some (.lst (ns.map V.int)) else none) (fun x u hx => ?_) (.inl (if_pos rfl))
    by_cases e : x = a
    · subst e
      have hx := (if_pos rfl).symm.trans hx
      cases hx
      exact ⟨⟨o, h2⟩, rfl⟩
    · have hx := (if_neg e).symm.trans hx
      cases hx
  · exact fin (fun _ => none) (fun x u hx => nomatch hx) (.inr h)
theorem FnOk.cx0 {P : Program} {w : World} {K : PySem.W.Frag} {mg : Str → Option Value} {base : Heap} {CX : CXT} {k : Nat} {f : Addr} {fd : FuncData} {ps : List Str} {sp : Sp} (F : FnOk P w K mg base CX0 k f fd ps sp) : FnOk P w K mg base CX k f fd ps sp :=
  ⟨F.len, fun A outer s H args us vs Q E hr he hb hv hs => codeAny_mono (F.run A outer s H args us vs Q E hr he hb hv hs) fun r s' h => by
    cases r with
    | error e => exact (show False from h).elim
    | ok fl => cases fl <;> exact h⟩
theorem cx_no {P : Program} {w : World} {outer : List Env} {H : Hp} {s s' : Shared} {e : Value} (h : L2.CX P w outer H s (fun _ _ _ => False) e s') : False := by
  obtain ⟨_, _, _, _, _, _, _, _, _, _, _, _, h⟩ := h
  exact h
end Is

/-! Kb: texts backwards, enumerate of a text. -/
namespace L2
open PySem PySem.Spec PyProof.Rows Wx
section
variable {X : Cx}
theorem rev_pick (l : List Nat) : (Builtin.Str.strSliceIndices none none (-1) (S l).length).filterMap ((S l).cps[·]?) = l.reverse := by
  have hz : (S l).length = l.length := by simp [S, Str.length]
  have e1 : Builtin.Str.strSliceIndices none none (-1) (S l).length = sliceRange (((S l).length : Nat) - 1 : Int) (-1) (-1) := rfl
  rw [e1, hz, PySem.W.krv_sliceRange]
  have e2 : ((List.range l.length).map fun k => l.length - 1 - k) = (List.range l.length).reverse := by
    apply List.ext_getElem
    · simp
    · intro i h1 h2
      simp
  rw [e2, List.filterMap_reverse]
  congr 1
  apply List.ext_getElem?
  intro i
  have e3 : (List.range l.length).filterMap ((S l).cps[·]?) = l := by
    have : ∀ (pre l : List Nat) (A : Array Nat), A = (pre ++ l).toArray → (List.range' pre.length l.length).filterMap (A[·]?) = l := by
      intro pre l
      induction l generalizing pre with
      | nil => intro A _; rfl
      | cons c r ih =>
        intro A hA
        rw [List.length_cons, List.range'_succ, List.filterMap_cons]
        have h0 : A[pre.length]? = some c := by rw [hA]; simp
        rw [h0]
        have := ih (pre ++ [c]) A (by rw [hA]; simp)
        rw [List.length_append] at this
        exact congrArg (c :: ·) this
    have h := this [] l (S l).cps (by simp [S])
    rwa [List.length_nil, ← List.range_eq_range'] at h
  rw [e3]
theorem pe_revS {e : Expr} {te : TE} {k : Nat} {p1 p2 p3 pos : Pos} (he : PE X e te) : PE X (.Subscript e (.Slice none none (some (.UnaryOp .USub (.Constant (.int 1) k p1) p2)) p3) pos)
    (fun σ H Q => te σ H fun x H1 => ∃ l, x = .str (S l) ∧ l.length ≤ sizeLine ∧ Q (.str (S l.reverse)) H1) := by
  refine ⟨fun pins s σ H Q I h => Subscript_ (thn (he.run pins s σ H _ I h) ?_)⟩
  rintro v s1 ⟨_, H1, I1, r1, l, rfl, hl, q⟩
  obtain ⟨t, rfl⟩ := r1
  have part : PO X (some (.UnaryOp .USub (.Constant (.int 1) k p1) p2)) _ := po_some (pe_un un_neg pe_int)
  refine wpAny_Slice (thn (po_none.run pins s1 σ H1 (fun o G => o = none ∧ G = H1) I1 ⟨rfl, rfl⟩) ?_)
  rintro vl s2 ⟨_, _, I2, pl, rfl, rfl⟩
  refine thn (po_none.run pins s2 σ _ (fun o G => o = none ∧ G = _) I2 ⟨rfl, rfl⟩) ?_
  rintro vu s3 ⟨_, _, I3, pu, rfl, rfl⟩
  refine thn (part.run pins s3 σ _ (fun o G => o = some (-1) ∧ G = _) I3 ⟨1, rfl, -1, rfl, rfl, rfl⟩) ?_
  rintro vs s4 ⟨_, HX, I4, ps, rfl, rfl⟩
  obtain ⟨pL, rfl, eL⟩ := IsPart.raw pl
  obtain ⟨pU, rfl, eU⟩ := IsPart.raw pu
  obtain ⟨pS, rfl, eS⟩ := IsPart.raw ps
  have eL : pL = none := by simpa using eL
  have eU : pU = none := by simpa using eU
  subst eL eU
  obtain ⟨tk, rfl⟩ : ∃ tk, pS = some (-1, tk) := by
    cases pS with
    | none => simp at eS
    | some z =>
      have : z.1 = -1 := by simpa using eS
      exact ⟨z.2, by rw [← this]⟩
  have J := I4.kept (h' := s4.heap.push { cls := .type "slice", data := .fields #[.none, .none, .int (-1) tk] }) (t' := s4.toks) fun b ob z => Heap.get?_push_of_some _ z
  refine tail_any (ops := [.str (S l) t, .ref s4.heap.objs.size]) (typeIs_str _ _ _) F.slot_str_getitem.lookup ?_ (by with_unfolding_all rfl)
  refine wpAny_getItem_str_slice (l := none) (u := none) (st := some (-1, tk)) ⟨_, Heap.get?_push_size _ rfl, rfl, rfl⟩ rfl ?_
  show Made.post (Made.str ⟨((Builtin.Str.strSliceIndices none none (-1) (S l).length).filterMap ((S l).cps[·]?)).toArray⟩) _ _
  rw [rev_pick]
  exact ⟨by simpa [Str.length] using hl, .str (S l.reverse), _, J.tok _, ⟨_, rfl⟩, q⟩
/-! ### enumerate(text) -/
def IteS (x : Str) : It := ⟨fun i _ => i < x.cps.size, fun i H v H' => ∃ T k, v = .ref T ∧ H T = none ∧ x.cps[i]? = some k ∧ H' = upd H T (.tup [.int (i : Nat), .str ⟨#[k]⟩]), fun i _ => i = x.cps.size⟩
theorem draws_str {P : Program} {w : World} {A : Around} {it : Addr} {x : Str} {t : Tok} {ty : String} (hty : ty = "str_ascii_iterator" ∨ ty = "str_iterator") (hh : A.handled = none) :
    Draws P w A it [it] x.cps.size (fun i v => ∃ c u, x.cps[i]? = some c ∧ v = .str ⟨#[c]⟩ u) (fun i h => h.IsStrIter it ty x t i) := by
  rcases hty with rfl | rfl
  · exact Draws.strAscii hh it x t
  · exact Draws.strWide hh it x t
theorem turn_enumS {P : Program} {w : World} {K : PySem.W.Frag} {elts : List Expr} {kk : Nat} {tpos : Pos} (e it : Addr) (x : Str) (t : Tok) (ty : String) (hty : ty = "str_ascii_iterator" ∨ ty = "str_iterator") :
    Turn P w K (.Tuple elts kk tpos) (IteS x) [e, it] e (fun i h => (∃ old, IsEnum h e it ((i : Nat) : Int) old) ∧ h.IsStrIter it ty x t i ∧ e ≠ it) where
  mem := by simp
  obj := by
    rintro i h ⟨⟨old, he⟩, ⟨o, ho, hc, hd⟩, _⟩ b hb
    rcases (by simpa using hb : b = e ∨ b = it) with rfl | rfl
    · exact ⟨_, he, fun v q => nomatch q⟩
    · exact ⟨o, ho, fun v q => by rw [hd] at q; cases q⟩
  keep := by
    rintro i h h' ⟨⟨old, he⟩, ⟨o, ho, r⟩, hne⟩ k
    exact ⟨⟨old, k e (by simp) _ he⟩, ⟨o, k it (by simp) o ho, r⟩, hne⟩
  item := by
    intro X hP hw hK hc i pins s σ H E I hf st hg
    subst hP hw hK
    obtain ⟨⟨old, he⟩, hit, hne⟩ := st
    have hel := Heap.lt_size he
    have hil : it < s.heap.objs.size := by obtain ⟨_, q, _⟩ := hit; exact Heap.lt_size q
    refine wpAny_pyNext_enum_itemD (draws_str hty (I.ok.hd hc)) he hit hg hne (by simpa using hne) fun v h' tk hv ho hit' hT hsz hk => ?_
    obtain ⟨k, u, hk2, rfl⟩ := hv
    refine ⟨_, rfl, wpAny_letOwnedTupleGo_enum (s := { s with heap := h', toks := tk + 1 }) ho fun h'' he' sb => ?_⟩
    have hT2 := (sb.2 _ (Nat.ne_of_gt hel)).trans hT
    have new : ObjOk X.prog X.w (upd H s.heap.objs.size (.tup [.int (i : Nat), .str ⟨#[k]⟩])) h'' s.heap.objs.size (.tup [.int (i : Nat), .str ⟨#[k]⟩]) :=
      ⟨by show 2 ≤ sizeLine; decide, [.int i tk, .str ⟨#[k]⟩ u], .cons ⟨_, rfl⟩ (.cons ⟨_, rfl⟩ .nil), ⟨_, hT2, rfl, _, rfl⟩⟩
    have J := I.turnedNew (t' := tk + 1) (ch := [e, it]) (fun b ob hb q => (sb.2 b (fun z => hb (by simp [z]))).trans (hk b ob (fun z => hb (by simp [z])) (fun z => hb (by simp [z])) q)) hf (Nat.le_refl _) new
    refine ⟨.ref s.heap.objs.size, _, J, rfl, ⟨_, k, rfl, I.hok.fresh (Nat.le_refl _), hk2, rfl⟩, ⟨⟨.str ⟨#[k]⟩ u, ?_⟩, ?_, hne⟩, fun b hb => ?_⟩
    · rw [show ((i + 1 : Nat) : Int) = (i : Int) + 1 by omega]
      exact he'
    · obtain ⟨o, ho2, r⟩ := hit'
      exact ⟨o, (sb.2 it (Ne.symm hne)).trans ho2, r⟩
    · have hb' : b < s.heap.objs.size := by
        rcases (by simpa using hb : b = e ∨ b = it) with rfl | rfl
        · exact hel
        · exact hil
      rw [upd_ne (Nat.ne_of_lt hb')]
      exact (hf b hb).1
  done := by
    intro X hP hw hK hc i pins s σ H E I hf st hg
    subst hP hw hK
    obtain ⟨⟨old, he⟩, hit, hne⟩ := st
    obtain ⟨f0, f1, f2, f3, f4, f5⟩ := hf it (by simp)
    have hg : i = x.cps.size := hg
    subst hg
    exact wpAny_pyNext_enum_endD (draws_str hty (I.ok.hd hc)) he hit fun h' eb => ⟨rfl, I.turned (t' := s.toks) (fun b o hb q => eb b o hb q) f0 f1 f3 f4 f5⟩
  self := fun A i s Q E st h => by
    obtain ⟨⟨_, he⟩, _⟩ := st
    exact wpAny_pyIter_enum he h
theorem pi_enumS {e : Expr} {ta : TA} {p pos tpos : Pos} {elts : List Expr} {kk : Nat} (hg : Gl X "enumerate") (hm : X.mg "enumerate" = none) (ha : PA X [e] ta) (hs : starEach [e] X.env = [(false, eval e X.env)] := by rfl) :
    PI X (.Tuple elts kk tpos) (.Call (.Name "enumerate" p) [e] [] pos) (fun σ H R => ta σ H fun vs H1 => ∃ x, vs = [.str x] ∧ R (IteS x) H1) := by
  refine ⟨fun pins s σ H R I h => Call_ (ld_blt I hg hm boot_enumerate (PyProof.Rows.callWith_type1 (thn (ha.run pos pins s σ H _ I h) ?_) hs rfl))⟩
  rintro us s1 ⟨vs, H1, I1, r1, x, rfl, q⟩
  cases r1 with
  | cons r rr =>
    cases rr
    obtain ⟨t, rfl⟩ := r
    refine call_enumerate_str fun h' he hit hsz hk => wpAny_pyIter_enum he ?_
    have J := I1.kept (h' := h') (t' := s1.toks) hk
    have hty : strIterType x = "str_ascii_iterator" ∨ strIterType x = "str_iterator" := by
      unfold strIterType
      split
      · exact .inl rfl
      · exact .inr rfl
    refine ⟨s1.heap.objs.size + 1, [s1.heap.objs.size + 1, s1.heap.objs.size], _, _, H1, rfl, J, turn_enumS (s1.heap.objs.size + 1) s1.heap.objs.size x t _ hty, ⟨⟨.none, he⟩, hit, Nat.succ_ne_self _⟩, fun b hb => ?_, q⟩
    have hle : s1.heap.objs.size ≤ b := by
      rcases (by simpa using hb : b = s1.heap.objs.size + 1 ∨ b = s1.heap.objs.size) with rfl | rfl
      · exact Nat.le_add_right _ _
      · exact Nat.le_refl _
    exact I1.fpOk hle (I1.hok.fresh hle)
end
end L2
namespace Is
open PySem PySem.Spec PyProof.Rows L2 Wx
open Ir (Tr Cel Mem Ev EK SK EX Con Tg Op Cm I Sm wp wps)
section
variable {X : Cx} {c : Nat → Addr} {n : Nat} {pos p0 p1 p2 p3 : Pos}
theorem pj_revS {e a} {k : Nat} (ha : PJ X c e a) : PJ X c (.Subscript e (.Slice none none (some (.UnaryOp .USub (.Constant (.int 1) k p1) p2)) p3) pos) (.revS a) := fun ρ μ φ ε h W σ Q Sx kk tk => by
  refine WE.of (pe_revS pe_w) (ha ρ μ _ ε h W σ _ Sx (fun W1 v1 t1 μ1 g1 S1 r1 h1 => ?_) tk)
  cases t1 with
  | str l =>
    have r1 := r1.rv (by intro i e; cases e)
    cases r1
    obtain ⟨hz, h1⟩ := Ir.szK_le h1
    exact ⟨l, rfl, sz_le hz, kk W1 _ _ μ1 g1 S1 (.inl (.str _)) h1⟩
  | _ => exact h1.elim
theorem pn_rev {e a} {k : Nat} (ha : PJ X c e a) : PN X c (.Subscript e (.Slice none none (some (.UnaryOp .USub (.Constant (.int 1) k p1) p2)) p3) pos) (.rev a) := fun ρ μ φ ε h W σ Q Sx kk k2 k3 tk => by
  refine WE.of (pe_revL pe_w) (ha ρ μ _ ε h W σ _ Sx (fun W1 v1 t1 μ1 g1 S1 r1 h1 => ?_) tk)
  obtain ⟨t', r', h1⟩ := r1.view S1 h1
  cases t' with
  | lst ts =>
    obtain ⟨a0, vs, rfl, q1, q2⟩ := r'
    exact ⟨a0, vs, rfl, q1, fun p hp => kk W1 p _ _ μ1 g1 S1 hp q2.rev h1⟩
  | _ => exact h1.elim
theorem pit_enmS {e a} {elts : List Expr} {kk : Nat} {tpos : Pos} (hm : X.mg "enumerate" = none) (ha : PJ X c e a) (hg : Gl X "enumerate" := by rfl) (hse : starEach [e] X.env = [(false, eval e X.env)] := by rfl) : PIt X c (.Tuple elts kk tpos) (.Call (.Name "enumerate" p0) [e] [] pos) (.enmS a) := fun ρ μ ψ ε h W σ R Sx k tk => by
  refine WI.of (pi_enumS hg hm (L2.pa_cons pe_w L2.pa_nil hse) hse) (ha ρ μ _ ε h W σ _ Sx (fun W1 v1 t1 μ1 g1 S1 r1 h1 => ?_) tk)
  cases t1 with
  | str l =>
    have r1 := r1.rv (by intro i e; cases e)
    cases r1
    refine ⟨S l, rfl, k W1 _ _ μ1 g1 S1 (walk_pair fun W2 σ2 ρ2 μ2 g2 S2 => ?_) h1⟩
    have hz : (S l).cps.size = l.length := by simp [S]
    rw [enmL_len, List.length_map]
    refine ⟨fun i hi => by show i < (S l).cps.size; omega, hz.symm, fun i x H' hi hy => ?_⟩
    obtain ⟨T, y, rfl, hT, hy, rfl⟩ := hy
    have hy : l[i]? = some y := by simpa [S] using hy
    refine ⟨T, _, _, rfl, hT, rfl, by rw [enmL_get, List.getElem?_map, hy]; rfl, .cons ?_ (.cons ?_ .nil)⟩
    · rw [Int.zero_add]
      exact .int _
    · exact .str [y]
  | _ => exact h1.elim
end
end Is

/-! Kc: list(range(..)), dict(pairs). -/
namespace Is
open PySem PySem.Spec PyProof.Rows L2 Wx
open Ir (Tr Cel Mem Ev EK SK EX Con Tg Op Cm I Sm wp wps)
section
variable {X : Cx} {c : Nat → Addr} {n : Nat} {pos p0 p1 p2 p3 : Pos}
theorem Rvs.ints {B : Bs} {H F : Hp} : ∀ (ls : List Int), Rvs B H F (ls.map V.int) (ls.map Tr.int)
  | [] => .nil
  | l :: ls => .cons (.int l) (Rvs.ints ls)
theorem rngL_ints (a b : Int) : rgV a b = ((List.range (b - a).toNat).map fun i => a + (i : Nat)).map V.int := by unfold rgV; rw [List.map_map]; rfl
theorem rngL_ints' (a b : Int) : Ir.rngL a b = ((List.range (b - a).toNat).map fun i => a + (i : Nat)).map Tr.int := by unfold Ir.rngL; rw [List.map_map]; rfl
theorem pn_lrng {e a} (f : Cf X n) (hm : X.mg "list" = none) (hr : X.mg "range" = none) (ha : PJ X c e a) (na : starEach [e] X.env = (false, eval e X.env) :: starEach [] X.env := by rfl)
    (nb : starEach [.Call (.Name "range" p1) [e] [] p2] X.env = (false, eval (.Call (.Name "range" p1) [e] [] p2) X.env) :: starEach [] X.env := by rfl) (hg : Gl X "list" := by rfl) (hg2 : Gl X "range" := by rfl) :
    PN X c (.Call (.Name "list" p0) [.Call (.Name "range" p1) [e] [] p2] [] pos) (.lrng a) := fun ρ μ φ ε h W σ Q Sx kk k2 k3 tk => by
  refine WE.of (pe_listRg f.calm hg hm (prg_1 hg2 hr pe_w na) nb) (ha ρ μ _ ε h W σ _ Sx (fun W1 v1 t1 μ1 g1 S1 r1 h1 => ?_) tk)
  cases t1 with
  | int i =>
    obtain ⟨⟨h0, hi⟩, h1⟩ := h1
    have r1 := r1.rv (by intro i e; cases e)
    cases r1
    refine ⟨i, rfl, ?_⟩
    refine ⟨RgOk.of_le (by omega) (by omega) (by omega) h0, fun p hp => kk W1 p _ _ μ1 g1 S1 hp ?_ h1⟩
    rw [rngL_ints, rngL_ints']
    exact Rvs.ints _
  | _ => exact h1.elim
theorem pairs_of {W : Wd} : ∀ {kvs : List (Tr × Tr)} {vs : List V}, Rvs (XB X c) W.H W.F vs (kvs.map fun p => Tr.tup [p.1, p.2]) → (∀ p ∈ kvs, Ir.isKey false p.1 = true) → ∃ (ps : List Addr) (us : List (Key × V)), vs = ps.map V.ref ∧ Paired (fun p kv => SqT X.K W.H p [kV kv.1, kv.2]) ps us ∧ us.map (fun p => kTr p.1) = kvs.map Prod.fst ∧ Rvs (XB X c) W.H W.F (us.map Prod.snd) (kvs.map Prod.snd)
  | [], _, .nil, _ => ⟨[], [], rfl, .nil, rfl, .nil⟩
  | p :: kvs, v :: vs, .cons r rs, h => by
    obtain ⟨ps, us, rfl, h1, h2, h3⟩ := pairs_of rs fun q hq => h q (List.mem_cons_of_mem _ hq)
    have hk := h p List.mem_cons_self
    cases r with
    | tup ha hvs =>
      cases hvs with
      | cons ra rb =>
        cases rb with
        | cons rb rc =>
          cases rc
          have hx : Ir.isAt p.1 = true := by cases e : p.1 <;> rw [e] at hk <;> first | rfl | exact absurd hk Bool.false_ne_true
          rename_i a va vb
          have e : va = kV (trK p.1) := kV_rv hx ra
          subst e
          refine ⟨a :: ps, (trK p.1, vb) :: us, rfl, .cons ha.sq h1, ?_, .cons rb h3⟩
          show kTr (trK p.1) :: us.map (fun p => kTr p.1) = p.1 :: kvs.map Prod.fst
          rw [h2, kTr_trK hx]
theorem merge_of {W : Wd} : ∀ {kvs : List (Tr × Tr)} {us : List (Key × V)} {d : List (Tr × Tr)} {u0 : List (Key × V)}, us.map (fun p => kTr p.1) = kvs.map Prod.fst → Rvs (XB X c) W.H W.F (us.map Prod.snd) (kvs.map Prod.snd) → u0.map (fun p => kTr p.1) = d.map Prod.fst → Rvs (XB X c) W.H W.F (u0.map Prod.snd) (d.map Prod.snd) →
    (mergeK u0 us).map (fun p => kTr p.1) = (kvs.foldl (fun d p => Ir.putT d p.1 p.2) d).map Prod.fst ∧ Rvs (XB X c) W.H W.F ((mergeK u0 us).map Prod.snd) ((kvs.foldl (fun d p => Ir.putT d p.1 p.2) d).map Prod.snd)
  | [], [], d, u0, _, _, h3, h4 => ⟨h3, h4⟩
  | [], _ :: _, d, u0, h1, _, _, _ => by cases h1
  | _ :: _, [], d, u0, h1, _, _, _ => by cases h1
  | p :: kvs, u :: us, d, u0, h1, h2, h3, h4 => by
    have e1 : kTr u.1 = p.1 := List.head_eq_of_cons_eq h1
    have e2 : us.map (fun p => kTr p.1) = kvs.map Prod.fst := List.tail_eq_of_cons_eq h1
    cases h2 with
    | cons ra rb =>
      obtain ⟨q1, q2⟩ := putT_put kTr_eqT u.1 h3 h4 ra
      rw [e1] at q1 q2
      exact merge_of (kvs := kvs) (us := us) (d := Ir.putT d p.1 p.2) (u0 := putK u0 u.1 u.2) e2 rb q1 q2
theorem pn_dictP {e a} (f : Cf X n) (hm : X.mg "dict" = none) (ha : PJ X c e a) (he : starEach [e] X.env = (false, eval e X.env) :: starEach [] X.env := by rfl) (hg : Gl X "dict" := by rfl) :
    PN X c (.Call (.Name "dict" p0) [e] [] pos) (.dictP a) := fun ρ μ φ ε h W σ Q Sx kk k2 k3 tk => by
  refine we_callTy hg hm boot_dict (wa_cons (ha ρ μ _ ε h W σ _ Sx (fun W1 v1 t1 μ1 g1 S1 r1 h1 => wa_nil ?_) tk) he) (by decide) (by decide) he rfl
  obtain ⟨t', r', h1⟩ := r1.view S1 h1
  cases t' with
  | lst ts =>
    obtain ⟨kvs, rfl, hk, h1⟩ := h1
    obtain ⟨a0, vs, rfl, q1, q2⟩ := r'
    obtain ⟨ps, us, rfl, h3, h4, h5⟩ := pairs_of q2 hk
    obtain ⟨m1, m2⟩ := merge_of (d := []) (u0 := []) h4 h5 rfl .nil
    exact WC.of (call_dictP f.calm) ⟨a0, ps, us, rfl, q1, h3, fun p hp => k2 W1 p _ _ μ1 g1 S1 hp m1 m2 h1⟩
  | _ => exact h1.elim
end
end Is

/-! Kd: dict comprehensions whose keys are tuples. -/
namespace L2
open PySem PySem.Spec PyProof.Rows
section
variable {X : Cx}
/-- a tuple as a key is put by a comprehension -/
theorem put_tup {pins : List (Addr × Obj)} {σ : St} {H : Hp} {s : Shared} {E : Value → Shared → Prop} {D b : Addr} {d : List (List Key × V)} {k : List Key} {v : V} {r : Value} {Q : Unit → Shared → Prop} (hu : X.A.units + 1 < cLine) (I : Inv X pins σ H s) (hD : H D = some (.dT d)) (hb : H b = some (.tup (k.map kV)))
    (hz : d.length < sizeLine) (rv : RelV v r) (h : ∀ s', Inv X pins σ (upd H D (.dT (putK d k v))) s' → Q () s') : wpAny (model X.prog X.w) X.A (dictSet D (.ref b) r) Q E s := by
  obtain ⟨lz, nd, xs, rel, dd⟩ := dt_of I.hok hD
  have lx : xs.length ≤ sizeLine := by rw [← Paired.length rel]; exact lz
  have lp : (putK d k v).length ≤ sizeLine := by have := length_putK d k v; omega
  refine wpAny_dictSet_heap (hsz := lx) (show X.A.units < cLine by omega) (key_of I.hok hb) dd fun h' dd' hs => h _ ?_
  obtain ⟨q, es, ep, hq, g2, g3, g4, _, g5⟩ := dd'
  have kp : ∀ c ys, H c = some (.tup ys) → upd H D (.dT (putK d k v)) c = some (.tup ys) := fun c ys ec => by
    rw [upd_ne (ne_of ec hD (fun z => nomatch z))]
    exact ec
  exact d_write I (by rw [hD]; exact True.intro) hs ⟨q, hq⟩ ⟨lp, nd, _, (rel.put k hb rv).keeps kp, q, es, ep, hq, g2, g3, g4, g5⟩
end
end L2
namespace L2
open PySem PySem.Spec PyProof.Rows
/-- {k: v for target in iter}, the keys tuples: D the new dict -/
def tDcT (wi : TI) (g : TG) (tk tv : TE) (vs : List Nat) : TE := fun σ H Q => wi σ H fun J H1 => ∀ D, H1 D = none → ∃ W : Nat → Nat → Hp → Prop, (∃ m, W 0 m (upd H1 D (.dT []))) ∧ ∀ i m G, W i m G →
  (J.stop i G ∧ Q (.ref D) G) ∨ (J.go i G ∧ ∃ Nx : Hp → Prop, (∀ G', Nx G' → ∃ m', m' < m ∧ W (i + 1) m' G') ∧ ∀ x G', J.yld i G x G' → g x (wipe σ vs) G' fun σ2 G2 => wipe σ2 vs = wipe σ vs ∧
    tk σ2 G2 fun y G4 => tv σ2 G4 fun z G5 => ∃ d k b, y = .ref b ∧ G5 b = some (.tup (k.map kV)) ∧ G5 D = some (.dT d) ∧ d.length < sizeLine ∧ Nx (upd G5 D (.dT (putK d k z))))
section
variable {X : Cx}
theorem dcT_core {pins : List (Addr × Obj)} {s : Shared} {σ : St} {H : Hp} {Q : VK} {kx vx tg iter : Expr} {scope : Scope} {own : List (Str × Nat)} {pos pos' : Pos} {wi : TI} {g : TG} {tk tv : TE} {use : Option (Value → Sem Unit)} {Qf : Value → Shared → Prop}
    (hu : X.A.units + 1 < cLine) (hc : X.calm = true) (hN : X.N.Nodup) (I : Inv X pins σ H s) (hi : PI X tg iter wi) (ok : BlkOk X.N X.env.scope scope own)
    (hg : ∀ (s : Shared) (H : Hp) (C : Addr) (cl : List (Str × Addr)) (fp : List Addr), PG (X.blk s H scope (compEnvC scope cl C X.env) fp) tg g)
    (hk : ∀ (s : Shared) (H : Hp) (C : Addr) (cl : List (Str × Addr)) (fp : List Addr), PE (X.blk s H scope (compEnvC scope cl C X.env) fp) kx tk)
    (hv : ∀ (s : Shared) (H : Hp) (C : Addr) (cl : List (Str × Addr)) (fp : List Addr), PE (X.blk s H scope (compEnvC scope cl C X.env) fp) vx tv) (hs : ∀ x, foldedSetIterable iter X.env x = pure x)
    (h : tDcT wi g tk tv (own.map (·.2)) σ H Q)
    (fin : ∀ D C s' m H', Inv X pins σ H' s' → Q (.ref D) H' → s'.heap.Ns C m → FpOk X pins H' C → compPost (model X.prog X.w) X.A X.xe use Qf (.ref D) C (.ok .next) s') :
    wpAny (model X.prog X.w) X.A (comprehension (.DictComp kx vx [⟨tg, iter, [], 0⟩] scope pos) scope X.env pos' newDict false (eval iter X.env) use) Qf X.xe s := by
  have fr : ∀ y ∈ scope.names, y.2 = .free → ∃ c, X.env.cells.lookup y.1 = some c := fun y hy e => (ok.free y hy e).elim (fun z => I.ok.has _ (.inl z)) fun z => I.ok.has _ (.inr z)
  refine wpAny_comprehension_free (use := use) rfl hs (closure_ok fr) ok.kind (fun y hy e => by rw [ok.uniq y hy, e]) (thn (hi.run pins s σ H _ I h) fun _ _ hx => thn hx ?_)
  rintro _ s2 ⟨it, fp, tn, J, H2, rfl, I2, T, st2, f2, q⟩
  refine wpAny_newObj_type (newEnv_comp ?_)
  generalize eD : s2.heap.objs.size = D
  obtain ⟨W, ⟨m0, w0⟩, turn⟩ := q D (I2.hok.fresh (Nat.le_of_eq eD))
  -- the new dict
  generalize es3 : ({ s2 with heap := s2.heap.push { cls := .type "dict", data := .dict #[] } } : Shared) = s3
  generalize eH3 : upd H2 D (.dT []) = H3 at w0
  have hp3 : s3.heap = s2.heap.push { cls := .type "dict", data := .dict #[] } := by rw [← es3]
  have I3 : Inv X pins σ H3 s3 := by
    rw [← eH3, ← es3]
    refine I2.laid (t' := s2.toks) (fun b o e => Heap.get?_push_of_some _ e) (Nat.le_of_eq eD) ?_
    rw [← eD]
    exact dt_empty s2.heap I2.big
  have small : ∀ b ∈ fp, b < s2.heap.objs.size := fun b hb => let ⟨_, e, _⟩ := T.obj _ _ st2 b hb; Heap.lt_size e
  have f3 : ∀ b ∈ fp, FpOk X pins H3 b ∧ b < s3.heap.objs.size := fun b hb => by
    have lt := small b hb
    refine ⟨⟨?_, (f2 b hb).2⟩, by rw [hp3, Heap.size_push]; exact Nat.lt_succ_of_lt lt⟩
    rw [← eH3, upd_ne (by rw [← eD]; exact Nat.ne_of_lt lt)]
    exact (f2 b hb).1
  have st3 : tn 0 s3.heap := T.keep _ _ _ st2 fun b _ o e => by rw [hp3]; exact Heap.get?_push_of_some _ e
  have I4 := block_start I3 ok hN f3
  have pg := hg s3 H3 s3.heap.objs.size (cellsFrom (s3.heap.objs.size + 1) scope.names (cloFrom X.env.cells scope.names [])) fp
  have pk := hk s3 H3 s3.heap.objs.size (cellsFrom (s3.heap.objs.size + 1) scope.names (cloFrom X.env.cells scope.names [])) fp
  have pv := hv s3 H3 s3.heap.objs.size (cellsFrom (s3.heap.objs.size + 1) scope.names (cloFrom X.env.cells scope.names [])) fp
  show codeAny _ _ (.compStart _ 0 (.ref it) (.ref D) (compEnvC scope (cellsFrom (s3.heap.objs.size + 1) scope.names (cloFrom X.env.cells scope.names [])) s3.heap.objs.size X.env)) (compPost _ _ _ use Qf (.ref D) s3.heap.objs.size) { s3 with heap := pushCells (s3.heap.push { cls := .type "dict", data := .dict #[] }) scope.names }
  generalize ece : compEnvC scope (cellsFrom (s3.heap.objs.size + 1) scope.names (cloFrom X.env.cells scope.names [])) s3.heap.objs.size X.env = ce at I4 pg pk pv ⊢
  have loc : ce.locals = s3.heap.objs.size := by subst ece; rfl
  generalize es4 : ({ s3 with heap := pushCells (s3.heap.push { cls := .type "dict", data := .dict #[] }) scope.names } : Shared) = s4 at I4 ⊢
  have st4 : tn 0 s4.heap := T.keep _ _ _ st3 fun b _ o e => by rw [← es4]; exact pushCells_keeps _ _ _ _ (Heap.get?_push_of_some _ e)
  have own_fp : ∀ {σ' : St} {G : Hp} {t : Shared}, Inv (X.blk s3 H3 scope ce fp) [] σ' G t → (∀ b ∈ fp, G b = none) → ∀ b ∈ fp, FpOk (X.blk s3 H3 scope ce fp) [] G b := fun {σ' G t} J' hn b hb =>
    ⟨hn b hb, (J'.ok.exf b hb).1, J'.ok.exfs b hb, .inl hb, fun x c e => (J'.ok.exf b hb).2 x c e, fun p hp => nomatch (show p ∈ ([] : List (Addr × Obj)) from hp)⟩
  have loop : codeAny (model X.prog X.w) X.A (.compLoop (.DictComp kx vx [⟨tg, iter, [], 0⟩] scope pos) 0 (.ref it) (.ref D) ce) (compPost (model X.prog X.w) X.A X.xe use Qf (.ref D) s3.heap.objs.size) s4 := by
    refine compLoop_anyD (fun n t => ∃ i G, Inv (X.blk s3 H3 scope ce fp) [] (wipe σ (own.map (·.2))) G t ∧ tn i t.heap ∧ (∀ b ∈ fp, G b = none) ∧ W i n G) ?_ m0 ⟨0, H3, I4, st4, fun b hb => (f3 b hb).1.1, w0⟩
    rintro n s5 ⟨i, H5, I5, st5, n5, w5⟩
    rcases turn i n H5 w5 with ⟨stop, qq⟩ | ⟨go, Nx, hNx, step⟩
    · refine thnF (T.done (X.blk s3 H3 scope ce fp) rfl rfl rfl hc i [] s5 _ H5 (fun _ _ => False) I5 (own_fp I5 n5) st5 stop) ?_
      rintro _ s6 ⟨rfl, I6⟩
      have back := I3.call' (ch := fp) I6.os I6.base I6.hok I6.bare fun b hb => ⟨(f3 b hb).1.2.2.2.1, (f3 b hb).1.2.1, (f3 b hb).1.2.2.2.2.1, (f3 b hb).1.2.2.2.2.2⟩
      obtain ⟨mm, hn, _⟩ := I6.loc
      have hn : s6.heap.Ns ce.locals mm := hn
      have fz : H5 ce.locals = none := I6.free
      rw [loc] at hn fz
      exact fin D s3.heap.objs.size s6 mm H5 back qq hn (I3.fpOk (Nat.le_refl _) fz)
    · refine thnF (T.item (X.blk s3 H3 scope ce fp) rfl rfl rfl hc i [] s5 _ H5 (fun _ _ => False) I5 (own_fp I5 n5) st5 go) ?_
      rintro _ s6 ⟨u, rfl, h6⟩
      refine thnF h6 ?_
      rintro _ s7 ⟨x, H7, I7, r7, y7, st7, n7⟩
      refine thnF (pg.run _ s7 _ H7 x u _ (I7.pinned (own_fp I7 n7) (T.obj _ _ st7)) r7 (step x H7 y7)) ?_
      rintro _ s8 ⟨σ8, H8, I8, hw8, q8⟩
      refine thnF ((pts_nil (X := X.blk s3 H3 scope ce fp)).run _ s8 σ8 H8 (fun b G => b = true ∧ G = H8) I8 ⟨rfl, rfl⟩) ?_
      rintro _ s9 ⟨_, I9, rfl, rfl⟩
      simp only [if_true]
      refine thnF (pk.run _ s9 σ8 _ _ I9 q8) ?_
      rintro z s10 ⟨_, H10, I10, r10, q10⟩
      refine thnF (pv.run _ s10 σ8 H10 _ I10 q10) ?_
      rintro z2 s11 ⟨yv, H11, I11, r11, d, k, b, rfl, hb, hD11, hz11, nx⟩
      cases (show z = Value.ref b from r10)
      refine put_tup (X := X.blk s3 H3 scope ce fp) hu I11 hD11 hb hz11 r11 fun s12 I12 => ?_
      obtain ⟨m', lm, w'⟩ := hNx _ nx
      have pin : ∀ c ∈ fp, ∀ o, s7.heap.get? c = some o → s12.heap.get? c = some o ∧ upd H11 D (.dT (putK d k yv)) c = none := fun c hc o e =>
        let z := I12.pin (c, o) (List.mem_append_right _ (List.mem_append_right _ (mem_pinsAt hc e)))
        ⟨z.1, z.2.1⟩
      have hl : (wipe σ (own.map (·.2))).length = σ8.length := by rw [← hw8, wipe_length]
      refine ⟨m', lm, i + 1, _, (I12.unpinned (pins := [])).weak hl (fun j v e => ?_), T.keep _ _ _ st7 fun c hc o e => (pin c hc o e).1, fun c hc => ?_, w'⟩
      · rw [← hw8] at e
        exact (wipe_some e).1
      · obtain ⟨o, e, _⟩ := T.obj _ _ st7 c hc
        exact (pin c hc o e).2
  exact codeAny_compStart_dict loop (T.self X.A 0 _ _ _ st4 loop)
end
end L2
namespace L2
open PySem PySem.Spec PyProof.Rows Wx
theorem pe_dcT {X : Cx} {kx vx tg iter : Expr} {scope : Scope} {own : List (Str × Nat)} {pos : Pos} {wi : TI} (hu : X.A.units + 1 < cLine) (hc : X.calm = true) (hN : X.N.Nodup) (hi : PI X tg iter wi) (ok : BlkOk X.N X.env.scope scope own) (hs : nofold iter X.env) :
    PE X (.DictComp kx vx [⟨tg, iter, [], 0⟩] scope pos) (tDcT wi (gB X scope tg) (eB X scope kx) (eB X scope vx) (own.map (·.2))) := by
  refine ⟨fun pins s σ H Q I h => ?_⟩
  rw [arm_eval_DictComp]
  refine dcT_core hu hc hN I hi ok (fun s H0 C cl fp => ⟨fun pins s' σ H v u Q I r h => pg_w.run pins s' σ H v u Q I r (h s H0 C cl fp)⟩) (fun s H0 C cl fp => ⟨fun pins s' σ H Q I h => pe_w.run pins s' σ H Q I (h s H0 C cl fp)⟩)
    (fun s H0 C cl fp => ⟨fun pins s' σ H Q I h => pe_w.run pins s' σ H Q I (h s H0 C cl fp)⟩) hs h fun D C s' m H' J q hn f => ⟨m, hn, fun h2 sb => ?_⟩
  obtain ⟨f0, f1, f2, f3, f4, f5⟩ := f
  exact ⟨.ref D, H', J.turned (t' := s'.toks) (fun b o hb e => (sb.2 b hb).trans e) f0 f1 f3 f4 f5, rfl, q⟩
end L2
namespace Is
open PySem PySem.Spec PyProof.Rows L2 Wx
open Ir (Tr Cel Mem Ev EK SK EX Con Tg Op Cm I Sm wp wps)
section
variable {X : Cx} {c : Nat → Addr} {n : Nat} {pos : Pos}
theorem key_tup {B : Bs} {H F : Hp} {v : V} {ks : List Tr} (h : ks.all Ir.isAt = true) (r : Rv B H F v (.tup ks)) : ∃ b, v = .ref b ∧ H b = some (.tup ((ks.map trK).map kV)) := by
  cases r with
  | tup ha hvs =>
    have e2 := kVs_rv h hvs
    have ha : H _ = some _ := ha
    exact ⟨_, rfl, by rw [ha, e2]⟩
theorem dc_goT {kx vx tg iter : Expr} {scope : Scope} {own : List (Str × Nat)} {g : Tg} {i ke ve : I} (hi : PIt X c tg iter i)
    (hg : ∀ s H0 C cl fp, PGt (Bk X scope s H0 C cl fp) c tg g) (hgs : ∀ j ∈ slots g, j ∈ own.map (·.2)) (hk : ∀ s H0 C cl fp, PJ (Bk X scope s H0 C cl fp) c kx ke) (he : ∀ s H0 C cl fp, PJ (Bk X scope s H0 C cl fp) c vx ve)
    {ρ μ φ ε} (hw : wp (.dcomp true g (own.map (·.2)) i ke ve) ρ μ φ ε) {W : Wd} {σ : L2.St} {Q : VK} (Sx : Sa (XB X c) W σ ρ μ)
    (k : ∀ W' p us kvs μ', Go W W' → Sa (XB X c) W' σ ρ μ' → W'.H p = none → us.map (fun q => kTs q.1) = kvs.map Prod.fst → Rvs (XB X c) W'.H W'.F (us.map Prod.snd) (kvs.map Prod.snd) → φ (.dic true kvs) μ' → Q (.ref p) (upd W'.H p (.dT us))) (tk : Takes X (xW (XB X c) W σ ρ ε)) :
    tDcT (WI X tg iter) (gB X scope tg) (eB X scope kx) (eB X scope vx) (own.map (·.2)) σ W.H Q := by
  refine hi ρ μ (fun ts μ => Ir.szK ts.length (Ir.dcompK true (fun t μ k => Ir.tgK g t (Ir.wipeE ρ (own.map (·.2))) fun ρ => wp ke ρ μ (fun x μ => wp ve ρ μ (fun y μ => match y with | .ptr _ => False | y => k x y μ) (fun _ _ => False)) (fun _ _ => False)) ts [] μ fun kvs μ => φ (.dic true kvs) μ)) ε hw W σ _ Sx (fun W1 J ts μ1 g1 S1 wk h1 => ?_) tk
  obtain ⟨hz, h1⟩ := Ir.szK_le h1
  intro D hD
  have hG1 := S1.gnone hD
  obtain ⟨f0, S0⟩ := S1.fill0 (o := .dT []) hD
  refine ⟨fun i m H => ∃ W2 μ2 us kvs, W2.H = H ∧ Fill W1 W2 D (.dT us) ∧ Sa (XB X c) W2 σ ρ μ2 ∧ us.map (fun q => kTs q.1) = kvs.map Prod.fst ∧ Rvs (XB X c) W2.H W2.F (us.map Prod.snd) (kvs.map Prod.snd) ∧ kvs.length ≤ i ∧ i + m = ts.length ∧ Ir.dcompK true (fun t μ k => Ir.tgK g t (Ir.wipeE ρ (own.map (·.2))) fun ρ => wp ke ρ μ (fun x μ => wp ve ρ μ (fun y μ => match y with | .ptr _ => False | y => k x y μ) (fun _ _ => False)) (fun _ _ => False)) (ts.drop i) kvs μ2 fun kvs μ => φ (.dic true kvs) μ, ⟨ts.length, _, μ1, [], [], rfl, f0, S0, rfl, .nil, Nat.le_refl _, Nat.zero_add _, h1⟩, fun i m H hW => ?_⟩
  obtain ⟨W2, μ2, us, kvs, rfl, fl, S2, ek, r2, hl2, hm, hk1⟩ := hW
  obtain ⟨w1, w2, w3⟩ := wk W2 σ ρ μ2 fl.g.gf S2
  have hDl := S2.gh D _ fl.G
  have hul : us.length = kvs.length := by have := congrArg List.length ek; simpa using this
  by_cases hi' : i < ts.length
  · refine .inr ⟨w1 i hi', fun H' => ∃ W2 μ2 us kvs, W2.H = H' ∧ Fill W1 W2 D (.dT us) ∧ Sa (XB X c) W2 σ ρ μ2 ∧ us.map (fun q => kTs q.1) = kvs.map Prod.fst ∧ Rvs (XB X c) W2.H W2.F (us.map Prod.snd) (kvs.map Prod.snd) ∧ kvs.length ≤ i + 1 ∧ Ir.dcompK true (fun t μ k => Ir.tgK g t (Ir.wipeE ρ (own.map (·.2))) fun ρ => wp ke ρ μ (fun x μ => wp ve ρ μ (fun y μ => match y with | .ptr _ => False | y => k x y μ) (fun _ _ => False)) (fun _ _ => False)) (ts.drop (i + 1)) kvs μ2 fun kvs μ => φ (.dic true kvs) μ, fun H' ⟨W3, μ3, us3, kvs3, e1, e2, e3, e4, e5, e6, e7⟩ => ⟨m - 1, by omega, W3, μ3, us3, kvs3, e1, e2, e3, e4, e5, e6, by omega, e7⟩, fun x H' hy => ?_⟩
    obtain ⟨t, W3, htt, rfl, g3, S3, rt⟩ := w3 i x H' hi' hy
    rw [List.drop_eq_getElem_cons hi', show ts[i] = t from (List.getElem?_eq_some_iff.mp htt).2] at hk1
    rw [Ir.dcompK_cons] at hk1
    have fl3 := fl.go g3
    have r3 := r2.mono g3.t g3.f
    intro s H0 C cl fp
    refine hg s H0 C cl fp (Ir.wipeE ρ (own.map (·.2))) μ2 t _ hk1 W3 _ x _ (S3.wiped _) (.inl rt) fun σ4 ρ4 S4 e4 l4 h4 => ⟨?_, ?_⟩
    · rw [wipe_length] at l4
      exact wipe_eq l4 fun j hj => (e4 j fun hs => hj (hgs j hs)).trans (wipe_out hj)
    · intro s H0 C cl fp
      refine hk s H0 C cl fp ρ4 μ2 _ _ h4 W3 σ4 _ S4 (fun W5 v5 t5 μ5 g5 S5 r5 h5 => ?_) tk_no
      intro s H0 C cl fp
      refine he s H0 C cl fp ρ4 μ5 _ _ h5 W5 σ4 _ S5 (fun W6 v6 t6 μ6 g6 S6 r6 h6 => ?_) tk_no
      have fl6 := (fl3.go g5).go g6
      have hn : ∀ j, t6 ≠ .ptr j := fun j e => by subst e; exact h6
      have h6' : Ir.isKey true t5 = true ∧ Ir.dcompK true (fun t μ k => Ir.tgK g t (Ir.wipeE ρ (own.map (·.2))) fun ρ => wp ke ρ μ (fun x μ => wp ve ρ μ (fun y μ => match y with | .ptr _ => False | y => k x y μ) (fun _ _ => False)) (fun _ _ => False)) (ts.drop (i + 1)) (Ir.putT kvs t5 t6) μ6 fun kvs μ => φ (.dic true kvs) μ := by
        cases t6 <;> first | exact h6 | exact h6.elim
      have rv6 := r6.rv hn
      obtain ⟨ks, rfl, hat⟩ : ∃ ks, t5 = .tup ks ∧ ks.all Ir.isAt = true := by
        have := h6'.1
        cases t5 <;> first | exact absurd this Bool.false_ne_true | exact ⟨_, rfl, this⟩
      have rv5 : Rv (XB X c) W5.H W5.F v5 (.tup ks) := r5.rv fun j e => nomatch e
      obtain ⟨bb, e5, hb5⟩ := key_tup hat rv5
      refine ⟨us, ks.map trK, bb, e5, g6.t _ _ hb5, S6.gh D _ fl6.G, sz_lt (by omega), ?_⟩
      obtain ⟨f7, t7, S7⟩ := S6.fill1 (u := .dT (L2.putK us (ks.map trK) v6)) fl6 True.intro hG1
      have r6' := (r3.mono g5.t g5.f).mono g6.t g6.f
      obtain ⟨p1, p2⟩ := putT_put kTs_eqT (ks.map trK) ek r6' rv6
      rw [kTs_trK hat] at p1 p2
      have := putT_len kvs (.tup ks) t6
      exact ⟨_, μ6, _, Ir.putT kvs (.tup ks) t6, rfl, f7, S1.env' S7 f7.g, p1, p2.mono t7 (Ex.refl _), by omega, h6'.2⟩
  · have e : i = ts.length := by omega
    subst e
    refine .inl ⟨w2, ?_⟩
    rw [List.drop_of_length_le (Nat.le_refl _)] at hk1
    rw [Ir.dcompK_nil] at hk1
    have hk1 : φ (.dic true kvs) μ2 := hk1
    obtain ⟨g3, t3, S3⟩ := S2.fill2 fl True.intro hG1
    have := k _ D us kvs μ2 (g1.trans g3) (S1.env' S3 g3) delH_same ek (r2.mono t3 (Ex.refl _)) hk1
    rw [show upd ({ W2 with G := delH W2.G D, H := delH W2.H D } : Wd).H D (.dT us) = W2.H from upd_del hDl] at this
    exact this
theorem pn_dcT {kx vx tg iter : Expr} {scope : Scope} {own : List (Str × Nat)} {vs : List Nat} {g : Tg} {i ke ve : I} (f : Cf X n) (ok : BlkOk X.N X.env.scope scope own) (hvs : vs = own.map (·.2)) (hgs : ∀ j ∈ slots g, j ∈ vs) (hi : PIt X c tg iter i) (hg : ∀ s H0 C cl fp, PGt (Bk X scope s H0 C cl fp) c tg g)
    (hk : ∀ s H0 C cl fp, PJ (Bk X scope s H0 C cl fp) c kx ke) (he : ∀ s H0 C cl fp, PJ (Bk X scope s H0 C cl fp) c vx ve) (hs : nofold iter X.env := by intro _; rfl) : PN X c (.DictComp kx vx [⟨tg, iter, [], 0⟩] scope pos) (.dcomp true g vs i ke ve) := fun ρ μ φ ε hw W σ Q Sx k k2 k3 tk => by
  subst hvs
  exact WE.of (pe_dcT f.hu1 f.calm f.nd pi_w ok hs) (dc_goT hi hg hgs hk he hw Sx k3 tk)
end
end Is

/-! Ke: isinstance and == of own classes. -/
namespace L2
open PySem PySem.Spec PyProof.Rows Wx
/-- == of two instances of the class C, whose def is at g -/
structure EqO (P : Program) (w : World) (K : PySem.W.Frag) (mg : Str → Option Value) (base : Heap) (CX : CXT) (k : Nat) (C : Addr) (sp : Sp) : Prop where
  ex : ∃ g fd ps, PySem.W.findIn K (.ref C) "__eq__" = some (some (.ref g)) ∧ PySem.W.isFn K (.ref g) = true ∧ PySem.W.notFirst K C (.ref C) = true ∧ FnOk P w K mg base CX k g fd ps sp ∧ Binds K fd ps []
section
variable {X : Cx}
theorem op_eqI {C : Addr} {sp : Sp} {CX : CXT} {E : XK} {n : Nat} (R : EqO X.prog X.w X.K X.mg X.base CX n C sp) (hr : Room n X.A) (hx : Passes CX X E) : OpR X (compareOp .Eq) (fun x y H Q => ∃ a dx fs b dy gs, x = .ref a ∧ y = .ref b ∧ H a = some (.ins C dx fs) ∧ H b = some (.ins C dy gs) ∧ sp [x, y] H Q E) := by
  obtain ⟨g, fd, ps, hs, hf, hn, F, hb⟩ := R.ex
  rintro pins s σ H x y v u Q I rx ry ⟨a, dx, fs, b, dy, gs, rfl, rfl, ha, hb2, q⟩
  cases (show v = Value.ref a from rx)
  cases (show u = Value.ref b from ry)
  obtain ⟨ox, od, J, _⟩ := StX.insC_at I (.inr ⟨dx, fs, ha⟩)
  obtain ⟨ox', od', J', _⟩ := StX.insC_at I (.inr ⟨dy, gs, hb2⟩)
  obtain ⟨m, hF⟩ := I.fr
  rw [show compareOp .Eq (.ref a) (.ref b) = richCompare .Eq (.ref a) (.ref b) from rfl]
  refine PySem.W.cmp_K (op := .Eq) (tb := .ref C) hr.units0 hF I.ok.mod.kin J J'.type hn hs hf ?_
  refine wpAny_mono (run_fn (us := [.ref a, .ref b]) (vs := [.ref a, .ref b]) F hr hb .nil hx I (.cons rfl (.cons rfl .nil)) q) (fun z s' hz => ?_) fun _ _ e => e
  obtain ⟨z', H', I', rz, qz⟩ := hz
  exact SlX.cmpback rz ⟨z', H', I', rz, qz⟩
end
end L2
namespace Is
open PySem PySem.Spec PyProof.Rows L2 Wx
open Ir (Tr Cel Mem Ev EK SK EX Con Tg Op Cm I Sm wp wps)
section
variable {X : Cx} {c : Nat → Addr} {n : Nat} {pos p0 p1 p2 p3 : Pos}
/-- what isinstance asks of an own class that stands under the name x -/
structure IsC (K : PySem.W.Frag) (mg : Str → Option Value) (x : Str) (C : Addr) : Prop where
  c : C8.InsC K C
  m : mg x = some (.ref C)
theorem pj_isO {e a} {x : Str} {d : Nat} (hm : X.mg "isinstance" = none) (R : IsC X.K X.mg x (c d)) (ha : PJ X c e a) (hg : Gl X "isinstance" := by rfl) (hgx : Gl X x := by rfl) (hdx : (x == ("__debug__" : Str)) = false := by decide)
    (hs : starEach [e, .Name x p1] X.env = (false, eval e X.env) :: starEach [.Name x p1] X.env := by rfl) (hs2 : starEach [.Name x p1] X.env = (false, eval (.Name x p1) X.env) :: starEach [] X.env := by rfl) (hpl : (backTo pos (starEach [.Name x p1] X.env)).any (·.1) = false := by rfl) :
    PJ X c (.Call (.Name "isinstance" p0) [e, .Name x p1] [] pos) (.isO d a) := fun ρ μ φ ε h W σ Q Sx k tk => by
  refine we_isi hm (wa_cons (ha ρ μ _ ε h W σ _ Sx (fun W1 v1 t1 μ1 g1 S1 r1 h1 => ?_) tk) hs) hg hs hpl
  refine wa_cons (we_glob (v := .ref (c d)) hgx R.m rfl (wa_nil ?_) hdx) hs2
  obtain ⟨a0, dx, fvs, fs, rfl, q1, q2, q3, q4⟩ := cls_at S1 r1 h1
  exact WC.of (C8.call_isC R.c) ⟨a0, dx, fvs, rfl, q1, k W1 _ _ μ1 g1 S1 (.inl (.bl _)) q4⟩
theorem pass_noX {P w} (h1 : X.prog = P) (h2 : X.w = w) : Passes (L2.CX P w) X (fun _ _ _ => False) := by
  subst h1; subst h2
  intro pins σ H s e s' I ⟨_, _, _, _, _, _, _, _, _, _, _, _, h⟩
  exact h.elim
theorem pj_eqO {a b x y con k} {d : Nat} (R : EqO X.prog X.w X.K X.mg X.base (L2.CX X.prog X.w) k (c d) (spOf c X.K con)) (hr : Room k X.A) (ha : PJ X c a x) (hb : PJ X c b y) (hm : behindInMarks .Eq b = false := by with_unfolding_all rfl) : PJ X c (.Compare a [.Eq] [b] pos) (.eqO d con false x y) := fun ρ μ φ ε h W σ Q Sx kk tk => by
  refine WE.of (pe_cmpR (op_eqI (E := fun _ _ _ => False) R hr (pass_noX rfl rfl)) pe_w pe_w hm) (ha ρ μ _ ε h W σ _ Sx (fun W1 v1 t1 μ1 g1 S1 r1 h1 => hb ρ μ1 _ ε h1 W1 σ _ S1 (fun W2 v2 t2 μ2 g2 S2 r2 h2 => ?_) (tk_go g1 tk)) tk)
  obtain ⟨a1, dx, fvs, fs, rfl, q1, _, _, h3⟩ := cls_at S2 (r1.go g2) h2
  obtain ⟨a2, dy, gvs, gs, rfl, q2, _, _, h4⟩ := cls_at S2 r2 h3
  refine ⟨a1, dx, fvs, a2, dy, gvs, rfl, rfl, q1, q2, call_frame S2 (.cons (r1.go g2) (.cons r2 .nil)) h4 (fun W3 v t μ3 g3 S3 r3 h5 => ?_) fun _ _ _ _ _ _ _ _ hh => hh⟩
  cases t with
  | bl z => exact kk W3 v _ μ3 ((g1.trans g2).trans g3) S3 r3 h5
  | _ => exact h5.elim
end
end Is

/-! Kf: list comprehensions of two walks. -/
namespace Is
open PySem PySem.Spec PyProof.Rows L2 Wx
open Ir (Tr Cel Mem Ev EK SK EX Con Tg Op Cm I Sm wp wps)
section
variable {X : Cx} {c : Nat → Addr} {n : Nat} {pos : Pos}
def iB (X : Cx) (scope : Scope) (tg iter : Expr) : TI := fun σ H R => ∀ s H0 C cl fp, WI (Bk X scope s H0 C cl fp) tg iter σ H R
def inF (g1 : Tg) (own1 : List Nat) (ce e' : I) (ρ : Ev) : Tr → Mem → (Option Tr → Mem → Prop) → Prop := fun u μ k => Ir.tgK g1 u (Ir.wipeE ρ own1) fun ρ => wp ce ρ μ (fun b μ => match b with
    | .bl true => wp e' ρ μ (fun r μ => match r with | .ptr _ => False | r => k (some r) μ) (fun _ _ => False)
    | .bl false => k none μ
    | _ => False) (fun _ _ => False)
def outF (g : Tg) (own : List Nat) (i1 : I) (g1 : Tg) (own1 : List Nat) (ce e' : I) (ρ : Ev) : Tr → Mem → (List Tr → Mem → Prop) → Prop := fun t μ k => Ir.tgK g t (Ir.wipeE ρ own) fun ρ => wp i1 ρ μ (fun y μ => match y with
    | .tup us => Ir.szF us.length (Ir.compK (inF g1 own1 ce e' ρ) us μ fun rs μ => k rs μ)
    | _ => False) (fun _ _ => False)
theorem lc2_go {elt tg iter tg1 iter1 : Expr} {scope : Scope} {vs vs1 : List Nat} {g g1 : Tg} {i i1 ce e' : I} {tt : TT} (hi : PIt X c tg iter i)
    (hg : ∀ s H0 C cl fp, PGt (Bk X scope s H0 C cl fp) c tg g) (hgs : ∀ j ∈ slots g, j ∈ vs) (hi1 : ∀ s H0 C cl fp, PIt (Bk X scope s H0 C cl fp) c tg1 iter1 i1) (hg1 : ∀ s H0 C cl fp, PGt (Bk X scope s H0 C cl fp) c tg1 g1) (hgs1 : ∀ j ∈ slots g1, j ∈ vs1) (he : ∀ s H0 C cl fp, PJ (Bk X scope s H0 C cl fp) c elt e')
    (ht : ∀ ρ μ (φ : EK), wp ce ρ μ φ (fun _ _ => False) → (∀ t μ, φ t μ → ∃ b, t = .bl b) → ∀ W σ (Q : Bool → Hp → Prop), Sa (XB X c) W σ ρ μ → (∀ W' b μ', Go W W' → Sa (XB X c) W' σ ρ μ' → φ (.bl b) μ' → Q b W'.H) → tt σ W.H Q)
    {ρ μ φ ε} (hw : wp (.comp2 g vs i g1 vs1 i1 ce e') ρ μ φ ε) {W : Wd} {σ : L2.St} {Q : VK} (Sx : Sa (XB X c) W σ ρ μ)
    (k : ∀ W' p vs ts μ', Go W W' → Sa (XB X c) W' σ ρ μ' → W'.H p = none → Rvs (XB X c) W'.H W'.F vs ts → φ (.lst ts) μ' → Q (.ref p) (upd W'.H p (.lst vs))) (tk : Takes X (xW (XB X c) W σ ρ ε)) :
    tLc2 (WI X tg iter) (gB X scope tg) tYes (iB X scope tg1 iter1) (gB X scope tg1) tt (eB X scope elt) vs vs1 σ W.H Q := by
  refine hi ρ μ (fun ts μ => Ir.szF ts.length (Ir.comp2K (outF g vs i1 g1 vs1 ce e' ρ) ts μ fun rs μ => φ (.lst rs) μ)) ε hw W σ _ Sx (fun W1 J ts μ1 go1 S1 wk h1 => ?_) tk
  obtain ⟨hz, h1⟩ := Ir.szF_le h1
  intro D hD
  have hG1 := S1.gnone hD
  obtain ⟨f0, S0⟩ := S1.fill0 (o := .lst []) hD
  refine ⟨fun i m H => ∃ W2 μ2 acc rs, W2.H = H ∧ Fill W1 W2 D (.lst acc) ∧ Sa (XB X c) W2 σ ρ μ2 ∧ Rvs (XB X c) W2.H W2.F acc rs ∧ acc.length ≤ i * 1000 ∧ i + m = ts.length ∧ Ir.comp2K (outF g vs i1 g1 vs1 ce e' ρ) (ts.drop i) μ2 fun rs' μ => φ (.lst (rs ++ rs')) μ, ⟨ts.length, _, μ1, [], [], rfl, f0, S0, .nil, Nat.zero_le _, Nat.zero_add _, h1⟩, fun i m H hW => ?_⟩
  obtain ⟨W2, μ2, acc, rs, rfl, fl, S2, r2, hl2, hm, hk⟩ := hW
  obtain ⟨w1, w2, w3⟩ := wk W2 σ ρ μ2 fl.g.gf S2
  have hDl := S2.gh D _ fl.G
  by_cases hi' : i < ts.length
  · refine .inr ⟨w1 i hi', fun H' => ∃ W2 μ2 acc rs, W2.H = H' ∧ Fill W1 W2 D (.lst acc) ∧ Sa (XB X c) W2 σ ρ μ2 ∧ Rvs (XB X c) W2.H W2.F acc rs ∧ acc.length ≤ (i + 1) * 1000 ∧ Ir.comp2K (outF g vs i1 g1 vs1 ce e' ρ) (ts.drop (i + 1)) μ2 fun rs' μ => φ (.lst (rs ++ rs')) μ, fun H' ⟨W3, μ3, acc3, rs3, e1, e2, e3, e4, e5, e6⟩ => ⟨m - 1, by omega, W3, μ3, acc3, rs3, e1, e2, e3, e4, e5, by omega, e6⟩, fun x H' hy => ?_⟩
    obtain ⟨t, W3, htt, rfl, g3, S3, rt⟩ := w3 i x H' hi' hy
    rw [List.drop_eq_getElem_cons hi', show ts[i] = t from (List.getElem?_eq_some_iff.mp htt).2] at hk
    rw [Ir.comp2K_cons] at hk
    have fl3 := fl.go g3
    have r3 := r2.mono g3.t g3.f
    intro s H0 C cl fp
    refine hg s H0 C cl fp (Ir.wipeE ρ vs) μ2 t _ hk W3 _ x _ (S3.wiped _) (.inl rt) fun σ4 ρ4 S4 e4 l4 h4 => ⟨?_, ?_⟩
    · rw [wipe_length] at l4
      exact wipe_eq l4 fun j hj => (e4 j fun hs => hj (hgs j hs)).trans (wipe_out hj)
    · unfold tYes
      dsimp only
      rw [if_pos rfl]
      intro s H0 C cl fp
      refine hi1 s H0 C cl fp ρ4 μ2 (fun us μ => Ir.szF us.length (Ir.compK (inF g1 vs1 ce e' ρ4) us μ fun rsI μ => Ir.comp2K (outF g vs i1 g1 vs1 ce e' ρ) (ts.drop (i + 1)) μ fun rs' μ => φ (.lst (rs ++ (rsI ++ rs'))) μ)) _ h4 W3 σ4 _ S4 (fun W4 J1 us μ4 g4 S5 wk1 h5 => ?_) tk_no
      obtain ⟨hz1, h5⟩ := Ir.szF_le h5
      have fl4 := fl3.go g4
      refine ⟨fun j m H => ∃ W5 μ5 acc us', W5.H = H ∧ Fill W1 W5 D (.lst acc) ∧ GoF W4 W5 ∧ Sa (XB X c) W5 σ4 ρ4 μ5 ∧ Rvs (XB X c) W5.H W5.F acc (rs ++ us') ∧ acc.length ≤ i * 1000 + j ∧ j + m = us.length ∧ Ir.compK (inF g1 vs1 ce e' ρ4) (us.drop j) μ5 fun rsI μ => Ir.comp2K (outF g vs i1 g1 vs1 ce e' ρ) (ts.drop (i + 1)) μ fun rs' μ => φ (.lst (rs ++ ((us' ++ rsI) ++ rs'))) μ, ⟨us.length, W4, μ4, acc, [], rfl, fl4, GoF.refl, S5, by rw [List.append_nil]; exact r3.mono g4.t g4.f, by omega, Nat.zero_add _, h5⟩, fun j m H hW => ?_⟩
      obtain ⟨W5, μ5, acc5, us', rfl, fl5, g5, S6, r5, hl5, hm5, hk5⟩ := hW
      obtain ⟨v1, v2, v3⟩ := wk1 W5 σ4 ρ4 μ5 g5 S6
      by_cases hj : j < us.length
      · refine .inr ⟨v1 j hj, fun H' => ∃ W6 μ6 acc us', W6.H = H' ∧ Fill W1 W6 D (.lst acc) ∧ GoF W4 W6 ∧ Sa (XB X c) W6 σ4 ρ4 μ6 ∧ Rvs (XB X c) W6.H W6.F acc (rs ++ us') ∧ acc.length ≤ i * 1000 + (j + 1) ∧ Ir.compK (inF g1 vs1 ce e' ρ4) (us.drop (j + 1)) μ6 fun rsI μ => Ir.comp2K (outF g vs i1 g1 vs1 ce e' ρ) (ts.drop (i + 1)) μ fun rs' μ => φ (.lst (rs ++ ((us' ++ rsI) ++ rs'))) μ, fun H' ⟨W6, μ6, acc6, us6, e1, e2, e3, e4, e5, e6, e7⟩ => ⟨m - 1, by omega, W6, μ6, acc6, us6, e1, e2, e3, e4, e5, e6, by omega, e7⟩, fun x H' hy => ?_⟩
        obtain ⟨u, W6, huu, rfl, g6, S7, ru⟩ := v3 j x H' hj hy
        rw [List.drop_eq_getElem_cons hj, show us[j] = u from (List.getElem?_eq_some_iff.mp huu).2] at hk5
        rw [Ir.compK_cons] at hk5
        have fl6 := fl5.go g6
        have r6 := r5.mono g6.t g6.f
        intro s H0 C cl fp
        refine hg1 s H0 C cl fp (Ir.wipeE ρ4 vs1) μ5 u _ hk5 W6 _ x _ (S7.wiped _) (.inl ru) fun σ8 ρ8 S8 e8 l8 h8 => ⟨?_, ?_⟩
        · rw [wipe_length] at l8
          exact wipe_eq l8 fun j hj => (e8 j fun hs => hj (hgs1 j hs)).trans (wipe_out hj)
        · refine ht ρ8 μ5 _ h8 (fun t μ h => by cases t <;> first | exact ⟨_, rfl⟩ | exact h.elim) W6 σ8 _ S8 fun W9 b μ9 g9 S9 h9 => ?_
          cases b with
          | true =>
            rw [if_pos rfl]
            intro s H0 C cl fp
            refine he s H0 C cl fp ρ8 μ9 _ _ h9 W9 σ8 _ S9 (fun Wa va ta μa ga Sa' ra ha => ?_) tk_no
            have fla := (fl6.go g9).go ga
            have hn : ∀ j, ta ≠ .ptr j := fun j e => by subst e; exact ha
            have ha' : Ir.compK (inF g1 vs1 ce e' ρ4) (us.drop (j + 1)) μa fun rsI μ => Ir.comp2K (outF g vs i1 g1 vs1 ce e' ρ) (ts.drop (i + 1)) μ fun rs' μ => φ (.lst (rs ++ ((us' ++ (ta :: rsI)) ++ rs'))) μ := by
              cases ta <;> first | exact ha | exact ha.elim
            have rva := ra.rv hn
            refine ⟨acc5, Sa'.gh D _ fla.G, sz_lt (by omega), ?_⟩
            obtain ⟨fb, tb, Sb⟩ := Sa'.fill1 (u := .lst (acc5 ++ [va])) fla True.intro hG1
            have ra' := (r6.mono g9.t g9.f).mono ga.t ga.f
            refine ⟨_, μa, acc5 ++ [va], us' ++ [ta], rfl, fb, ?_, ?_, ?_, by rw [List.length_append]; simp; omega, ?_⟩
            · exact ((g5.trans g6.gf).trans (g9.trans ga).gf).trans ⟨Ex.refl _, tb, fun _ _ h => h⟩
            · exact S6.envF Sb ((g6.gf.trans (g9.trans ga).gf).trans ⟨Ex.refl _, tb, fun _ _ h => h⟩)
            · rw [← List.append_assoc]
              exact (ra'.app (.cons rva .nil)).mono tb (Ex.refl _)
            · simp only [List.append_assoc, List.singleton_append] at ha' ⊢
              exact ha'
          | false =>
            rw [if_neg Bool.false_ne_true]
            have fl9 := fl6.go g9
            exact ⟨W9, μ9, acc5, us', rfl, fl9, (g5.trans g6.gf).trans g9.gf, S6.env' S9.nil (g6.trans g9), r6.mono g9.t g9.f, by omega, h9⟩
      · have e : j = us.length := by omega
        subst e
        refine .inl ⟨v2, ?_⟩
        rw [List.drop_of_length_le (Nat.le_refl _)] at hk5
        rw [Ir.compK_nil] at hk5
        simp only [List.append_nil] at hk5
        refine ⟨W5, μ5, acc5, rs ++ us', rfl, fl5, S1.env' S6.nil fl5.g, r5, by omega, ?_⟩
        simp only [List.append_assoc] at hk5 ⊢
        exact hk5
  · have e : i = ts.length := by omega
    subst e
    refine .inl ⟨w2, ?_⟩
    rw [List.drop_of_length_le (Nat.le_refl _)] at hk
    rw [Ir.comp2K_nil] at hk
    have hk : φ (.lst (rs ++ [])) μ2 := hk
    rw [List.append_nil] at hk
    obtain ⟨g3, t3, S3⟩ := S2.fill2 fl True.intro hG1
    have := k _ D acc rs μ2 (go1.trans g3) (S1.env' S3 g3) delH_same (r2.mono t3 (Ex.refl _)) hk
    rw [show upd ({ W2 with G := delH W2.G D, H := delH W2.H D } : Wd).H D (.lst acc) = W2.H from upd_del hDl] at this
    exact this
theorem pe_lc2B {elt tg iter tg1 iter1 : Expr} {scope : Scope} {own : List (Str × Nat)} {vs1 : List Nat} {wi : TI} (hc : X.calm = true) (hN : X.N.Nodup) (hi : L2.PI X tg iter wi) (ok : BlkOk X.N X.env.scope scope own) (hv : ∀ i ∈ vs1, i ∈ own.map (·.2)) (hs : nofold iter X.env) (hs1 : ∀ env x, foldedSetIterable iter1 env x = pure x) :
    L2.PE X (.ListComp elt [⟨tg, iter, [], 0⟩, ⟨tg1, iter1, [], 0⟩] scope pos) (tLc2 wi (gB X scope tg) tYes (iB X scope tg1 iter1) (gB X scope tg1) tYes (eB X scope elt) (own.map (·.2)) vs1) :=
  pe_lc2 hc hN hi ok hv (fun s H0 C cl fp => ⟨fun pins s' σ H v u Q I r h => pg_w.run pins s' σ H v u Q I r (h s H0 C cl fp)⟩) (fun _ _ _ _ _ => pts_nil) (fun s H0 C cl fp => ⟨fun pins s' σ H R I h => pi_w.run pins s' σ H R I (h s H0 C cl fp)⟩) (fun s H0 C cl fp => ⟨fun pins s' σ H v u Q I r h => pg_w.run pins s' σ H v u Q I r (h s H0 C cl fp)⟩) (fun _ _ _ _ _ => pts_nil)
    (fun s H0 C cl fp => ⟨fun pins s' σ H Q I h => pe_w.run pins s' σ H Q I (h s H0 C cl fp)⟩) hs hs1
theorem pn_lc2 {elt tg iter tg1 iter1 : Expr} {scope : Scope} {own : List (Str × Nat)} {vs vs1 : List Nat} {g g1 : Tg} {i i1 e' : I} (f : Cf X n) (ok : BlkOk X.N X.env.scope scope own) (hvs : vs = own.map (·.2)) (hv : ∀ i ∈ vs1, i ∈ vs) (hgs : ∀ j ∈ slots g, j ∈ vs) (hgs1 : ∀ j ∈ slots g1, j ∈ vs1) (hi : PIt X c tg iter i) (hg : ∀ s H0 C cl fp, PGt (Bk X scope s H0 C cl fp) c tg g)
    (hi1 : ∀ s H0 C cl fp, PIt (Bk X scope s H0 C cl fp) c tg1 iter1 i1) (hg1 : ∀ s H0 C cl fp, PGt (Bk X scope s H0 C cl fp) c tg1 g1) (he : ∀ s H0 C cl fp, PJ (Bk X scope s H0 C cl fp) c elt e') (hs : nofold iter X.env := by intro _; rfl) (hs1 : ∀ env x, foldedSetIterable iter1 env x = pure x := by intro _ _; rfl) :
    PN X c (.ListComp elt [⟨tg, iter, [], 0⟩, ⟨tg1, iter1, [], 0⟩] scope pos) (.comp2 g vs i g1 vs1 i1 .yes e') := fun ρ μ φ ε hw W σ Q Sx k k2 k3 tk => by
  subst hvs
  exact WE.of (pe_lc2B f.calm f.nd pi_w ok hv hs hs1) (lc2_go (ce := .yes) hi hg hgs hi1 hg1 hgs1 he (fun ρ μ φ h hφ W σ Q Sx k => k W true μ Go.refl Sx h) hw Sx k tk)
end
end Is
namespace Is
open PySem PySem.Spec PyProof.Rows L2 Wx
open Ir (Tr Cel Mem Ev EK SK EX Con Tg Op Cm I Sm wp wps)
section
variable {X : Cx} {c : Nat → Addr} {n : Nat} {pos : Pos}
/-- name = [.. for .. for ..] -/
theorem ps_setLC2 {y : Str} {py spos : Pos} {i0 : Nat} {elt tg iter tg1 iter1 : Expr} {scope : Scope} {own : List (Str × Nat)} {vs vs1 : List Nat} {g g1 : Tg} {i i1 e' b : I} (f : Cf X n) (hy : X.N[i0]? = some y) (ok : BlkOk X.N X.env.scope scope own) (hvs : vs = own.map (·.2)) (hv : ∀ i ∈ vs1, i ∈ vs) (hgs : ∀ j ∈ slots g, j ∈ vs) (hgs1 : ∀ j ∈ slots g1, j ∈ vs1) (hi : PIt X c tg iter i) (hg : ∀ s H0 C cl fp, PGt (Bk X scope s H0 C cl fp) c tg g)
    (hi1 : ∀ s H0 C cl fp, PIt (Bk X scope s H0 C cl fp) c tg1 iter1 i1) (hg1 : ∀ s H0 C cl fp, PGt (Bk X scope s H0 C cl fp) c tg1 g1) (he : ∀ s H0 C cl fp, PJ (Bk X scope s H0 C cl fp) c elt e') (hb : b = .comp2 g vs i g1 vs1 i1 .yes e' ∨ b = .ow (.comp2 g vs i g1 vs1 i1 .yes e')) (hyl : X.env.scope.names.lookup y = some .local := by rfl) (hsw : swapsWith (.ListComp elt [⟨tg, iter, [], 0⟩, ⟨tg1, iter1, [], 0⟩] scope pos) (some (.Name y py)) spos.line X.env = pure true := by rfl) (hs : nofold iter X.env := by intro _; rfl) (hs1 : ∀ env x, foldedSetIterable iter1 env x = pure x := by intro _ _; rfl) :
    PS X c (.Assign [.Name y py] (.ListComp elt [⟨tg, iter, [], 0⟩, ⟨tg1, iter1, [], 0⟩] scope pos) spos) (.asg (.nm i0) b) := by
  subst hvs
  refine ps_setN (L2.ps_setLc2 f.calm f.nd hy hyl hsw pi_w ok hv (fun s H0 C cl fp => ⟨fun pins s' σ H v u Q I r h => pg_w.run pins s' σ H v u Q I r (h s H0 C cl fp)⟩) (fun _ _ _ _ _ => pts_nil) (fun s H0 C cl fp => ⟨fun pins s' σ H R I h => pi_w.run pins s' σ H R I (h s H0 C cl fp)⟩) (fun s H0 C cl fp => ⟨fun pins s' σ H v u Q I r h => pg_w.run pins s' σ H v u Q I r (h s H0 C cl fp)⟩) (fun _ _ _ _ _ => pts_nil)
    (fun s H0 C cl fp => ⟨fun pins s' σ H Q I h => pe_w.run pins s' σ H Q I (h s H0 C cl fp)⟩) hs hs1) (fun ρ μ φ ε hw W σ Q Sx k k2 k3 tk => lc2_go (ce := .yes) hi hg hgs hi1 hg1 hgs1 he (fun ρ μ φ h hφ W σ Q Sx k => k W true μ Go.refl Sx h) hw Sx k tk) hb
end
end Is

/-! Kg: a list that a callee hands over as its own. -/
namespace Is
open PySem PySem.Spec PyProof.Rows L2 Wx
open Ir (Tr Cel Mem Ev EK SK EX Con Tg Op Cm I Sm wp wps)
section
variable {B : Bs} {W W' : Wd} {σ : L2.St} {ρ : Ev} {μ : Mem}
/-- a list that nobody owns becomes a cell -/
theorem Sa.adopt (S : Sa B W σ ρ μ) {b : Addr} {us : List V} {ts : List Tr} (hb : W.H b = some (.lst us)) (hr : Rvs B W.H W.F us ts) (hg : W.G b = none) (ho : b ∉ W.O.flatten) :
    Go W { W with A := W.A ++ [b], O := W.O ++ [[b]] } ∧ Sa B { W with A := W.A ++ [b], O := W.O ++ [[b]] } σ ρ (μ ++ [.lst ts]) := by
  have gg : Go W { W with A := W.A ++ [b], O := W.O ++ [[b]] } := ⟨Ex.refl _, Ex.refl _, TEx.refl _, fun _ _ h => h, fun i x hx => by rw [show ({ W with A := W.A ++ [b], O := W.O ++ [[b]] } : Wd).A = W.A ++ [b] from rfl, List.getElem?_append_left (List.getElem?_eq_some_iff.mp hx).1]; exact hx⟩
  refine ⟨gg, ⟨S.gh, S.fg, fun i u hi => ?_, by simp [S.lA], by simp [S.lO], fun i d hd => ?_, ?_, fun x hx => ?_, S.ln⟩⟩
  · obtain ⟨v, h1, h2⟩ := S.env i u hi
    exact ⟨v, h1, h2.go gg⟩
  · by_cases hi : i < μ.length
    · rw [List.getElem?_append_left hi] at hd
      obtain ⟨a, fr, h1, h2, h3⟩ := S.mem i d hd
      exact ⟨a, fr, (List.getElem?_append_left (by rw [S.lA]; exact hi)).trans h1, (List.getElem?_append_left (by rw [S.lO]; exact hi)).trans h2, h3⟩
    · have e : i = μ.length := by
        have := (List.getElem?_eq_some_iff.mp hd).1
        simp at this
        omega
      subst e
      rw [List.getElem?_append_right (Nat.le_refl _), Nat.sub_self] at hd
      cases hd
      refine ⟨b, [b], ?_, ?_, rfl, us, hb, hr⟩
      · rw [show ({ W with A := W.A ++ [b], O := W.O ++ [[b]] } : Wd).A = W.A ++ [b] from rfl, ← S.lA, List.getElem?_append_right (Nat.le_refl _), Nat.sub_self]; rfl
      · rw [show ({ W with A := W.A ++ [b], O := W.O ++ [[b]] } : Wd).O = W.O ++ [[b]] from rfl, ← S.lO, List.getElem?_append_right (Nat.le_refl _), Nat.sub_self]; rfl
  · show (W.O ++ [[b]]).flatten.Nodup
    rw [List.flatten_append, List.flatten_singleton, List.nodup_append]
    exact ⟨S.nd, (by simp), fun x hx y hy e => by cases List.mem_singleton.mp hy; subst e; exact ho hx⟩
  · have hx' : x ∈ (W.O ++ [[b]]).flatten := hx
    rw [List.flatten_append, List.flatten_singleton, List.mem_append] at hx'
    rcases hx' with hx | hx
    · exact S.own x hx
    · cases List.mem_singleton.mp hx
      exact ⟨hg, by rw [hb]; exact fun z => nomatch z⟩
/-- a tuple whose first member is a list of its own -/
structure Ro (B : Bs) (W : Wd) (v : V) (ts rest : List Tr) : Prop where
  ex : ∃ (a b : Addr) (us vs : List V), v = .ref a ∧ W.H a = some (.tup (.ref b :: vs)) ∧ W.H b = some (.lst us) ∧ Rvs B W.H W.F us ts ∧ Rvs B W.H W.F vs rest ∧ W.G b = none ∧ b ∉ W.O.flatten
def spOfO (cl : Nat → Addr) (K : PySem.W.Frag) (con : Con) : Sp := fun vs H Q E => ∃ W ts φ, W.H = H ∧ Sa ⟨K, cl⟩ W [] [] [] ∧ Rvs ⟨K, cl⟩ W.H W.F vs ts ∧ con ts [] φ (fun _ _ => False) ∧
  (∀ W' v us rest, Go W W' → Sa ⟨K, cl⟩ W' [] [] [] → Ro ⟨K, cl⟩ W' v us rest → φ (.tup (.lst us :: rest)) [] → Q v W'.H)
open Classical in
theorem callO_frame {cl : Nat → Addr} {K : PySem.W.Frag} {con : Con} {vs : List V} {ts : List Tr} {φ : EK} {Q : VK} {E : XK} (S1 : Sa ⟨K, cl⟩ W σ ρ μ) (r : Rvs ⟨K, cl⟩ W.H W.F vs ts)
    (h : con ts [] (fun t _ => φ t μ) (fun _ _ => False))
    (k : ∀ W' v us rest, Go W W' → Sa ⟨K, cl⟩ W' σ ρ μ → Ro ⟨K, cl⟩ W' v us rest → φ (.tup (.lst us :: rest)) μ → Q v W'.H) : spOfO cl K con vs W.H Q E := by
  refine ⟨calW W [], ts, (fun t _ => φ t μ), rfl, ?_, r, h, fun W' v us rest g S' ro hh => ?_⟩
  · exact S1.calW (is := []) (fun i hi => by simp at hi) List.nodup_nil
  · obtain ⟨g2, S2⟩ := S1.retW (is := []) (fun i hi => by simp at hi) List.nodup_nil g S' rfl
    refine k (retW W W' []) v us rest g2 S2 ?_ hh
    obtain ⟨a, b, xs, ys, e, h1, h2, h3, h4, h5, h6⟩ := ro.ex
    have hn : ∀ x, restO W.O [] x → W'.G x ≠ none := fun x hx => by
      have q : (calW W []).G x = W.H x := if_pos hx
      obtain ⟨i, fp, _, o1, o2⟩ := hx
      have q2 := (S1.own x (flat_get o1 o2)).2
      exact Ex.ne g.g (by rw [q]; exact q2)
    refine ⟨a, b, xs, ys, e, h1, h2, h3, h4, ?_, ?_⟩
    · show (if restO W.O [] b then none else W'.G b) = none
      split
      · rfl
      · exact h5
    · intro hb
      have hO : W'.O = [] := List.length_eq_zero_iff.mp S'.lO
      have hb : b ∈ (setAll W.O [] W'.O).flatten := hb
      rw [hO] at hb
      have hb' : b ∈ W.O.flatten := hb
      obtain ⟨fp, f1, f2⟩ := List.mem_flatten.mp hb'
      obtain ⟨i, f3⟩ := List.mem_iff_getElem?.mp f1
      exact hn b ⟨i, fp, by simp, f3, f2⟩ h5
end
theorem fn_irO {P : Program} {w : World} {K : PySem.W.Frag} {mg : Str → Option Value} {base : Heap} {cl : Nat → Addr} {x qual : Str} {st : Stmt} {f : Addr} {fd : FuncData} {N ps : List Str} {k : Nat} {con : Con} {st1 : Stmt} {es : List Expr} {x1 : Nat} {pos pos2 : Pos} {s0 : Sm} {a : I} (F : Fun K x qual st f fd) (S : FnScope N ps (defScope st))
    (hb : defBody st = [st1, .Return (some (.Tuple es x1 pos)) pos2])
    (hc : ∀ ts φ, con ts [] φ (fun _ _ => False) → ts.length = ps.length ∧ wps s0 (fun ρ μ => wp a ρ μ (fun y μ => match y with | .tup xs => Ir.ownK xs μ φ | _ => False) (fun _ _ => False)) (fun _ _ => False) (fun _ _ => False) (fun _ _ => False) (fun _ _ _ => False) (ts.map some ++ List.replicate (N.length - ps.length) none) [])
    (hj : ∀ (cdv : Value) (A : Around) (outer : List Env) (s : Shared) (H : Hp) (E : XK), Cf (cxOf (L2.CX P w) P w K mg base N qual (defScope st) f cdv A outer s H E) k → PassesOwn (model P w) (cxOf (L2.CX P w) P w K mg base N qual (defScope st) f cdv A outer s H E).A (cxOf (L2.CX P w) P w K mg base N qual (defScope st) f cdv A outer s H E).env (cxOf (L2.CX P w) P w K mg base N qual (defScope st) f cdv A outer s H E).xe →
      PS (cxOf (L2.CX P w) P w K mg base N qual (defScope st) f cdv A outer s H E) cl st1 s0 ∧ PA (cxOf (L2.CX P w) P w K mg base N qual (defScope st) f cdv A outer s H E) cl es a) : FnOk P w K mg base (L2.CX P w) (k + 1) f fd ps (spOfO cl K con) := by
  refine Fun.okX F S (fun vs H Q E h => ?_) fun cdv A outer s H vs Q E hr h => ?_
  · obtain ⟨W, ts, φ, rfl, Sx, r, hcon, _⟩ := h
    rw [r.length]
    exact (hc ts φ hcon).1
  · obtain ⟨W, ts, φ, rfl, Sx, r, hcon, kφ⟩ := h
    obtain ⟨hl, hw⟩ := hc ts φ hcon
    refine ⟨_, pss_w, ?_⟩
    have S0 := sa_start (N := N) Sx (Rps.of r)
    rw [hl] at S0
    obtain ⟨j1, j2⟩ := hj cdv A outer s W.H E ⟨rfl, S.nd, hr⟩ (passes_of rfl)
    rw [hb]
    have tkN : ∀ W, Takes (cxOf (L2.CX P w) P w K mg base N qual (defScope st) f cdv A outer s W.H E) (xWs (XB (cxOf (L2.CX P w) P w K mg base N qual (defScope st) f cdv A outer s W.H E) cl) W (fun _ _ _ => False)) := fun W => by
      exact fun u s' ⟨_, _, _, _, _, _, _, _, _, _, _, _, _, _, _, _, _, _, _, _, _, _, _, _, h⟩ => h.elim
    refine ws_cons (j1 _ _ _ _ _ _ _ hw W (start N vs) _ S0 ⟨fun W1 σ1 ρ1 μ1 g1 S1 h1 => ?_, (fun _ _ _ _ _ _ _ h => h.elim), (fun _ _ _ _ _ _ h => h.elim), (fun _ _ _ _ _ _ h => h.elim)⟩ (tkN W))
    refine ws_one (ws_ret (we_tup (j2 ρ1 μ1 (fun xs μ => Ir.ownK xs μ φ) _ h1 W1 σ1 _ S1 (fun W2 vs2 ts2 μ2 g2 S2 r2 h2 => ?_) tk_no)))
    cases r2 with
    | nil => exact h2.elim
    | cons r3 r4 =>
      rename_i v vs3 t rest
      cases t with
      | ptr i =>
        obtain ⟨b, rfl, hA⟩ := r3.ptr
        have h2 : Ir.szK (rest.length + 1) (Ir.noP rest (Ir.celK μ2 i fun c => match c with | .lst ts => φ (.tup (.lst ts :: rest)) [] | _ => False)) := h2
        obtain ⟨hz, h2⟩ := Ir.szK_le h2
        obtain ⟨r5, h2⟩ := r4.rvs h2
        obtain ⟨c, hc2, h2⟩ := celK_at h2
        cases c with
        | lst us =>
          obtain ⟨b', fp, q1, q2, q3, xs, q4, q5⟩ := S2.mem i _ hc2
          have e : b' = b := Option.some.inj (q1.symm.trans hA)
          subst e
          refine ⟨by rw [List.length_cons, r5.length]; exact sz_le hz, fun p hp => ?_⟩
          obtain ⟨g3, S3⟩ := S2.fresh (o := .tup (.ref b' :: vs3)) hp
          have hbp : b' ≠ p := fun z => by rw [z, hp] at q4; cases q4
          have go := (g1.trans g2).trans g3
          refine kφ ⟨[], [], W2.G, W2.F, upd W2.H p (.tup (.ref b' :: vs3))⟩ _ us rest ⟨go.g, go.f, go.t, go.n, fun i x hx => ?_⟩ ⟨S3.gh, S3.fg, fun i t h => by simp at h, rfl, rfl, fun i c h => by simp at h, by simp, fun x hx => by simp at hx, rfl⟩ ⟨p, b', xs, vs3, rfl, upd_same, (upd_ne hbp).trans q4, q5.mono g3.t g3.f, r5.mono g3.t g3.f, (S2.own b' (flat_get q2 (by rw [q3]; simp))).1, by simp⟩ h2
          have : W.A = [] := List.length_eq_zero_iff.mp Sx.lA
          rw [this] at hx
          simp at hx
        | _ => exact h2.elim
      | _ => exact h2.elim
end Is

/-! Kh: x, y, z = f(..), the first one handed over. -/
namespace Is
open PySem PySem.Spec PyProof.Rows L2 Wx
open Ir (Tr Cel Mem Ev EK SK EX Con Tg Op Cm I Sm wp wps)
section
variable {X : Cx} {c : Nat → Addr} {n : Nat} {pos p0 p1 p2 pos' : Pos}
theorem ps_unpO {x y : Str} {i k kk : Nat} {e : Expr} {es es' : List Expr} {g : Tg} {a : I} {con : Con} (f : Cf X n) (C : Cal X.prog X.w X.K X.mg X.base (L2.CX X.prog X.w) k x (spOfO c X.K con)) (hr : Room k X.A) (ha : PA X c (e :: es) a) (hi : X.N[i]? = some y) (hgl : PGl X c es' g)
    (hg : Gl X x := by rfl) (hdb : (x == ("__debug__" : Str)) = false := by decide) (he : starEach (e :: es) X.env = (false, eval e X.env) :: starEach es X.env := by rfl)
    (hpl : (backTo pos (starEach es X.env)).any (·.1) = false := by rfl) (hx : Loc X.env.scope y := by first | exact Or.inl rfl | exact Or.inr rfl) (hf : X.fn y = true ∨ X.env.scope.names.lookup y = some .local := by first | exact .inl rfl | exact .inr rfl)
    (hn : (assignEach (.Name y p1 :: es') X.env).length = glen g + 1 := by rfl) (hst : (assignEach (.Name y p1 :: es') X.env).findIdx? (·.1) = none := by rfl) (hs2 : (assignEach (.Name y p1 :: es') X.env).map (·.2) = assign (.Name y p1) X.env :: (assignEach es' X.env).map (·.2) := by rfl)
    (hs : swapsWithSole [.Tuple (.Name y p1 :: es') kk p2] (.Call (.Name x p0) (e :: es) [] pos) pos'.line X.env = pure false := by rfl) (hw : swappedStores [.Tuple (.Name y p1 :: es') kk p2] (.Call (.Name x p0) (e :: es) [] pos) X.env = pure none := by rfl)
    (h1 : (assignEach [.Tuple (.Name y p1 :: es') kk p2] X.env).map (·.2) = [assign (.Tuple (.Name y p1 :: es') kk p2) X.env] := by rfl) :
    PS X c (.Assign [.Tuple (.Name y p1 :: es') kk p2] (.Call (.Name x p0) (e :: es) [] pos) pos') (.unpO i g con a) := fun nx rt bk ct ε ρ μ h W σ D Sx l tk => by
  obtain ⟨fa, fd, ps, F, hm, hk, hb⟩ := C.ex
  have tk' := tks_e (σ := σ) (ρ := ρ) tk
  refine ws_asg (WE.of (pe_callS F hr hg hm hk hb (fun σ' => passAt tk' σ') pa_w hdb he hpl) ?_) hs hw h1
  refine ha ρ μ (fun xs μ => Ir.noP xs (con xs [] (fun t _ => match t with
        | .tup (.lst ts :: rest) => Ir.snocK μ 0 (.lst ts) fun p μ => Ir.setK ρ i (.ptr p) fun ρ => Ir.tgL g rest ρ fun ρ => nx ρ μ
        | _ => False) (fun _ _ => False))) (fun t μ => ε t ρ μ) h W σ _ Sx (fun W1 vs ts μ1 g1 S1 r1 h1 => ?_) tk'
  obtain ⟨r2, h2⟩ := r1.rvs h1
  refine callO_frame (φ := fun t μ => match t with
        | .tup (.lst ts :: rest) => Ir.snocK μ 0 (.lst ts) fun p μ => Ir.setK ρ i (.ptr p) fun ρ => Ir.tgL g rest ρ fun ρ => nx ρ μ
        | _ => False) S1 r2 h2 fun W2 v us rest g2 S2 ro hh => ?_
  obtain ⟨av, b, xs, ys, rfl, q1, q2, q3, q4, q5, q6⟩ := ro.ex
  have hh : Ir.snocK μ1 0 (.lst us) (fun p μ => Ir.setK ρ i (.ptr p) fun ρ => Ir.tgL g rest ρ fun ρ => nx ρ μ) := hh
  have hh := setK_at (snocK_at hh)
  obtain ⟨g3, S3⟩ := S2.adopt q2 q3 q5 q6
  have hL : rest.length = glen g := tgL_len hh fun ρ κ t a h => tgK_ex a ρ κ t h
  refine wg_tup f.calm (TupAt.sq (K := X.K) q1) (by rw [List.length_cons, q4.length, hL]) ?_ hn hst
  refine wgs_cons (WG.of (pg_name f.nd hi hx hf) ?_) hs2
  exact hgl _ _ rest _ hh { W2 with A := W2.A ++ [b], O := W2.O ++ [[b]] } _ ys _ (S3.set (.inr ⟨_, b, rfl, rfl, by
    show (W2.A ++ [b])[0 + μ1.length]? = some b
    rw [Nat.zero_add, ← S2.lA, List.getElem?_append_right (Nat.le_refl _), Nat.sub_self]
    rfl⟩)) q4 fun σ' ρ' S' _ _ h' => l.nx _ σ' ρ' _ ((g1.trans g2).trans g3) S' h'
end
/-- the link of a def that hands over a list: its first statement, and the members of the tuple that it returns -/
def DJO (P : Program) (w : World) (K : PySem.W.Frag) (mg : Str → Option Value) (base : Heap) (cl : Nat → Addr) (N : List Str) (qual : Str) (st : Stmt) (f : Addr) (k : Nat) (s0 : Sm) (a : I) : Prop := ∃ st1 es x1 pos pos2, defBody st = [st1, .Return (some (.Tuple es x1 pos)) pos2] ∧ ∀ (cdv : Value) (A : Around) (outer : List Env) (s : Shared) (H : Hp) (E : XK),
  Cf (DX P w K mg base N qual st f cdv A outer s H E) k → PassesOwn (model P w) (DX P w K mg base N qual st f cdv A outer s H E).A (DX P w K mg base N qual st f cdv A outer s H E).env (DX P w K mg base N qual st f cdv A outer s H E).xe → PS (DX P w K mg base N qual st f cdv A outer s H E) cl st1 s0 ∧ PA (DX P w K mg base N qual st f cdv A outer s H E) cl es a
theorem fn_djO {P : Program} {w : World} {K : PySem.W.Frag} {mg : Str → Option Value} {base : Heap} {cl : Nat → Addr} {x qual : Str} {st : Stmt} {f : Addr} {fd : FuncData} {N ps : List Str} {k : Nat} {con : Con} {s0 : Sm} {a : I} (F : Fun K x qual st f fd) (S : FnScope N ps (defScope st))
    (hc : ∀ ts φ, con ts [] φ (fun _ _ => False) → ts.length = ps.length ∧ Ir.wpO s0 a (N.length - ps.length) ts φ) (hj : DJO P w K mg base cl N qual st f k s0 a) : FnOk P w K mg base (L2.CX P w) (k + 1) f fd ps (spOfO cl K con) := by
  obtain ⟨_, _, _, _, _, hb, hj⟩ := hj
  exact fn_irO F S hb hc hj
end Is

namespace G
open Ir
/-! Cb: machines: promises, texts. -/
def c_is_name : Con := fun ts μ φ ε => ∃ t, ts = [t] ∧ μ = [] ∧ okI t = true ∧ φ (.bl (nameT t)) []
def c_is_row : Con := fun ts μ φ ε => ∃ t, ts = [t] ∧ μ = [] ∧ okI t = true ∧ φ (.bl (rowT t)) []
def c_is_letter : Con := fun ts μ φ ε => ∃ t, ts = [t] ∧ μ = [] ∧ okI t = true ∧ φ (.bl (letT t)) []
def c_is_price : Con := fun ts μ φ ε => ∃ t, ts = [t] ∧ μ = [] ∧ okI t = true ∧ φ (.bl (priT t)) []
def c_is_arrow : Con := fun ts μ φ ε => ∃ t, ts = [t] ∧ μ = [] ∧ okA t = true ∧ φ (.bl (arrT t)) []
def ir_is_name : Sm := (.ret (.and (.isi (.nm 0) [.str]) (.and (.chain .le .le (.c (.int 1)) (.blt .len (.cons (.nm 0) .nil)) (.c (.int 8))) (.blt .all (.cons (.comp (.nm 1) [1] (.itS (.nm 0)) .yes (.cmp .isin (.nm 1) (.c (.str [97, 98, 99, 100, 101, 102, 103, 104, 105, 106, 107, 108, 109, 110, 111, 112, 113, 114, 115, 116, 117, 118, 119, 120, 121, 122])))) .nil)))))
def ir_is_row : Sm := (.ret (.and (.isi (.nm 0) [.str]) (.and (.cmp .le (.blt .len (.cons (.nm 0) .nil)) (.c (.int 5000))) (.blt .all (.cons (.comp (.nm 1) [1] (.itS (.nm 0)) .yes (.cmp .isin (.nm 1) (.c (.str [97, 98, 99, 100, 101, 102, 103, 104, 105, 106, 107, 108, 109, 110, 111, 112, 113, 114, 115, 116, 117, 118, 119, 120, 121, 122])))) .nil)))))
def ir_is_letter : Sm := (.ret (.and (.isi (.nm 0) [.str]) (.and (.cmp .eq (.blt .len (.cons (.nm 0) .nil)) (.c (.int 1))) (.cmp .isin (.nm 0) (.c (.str [97, 98, 99, 100, 101, 102, 103, 104, 105, 106, 107, 108, 109, 110, 111, 112, 113, 114, 115, 116, 117, 118, 119, 120, 121, 122]))))))
def ir_is_price : Sm := (.ret (.and (.isi (.nm 0) [.int]) (.and (.not (.isi (.nm 0) [.bool])) (.chain .le .le (.c (.int 0)) (.nm 0) (.c (.int 99))))))
def ir_is_arrow : Sm := (.seq (.ite (.or (.not (.isi (.nm 0) [.list, .tuple])) (.cmp .ne (.blt .len (.cons (.nm 0) .nil)) (.c (.int 4)))) (.ret (.c (.bl false))) .skip) (.seq (.asg (.cons (.nm 1) (.cons (.nm 2) (.cons (.nm 3) (.cons (.nm 4) .nil)))) (.nm 0)) (.ret (.and (.call c_is_name (.cons (.nm 1) .nil)) (.and (.call c_is_letter (.cons (.nm 2) .nil)) (.and (.call c_is_name (.cons (.nm 3) .nil)) (.call c_is_price (.cons (.nm 4) .nil))))))))
theorem okS_le {l : List Nat} (h : okI (.str l) = true) : l.length ≤ 1000000 := Nat.le_of_ble_eq_true h
theorem all_let (l : List Nat) : ((l.map fun c => decide (c ∈ LET)).all id) = l.all fun c => decide (c ∈ LET) := by rw [List.all_map]; rfl
theorem wp_is_name : ∀ ts μ φ ε, c_is_name ts μ φ ε → ts.length = 1 ∧ wpB ir_is_name 1 ts μ φ ε := by
  rintro ts μ φ ε ⟨t, rfl, rfl, ht, h⟩
  refine ⟨rfl, ?_⟩
  cases t with
  | str l =>
    have h : φ (.bl (decide (1 ≤ (l.length : Int)) && (decide ((l.length : Int) ≤ 8) && l.all fun c => decide (c ∈ LET)))) [] := h
    (conv => whnf)
    refine szK_of (okS_le ht) ?_
    (conv => whnf)
    cases e1 : decide (1 ≤ (l.length : Int)) with
    | false =>
      rw [e1] at h
      exact h
    | true =>
      rw [e1] at h
      (conv => whnf)
      cases e2 : decide ((l.length : Int) ≤ 8) with
      | false =>
        rw [e2] at h
        exact h
      | true =>
        rw [e2] at h
        (conv => whnf)
        refine szK_of (by rw [List.length_map]; exact okS_le ht) ?_
        refine compK_map (enc := fun c => Tr.str [c]) (g := fun c => .bl (decide (c ∈ LET))) (fun c _ k hk => hk) ?_
        exact ⟨l.map fun c => decide (c ∈ LET), bools l _, by rw [all_let]; exact h⟩
  | dic b kvs => cases b <;> first | exact absurd ht Bool.false_ne_true | exact h
  | _ => first | exact absurd ht Bool.false_ne_true | exact h
theorem wp_is_row : ∀ ts μ φ ε, c_is_row ts μ φ ε → ts.length = 1 ∧ wpB ir_is_row 1 ts μ φ ε := by
  rintro ts μ φ ε ⟨t, rfl, rfl, ht, h⟩
  refine ⟨rfl, ?_⟩
  cases t with
  | str l =>
    have h : φ (.bl (decide ((l.length : Int) ≤ 5000) && l.all fun c => decide (c ∈ LET))) [] := h
    (conv => whnf)
    refine szK_of (okS_le ht) ?_
    (conv => whnf)
    cases e2 : decide ((l.length : Int) ≤ 5000) with
    | false =>
      rw [e2] at h
      exact h
    | true =>
      rw [e2] at h
      (conv => whnf)
      refine szK_of (by rw [List.length_map]; exact okS_le ht) ?_
      refine compK_map (enc := fun c => Tr.str [c]) (g := fun c => .bl (decide (c ∈ LET))) (fun c _ k hk => hk) ?_
      exact ⟨l.map fun c => decide (c ∈ LET), bools l _, by rw [all_let]; exact h⟩
  | dic b kvs => cases b <;> first | exact absurd ht Bool.false_ne_true | exact h
  | _ => first | exact absurd ht Bool.false_ne_true | exact h
theorem wp_is_letter : ∀ ts μ φ ε, c_is_letter ts μ φ ε → ts.length = 1 ∧ wpB ir_is_letter 0 ts μ φ ε := by
  rintro ts μ φ ε ⟨t, rfl, rfl, ht, h⟩
  refine ⟨rfl, ?_⟩
  cases t with
  | str l =>
    (conv => whnf)
    refine szK_of (okS_le ht) ?_
    (conv => whnf)
    cases e2 : decide ((l.length : Int) = 1) with
    | false =>
      have : letB l = false := by
        match l, e2 with
        | [], _ => rfl
        | [c], e2 => simp at e2
        | _ :: _ :: _, _ => rfl
      have h : φ (.bl (letB l)) [] := h
      rw [this] at h
      exact h
    | true =>
      match l, e2, h with
      | [], e2, _ => simp at e2
      | [c], _, h => exact h
      | _ :: _ :: _, e2, _ => simp at e2; omega
  | dic b kvs => cases b <;> first | exact absurd ht Bool.false_ne_true | exact h
  | _ => first | exact absurd ht Bool.false_ne_true | exact h
theorem wp_is_price : ∀ ts μ φ ε, c_is_price ts μ φ ε → ts.length = 1 ∧ wpB ir_is_price 0 ts μ φ ε := by
  rintro ts μ φ ε ⟨t, rfl, rfl, ht, h⟩
  refine ⟨rfl, ?_⟩
  cases t with
  | int i =>
    have h : φ (.bl (decide (0 ≤ i) && decide (i ≤ 99))) [] := h
    (conv => whnf)
    cases e1 : decide (0 ≤ i) with
    | false => rw [e1] at h; exact h
    | true => rw [e1] at h; exact h
  | dic b kvs => cases b <;> first | exact absurd ht Bool.false_ne_true | exact h
  | _ => first | exact absurd ht Bool.false_ne_true | exact h
def nP : Tr → Bool
  | .ptr _ => false
  | _ => true
theorem okI_nP {t : Tr} (h : okI t = true) : nP t = true := by
  cases t <;> first | rfl | exact absurd h Bool.false_ne_true
theorem noP_of : ∀ {xs : List Tr} {P : Prop}, xs.all nP = true → P → noP xs P
  | [], P, _, h => by unfold noP; exact h
  | x :: xs, P, hx, h => by
    rw [List.all_cons, Bool.and_eq_true] at hx
    have ih := noP_of (xs := xs) hx.2 h
    unfold noP
    cases x <;> first | exact ih | exact absurd hx.1 Bool.false_ne_true
theorem renum_np : ∀ {xs : List Tr} {n : Nat} {k : List Tr → List Nat → Prop}, xs.all nP = true → k xs [] → renum xs n k
  | [], _, _, _, h => h
  | x :: xs, n, k, hx, h => by
    rw [List.all_cons, Bool.and_eq_true] at hx
    have ih := renum_np (xs := xs) (n := n) (k := fun us is => k (x :: us) is) hx.2 h
    cases x <;> first | exact ih | exact absurd hx.1 Bool.false_ne_true
/-- a call without cells -/
theorem callP {c : Con} {xs : List Tr} {μ : Mem} {φ ε : EK} (hx : xs.all nP = true) (h : ∀ φ' ε' : EK, (∀ t, nP t = true → φ t μ → φ' t []) → (∀ t, nP t = true → ε t μ → ε' t []) → c xs [] φ' ε') : callK c xs μ φ ε := by
  unfold callK
  refine renum_np hx ?_
  refine h _ _ (fun t ht q => ?_) (fun t ht q => ?_)
  · cases t <;> first | exact q | exact absurd ht Bool.false_ne_true
  · cases t <;> first | exact q | exact absurd ht Bool.false_ne_true
theorem wp_is_arrow : ∀ ts μ φ ε, c_is_arrow ts μ φ ε → ts.length = 1 ∧ wpB ir_is_arrow 4 ts μ φ ε := by
  rintro ts μ φ ε ⟨t, rfl, rfl, ht, h⟩
  refine ⟨rfl, ?_⟩
  cases t
  case tup us | lst us =>
    (conv => whnf)
    cases e : decide ((us.length : Int) = 4) with
    | false =>
      match us, e, h with
      | [], _, h => exact h
      | [_], _, h => exact h
      | [_, _], _, h => exact h
      | [_, _, _], _, h => exact h
      | [_, _, _, _], e, _ => simp at e
      | _ :: _ :: _ :: _ :: _ :: _, _, h => exact h
    | true =>
      match us, e, h, ht with
      | [], e, _, _ => simp at e
      | [_], e, _, _ => simp at e
      | [_, _], e, _, _ => simp at e
      | [_, _, _], e, _, _ => simp at e
      | _ :: _ :: _ :: _ :: _ :: _, e, _, _ => simp at e; omega
      | [a, b, c, d], _, h, hus =>
        unfold okA at hus
        simp only [List.all_cons, List.all_nil, Bool.and_true, Bool.and_eq_true] at hus
        obtain ⟨ha, hb, hc, hd⟩ := hus
        have h : φ (.bl (nameT a && letT b && nameT c && priT d)) [] := h
        (conv => whnf)
        refine callP (by simp [okI_nP ha]) fun φ1 ε1 k1 _ => ⟨a, rfl, rfl, ha, k1 _ rfl ?_⟩
        cases e1 : nameT a with
        | false => rw [e1] at h; exact h
        | true =>
          rw [e1] at h
          (conv => whnf)
          refine callP (by simp [okI_nP hb]) fun φ1 ε1 k1 _ => ⟨b, rfl, rfl, hb, k1 _ rfl ?_⟩
          cases e2 : letT b with
          | false => rw [e2] at h; exact h
          | true =>
            rw [e2] at h
            (conv => whnf)
            refine callP (by simp [okI_nP hc]) fun φ1 ε1 k1 _ => ⟨c, rfl, rfl, hc, k1 _ rfl ?_⟩
            cases e3 : nameT c with
            | false => rw [e3] at h; exact h
            | true =>
              rw [e3] at h
              (conv => whnf)
              exact callP (by simp [okI_nP hd]) fun φ1 ε1 k1 _ => ⟨d, rfl, rfl, hd, k1 _ rfl h⟩
  case dic b kvs => cases b <;> first | exact absurd ht Bool.false_ne_true | exact h
  all_goals first | exact absurd ht Bool.false_ne_true | exact h
end G

/-! Cc: dicts by their entries; orders; the cheapest arrows. -/
namespace G
open Ir (Tr eqT getT putT)
section
variable {κ α : Type} [DecidableEq κ]
def putD (kvs : List (κ × α)) (k : κ) (v : α) : List (κ × α) := if k ∈ kvs.map Prod.fst then kvs.map (fun p => if p.1 = k then (p.1, v) else p) else kvs ++ [(k, v)]
def valD : List (κ × α) → κ → Option α
  | [], _ => none
  | (a, v) :: r, k => if a = k then some v else valD r k
theorem valD_cons (a k : κ) (v : α) (r : List (κ × α)) : valD ((a, v) :: r) k = if a = k then some v else valD r k := rfl
def dE (e : κ → Tr) (g : α → Tr) (kvs : List (κ × α)) : List (Tr × Tr) := kvs.map fun p => (e p.1, g p.2)
variable {e : κ → Tr} {g : α → Tr} (he : ∀ a b, eqT (e a) (e b) = decide (a = b))
include he
theorem get_dE (kvs : List (κ × α)) (k : κ) : getT (dE e g kvs) (e k) = (valD kvs k).map g := by
  induction kvs with
  | nil => rfl
  | cons p r ih =>
    obtain ⟨a, v⟩ := p
    show (if eqT (e a) (e k) = true then some (g v) else getT (dE e g r) (e k)) = _
    rw [he, ih]
    by_cases h : a = k
    · rw [decide_eq_true h, if_pos rfl]; simp only [valD_cons]; rw [if_pos h]; rfl
    · rw [decide_eq_false h, if_neg Bool.false_ne_true]; simp only [valD_cons]; rw [if_neg h]
theorem any_dE (kvs : List (κ × α)) (k : κ) : ((dE e g kvs).any fun p => eqT p.1 (e k)) = decide (k ∈ kvs.map Prod.fst) := by
  unfold dE
  rw [List.any_map, Bool.eq_iff_iff]
  simp only [List.any_eq_true, Function.comp, he, decide_eq_true_eq, List.mem_map]
theorem put_dE (kvs : List (κ × α)) (k : κ) (v : α) : putT (dE e g kvs) (e k) (g v) = dE e g (putD kvs k v) := by
  unfold putT putD
  rw [any_dE he]
  by_cases h : k ∈ kvs.map Prod.fst
  · rw [if_pos (decide_eq_true h), if_pos h]
    unfold dE
    rw [List.map_map, List.map_map]
    refine List.map_congr_left fun p _ => ?_
    show (if eqT (e p.1) (e k) = true then _ else _) = _
    rw [he]
    by_cases h2 : p.1 = k
    · rw [if_pos (decide_eq_true h2)]
      show _ = (e (if p.1 = k then (p.1, v) else p).1, g (if p.1 = k then (p.1, v) else p).2)
      rw [if_pos h2]
    · rw [if_neg (by rw [decide_eq_false h2]; simp)]
      show _ = (e (if p.1 = k then (p.1, v) else p).1, g (if p.1 = k then (p.1, v) else p).2)
      rw [if_neg h2]
  · rw [if_neg (by rw [decide_eq_false h]; simp), if_neg h]
    unfold dE
    rw [List.map_append]
    rfl
end
section
variable {κ α : Type} [DecidableEq κ]
theorem fst_dE {e : κ → Tr} {g : α → Tr} (kvs : List (κ × α)) : (dE e g kvs).map Prod.fst = (kvs.map Prod.fst).map e := by unfold dE; rw [List.map_map, List.map_map]; rfl
theorem keys_putD (kvs : List (κ × α)) (k : κ) (v : α) : (putD kvs k v).map Prod.fst = if k ∈ kvs.map Prod.fst then kvs.map Prod.fst else kvs.map Prod.fst ++ [k] := by
  unfold putD
  split
  · rw [List.map_map]
    refine List.map_congr_left fun p _ => ?_
    show (if p.1 = k then (p.1, v) else p).1 = p.1
    split <;> rfl
  · rw [List.map_append]; rfl
theorem putD_nodup {kvs : List (κ × α)} (k : κ) (v : α) (h : (kvs.map Prod.fst).Nodup) : ((putD kvs k v).map Prod.fst).Nodup := by
  rw [keys_putD]
  split
  · exact h
  · rename_i hk
    rw [List.nodup_append]
    exact ⟨h, by simp, fun x hx y hy e => hk (by
      have : y = k := by simpa using hy
      rw [← this, ← e]; exact hx)⟩
theorem putD_mem {kvs : List (κ × α)} {k j : κ} {v : α} : j ∈ (putD kvs k v).map Prod.fst ↔ j ∈ kvs.map Prod.fst ∨ j = k := by
  rw [keys_putD]
  split
  · rename_i hk
    exact ⟨.inl, fun h => h.elim id fun e => by rw [e]; exact hk⟩
  · rw [List.mem_append, List.mem_singleton]
theorem valD_none {kvs : List (κ × α)} {k : κ} : valD kvs k = none ↔ k ∉ kvs.map Prod.fst := by
  induction kvs with
  | nil => simp [valD]
  | cons p r ih =>
    obtain ⟨a, v⟩ := p
    simp only [valD_cons]
    by_cases h : a = k
    · rw [if_pos h]; simp [h]
    · rw [if_neg h, ih]
      simp [Ne.symm h]
theorem valD_mem {kvs : List (κ × α)} {k : κ} {v : α} (h : valD kvs k = some v) : (k, v) ∈ kvs := by
  induction kvs with
  | nil => cases h
  | cons p r ih =>
    obtain ⟨a, w⟩ := p
    rw [valD_cons] at h
    by_cases e : a = k
    · rw [if_pos e] at h; cases h; subst e; exact List.mem_cons_self
    · rw [if_neg e] at h; exact List.mem_cons_of_mem _ (ih h)
theorem mem_valD {kvs : List (κ × α)} {k : κ} {v : α} (nd : (kvs.map Prod.fst).Nodup) (h : (k, v) ∈ kvs) : valD kvs k = some v := by
  induction kvs with
  | nil => cases h
  | cons p r ih =>
    obtain ⟨a, w⟩ := p
    rw [List.map_cons, List.nodup_cons] at nd
    simp only [valD_cons]
    rcases List.mem_cons.mp h with h | h
    · cases h; rw [if_pos rfl]
    · rw [if_neg fun e => nd.1 (by
        show a ∈ _
        rw [e]; exact List.mem_map.mpr ⟨_, h, rfl⟩)]
      exact ih nd.2 h
theorem valD_append {l m : List (κ × α)} {k : κ} : valD (l ++ m) k = (valD l k).or (valD m k) := by
  induction l with
  | nil => rfl
  | cons p r ih =>
    obtain ⟨a, w⟩ := p
    rw [List.cons_append]
    simp only [valD_cons]
    split
    · rfl
    · exact ih
theorem valD_put (kvs : List (κ × α)) (k j : κ) (v : α) : valD (putD kvs k v) j = if j = k then some v else valD kvs j := by
  unfold putD
  split
  · rename_i hk
    induction kvs with
    | nil => cases hk
    | cons p r ih =>
      obtain ⟨a, w⟩ := p
      rw [List.map_cons]
      by_cases ha : a = k
      · subst ha
        rw [if_pos rfl]
        simp only [valD_cons]
        by_cases hj : a = j
        · subst hj; rw [if_pos rfl, if_pos rfl]
        · rw [if_neg hj, if_neg (Ne.symm hj), if_neg hj]
          by_cases hr : a ∈ r.map Prod.fst
          · rw [ih hr, if_neg (Ne.symm hj)]
          · have : r.map (fun p => if p.1 = a then (p.1, v) else p) = r := by
              refine (List.map_congr_left fun p hp => ?_).trans (List.map_id r)
              rw [if_neg fun e => hr (List.mem_map.mpr ⟨p, hp, e⟩)]; rfl
            rw [this]
      · rw [if_neg ha]
        have hr : k ∈ r.map Prod.fst := by
          rcases List.mem_cons.mp hk with h | h
          · exact absurd h.symm ha
          · exact h
        simp only [valD_cons]
        rw [ih hr]
        by_cases hj : a = j
        · subst hj; rw [if_pos rfl, if_pos rfl, if_neg ha]
        · rw [if_neg hj, if_neg hj]
  · rename_i hk
    rw [valD_append]
    by_cases hj : j = k
    · subst hj
      rw [valD_none.mpr hk, if_pos rfl]
      simp [valD]
    · rw [if_neg hj]
      simp [valD, Ne.symm hj]
theorem putD_len (kvs : List (κ × α)) (k : κ) (v : α) : (putD kvs k v).length ≤ kvs.length + 1 := by
  unfold putD
  split
  · rw [List.length_map]; omega
  · simp
end
/-! ### two lists with the same items -/
theorem nodup_len {α : Type} [DecidableEq α] {l m : List α} (hl : l.Nodup) (hm : m.Nodup) (h : ∀ x, x ∈ l ↔ x ∈ m) : l.length = m.length := ((List.perm_ext_iff_of_nodup hl hm).mpr h).length_eq
theorem asc_nodup {α : Type} [DecidableEq α] {lt : α → α → Bool} (O : Ord lt) {l : List α} (h : Asc lt l) : l.Nodup := h.imp fun {a b} hab e => by
  subst e
  rw [O.ir] at hab
  cases hab
/-- not strictly ascending, each once -/
theorem asc_of {α : Type} [DecidableEq α] {lt : α → α → Bool} (O : Ord lt) {R : α → α → Prop} (hR : ∀ a b, R a b → lt a b = true ∨ a = b) : ∀ {l : List α}, l.Pairwise R → l.Nodup → Asc lt l
  | [], _, _ => List.Pairwise.nil
  | x :: l, h, nd => by
    have h' := List.pairwise_cons.mp h
    have nd' := List.nodup_cons.mp nd
    refine List.Pairwise.cons (fun y hy => ?_) (asc_of O hR h'.2 nd'.2)
    rcases hR x y (h'.1 y hy) with e | e
    · exact e
    · exact absurd (e ▸ hy) nd'.1
theorem not_lt_or {a b : List Nat} (h : ¬ b < a) : ltN a b = true ∨ a = b := by
  by_cases e : a = b
  · exact .inr e
  · refine .inl (decide_eq_true ?_)
    rcases List.le_iff_lt_or_eq.mp (List.not_lt.mp h) with h1 | h1
    · exact h1
    · exact absurd h1 e
/-! ### pairs in order -/
def ltP {α β : Type} [DecidableEq α] (l1 : α → α → Bool) (l2 : β → β → Bool) (a b : α × β) : Bool := l1 a.1 b.1 || (decide (a.1 = b.1) && l2 a.2 b.2)
theorem ordP {α β : Type} [DecidableEq α] [DecidableEq β] {l1 : α → α → Bool} {l2 : β → β → Bool} (o1 : Ord l1) (o2 : Ord l2) : Ord (ltP l1 l2) := by
  refine ⟨fun a => by simp [ltP, o1.ir, o2.ir], fun a b c h1 h2 => ?_, fun a b h1 h2 => ?_⟩
  · simp only [ltP, Bool.or_eq_true, Bool.and_eq_true, decide_eq_true_eq] at *
    rcases h1 with h1 | ⟨e1, h1⟩
    · rcases h2 with h2 | ⟨e2, h2⟩
      · exact .inl (o1.tr _ _ _ h1 h2)
      · exact .inl (e2 ▸ h1)
    · rcases h2 with h2 | ⟨e2, h2⟩
      · exact .inl (e1 ▸ h2)
      · exact .inr ⟨e1.trans e2, o2.tr _ _ _ h1 h2⟩
  · simp only [ltP, Bool.or_eq_false_iff] at h1 h2
    have e : a.1 = b.1 := o1.to _ _ h1.1 h2.1
    have h3 := h1.2
    have h4 := h2.2
    rw [decide_eq_true e, Bool.true_and] at h3
    rw [decide_eq_true e.symm, Bool.true_and] at h4
    exact Prod.ext e (o2.to _ _ h3 h4)
def ltI (a b : Int) : Bool := decide (a < b)
theorem ordI : Ord ltI := ⟨fun a => by simp [ltI], fun a b c h1 h2 => by simp only [ltI, decide_eq_true_eq] at *; omega, fun a b h1 h2 => by simp only [ltI, decide_eq_false_iff_not] at *; omega⟩
/-! ### arrows by their keys -/
abbrev K3 := List Nat × List Nat × List Nat
def k3 (x : Ar) : K3 := (x.s, x.l, x.a)
def lt3 : K3 → K3 → Bool := ltP ltN (ltP ltN ltN)
theorem ord3 : Ord lt3 := ordP ordN (ordP ordN ordN)
def lt4 : K3 × Int → K3 × Int → Bool := ltP lt3 ltI
theorem ord4 : Ord lt4 := ordP ord3 ordI
def atm3 (k : K3) : List (Int ⊕ List Nat) := [.inr k.1, .inr k.2.1, .inr k.2.2]
def atm4 (x : Ar) : List (Int ⊕ List Nat) := [.inr x.s, .inr x.l, .inr x.a, .inl x.p]
def leastP (as : List Ar) (k : K3) : Int := Ir.lmin ((as.filter fun y => decide (k3 y = k)).map Ar.p)
def chp (as : List Ar) : List Ar := (srtU lt3 (as.map k3)).map fun k => ⟨k.1, k.2.1, k.2.2, leastP as k⟩
theorem leastP_of {as : List Ar} {x : Ar} (hx : x ∈ as) (h : ∀ y ∈ as, k3 y = k3 x → x.p ≤ y.p) : leastP as (k3 x) = x.p := by
  have hm : x.p ∈ (as.filter fun y => decide (k3 y = k3 x)).map Ar.p := List.mem_map.mpr ⟨x, by simp [hx], rfl⟩
  have h1 := Ir.lmin_le hm
  have h2 := Ir.lmin_mem (l := (as.filter fun y => decide (k3 y = k3 x)).map Ar.p) (List.ne_nil_of_mem hm)
  obtain ⟨y, hy, e⟩ := List.mem_map.mp h2
  rw [List.mem_filter] at hy
  have h3 := h y hy.1 (of_decide_eq_true hy.2)
  unfold leastP
  omega
theorem chp_uniq {as l : List Ar} (ha : Asc lt3 (l.map k3)) (h1 : ∀ x ∈ l, x ∈ as ∧ ∀ y ∈ as, k3 y = k3 x → x.p ≤ y.p) (h2 : ∀ y ∈ as, ∃ x ∈ l, k3 x = k3 y) : l = chp as := by
  have e : l.map k3 = srtU lt3 (as.map k3) := asc_srtU ord3 ha fun k => by
    constructor
    · intro hk
      obtain ⟨x, hx, rfl⟩ := List.mem_map.mp hk
      exact List.mem_map.mpr ⟨x, (h1 x hx).1, rfl⟩
    · intro hk
      obtain ⟨y, hy, rfl⟩ := List.mem_map.mp hk
      obtain ⟨x, hx, e⟩ := h2 y hy
      exact List.mem_map.mpr ⟨x, hx, e⟩
  unfold chp
  rw [← e, List.map_map]
  refine (List.map_id l).symm.trans (List.map_congr_left fun x hx => ?_)
  show x = ⟨(k3 x).1, (k3 x).2.1, (k3 x).2.2, leastP as (k3 x)⟩
  rw [leastP_of (h1 x hx).1 (h1 x hx).2]
  rfl
theorem chp_keys (as : List Ar) : (chp as).map k3 = srtU lt3 (as.map k3) := by
  unfold chp
  rw [List.map_map]
  exact (List.map_congr_left fun k _ => rfl).trans (List.map_id _)
theorem least_ex (as : List Ar) (y : Ar) (hy : y ∈ as) : ∃ x ∈ as, k3 x = k3 y ∧ x.p = leastP as (k3 y) ∧ ∀ z ∈ as, k3 z = k3 y → x.p ≤ z.p := by
  have hm : y.p ∈ (as.filter fun z => decide (k3 z = k3 y)).map Ar.p := List.mem_map.mpr ⟨y, by simp [hy], rfl⟩
  obtain ⟨x, hx, e⟩ := List.mem_map.mp (Ir.lmin_mem (List.ne_nil_of_mem hm))
  rw [List.mem_filter] at hx
  refine ⟨x, hx.1, of_decide_eq_true hx.2, e, fun z hz ez => ?_⟩
  rw [e]
  exact Ir.lmin_le (List.mem_map.mpr ⟨z, by simp [hz, ez], rfl⟩)
theorem chp_mem {as : List Ar} {x : Ar} : x ∈ chp as ↔ x ∈ as ∧ ∀ y ∈ as, k3 y = k3 x → x.p ≤ y.p := by
  constructor
  · intro h
    obtain ⟨k, hk, rfl⟩ := List.mem_map.mp h
    obtain ⟨y, hy, rfl⟩ := List.mem_map.mp (srtU_mem.mp hk)
    obtain ⟨x, hx, e1, e2, e3⟩ := least_ex as y hy
    have : (⟨(k3 y).1, (k3 y).2.1, (k3 y).2.2, leastP as (k3 y)⟩ : Ar) = x := by
      rw [← e1] at e2 ⊢
      rw [← e2]
      rfl
    rw [this]
    exact ⟨hx, fun z hz ez => e3 z hz (ez.trans e1)⟩
  · rintro ⟨hx, h⟩
    refine List.mem_map.mpr ⟨k3 x, srtU_mem.mpr (List.mem_map.mpr ⟨x, hx, rfl⟩), ?_⟩
    rw [leastP_of hx h]
    rfl
end G

namespace G
open Ir
/-! Cd: each_once, cheapest. -/
def sT (l : List Nat) : Tr := .str l
theorem eqS (a b : List Nat) : eqT (.str a) (.str b) = decide (a = b) := rfl
theorem seq_sq {b : Bool} {ts : List Tr} {k : List Tr → Prop} (h : k ts) : seqK (sqT b ts) k := by cases b <;> exact h
def c_each_once : Con := fun ts μ φ ε => ∃ (b : Bool) (ns : List (List Nat)), ts = [sqT b (ns.map .str)] ∧ μ = [] ∧ ns.length ≤ 1000000 ∧ (uniq ns).length < 64 ∧ φ (.tup ((uniq ns).map .str)) []
def ir_each_once : Sm := (.ret (.blt .tuple (.cons (.sorted (.dcomp false (.nm 1) [1] (.itS (.nm 0)) (.nm 1) (.c (.bl true)))) .nil)))
/-- names put into a dict -/
theorem putAll_names {α : Type} (v : α) : ∀ (ns : List (List Nat)) (D : List (List Nat × α)), (D.map Prod.fst).Nodup → ((ns.foldl (fun D x => putD D x v) D).map Prod.fst).Nodup ∧ ∀ x, x ∈ (ns.foldl (fun D x => putD D x v) D).map Prod.fst ↔ x ∈ D.map Prod.fst ∨ x ∈ ns
  | [], D, h => ⟨h, fun x => by simp⟩
  | n :: ns, D, h => by
    obtain ⟨h1, h2⟩ := putAll_names v ns (putD D n v) (putD_nodup n v h)
    refine ⟨h1, fun x => ?_⟩
    rw [List.foldl_cons, h2, putD_mem, List.mem_cons]
    constructor
    · rintro ((h | h) | h) <;> simp [h]
    · rintro (h | h | h) <;> simp [h]
theorem fold_dE {α : Type} (v : α) (g : α → Tr) : ∀ (ns : List (List Nat)) (D : List (List Nat × α)), ns.foldl (fun kvs x => putT kvs (.str x) (g v)) (dE Tr.str g D) = dE Tr.str g (ns.foldl (fun D x => putD D x v) D)
  | [], D => rfl
  | n :: ns, D => by
    rw [List.foldl_cons, List.foldl_cons, put_dE eqS]
    exact fold_dE v g ns _
theorem wp_each_once : ∀ ts μ φ ε, c_each_once ts μ φ ε → ts.length = 1 ∧ wpB ir_each_once 1 ts μ φ ε := by
  rintro ts μ φ ε ⟨b, ns, rfl, rfl, hl, h64, h⟩
  refine ⟨rfl, ?_⟩
  cases b
  case true | false =>
    (conv => whnf)
    refine szK_of (by rw [List.length_map]; exact hl) ?_
    refine dcompK_map (enc := Tr.str) (g := Tr.str) (h := fun _ => .bl true) (fun _ _ => rfl) (fun x _ k hk => hk) ?_
    have e := fold_dE true Tr.bl ns []
    obtain ⟨n1, n2⟩ := putAll_names true ns [] List.nodup_nil
    generalize ns.foldl (fun D x => putD D x true) [] = D at e n1 n2
    have e2 : ns.foldl (fun kvs x => putT kvs (.str x) (.bl true)) [] = dE Tr.str Tr.bl D := e
    rw [e2]
    have hm : ∀ x, x ∈ D.map Prod.fst ↔ x ∈ uniq ns := fun x => by rw [n2, srtU_mem]; simp
    have hlen : (D.map Prod.fst).length = (uniq ns).length := nodup_len n1 (asc_nodup ordN (srtU_asc ordN)) hm
    refine ⟨fun _ => by rw [← hlen] at h64; unfold dE; rw [List.length_map]; rw [List.length_map] at h64; exact h64, .inl ⟨D.map Prod.fst, fst_dE D, fun rs hp hw => ?_⟩⟩
    have hr : rs = uniq ns := asc_srtU ordN (asc_of ordN (fun a b hab => not_lt_or hab) hw (hp.nodup_iff.mpr n1)) fun x => by rw [hp.mem_iff, hm, srtU_mem]
    rw [hr]
    exact h
/-! ### the cheapest arrows -/
def tK (k : K3) : Tr := .tup [.str k.1, .str k.2.1, .str k.2.2]
theorem eqK3 (a b : K3) : eqT (tK a) (tK b) = decide (a = b) := by
  show (decide (a.1 = b.1) && (decide (a.2.1 = b.2.1) && (decide (a.2.2 = b.2.2) && true))) = _
  rw [Bool.eq_iff_iff]
  simp [Prod.ext_iff]
def c_cheapest : Con := fun ts μ φ ε => ∃ (b : Bool) (xs : List (Bool × Ar)), ts = [sqT b (xs.map fun q => aT q.1 q.2)] ∧ μ = [] ∧ xs.length ≤ 100000 ∧ (∀ q ∈ xs, q.2.p ≤ 99) ∧ φ (.tup ((chp (xs.map Prod.snd)).map tA)) []
def ir_cheapest : Sm := (.seq (.asg (.nm 1) (.ow (.emp true))) (.seq (.for (.cons (.nm 2) (.cons (.nm 3) (.cons (.nm 4) (.cons (.nm 5) .nil)))) (.itS (.nm 0)) (.seq (.asg (.nm 6) (.tup (.cons (.nm 2) (.cons (.nm 3) (.cons (.nm 4) .nil))))) (.seti 1 (.nm 6) (.blt .min2 (.cons (.nm 5) (.cons (.get2 (.nm 1) (.nm 6) (.c (.int 99))) .nil)))))) (.ret (.blt .tuple (.cons (.comp (.nm 6) [6] (.itS (.sorted (.nm 1))) .yes (.tup (.star (.nm 6) (.cons (.ix (.nm 1) (.nm 6)) .nil)))) .nil)))))
structure ChI (D : List (K3 × Int)) (as : List Ar) : Prop where
  nd : (D.map Prod.fst).Nodup
  mn : ∀ k, IsMin (fun c => ∃ y ∈ as, k3 y = k ∧ y.p = c) (valD D k)
  ln : D.length ≤ as.length
theorem ChI.nil : ChI [] [] := ⟨List.nodup_nil, (fun k c ⟨y, hy, _⟩ => nomatch hy), Nat.le_refl _⟩
theorem ChI.snoc {D as} (h : ChI D as) (x : Ar) (hx : x.p ≤ 99) (ha : ∀ y ∈ as, y.p ≤ 99) : ChI (putD D (k3 x) (min x.p ((valD D (k3 x)).getD 99))) (as ++ [x]) := by
  refine ⟨putD_nodup _ _ h.nd, fun k => ?_, by rw [List.length_append]; have := putD_len D (k3 x) (min x.p ((valD D (k3 x)).getD 99)); have := h.ln; simp; omega⟩
  rw [valD_put]
  have hm := h.mn k
  by_cases hk : k = k3 x
  · subst hk
    rw [if_pos rfl]
    cases e : valD D (k3 x) with
    | none =>
      rw [e] at hm
      have hmin : min x.p ((none : Option Int).getD 99) = x.p := by simp; omega
      rw [hmin]
      refine ⟨⟨x, by simp, rfl, rfl⟩, fun d ⟨y, hy, ey, ed⟩ => ?_⟩
      rcases List.mem_append.mp hy with hy | hy
      · exact absurd ⟨y, hy, ey, ed⟩ (hm d)
      · cases List.mem_singleton.mp hy; omega
    | some c =>
      rw [e] at hm
      obtain ⟨⟨y, hy, ey, ec⟩, hle⟩ := hm
      show IsMin _ (some (min x.p c))
      refine ⟨?_, fun d ⟨z, hz, ez, ed⟩ => ?_⟩
      · by_cases hc : x.p ≤ c
        · exact ⟨x, by simp, rfl, by omega⟩
        · exact ⟨y, by simp [hy], ey, by omega⟩
      · rcases List.mem_append.mp hz with hz | hz
        · have := hle d ⟨z, hz, ez, ed⟩; omega
        · cases List.mem_singleton.mp hz; omega
  · rw [if_neg hk]
    refine IsMin.congr (fun c => ?_) hm
    constructor
    · rintro ⟨y, hy, e⟩; exact ⟨y, by simp [hy], e⟩
    · rintro ⟨y, hy, e1, e2⟩
      rcases List.mem_append.mp hy with hy | hy
      · exact ⟨y, hy, e1, e2⟩
      · cases List.mem_singleton.mp hy; exact absurd e1.symm hk
def un3 : List (Int ⊕ List Nat) → K3
  | [.inr a, .inr b, .inr c] => (a, b, c)
  | _ => ([], [], [])
theorem perm3 {rs : List (List (Int ⊕ List Nat))} {ks : List K3} (h : rs.Perm (ks.map atm3)) : ∃ qs : List K3, rs = qs.map atm3 ∧ qs.Perm ks := by
  refine ⟨rs.map un3, ?_, ?_⟩
  · rw [List.map_map]
    refine (List.map_id rs).symm.trans (List.map_congr_left fun r hr => ?_)
    obtain ⟨k, _, rfl⟩ := List.mem_map.mp (h.mem_iff.mp hr)
    rfl
  · have := h.map un3
    rw [List.map_map] at this
    rwa [show (un3 ∘ atm3 : K3 → K3) = id from rfl, List.map_id] at this
theorem lex3 (a b : K3) (h : lexA (atm3 a) (atm3 b) = true) : lt3 a b = true ∨ a = b := by
  have h : (decide (a.1 < b.1) || (decide (a.1 = b.1) && (decide (a.2.1 < b.2.1) || (decide (a.2.1 = b.2.1) && (decide (a.2.2 < b.2.2) || (decide (a.2.2 = b.2.2) && true)))))) = true := h
  show (decide (a.1 < b.1) || (decide (a.1 = b.1) && (decide (a.2.1 < b.2.1) || (decide (a.2.1 = b.2.1) && decide (a.2.2 < b.2.2))))) = true ∨ a = b
  simp only [Bool.or_eq_true, Bool.and_eq_true, decide_eq_true_eq, and_true] at h ⊢
  rcases h with h | ⟨h1, h | ⟨h2, h | h3⟩⟩
  · exact .inl (.inl h)
  · exact .inl (.inr ⟨h1, .inl h⟩)
  · exact .inl (.inr ⟨h1, .inr ⟨h2, h⟩⟩)
  · exact .inr (Prod.ext h1 (Prod.ext h2 h3))
theorem ChI.out {D as} (h : ChI D as) {qs : List K3} (hq : qs.Perm (D.map Prod.fst)) (ha : Asc lt3 qs) : qs.map (fun k => (⟨k.1, k.2.1, k.2.2, (valD D k).getD 0⟩ : Ar)) = chp as := by
  have e0 : (qs.map fun k => (⟨k.1, k.2.1, k.2.2, (valD D k).getD 0⟩ : Ar)).map k3 = qs := by
    rw [List.map_map]
    exact (List.map_congr_left fun k _ => rfl).trans (List.map_id qs)
  refine chp_uniq (by rw [e0]; exact ha) (fun x hx => ?_) (fun y hy => ?_)
  · obtain ⟨k, hk, rfl⟩ := List.mem_map.mp hx
    have hk2 := hq.mem_iff.mp hk
    have hm := h.mn k
    cases e : valD D k with
    | none => exact absurd hk2 (valD_none.mp e)
    | some c =>
      rw [e] at hm
      obtain ⟨⟨y, hy, ey, ec⟩, hle⟩ := hm
      have : (⟨k.1, k.2.1, k.2.2, (some c : Option Int).getD 0⟩ : Ar) = y := by
        subst ey
        show (⟨y.s, y.l, y.a, c⟩ : Ar) = y
        rw [← ec]
      rw [this]
      exact ⟨hy, fun z hz ez => by rw [ec]; exact hle _ ⟨z, hz, ez.trans ey, rfl⟩⟩
  · have hm := h.mn (k3 y)
    cases e : valD D (k3 y) with
    | none => rw [e] at hm; exact absurd ⟨y, hy, rfl, rfl⟩ (hm y.p)
    | some c =>
      have : k3 y ∈ qs := hq.mem_iff.mpr (List.mem_map.mpr ⟨_, valD_mem e, rfl⟩)
      exact ⟨_, List.mem_map.mpr ⟨_, this, rfl⟩, rfl⟩
theorem wp_cheapest : ∀ ts μ φ ε, c_cheapest ts μ φ ε → ts.length = 1 ∧ wpB ir_cheapest 6 ts μ φ ε := by
  rintro ts μ φ ε ⟨b, xs, rfl, rfl, hl, h99, h⟩
  refine ⟨rfl, ?_⟩
  cases b
  case true | false =>
    (conv => whnf)
    refine forK_at (enc := fun q : Bool × Ar => aT q.1 q.2) (fun pre ρ μ => ∃ o1 o2 o3 o4 o5 D, ρ = [some (sqT _ (xs.map fun q => aT q.1 q.2)), some (.ptr 0), o1, o2, o3, o4, o5] ∧ μ = [.dic true (dE tK Tr.int D)] ∧ ChI D (pre.map Prod.snd)) (all := xs) (pre := []) rfl ⟨none, none, none, none, none, [], rfl, rfl, ChI.nil⟩ ?_ ?_
    · rintro pre ⟨bx, x⟩ post ρ μ hall ⟨o1, o2, o3, o4, o5, D, rfl, rfl, hI⟩ k hk
      have hx : x.p ≤ 99 := h99 (bx, x) (by rw [← hall]; simp)
      have hp : ∀ y ∈ pre.map Prod.snd, y.p ≤ 99 := fun y hy => by
        obtain ⟨q, hq, rfl⟩ := List.mem_map.mp hy
        exact h99 q (by rw [← hall]; simp [hq])
      have hln : D.length + 1 ≤ 1000000 := by
        have h1 := hI.ln
        have h2 := congrArg List.length hall
        rw [List.length_map] at h1
        rw [List.length_append] at h2
        omega
      cases bx
      case true | false =>
        (conv => whnf)
        refine noP_of rfl ?_
        (conv => whnf)
        refine ⟨rfl, ?_⟩
        have e1 := get_dE (g := Tr.int) eqK3 D (k3 x)
        have e1 : getT (dE tK Tr.int D) (.tup [.str x.s, .str x.l, .str x.a]) = (valD D (k3 x)).map Tr.int := e1
        rw [e1]
        have e2 : ((valD D (k3 x)).map Tr.int).getD (.int 99) = .int ((valD D (k3 x)).getD 99) := by cases valD D (k3 x) <;> rfl
        rw [e2]
        (conv => whnf)
        refine ⟨rfl, szK_of (by unfold dE; rw [List.length_map]; exact hln) ?_⟩
        (conv => whnf)
        refine hk _ _ ⟨_, _, _, _, _, _, rfl, ?_, by rw [List.map_append]; exact hI.snoc x hx hp⟩
        have e3 := put_dE (g := Tr.int) eqK3 D (k3 x) (min x.p ((valD D (k3 x)).getD 99))
        exact congrArg (fun z => [Cel.dic true z]) e3
    · rintro ρ μ ⟨o1, o2, o3, o4, o5, D, rfl, rfl, hI⟩
      (conv => whnf)
      refine ⟨fun z => (nomatch z), .inr ⟨(D.map Prod.fst).map atm3, [false, false, false], ?_, by simp, fun k hk => ?_, fun rs hp hw => ?_⟩⟩
      · rw [fst_dE, List.map_map (f := atm3)]; rfl
      · obtain ⟨q, _, rfl⟩ := List.mem_map.mp hk
        rfl
      · obtain ⟨qs, rfl, hq⟩ := perm3 hp
        have ha : Asc lt3 qs := asc_of ord3 (R := fun a b => lexA (atm3 a) (atm3 b) = true) lex3 (List.pairwise_map.mp hw) (hq.nodup_iff.mpr hI.nd)
        have hlq : qs.length ≤ 1000000 := by
          have h1 := hI.ln
          have h2 := hq.length_eq
          rw [List.length_map] at h1 h2
          omega
        have ho := hI.out hq ha
        (conv => whnf)
        refine szK_of (by simpa using hlq) ?_
        rw [List.map_map]
        refine compK_map (enc := (fun k => Tr.tup (k.map atmT)) ∘ atm3) (g := fun k => tA ⟨k.1, k.2.1, k.2.2, (valD D k).getD 0⟩) (fun k hk kk hkk => ?_) ?_
        · (conv => whnf)
          have hkD := hq.mem_iff.mp hk
          cases e : valD D k with
          | none => exact absurd hkD (valD_none.mp e)
          | some c =>
            rw [e] at hkk
            refine ⟨rfl, .int c, ?_, ?_⟩
            · have e1 := get_dE (g := Tr.int) eqK3 D k
              rw [e] at e1
              exact e1
            · (conv => whnf)
              refine noP_of rfl ?_
              exact hkk
        · (conv => whnf)
          have e4 : qs.map (fun k => tA ⟨k.1, k.2.1, k.2.2, (valD D k).getD 0⟩) = (chp (xs.map Prod.snd)).map tA := by
            rw [← ho, List.map_map]; rfl
          rw [e4]
          exact h
end G

namespace G
open Ir
/-! Ce: Machine. -/
/-- arrows by state and letter -/
def wK (x : Ar) : Tr := .tup [.str x.s, .str x.l]
def wV (x : Ar) : Tr := .tup [.str x.a, .int x.p]
def ways (as : List Ar) : List (Tr × List Tr) := as.foldl (fun w x => addW w (wK x) (wV x)) []
structure Mc where
  as : List Ar
  ss : List (List Nat)
  es : List (List Nat)
def ends2 (as : List Ar) : List (List Nat) := as.flatMap fun x => [x.s, x.a]
def Mc.st (m : Mc) : List (List Nat) := uniq (m.ss ++ m.es ++ ends2 m.as)
def fs4 (m : Mc) : List (Nat × Tr) := [(0, .tup (m.as.map tA)), (1, .tup (m.ss.map .str)), (2, .tup (m.es.map .str)), (3, .tup (m.st.map .str))]
def mT (m : Mc) : Tr := .obj 0 (fs4 m ++ [(4, .dic true ((ways m.as).map fun p => (p.1, .lst p.2)))])
def mkM (as : List Ar) (ss es : List (List Nat)) : Mc := ⟨chp as, uniq ss, uniq es⟩
structure OkM (as : List Ar) (ss es : List (List Nat)) : Prop where
  la : as.length ≤ 400
  ls : ss.length ≤ 1000
  le : es.length ≤ 1000
  oa : ∀ x ∈ as, okAr x = true
  os : ∀ s ∈ ss, nameB s = true
  oe : ∀ s ∈ es, nameB s = true
  fw : (mkM as ss es).st.length ≤ 40
def c_Machine_init : Con := fun ts μ φ ε => ∃ (b0 b1 b2 : Bool) (xs : List (Bool × Ar)) (ss es : List (List Nat)), ts = [.ptr 0, sqT b0 (xs.map fun q => aT q.1 q.2), sqT b1 (ss.map .str), sqT b2 (es.map .str)] ∧ μ = [.obj 0 []] ∧ OkM (xs.map Prod.snd) ss es ∧ φ .non [.objW 0 (fs4 (mkM (xs.map Prod.snd) ss es)) (ways (chp (xs.map Prod.snd)))]
def ir_Machine_init : Sm := (.seq (.for (.nm 4) (.rng (.c (.int 1)) (.op .add (.blt .len (.cons (.nm 1) .nil)) (.c (.int 1)))) (.ite (.or (.cmp .gt (.nm 4) (.c (.int 400))) (.not (.call c_is_arrow (.cons (.ix (.nm 1) (.op .sub (.nm 4) (.c (.int 1)))) .nil)))) .bad .skip)) (.seq (.for (.nm 5) (.itS (.lst (.star (.nm 2) (.star (.nm 3) .nil)))) (.ite (.not (.call c_is_name (.cons (.nm 5) .nil))) .bad .skip)) (.seq (.setf 0 0 0 (.call c_cheapest (.cons (.nm 1) .nil))) (.seq (.setf 0 0 1 (.call c_each_once (.cons (.nm 2) .nil))) (.seq (.setf 0 0 2 (.call c_each_once (.cons (.nm 3) .nil))) (.seq (.asg (.nm 6) (.ow (.lst (.star (.fld 0 (.nm 0) 1) (.star (.fld 0 (.nm 0) 2) .nil))))) (.seq (.for (.cons (.nm 5) (.cons (.nm 7) (.cons (.nm 8) (.cons (.nm 9) .nil)))) (.itS (.fld 0 (.nm 0) 0)) (.ext 6 (.lst (.cons (.nm 5) (.cons (.nm 8) .nil))))) (.seq (.setf 0 0 3 (.call c_each_once (.cons (.mv 6) .nil))) (.seq (.ite (.cmp .gt (.blt .len (.cons (.fld 0 (.nm 0) 3) .nil)) (.c (.int 40))) .bad .skip) (.seq (.ways0 0 0) (.for (.cons (.nm 5) (.cons (.nm 7) (.cons (.nm 8) (.cons (.nm 9) .nil)))) (.itS (.fld 0 (.nm 0) 0)) (.waysA 0 0 5 7 8 9))))))))))))
theorem nodup_le {α : Type} [DecidableEq α] : ∀ {l m : List α}, l.Nodup → (∀ x ∈ l, x ∈ m) → l.length ≤ m.length
  | [], _, _, _ => Nat.zero_le _
  | x :: l, m, nd, h => by
    have nd' := List.nodup_cons.mp nd
    have hx := h x List.mem_cons_self
    have := nodup_le (l := l) (m := m.erase x) nd'.2 fun y hy => (List.mem_erase_of_ne fun e => nd'.1 (by rw [← e]; exact hy)).mpr (h y (List.mem_cons_of_mem _ hy))
    rw [List.length_erase_of_mem hx] at this
    have := List.length_pos_of_mem hx
    rw [List.length_cons]
    omega
theorem uniq_nd (l : List (List Nat)) : (uniq l).Nodup := asc_nodup ordN (srtU_asc ordN)
theorem uniq_le {l m : List (List Nat)} (h : ∀ x ∈ l, x ∈ m) : (uniq l).length ≤ (uniq m).length := nodup_le (uniq_nd l) fun x hx => srtU_mem.mpr (h x (srtU_mem.mp hx))
theorem uniq_len (l : List (List Nat)) : (uniq l).length ≤ l.length := nodup_le (uniq_nd l) fun x hx => srtU_mem.mp hx
theorem chp_len (as : List Ar) : (chp as).length ≤ as.length := by
  have h : (chp as).length = (srtU lt3 (as.map k3)).length := by unfold chp; rw [List.length_map]
  rw [h]
  have := nodup_le (asc_nodup ord3 (srtU_asc ord3 (l := as.map k3))) fun x hx => srtU_mem.mp hx
  rwa [List.length_map] at this
theorem okAr_arr {b : Bool} {x : Ar} (h : okAr x = true) : arrT (aT b x) = true ∧ okA (aT b x) = true := by
  unfold okAr at h
  simp only [Bool.and_eq_true, decide_eq_true_eq] at h
  obtain ⟨⟨⟨h1, h2⟩, h3⟩, h4, h5⟩ := h
  have l8 : ∀ {l : List Nat}, nameB l = true → Nat.ble l.length 1000000 = true := fun {l} h => by
    unfold nameB at h
    simp only [Bool.and_eq_true, decide_eq_true_eq] at h
    exact Nat.ble_eq_true_of_le (by omega)
  have l1 : ∀ {l : List Nat}, letB l = true → Nat.ble l.length 1000000 = true := fun {l} h => by
    match l, h with
    | [c], _ => rfl
  constructor
  · cases b
    case true | false =>
      show (nameB x.s && letB x.l && nameB x.a && (decide (0 ≤ x.p) && decide (x.p ≤ 99))) = true
      simp [h1, h2, h3, h4, h5]
  · cases b
    case true | false =>
      show (Nat.ble x.s.length 1000000 && (Nat.ble x.l.length 1000000 && (Nat.ble x.a.length 1000000 && (true && true)))) = true
      rw [l8 h1, l1 h2, l8 h3]
      rfl
theorem name_ok {l : List Nat} (h : nameB l = true) : okI (.str l) = true := by
  unfold nameB at h
  simp only [Bool.and_eq_true, decide_eq_true_eq] at h
  exact Nat.ble_eq_true_of_le (by omega)
theorem nP_sq {b : Bool} {ts : List Tr} : nP (sqT b ts) = true := by cases b <;> rfl
theorem nPs : ∀ (l : List (List Nat)), (l.map Tr.str).all nP = true
  | [] => rfl
  | _ :: l => nPs l
theorem szF_of {n : Nat} {P : Prop} (h : n < 1000) (p : P) : szF n P := by
  unfold szF
  rw [show Nat.blt n 1000 = true from Nat.ble_eq_true_of_le h]
  exact p
theorem addW_len (w : List (Tr × List Tr)) (k v : Tr) : (addW w k v).length ≤ w.length + 1 := by
  unfold addW
  split
  · rw [List.length_map]; omega
  · simp
theorem addW_each {w : List (Tr × List Tr)} {k v : Tr} {n : Nat} (h : ∀ p ∈ w, p.2.length ≤ n) : ∀ p ∈ addW w k v, p.2.length ≤ n + 1 := fun p hp => by
  unfold addW at hp
  split at hp
  · obtain ⟨q, hq, rfl⟩ := List.mem_map.mp hp
    have := h q hq
    split
    · simp; omega
    · omega
  · rcases List.mem_append.mp hp with hp | hp
    · have := h p hp; omega
    · cases List.mem_singleton.mp hp; simp
theorem ways_sz (as : List Ar) : (ways as).length ≤ as.length ∧ ∀ p ∈ ways as, p.2.length ≤ as.length := by
  have h : ∀ (as : List Ar) (w : List (Tr × List Tr)) (n : Nat), w.length ≤ n → (∀ p ∈ w, p.2.length ≤ n) → (as.foldl (fun w x => addW w (wK x) (wV x)) w).length ≤ n + as.length ∧ ∀ p ∈ as.foldl (fun w x => addW w (wK x) (wV x)) w, p.2.length ≤ n + as.length := by
    intro as
    induction as with
    | nil => intro w n h1 h2; exact ⟨h1, h2⟩
    | cons x as ih =>
      intro w n h1 h2
      have h3 := addW_len w (wK x) (wV x)
      obtain ⟨i1, i2⟩ := ih (addW w (wK x) (wV x)) (n + 1) (by omega) (addW_each h2)
      rw [List.length_cons]
      exact ⟨by rw [List.foldl_cons]; omega, fun p hp => by have := i2 p hp; omega⟩
  obtain ⟨h1, h2⟩ := h as [] 0 (Nat.zero_le _) (fun p hp => nomatch hp)
  rw [Nat.zero_add] at h1
  exact ⟨h1, fun p hp => by have := h2 p hp; rwa [Nat.zero_add] at this⟩
theorem OkM.s64 {as ss es} (h : OkM as ss es) : (uniq ss).length < 64 := by
  have := uniq_le (l := ss) (m := uniq ss ++ uniq es ++ ends2 (chp as)) fun x hx => by simp [srtU_mem, hx]
  have h2 : (uniq (uniq ss ++ uniq es ++ ends2 (chp as))).length ≤ 40 := h.fw
  omega
theorem OkM.e64 {as ss es} (h : OkM as ss es) : (uniq es).length < 64 := by
  have := uniq_le (l := es) (m := uniq ss ++ uniq es ++ ends2 (chp as)) fun x hx => by simp [srtU_mem, hx]
  have h2 : (uniq (uniq ss ++ uniq es ++ ends2 (chp as))).length ≤ 40 := h.fw
  omega
theorem OkM.le99 {xs : List (Bool × Ar)} {ss es} (h : OkM (xs.map Prod.snd) ss es) : ∀ q ∈ xs, q.2.p ≤ 99 := fun q hq => by
  have := h.oa q.2 (List.mem_map.mpr ⟨q, hq, rfl⟩)
  unfold okAr at this
  simp only [Bool.and_eq_true, decide_eq_true_eq] at this
  exact this.2.2
theorem ends2_len : ∀ (as : List Ar), (ends2 as).length = 2 * as.length
  | [] => rfl
  | x :: as => by
    have := ends2_len as
    unfold ends2 at this ⊢
    rw [List.flatMap_cons, List.length_append, this]
    simp
    omega
theorem bF {b : Bool} {P Q : Prop} (hb : b = false) (h : Q) : (match Tr.bl b with | .bl true => P | .bl false => Q | _ => False) := by
  subst hb
  exact h
theorem bT {b : Bool} {P Q : Prop} (hb : b = true) (h : P) : (match Tr.bl b with | .bl true => P | .bl false => Q | _ => False) := by
  subst hb
  exact h
theorem wp_Machine_init : ∀ ts μ φ ε, c_Machine_init ts μ φ ε → ts.length = 4 ∧ wpB ir_Machine_init 6 ts μ φ ε := by
  rintro ts μ φ ε ⟨b0, b1, b2, xs, ss, es, rfl, rfl, hM, h⟩
  refine ⟨rfl, ?_⟩
  have hlx : xs.length ≤ 400 := by have := hM.la; rwa [List.length_map] at this
  cases b0 <;> cases b1 <;> cases b2
  all_goals
    (conv => whnf)
    refine ⟨by rw [List.length_map]; omega, ?_⟩
    (conv => whnf)
    refine forK_for (enc := fun i : Nat => Tr.int (1 + (i : Nat))) (fun pre ρ μ => ∃ o, ρ = [some (.ptr 0), some (sqT _ (xs.map fun q => aT q.1 q.2)), some (sqT _ (ss.map .str)), some (sqT _ (es.map .str)), o, none, none, none, none, none] ∧ μ = [.obj 0 []]) (pre := []) ⟨none, rfl, rfl⟩ ?_ ?_
    · rintro pre i ρ μ hi ⟨o, rfl, rfl⟩ k hk
      have hi : i < xs.length := by
        have := List.mem_range.mp hi
        rw [List.length_map] at this
        omega
      have e1 : decide ((400 : Int) < 1 + (i : Int)) = false := decide_eq_false (by omega)
      (conv => whnf)
      rw [e1]
      (conv => whnf)
      have hx := hM.oa xs[i].2 (List.mem_map.mpr ⟨_, List.getElem_mem hi, rfl⟩)
      refine ⟨aT xs[i].1 xs[i].2, ?_, ?_⟩
      · rw [show (1 + (i : Int) - 1) = ((i : Nat) : Int) by omega]
        exact atT_nat (by rw [List.getElem?_map, List.getElem?_eq_getElem hi]; rfl)
      · refine callP (by rw [List.all_cons, show nP (aT xs[i].1 xs[i].2) = true from nP_sq]; rfl) fun φ1 ε1 k1 _ => ⟨_, rfl, rfl, (okAr_arr hx).2, k1 _ rfl ?_⟩
        rw [(okAr_arr hx).1]
        (conv => whnf)
        exact hk _ _ ⟨_, rfl, rfl⟩
    · rintro ρ μ ⟨o, rfl, rfl⟩
      have h1 := hM.ls
      have h2 := hM.le
      (conv => whnf)
      refine szK_of (by rw [List.length_map]; simp; omega) ?_
      (conv => whnf)
      refine szK_of (by rw [List.length_append, List.length_map, List.length_map]; simp; omega) ?_
      (conv => whnf)
      refine szK_of (by rw [List.length_append, List.length_append, List.length_map, List.length_map]; simp; omega) ?_
      refine noP_of (by rw [List.all_append, List.all_append, nPs, nPs]; rfl) ?_
      have e : ss.map Tr.str ++ (es.map Tr.str ++ []) = (ss ++ es).map Tr.str := by simp
      (conv => whnf)
      rw [e]
      refine forK_for (enc := Tr.str) (fun pre ρ μ => ∃ o o5, ρ = [some (.ptr 0), some (sqT _ (xs.map fun q => aT q.1 q.2)), some (sqT _ (ss.map .str)), some (sqT _ (es.map .str)), o, o5, none, none, none, none] ∧ μ = [.obj 0 []]) (pre := []) ⟨_, _, rfl, rfl⟩ ?_ ?_
      · rintro pre x ρ μ hx ⟨o, o5, rfl, rfl⟩ k hk
        have hn : nameB x = true := (List.mem_append.mp hx).elim (hM.os x) (hM.oe x)
        (conv => whnf)
        refine callP rfl fun φ1 ε1 k1 _ => ⟨_, rfl, rfl, name_ok hn, k1 _ rfl ?_⟩
        rw [show nameT (.str x) = true from hn]
        (conv => whnf)
        exact hk _ _ ⟨_, _, rfl, rfl⟩
      · rintro ρ μ ⟨o, o5, rfl, rfl⟩
        (conv => whnf)
        refine callP rfl fun φ1 ε1 k1 _ => ⟨_, xs, rfl, rfl, by omega, hM.le99, k1 _ rfl ?_⟩
        (conv => whnf)
        refine callP rfl fun φ1 ε1 k1 _ => ⟨_, ss, rfl, rfl, by omega, hM.s64, k1 _ rfl ?_⟩
        (conv => whnf)
        refine callP rfl fun φ1 ε1 k1 _ => ⟨_, es, rfl, rfl, by omega, hM.e64, k1 _ rfl ?_⟩
        (conv => whnf)
        have h3 := hM.s64
        have h4 := hM.e64
        refine szK_of (by rw [List.length_map]; simp; omega) ?_
        (conv => whnf)
        refine szK_of (by rw [List.length_append, List.length_map, List.length_map]; simp; omega) ?_
        (conv => whnf)
        refine szK_of (by rw [List.length_append, List.length_append, List.length_map, List.length_map]; simp; omega) ?_
        refine noP_of (by rw [List.all_append, List.all_append, nPs, nPs]; rfl) ?_
        have e : (uniq ss).map Tr.str ++ ((uniq es).map Tr.str ++ []) = (uniq ss ++ uniq es ++ ends2 []).map Tr.str := by simp [ends2]
        (conv => whnf)
        rw [e]
        have hlc := chp_len (xs.map Prod.snd)
        rw [List.length_map] at hlc
        refine forK_at (enc := tA) (all := chp (xs.map Prod.snd)) (fun pre ρ μ => ∃ o o5 o7 o8 o9, ρ = [some (.ptr 0), some (sqT _ (xs.map fun q => aT q.1 q.2)), some (sqT _ (ss.map .str)), some (sqT _ (es.map .str)), o, o5, some (.ptr 1), o7, o8, o9] ∧ μ = [.obj 0 [(0, .tup ((chp (xs.map Prod.snd)).map tA)), (1, .tup ((uniq ss).map .str)), (2, .tup ((uniq es).map .str))], .lst ((uniq ss ++ uniq es ++ ends2 pre).map Tr.str)]) (pre := []) rfl ⟨_, _, _, _, _, rfl, rfl⟩ ?_ ?_
        · rintro pre x post ρ μ hall ⟨o, o5, o7, o8, o9, rfl, rfl⟩ k hk
          have hlp : pre.length ≤ 400 := by have := congrArg List.length hall; rw [List.length_append] at this; omega
          (conv => whnf)
          refine noP_of rfl ?_
          (conv => whnf)
          refine szK_of (by rw [List.length_map, List.length_append, List.length_append, ends2_len]; simp; omega) ?_
          (conv => whnf)
          refine hk _ _ ⟨_, _, _, _, _, rfl, ?_⟩
          have e2 : (uniq ss ++ uniq es ++ ends2 pre).map Tr.str ++ [.str x.s, .str x.a] = (uniq ss ++ uniq es ++ ends2 (pre ++ [x])).map Tr.str := by simp [ends2]
          exact congrArg (fun z => [_, Cel.lst z]) e2
        · rintro ρ μ ⟨o, o5, o7, o8, o9, rfl, rfl⟩
          have h5 := hM.fw
          have h6 : (uniq (uniq ss ++ uniq es ++ ends2 (chp (xs.map Prod.snd)))).length ≤ 40 := h5
          have e40 : decide ((40 : Int) < (((uniq (uniq ss ++ uniq es ++ ends2 (chp (xs.map Prod.snd)))).map Tr.str).length : Int)) = false := decide_eq_false (by rw [List.length_map]; omega)
          (conv => whnf)
          refine callP rfl fun φ1 ε1 k1 _ => ⟨false, uniq ss ++ uniq es ++ ends2 (chp (xs.map Prod.snd)), rfl, rfl, by rw [List.length_append, List.length_append, ends2_len]; omega, ?_, k1 _ rfl ?_⟩
          · have : (uniq (uniq ss ++ uniq es ++ ends2 (chp (xs.map Prod.snd)))).length ≤ 40 := h5
            omega
          (conv => whnf)
          rw [e40]
          (conv => whnf)
          refine forK_at (enc := tA) (all := chp (xs.map Prod.snd)) (fun pre ρ μ => ∃ o o5 o7 o8 o9, ρ = [some (.ptr 0), some (sqT _ (xs.map fun q => aT q.1 q.2)), some (sqT _ (ss.map .str)), some (sqT _ (es.map .str)), o, o5, some (.ptr 1), o7, o8, o9] ∧ μ = [.objW 0 (fs4 (mkM (xs.map Prod.snd) ss es)) (ways pre), .gone]) (pre := []) rfl ⟨_, _, _, _, _, rfl, rfl⟩ ?_ ?_
          · rintro pre x post ρ μ hall ⟨o, o5, o7, o8, o9, rfl, rfl⟩ k hk
            have hlp : pre.length ≤ 400 := by have := congrArg List.length hall; rw [List.length_append] at this; omega
            obtain ⟨w1, w2⟩ := ways_sz pre
            (conv => whnf)
            refine noP_of rfl (szK_of (by omega) ⟨fun ts hts => by have := w2 _ hts; dsimp only at this; omega, ?_⟩)
            (conv => whnf)
            refine hk _ _ ⟨_, _, _, _, _, rfl, ?_⟩
            have e2 : ways (pre ++ [x]) = addW (ways pre) (wK x) (wV x) := by unfold ways; rw [List.foldl_append]; rfl
            rw [e2]
            rfl
          · rintro ρ μ ⟨o, o5, o7, o8, o9, rfl, rfl⟩
            exact h
end G

namespace G
open Ir
/-! Cf: what a machine tells; prices. -/
def wk (k : List Nat × List Nat) : Tr := .tup [.str k.1, .str k.2]
theorem eqWk (a b : List Nat × List Nat) : eqT (wk a) (wk b) = decide (a = b) := by
  show (decide (a.1 = b.1) && (decide (a.2 = b.2) && true)) = _
  rw [Bool.eq_iff_iff]
  simp [Prod.ext_iff]
def waysT (w : List (Tr × List Tr)) : List (Tr × Tr) := w.map fun p => (p.1, .lst p.2)
theorem get_addW (k j : List Nat × List Nat) (v : Tr) : ∀ (w : List (Tr × List Tr)), (∀ p ∈ w, ∃ q, p.1 = wk q) → (w.map Prod.fst).Nodup → ((getT (waysT (addW w (wk k) v)) (wk j)).getD (.lst []) = (if j = k then .lst ((match getT (waysT w) (wk k) with | some (.lst l) => l | _ => []) ++ [v]) else (getT (waysT w) (wk j)).getD (.lst []))) ∧ ((addW w (wk k) v).map Prod.fst).Nodup ∧ ∀ p ∈ addW w (wk k) v, ∃ q, p.1 = wk q := by
  have inj : ∀ a b, wk a = wk b → a = b := fun a b h => by
    have := eqWk a b
    rw [h, eqWk b b] at this
    simpa using this.symm
  have getc : ∀ (p : Tr × List Tr) (w : List (Tr × List Tr)) (j), getT (waysT (p :: w)) (wk j) = if eqT p.1 (wk j) = true then some (.lst p.2) else getT (waysT w) (wk j) := fun p w j => rfl
  have mapc : ∀ (w : List (Tr × List Tr)), (∀ p ∈ w, ∃ q, p.1 = wk q) → (w.map Prod.fst).Nodup → wk k ∈ w.map Prod.fst → getT (waysT (w.map fun p => if eqT p.1 (wk k) = true then (p.1, p.2 ++ [v]) else p)) (wk j) = if j = k then some (.lst ((match getT (waysT w) (wk k) with | some (.lst l) => l | _ => []) ++ [v])) else getT (waysT w) (wk j) := by
    intro w
    induction w with
    | nil => intro _ _ h; cases h
    | cons p w ih =>
      intro hw nd hk
      obtain ⟨q, hq⟩ := hw p List.mem_cons_self
      rw [List.map_cons, List.nodup_cons] at nd
      rw [List.map_cons, getc, getc, getc, hq, eqWk, eqWk]
      by_cases e1 : q = k
      · subst e1
        rw [decide_eq_true rfl]
        rw [if_pos rfl, if_pos rfl, show ((wk q, p.2 ++ [v]) : Tr × List Tr).1 = wk q from rfl, eqWk]
        by_cases e2 : j = q
        · subst e2
          rw [decide_eq_true rfl, if_pos rfl, if_pos rfl]
        · rw [decide_eq_false (Ne.symm e2), if_neg Bool.false_ne_true, if_neg e2, if_neg Bool.false_ne_true]
          have : w.map (fun p => if eqT p.1 (wk q) = true then (p.1, p.2 ++ [v]) else p) = w := by
            refine (List.map_congr_left fun p' hp' => ?_).trans (List.map_id w)
            obtain ⟨q', hq'⟩ := hw p' (List.mem_cons_of_mem _ hp')
            rw [hq', eqWk, if_neg]
            · rfl
            · simp only [decide_eq_true_eq]
              intro e
              subst e
              exact nd.1 (by rw [hq, ← hq']; exact List.mem_map.mpr ⟨p', hp', rfl⟩)
          rw [this]
      · rw [decide_eq_false e1, if_neg Bool.false_ne_true, if_neg Bool.false_ne_true, hq, eqWk]
        have hk2 : wk k ∈ w.map Prod.fst := by
          rcases List.mem_cons.mp hk with h | h
          · exact absurd (inj _ _ (h.trans hq)).symm e1
          · exact h
        rw [ih (fun p hp => hw p (List.mem_cons_of_mem _ hp)) nd.2 hk2]
        by_cases e2 : q = j
        · subst e2
          rw [decide_eq_true rfl, if_pos rfl, if_pos rfl, if_neg e1]
        · rw [decide_eq_false e2, if_neg Bool.false_ne_true, if_neg Bool.false_ne_true]
  intro w hw nd
  have hany : (w.any fun p => eqT p.1 (wk k)) = true ↔ wk k ∈ w.map Prod.fst := by
    rw [List.any_eq_true]
    constructor
    · rintro ⟨p, hp, e⟩
      obtain ⟨q, hq⟩ := hw p hp
      rw [hq, eqWk] at e
      exact List.mem_map.mpr ⟨p, hp, by rw [hq, of_decide_eq_true e]⟩
    · intro h
      obtain ⟨p, hp, e⟩ := List.mem_map.mp h
      exact ⟨p, hp, by rw [e, eqWk]; simp⟩
  by_cases hk : wk k ∈ w.map Prod.fst
  · have e0 : addW w (wk k) v = w.map (fun p => if eqT p.1 (wk k) = true then (p.1, p.2 ++ [v]) else p) := if_pos (hany.mpr hk)
    rw [e0]
    refine ⟨?_, ?_, fun p hp => ?_⟩
    · rw [mapc w hw nd hk]
      by_cases e2 : j = k
      · rw [if_pos e2, if_pos e2]; rfl
      · rw [if_neg e2, if_neg e2]
    · have : (w.map fun p => if eqT p.1 (wk k) = true then (p.1, p.2 ++ [v]) else p).map Prod.fst = w.map Prod.fst := by
        rw [List.map_map]
        refine List.map_congr_left fun p _ => ?_
        show (if eqT p.1 (wk k) = true then (p.1, p.2 ++ [v]) else p).1 = p.1
        split <;> rfl
      rw [this]
      exact nd
    · obtain ⟨p', hp', rfl⟩ := List.mem_map.mp hp
      obtain ⟨q, hq⟩ := hw p' hp'
      refine ⟨q, ?_⟩
      split <;> exact hq
  · have e0 : addW w (wk k) v = w ++ [(wk k, [v])] := if_neg fun h => hk (hany.mp h)
    have app : ∀ (w : List (Tr × List Tr)) (j), getT (waysT (w ++ [(wk k, [v])])) (wk j) = (getT (waysT w) (wk j)).or (if k = j then some (.lst [v]) else none) := by
      intro w
      induction w with
      | nil =>
        intro j
        show (if eqT (wk k) (wk j) = true then _ else _) = _
        rw [eqWk]
        by_cases e : k = j
        · simp [e, waysT, getT]
        · simp [e, waysT, getT]
      | cons p w ih =>
        intro j
        rw [List.cons_append, getc, getc, ih]
        split <;> rfl
    have none_k : getT (waysT w) (wk k) = none := by
      clear e0 hany nd
      induction w with
      | nil => rfl
      | cons p w ih =>
        obtain ⟨q, hq⟩ := hw p List.mem_cons_self
        rw [getc, hq, eqWk, if_neg, ih (fun p hp => hw p (List.mem_cons_of_mem _ hp)) fun h => hk (List.mem_cons_of_mem _ h)]
        simp only [decide_eq_true_eq]
        intro e
        subst e
        exact hk (by rw [List.map_cons, hq]; exact List.mem_cons_self)
    rw [e0]
    refine ⟨?_, ?_, fun p hp => ?_⟩
    · rw [app]
      by_cases e2 : j = k
      · subst e2
        rw [if_pos rfl, if_pos rfl, none_k]
        rfl
      · rw [if_neg (Ne.symm e2), if_neg e2, Option.or_none]
    · rw [List.map_append, List.nodup_append]
      exact ⟨nd, by simp, fun x hx y hy e => hk (by
        have : y = wk k := by simpa using hy
        rw [← this, ← e]; exact hx)⟩
    · rcases List.mem_append.mp hp with hp | hp
      · exact hw p hp
      · cases List.mem_singleton.mp hp
        exact ⟨k, rfl⟩
theorem ways_snoc (as : List Ar) (x : Ar) : ways (as ++ [x]) = addW (ways as) (wK x) (wV x) := by unfold ways; rw [List.foldl_append]; rfl
theorem ways_ok : ∀ (as : List Ar), (∀ p ∈ ways as, ∃ q, p.1 = wk q) ∧ ((ways as).map Prod.fst).Nodup ∧ ∀ j, (getT (waysT (ways as)) (wk j)).getD (.lst []) = .lst ((as.filter fun x => decide ((x.s, x.l) = j)).map wV) := by
  intro as
  have ind : ∀ rs : List Ar, (∀ p ∈ ways rs.reverse, ∃ q, p.1 = wk q) ∧ ((ways rs.reverse).map Prod.fst).Nodup ∧ ∀ j, (getT (waysT (ways rs.reverse)) (wk j)).getD (.lst []) = .lst ((rs.reverse.filter fun x => decide ((x.s, x.l) = j)).map wV) := by
    intro rs
    induction rs with
    | nil => exact ⟨(fun p hp => nomatch hp), List.nodup_nil, fun j => rfl⟩
    | cons x rs ih =>
      obtain ⟨i1, i2, i3⟩ := ih
      rw [List.reverse_cons, ways_snoc]
      refine ⟨(get_addW (x.s, x.l) (x.s, x.l) (wV x) _ i1 i2).2.2, (get_addW (x.s, x.l) (x.s, x.l) (wV x) _ i1 i2).2.1, fun j => ?_⟩
      have h := (get_addW (x.s, x.l) j (wV x) _ i1 i2).1
      have hk : wK x = wk (x.s, x.l) := rfl
      rw [hk, h, List.filter_append]
      by_cases e : j = (x.s, x.l)
      · rw [if_pos e]
        have h3 := i3 (x.s, x.l)
        have e4 : (match getT (waysT (ways rs.reverse)) (wk (x.s, x.l)) with | some (.lst l) => l | _ => []) = (rs.reverse.filter fun y => decide ((y.s, y.l) = (x.s, x.l))).map wV := by
          cases hg : getT (waysT (ways rs.reverse)) (wk (x.s, x.l)) with
          | none =>
            rw [hg] at h3
            have h3 : Tr.lst [] = _ := h3
            injection h3 with h3
          | some t =>
            rw [hg] at h3
            have h3 : t = _ := h3
            rw [h3]
        rw [e4, e]
        simp
      · rw [if_neg e, i3 j]
        have : ([x].filter fun y => decide ((y.s, y.l) = j)) = [] := by simp [Ne.symm e]
        rw [this, List.append_nil]
  have := ind as.reverse
  rwa [List.reverse_reverse] at this
end G

namespace G
open Ir
/-! Cg: what a machine tells; prices. -/
def c_Machine_arrows : Con := fun ts μ φ ε => ∃ m, ts = [mT m] ∧ μ = [] ∧ φ (.tup (m.as.map tA)) []
def c_Machine_starts : Con := fun ts μ φ ε => ∃ m, ts = [mT m] ∧ μ = [] ∧ φ (.tup (m.ss.map .str)) []
def c_Machine_ends : Con := fun ts μ φ ε => ∃ m, ts = [mT m] ∧ μ = [] ∧ φ (.tup (m.es.map .str)) []
def c_Machine_states : Con := fun ts μ φ ε => ∃ m, ts = [mT m] ∧ μ = [] ∧ φ (.tup (m.st.map .str)) []
def c_Machine_letters : Con := fun ts μ φ ε => ∃ m, ts = [mT m] ∧ μ = [] ∧ m.as.length ≤ 400 ∧ (uniq (m.as.map Ar.l)).length < 64 ∧ φ (.tup ((uniq (m.as.map Ar.l)).map .str)) []
def c_check_row : Con := fun ts μ φ ε => ∃ l, ts = [.str l] ∧ μ = [] ∧ rowB l = true ∧ φ .non []
def c_Machine_check_state : Con := fun ts μ φ ε => ∃ m s, ts = [mT m, .str s] ∧ μ = [] ∧ s ∈ m.st ∧ φ .non []
def ir_Machine_arrows : Sm := (.ret (.fld 0 (.nm 0) 0))
def ir_Machine_starts : Sm := (.ret (.fld 0 (.nm 0) 1))
def ir_Machine_ends : Sm := (.ret (.fld 0 (.nm 0) 2))
def ir_Machine_states : Sm := (.ret (.fld 0 (.nm 0) 3))
def ir_Machine_letters : Sm := (.ret (.call c_each_once (.cons (.comp (.nm 1) [1] (.itS (.fld 0 (.nm 0) 0)) .yes (.ix (.nm 1) (.c (.int 1)))) .nil)))
def ir_check_row : Sm := (.ite (.not (.call c_is_row (.cons (.nm 0) .nil))) .bad .skip)
def ir_Machine_check_state : Sm := (.ite (.or (.not (.isi (.nm 1) [.str])) (.cmp .notin (.nm 1) (.fld 0 (.nm 0) 3))) .bad .skip)
theorem wp_Machine_arrows : ∀ ts μ φ ε, c_Machine_arrows ts μ φ ε → ts.length = 1 ∧ wpB ir_Machine_arrows 0 ts μ φ ε := by
  rintro ts μ φ ε ⟨m, rfl, rfl, h⟩
  exact ⟨rfl, h⟩
theorem wp_Machine_starts : ∀ ts μ φ ε, c_Machine_starts ts μ φ ε → ts.length = 1 ∧ wpB ir_Machine_starts 0 ts μ φ ε := by
  rintro ts μ φ ε ⟨m, rfl, rfl, h⟩
  exact ⟨rfl, h⟩
theorem wp_Machine_ends : ∀ ts μ φ ε, c_Machine_ends ts μ φ ε → ts.length = 1 ∧ wpB ir_Machine_ends 0 ts μ φ ε := by
  rintro ts μ φ ε ⟨m, rfl, rfl, h⟩
  exact ⟨rfl, h⟩
theorem wp_Machine_states : ∀ ts μ φ ε, c_Machine_states ts μ φ ε → ts.length = 1 ∧ wpB ir_Machine_states 0 ts μ φ ε := by
  rintro ts μ φ ε ⟨m, rfl, rfl, h⟩
  exact ⟨rfl, h⟩
theorem wp_Machine_letters : ∀ ts μ φ ε, c_Machine_letters ts μ φ ε → ts.length = 1 ∧ wpB ir_Machine_letters 1 ts μ φ ε := by
  rintro ts μ φ ε ⟨m, rfl, rfl, hl, h64, h⟩
  refine ⟨rfl, ?_⟩
  (conv => whnf)
  refine szK_of (by rw [List.length_map]; omega) ?_
  refine compK_map (enc := tA) (g := fun x => .str x.l) (fun x _ k hk => ?_) ?_
  · exact ⟨.str x.l, rfl, hk⟩
  · (conv => whnf)
    rw [strsT]
    exact callP rfl fun φ1 ε1 k1 _ => ⟨false, m.as.map Ar.l, rfl, rfl, by rw [List.length_map]; omega, h64, k1 _ rfl h⟩
theorem row_ok {l : List Nat} (h : rowB l = true) : okI (.str l) = true := by
  unfold rowB at h
  simp only [Bool.and_eq_true, decide_eq_true_eq] at h
  exact Nat.ble_eq_true_of_le (by omega)
theorem wp_check_row : ∀ ts μ φ ε, c_check_row ts μ φ ε → ts.length = 1 ∧ wpB ir_check_row 0 ts μ φ ε := by
  rintro ts μ φ ε ⟨l, rfl, rfl, hl, h⟩
  refine ⟨rfl, ?_⟩
  (conv => whnf)
  refine callP rfl fun φ1 ε1 k1 _ => ⟨_, rfl, rfl, row_ok hl, k1 _ rfl ?_⟩
  rw [show rowT (.str l) = true from hl]
  exact h
theorem isF_strs : ∀ (l : List (List Nat)), (l.map Tr.str).all isF = true
  | [] => rfl
  | _ :: l => isF_strs l
theorem wp_Machine_check_state : ∀ ts μ φ ε, c_Machine_check_state ts μ φ ε → ts.length = 2 ∧ wpB ir_Machine_check_state 0 ts μ φ ε := by
  rintro ts μ φ ε ⟨m, s, rfl, rfl, hs, h⟩
  refine ⟨rfl, ?_⟩
  (conv => whnf)
  refine ⟨by rw [isF_strs]; rfl, ?_⟩
  have e : ((m.st.map Tr.str).any fun t => eqT t (.str s)) = true := List.any_eq_true.mpr ⟨.str s, List.mem_map.mpr ⟨s, hs, rfl⟩, by rw [eqS]; simp⟩
  (conv => whnf)
  rw [e]
  exact h
/-! ### one step -/
/-- the least of what was found so far -/
structure Fnd (F : List (List Nat × Int)) (C : List (List Nat × Int)) : Prop where
  nd : (F.map Prod.fst).Nodup
  mn : ∀ t, IsMin (fun c => (t, c) ∈ C) (valD F t)
theorem Fnd.nil : Fnd [] [] := ⟨List.nodup_nil, fun _ _ h => nomatch h⟩
theorem Fnd.put {F C} (h : Fnd F C) {a : List Nat} {c : Int} (hc : ∀ d, valD F a = some d → c < d) : Fnd (putD F a c) (C ++ [(a, c)]) := by
  refine ⟨putD_nodup _ _ h.nd, fun t => ?_⟩
  rw [valD_put]
  have hm := h.mn t
  by_cases e : t = a
  · subst e
    rw [if_pos rfl]
    refine ⟨by simp, fun d hd => ?_⟩
    rcases List.mem_append.mp hd with hd | hd
    · cases hp : valD F t with
      | none => rw [hp] at hm; exact absurd hd (hm d)
      | some x =>
        rw [hp] at hm
        have h1 := hm.2 d hd
        have h2 := hc x hp
        omega
    · cases List.mem_singleton.mp hd
      omega
  · rw [if_neg e]
    refine IsMin.congr (fun d => ?_) hm
    constructor
    · exact fun z => List.mem_append_left _ z
    · intro z
      rcases List.mem_append.mp z with z | z
      · exact z
      · cases List.mem_singleton.mp z
        exact absurd rfl e
theorem Fnd.skip {F C} (h : Fnd F C) {a : List Nat} {c d : Int} (hp : valD F a = some d) (hc : d ≤ c) : Fnd F (C ++ [(a, c)]) := by
  refine ⟨h.nd, fun t => ?_⟩
  have hm := h.mn t
  by_cases e : t = a
  · subst e
    rw [hp] at hm ⊢
    refine ⟨List.mem_append_left _ hm.1, fun x hx => ?_⟩
    rcases List.mem_append.mp hx with hx | hx
    · exact hm.2 x hx
    · cases List.mem_singleton.mp hx
      exact hc
  · refine IsMin.congr (fun d => ?_) hm
    constructor
    · exact fun z => List.mem_append_left _ z
    · intro z
      rcases List.mem_append.mp z with z | z
      · exact z
      · cases List.mem_singleton.mp z
        exact absurd rfl e
theorem Fnd.keys {F C} (h : Fnd F C) {x : List Nat} (hx : x ∈ F.map Prod.fst) : ∃ c, (x, c) ∈ C := by
  obtain ⟨p, hp, rfl⟩ := List.mem_map.mp hx
  have hm := h.mn p.1
  rw [mem_valD h.nd (show (p.1, p.2) ∈ F from hp)] at hm
  exact ⟨_, hm.1⟩
abbrev dP (D : List (List Nat × Int)) : Tr := .dic false (dE Tr.str Tr.int D)
/-- what a step finds -/
def outs (as : List Ar) (l : List Nat) (p : List Nat × Int) : List (List Nat × Int) := (as.filter fun x => decide ((x.s, x.l) = (p.1, l))).map fun x => (x.a, p.2 + x.p)
def c_stepped : Con := fun ts μ φ ε => ∃ m D l, ts = [mT m, dP D, .str l] ∧ μ = [] ∧ m.as.length ≤ 400 ∧ ∀ D', Fnd D' (D.flatMap (outs m.as l)) → D'.length ≤ 400 → φ (dP D') []
def ir_stepped : Sm := (.seq (.asg (.nm 3) (.ow (.emp false))) (.seq (.forI (.cons (.nm 4) (.cons (.nm 5) .nil)) 1 (.for (.cons (.nm 6) (.cons (.nm 7) .nil)) (.itS (.get2 (.fld 0 (.nm 0) 4) (.tup (.cons (.nm 4) (.cons (.nm 2) .nil))) (.lst .nil))) (.ite (.or (.cmp .notin (.nm 6) (.nm 3)) (.cmp .lt (.op .add (.nm 5) (.nm 7)) (.ix (.nm 3) (.nm 6)))) (.seti 3 (.nm 6) (.op .add (.nm 5) (.nm 7))) .skip))) (.ret (.mv 3))))
theorem outs_keys {as : List Ar} {l : List Nat} {D : List (List Nat × Int)} {x : List Nat} {c : Int} (h : (x, c) ∈ D.flatMap (outs as l)) : x ∈ as.map Ar.a := by
  obtain ⟨p, _, hp⟩ := List.mem_flatMap.mp h
  obtain ⟨y, hy, e⟩ := List.mem_map.mp hp
  cases e
  exact List.mem_map.mpr ⟨y, (List.mem_filter.mp hy).1, rfl⟩
theorem wp_stepped : ∀ ts μ φ ε, c_stepped ts μ φ ε → ts.length = 3 ∧ wpB ir_stepped 5 ts μ φ ε := by
  rintro ts μ φ ε ⟨m, D, l, rfl, rfl, hl, h⟩
  refine ⟨rfl, ?_⟩
  have sz : ∀ {F C}, Fnd F C → (∀ x c, (x, c) ∈ C → x ∈ m.as.map Ar.a) → F.length ≤ 400 := fun {F C} hF hC => by
    have h1 := nodup_le hF.nd (m := m.as.map Ar.a) fun x hx => by
      obtain ⟨c, hc⟩ := hF.keys hx
      exact hC x c hc
    rw [List.length_map, List.length_map] at h1
    omega
  (conv => whnf)
  have e0 : (dE Tr.str Tr.int D).map (fun p : Tr × Tr => Tr.tup [p.1, p.2]) = D.map fun p => Tr.tup [.str p.1, .int p.2] := by unfold dE; rw [List.map_map]; rfl
  rw [e0]
  refine forK_for (enc := fun p : List Nat × Int => Tr.tup [.str p.1, .int p.2]) (fun pre ρ μ => ∃ o4 o5 o6 o7 F, ρ = [some (mT m), some (dP D), some (.str l), some (.ptr 0), o4, o5, o6, o7] ∧ μ = [.dic false (dE Tr.str Tr.int F)] ∧ Fnd F (pre.flatMap (outs m.as l))) (pre := []) ⟨none, none, none, none, [], rfl, rfl, Fnd.nil⟩ ?_ ?_
  · rintro pre ⟨s, c⟩ ρ μ _ ⟨o4, o5, o6, o7, F, rfl, rfl, hF⟩ k hk
    (conv => whnf)
    refine noP_of rfl ?_
    (conv => whnf)
    refine noP_of rfl ?_
    (conv => whnf)
    refine ⟨rfl, ?_⟩
    have e1 := (ways_ok m.as).2.2 (s, l)
    have e1 : (getT ((ways m.as).map fun p => (p.1, .lst p.2)) (.tup [.str s, .str l])).getD (.lst []) = .lst ((m.as.filter fun x => decide ((x.s, x.l) = (s, l))).map wV) := e1
    rw [e1]
    (conv => whnf)
    refine forK_for (enc := wV) (fun pr ρ μ => ∃ o6 o7 F, ρ = [some (mT m), some (dP D), some (.str l), some (.ptr 0), some (.str s), some (.int c), o6, o7] ∧ μ = [.dic false (dE Tr.str Tr.int F)] ∧ Fnd F (pre.flatMap (outs m.as l) ++ pr.map fun x => (x.a, c + x.p)) ∧ ∀ x ∈ pr, x ∈ m.as) (pre := []) ⟨_, _, F, rfl, rfl, by simpa using hF, fun _ h => nomatch h⟩ ?_ ?_
    · rintro pr x ρ μ hx ⟨o6, o7, F, rfl, rfl, hF, hpr⟩ k hk
      have hxm := (List.mem_filter.mp hx).1
      have hsz := sz hF fun y d hy => by
        rcases List.mem_append.mp hy with hy | hy
        · exact outs_keys hy
        · obtain ⟨z, hz, e⟩ := List.mem_map.mp hy
          cases e
          exact List.mem_map.mpr ⟨z, hpr z hz, rfl⟩
      have eg := get_dE (g := Tr.int) eqS F x.a
      have ep := put_dE (g := Tr.int) eqS F x.a (c + x.p)
      have hpr' : ∀ y ∈ pr ++ [x], y ∈ m.as := fun y hy => by
        rcases List.mem_append.mp hy with hy | hy
        · exact hpr y hy
        · cases List.mem_singleton.mp hy; exact hxm
      have put : (∀ d, valD F x.a = some d → c + x.p < d) → k [some (mT m), some (dP D), some (.str l), some (.ptr 0), some (.str s), some (.int c), some (.str x.a), some (.int x.p)] [.dic false (putT (dE Tr.str Tr.int F) (.str x.a) (.int (c + x.p)))] := fun hd => by
        refine hk _ _ ⟨_, _, _, rfl, congrArg (fun z => [Cel.dic false z]) ep, ?_, hpr'⟩
        rw [List.map_append, ← List.append_assoc]
        exact hF.put hd
      (conv => whnf)
      refine ⟨rfl, ?_⟩
      rw [eg]
      cases e : valD F x.a with
      | none =>
        (conv => whnf)
        refine ⟨rfl, szK_of (by unfold dE; rw [List.length_map]; omega) ?_⟩
        exact put fun d hd => by rw [e] at hd; cases hd
      | some d =>
        rw [e] at eg
        (conv => whnf)
        refine ⟨rfl, .int d, eg, ?_⟩
        (conv => whnf)
        cases hlt : decide (c + x.p < d) with
        | true =>
          (conv => whnf)
          refine ⟨rfl, szK_of (by unfold dE; rw [List.length_map]; omega) ?_⟩
          exact put fun d' hd => by rw [e] at hd; cases hd; exact of_decide_eq_true hlt
        | false =>
          refine hk _ _ ⟨_, _, F, rfl, rfl, ?_, hpr'⟩
          rw [List.map_append, ← List.append_assoc]
          exact hF.skip e (Int.not_lt.mp (of_decide_eq_false hlt))
    · rintro ρ μ ⟨o6, o7, F, rfl, rfl, hF, _⟩
      refine hk _ _ ⟨_, _, _, _, F, rfl, rfl, ?_⟩
      rw [List.flatMap_append]
      simpa [outs] using hF
  · rintro ρ μ ⟨o4, o5, o6, o7, F, rfl, rfl, hF⟩
    exact h F hF (sz hF fun x c hx => outs_keys hx)
end G

namespace G
open Ir
/-! Ch: prices of rows. -/
theorem IsMin.to {Q P : Int → Prop} {o : Option Int} (h : IsMin Q o) (h1 : ∀ c, Q c → P c) (h2 : ∀ c, P c → ∃ d, d ≤ c ∧ Q d) : IsMin P o := by
  cases o with
  | none =>
    intro c hc
    obtain ⟨d, _, hd⟩ := h2 c hc
    exact h d hd
  | some c =>
    refine ⟨h1 c h.1, fun e he => ?_⟩
    obtain ⟨d, hd, hq⟩ := h2 e he
    have := h.2 d hq
    omega
theorem Path.inv {as : List Ar} {s r t : List Nat} {c : Int} (h : Path as s r t c) : ∀ pre k, r = pre ++ [k] → ∃ (x : Ar) (c0 : Int), Path as s pre x.s c0 ∧ x ∈ as ∧ x.l = [k] ∧ x.a = t ∧ c = c0 + x.p := by
  cases h with
  | nil => intro pre k e; simp at e
  | snoc hp hx e1 e2 =>
    intro pre k e
    obtain ⟨e3, e4⟩ := List.append_inj' e rfl
    cases e4
    subst e3
    subst e1
    exact ⟨_, _, hp, hx, e2, rfl, rfl⟩
theorem Path.nil_inv {as : List Ar} {s r t : List Nat} {c : Int} (h : Path as s r t c) (e : r = []) : t = s ∧ c = 0 := by
  cases h with
  | nil => exact ⟨rfl, rfl⟩
  | snoc hp hx e1 e2 => simp at e
structure Beh (as : List Ar) (ss : List (List Nat)) (row : List Nat) (D : List (List Nat × Int)) : Prop where
  nd : (D.map Prod.fst).Nodup
  mn : ∀ t, IsMin (fun c => ∃ s ∈ ss, Path as s row t c) (valD D t)
theorem Beh.step {as ss row D k D'} (h : Beh as ss row D) (f : Fnd D' (D.flatMap (outs as [k]))) : Beh as ss (row ++ [k]) D' := by
  refine ⟨f.nd, fun t => (f.mn t).to (fun c hc => ?_) (fun c hc => ?_)⟩
  · obtain ⟨⟨s', c0⟩, hp, hq⟩ := List.mem_flatMap.mp hc
    obtain ⟨x, hx, e⟩ := List.mem_map.mp hq
    have hx := List.mem_filter.mp hx
    have e2 := of_decide_eq_true hx.2
    have e3 : x.s = s' := congrArg Prod.fst e2
    have e4 : x.l = [k] := congrArg Prod.snd e2
    cases e
    have hm := h.mn s'
    rw [mem_valD h.nd hp] at hm
    obtain ⟨⟨s, hs, hpath⟩, _⟩ := hm
    exact ⟨s, hs, .snoc hpath hx.1 e3 e4⟩
  · obtain ⟨s, hs, hpath⟩ := hc
    obtain ⟨x, c0, hp, hx, e1, e2, e3⟩ := hpath.inv row k rfl
    have hm := h.mn x.s
    cases e : valD D x.s with
    | none => rw [e] at hm; exact absurd ⟨s, hs, hp⟩ (hm c0)
    | some d =>
      rw [e] at hm
      have := hm.2 c0 ⟨s, hs, hp⟩
      refine ⟨d + x.p, by omega, List.mem_flatMap.mpr ⟨(x.s, d), valD_mem e, List.mem_map.mpr ⟨x, List.mem_filter.mpr ⟨hx, ?_⟩, ?_⟩⟩⟩
      · simp [e1]
      · rw [e2]
theorem foldv {α : Type} (v : α) (t : List Nat) : ∀ (ns : List (List Nat)) (D : List (List Nat × α)), valD (ns.foldl (fun D x => putD D x v) D) t = if t ∈ ns then some v else valD D t
  | [], D => by simp
  | n :: ns, D => by
    rw [List.foldl_cons, foldv v t ns, valD_put]
    by_cases h : t ∈ ns
    · rw [if_pos h, if_pos (by simp [h])]
    · rw [if_neg h]
      by_cases e : t = n
      · rw [if_pos e, if_pos (by simp [e])]
      · rw [if_neg e, if_neg (by simp [e, h])]
theorem Beh.start (as : List Ar) (ss : List (List Nat)) : Beh as ss [] (ss.foldl (fun D x => putD D x 0) []) := by
  refine ⟨(putAll_names 0 ss [] List.nodup_nil).1, fun t => ?_⟩
  rw [foldv]
  by_cases h : t ∈ ss
  · rw [if_pos h]
    refine ⟨⟨t, h, .nil t⟩, fun d ⟨s, _, hp⟩ => ?_⟩
    rw [(hp.nil_inv rfl).2]
    omega
  · rw [if_neg h]
    rintro c ⟨s, hs, hp⟩
    exact h ((hp.nil_inv rfl).1 ▸ hs)
def c_prices_behind : Con := fun ts μ φ ε => ∃ (b : Bool) (m : Mc) (row : List Nat) (ss : List (List Nat)), ts = [mT m, .str row, sqT b (ss.map .str)] ∧ μ = [] ∧ m.as.length ≤ 400 ∧ ss.length ≤ 1000000 ∧ ∀ D, Beh m.as ss row D → φ (dP D) []
def ir_prices_behind : Sm := (.seq (.asg (.nm 3) (.dcomp false (.nm 5) [5] (.itS (.nm 2)) (.nm 5) (.c (.int 0)))) (.seq (.for (.nm 4) (.itS (.nm 1)) (.asg (.nm 3) (.call c_stepped (.cons (.nm 0) (.cons (.nm 3) (.cons (.nm 4) .nil)))))) (.ret (.nm 3))))
theorem wp_prices_behind : ∀ ts μ φ ε, c_prices_behind ts μ φ ε → ts.length = 3 ∧ wpB ir_prices_behind 3 ts μ φ ε := by
  rintro ts μ φ ε ⟨b, m, row, ss, rfl, rfl, hl, hs, h⟩
  refine ⟨rfl, ?_⟩
  cases b
  case true | false =>
    (conv => whnf)
    refine szK_of (by rw [List.length_map]; exact hs) ?_
    refine dcompK_map (enc := Tr.str) (g := Tr.str) (h := fun _ => .int 0) (fun _ _ => rfl) (fun x _ k hk => hk) ?_
    have e := fold_dE 0 Tr.int ss []
    have e2 : ss.foldl (fun kvs x => putT kvs (.str x) (.int 0)) [] = dE Tr.str Tr.int (ss.foldl (fun D x => putD D x 0) []) := e
    rw [e2]
    (conv => whnf)
    refine forK_for (enc := fun c : Nat => Tr.str [c]) (fun pre ρ μ => ∃ o4 o5 D, ρ = [some (mT m), some (.str row), some (sqT _ (ss.map .str)), some (dP D), o4, o5] ∧ μ = [] ∧ Beh m.as ss pre D) (pre := []) ⟨none, none, _, rfl, rfl, Beh.start m.as ss⟩ ?_ ?_
    · rintro pre k0 ρ μ _ ⟨o4, o5, D, rfl, rfl, hB⟩ k hk
      (conv => whnf)
      refine callP rfl fun φ1 ε1 k1 _ => ⟨m, D, [k0], rfl, rfl, hl, fun D' hF hD => k1 _ rfl ?_⟩
      exact hk _ _ ⟨_, _, D', rfl, rfl, hB.step hF⟩
    · rintro ρ μ ⟨o4, o5, D, rfl, rfl, hB⟩
      exact h D hB
/-! ### the least at some states -/
def c_least_at : Con := fun ts μ φ ε => ∃ (b : Bool) (D : List (List Nat × Int)) (ss : List (List Nat)), ts = [dP D, sqT b (ss.map .str)] ∧ μ = [] ∧ ss.length ≤ 1000000 ∧ ∀ o, IsMin (fun c => ∃ s ∈ ss, valD D s = some c) o → φ (oT o) []
def ir_least_at : Sm := (.seq (.asg (.nm 2) (.comp (.nm 3) [3] (.itS (.nm 1)) (.cmp .isin (.nm 3) (.nm 0)) (.ix (.nm 0) (.nm 3)))) (.ret (.ife (.cmp .gt (.blt .len (.cons (.nm 2) .nil)) (.c (.int 0))) (.blt .minL (.cons (.nm 2) .nil)) (.c .non))))
theorem lmin_is {P : Int → Prop} {l : List Int} (h : ∀ c, P c ↔ c ∈ l) : (l = [] → IsMin P none) ∧ (l ≠ [] → IsMin P (some (lmin l))) := by
  constructor
  · intro e c hc
    have := (h c).mp hc
    rw [e] at this
    cases this
  · intro e
    exact ⟨(h _).mpr (lmin_mem e), fun d hd => lmin_le ((h d).mp hd)⟩
theorem wp_least_at : ∀ ts μ φ ε, c_least_at ts μ φ ε → ts.length = 2 ∧ wpB ir_least_at 2 ts μ φ ε := by
  rintro ts μ φ ε ⟨b, D, ss, rfl, rfl, hs, h⟩
  refine ⟨rfl, ?_⟩
  have hmem : ∀ c, (∃ s ∈ ss, valD D s = some c) ↔ c ∈ ss.filterMap fun s => valD D s := fun c => by rw [List.mem_filterMap]
  obtain ⟨m0, m1⟩ := lmin_is hmem
  cases b
  case true | false =>
    (conv => whnf)
    refine szK_of (by rw [List.length_map]; exact hs) ?_
    refine compK_fmap (enc := Tr.str) (g := fun s => (valD D s).map Tr.int) (fun s _ k hk => ?_) ?_
    · have eg := get_dE (g := Tr.int) eqS D s
      (conv => whnf)
      refine ⟨rfl, ?_⟩
      rw [eg]
      cases e : valD D s with
      | none => rw [e] at hk; exact hk
      | some c =>
        rw [e] at hk eg
        (conv => whnf)
        exact ⟨rfl, .int c, eg, hk⟩
    · have e : (ss.filterMap fun s => (valD D s).map Tr.int) = (ss.filterMap fun s => valD D s).map Tr.int := by rw [List.map_filterMap]
      rw [e]
      generalize ss.filterMap (fun s => valD D s) = l at m0 m1
      (conv => whnf)
      cases l with
      | nil => exact h none (m0 rfl)
      | cons a l =>
        have e1 : decide ((0 : Int) < (((a :: l).map Tr.int).length : Int)) = true := decide_eq_true (by simp)
        rw [e1]
        exact ⟨a :: l, rfl, by simp, h _ (m1 (by simp))⟩
def c_price : Con := fun ts μ φ ε => ∃ m row, ts = [mT m, .str row] ∧ μ = [] ∧ rowB row = true ∧ m.as.length ≤ 400 ∧ m.ss.length ≤ 1000000 ∧ m.es.length ≤ 1000000 ∧ ∀ o, IsMin (fun c => ∃ s ∈ m.ss, ∃ t ∈ m.es, Path m.as s row t c) o → φ (oT o) []
def c_between : Con := fun ts μ φ ε => ∃ m row s t, ts = [mT m, .str row, .str s, .str t] ∧ μ = [] ∧ rowB row = true ∧ m.as.length ≤ 400 ∧ s ∈ m.st ∧ t ∈ m.st ∧ ∀ o, IsMin (fun c => Path m.as s row t c) o → φ (oT o) []
def ir_price : Sm := (.seq (.ex (.call c_check_row (.cons (.nm 1) .nil))) (.ret (.call c_least_at (.cons (.call c_prices_behind (.cons (.nm 0) (.cons (.nm 1) (.cons (.prp 0 c_Machine_starts (.nm 0)) .nil)))) (.cons (.prp 0 c_Machine_ends (.nm 0)) .nil)))))
def ir_between : Sm := (.seq (.ex (.call c_check_row (.cons (.nm 1) .nil))) (.seq (.ex (.mth 0 c_Machine_check_state (.nm 0) (.cons (.nm 2) .nil))) (.seq (.ex (.mth 0 c_Machine_check_state (.nm 0) (.cons (.nm 3) .nil))) (.ret (.call c_least_at (.cons (.call c_prices_behind (.cons (.nm 0) (.cons (.nm 1) (.cons (.lst (.cons (.nm 2) .nil)) .nil)))) (.cons (.lst (.cons (.nm 3) .nil)) .nil)))))))
theorem beh_least {as : List Ar} {ss es : List (List Nat)} {row : List Nat} {D : List (List Nat × Int)} {o : Option Int} (hB : Beh as ss row D) (h : IsMin (fun c => ∃ t ∈ es, valD D t = some c) o) : IsMin (fun c => ∃ s ∈ ss, ∃ t ∈ es, Path as s row t c) o := by
  refine h.to (fun c ⟨t, ht, e⟩ => ?_) (fun c ⟨s, hs, t, ht, hp⟩ => ?_)
  · have hm := hB.mn t
    rw [e] at hm
    obtain ⟨s, hs, hp⟩ := hm.1
    exact ⟨s, hs, t, ht, hp⟩
  · have hm := hB.mn t
    cases e : valD D t with
    | none => rw [e] at hm; exact absurd ⟨s, hs, hp⟩ (hm c)
    | some d => rw [e] at hm; exact ⟨d, hm.2 c ⟨s, hs, hp⟩, t, ht, e⟩
theorem nP_oT (o : Option Int) : nP (oT o) = true := by cases o <;> rfl
theorem wp_price : ∀ ts μ φ ε, c_price ts μ φ ε → ts.length = 2 ∧ wpB ir_price 0 ts μ φ ε := by
  rintro ts μ φ ε ⟨m, row, rfl, rfl, hr, hl, h1, h2, h⟩
  refine ⟨rfl, ?_⟩
  (conv => whnf)
  refine callP rfl fun φ1 ε1 k1 _ => ⟨row, rfl, rfl, hr, k1 _ rfl ?_⟩
  (conv => whnf)
  refine callP rfl fun φ1 ε1 k1 _ => ⟨m, rfl, rfl, k1 _ rfl ?_⟩
  (conv => whnf)
  refine callP rfl fun φ1 ε1 k1 _ => ⟨true, m, row, m.ss, rfl, rfl, hl, h1, fun D hB => k1 _ rfl ?_⟩
  (conv => whnf)
  refine callP rfl fun φ1 ε1 k1 _ => ⟨m, rfl, rfl, k1 _ rfl ?_⟩
  (conv => whnf)
  refine callP rfl fun φ1 ε1 k1 _ => ⟨true, D, m.es, rfl, rfl, h2, fun o ho => k1 _ (nP_oT o) ?_⟩
  have := h o (beh_least hB ho)
  cases o <;> exact this
theorem wp_between : ∀ ts μ φ ε, c_between ts μ φ ε → ts.length = 4 ∧ wpB ir_between 0 ts μ φ ε := by
  rintro ts μ φ ε ⟨m, row, s, t, rfl, rfl, hr, hl, h1, h2, h⟩
  refine ⟨rfl, ?_⟩
  (conv => whnf)
  refine callP rfl fun φ1 ε1 k1 _ => ⟨row, rfl, rfl, hr, k1 _ rfl ?_⟩
  (conv => whnf)
  refine callP rfl fun φ1 ε1 k1 _ => ⟨m, s, rfl, rfl, h1, k1 _ rfl ?_⟩
  (conv => whnf)
  refine callP rfl fun φ1 ε1 k1 _ => ⟨m, t, rfl, rfl, h2, k1 _ rfl ?_⟩
  (conv => whnf)
  refine noP_of rfl ?_
  (conv => whnf)
  refine callP rfl fun φ1 ε1 k1 _ => ⟨false, m, row, [s], rfl, rfl, hl, Nat.le_of_ble_eq_true rfl, fun D hB => k1 _ rfl ?_⟩
  (conv => whnf)
  refine noP_of rfl ?_
  (conv => whnf)
  refine callP rfl fun φ1 ε1 k1 _ => ⟨false, D, [t], rfl, rfl, Nat.le_of_ble_eq_true rfl, fun o ho => k1 _ (nP_oT o) ?_⟩
  have := h o ((beh_least hB ho).congr fun c => by simp)
  cases o <;> exact this
end G

namespace G
open Ir
/-! Ci: the law's own drawing. -/
/-- the drawn numbers' list goes along -/
theorem callS1 {c : Con} {xs : List Tr} {μ : Mem} {n : Nat} {φ ε : EK} (hx : xs.all nP = true) (hμ : celK μ 0 fun c => c = .src n) (h : ∀ φ' ε' : EK, (∀ t n', nP t = true → φ t (μ.set 0 (.src n')) → φ' t [.src n']) → c (.ptr 0 :: xs) [.src n] φ' ε') : callK c (.ptr 0 :: xs) μ φ ε := by
  unfold callK
  show renum xs 1 fun us is => _
  refine renum_np hx ?_
  refine ⟨rfl, ?_⟩
  match μ, hμ with
  | [], hμ => exact hμ.elim
  | c0 :: μ, hμ =>
    have hμ : c0 = .src n := hμ
    subst hμ
    show c (.ptr 0 :: xs) [.src n] _ _
    refine h _ _ fun t n' ht q => ?_
    cases t <;> first | exact q | exact absurd ht Bool.false_ne_true
theorem atT_of {α : Type} {xs : List α} {d : Int} (h0 : 0 ≤ d) (h1 : d < (xs.length : Int)) : ∃ t, atT xs d = some t ∧ t ∈ xs ∧ xs[d.toNat]? = some t := by
  have hd : d.toNat < xs.length := by omega
  have e : xs[d.toNat]? = some xs[d.toNat] := List.getElem?_eq_getElem hd
  refine ⟨xs[d.toNat], ?_, List.getElem_mem hd, e⟩
  have := atT_nat e
  rwa [show ((d.toNat : Nat) : Int) = d by omega] at this
theorem compK_at {α : Type} {enc : α → Tr} {f : Tr → Mem → (Option Tr → Mem → Prop) → Prop} (P : List α → List Tr → Mem → Prop) {all : List α} : ∀ {xs pre : List α} {rs : List Tr} {μ : Mem} {φ : List Tr → Mem → Prop}, pre ++ xs = all → P pre rs μ →
    (∀ pre x post rs μ, pre ++ x :: post = all → P pre rs μ → ∀ k : Option Tr → Mem → Prop, (∀ r μ', P (pre ++ [x]) (match r with | some r => rs ++ [r] | none => rs) μ' → k r μ') → f (enc x) μ k) →
    (∀ rs' μ', P all (rs ++ rs') μ' → φ rs' μ') → compK f (xs.map enc) μ φ
  | [], pre, rs, μ, φ, ha, h0, _, hd => by rw [List.map_nil, compK_nil]; exact hd [] μ (by rw [← ha]; simpa using h0)
  | x :: xs, pre, rs, μ, φ, ha, h0, hs, hd => by
    rw [List.map_cons, compK_cons]
    refine hs pre x xs rs μ ha h0 _ fun r μ' hr => ?_
    cases r with
    | none => exact compK_at P (pre := pre ++ [x]) (rs := rs) (by simpa using ha) hr hs fun rs' μ' h => hd rs' μ' h
    | some r => exact compK_at P (pre := pre ++ [x]) (rs := rs ++ [r]) (by simpa using ha) hr hs fun rs' μ' h => hd (r :: rs') μ' (by simpa using h)
theorem app_len {α : Type} {pre post all : List α} {x : α} (h : pre ++ x :: post = all) : pre.length < all.length := by
  rw [← h, List.length_append, List.length_cons]
  omega
theorem app_mem {α : Type} {pre post all : List α} {x : α} (h : pre ++ x :: post = all) : x ∈ all := by rw [← h]; simp
def c_law_pick : Con := fun ts μ φ ε => ∃ (n : Nat) (xs : List Tr), ts = [.ptr 0, .lst xs] ∧ μ = [.src n] ∧ n < 1000000 ∧ 0 < xs.length ∧ xs.length < 1000 ∧ xs.all nP = true ∧ ∀ t ∈ xs, φ t [.src (n + 1)]
def c_law_subset : Con := fun ts μ φ ε => ∃ (n : Nat) (xs : List (List Nat)), ts = [.ptr 0, .lst (xs.map .str)] ∧ μ = [.src n] ∧ n + xs.length < 1000000 ∧ ∀ rs : List (List Nat), (∀ x ∈ rs, x ∈ xs) → rs.length ≤ xs.length → φ (.lst (rs.map .str)) [.src (n + xs.length)]
def ir_law_pick : Sm := (.ret (.ix (.nm 1) (.call c_law_draw (.cons (.nm 0) (.cons (.blt .len (.cons (.nm 1) .nil)) .nil)))))
def ir_law_subset : Sm := (.ret (.comp (.nm 2) [2] (.itS (.nm 1)) (.cmp .eq (.call c_law_draw (.cons (.nm 0) (.cons (.c (.int 2)) .nil))) (.c (.int 1))) (.nm 2)))
theorem wp_law_pick : ∀ ts μ φ ε, c_law_pick ts μ φ ε → ts.length = 2 ∧ wpB ir_law_pick 0 ts μ φ ε := by
  rintro ts μ φ ε ⟨n, xs, rfl, rfl, hn, h0, h1, hp, h⟩
  refine ⟨rfl, ?_⟩
  (conv => whnf)
  refine callS1 (n := n) rfl rfl fun φ1 ε1 k1 => ⟨n, xs.length, rfl, rfl, hn, by omega, by omega, fun d hd0 hd1 => k1 _ _ rfl ?_⟩
  (conv => whnf)
  obtain ⟨t, e, hm, _⟩ := atT_of hd0 hd1
  refine ⟨t, e, ?_⟩
  have h2 := h _ hm
  have h3 := List.all_eq_true.mp hp _ hm
  cases t <;> first | exact h2 | exact absurd h3 Bool.false_ne_true
theorem wp_law_subset : ∀ ts μ φ ε, c_law_subset ts μ φ ε → ts.length = 2 ∧ wpB ir_law_subset 1 ts μ φ ε := by
  rintro ts μ φ ε ⟨n, xs, rfl, rfl, hn, h⟩
  refine ⟨rfl, ?_⟩
  (conv => whnf)
  refine szK_of (by rw [List.length_map]; omega) ?_
  refine compK_at (enc := Tr.str) (all := xs) (fun pre rs μ => ∃ ys : List (List Nat), rs = ys.map .str ∧ μ = [.src (n + pre.length)] ∧ (∀ y ∈ ys, y ∈ xs) ∧ ys.length ≤ pre.length) (pre := []) (rs := []) rfl ⟨[], rfl, rfl, (fun _ h => nomatch h), Nat.le_refl _⟩ ?_ ?_
  · rintro pre x post rs μ hall ⟨ys, rfl, rfl, h1, h2⟩ k hk
    have hlp := app_len hall
    (conv => whnf)
    refine callS1 (n := n + pre.length) rfl rfl fun φ1 ε1 k1 => ⟨_, 2, rfl, rfl, by omega, by decide, by decide, fun d hd0 hd1 => k1 _ _ rfl ?_⟩
    (conv => whnf)
    cases e : decide (d = 1) with
    | true =>
      refine hk (some (.str x)) _ ⟨ys ++ [x], by simp, by simp; omega, fun y hy => ?_, by simp; omega⟩
      rcases List.mem_append.mp hy with hy | hy
      · exact h1 y hy
      · cases List.mem_singleton.mp hy; exact app_mem hall
    | false => exact hk none _ ⟨ys, rfl, by simp; omega, h1, by simp; omega⟩
  · rintro rs μ ⟨ys, e, rfl, h1, h2⟩
    have e : rs = ys.map .str := e
    subst e
    exact h ys h1 h2
end G

namespace G
open Ir
/-! Cj: drawn names. -/
theorem callS2 {c : Con} {μ : Mem} {n : Nat} {c1 : Cel} {φ ε : EK} {i : Nat} (hi : i ≠ 0) (hμ : celK μ 0 fun c => c = .src n) (h1 : celK μ i fun c => c = c1) (h : ∀ φ' ε' : EK, (∀ t n' c', nP t = true → φ t ((μ.set 0 (.src n')).set i c') → φ' t [.src n', c']) → c [.ptr 0, .ptr 1] [.src n, c1] φ' ε') : callK c [.ptr 0, .ptr i] μ φ ε := by
  unfold callK
  have hd : dupF [0, i] = true := by
    cases i with
    | zero => exact absurd rfl hi
    | succ i => rfl
  refine ⟨hd, ?_⟩
  have pick : ∀ {μ : Mem} {i : Nat} {x : Cel} {k : Cel → Prop}, celK μ i (fun c => c = x) → k x → celK μ i k := by
    intro μ
    induction μ with
    | nil => intro i x k h; exact h.elim
    | cons a μ ih =>
      intro i x k h hk
      cases i with
      | zero => have h : a = x := h; subst h; exact hk
      | succ i => exact ih (i := i) h hk
  have putc : ∀ {μ : Mem} {i : Nat} {x : Cel} {y : Cel} {k : Mem → Prop}, celK μ i (fun c => c = x) → k (μ.set i y) → cputK μ i y k := by
    intro μ
    induction μ with
    | nil => intro i x y k h; exact h.elim
    | cons a μ ih =>
      intro i x y k h hk
      cases i with
      | zero => exact hk
      | succ i => exact ih (i := i) (k := fun r => k (a :: r)) h hk
  refine pick hμ (pick h1 ?_)
  refine h _ _ fun t n' c' ht q => ?_
  have b : backK μ [0, i] [.src n', c'] fun μ => φ t μ := by
    refine putc hμ ?_
    have h1' : celK (μ.set 0 (.src n')) i fun c => c = c1 := by
      match μ, h1 with
      | [], h1 => exact h1.elim
      | a :: μ, h1 =>
        cases i with
        | zero => exact absurd rfl hi
        | succ i => exact h1
    exact putc h1' q
  cases t <;> first | exact b | exact absurd ht Bool.false_ne_true
def c_law_name : Con := fun ts μ φ ε => ∃ (n : Nat) (tk : List (List Nat)), ts = [.ptr 0, .ptr 1] ∧ μ = [.src n, .lst (tk.map .str)] ∧ n + 12 < 1000000 ∧ tk.length ≤ 16 ∧ ∀ l n', nameB l = true → l ∉ tk → n' ≤ n + 12 → φ (.str l) [.src n', .lst (tk.map .str)]
def ir_law_name : Sm := (.seq (.asg (.nm 2) (.ix (.lst (.cons (.c (.int 8)) (.cons (.c (.int 4)) (.cons (.c (.int 5)) (.cons (.c (.int 6)) (.cons (.c (.int 7)) (.cons (.c (.int 1)) (.cons (.c (.int 2)) (.cons (.c (.int 3)) (.cons (.c (.int 1)) (.cons (.c (.int 2)) (.cons (.c (.int 3)) (.cons (.c (.int 1)) (.cons (.c (.int 2)) .nil)))))))))))))) (.call c_law_draw (.cons (.nm 0) (.cons (.c (.int 13)) .nil))))) (.seq (.asg (.nm 3) (.join (.c (.str [])) (.comp (.nm 4) [4] (.rng (.c (.int 0)) (.nm 2)) .yes (.ix (.c (.str [97, 98, 99, 100, 101, 102, 103, 104, 105, 106, 107, 108, 109, 110, 111, 112, 113, 114, 115, 116, 117, 118, 119, 120, 121, 122])) (.call c_law_draw (.cons (.nm 0) (.cons (.c (.int 26)) .nil))))))) (.seq (.ite (.chain .lt .lt (.c (.int 3)) (.nm 2) (.c (.int 8))) (.asg (.nm 3) (.ix (.lst (.cons (.c (.str [115, 116, 97, 114, 116])) (.cons (.c (.str [101, 110, 100])) (.cons (.c (.str [102, 114, 101, 101])) (.cons (.c (.str [109, 97, 110, 121])) (.cons (.c (.str [98, 101, 116, 119, 101, 101, 110])) (.cons (.op .add (.c (.str [113])) (.sl10 (.nm 3) (.c (.int 1)))) .nil))))))) (.call c_law_draw (.cons (.nm 0) (.cons (.c (.int 6)) .nil))))) .skip) (.seq (.ite (.cmp .notin (.nm 3) (.nm 1)) (.ret (.nm 3)) .skip) (.ret (.ix (.comp (.nm 5) [5] (.itS (.comp (.nm 6) [6] (.itS (.c (.str [97, 98, 99, 100, 101, 102, 103, 104, 105, 106, 107, 108, 109, 110, 111, 112, 113]))) .yes (.op .add (.c (.str [122])) (.nm 6)))) (.cmp .notin (.nm 5) (.nm 1)) (.nm 5)) (.c (.int 0))))))))
theorem nameB_of {l : List Nat} (h1 : 1 ≤ l.length) (h2 : l.length ≤ 8) (h : ∀ c ∈ l, c ∈ LET) : nameB l = true := by
  unfold nameB
  rw [Bool.and_eq_true, Bool.and_eq_true, decide_eq_true_eq, decide_eq_true_eq, List.all_eq_true]
  exact ⟨by omega, by omega, fun c hc => by rw [decide_eq_true_eq]; exact h c hc⟩
theorem joinL_nil : ∀ (cs : List Nat), joinL [] (cs.map fun c => [c]) = cs
  | [] => rfl
  | [c] => rfl
  | c :: d :: r => by
    have ih := joinL_nil (d :: r)
    show [c] ++ [] ++ joinL [] ((d :: r).map fun c => [c]) = _
    rw [ih]
    rfl
theorem sum_ones : ∀ (cs : List Nat), ((cs.map fun c => [c]).map (·.length)).sum = cs.length
  | [] => rfl
  | c :: cs => by
    rw [List.map_cons, List.map_cons, List.sum_cons, sum_ones cs]
    simp
    omega
theorem any_strs (tk : List (List Nat)) (l : List Nat) : ((tk.map Tr.str).any fun t => eqT t (.str l)) = true ↔ l ∈ tk := by
  rw [List.any_eq_true]
  constructor
  · rintro ⟨t, ht, e⟩
    obtain ⟨x, hx, rfl⟩ := List.mem_map.mp ht
    rw [eqS] at e
    exact of_decide_eq_true e ▸ hx
  · intro h
    exact ⟨_, List.mem_map.mpr ⟨l, h, rfl⟩, by rw [eqS]; simp⟩
def Zs : List (List Nat) := [97, 98, 99, 100, 101, 102, 103, 104, 105, 106, 107, 108, 109, 110, 111, 112, 113].map fun c => [122, c]
theorem wp_law_name : ∀ ts μ φ ε, c_law_name ts μ φ ε → ts.length = 2 ∧ wpB ir_law_name 5 ts μ φ ε := by
  rintro ts μ φ ε ⟨n, tk, rfl, rfl, hn, ht, h⟩
  refine ⟨rfl, ?_⟩
  (conv => whnf)
  refine noP_of rfl ?_
  (conv => whnf)
  refine callS1 (n := n) rfl rfl fun φ1 ε1 k1 => ⟨_, 13, rfl, rfl, by omega, by decide, by decide, fun d hd0 hd1 => k1 _ _ rfl ?_⟩
  (conv => whnf)
  obtain ⟨t, e, hm, _⟩ := atT_of (xs := [Tr.int 8, .int 4, .int 5, .int 6, .int 7, .int 1, .int 2, .int 3, .int 1, .int 2, .int 3, .int 1, .int 2]) hd0 hd1
  obtain ⟨v, rfl, hv1, hv8⟩ : ∃ v : Nat, t = .int v ∧ 1 ≤ v ∧ v ≤ 8 := by
    simp only [List.mem_cons, List.not_mem_nil, or_false] at hm
    rcases hm with rfl | rfl | rfl | rfl | rfl | rfl | rfl | rfl | rfl | rfl | rfl | rfl | rfl
    all_goals first | exact ⟨8, rfl, by decide, by decide⟩ | exact ⟨4, rfl, by decide, by decide⟩ | exact ⟨5, rfl, by decide, by decide⟩ | exact ⟨6, rfl, by decide, by decide⟩ | exact ⟨7, rfl, by decide, by decide⟩ | exact ⟨1, rfl, by decide, by decide⟩ | exact ⟨2, rfl, by decide, by decide⟩ | exact ⟨3, rfl, by decide, by decide⟩
  refine ⟨_, e, ?_⟩
  (conv => whnf)
  refine ⟨by omega, ?_⟩
  (conv => whnf)
  refine szK_of (by unfold rngL; rw [List.length_map, List.length_range]; omega) ?_
  have fin : ∀ (l : List Nat) (n' : Nat) (o4 o5 o6 : Option Tr), nameB l = true → n' ≤ n + 12 → wps (.seq (.ite (.cmp .notin (.nm 3) (.nm 1)) (.ret (.nm 3)) .skip) (.ret (.ix (.comp (.nm 5) [5] (.itS (.comp (.nm 6) [6] (.itS (.c (.str [97, 98, 99, 100, 101, 102, 103, 104, 105, 106, 107, 108, 109, 110, 111, 112, 113]))) .yes (.op .add (.c (.str [122])) (.nm 6)))) (.cmp .notin (.nm 5) (.nm 1)) (.nm 5)) (.c (.int 0)))))
      (fun _ μ' => φ .non (μ'.take 2)) (fun t μ' => match t with | .ptr _ => False | t => φ t (μ'.take 2)) (fun _ _ => False) (fun _ _ => False) (fun t _ μ' => match t with | .ptr _ => False | t => ε t (μ'.take 2)) [some (.ptr 0), some (.ptr 1), some (.int v), some (.str l), o4, o5, o6] [.src n', .lst (tk.map .str)] := fun l n' o4 o5 o6 hl hn' => by
    (conv => whnf)
    refine ⟨by rw [isF_strs]; rfl, ?_⟩
    (conv => whnf)
    cases e : ((tk.map Tr.str).any fun t => eqT t (.str l)) with
    | false => exact h l n' hl (fun hx => by rw [(any_strs tk l).mpr hx] at e; cases e) hn'
    | true =>
      (conv => whnf)
      refine compK_map (xs := [97, 98, 99, 100, 101, 102, 103, 104, 105, 106, 107, 108, 109, 110, 111, 112, 113]) (enc := fun c : Nat => Tr.str [c]) (g := fun c => .str [122, c]) (fun c _ k hk => hk) ?_
      (conv => whnf)
      refine compK_fmap (xs := Zs) (enc := Tr.str) (g := fun l => if l ∈ tk then none else some (.str l)) (fun l _ k hk => ?_) ?_
      · (conv => whnf)
        refine ⟨by rw [isF_strs]; rfl, ?_⟩
        (conv => whnf)
        cases e : ((tk.map Tr.str).any fun t => eqT t (.str l)) with
        | false => rw [if_neg fun hx => by rw [(any_strs tk l).mpr hx] at e; cases e] at hk; exact hk
        | true => rw [if_pos ((any_strs tk l).mp e)] at hk; exact hk
      · (conv => whnf)
        have hne : ∃ l ∈ Zs, l ∉ tk := by
          refine Classical.byContradiction fun hc => ?_
          have hsub : ∀ l ∈ Zs, l ∈ tk := fun l hl => Classical.byContradiction fun hx => hc ⟨l, hl, hx⟩
          have := nodup_le (l := Zs) (m := tk) (by decide) hsub
          have : Zs.length = 17 := rfl
          omega
        obtain ⟨l0, hl0, hx0⟩ := hne
        have hmem : Tr.str l0 ∈ Zs.filterMap fun l => if l ∈ tk then none else some (.str l) := List.mem_filterMap.mpr ⟨l0, hl0, if_neg hx0⟩
        have hpos : 0 < (Zs.filterMap fun l => if l ∈ tk then none else some (Tr.str l)).length := List.length_pos_of_mem hmem
        obtain ⟨t, e2, hm2, _⟩ := atT_of (d := 0) (by decide) (Int.ofNat_lt.mpr hpos)
        refine ⟨t, e2, ?_⟩
        obtain ⟨l1, hl1, e3⟩ := List.mem_filterMap.mp hm2
        by_cases hx1 : l1 ∈ tk
        · rw [if_pos hx1] at e3; cases e3
        · rw [if_neg hx1] at e3
          cases e3
          have hz : ∀ l ∈ Zs, nameB l = true := by decide
          exact h l1 n' (hz l1 hl1) hx1 hn'
  refine compK_at (enc := fun i : Nat => Tr.int (0 + (i : Nat))) (all := List.range ((v : Int) - 0).toNat) (fun pre rs μ => ∃ cs : List Nat, rs = cs.map (fun c => Tr.str [c]) ∧ (∀ c ∈ cs, c ∈ LET) ∧ cs.length = pre.length ∧ μ = [.src (n + 1 + pre.length), .lst (tk.map .str)]) (pre := []) (rs := []) rfl ⟨[], rfl, (fun _ h => nomatch h), rfl, rfl⟩ ?_ ?_
  · rintro pre i post rs μ hall ⟨cs, rfl, hc, hlc, rfl⟩ k hk
    have hlp := app_len hall
    rw [List.length_range] at hlp
    (conv => whnf)
    refine callS1 (n := n + 1 + pre.length) rfl rfl fun φ1 ε1 k1 => ⟨_, 26, rfl, rfl, by omega, by decide, by decide, fun d hd0 hd1 => k1 _ _ rfl ?_⟩
    (conv => whnf)
    obtain ⟨c, e, hm, _⟩ := atT_of (xs := LET) hd0 hd1
    refine ⟨c, e, ?_⟩
    refine hk (some (.str [c])) _ ⟨cs ++ [c], by simp, fun x hx => ?_, by simp [hlc], by simp; omega⟩
    rcases List.mem_append.mp hx with hx | hx
    · exact hc x hx
    · cases List.mem_singleton.mp hx; exact hm
  · rintro rs μ ⟨cs, e1, hc, hlc, rfl⟩
    have e1 : rs = cs.map fun c => Tr.str [c] := e1
    subst e1
    rw [List.length_range] at hlc
    have hl : cs.length = v := by omega
    have hcs : nameB cs = true := nameB_of (by omega) (by omega) hc
    (conv => whnf)
    refine ⟨cs.map fun c => [c], by rw [List.map_map]; rfl, szK_of ?_ ?_⟩
    · rw [sum_ones, List.length_map]
      simp
      omega
    rw [joinL_nil]
    clear k1
    have hr : (List.range ((v : Int) - 0).toNat).length = v := by rw [List.length_range]; omega
    (conv => whnf)
    cases e3 : decide ((3 : Int) < (v : Int)) with
    | false => exact fin cs _ _ _ _ hcs (by rw [hr]; omega)
    | true =>
      (conv => whnf)
      cases e4 : decide ((v : Int) < 8) with
      | false => exact fin cs _ _ _ _ hcs (by rw [hr]; omega)
      | true =>
        have h3 := of_decide_eq_true e3
        have hpl : (part cs (some 1) none).length ≤ cs.length - 1 := by
          have eb : bnd cs.length 0 (some 1) = min 1 cs.length := rfl
          unfold part
          rw [List.length_take, List.length_drop, eb]
          omega
        have hpm : ∀ c ∈ part cs (some 1) none, c ∈ LET := fun c hc0 => hc c (List.mem_of_mem_drop (List.mem_of_mem_take hc0))
        have hq : nameB ([113] ++ part cs (some 1) none) = true := nameB_of (by simp) (by simp; omega) fun c hc0 => by
          rcases List.mem_append.mp hc0 with hc0 | hc0
          · cases List.mem_singleton.mp hc0; decide
          · exact hpm c hc0
        (conv => whnf)
        refine szK_of (by omega) ?_
        (conv => whnf)
        refine szK_of (by simp; omega) ?_
        (conv => whnf)
        refine noP_of rfl ?_
        (conv => whnf)
        refine callS1 (n := n + 1 + (List.range ((v : Int) - 0).toNat).length) rfl rfl fun φ1 ε1 k1 => ⟨_, 6, rfl, rfl, by rw [hr]; omega, by decide, by decide, fun d hd0 hd1 => k1 _ _ rfl ?_⟩
        (conv => whnf)
        obtain ⟨t, e5, hm5, _⟩ := atT_of (xs := [Tr.str [115, 116, 97, 114, 116], .str [101, 110, 100], .str [102, 114, 101, 101], .str [109, 97, 110, 121], .str [98, 101, 116, 119, 101, 101, 110], .str ([113] ++ part cs (some 1) none)]) hd0 hd1
        refine ⟨t, e5, ?_⟩
        obtain ⟨l, rfl, hnl⟩ : ∃ l, t = .str l ∧ nameB l = true := by
          simp only [List.mem_cons, List.not_mem_nil, or_false] at hm5
          rcases hm5 with rfl | rfl | rfl | rfl | rfl | rfl
          · exact ⟨_, rfl, by decide⟩
          · exact ⟨_, rfl, by decide⟩
          · exact ⟨_, rfl, by decide⟩
          · exact ⟨_, rfl, by decide⟩
          · exact ⟨_, rfl, by decide⟩
          · exact ⟨_, rfl, hq⟩
        exact fin l _ _ _ _ hnl (by rw [hr]; omega)
end G

namespace G
open Ir
/-! Ck: drawn machines. -/
def c_law_names : Con := fun ts μ φ ε => ∃ (n k : Nat), ts = [.ptr 0, .int k] ∧ μ = [.src n] ∧ k ≤ 16 ∧ n + 12 * k < 1000000 ∧ ∀ (l : List (List Nat)) n', l.length = k → l.Nodup → (∀ x ∈ l, nameB x = true) → n' ≤ n + 12 * k → φ (.lst (l.map .str)) [.src n']
def ir_law_names : Sm := (.seq (.asg (.nm 2) (.ow (.lst .nil))) (.seq (.for (.nm 3) (.rng (.c (.int 0)) (.nm 1)) (.app 2 (.call c_law_name (.cons (.nm 0) (.cons (.nm 2) .nil))))) (.ret (.mv 2))))
theorem wp_law_names : ∀ ts μ φ ε, c_law_names ts μ φ ε → ts.length = 2 ∧ wpB ir_law_names 2 ts μ φ ε := by
  rintro ts μ φ ε ⟨n, k0, rfl, rfl, hk0, hn, h⟩
  refine ⟨rfl, ?_⟩
  (conv => whnf)
  refine noP_of rfl ?_
  (conv => whnf)
  refine ⟨by omega, ?_⟩
  refine forK_at (enc := fun i : Nat => Tr.int (0 + (i : Nat))) (all := List.range ((k0 : Int) - 0).toNat) (fun pre ρ μ => ∃ o l n', ρ = [some (.ptr 0), some (.int k0), some (.ptr 1), o] ∧ μ = [.src n', .lst (l.map .str)] ∧ n' ≤ n + 12 * pre.length ∧ l.length = pre.length ∧ l.Nodup ∧ ∀ x ∈ l, nameB x = true) (pre := []) rfl ⟨none, [], n, rfl, rfl, Nat.le_refl _, rfl, List.nodup_nil, fun _ h => nomatch h⟩ ?_ ?_
  · rintro pre i post ρ μ hall ⟨o, l, n', rfl, rfl, hn', hl, hnd, hnm⟩ k hk
    have hlp := app_len hall
    rw [List.length_range] at hlp
    (conv => whnf)
    refine callS2 (n := n') (c1 := .lst (l.map .str)) (i := 1) (by decide) rfl rfl fun φ1 ε1 k1 => ⟨n', l, rfl, rfl, by omega, by omega, fun x n2 hx hxl hn2 => k1 _ _ _ rfl ?_⟩
    (conv => whnf)
    refine szK_of (by rw [List.length_map]; omega) ?_
    refine hk _ _ ⟨_, l ++ [x], n2, rfl, by simp, by simp; omega, by simp [hl], ?_, fun y hy => ?_⟩
    · rw [List.nodup_append]
      exact ⟨hnd, by simp, fun a ha b hb e => hxl (by
        have : b = x := by simpa using hb
        rw [← this, ← e]; exact ha)⟩
    · rcases List.mem_append.mp hy with hy | hy
      · exact hnm y hy
      · cases List.mem_singleton.mp hy; exact hx
  · rintro ρ μ ⟨o, l, n', rfl, rfl, hn', hl, hnd, hnm⟩
    rw [List.length_range] at hn' hl
    exact h l n' (by omega) hnd hnm (by omega)
structure DrA (ns sg : List (List Nat)) (as : List Ar) : Prop where
  m : ∀ x ∈ as, x.s ∈ ns ∧ x.l ∈ sg ∧ x.a ∈ ns ∧ 0 ≤ x.p ∧ x.p ≤ 9
def c_law_arrows : Con := fun ts μ φ ε => ∃ (n k : Nat) (ns sg : List (List Nat)), ts = [.ptr 0, .lst (ns.map .str), .lst (sg.map .str), .int k] ∧ μ = [.src n] ∧ 0 < k ∧ k ≤ 1000 ∧ n + 4 * k + 1 < 1000000 ∧ 0 < ns.length ∧ ns.length < 1000 ∧ 0 < sg.length ∧ sg.length < 1000 ∧ ∀ (as : List Ar) n', 1 ≤ as.length → as.length ≤ k → DrA ns sg as → n' ≤ n + 4 * k + 1 → φ (.lst (as.map tA)) [.src n']
def ir_law_arrows : Sm := (.seq (.asg (.nm 4) (.ow (.lst .nil))) (.seq (.for (.nm 5) (.rng (.c (.int 0)) (.op .add (.c (.int 1)) (.call c_law_draw (.cons (.nm 0) (.cons (.nm 3) .nil))))) (.seq (.asg (.nm 6) (.ix (.lst (.cons (.c (.int 0)) (.cons (.c (.int 1)) (.cons (.c (.int 0)) (.cons (.c (.int 1)) (.cons (.c (.int 0)) (.cons (.c (.int 2)) (.cons (.c (.int 9)) .nil)))))))) (.call c_law_draw (.cons (.nm 0) (.cons (.c (.int 7)) .nil))))) (.app 4 (.tup (.cons (.call c_law_pick (.cons (.nm 0) (.cons (.nm 1) .nil))) (.cons (.call c_law_pick (.cons (.nm 0) (.cons (.nm 2) .nil))) (.cons (.call c_law_pick (.cons (.nm 0) (.cons (.nm 1) .nil))) (.cons (.nm 6) .nil)))))))) (.ret (.mv 4))))
theorem wp_law_arrows : ∀ ts μ φ ε, c_law_arrows ts μ φ ε → ts.length = 4 ∧ wpB ir_law_arrows 3 ts μ φ ε := by
  rintro ts μ φ ε ⟨n, k0, ns, sg, rfl, rfl, h0, h1, hn, n1, n2, g1, g2, h⟩
  refine ⟨rfl, ?_⟩
  (conv => whnf)
  refine noP_of rfl ?_
  (conv => whnf)
  refine callS1 (n := n) rfl rfl fun φ1 ε1 k1 => ⟨n, (k0 : Int), rfl, rfl, by omega, by omega, by omega, fun d hd0 hd1 => k1 _ _ rfl ?_⟩
  (conv => whnf)
  refine ⟨by omega, ?_⟩
  refine forK_at (enc := fun i : Nat => Tr.int (0 + (i : Nat))) (all := List.range ((1 + d : Int) - 0).toNat) (fun pre ρ μ => ∃ o5 o6 as n', ρ = [some (.ptr 0), some (.lst (ns.map .str)), some (.lst (sg.map .str)), some (.int k0), some (.ptr 1), o5, o6] ∧ μ = [.src n', .lst (as.map tA)] ∧ n' ≤ n + 1 + 4 * pre.length ∧ as.length = pre.length ∧ DrA ns sg as) (pre := []) rfl ⟨none, none, [], n + 1, rfl, rfl, Nat.le_refl _, rfl, ⟨fun _ h => nomatch h⟩⟩ ?_ ?_
  · rintro pre i post ρ μ hall ⟨o5, o6, as, n', rfl, rfl, hn', hl, hD⟩ k hk
    have hlp := app_len hall
    rw [List.length_range] at hlp
    clear k1
    (conv => whnf)
    refine noP_of rfl ?_
    (conv => whnf)
    refine callS1 (n := n') rfl rfl fun φ1 ε1 k1 => ⟨_, 7, rfl, rfl, by omega, by decide, by decide, fun d hd0 hd1 => k1 _ _ rfl ?_⟩
    (conv => whnf)
    obtain ⟨t, e, hm, _⟩ := atT_of (xs := [Tr.int 0, .int 1, .int 0, .int 1, .int 0, .int 2, .int 9]) hd0 hd1
    obtain ⟨v, rfl, hv1, hv9⟩ : ∃ v : Int, t = .int v ∧ 0 ≤ v ∧ v ≤ 9 := by
      simp only [List.mem_cons, List.not_mem_nil, or_false] at hm
      rcases hm with rfl | rfl | rfl | rfl | rfl | rfl | rfl
      all_goals exact ⟨_, rfl, by decide, by decide⟩
    refine ⟨_, e, ?_⟩
    clear k1
    (conv => whnf)
    refine callS1 (n := n' + 1) rfl rfl fun φ1 ε1 k1 => ⟨_, ns.map .str, rfl, rfl, by omega, by rw [List.length_map]; exact n1, by rw [List.length_map]; exact n2, nPs ns, fun t ht => ?_⟩
    obtain ⟨s, hs, rfl⟩ := List.mem_map.mp ht
    refine k1 _ _ rfl ?_
    clear k1
    (conv => whnf)
    refine callS1 (n := n' + 2) rfl rfl fun φ1 ε1 k1 => ⟨_, sg.map .str, rfl, rfl, by omega, by rw [List.length_map]; exact g1, by rw [List.length_map]; exact g2, nPs sg, fun t ht => ?_⟩
    obtain ⟨g, hgm, rfl⟩ := List.mem_map.mp ht
    refine k1 _ _ rfl ?_
    clear k1
    (conv => whnf)
    refine callS1 (n := n' + 3) rfl rfl fun φ1 ε1 k1 => ⟨_, ns.map .str, rfl, rfl, by omega, by rw [List.length_map]; exact n1, by rw [List.length_map]; exact n2, nPs ns, fun t ht => ?_⟩
    obtain ⟨a, ha, rfl⟩ := List.mem_map.mp ht
    refine k1 _ _ rfl ?_
    clear k1
    (conv => whnf)
    refine noP_of rfl ?_
    (conv => whnf)
    refine szK_of (by rw [List.length_map]; omega) ?_
    refine hk _ _ ⟨_, _, as ++ [⟨s, g, a, v⟩], n' + 3 + 1, rfl, by simp [tA, aT, sqT], by simp; omega, by simp [hl], ⟨fun x hx => ?_⟩⟩
    rcases List.mem_append.mp hx with hx | hx
    · exact hD.m x hx
    · cases List.mem_singleton.mp hx; exact ⟨hs, hgm, ha, hv1, hv9⟩
  · rintro ρ μ ⟨o5, o6, as, n', rfl, rfl, hn', hl, hD⟩
    rw [List.length_range] at hn' hl
    exact h as n' (by omega) (by omega) hD (by omega)
end G

namespace G
open Ir
/-! Cl: the law's own machine, lists each once. -/
def ABCD : List (List Nat) := [[97], [98], [99], [100]]
structure Drawn (a b c : Nat) (as : List Ar) (ss es : List (List Nat)) : Prop where
  ex : ∃ ns : List (List Nat), ns.length ≤ a ∧ (∀ x ∈ ns, nameB x = true) ∧ DrA ns (ABCD.take b) as ∧ (∀ x ∈ ss, x ∈ ns) ∧ (∀ x ∈ es, x ∈ ns)
  la : 1 ≤ as.length
  lc : as.length ≤ c
  s1 : 1 ≤ ss.length
  s2 : ss.length ≤ a + 1
  e1 : 1 ≤ es.length
  e2 : es.length ≤ a + 1
def madeT (as : List Ar) (ss es : List (List Nat)) : Tr := .tup [.lst (as.map tA), .lst (ss.map .str), .lst (es.map .str)]
def c_law_machine : Con := fun ts μ φ ε => ∃ (n a b c : Nat), ts = [.ptr 0, .int a, .int b, .int c] ∧ μ = [.src n] ∧ 0 < a ∧ a ≤ 16 ∧ 0 < b ∧ b ≤ 4 ∧ 0 < c ∧ c ≤ 1000 ∧ n < 900000 ∧ ∀ as ss es n', Drawn a b c as ss es → n' ≤ n + 10000 → φ (madeT as ss es) [.src n']
def ir_law_machine : Sm := (.seq (.asg (.nm 4) (.call c_law_names (.cons (.nm 0) (.cons (.op .add (.c (.int 1)) (.call c_law_draw (.cons (.nm 0) (.cons (.nm 1) .nil)))) .nil)))) (.seq (.asg (.nm 2) (.sl01 (.lst (.cons (.c (.str [97])) (.cons (.c (.str [98])) (.cons (.c (.str [99])) (.cons (.c (.str [100])) .nil))))) (.op .add (.c (.int 1)) (.call c_law_draw (.cons (.nm 0) (.cons (.nm 2) .nil)))))) (.seq (.asg (.nm 5) (.call c_law_arrows (.cons (.nm 0) (.cons (.nm 4) (.cons (.nm 2) (.cons (.nm 3) .nil)))))) (.seq (.asg (.nm 6) (.addL (.lst (.cons (.call c_law_pick (.cons (.nm 0) (.cons (.nm 4) .nil))) .nil)) (.call c_law_subset (.cons (.nm 0) (.cons (.nm 4) .nil))))) (.ret (.tup (.cons (.nm 5) (.cons (.nm 6) (.cons (.addL (.lst (.cons (.call c_law_pick (.cons (.nm 0) (.cons (.nm 4) .nil))) .nil)) (.call c_law_subset (.cons (.nm 0) (.cons (.nm 4) .nil)))) .nil)))))))))
theorem wp_law_machine : ∀ ts μ φ ε, c_law_machine ts μ φ ε → ts.length = 4 ∧ wpB ir_law_machine 3 ts μ φ ε := by
  rintro ts μ φ ε ⟨n, a, b, c, rfl, rfl, a0, a1, b0, b1, c0, c1, hn, h⟩
  refine ⟨rfl, ?_⟩
  (conv => whnf)
  refine callS1 (n := n) rfl rfl fun φ1 ε1 k1 => ⟨n, (a : Int), rfl, rfl, by omega, by omega, by omega, fun d hd0 hd1 => k1 _ _ rfl ?_⟩
  clear k1
  (conv => whnf)
  refine callS1 (n := n + 1) rfl rfl fun φ1 ε1 k1 => ⟨n + 1, (1 + d).toNat, by rw [show ((((1 + d).toNat : Nat)) : Int) = 1 + d by omega], rfl, by omega, by omega, fun ns n1 hl hnd hnm hn1 => k1 _ _ rfl ?_⟩
  clear k1
  (conv => whnf)
  refine noP_of rfl ?_
  (conv => whnf)
  refine callS1 (n := n1) rfl rfl fun φ1 ε1 k1 => ⟨n1, (b : Int), rfl, rfl, by omega, by omega, by omega, fun e he0 he1 => k1 _ _ rfl ?_⟩
  clear k1
  (conv => whnf)
  obtain ⟨sg, hsg, hs1, hs2⟩ : ∃ sg : List (List Nat), part [Tr.str [97], .str [98], .str [99], .str [100]] none (some (1 + e)) = sg.map .str ∧ sg = ABCD.take (1 + e).toNat ∧ 0 < sg.length := by
    refine ⟨_, ?_, rfl, ?_⟩
    · have : e = 0 ∨ e = 1 ∨ e = 2 ∨ e = 3 := by omega
      rcases this with rfl | rfl | rfl | rfl <;> rfl
    · rw [List.length_take]
      show 0 < min _ 4
      omega
  have hsub : ∀ x ∈ sg, x ∈ ABCD.take b := fun x hx => by
    rw [hs1] at hx
    exact List.take_subset_take_left _ (by omega) hx
  have hs4 : sg.length ≤ 4 := by rw [hs1, List.length_take]; exact Nat.min_le_right _ _
  rw [hsg]
  (conv => whnf)
  refine callS1 (n := n1 + 1) rfl rfl fun φ1 ε1 k1 => ⟨n1 + 1, c, ns, sg, rfl, rfl, c0, c1, by omega, by omega, by omega, hs2, by omega, fun as n2 l1 l2 hD hn2 => k1 _ _ rfl ?_⟩
  clear k1
  (conv => whnf)
  refine callS1 (n := n2) rfl rfl fun φ1 ε1 k1 => ⟨_, ns.map .str, rfl, rfl, by omega, by rw [List.length_map]; omega, by rw [List.length_map]; omega, nPs ns, fun t ht => ?_⟩
  obtain ⟨s, hs, rfl⟩ := List.mem_map.mp ht
  refine k1 _ _ rfl ?_
  clear k1
  (conv => whnf)
  refine noP_of rfl ?_
  (conv => whnf)
  refine callS1 (n := n2 + 1) rfl rfl fun φ1 ε1 k1 => ⟨_, ns, rfl, rfl, by omega, fun rs hr1 hr2 => k1 _ _ rfl ?_⟩
  clear k1
  (conv => whnf)
  refine szK_of (by rw [List.length_map]; simp; omega) ?_
  (conv => whnf)
  refine callS1 (n := n2 + 1 + ns.length) rfl rfl fun φ1 ε1 k1 => ⟨_, ns.map .str, rfl, rfl, by omega, by rw [List.length_map]; omega, by rw [List.length_map]; omega, nPs ns, fun t ht => ?_⟩
  obtain ⟨s', hs', rfl⟩ := List.mem_map.mp ht
  refine k1 _ _ rfl ?_
  clear k1
  (conv => whnf)
  refine noP_of rfl ?_
  (conv => whnf)
  refine callS1 (n := n2 + 1 + ns.length + 1) rfl rfl fun φ1 ε1 k1 => ⟨_, ns, rfl, rfl, by omega, fun rs' hr1' hr2' => k1 _ _ rfl ?_⟩
  clear k1
  (conv => whnf)
  refine szK_of (by rw [List.length_map]; simp; omega) ?_
  (conv => whnf)
  refine noP_of rfl ?_
  refine h as (s :: rs) (s' :: rs') _ ⟨⟨ns, by omega, hnm, ⟨fun x hx => ?_⟩, fun x hx => ?_, fun x hx => ?_⟩, l1, l2, by simp, by simp; omega, by simp, by simp; omega⟩ (by omega)
  · obtain ⟨q1, q2, q3⟩ := hD.m x hx
    exact ⟨q1, hsub _ q2, q3⟩
  · rcases List.mem_cons.mp hx with rfl | hx
    · exact hs
    · exact hr1 x hx
  · rcases List.mem_cons.mp hx with rfl | hx
    · exact hs'
    · exact hr1' x hx
/-! ### each once, ascending -/
def c_law_unlike : Con := fun ts μ φ ε => ∃ (ns : List (List Nat)), ts = [.lst (ns.map .str)] ∧ μ = [] ∧ ns.length ≤ 100000 ∧ φ (.lst ((uniq ns).map .str)) []
def ir_law_unlike : Sm := (.seq (.asg (.nm 1) (.ow (.lst .nil))) (.seq (.for (.nm 2) (.itS (.sorted (.comp (.nm 3) [3] (.itS (.nm 0)) .yes (.blt .str (.cons (.nm 3) .nil))))) (.ite (.cmp .notin (.nm 2) (.nm 1)) (.app 1 (.nm 2)) .skip)) (.ret (.mv 1))))
theorem wp_law_unlike : ∀ ts μ φ ε, c_law_unlike ts μ φ ε → ts.length = 1 ∧ wpB ir_law_unlike 3 ts μ φ ε := by
  rintro ts μ φ ε ⟨ns, rfl, rfl, hl, h⟩
  refine ⟨rfl, ?_⟩
  (conv => whnf)
  refine noP_of rfl ?_
  (conv => whnf)
  refine szK_of (by rw [List.length_map]; omega) ?_
  refine compK_map (enc := Tr.str) (g := Tr.str) (fun x _ k hk => hk) ?_
  (conv => whnf)
  refine .inl ⟨ns, rfl, fun rs hp hw => ?_⟩
  (conv => whnf)
  refine forK_at (enc := Tr.str) (all := rs) (fun pre ρ μ => ∃ o2 o3 l, ρ = [some (.lst (ns.map .str)), some (.ptr 0), o2, o3] ∧ μ = [.lst (l.map .str)] ∧ Asc ltN l ∧ (∀ x, x ∈ l ↔ x ∈ pre) ∧ l.length ≤ pre.length) (pre := []) rfl ⟨none, none, [], rfl, rfl, List.Pairwise.nil, fun x => Iff.rfl, Nat.le_refl _⟩ ?_ ?_
  · rintro pre x post ρ μ hall ⟨o2, o3, l, rfl, rfl, ha, hm, hln⟩ k hk
    have hlp := app_len hall
    have hpl := hp.length_eq
    (conv => whnf)
    refine ⟨by rw [isF_strs]; rfl, ?_⟩
    (conv => whnf)
    cases e : ((l.map Tr.str).any fun t => eqT t (.str x)) with
    | true =>
      have hx := (any_strs l x).mp e
      refine hk _ _ ⟨_, _, l, rfl, rfl, ha, fun y => ?_, by simp; omega⟩
      rw [List.mem_append, hm, List.mem_singleton]
      exact ⟨.inl, fun h => h.elim id fun e => by rw [e]; exact (hm x).mp hx⟩
    | false =>
      have hx : x ∉ l := fun hx => by rw [(any_strs l x).mpr hx] at e; cases e
      (conv => whnf)
      refine szK_of (by rw [List.length_map]; omega) ?_
      refine hk _ _ ⟨_, _, l ++ [x], rfl, by simp, ?_, fun y => by rw [List.mem_append, List.mem_append, hm], by simp; omega⟩
      unfold Asc
      rw [List.pairwise_append]
      refine ⟨ha, by simp, fun y hy z hz => ?_⟩
      have : z = x := by simpa using hz
      subst this
      have hyp := (hm y).mp hy
      have hwz : ¬ z < y := by
        rw [← hall, List.pairwise_append] at hw
        exact hw.2.2 y hyp z List.mem_cons_self
      rcases not_lt_or hwz with e | e
      · exact e
      · exact absurd (e ▸ hy) hx
  · rintro ρ μ ⟨o2, o3, l, rfl, rfl, ha, hm, hln⟩
    have : l = uniq ns := asc_srtU ordN ha fun x => (hm x).trans hp.mem_iff
    rw [← this] at h
    exact h
end G

namespace G
open Ir
/-! Cm: the law's own cheapest arrows, rows, letters, states. -/
def un4 : List (Int ⊕ List Nat) → Ar
  | [.inr a, .inr b, .inr c, .inl p] => ⟨a, b, c, p⟩
  | _ => ⟨[], [], [], 0⟩
theorem perm4 {rs : List (List (Int ⊕ List Nat))} {ks : List Ar} (h : rs.Perm (ks.map atm4)) : ∃ qs : List Ar, rs = qs.map atm4 ∧ qs.Perm ks := by
  refine ⟨rs.map un4, ?_, ?_⟩
  · rw [List.map_map]
    refine (List.map_id rs).symm.trans (List.map_congr_left fun r hr => ?_)
    obtain ⟨k, _, rfl⟩ := List.mem_map.mp (h.mem_iff.mp hr)
    rfl
  · have := h.map un4
    rw [List.map_map] at this
    rwa [show (un4 ∘ atm4 : Ar → Ar) = id from rfl, List.map_id] at this
theorem lex4 (a b : Ar) (h : lexA (atm4 a) (atm4 b) = true) : lt3 (k3 a) (k3 b) = true ∨ (k3 a = k3 b ∧ a.p ≤ b.p) := by
  have h : (decide (a.s < b.s) || (decide (a.s = b.s) && (decide (a.l < b.l) || (decide (a.l = b.l) && (decide (a.a < b.a) || (decide (a.a = b.a) && (decide (a.p < b.p) || (decide (a.p = b.p) && true)))))))) = true := h
  show (decide (a.s < b.s) || (decide (a.s = b.s) && (decide (a.l < b.l) || (decide (a.l = b.l) && decide (a.a < b.a))))) = true ∨ _
  simp only [Bool.or_eq_true, Bool.and_eq_true, decide_eq_true_eq, and_true] at h ⊢
  rcases h with h | ⟨h1, h | ⟨h2, h | ⟨h3, h⟩⟩⟩
  · exact .inl (.inl h)
  · exact .inl (.inr ⟨h1, .inl h⟩)
  · exact .inl (.inr ⟨h1, .inr ⟨h2, h⟩⟩)
  · exact .inr ⟨Prod.ext h1 (Prod.ext h2 h3), by omega⟩
structure LcI (l pre : List Ar) : Prop where
  asc : Asc lt3 (l.map k3)
  m1 : ∀ x ∈ l, x ∈ pre ∧ ∀ y ∈ pre, k3 y = k3 x → x.p ≤ y.p
  m2 : ∀ y ∈ pre, ∃ x ∈ l, k3 x = k3 y
theorem LcI.push {l pre : List Ar} (h : LcI l pre) {x : Ar} (hs : ∀ y ∈ pre, lt3 (k3 y) (k3 x) = true ∨ (k3 y = k3 x ∧ y.p ≤ x.p)) (hn : ∀ y ∈ l, k3 y ≠ k3 x) : LcI (l ++ [x]) (pre ++ [x]) := by
  refine ⟨?_, fun y hy => ?_, fun y hy => ?_⟩
  · unfold Asc
    rw [List.map_append, List.pairwise_append]
    refine ⟨h.asc, by simp, fun k hk k' hk' => ?_⟩
    obtain ⟨y, hy, rfl⟩ := List.mem_map.mp hk
    have : k' = k3 x := by simpa using hk'
    subst this
    rcases hs y (h.m1 y hy).1 with e | e
    · exact e
    · exact absurd e.1 (hn y hy)
  · rcases List.mem_append.mp hy with hy | hy
    · obtain ⟨q1, q2⟩ := h.m1 y hy
      refine ⟨List.mem_append_left _ q1, fun z hz ez => ?_⟩
      rcases List.mem_append.mp hz with hz | hz
      · exact q2 z hz ez
      · cases List.mem_singleton.mp hz; exact absurd ez.symm (hn y hy)
    · cases List.mem_singleton.mp hy
      refine ⟨by simp, fun z hz ez => ?_⟩
      rcases List.mem_append.mp hz with hz | hz
      · obtain ⟨w, hw, ew⟩ := h.m2 z hz
        exact absurd (ew.trans ez) (hn w hw)
      · cases List.mem_singleton.mp hz; exact Int.le_refl _
  · rcases List.mem_append.mp hy with hy | hy
    · obtain ⟨w, hw, ew⟩ := h.m2 y hy
      exact ⟨w, List.mem_append_left _ hw, ew⟩
    · cases List.mem_singleton.mp hy; exact ⟨_, by simp, rfl⟩
theorem LcI.skip {l pre : List Ar} (h : LcI l pre) {x z : Ar} (hs : ∀ y ∈ pre, lt3 (k3 y) (k3 x) = true ∨ (k3 y = k3 x ∧ y.p ≤ x.p)) (hz : z ∈ l) (e : k3 z = k3 x) : LcI l (pre ++ [x]) := by
  refine ⟨h.asc, fun y hy => ?_, fun y hy => ?_⟩
  · obtain ⟨q1, q2⟩ := h.m1 y hy
    refine ⟨List.mem_append_left _ q1, fun w hw ew => ?_⟩
    rcases List.mem_append.mp hw with hw | hw
    · exact q2 w hw ew
    · cases List.mem_singleton.mp hw
      rcases hs y q1 with e1 | e1
      · rw [ew, ord3.ir] at e1; cases e1
      · exact e1.2
  · rcases List.mem_append.mp hy with hy | hy
    · exact h.m2 y hy
    · cases List.mem_singleton.mp hy; exact ⟨z, hz, e⟩
/-- in an ascending list the last one alone may have the key of one that is not less -/
theorem LcI.last {l pre : List Ar} {z : Ar} (h : LcI (l ++ [z]) pre) {x : Ar} (hs : ∀ y ∈ pre, lt3 (k3 y) (k3 x) = true ∨ (k3 y = k3 x ∧ y.p ≤ x.p)) (hn : k3 z ≠ k3 x) : ∀ y ∈ l ++ [z], k3 y ≠ k3 x := fun y hy e => by
  rcases List.mem_append.mp hy with hy | hy
  · have ha := h.asc
    unfold Asc at ha
    rw [List.map_append, List.pairwise_append] at ha
    have h1 := ha.2.2 (k3 y) (List.mem_map.mpr ⟨y, hy, rfl⟩) (k3 z) (by simp)
    have hzp := (h.m1 z (by simp)).1
    rcases hs z hzp with e1 | e1
    · have := ord3.tr _ _ _ h1 e1
      rw [e, ord3.ir] at this
      cases this
    · exact hn e1.1
  · cases List.mem_singleton.mp hy; exact hn e
def c_law_cheapest : Con := fun ts μ φ ε => ∃ (as : List Ar), ts = [.lst (as.map tA)] ∧ μ = [] ∧ as.length ≤ 100000 ∧ (∀ x ∈ as, okAr x = true) ∧ φ (.lst ((chp as).map tA)) []
def ir_law_cheapest : Sm := (.seq (.asg (.nm 1) (.ow (.lst .nil))) (.seq (.for (.nm 2) (.itS (.sorted (.comp (.nm 3) [3] (.itS (.nm 0)) .yes (.blt .tuple (.cons (.nm 3) .nil))))) (.ite (.or (.cmp .eq (.nm 1) (.lst .nil)) (.cmp .ne (.sl01 (.ix (.nm 1) (.neg (.c (.int 1)))) (.c (.int 3))) (.sl01 (.nm 2) (.c (.int 3))))) (.app 1 (.nm 2)) .skip)) (.ret (.mv 1))))
theorem LET_lt : ∀ c ∈ LET, Nat.blt c 55296 = true := by decide
theorem okS_name {l : List Nat} (h : nameB l = true) : okS l = true := by
  unfold nameB at h
  simp only [Bool.and_eq_true, List.all_eq_true, decide_eq_true_eq] at h
  exact List.all_eq_true.mpr fun c hc => LET_lt c (h.2.2 c hc)
theorem okS_let {l : List Nat} (h : letB l = true) : okS l = true := by
  match l, h with
  | [c], h =>
    have h : decide (c ∈ LET) = true := h
    show (Nat.blt c 55296 && true) = true
    rw [LET_lt c (of_decide_eq_true h)]
    rfl
theorem isD_tA {n : Nat} {x : Ar} (h : okAr x = true) : isD (n + 1) (tA x) = true := by
  unfold okAr at h
  simp only [Bool.and_eq_true] at h
  obtain ⟨⟨⟨h1, h2⟩, h3⟩, _⟩ := h
  show (okS x.s && (okS x.l && (okS x.a && (true && true)))) = true
  rw [okS_name h1, okS_let h2, okS_name h3]
  rfl
theorem isD_tAs {n : Nat} {l : List Ar} (h : ∀ x ∈ l, okAr x = true) : isD (n + 2) (.lst (l.map tA)) = true := by
  show isDs (n + 1) (l.map tA) = true
  exact isDs_map fun x hx => isD_tA (h x hx)
theorem wp_law_cheapest : ∀ ts μ φ ε, c_law_cheapest ts μ φ ε → ts.length = 1 ∧ wpB ir_law_cheapest 3 ts μ φ ε := by
  rintro ts μ φ ε ⟨as, rfl, rfl, hl, hok, h⟩
  refine ⟨rfl, ?_⟩
  (conv => whnf)
  refine noP_of rfl ?_
  (conv => whnf)
  refine szK_of (by rw [List.length_map]; omega) ?_
  refine compK_map (enc := tA) (g := tA) (fun x _ k hk => hk) ?_
  (conv => whnf)
  refine .inr ⟨as.map atm4, [false, false, false, true], by rw [List.map_map]; rfl, by simp, fun k hk => ?_, fun rs hp hw => ?_⟩
  · obtain ⟨x, _, rfl⟩ := List.mem_map.mp hk
    rfl
  obtain ⟨qs, rfl, hq⟩ := perm4 hp
  have hw := List.pairwise_map.mp hw
  rw [List.map_map]
  (conv => whnf)
  refine forK_at (enc := (fun k => Tr.tup (k.map atmT)) ∘ atm4) (all := qs) (fun pre ρ μ => ∃ o2 o3 l, ρ = [some (.lst (as.map tA)), some (.ptr 0), o2, o3] ∧ μ = [.lst (l.map tA)] ∧ LcI l pre ∧ l.length ≤ pre.length) (pre := []) rfl ⟨none, none, [], rfl, rfl, ⟨List.Pairwise.nil, (fun _ h => nomatch h), fun _ h => nomatch h⟩, Nat.le_refl _⟩ ?_ ?_
  · rintro pre x post ρ μ hall ⟨o2, o3, l, rfl, rfl, hI, hln⟩ k hk
    have hlp := app_len hall
    have hpl := hq.length_eq
    have hs : ∀ y ∈ pre, lt3 (k3 y) (k3 x) = true ∨ (k3 y = k3 x ∧ y.p ≤ x.p) := fun y hy => by
      rw [← hall, List.pairwise_append] at hw
      exact lex4 y x (hw.2.2 y hy x List.mem_cons_self)
    have hlo : ∀ y ∈ l, okAr y = true := fun y hy => hok y (hq.mem_iff.mp (by rw [← hall]; exact List.mem_append_left _ (hI.m1 y hy).1))
    have hxo : okAr x = true := hok x (hq.mem_iff.mp (app_mem hall))
    have push : (∀ y ∈ l, k3 y ≠ k3 x) → k [some (.lst (as.map tA)), some (.ptr 0), some (tA x), o3] [.lst (l.map tA ++ [tA x])] := fun hn =>
      hk _ _ ⟨_, _, l ++ [x], rfl, by simp, hI.push hs hn, by simp; omega⟩
    have k3D : ∀ {y : Ar}, okAr y = true → isD 60 (tK (k3 y)) = true := fun {y} hy => by
      unfold okAr at hy
      simp only [Bool.and_eq_true] at hy
      obtain ⟨⟨⟨h1, h2⟩, h3⟩, _⟩ := hy
      show (okS y.s && (okS y.l && (okS y.a && true))) = true
      rw [okS_name h1, okS_let h2, okS_name h3]
      rfl
    rcases List.eq_nil_or_concat l with rfl | ⟨l', z, e⟩
    · (conv => whnf)
      refine noP_of rfl ?_
      (conv => whnf)
      refine ⟨rfl, ?_⟩
      exact push fun _ h => nomatch h
    · rw [List.concat_eq_append] at e
      subst e
      have e0 : eqT (.lst ((l' ++ [z]).map tA)) (.lst []) = false := by cases l' <;> rfl
      (conv => whnf)
      refine noP_of rfl ?_
      (conv => whnf)
      refine ⟨by rw [isD_tAs hlo]; rfl, ?_⟩
      rw [e0]
      (conv => whnf)
      refine ⟨tA z, by rw [List.map_append]; exact atT_last _ _, ?_⟩
      (conv => whnf)
      refine ⟨fun hb => absurd (show (3 : Nat) = 4 from hb.2) (by decide), ?_⟩
      (conv => whnf)
      refine ⟨fun hb => absurd (show (3 : Nat) = 4 from hb.2) (by decide), ?_⟩
      (conv => whnf)
      refine ⟨by
        have h1 := k3D (hlo z (by simp))
        have h2 := k3D hxo
        show (isD 60 (tK (k3 z)) && isD 60 (tK (k3 x))) = true
        rw [h1, h2]
        rfl, ?_⟩
      have e3 := eqK3 (k3 z) (k3 x)
      have e3 : eqT (.tup [.str z.s, .str z.l, .str z.a]) (.tup [.str x.s, .str x.l, .str x.a]) = decide (k3 z = k3 x) := e3
      generalize hr : eqT _ _ = r
      have hr2 : r = decide (k3 z = k3 x) := hr.symm.trans e3
      cases r with
      | true => exact hk _ _ ⟨_, _, _, rfl, rfl, hI.skip hs (by simp) (of_decide_eq_true hr2.symm), by simp at hln ⊢; omega⟩
      | false =>
        (conv => whnf)
        refine szK_of (by rw [List.length_map]; omega) ?_
        exact push (hI.last hs (of_decide_eq_false hr2.symm))
  · rintro ρ μ ⟨o2, o3, l, rfl, rfl, hI, hln⟩
    have e : l = chp as := chp_uniq hI.asc (fun x hx => ⟨hq.mem_iff.mp (hI.m1 x hx).1, fun y hy => (hI.m1 x hx).2 y (hq.mem_iff.mpr hy)⟩) fun y hy => hI.m2 y (hq.mem_iff.mpr hy)
    rw [← e] at h
    exact h
end G

namespace G
open Ir
/-! Cn: rows, letters, states, sums. -/
/-- all rows up to a length -/
def levels (sg : List (List Nat)) : Nat → List (List Nat)
  | 0 => [[]]
  | n + 1 => (levels sg n).flatMap fun r => sg.map fun l => r ++ l
def rowsUp (sg : List (List Nat)) (n : Nat) : List (List Nat) := (List.range (n + 1)).flatMap fun k => levels sg k
theorem rowsUp_succ (sg : List (List Nat)) (n : Nat) : rowsUp sg (n + 1) = rowsUp sg n ++ levels sg (n + 1) := by
  unfold rowsUp
  rw [List.range_succ, List.flatMap_append]
  simp
theorem levels_len (sg : List (List Nat)) (h : sg.length ≤ 4) : ∀ n, (levels sg n).length ≤ 4 ^ n
  | 0 => Nat.le_refl _
  | n + 1 => by
    have ih := levels_len sg h n
    have e : ∀ l : List (List Nat), (l.flatMap fun r => sg.map fun x => r ++ x).length = l.length * sg.length := by
      intro l
      induction l with
      | nil => simp
      | cons a l ih => rw [List.flatMap_cons, List.length_append, ih, List.length_map, List.length_cons, Nat.add_mul]; omega
    show ((levels sg n).flatMap fun r => sg.map fun x => r ++ x).length ≤ _
    rw [e, Nat.pow_succ]
    exact Nat.mul_le_mul ih h
theorem levels_row {sg : List (List Nat)} (h : ∀ l ∈ sg, l.length = 1) : ∀ n r, r ∈ levels sg n → r.length = n
  | 0, r, hr => by
    have : r = [] := by simpa [levels] using hr
    rw [this]; rfl
  | n + 1, r, hr => by
    obtain ⟨q, hq, hl⟩ := List.mem_flatMap.mp hr
    obtain ⟨l, hl2, rfl⟩ := List.mem_map.mp hl
    rw [List.length_append, levels_row h n q hq, h l hl2]
theorem rows_len (sg : List (List Nat)) (h : sg.length ≤ 4) : ∀ n, n ≤ 6 → (rowsUp sg n).length ≤ 30000
  | n, hn => by
    have : ∀ n, (rowsUp sg n).length ≤ (n + 1) * 4 ^ n := by
      intro n
      induction n with
      | zero => simp [rowsUp, levels]
      | succ n ih =>
        rw [rowsUp_succ, List.length_append]
        have h1 := levels_len sg h (n + 1)
        have h2 : (n + 1) * 4 ^ n ≤ (n + 1) * 4 ^ (n + 1) := Nat.mul_le_mul_left _ (Nat.pow_le_pow_right (by decide) (by omega))
        have h3 : (n + 1 + 1) * 4 ^ (n + 1) = (n + 1) * 4 ^ (n + 1) + 4 ^ (n + 1) := by rw [Nat.add_mul, Nat.one_mul]
        omega
    have h1 := this n
    have h2 : (n + 1) * 4 ^ n ≤ 7 * 4 ^ 6 := Nat.mul_le_mul (by omega) (Nat.pow_le_pow_right (by decide) hn)
    have h3 : 7 * 4 ^ 6 = 28672 := by decide
    omega
theorem snoc_of : ∀ {μ : Mem} {n : Nat} {c : Cel} {k : Nat → Mem → Prop}, k (n + μ.length) (μ ++ [c]) → snocK μ n c k
  | [], n, c, k, h => h
  | a :: μ, n, c, k, h => by
    show snocK μ (n + 1) c fun i r => k i (a :: r)
    refine snoc_of ?_
    rw [show n + 1 + μ.length = n + (a :: μ).length by rw [List.length_cons]; omega]
    exact h
theorem cel_of : ∀ {μ ν : Mem} {c : Cel} {i : Nat} {k : Cel → Prop}, i = μ.length → k c → celK (μ ++ c :: ν) i k
  | [], ν, c, i, k, hi, h => by subst hi; exact h
  | a :: μ, ν, c, i, k, hi, h => by
    subst hi
    exact cel_of (μ := μ) (i := μ.length) rfl h
theorem cput_of : ∀ {μ ν : Mem} {c c' : Cel} {i : Nat} {k : Mem → Prop}, i = μ.length → k (μ ++ c' :: ν) → cputK (μ ++ c :: ν) i c' k
  | [], ν, c, c', i, k, hi, h => by subst hi; exact h
  | a :: μ, ν, c, c', i, k, hi, h => by
    subst hi
    exact cput_of (μ := μ) (i := μ.length) (k := fun r => k (a :: r)) rfl h
def c_law_rows : Con := fun ts μ φ ε => ∃ (sg : List (List Nat)) (n : Nat), ts = [.lst (sg.map .str), .int n] ∧ μ = [] ∧ n ≤ 6 ∧ sg.length ≤ 4 ∧ (∀ l ∈ sg, l.length = 1) ∧ φ (.lst ((rowsUp sg n).map .str)) []
def ir_law_rows : Sm := (.seq (.par [2, 3] (.cons (.lst (.cons (.c (.str [])) .nil)) (.cons (.lst (.cons (.c (.str [])) .nil)) .nil))) (.seq (.for (.nm 4) (.rng (.c (.int 0)) (.nm 1)) (.seq (.asg (.nm 5) (.ow (.lst .nil))) (.seq (.for (.nm 6) (.itS (.nm 3)) (.ext 5 (.comp (.nm 7) [7] (.itS (.nm 0)) .yes (.op .add (.nm 6) (.nm 7))))) (.par [2, 3] (.cons (.addL (.nm 2) (.nm 5)) (.cons (.mv 5) .nil)))))) (.ret (.nm 2))))
theorem wp_law_rows : ∀ ts μ φ ε, c_law_rows ts μ φ ε → ts.length = 2 ∧ wpB ir_law_rows 6 ts μ φ ε := by
  rintro ts μ φ ε ⟨sg, n, rfl, rfl, hn, hl, h1, h⟩
  refine ⟨rfl, ?_⟩
  (conv => whnf)
  refine noP_of rfl ?_
  (conv => whnf)
  refine noP_of rfl ?_
  (conv => whnf)
  refine ⟨by omega, ?_⟩
  refine forK_at (enc := fun i : Nat => Tr.int (0 + (i : Nat))) (all := List.range ((n : Int) - 0).toNat) (fun pre ρ μ => ∃ o4 o5 o6 o7, ρ = [some (.lst (sg.map .str)), some (.int n), some (.lst ((rowsUp sg pre.length).map .str)), some (.lst ((levels sg pre.length).map .str)), o4, o5, o6, o7] ∧ ∃ g, μ = List.replicate g .gone) (pre := []) rfl ⟨none, none, none, none, rfl, 0, rfl⟩ ?_ ?_
  · rintro pre i post ρ μ hall ⟨o4, o5, o6, o7, rfl, g, rfl⟩ k hk
    have hlp := app_len hall
    rw [List.length_range] at hlp
    (conv => whnf)
    refine noP_of rfl ?_
    (conv => whnf)
    refine snoc_of ?_
    (conv => whnf)
    refine forK_at (enc := Tr.str) (all := levels sg pre.length) (fun pr ρ μ => ∃ o6 o7, ρ = [some (.lst (sg.map .str)), some (.int n), some (.lst ((rowsUp sg pre.length).map .str)), some (.lst ((levels sg pre.length).map .str)), some (.int (0 + (i : Nat))), some (.ptr (0 + (List.replicate g Cel.gone).length)), o6, o7] ∧ μ = List.replicate g .gone ++ [.lst ((pr.flatMap fun r => sg.map fun l => r ++ l).map .str)]) (pre := []) rfl ⟨_, _, rfl, rfl⟩ ?_ ?_
    · rintro pr r post ρ μ hall2 ⟨o6, o7, rfl, rfl⟩ k2 hk2
      (conv => whnf)
      refine cel_of (by simp) ?_
      have hrl : r.length = pre.length := levels_row h1 _ r (app_mem hall2)
      have hfl : (pr.flatMap fun r => sg.map fun l => r ++ l).length + sg.length ≤ 4 ^ 7 := by
        have h2 := levels_len sg hl (pre.length + 1)
        have e2 : levels sg (pre.length + 1) = (pr.flatMap fun r => sg.map fun l => r ++ l) ++ ((sg.map fun l => r ++ l) ++ post.flatMap fun r => sg.map fun l => r ++ l) := by
          show (levels sg pre.length).flatMap _ = _
          rw [← hall2, List.flatMap_append, List.flatMap_cons]
        rw [e2, List.length_append, List.length_append, List.length_map] at h2
        have h3 : 4 ^ (pre.length + 1) ≤ 4 ^ 7 := Nat.pow_le_pow_right (by decide) (by omega)
        omega
      have h47 : 4 ^ 7 = 16384 := by decide
      (conv => whnf)
      refine szK_of (by rw [List.length_map]; omega) ?_
      refine compK_map (enc := Tr.str) (g := fun l => .str (r ++ l)) (fun l hl' k hk => ?_) ?_
      · (conv => whnf)
        exact szK_of (by rw [hrl, h1 l hl']; omega) hk
      · (conv => whnf)
        refine cel_of (by simp) ?_
        (conv => whnf)
        refine szK_of (by rw [List.length_map, List.length_map]; omega) ?_
        refine cput_of (by simp) ?_
        refine hk2 _ _ ⟨_, _, rfl, ?_⟩
        rw [List.flatMap_append, List.map_append]
        simp
    · rintro ρ μ ⟨o6, o7, rfl, rfl⟩
      have h2 := levels_len sg hl (pre.length + 1)
      have h3 : 4 ^ (pre.length + 1) ≤ 4 ^ 7 := Nat.pow_le_pow_right (by decide) (by omega)
      have h47 : 4 ^ 7 = 16384 := by decide
      have h4 := rows_len sg hl pre.length (by omega)
      have e2 : ((levels sg pre.length).flatMap fun r => sg.map fun l => r ++ l) = levels sg (pre.length + 1) := rfl
      rw [e2]
      (conv => whnf)
      refine cel_of (by simp) ?_
      (conv => whnf)
      refine szK_of (by rw [List.length_map, List.length_map]; omega) ?_
      (conv => whnf)
      refine cel_of (by simp) ?_
      (conv => whnf)
      refine cput_of (by simp) ?_
      (conv => whnf)
      refine hk _ _ ⟨some (.int (0 + (i : Nat))), some (.ptr (0 + (List.replicate g Cel.gone).length)), o6, o7, ?_, g + 1, ?_⟩
      · rw [← List.map_append, ← rowsUp_succ, List.length_append]
        rfl
      · rw [List.replicate_succ']
  · rintro ρ μ ⟨o4, o5, o6, o7, rfl, g, rfl⟩
    rw [List.length_range, show ((n : Int) - 0).toNat = n by omega]
    exact h
end G

namespace G
open Ir
/-! Co: letters, states, sums, the least. -/
def c_law_letters : Con := fun ts μ φ ε => ∃ (as : List Ar) (x y : Tr), ts = [.tup [.lst (as.map tA), x, y]] ∧ μ = [] ∧ as.length ≤ 100000 ∧ φ (.lst ((uniq (as.map Ar.l)).map .str)) []
def c_law_states : Con := fun ts μ φ ε => ∃ (as : List Ar) (ss es : List (List Nat)), ts = [madeT as ss es] ∧ μ = [] ∧ as.length ≤ 1000 ∧ ss.length ≤ 1000 ∧ es.length ≤ 1000 ∧ φ (.lst ((uniq (ss ++ es ++ ends2 as)).map .str)) []
def ir_law_letters : Sm := (.ret (.call c_law_unlike (.cons (.comp (.nm 1) [1] (.itS (.ix (.nm 0) (.c (.int 0)))) .yes (.ix (.nm 1) (.c (.int 1)))) .nil)))
def ir_law_states : Sm := (.seq (.asg (.nm 1) (.addL (.ix (.nm 0) (.c (.int 1))) (.ix (.nm 0) (.c (.int 2))))) (.seq (.for (.cons (.nm 2) (.cons (.nm 3) (.cons (.nm 4) (.cons (.nm 5) .nil)))) (.itS (.ix (.nm 0) (.c (.int 0)))) (.asg (.nm 1) (.addL (.nm 1) (.lst (.cons (.nm 2) (.cons (.nm 4) .nil)))))) (.ret (.call c_law_unlike (.cons (.nm 1) .nil)))))
theorem wp_law_letters : ∀ ts μ φ ε, c_law_letters ts μ φ ε → ts.length = 1 ∧ wpB ir_law_letters 1 ts μ φ ε := by
  rintro ts μ φ ε ⟨as, x, y, rfl, rfl, hl, h⟩
  refine ⟨rfl, ?_⟩
  (conv => whnf)
  refine ⟨.lst (as.map tA), rfl, ?_⟩
  (conv => whnf)
  refine szK_of (by rw [List.length_map]; omega) ?_
  refine compK_map (enc := tA) (g := fun x => .str x.l) (fun x _ k hk => ⟨.str x.l, rfl, hk⟩) ?_
  (conv => whnf)
  rw [strsT]
  exact callP rfl fun φ1 ε1 k1 _ => ⟨as.map Ar.l, rfl, rfl, by rw [List.length_map]; exact hl, k1 _ rfl h⟩
theorem wp_law_states : ∀ ts μ φ ε, c_law_states ts μ φ ε → ts.length = 1 ∧ wpB ir_law_states 5 ts μ φ ε := by
  rintro ts μ φ ε ⟨as, ss, es, rfl, rfl, la, ls, le, h⟩
  refine ⟨rfl, ?_⟩
  (conv => whnf)
  refine ⟨.lst (ss.map .str), rfl, ?_⟩
  (conv => whnf)
  refine ⟨.lst (es.map .str), rfl, ?_⟩
  (conv => whnf)
  refine szK_of (by rw [List.length_map, List.length_map]; omega) ?_
  (conv => whnf)
  refine ⟨.lst (as.map tA), rfl, ?_⟩
  rw [← List.map_append]
  (conv => whnf)
  refine forK_at (enc := tA) (all := as) (fun pre ρ μ => ∃ o2 o3 o4 o5, ρ = [some (madeT as ss es), some (.lst ((ss ++ es ++ ends2 pre).map .str)), o2, o3, o4, o5] ∧ μ = []) (pre := []) rfl ⟨none, none, none, none, by simp [ends2, madeT], rfl⟩ ?_ ?_
  · rintro pre x post ρ μ hall ⟨o2, o3, o4, o5, rfl, rfl⟩ k hk
    have hlp := app_len hall
    (conv => whnf)
    refine noP_of rfl ?_
    (conv => whnf)
    refine szK_of (by rw [List.length_map, List.length_append, List.length_append, ends2_len]; simp; omega) ?_
    refine hk _ _ ⟨some (.str x.s), some (.str x.l), some (.str x.a), some (.int x.p), ?_, rfl⟩
    have e : (ss ++ es ++ ends2 pre).map Tr.str ++ [.str x.s, .str x.a] = (ss ++ es ++ ends2 (pre ++ [x])).map Tr.str := by simp [ends2]
    rw [← e]
  · rintro ρ μ ⟨o2, o3, o4, o5, rfl, rfl⟩
    (conv => whnf)
    exact callP rfl fun φ1 ε1 k1 _ => ⟨ss ++ es ++ ends2 as, rfl, rfl, by rw [List.length_append, List.length_append, ends2_len]; omega, k1 _ rfl h⟩
/-! ### sums along all ways -/
/-- pairs of a state and a sum, one for each way -/
def stepS (as : List Ar) (c : Nat) (q : List Nat × Int) : List (List Nat × Int) := (as.filter fun x => decide (x.s = q.1 ∧ x.l = [c])).map fun x => (x.a, q.2 + x.p)
def sums (as : List Ar) (f : List Nat) (row : List Nat) : List (List Nat × Int) := row.foldl (fun l c => l.flatMap (stepS as c)) [(f, 0)]
theorem sums_snoc (as : List Ar) (f row : List Nat) (c : Nat) : sums as f (row ++ [c]) = (sums as f row).flatMap (stepS as c) := by unfold sums; rw [List.foldl_append]; rfl
theorem sums_path (as : List Ar) (f : List Nat) : ∀ (row t : List Nat) (v : Int), (t, v) ∈ sums as f row ↔ Path as f row t v := by
  have ind : ∀ (rr t : List Nat) (v : Int), (t, v) ∈ sums as f rr.reverse ↔ Path as f rr.reverse t v := by
    intro rr
    induction rr with
    | nil =>
      intro t v
      constructor
      · intro h
        have h : (t, v) = (f, 0) := by simpa [sums] using h
        cases h
        exact .nil f
      · intro h
        obtain ⟨rfl, rfl⟩ := h.nil_inv rfl
        simp [sums]
    | cons c rr ih =>
      intro t v
      rw [List.reverse_cons, sums_snoc]
      constructor
      · intro h
        obtain ⟨⟨s, w⟩, hp, hq⟩ := List.mem_flatMap.mp h
        obtain ⟨x, hx, e⟩ := List.mem_map.mp hq
        have hx := List.mem_filter.mp hx
        obtain ⟨e1, e2⟩ := of_decide_eq_true hx.2
        cases e
        exact .snoc ((ih s w).mp hp) hx.1 e1 e2
      · intro h
        obtain ⟨x, c0, hp, hx, e1, e2, e3⟩ := h.inv rr.reverse c rfl
        refine List.mem_flatMap.mpr ⟨(x.s, c0), (ih _ _).mpr hp, List.mem_map.mpr ⟨x, List.mem_filter.mpr ⟨hx, by simp [e1]⟩, ?_⟩⟩
        rw [← e2, ← e3]
  intro row
  have := ind row.reverse
  rwa [List.reverse_reverse] at this
end G

namespace G
open Ir
/-! Cp: the law's own sums and the least. -/
def pT (q : List Nat × Int) : Tr := .tup [.str q.1, .int q.2]
def c_law_sums : Con := fun ts μ φ ε => ∃ (as : List Ar) (row f : List Nat), ts = [.lst (as.map tA), .str row, .str f] ∧ μ = [] ∧ as.length ≤ 8 ∧ row.length ≤ 5 ∧ (∀ x ∈ as, okAr x = true) ∧ okS f = true ∧ okS row = true ∧ φ (.lst ((sums as f row).map pT)) []
def ir_law_sums : Sm := (.seq (.asg (.nm 3) (.lst (.cons (.tup (.cons (.nm 2) (.cons (.c (.int 0)) .nil))) .nil))) (.seq (.for (.nm 4) (.itS (.nm 1)) (.seq (.asg (.nm 5) (.ow (.lst .nil))) (.seq (.for (.cons (.nm 6) (.cons (.nm 7) .nil)) (.itS (.nm 3)) (.ext 5 (.comp (.nm 8) [8] (.itS (.nm 0)) (.cmp .eq (.sl01 (.nm 8) (.c (.int 2))) (.tup (.cons (.nm 6) (.cons (.nm 4) .nil)))) (.tup (.cons (.ix (.nm 8) (.c (.int 2))) (.cons (.op .add (.nm 7) (.ix (.nm 8) (.c (.int 3)))) .nil)))))) (.asg (.nm 3) (.mv 5))))) (.ret (.nm 3))))
theorem flat_le {α β : Type} {f : α → List β} {m : Nat} : ∀ {l : List α}, (∀ x ∈ l, (f x).length ≤ m) → (l.flatMap f).length ≤ l.length * m
  | [], _ => Nat.zero_le _
  | x :: l, h => by
    have ih := flat_le (f := f) (m := m) (l := l) fun y hy => h y (List.mem_cons_of_mem _ hy)
    have hx := h x List.mem_cons_self
    rw [List.flatMap_cons, List.length_append, List.length_cons, Nat.add_mul]
    omega
theorem stepS_len (as : List Ar) (c : Nat) (q) : (stepS as c q).length ≤ as.length := by
  unfold stepS
  rw [List.length_map]
  exact List.length_filter_le _ _
theorem sums_len {as : List Ar} (h : as.length ≤ 8) (f row : List Nat) : (sums as f row).length ≤ 8 ^ row.length := by
  have ind : ∀ rr : List Nat, (sums as f rr.reverse).length ≤ 8 ^ rr.length := by
    intro rr
    induction rr with
    | nil => simp [sums]
    | cons c rr ih =>
      rw [List.reverse_cons, sums_snoc, List.length_cons, Nat.pow_succ]
      exact Nat.le_trans (flat_le (m := 8) fun q _ => Nat.le_trans (stepS_len as c q) h) (Nat.mul_le_mul_right _ ih)
  have := ind row.reverse
  rwa [List.reverse_reverse, List.length_reverse] at this
theorem sums_okS {as : List Ar} (h : ∀ x ∈ as, okAr x = true) {f row : List Nat} (hf : okS f = true) : ∀ q ∈ sums as f row, okS q.1 = true := fun ⟨t, v⟩ hq => by
  have := (sums_path as f row t v).mp hq
  cases this with
  | nil => exact hf
  | snoc hp hx e1 e2 =>
    have hx := h _ hx
    unfold okAr at hx
    simp only [Bool.and_eq_true] at hx
    exact okS_name hx.1.2
theorem fm_if {α β : Type} {p : α → Prop} [DecidablePred p] (g : α → β) : ∀ (l : List α), (l.filterMap fun x => if p x then some (g x) else none) = (l.filter fun x => decide (p x)).map g
  | [] => rfl
  | x :: l => by
    rw [List.filterMap_cons, List.filter_cons]
    by_cases h : p x
    · simp [h, fm_if g l]
    · simp [h, fm_if g l]
theorem wp_law_sums : ∀ ts μ φ ε, c_law_sums ts μ φ ε → ts.length = 3 ∧ wpB ir_law_sums 6 ts μ φ ε := by
  rintro ts μ φ ε ⟨as, row, f, rfl, rfl, la, lr, hok, hf, hrow, h⟩
  refine ⟨rfl, ?_⟩
  (conv => whnf)
  refine noP_of rfl ?_
  (conv => whnf)
  refine noP_of rfl ?_
  (conv => whnf)
  refine forK_at (enc := fun c : Nat => Tr.str [c]) (all := row) (fun pre ρ μ => ∃ o4 o5 o6 o7 o8, ρ = [some (.lst (as.map tA)), some (.str row), some (.str f), some (.lst ((sums as f pre).map pT)), o4, o5, o6, o7, o8] ∧ ∃ g, μ = List.replicate g .gone) (pre := []) rfl ⟨none, none, none, none, none, rfl, 0, rfl⟩ ?_ ?_
  · rintro pre c post ρ μ hall ⟨o4, o5, o6, o7, o8, rfl, g, rfl⟩ k hk
    have hlp := app_len hall
    have hc : okS [c] = true := by
      have := List.all_eq_true.mp hrow c (app_mem hall)
      show (Nat.blt c 55296 && true) = true
      rw [this]
      rfl
    (conv => whnf)
    refine noP_of rfl ?_
    (conv => whnf)
    refine snoc_of ?_
    (conv => whnf)
    refine forK_at (enc := pT) (all := sums as f pre) (fun pr ρ μ => ∃ o6 o7 o8, ρ = [some (.lst (as.map tA)), some (.str row), some (.str f), some (.lst ((sums as f pre).map pT)), some (.str [c]), some (.ptr (0 + (List.replicate g Cel.gone).length)), o6, o7, o8] ∧ μ = List.replicate g .gone ++ [.lst ((pr.flatMap (stepS as c)).map pT)]) (pre := []) rfl ⟨_, _, _, rfl, rfl⟩ ?_ ?_
    · rintro pr ⟨s, v⟩ post2 ρ μ hall2 ⟨o6, o7, o8, rfl, rfl⟩ k2 hk2
      have hs : okS s = true := sums_okS hok hf (s, v) (app_mem hall2)
      have hlen : (pr.flatMap (stepS as c)).length + (stepS as c (s, v)).length ≤ 8 ^ 5 := by
        have h2 := sums_len la f (pre ++ [c])
        rw [sums_snoc, ← hall2, List.flatMap_append, List.flatMap_cons, List.length_append, List.length_append] at h2
        have h3 : 8 ^ (pre ++ [c]).length ≤ 8 ^ 5 := Nat.pow_le_pow_right (by decide) (by simp; omega)
        omega
      have h85 : 8 ^ 5 = 32768 := by decide
      (conv => whnf)
      refine cel_of (by simp) ?_
      (conv => whnf)
      refine szK_of (by rw [List.length_map]; omega) ?_
      refine compK_fmap (enc := tA) (g := fun x => if x.s = s ∧ x.l = [c] then some (pT (x.a, v + x.p)) else none) (fun x hx k hk => ?_) ?_
      · have hxo := hok x hx
        unfold okAr at hxo
        simp only [Bool.and_eq_true] at hxo
        (conv => whnf)
        refine ⟨fun hb => absurd (show (2 : Nat) = 4 from hb.2) (by decide), ?_⟩
        (conv => whnf)
        refine noP_of rfl ?_
        (conv => whnf)
        refine ⟨by
          show ((okS x.s && (okS x.l && true)) && (okS s && (okS [c] && true))) = true
          rw [okS_name hxo.1.1.1, okS_let hxo.1.1.2, hs, hc]
          rfl, ?_⟩
        generalize hr : eqT _ _ = r
        have hr2 : r = decide (x.s = s ∧ x.l = [c]) := hr.symm.trans (by
          show (decide (x.s = s) && (decide (x.l = [c]) && true)) = _
          rw [Bool.eq_iff_iff]
          simp)
        cases r with
        | true =>
          rw [if_pos (of_decide_eq_true hr2.symm)] at hk
          (conv => whnf)
          refine ⟨.str x.a, rfl, ?_⟩
          (conv => whnf)
          refine ⟨.int x.p, rfl, ?_⟩
          (conv => whnf)
          refine noP_of rfl ?_
          exact hk
        | false =>
          rw [if_neg (of_decide_eq_false hr2.symm)] at hk
          exact hk
      · have e : (as.filterMap fun x => if x.s = s ∧ x.l = [c] then some (pT (x.a, v + x.p)) else none) = (stepS as c (s, v)).map pT := by
          rw [fm_if (p := fun x : Ar => x.s = s ∧ x.l = [c]) fun x : Ar => pT (x.a, v + x.p)]
          unfold stepS
          rw [List.map_map]
          rfl
        rw [e]
        (conv => whnf)
        refine cel_of (by simp) ?_
        (conv => whnf)
        refine szK_of (by rw [List.length_map, List.length_map]; omega) ?_
        refine cput_of (by simp) ?_
        refine hk2 _ _ ⟨_, _, _, rfl, ?_⟩
        rw [List.flatMap_append, List.map_append]
        simp
    · rintro ρ μ ⟨o6, o7, o8, rfl, rfl⟩
      (conv => whnf)
      refine cel_of (by simp) ?_
      (conv => whnf)
      refine cput_of (by simp) ?_
      (conv => whnf)
      refine hk _ _ ⟨some (.str [c]), some (.ptr (0 + (List.replicate g Cel.gone).length)), o6, o7, o8, ?_, g + 1, ?_⟩
      · rw [sums_snoc]
      · rw [List.replicate_succ']
  · rintro ρ μ ⟨o4, o5, o6, o7, o8, rfl, g, rfl⟩
    exact h
end G

namespace G
open Ir
/-! Cq: the law's own least. -/
def c_law_least : Con := fun ts μ φ ε => ∃ (as : List Ar) (x y : Tr) (row : List Nat) (ss es : List (List Nat)), ts = [.tup [.lst (as.map tA), x, y], .str row, .lst (ss.map .str), .lst (es.map .str)] ∧ μ = [] ∧ as.length ≤ 8 ∧ row.length ≤ 5 ∧ ss.length ≤ 20 ∧ (∀ x ∈ as, okAr x = true) ∧ (∀ s ∈ ss, okS s = true) ∧ okS row = true ∧ ∀ o, IsMin (fun c => ∃ s ∈ ss, ∃ t ∈ es, Path as s row t c) o → φ (oT o) []
def ir_law_least : Sm := (.seq (.asg (.nm 4) (.ow (.lst .nil))) (.seq (.for (.nm 5) (.itS (.nm 2)) (.ext 4 (.comp (.cons (.nm 6) (.cons (.nm 7) .nil)) [6, 7] (.itS (.call c_law_sums (.cons (.ix (.nm 0) (.c (.int 0))) (.cons (.nm 1) (.cons (.nm 5) .nil))))) (.cmp .isin (.nm 6) (.nm 3)) (.nm 7)))) (.ret (.ife (.cmp .ne (.nm 4) (.lst .nil)) (.blt .minL (.cons (.nm 4) .nil)) (.c .non)))))
theorem wp_law_least : ∀ ts μ φ ε, c_law_least ts μ φ ε → ts.length = 4 ∧ wpB ir_law_least 4 ts μ φ ε := by
  rintro ts μ φ ε ⟨as, x, y, row, ss, es, rfl, rfl, la, lr, ls, hok, hos, hrow, h⟩
  refine ⟨rfl, ?_⟩
  (conv => whnf)
  refine noP_of rfl ?_
  (conv => whnf)
  refine forK_at (enc := Tr.str) (all := ss) (fun pre ρ μ => ∃ o5 o6 o7 l, ρ = [some (.tup [.lst (as.map tA), x, y]), some (.str row), some (.lst (ss.map .str)), some (.lst (es.map .str)), some (.ptr 0), o5, o6, o7] ∧ μ = [.lst (l.map .int)] ∧ (∀ c, (∃ s ∈ pre, ∃ t ∈ es, Path as s row t c) ↔ c ∈ l) ∧ l.length ≤ pre.length * 32768) (pre := []) rfl ⟨none, none, none, [], rfl, rfl, (fun c => by simp), Nat.zero_le _⟩ ?_ ?_
  · rintro pre s post ρ μ hall ⟨o5, o6, o7, l, rfl, rfl, hm, hln⟩ k hk
    have hlp := app_len hall
    have h85 : 8 ^ 5 = 32768 := by decide
    have hsl : (sums as s row).length ≤ 32768 := by
      have h2 := sums_len la s row
      have h3 : 8 ^ row.length ≤ 8 ^ 5 := Nat.pow_le_pow_right (by decide) lr
      omega
    (conv => whnf)
    refine ⟨.lst (as.map tA), rfl, ?_⟩
    (conv => whnf)
    refine callP rfl fun φ1 ε1 k1 _ => ⟨as, row, s, rfl, rfl, la, lr, hok, hos s (app_mem hall), hrow, k1 _ rfl ?_⟩
    (conv => whnf)
    refine szK_of (by rw [List.length_map]; omega) ?_
    refine compK_fmap (enc := pT) (g := fun q => if q.1 ∈ es then some (.int q.2) else none) (fun q _ k hk => ?_) ?_
    · (conv => whnf)
      refine ⟨by rw [isF_strs]; rfl, ?_⟩
      (conv => whnf)
      cases e : ((es.map Tr.str).any fun t => eqT t (.str q.1)) with
      | true => rw [if_pos ((any_strs es q.1).mp e)] at hk; exact hk
      | false => rw [if_neg fun hx => by rw [(any_strs es q.1).mpr hx] at e; cases e] at hk; exact hk
    · have e : ((sums as s row).filterMap fun q => if q.1 ∈ es then some (Tr.int q.2) else none) = (((sums as s row).filter fun q => decide (q.1 ∈ es)).map Prod.snd).map Tr.int := by
        rw [fm_if (p := fun q : List Nat × Int => q.1 ∈ es) fun q => Tr.int q.2, List.map_map]
        rfl
      rw [e]
      have hfl : (((sums as s row).filter fun q => decide (q.1 ∈ es)).map Prod.snd).length ≤ 32768 := by
        rw [List.length_map]
        exact Nat.le_trans (List.length_filter_le _ _) hsl
      (conv => whnf)
      refine szK_of (by rw [List.length_map, List.length_map]; omega) ?_
      refine hk _ _ ⟨_, _, _, l ++ ((sums as s row).filter fun q => decide (q.1 ∈ es)).map Prod.snd, rfl, by rw [List.map_append], fun c => ?_, by rw [List.length_append, List.length_append]; simp only [List.length_singleton]; omega⟩
      rw [List.mem_append, ← hm]
      constructor
      · rintro ⟨s', hs', t, ht, hp⟩
        rcases List.mem_append.mp hs' with hs' | hs'
        · exact .inl ⟨s', hs', t, ht, hp⟩
        · cases List.mem_singleton.mp hs'
          exact .inr (List.mem_map.mpr ⟨(t, c), List.mem_filter.mpr ⟨(sums_path as _ row t c).mpr hp, by simp [ht]⟩, rfl⟩)
      · rintro (⟨s', hs', t, ht, hp⟩ | hc)
        · exact ⟨s', List.mem_append_left _ hs', t, ht, hp⟩
        · obtain ⟨⟨t, c'⟩, hq, rfl⟩ := List.mem_map.mp hc
          have hq := List.mem_filter.mp hq
          exact ⟨s, by simp, t, by simpa using hq.2, (sums_path as s row t _).mp hq.1⟩
  · rintro ρ μ ⟨o5, o6, o7, l, rfl, rfl, hm, hln⟩
    obtain ⟨m0, m1⟩ := lmin_is hm
    have hD : isD 60 (.lst (l.map Tr.int)) = true := isDs_map (n := 59) fun _ _ => rfl
    (conv => whnf)
    refine noP_of rfl ?_
    (conv => whnf)
    refine ⟨by rw [hD]; rfl, ?_⟩
    cases l with
    | nil => exact h none (m0 rfl)
    | cons a l => exact ⟨a :: l, rfl, by simp, h _ (m1 (by simp))⟩
end G

namespace G
open Ir
/-! Cr: drawn machines are right; the law k05. -/
theorem chp_idem (as : List Ar) : chp (chp as) = chp as := by
  refine (chp_uniq (by rw [chp_keys]; exact srtU_asc ord3) (fun x hx => ⟨hx, fun y hy e => ?_⟩) (fun y hy => ⟨y, hy, rfl⟩)).symm
  exact (chp_mem.mp hx).2 y (chp_mem.mp hy).1 e
theorem uniq_idem (l : List (List Nat)) : uniq (uniq l) = uniq l := (asc_srtU ordN (srtU_asc ordN) fun x => Iff.rfl).symm
theorem uniq_congr {l m : List (List Nat)} (h : ∀ x, x ∈ l ↔ x ∈ m) : uniq l = uniq m := asc_uniq ordN (srtU_asc ordN) (srtU_asc ordN) fun x => by rw [srtU_mem, srtU_mem, h]
theorem letB_abcd : ∀ l ∈ ABCD, letB l = true := by decide
theorem Drawn.okAr {a b c as ss es} (h : Drawn a b c as ss es) : ∀ x ∈ as, okAr x = true := fun x hx => by
  obtain ⟨ns, _, hn, hA, _, _⟩ := h.ex
  obtain ⟨q1, q2, q3, q4, q5⟩ := hA.m x hx
  unfold G.okAr
  rw [hn _ q1, letB_abcd _ (List.mem_of_mem_take q2), hn _ q3, decide_eq_true q4, decide_eq_true (show x.p ≤ 99 by omega)]
  rfl
theorem Drawn.ssN {a b c as ss es} (h : Drawn a b c as ss es) : ∀ x ∈ ss, nameB x = true := fun x hx => by
  obtain ⟨ns, _, hn, hA, hs, _⟩ := h.ex
  exact hn _ (hs x hx)
theorem Drawn.esN {a b c as ss es} (h : Drawn a b c as ss es) : ∀ x ∈ es, nameB x = true := fun x hx => by
  obtain ⟨ns, _, hn, hA, _, hs⟩ := h.ex
  exact hn _ (hs x hx)
theorem st_sub {as : List Ar} {ss es ns : List (List Nat)} (h1 : ∀ x ∈ ss, x ∈ ns) (h2 : ∀ x ∈ es, x ∈ ns) (h3 : ∀ x ∈ as, x.s ∈ ns ∧ x.a ∈ ns) : ∀ x ∈ uniq (ss ++ es ++ ends2 as), x ∈ ns := fun x hx => by
  have hx := srtU_mem.mp hx
  rcases List.mem_append.mp hx with hx | hx
  · rcases List.mem_append.mp hx with hx | hx
    · exact h1 x hx
    · exact h2 x hx
  · obtain ⟨y, hy, hx⟩ := List.mem_flatMap.mp hx
    obtain ⟨q1, q2⟩ := h3 y hy
    rcases List.mem_cons.mp hx with rfl | hx
    · exact q1
    · cases List.mem_singleton.mp hx; exact q2
theorem okM_of {as : List Ar} {ss es ns : List (List Nat)} (hl : ns.length ≤ 40) (la : as.length ≤ 400) (ls : ss.length ≤ 1000) (le : es.length ≤ 1000) (hn : ∀ x ∈ ns, nameB x = true) (ha : ∀ x ∈ as, okAr x = true) (h1 : ∀ x ∈ ss, x ∈ ns) (h2 : ∀ x ∈ es, x ∈ ns) (h3 : ∀ x ∈ as, x.s ∈ ns ∧ x.a ∈ ns) : OkM as ss es := by
  refine ⟨la, ls, le, ha, fun s hs => hn _ (h1 s hs), fun s hs => hn _ (h2 s hs), ?_⟩
  refine Nat.le_trans (nodup_le (uniq_nd _) (st_sub (fun x hx => h1 x (srtU_mem.mp hx)) (fun x hx => h2 x (srtU_mem.mp hx)) fun x hx => h3 x (chp_mem.mp hx).1)) hl
theorem Drawn.okM {a b c as ss es} (h : Drawn a b c as ss es) (ha : a ≤ 16) (hc : c ≤ 400) {as' : List Ar} {ss' es' : List (List Nat)} (h0 : as'.length ≤ 400) (h1 : ss'.length ≤ 1000) (h2 : es'.length ≤ 1000) (k0 : ∀ x ∈ as', x ∈ as) (k1 : ∀ x ∈ ss', x ∈ ss) (k2 : ∀ x ∈ es', x ∈ es) : OkM as' ss' es' := by
  obtain ⟨ns, hl, hn, hA, hs, he⟩ := h.ex
  exact okM_of (ns := ns) (by omega) h0 h1 h2 hn (fun x hx => h.okAr x (k0 x hx)) (fun x hx => hs x (k1 x hx)) (fun x hx => he x (k2 x hx)) fun x hx => ⟨(hA.m x (k0 x hx)).1, (hA.m x (k0 x hx)).2.2.1⟩
theorem Drawn.let2 {a b c as ss es} (h : Drawn a b c as ss es) : ∀ x ∈ as, x.l ∈ ABCD.take b := fun x hx => by
  obtain ⟨ns, hl, hn, hA, hs, he⟩ := h.ex
  exact (hA.m x hx).2.1
theorem eqO_same (o : Option Int) : eqT (oT o) (oT o) = true := by
  cases o with
  | none => rfl
  | some c => show decide (c = c) = true; simp
theorem isD_oT (n : Nat) (o : Option Int) : isD n (oT o) = true := by cases o <;> cases n <;> rfl
theorem ne_same {o : Option Int} {k : Tr → Prop} (h : k (.bl false)) : cmpK .ne (oT o) (oT o) k := by
  cases o with
  | none => exact ⟨rfl, h⟩
  | some c =>
    show k (.bl (!decide (c = c)))
    rw [decide_eq_true rfl]
    exact h
theorem rowB_of {l : List Nat} (h1 : l.length ≤ 5000) (h2 : ∀ c ∈ l, c ∈ LET) : rowB l = true := by
  unfold rowB
  rw [decide_eq_true (by omega : (l.length : Int) ≤ 5000), Bool.true_and, List.all_eq_true]
  exact fun c hc => decide_eq_true (h2 c hc)
theorem okS_row {l : List Nat} (h2 : ∀ c ∈ l, c ∈ LET) : okS l = true := List.all_eq_true.mpr fun c hc => LET_lt c (h2 c hc)
theorem levels_mem {sg : List (List Nat)} (h : ∀ l ∈ sg, ∀ c ∈ l, c ∈ LET) : ∀ n r, r ∈ levels sg n → ∀ c ∈ r, c ∈ LET
  | 0, r, hr, c, hc => by
    have : r = [] := by simpa [levels] using hr
    subst this
    cases hc
  | n + 1, r, hr, c, hc => by
    obtain ⟨q, hq, hl⟩ := List.mem_flatMap.mp hr
    obtain ⟨l, hl2, rfl⟩ := List.mem_map.mp hl
    rcases List.mem_append.mp hc with hc | hc
    · exact levels_mem h n q hq c hc
    · exact h l hl2 c hc
theorem rowsUp_mem {sg : List (List Nat)} (h1 : ∀ l ∈ sg, l.length = 1) (h : ∀ l ∈ sg, ∀ c ∈ l, c ∈ LET) {n : Nat} {r : List Nat} (hr : r ∈ rowsUp sg n) : r.length ≤ n ∧ ∀ c ∈ r, c ∈ LET := by
  obtain ⟨k, hk, hr⟩ := List.mem_flatMap.mp hr
  rw [List.mem_range] at hk
  exact ⟨by rw [levels_row h1 k r hr]; omega, levels_mem h k r hr⟩
/-- two prices that are one -/
theorem ne_oT {o : Option Int} {μ : Mem} {k : Tr → Prop} (h : k (.bl false)) : tv μ (oT o) fun x => tv μ (oT o) fun y => cmpK .ne x y k := by
  cases o with
  | none => exact ⟨rfl, h⟩
  | some c =>
    show k (.bl (!decide (c = c)))
    rw [decide_eq_true rfl]
    exact h
/-- a call without cells, no error looked at -/
theorem callQ {c : Con} {xs : List Tr} {μ : Mem} {φ ε : EK} (hx : xs.all nP = true) (h : ∀ φ' ε' : EK, (∀ t, nP t = true → φ t μ → φ' t []) → c xs [] φ' ε') : callK c xs μ φ ε := callP hx fun φ' ε' k _ => h φ' ε' k
end G

namespace G
open Ir
/-! Ct: paths by their first step; prices by the law's own way backwards. -/
theorem Path.cons {as : List Ar} {x : Ar} {k : Nat} {s row t : List Nat} {c : Int} (hx : x ∈ as) (hs : x.s = s) (hl : x.l = [k]) (h : Path as x.a row t c) : Path as s (k :: row) t (x.p + c) := by
  induction h with
  | nil =>
    have := Path.snoc (Path.nil (as := as) s) hx hs hl
    rw [show x.p + 0 = 0 + x.p by omega]
    exact this
  | snoc hp hy e1 e2 ih =>
    have := Path.snoc ih hy e1 e2
    rw [← Int.add_assoc]
    exact this
theorem Path.cons_inv {as : List Ar} {s r t : List Nat} {c : Int} (h : Path as s r t c) : ∀ k row, r = k :: row → ∃ (x : Ar) (c' : Int), x ∈ as ∧ x.s = s ∧ x.l = [k] ∧ Path as x.a row t c' ∧ c = x.p + c' := by
  induction h with
  | nil => intro k row e; cases e
  | snoc hp hy e1 e2 ih =>
    rename_i row' t' c' y k'
    intro k row e
    cases row' with
    | nil =>
      have e : k' = k ∧ [] = row := by simpa using e
      obtain ⟨rfl, rfl⟩ := e
      obtain ⟨e3, rfl⟩ := hp.nil_inv rfl
      exact ⟨y, 0, hy, by rw [e1, e3], e2, .nil _, by omega⟩
    | cons j r2 =>
      have e : j = k ∧ r2 ++ [k'] = row := by simpa using e
      obtain ⟨rfl, rfl⟩ := e
      obtain ⟨x, c0, hx, h1, h2, h3, rfl⟩ := ih j r2 rfl
      exact ⟨x, c0 + y.p, hx, h1, h2, .snoc h3 hy e1 e2, by omega⟩
/-- the least price of the rest of a row from each state to an end -/
structure Ahd (as : List Ar) (es : List (List Nat)) (row : List Nat) (D : List (List Nat × Int)) : Prop where
  nd : (D.map Prod.fst).Nodup
  mn : ∀ s, IsMin (fun c => ∃ e ∈ es, Path as s row e c) (valD D s)
theorem fold0_val (ns : List (List Nat)) (t : List Nat) : valD (ns.foldl (fun D x => putD D x (0 : Int)) []) t = if t ∈ ns then some 0 else none := by
  rw [foldv]
  rfl
theorem Ahd.start (as : List Ar) (es : List (List Nat)) : Ahd as es [] (es.foldl (fun D x => putD D x 0) []) := by
  refine ⟨(putAll_names 0 es [] List.nodup_nil).1, fun t => ?_⟩
  rw [fold0_val]
  by_cases h : t ∈ es
  · rw [if_pos h]
    refine ⟨⟨t, h, .nil t⟩, fun d ⟨s, _, hp⟩ => ?_⟩
    rw [(hp.nil_inv rfl).2]
    omega
  · rw [if_neg h]
    rintro c ⟨s, hs, hp⟩
    exact h ((hp.nil_inv rfl).1 ▸ hs)
/-- what a step backwards finds -/
def cands (as : List Ar) (k : Nat) (D : List (List Nat × Int)) : List (List Nat × Int) := as.flatMap fun x => if x.l = [k] then (match valD D x.a with | some d => [(x.s, x.p + d)] | none => []) else []
theorem cands_mem {as : List Ar} {k : Nat} {D : List (List Nat × Int)} {s : List Nat} {c : Int} : (s, c) ∈ cands as k D ↔ ∃ x ∈ as, x.s = s ∧ x.l = [k] ∧ ∃ d, valD D x.a = some d ∧ c = x.p + d := by
  unfold cands
  rw [List.mem_flatMap]
  constructor
  · rintro ⟨x, hx, h⟩
    by_cases hl : x.l = [k]
    · rw [if_pos hl] at h
      cases e : valD D x.a with
      | none => rw [e] at h; cases h
      | some d =>
        rw [e] at h
        cases List.mem_singleton.mp h
        exact ⟨x, hx, rfl, hl, d, e, rfl⟩
    · rw [if_neg hl] at h; cases h
  · rintro ⟨x, hx, rfl, hl, d, e, rfl⟩
    refine ⟨x, hx, ?_⟩
    rw [if_pos hl, e]
    exact List.mem_singleton.mpr rfl
theorem Ahd.step {as es row D k D'} (h : Ahd as es row D) (f : Fnd D' (cands as k D)) : Ahd as es (k :: row) D' := by
  refine ⟨f.nd, fun s => (f.mn s).to (fun c hc => ?_) (fun c hc => ?_)⟩
  · obtain ⟨x, hx, hs, hl, d, e, rfl⟩ := cands_mem.mp hc
    have hm := h.mn x.a
    rw [e] at hm
    obtain ⟨⟨t, ht, hp⟩, _⟩ := hm
    exact ⟨t, ht, .cons hx hs hl hp⟩
  · obtain ⟨t, ht, hp⟩ := hc
    obtain ⟨x, c', hx, hs, hl, hp', rfl⟩ := hp.cons_inv k row rfl
    have hm := h.mn x.a
    cases e : valD D x.a with
    | none => rw [e] at hm; exact absurd ⟨t, ht, hp'⟩ (hm c')
    | some d =>
      rw [e] at hm
      have := hm.2 c' ⟨t, ht, hp'⟩
      exact ⟨x.p + d, by omega, cands_mem.mpr ⟨x, hx, hs, hl, d, e, rfl⟩⟩
theorem Fnd.putMin {F C} (h : Fnd F C) (a : List Nat) (c : Int) : Fnd (putD F a (min c ((valD F a).getD c))) (C ++ [(a, c)]) := by
  cases e : valD F a with
  | none =>
    have : min c ((none : Option Int).getD c) = c := by show min c c = c; omega
    rw [this]
    exact h.put fun d hd => by rw [e] at hd; cases hd
  | some d =>
    by_cases hcd : c < d
    · have : min c ((some d).getD c) = c := by show min c d = c; omega
      rw [this]
      exact h.put fun d' hd => by rw [e] at hd; cases hd; exact hcd
    · have : min c ((some d).getD c) = d := by show min c d = d; omega
      rw [this]
      have h2 := h.skip e (show d ≤ c by omega)
      refine ⟨putD_nodup _ _ h.nd, fun t => ?_⟩
      rw [valD_put]
      by_cases ht : t = a
      · subst ht
        rw [if_pos rfl, ← e]
        exact h2.mn t
      · rw [if_neg ht]
        exact h2.mn t
theorem Fnd.len {F C} (h : Fnd F C) {as : List Ar} (hC : ∀ x c, (x, c) ∈ C → x ∈ as.map Ar.s) : F.length ≤ as.length := by
  have h1 := nodup_le h.nd (m := as.map Ar.s) fun x hx => by
    obtain ⟨c, hc⟩ := h.keys hx
    exact hC x c hc
  rw [List.length_map, List.length_map] at h1
  exact h1
theorem cands_keys {as : List Ar} {k : Nat} {D : List (List Nat × Int)} : ∀ x c, (x, c) ∈ cands as k D → x ∈ as.map Ar.s := fun x c h => by
  obtain ⟨y, hy, rfl, _⟩ := cands_mem.mp h
  exact List.mem_map.mpr ⟨y, hy, rfl⟩
theorem cands_app (as bs : List Ar) (k : Nat) (D : List (List Nat × Int)) : cands (as ++ bs) k D = cands as k D ++ cands bs k D := by unfold cands; rw [List.flatMap_append]
theorem fold_pairs (ns : List (List Nat)) : ∀ D : List (List Nat × Int), ((ns.map fun x => (Tr.str x, Tr.int 0)).foldl (fun d p => putT d p.1 p.2) (dE Tr.str Tr.int D)) = dE Tr.str Tr.int (ns.foldl (fun D x => putD D x 0) D) := by
  induction ns with
  | nil => intro D; rfl
  | cons n ns ih =>
    intro D
    rw [List.map_cons, List.foldl_cons, List.foldl_cons, put_dE (g := Tr.int) eqS]
    exact ih _
def c_law_ahead : Con := fun ts μ φ ε => ∃ (b0 b1 : Bool) (as : List Ar) (es : List (List Nat)) (row : List Nat), ts = [sqT b0 (as.map tA), sqT b1 (es.map .str), .str row] ∧ μ = [] ∧ as.length ≤ 1000 ∧ es.length ≤ 1000 ∧ row.length ≤ 1000000 ∧ ∀ D, Ahd as es row D → φ (dP D) []
def ir_law_ahead : Sm := (.seq (.asg (.nm 3) (.dictP (.comp (.nm 6) [6] (.itS (.nm 1)) .yes (.tup (.cons (.nm 6) (.cons (.c (.int 0)) .nil)))))) (.seq (.for (.nm 4) (.itS (.revS (.nm 2))) (.seq (.asg (.nm 5) (.ow (.emp false))) (.seq (.for (.cons (.nm 6) (.cons (.nm 7) (.cons (.nm 8) (.cons (.nm 9) .nil)))) (.itS (.nm 0)) (.ite (.and (.cmp .eq (.nm 7) (.nm 4)) (.cmp .isin (.nm 8) (.nm 3))) (.seq (.asg (.nm 10) (.op .add (.ix (.nm 3) (.nm 8)) (.nm 9))) (.seti 5 (.nm 6) (.blt .min2 (.cons (.nm 10) (.cons (.get2 (.nm 5) (.nm 6) (.nm 10)) .nil))))) .skip)) (.asg (.nm 3) (.mv 5))))) (.ret (.nm 3))))
theorem wp_law_ahead : ∀ ts μ φ ε, c_law_ahead ts μ φ ε → ts.length = 3 ∧ wpB ir_law_ahead 8 ts μ φ ε := by
  rintro ts μ φ ε ⟨b0, b1, as, es, row, rfl, rfl, la, le, lr, h⟩
  refine ⟨rfl, ?_⟩
  cases b0 <;> cases b1
  all_goals
    (conv => whnf)
    refine szK_of (by rw [List.length_map]; omega) ?_
    refine compK_map (enc := Tr.str) (g := fun x => Tr.tup [.str x, .int 0]) (fun x _ k hk => ?_) ?_
    · (conv => whnf)
      exact noP_of rfl hk
    · (conv => whnf)
      refine ⟨es.map fun x => (Tr.str x, Tr.int 0), by rw [List.map_map]; rfl, fun p hp => ?_, ?_⟩
      · obtain ⟨x, _, rfl⟩ := List.mem_map.mp hp
        rfl
      · have e0 : ((es.map fun x => (Tr.str x, Tr.int 0)).foldl (fun d p => putT d p.1 p.2) []) = dE Tr.str Tr.int (es.foldl (fun D x => putD D x 0) []) := fold_pairs es []
        rw [e0]
        (conv => whnf)
        refine szK_of lr ?_
        (conv => whnf)
        refine forK_at (enc := fun c : Nat => Tr.str [c]) (all := row.reverse) (fun pre ρ μ => ∃ o4 o5 o6 o7 o8 o9 o10 D, ρ = [some (sqT _ (as.map tA)), some (sqT _ (es.map .str)), some (.str row), some (dP D), o4, o5, o6, o7, o8, o9, o10] ∧ (∃ g, μ = List.replicate g .gone) ∧ Ahd as es pre.reverse D) (pre := []) rfl ⟨none, none, none, none, none, none, none, _, rfl, ⟨0, rfl⟩, Ahd.start as es⟩ ?_ ?_
        · rintro pre k0 post ρ μ hall ⟨o4, o5, o6, o7, o8, o9, o10, D, rfl, ⟨g, rfl⟩, hA⟩ k hk
          (conv => whnf)
          refine snoc_of ?_
          (conv => whnf)
          refine forK_at (enc := tA) (all := as) (fun pr ρ μ => ∃ o6 o7 o8 o9 o10 F, ρ = [some (sqT _ (as.map tA)), some (sqT _ (es.map .str)), some (.str row), some (dP D), some (.str [k0]), some (.ptr (0 + (List.replicate g Cel.gone).length)), o6, o7, o8, o9, o10] ∧ μ = List.replicate g .gone ++ [.dic false (dE Tr.str Tr.int F)] ∧ Fnd F (cands pr k0 D)) (pre := []) rfl ⟨_, _, _, _, _, [], rfl, rfl, Fnd.nil⟩ ?_ ?_
          · rintro pr x post2 ρ μ hall2 ⟨o6, o7, o8, o9, o10, F, rfl, rfl, hF⟩ k2 hk2
            have hlF : F.length ≤ pr.length := hF.len cands_keys
            have hlp := app_len hall2
            (conv => whnf)
            cases e1 : decide (x.l = [k0]) with
            | false =>
              (conv => whnf)
              refine hk2 _ _ ⟨_, _, _, _, _, F, rfl, rfl, ?_⟩
              have : cands [x] k0 D = [] := by
                unfold cands
                simp [of_decide_eq_false e1]
              rw [cands_app, this, List.append_nil]
              exact hF
            | true =>
              have hl := of_decide_eq_true e1
              have eg := get_dE (g := Tr.int) eqS D x.a
              (conv => whnf)
              refine ⟨rfl, ?_⟩
              rw [eg]
              cases e : valD D x.a with
              | none =>
                (conv => whnf)
                refine hk2 _ _ ⟨_, _, _, _, _, F, rfl, rfl, ?_⟩
                have : cands [x] k0 D = [] := by
                  unfold cands
                  simp [e]
                rw [cands_app, this, List.append_nil]
                exact hF
              | some d =>
                rw [e] at eg
                (conv => whnf)
                refine ⟨rfl, .int d, eg, ?_⟩
                (conv => whnf)
                refine cel_of (by simp) ?_
                (conv => whnf)
                refine cel_of (by simp) ?_
                have ef := get_dE (g := Tr.int) eqS F x.s
                refine ⟨rfl, ?_⟩
                have e4 : (getT (dE Tr.str Tr.int F) (.str x.s)).getD (.int (d + x.p)) = .int ((valD F x.s).getD (d + x.p)) := by
                  rw [ef]
                  cases valD F x.s <;> rfl
                rw [e4]
                (conv => whnf)
                refine cel_of (by simp) ?_
                refine ⟨rfl, szK_of (by unfold dE; rw [List.length_map]; omega) ?_⟩
                refine cput_of (by simp) ?_
                rw [put_dE (g := Tr.int) eqS]
                refine hk2 _ _ ⟨_, _, _, _, _, _, rfl, rfl, ?_⟩
                have : cands [x] k0 D = [(x.s, d + x.p)] := by
                  unfold cands
                  simp [hl, e, Int.add_comm]
                rw [cands_app, this]
                exact hF.putMin x.s (d + x.p)
          · rintro ρ μ ⟨o6, o7, o8, o9, o10, F, rfl, rfl, hF⟩
            (conv => whnf)
            refine cel_of (by simp) ?_
            (conv => whnf)
            refine cput_of (by simp) ?_
            (conv => whnf)
            refine hk _ _ ⟨_, _, _, _, _, _, _, F, rfl, ⟨g + 1, by rw [List.replicate_succ']⟩, ?_⟩
            rw [List.reverse_append]
            exact hA.step hF
        · rintro ρ μ ⟨o4, o5, o6, o7, o8, o9, o10, D, rfl, ⟨g, rfl⟩, hA⟩
          rw [List.reverse_reverse] at hA
          exact h D hA
end G

namespace G
open Ir
/-! Cu: the law's own price, rows with stretches that come again. -/
def c_law_price : Con := fun ts μ φ ε => ∃ (b0 b1 b2 : Bool) (as : List Ar) (ss es : List (List Nat)) (row : List Nat), ts = [.tup [sqT b0 (as.map tA), sqT b1 (ss.map .str), sqT b2 (es.map .str)], .str row] ∧ μ = [] ∧ as.length ≤ 1000 ∧ ss.length ≤ 1000 ∧ es.length ≤ 1000 ∧ row.length ≤ 1000000 ∧ ∀ o, IsMin (fun c => ∃ s ∈ ss, ∃ t ∈ es, Path as s row t c) o → φ (oT o) []
def ir_law_price : Sm := (.seq (.asg (.nm 2) (.call c_law_ahead (.cons (.ix (.nm 0) (.c (.int 0))) (.cons (.ix (.nm 0) (.c (.int 2))) (.cons (.nm 1) .nil))))) (.seq (.asg (.nm 3) (.comp (.nm 4) [4] (.itS (.ix (.nm 0) (.c (.int 1)))) (.cmp .isin (.nm 4) (.nm 2)) (.ix (.nm 2) (.nm 4)))) (.ret (.ife (.cmp .ne (.nm 3) (.lst .nil)) (.blt .minL (.cons (.nm 3) .nil)) (.c .non)))))
theorem ahd_least {as : List Ar} {ss es : List (List Nat)} {row : List Nat} {D : List (List Nat × Int)} {o : Option Int} (hB : Ahd as es row D) (h : IsMin (fun c => ∃ s ∈ ss, valD D s = some c) o) : IsMin (fun c => ∃ s ∈ ss, ∃ t ∈ es, Path as s row t c) o := by
  refine h.to (fun c ⟨s, hs, e⟩ => ?_) (fun c ⟨s, hs, t, ht, hp⟩ => ?_)
  · have hm := hB.mn s
    rw [e] at hm
    obtain ⟨t, ht, hp⟩ := hm.1
    exact ⟨s, hs, t, ht, hp⟩
  · have hm := hB.mn s
    cases e : valD D s with
    | none => rw [e] at hm; exact absurd ⟨t, ht, hp⟩ (hm c)
    | some d => rw [e] at hm; exact ⟨d, hm.2 c ⟨t, ht, hp⟩, s, hs, e⟩
theorem wp_law_price : ∀ ts μ φ ε, c_law_price ts μ φ ε → ts.length = 2 ∧ wpB ir_law_price 3 ts μ φ ε := by
  rintro ts μ φ ε ⟨b0, b1, b2, as, ss, es, row, rfl, rfl, la, ls, le, lr, h⟩
  refine ⟨rfl, ?_⟩
  (conv => whnf)
  refine ⟨sqT b0 (as.map tA), rfl, ?_⟩
  (conv => whnf)
  refine ⟨sqT b2 (es.map .str), rfl, ?_⟩
  (conv => whnf)
  refine callQ (by rw [List.all_cons, List.all_cons, nP_sq, nP_sq]; rfl) fun φ1 ε1 k1 => ⟨b0, b2, as, es, row, rfl, rfl, la, le, lr, fun D hD => k1 _ rfl ?_⟩
  clear k1
  have hmem : ∀ c, (∃ s ∈ ss, valD D s = some c) ↔ c ∈ ss.filterMap fun s => valD D s := fun c => by rw [List.mem_filterMap]
  obtain ⟨m0, m1⟩ := lmin_is hmem
  (conv => whnf)
  refine ⟨sqT b1 (ss.map .str), rfl, ?_⟩
  cases b1
  all_goals
    (conv => whnf)
    refine szK_of (by rw [List.length_map]; omega) ?_
    refine compK_fmap (enc := Tr.str) (g := fun s => (valD D s).map Tr.int) (fun s _ k hk => ?_) ?_
    · have eg := get_dE (g := Tr.int) eqS D s
      (conv => whnf)
      refine ⟨rfl, ?_⟩
      rw [eg]
      cases e : valD D s with
      | none => rw [e] at hk; exact hk
      | some c =>
        rw [e] at hk eg
        (conv => whnf)
        exact ⟨rfl, .int c, eg, hk⟩
    · have e : (ss.filterMap fun s => (valD D s).map Tr.int) = (ss.filterMap fun s => valD D s).map Tr.int := by rw [List.map_filterMap]
      rw [e]
      generalize ss.filterMap (fun s => valD D s) = l at m0 m1
      have hDl : isD 60 (.lst (l.map Tr.int)) = true := isDs_map (n := 59) fun _ _ => rfl
      (conv => whnf)
      refine noP_of rfl ?_
      (conv => whnf)
      refine ⟨by rw [hDl]; rfl, ?_⟩
      cases l with
      | nil => exact h none (ahd_least hD (m0 rfl))
      | cons a l => exact ⟨a :: l, rfl, by simp, h _ (ahd_least hD (m1 (by simp)))⟩
/-! ### rows -/
def Signs (sg : List (List Nat)) (row : List Nat) : Prop := ∀ c ∈ row, [c] ∈ sg
theorem Signs.app {sg a b} (h : Signs sg a) (h' : Signs sg b) : Signs sg (a ++ b) := fun c hc => (List.mem_append.mp hc).elim (h c) (h' c)
theorem Signs.rep {sg a} (h : Signs sg a) (n : Nat) : Signs sg (repL n a) := fun c hc => by
  unfold repL at hc
  obtain ⟨l, hl, hc⟩ := List.mem_flatten.mp hc
  rw [(List.mem_replicate.mp hl).2] at hc
  exact h c hc
theorem repL_len (n : Nat) (a : List Nat) : (repL n a).length = n * a.length := by
  unfold repL
  rw [List.length_flatten, List.map_replicate, List.sum_replicate_nat]
def c_law_row : Con := fun ts μ φ ε => ∃ (n m : Nat) (sg : List (List Nat)), ts = [.ptr 0, .lst (sg.map .str), .int m] ∧ μ = [.src n] ∧ m ≤ 1000 ∧ n < 900000 ∧ 0 < sg.length ∧ sg.length < 1000 ∧ (∀ l ∈ sg, l.length = 1) ∧ ∀ row n', Signs sg row → row.length ≤ 3 * m → n' ≤ n + 2 * m + 1 → φ (.str row) [.src n']
def ir_law_row : Sm := (.seq (.asg (.nm 3) (.c (.str []))) (.seq (.for (.nm 4) (.rng (.c (.int 0)) (.call c_law_draw (.cons (.nm 0) (.cons (.op .add (.nm 2) (.c (.int 1))) .nil)))) (.asg (.nm 3) (.op .add (.nm 3) (.op .mul (.call c_law_pick (.cons (.nm 0) (.cons (.nm 1) .nil))) (.op .add (.c (.int 1)) (.call c_law_draw (.cons (.nm 0) (.cons (.c (.int 3)) .nil)))))))) (.ret (.nm 3))))
theorem one_sign {sg : List (List Nat)} (h : ∀ l ∈ sg, l.length = 1) {l : List Nat} (hl : l ∈ sg) : Signs sg l := fun c hc => by
  have h1 := h l hl
  match l, h1, hl, hc with
  | [a], _, hl, hc => cases List.mem_singleton.mp hc; exact hl
theorem wp_law_row : ∀ ts μ φ ε, c_law_row ts μ φ ε → ts.length = 3 ∧ wpB ir_law_row 2 ts μ φ ε := by
  rintro ts μ φ ε ⟨n, m, sg, rfl, rfl, hm, hn, s0, s1, s2, h⟩
  refine ⟨rfl, ?_⟩
  (conv => whnf)
  refine callS1 (n := n) rfl rfl fun φ1 ε1 k1 => ⟨n, (m : Int) + 1, rfl, rfl, by omega, by omega, by omega, fun d hd0 hd1 => k1 _ _ rfl ?_⟩
  clear k1
  (conv => whnf)
  refine ⟨by omega, ?_⟩
  refine forK_at (enc := fun i : Nat => Tr.int (0 + (i : Nat))) (all := List.range (d - 0).toNat) (fun pre ρ μ => ∃ row o4, ρ = [some (.ptr 0), some (.lst (sg.map .str)), some (.int m), some (.str row), o4] ∧ μ = [.src (n + 1 + 2 * pre.length)] ∧ Signs sg row ∧ row.length ≤ 3 * pre.length) (pre := []) rfl ⟨[], none, rfl, rfl, (fun _ h => nomatch h), Nat.zero_le _⟩ ?_ ?_
  · rintro pre i post ρ μ hall ⟨row, o4, rfl, rfl, hr, hl⟩ k hk
    have hlp := app_len hall
    rw [List.length_range] at hlp
    (conv => whnf)
    refine callS1 (n := n + 1 + 2 * pre.length) rfl rfl fun φ1 ε1 k1 => ⟨_, sg.map .str, rfl, rfl, by omega, by rw [List.length_map]; exact s0, by rw [List.length_map]; exact s1, nPs sg, fun t ht => ?_⟩
    obtain ⟨l, hl2, rfl⟩ := List.mem_map.mp ht
    refine k1 _ _ rfl ?_
    clear k1
    (conv => whnf)
    refine callS1 (n := n + 1 + 2 * pre.length + 1) rfl rfl fun φ1 ε1 k1 => ⟨_, 3, rfl, rfl, by omega, by decide, by decide, fun q hq0 hq1 => k1 _ _ rfl ?_⟩
    clear k1
    have h3 : (1 + q).toNat ≤ 3 := by omega
    have h4 : l.length = 1 := s2 l hl2
    have h5 : (1 + q).toNat * l.length ≤ 3 := by rw [h4]; omega
    (conv => whnf)
    refine ⟨by omega, szK_of (by omega) (szK_of (by omega) (szK_of (by omega) ?_))⟩
    (conv => whnf)
    refine szK_of (by rw [repL_len]; omega) ?_
    refine hk _ _ ⟨_, _, rfl, ?_, hr.app ((one_sign s2 hl2).rep _), by rw [List.length_append, repL_len, List.length_append]; simp only [List.length_singleton]; omega⟩
    rw [List.length_append]
    exact congrArg (fun z => [Cel.src z]) (by simp only [List.length_singleton]; omega)
  · rintro ρ μ ⟨row, o4, rfl, rfl, hr, hl⟩
    rw [List.length_range] at hl ⊢
    exact h row _ hr (by omega) (by omega)
def c_law_waves : Con := fun ts μ φ ε => ∃ (n m : Nat) (sg : List (List Nat)), ts = [.ptr 0, .lst (sg.map .str), .int m] ∧ μ = [.src n] ∧ 0 < m ∧ m ≤ 10 ∧ n < 800000 ∧ 0 < sg.length ∧ sg.length < 1000 ∧ (∀ l ∈ sg, l.length = 1) ∧ ∀ row n', Signs sg row → row.length ≤ 120 → n' ≤ n + 100 → φ (.str row) [.src n']
def ir_law_waves : Sm := (.seq (.asg (.nm 3) (.call c_law_row (.cons (.nm 0) (.cons (.nm 1) (.cons (.c (.int 2)) .nil))))) (.seq (.for (.nm 4) (.rng (.c (.int 0)) (.call c_law_draw (.cons (.nm 0) (.cons (.c (.int 3)) .nil)))) (.asg (.nm 3) (.op .mul (.op .add (.op .mul (.nm 3) (.op .add (.c (.int 1)) (.call c_law_draw (.cons (.nm 0) (.cons (.nm 2) .nil))))) (.call c_law_row (.cons (.nm 0) (.cons (.nm 1) (.cons (.c (.int 1)) .nil))))) (.op .add (.c (.int 1)) (.call c_law_draw (.cons (.nm 0) (.cons (.nm 2) .nil))))))) (.ret (.sl01 (.nm 3) (.c (.int 120))))))
theorem wp_law_waves : ∀ ts μ φ ε, c_law_waves ts μ φ ε → ts.length = 3 ∧ wpB ir_law_waves 2 ts μ φ ε := by
  rintro ts μ φ ε ⟨n, m, sg, rfl, rfl, m0, hm, hn, s0, s1, s2, h⟩
  refine ⟨rfl, ?_⟩
  (conv => whnf)
  refine callS1 (n := n) rfl rfl fun φ1 ε1 k1 => ⟨n, 2, sg, rfl, rfl, by decide, by omega, s0, s1, s2, fun r0 n0 hr0 hl0 hn0 => k1 _ _ rfl ?_⟩
  clear k1
  (conv => whnf)
  refine callS1 (n := n0) rfl rfl fun φ1 ε1 k1 => ⟨n0, 3, rfl, rfl, by omega, by decide, by decide, fun d hd0 hd1 => k1 _ _ rfl ?_⟩
  clear k1
  (conv => whnf)
  refine ⟨by omega, ?_⟩
  refine forK_at (enc := fun i : Nat => Tr.int (0 + (i : Nat))) (all := List.range (d - 0).toNat) (fun pre ρ μ => ∃ row o4 n1, ρ = [some (.ptr 0), some (.lst (sg.map .str)), some (.int m), some (.str row), o4] ∧ μ = [.src n1] ∧ Signs sg row ∧ (pre.length = 0 → row.length ≤ 6) ∧ (pre.length = 1 → row.length ≤ 630) ∧ row.length ≤ 63030 ∧ n1 ≤ n0 + 1 + 5 * pre.length) (pre := []) rfl ⟨r0, none, _, rfl, rfl, hr0, (fun _ => by omega), (fun h => absurd h (by decide)), by omega, Nat.le_refl _⟩ ?_ ?_
  · rintro pre i post ρ μ hall ⟨row, o4, n1, rfl, rfl, hr, l1, l2, l3, hn1⟩ k hk
    have hlp := app_len hall
    rw [List.length_range] at hlp
    have lr : row.length ≤ 630 := by
      by_cases hp : pre.length = 0
      · have := l1 hp; omega
      · have := l2 (by omega); omega
    (conv => whnf)
    refine callS1 (n := n1) rfl rfl fun φ1 ε1 k1 => ⟨n1, (m : Int), rfl, rfl, by omega, by omega, by omega, fun q hq0 hq1 => k1 _ _ rfl ?_⟩
    clear k1
    have h3 : (1 + q).toNat ≤ 10 := by omega
    have h5 : (1 + q).toNat * row.length ≤ 10 * row.length := Nat.mul_le_mul_right _ h3
    (conv => whnf)
    refine ⟨by omega, szK_of (by omega) (szK_of (by omega) (szK_of (by omega) ?_))⟩
    (conv => whnf)
    refine callS1 (n := n1 + 1) rfl rfl fun φ1 ε1 k1 => ⟨n1 + 1, 1, sg, rfl, rfl, by decide, by omega, s0, s1, s2, fun r2 n2 hr2 hl2 hn2 => k1 _ _ rfl ?_⟩
    clear k1
    (conv => whnf)
    refine szK_of (by rw [repL_len]; omega) ?_
    (conv => whnf)
    refine callS1 (n := n2) rfl rfl fun φ1 ε1 k1 => ⟨n2, (m : Int), rfl, rfl, by omega, by omega, by omega, fun q' hq0' hq1' => k1 _ _ rfl ?_⟩
    clear k1
    have h6 : (1 + q').toNat ≤ 10 := by omega
    have h7 : (repL (1 + q).toNat row ++ r2).length ≤ 10 * row.length + 3 := by rw [List.length_append, repL_len]; omega
    have h8 : (1 + q').toNat * (repL (1 + q).toNat row ++ r2).length ≤ 10 * (10 * row.length + 3) := Nat.mul_le_mul h6 h7
    (conv => whnf)
    refine ⟨by omega, szK_of (by omega) (szK_of (by omega) (szK_of (by omega) ?_))⟩
    (conv => whnf)
    refine hk _ _ ⟨_, _, _, rfl, rfl, ((hr.rep _).app hr2).rep _, fun h0 => ?_, fun h1 => ?_, by rw [repL_len]; omega, by rw [List.length_append]; simp only [List.length_singleton]; omega⟩
    · rw [List.length_append] at h0
      simp only [List.length_singleton] at h0
      omega
    · rw [List.length_append] at h1
      simp only [List.length_singleton] at h1
      have := l1 (by omega)
      rw [repL_len]
      omega
  · rintro ρ μ ⟨row, o4, n1, rfl, rfl, hr, l1, l2, l3, hn1⟩
    (conv => whnf)
    refine szK_of (by omega) ?_
    rw [List.length_range] at hn1
    refine h _ _ (fun c hc => hr c ?_) ?_ (by omega)
    · unfold part at hc
      exact List.mem_of_mem_drop (List.mem_of_mem_take hc)
    · unfold part
      rw [List.length_take]
      have : bnd row.length row.length (some 120) ≤ 120 := by
        show min 120 row.length ≤ 120
        exact Nat.min_le_left _ _
      omega
/-! ### the cheapest arrows are enough -/
theorem path_chp {as : List Ar} {s row t : List Nat} {c : Int} (h : Path (chp as) s row t c) : Path as s row t c := by
  induction h with
  | nil => exact .nil _
  | snoc hp hx e1 e2 ih => exact .snoc ih (chp_mem.mp hx).1 e1 e2
theorem chp_path {as : List Ar} {s row t : List Nat} {c : Int} (h : Path as s row t c) : ∃ d, d ≤ c ∧ Path (chp as) s row t d := by
  induction h with
  | nil => exact ⟨0, Int.le_refl _, .nil _⟩
  | snoc hp hx e1 e2 ih =>
    rename_i x k
    obtain ⟨d, hd, hq⟩ := ih
    obtain ⟨y, hy, hk, _, hz⟩ := least_ex as x hx
    have hm : y ∈ chp as := chp_mem.mpr ⟨hy, fun z hz2 ez => hz z hz2 (by rw [ez]; exact hk)⟩
    have hp := hz x hx rfl
    have q1 : y.s = x.s := congrArg Prod.fst hk
    have q2 : y.l = x.l := congrArg (fun z => z.2.1) hk
    have q3 : y.a = x.a := congrArg (fun z => z.2.2) hk
    refine ⟨d + y.p, by omega, ?_⟩
    rw [← q3]
    exact .snoc hq hm (by rw [q1, e1]) (by rw [q2, e2])
theorem min_chp {as : List Ar} {ss es : List (List Nat)} {row : List Nat} {o : Option Int} (h : IsMin (fun c => ∃ s ∈ uniq ss, ∃ t ∈ uniq es, Path (chp as) s row t c) o) : IsMin (fun c => ∃ s ∈ ss, ∃ t ∈ es, Path as s row t c) o := by
  refine h.to (fun c ⟨s, hs, t, ht, p⟩ => ⟨s, srtU_mem.mp hs, t, srtU_mem.mp ht, path_chp p⟩) (fun c ⟨s, hs, t, ht, p⟩ => ?_)
  obtain ⟨d, hd, q⟩ := chp_path p
  exact ⟨d, hd, s, srtU_mem.mpr hs, t, srtU_mem.mpr ht, q⟩
end G

namespace G
open Ir
/-! Cv: machines that are right, turned machines. -/
structure Good (m : Mc) : Prop where
  ok : OkM m.as m.ss m.es
  c : chp m.as = m.as
  s : uniq m.ss = m.ss
  e : uniq m.es = m.es
theorem ends2_mem {as : List Ar} {x : List Nat} : x ∈ ends2 as ↔ ∃ y ∈ as, x = y.s ∨ x = y.a := by
  unfold ends2
  rw [List.mem_flatMap]
  constructor
  · rintro ⟨y, hy, h⟩
    exact ⟨y, hy, by simpa using h⟩
  · rintro ⟨y, hy, h⟩
    exact ⟨y, hy, by simpa using h⟩
theorem chp_key {as : List Ar} {x : Ar} (hx : x ∈ as) : ∃ y ∈ chp as, k3 y = k3 x := by
  obtain ⟨y, hy, hk, _, hz⟩ := least_ex as x hx
  exact ⟨y, chp_mem.mpr ⟨hy, fun z hz2 ez => hz z hz2 (by rw [ez]; exact hk)⟩, hk⟩
theorem ends2_chp {as : List Ar} {x : List Nat} : x ∈ ends2 (chp as) ↔ x ∈ ends2 as := by
  rw [ends2_mem, ends2_mem]
  constructor
  · rintro ⟨y, hy, h⟩
    exact ⟨y, (chp_mem.mp hy).1, h⟩
  · rintro ⟨y, hy, h⟩
    obtain ⟨z, hz, hk⟩ := chp_key hy
    have q1 : z.s = y.s := congrArg Prod.fst hk
    have q3 : z.a = y.a := congrArg (fun z => z.2.2) hk
    exact ⟨z, hz, by rw [q1, q3]; exact h⟩
theorem st_mk (as : List Ar) (ss es : List (List Nat)) : (mkM as ss es).st = uniq (ss ++ es ++ ends2 as) := by
  unfold Mc.st mkM
  refine uniq_congr fun x => ?_
  rw [List.mem_append, List.mem_append, List.mem_append, List.mem_append, srtU_mem, srtU_mem, ends2_chp]
theorem good_mk {as : List Ar} {ss es : List (List Nat)} (h : OkM as ss es) : Good (mkM as ss es) := by
  have e : mkM (chp as) (uniq ss) (uniq es) = mkM as ss es := by unfold mkM; rw [chp_idem, uniq_idem, uniq_idem]
  refine ⟨⟨Nat.le_trans (chp_len as) h.la, Nat.le_trans (uniq_len ss) h.ls, Nat.le_trans (uniq_len es) h.le, fun x hx => h.oa x (chp_mem.mp hx).1, fun s hs => h.os s (srtU_mem.mp hs), fun s hs => h.oe s (srtU_mem.mp hs), ?_⟩, chp_idem as, uniq_idem ss, uniq_idem es⟩
  show (mkM (chp as) (uniq ss) (uniq es)).st.length ≤ 40
  rw [e]
  exact h.fw
def flip (x : Ar) : Ar := ⟨x.a, x.l, x.s, x.p⟩
def turnM (m : Mc) : Mc := mkM (m.as.map flip) m.es m.ss
theorem ends2_flip {as : List Ar} {x : List Nat} : x ∈ ends2 (as.map flip) ↔ x ∈ ends2 as := by
  rw [ends2_mem, ends2_mem]
  constructor
  · rintro ⟨y, hy, h⟩
    obtain ⟨z, hz, rfl⟩ := List.mem_map.mp hy
    exact ⟨z, hz, h.symm⟩
  · rintro ⟨y, hy, h⟩
    exact ⟨flip y, List.mem_map.mpr ⟨y, hy, rfl⟩, h.symm⟩
theorem Good.stE {m : Mc} (h : Good m) : m.st = uniq (m.ss ++ m.es ++ ends2 m.as) := rfl
theorem turn_st (m : Mc) : (turnM m).st = m.st := by
  unfold turnM
  rw [st_mk]
  show _ = uniq _
  refine uniq_congr fun x => ?_
  rw [List.mem_append, List.mem_append, List.mem_append, List.mem_append, ends2_flip]
  constructor
  · rintro ((h | h) | h)
    · exact .inl (.inr h)
    · exact .inl (.inl h)
    · exact .inr h
  · rintro ((h | h) | h)
    · exact .inl (.inr h)
    · exact .inl (.inl h)
    · exact .inr h
theorem okAr_flip {x : Ar} (h : okAr x = true) : okAr (flip x) = true := by
  unfold okAr at h ⊢
  simp only [Bool.and_eq_true] at h
  show (nameB x.a && letB x.l && nameB x.s && _) = true
  rw [h.1.1.1, h.1.1.2, h.1.2]
  show (decide (0 ≤ x.p) && decide (x.p ≤ 99)) = true
  rw [h.2.1, h.2.2]
  rfl
theorem Good.turn {m : Mc} (h : Good m) : OkM (m.as.map flip) m.es m.ss := by
  refine ⟨by rw [List.length_map]; exact h.ok.la, h.ok.le, h.ok.ls, fun x hx => ?_, h.ok.oe, h.ok.os, ?_⟩
  · obtain ⟨y, hy, rfl⟩ := List.mem_map.mp hx
    exact okAr_flip (h.ok.oa y hy)
  · show (turnM m).st.length ≤ 40
    rw [turn_st]
    have := h.ok.fw
    have e : mkM m.as m.ss m.es = m := by unfold mkM; rw [h.c, h.s, h.e]
    rwa [e] at this
theorem Good.turnM {m : Mc} (h : Good m) : Good (G.turnM m) := good_mk h.turn
theorem path_flip {as : List Ar} {s row t : List Nat} {c : Int} (h : Path as s row t c) : Path (as.map flip) t row.reverse s c := by
  induction h with
  | nil => exact .nil _
  | snoc hp hx e1 e2 ih =>
    rename_i row' t' c' x k
    rw [List.reverse_append]
    have := Path.cons (as := as.map flip) (x := flip x) (k := k) (s := x.a) (List.mem_map.mpr ⟨x, hx, rfl⟩) rfl e2 (by show Path _ x.s _ _ _; rw [e1]; exact ih)
    rw [Int.add_comm]
    exact this
theorem flip_flip (as : List Ar) : (as.map flip).map flip = as := by
  rw [List.map_map]
  exact List.map_id _
theorem path_flip_iff {as : List Ar} {s row t : List Nat} {c : Int} : Path (as.map flip) t row s c ↔ Path as s row.reverse t c := by
  constructor
  · intro h
    have := path_flip h
    rwa [flip_flip] at this
  · intro h
    have := path_flip h
    rwa [List.reverse_reverse] at this
theorem turn_min {m : Mc} {row : List Nat} {o : Option Int} (h : IsMin (fun c => ∃ s ∈ (turnM m).ss, ∃ t ∈ (turnM m).es, Path (turnM m).as s row t c) o) : IsMin (fun c => ∃ s ∈ m.ss, ∃ t ∈ m.es, Path m.as s row.reverse t c) o := by
  refine (min_chp h).congr fun c => ?_
  constructor
  · rintro ⟨s, hs, t, ht, p⟩
    exact ⟨t, ht, s, hs, path_flip_iff.mp p⟩
  · rintro ⟨s, hs, t, ht, p⟩
    exact ⟨t, ht, s, hs, path_flip_iff.mpr p⟩
/-- a machine is made -/
theorem init_of {b0 b1 b2 : Bool} {bs : List Ar} {ss es : List (List Nat)} {φ ε : EK} (h : OkM bs ss es) (k : φ .non [.objW 0 (fs4 (mkM bs ss es)) (ways (chp bs))]) : c_Machine_init [.ptr 0, sqT b0 (bs.map tA), sqT b1 (ss.map .str), sqT b2 (es.map .str)] [.obj 0 []] φ ε := by
  have exs : (bs.map fun x => (true, x)).map Prod.snd = bs := by rw [List.map_map]; exact List.map_id _
  refine ⟨b0, b1, b2, bs.map fun x => (true, x), ss, es, by rw [List.map_map]; rfl, rfl, by rw [exs]; exact h, ?_⟩
  rw [exs]
  exact k
def c_turned : Con := fun ts μ φ ε => ∃ m, ts = [mT m] ∧ μ = [] ∧ Good m ∧ φ (mT (turnM m)) []
def ir_turned : Sm := (.seq (.asg (.nm 1) (.comp (.cons (.nm 2) (.cons (.nm 3) (.cons (.nm 4) (.cons (.nm 5) .nil)))) [2, 3, 4, 5] (.itS (.prp 0 c_Machine_arrows (.nm 0))) .yes (.tup (.cons (.nm 4) (.cons (.nm 3) (.cons (.nm 2) (.cons (.nm 5) .nil))))))) (.ret (.new 0 c_Machine_init (.cons (.nm 1) (.cons (.prp 0 c_Machine_ends (.nm 0)) (.cons (.prp 0 c_Machine_starts (.nm 0)) .nil))))))
theorem wp_turned : ∀ ts μ φ ε, c_turned ts μ φ ε → ts.length = 1 ∧ wpB ir_turned 5 ts μ φ ε := by
  rintro ts μ φ ε ⟨m, rfl, rfl, hm, h⟩
  refine ⟨rfl, ?_⟩
  have la := hm.ok.la
  (conv => whnf)
  refine callQ rfl fun φ1 ε1 k1 => ⟨m, rfl, rfl, k1 _ rfl ?_⟩
  clear k1
  (conv => whnf)
  refine szK_of (by rw [List.length_map]; omega) ?_
  refine compK_map (enc := tA) (g := fun x => tA (flip x)) (fun x _ k hk => ?_) ?_
  · (conv => whnf)
    exact noP_of rfl hk
  · have e : (m.as.map fun x => tA (flip x)) = (m.as.map flip).map tA := by rw [List.map_map]; rfl
    rw [e]
    (conv => whnf)
    refine callQ rfl fun φ1 ε1 k1 => ⟨m, rfl, rfl, k1 _ rfl ?_⟩
    clear k1
    (conv => whnf)
    refine callQ rfl fun φ1 ε1 k1 => ⟨m, rfl, rfl, k1 _ rfl ?_⟩
    clear k1
    (conv => whnf)
    refine noP_of rfl ?_
    exact init_of (b0 := false) (b1 := true) (b2 := true) hm.turn h
theorem Good.mk_eq {m : Mc} (h : Good m) : mkM m.as m.ss m.es = m := by unfold mkM; rw [h.c, h.s, h.e]
end G

namespace G
open Ir
/-! Na: machines whose states get new names. -/
abbrev At := Int ⊕ List Nat
abbrev Kt := List At
def ktT (k : Kt) : Tr := .tup (k.map atmT)
structure GA where
  s : Kt
  l : List Nat
  a : Kt
  p : Int
def gT (x : GA) : Tr := .tup [ktT x.s, .str x.l, ktT x.a, .int x.p]
def gst (as : List GA) (ss es : List Kt) : List Kt := ss ++ es ++ as.flatMap fun x => [x.s, x.a]
def ren (nm : Kt → List Nat) (x : GA) : Ar := ⟨nm x.s, x.l, nm x.a, x.p⟩
theorem eqAt (a b : At) : eqT (atmT a) (atmT b) = decide (a = b) := by
  cases a with
  | inl i =>
    cases b with
    | inl j => show decide (i = j) = _; rw [Bool.eq_iff_iff]; simp
    | inr y => show false = _; simp
  | inr x =>
    cases b with
    | inl j => show false = _; simp
    | inr y => show decide (x = y) = _; rw [Bool.eq_iff_iff]; simp
theorem eqKt (a b : Kt) : eqT (ktT a) (ktT b) = decide (a = b) := eqTs_map eqAt a b
theorem keyKt (k : Kt) : isKey true (ktT k) = true := by
  show (k.map atmT).all isAt = true
  rw [List.all_map, List.all_eq_true]
  intro x _
  cases x <;> rfl
/-- the names by number -/
def nameN (n : Nat) : List Nat := [109, 97 + n / 26, 97 + n % 26]
theorem nameN_inj {i j : Nat} (h : nameN i = nameN j) : i = j := by
  unfold nameN at h
  injection h with _ h
  injection h with h1 h
  injection h with h2 _
  have := Nat.div_add_mod i 26
  have := Nat.div_add_mod j 26
  omega
theorem let_of {c : Nat} (h1 : 97 ≤ c) (h2 : c ≤ 122) : c ∈ LET := by
  obtain ⟨d, rfl⟩ : ∃ d, c = 97 + d := ⟨c - 97, by omega⟩
  have : ∀ d, d < 26 → 97 + d ∈ LET := by decide
  exact this d (by omega)
theorem nameN_ok {n : Nat} (h : n < 676) : nameB (nameN n) = true := by
  unfold nameB nameN
  simp only [Bool.and_eq_true, decide_eq_true_eq, List.all_eq_true]
  refine ⟨by show (1 : Int) ≤ 3; decide, by show (3 : Int) ≤ 8; decide, fun c hc => ?_⟩
  rcases List.mem_cons.mp hc with rfl | hc
  · decide
  · rcases List.mem_cons.mp hc with rfl | hc
    · exact let_of (by omega) (by omega)
    · cases List.mem_singleton.mp hc
      exact let_of (by omega) (by omega)
def c_name_of : Con := fun ts μ φ ε => ∃ n : Nat, ts = [.int n] ∧ μ = [] ∧ n < 676 ∧ φ (.str (nameN n)) []
def ir_name_of : Sm := (.ret (.op .add (.op .add (.c (.str [109])) (.ix (.c (.str [97, 98, 99, 100, 101, 102, 103, 104, 105, 106, 107, 108, 109, 110, 111, 112, 113, 114, 115, 116, 117, 118, 119, 120, 121, 122])) (.op .fdiv (.nm 0) (.c (.int 26))))) (.ix (.c (.str [97, 98, 99, 100, 101, 102, 103, 104, 105, 106, 107, 108, 109, 110, 111, 112, 113, 114, 115, 116, 117, 118, 119, 120, 121, 122])) (.op .mod (.nm 0) (.c (.int 26))))))
theorem signs_at {d : Nat} (h : d < 26) : atT [97, 98, 99, 100, 101, 102, 103, 104, 105, 106, 107, 108, 109, 110, 111, 112, 113, 114, 115, 116, 117, 118, 119, 120, 121, 122] (d : Int) = some (97 + d) := by
  have : ∀ d, d < 26 → [97, 98, 99, 100, 101, 102, 103, 104, 105, 106, 107, 108, 109, 110, 111, 112, 113, 114, 115, 116, 117, 118, 119, 120, 121, 122][d]? = some (97 + d) := by decide
  exact atT_nat (this d h)
theorem wp_name_of : ∀ ts μ φ ε, c_name_of ts μ φ ε → ts.length = 1 ∧ wpB ir_name_of 0 ts μ φ ε := by
  rintro ts μ φ ε ⟨n, rfl, rfl, hn, h⟩
  refine ⟨rfl, ?_⟩
  (conv => whnf)
  refine ⟨by decide, ?_⟩
  (conv => whnf)
  rw [show ((n : Int) / 26) = ((n / 26 : Nat) : Int) by omega]
  refine ⟨97 + n / 26, signs_at (by omega), ?_⟩
  (conv => whnf)
  refine ⟨by decide, ?_⟩
  (conv => whnf)
  rw [show ((n : Int) % 26) = ((n % 26 : Nat) : Int) by omega]
  refine ⟨97 + n % 26, signs_at (by omega), ?_⟩
  exact h
def c_named_anew : Con := fun ts μ φ ε => ∃ (as : List GA) (ss es N : List Kt) (pat : List Bool), ts = [.lst (as.map gT), .lst (ss.map ktT), .lst (es.map ktT)] ∧ μ = [] ∧ pat ≠ [] ∧ (∀ k ∈ gst as ss es, k.map Sum.isLeft = pat) ∧ as.length ≤ 400 ∧ ss.length ≤ 400 ∧ es.length ≤ 400 ∧ (∀ k ∈ gst as ss es, k ∈ N) ∧ N.length ≤ 40 ∧ (∀ x ∈ as, letB x.l = true ∧ 0 ≤ x.p ∧ x.p ≤ 99) ∧
  ∀ nm : Kt → List Nat, (∀ x ∈ gst as ss es, ∀ y ∈ gst as ss es, nm x = nm y → x = y) → (∀ x ∈ gst as ss es, nameB (nm x) = true) → φ (mT (mkM (as.map (ren nm)) (ss.map nm) (es.map nm))) []
theorem okM_ren {as : List GA} {ss es N : List Kt} {nm : Kt → List Nat} (la : as.length ≤ 400) (ls : ss.length ≤ 400) (le : es.length ≤ 400) (hN : ∀ k ∈ gst as ss es, k ∈ N) (lN : N.length ≤ 40) (hx : ∀ x ∈ as, letB x.l = true ∧ 0 ≤ x.p ∧ x.p ≤ 99) (hn : ∀ x ∈ gst as ss es, nameB (nm x) = true) : OkM (as.map (ren nm)) (ss.map nm) (es.map nm) := by
  have gs : ∀ k ∈ ss, k ∈ gst as ss es := fun k hk => List.mem_append_left _ (List.mem_append_left _ hk)
  have ge : ∀ k ∈ es, k ∈ gst as ss es := fun k hk => List.mem_append_left _ (List.mem_append_right _ hk)
  have g1 : ∀ x ∈ as, x.s ∈ gst as ss es := fun x hx => List.mem_append_right _ (List.mem_flatMap.mpr ⟨x, hx, by simp⟩)
  have g2 : ∀ x ∈ as, x.a ∈ gst as ss es := fun x hx => List.mem_append_right _ (List.mem_flatMap.mpr ⟨x, hx, by simp⟩)
  have hsub : ∀ t ∈ (mkM (as.map (ren nm)) (ss.map nm) (es.map nm)).st, t ∈ N.map nm := fun t ht => by
    rw [st_mk] at ht
    rcases List.mem_append.mp (srtU_mem.mp ht) with ht | ht
    · rcases List.mem_append.mp ht with ht | ht
      · obtain ⟨k, hk, rfl⟩ := List.mem_map.mp ht
        exact List.mem_map.mpr ⟨k, hN k (gs k hk), rfl⟩
      · obtain ⟨k, hk, rfl⟩ := List.mem_map.mp ht
        exact List.mem_map.mpr ⟨k, hN k (ge k hk), rfl⟩
    · obtain ⟨y, hy, e⟩ := ends2_mem.mp ht
      obtain ⟨x, hx, rfl⟩ := List.mem_map.mp hy
      rcases e with e | e
      · exact List.mem_map.mpr ⟨x.s, hN _ (g1 x hx), e.symm⟩
      · exact List.mem_map.mpr ⟨x.a, hN _ (g2 x hx), e.symm⟩
  refine ⟨by rw [List.length_map]; exact la, by rw [List.length_map]; omega, by rw [List.length_map]; omega, fun y hy => ?_, fun s hs => ?_, fun s hs => ?_, ?_⟩
  · obtain ⟨x, hx2, rfl⟩ := List.mem_map.mp hy
    obtain ⟨h1, h2, h3⟩ := hx x hx2
    show (nameB (nm x.s) && letB x.l && nameB (nm x.a) && (decide (0 ≤ x.p) && decide (x.p ≤ 99))) = true
    rw [hn _ (g1 x hx2), h1, hn _ (g2 x hx2), decide_eq_true h2, decide_eq_true h3]
    rfl
  · obtain ⟨k, hk, rfl⟩ := List.mem_map.mp hs
    exact hn k (gs k hk)
  · obtain ⟨k, hk, rfl⟩ := List.mem_map.mp hs
    exact hn k (ge k hk)
  · have := nodup_le (uniq_nd _) hsub
    rw [List.length_map] at this
    exact Nat.le_trans this lN
/-! ### a dict from distinct keys -/
theorem fold_nodup {κ α : Type} [DecidableEq κ] : ∀ (l : List (κ × α)), (l.map Prod.fst).Nodup → ∀ p ∈ l, valD (l.foldl (fun D q => putD D q.1 q.2) []) p.1 = some p.2 := by
  have ind : ∀ (l : List (κ × α)) (D : List (κ × α)), (l.map Prod.fst).Nodup → ∀ j, valD (l.foldl (fun D q => putD D q.1 q.2) D) j = (match l.find? (fun q => decide (q.1 = j)) with | some q => some q.2 | none => valD D j) := by
    intro l
    induction l with
    | nil => intro D _ j; rfl
    | cons a l ih =>
      intro D hn j
      rw [List.map_cons, List.nodup_cons] at hn
      rw [List.foldl_cons, ih _ hn.2 j, valD_put, List.find?_cons]
      by_cases e : a.1 = j
      · subst e
        have : l.find? (fun q => decide (q.1 = a.1)) = none := List.find?_eq_none.mpr fun q hq h => hn.1 (List.mem_map.mpr ⟨q, hq, of_decide_eq_true h⟩)
        rw [this, decide_eq_true rfl, if_pos rfl]
      · rw [decide_eq_false e, if_neg (fun z => e z.symm)]
  intro l hn p hp
  rw [ind l [] hn]
  cases e : l.find? (fun q => decide (q.1 = p.1)) with
  | none => exact absurd (decide_eq_true rfl) (List.find?_eq_none.mp e p hp)
  | some q =>
    have h1 := List.mem_of_find?_eq_some e
    have h2 : q.1 = p.1 := by simpa using List.find?_some e
    have : q = p := by
      have hn' : l.Pairwise fun a b => a.1 ≠ b.1 := List.pairwise_map.mp hn
      by_cases e3 : q = p
      · exact e3
      · exact absurd h2 (by
          have key : ∀ {l : List (κ × α)}, (l.Pairwise fun a b => a.1 ≠ b.1) → ∀ a ∈ l, ∀ b ∈ l, a ≠ b → a.1 ≠ b.1 := by
            intro l hl
            induction hl with
            | nil => intro a ha; cases ha
            | cons h1 _ ih =>
              intro a ha b hb hab
              rcases List.mem_cons.mp ha with ea | ha2
              · rcases List.mem_cons.mp hb with eb | hb2
                · exact absurd (ea.trans eb.symm) hab
                · rw [ea]; exact h1 b hb2
              · rcases List.mem_cons.mp hb with eb | hb2
                · rw [eb]; exact fun z => h1 a ha2 z.symm
                · exact ih a ha2 b hb2 hab
          exact key hn' q h1 p hp e3)
    rw [this]
def idxK2 : Nat → List Kt → List (Nat × Kt)
  | _, [] => []
  | n, c :: l => (n, c) :: idxK2 (n + 1) l
theorem enm_idxK (l : List Kt) : ∀ n : Nat, enmL (n : Int) (l.map ktT) = (idxK2 n l).map fun p => Tr.tup [.int (p.1 : Int), ktT p.2] := by
  induction l with
  | nil => intro n; rfl
  | cons c l ih =>
    intro n
    show Tr.tup [.int (n : Int), ktT c] :: enmL ((n : Int) + 1) (l.map ktT) = _
    rw [show (n : Int) + 1 = ((n + 1 : Nat) : Int) by omega, ih (n + 1)]
    rfl
theorem idxK2_mem {l : List Kt} : ∀ {n : Nat} {p : Nat × Kt}, p ∈ idxK2 n l → p.1 < n + l.length ∧ n ≤ p.1 ∧ p.2 ∈ l := by
  induction l with
  | nil => intro n p h; cases h
  | cons c l ih =>
    intro n p h
    rcases List.mem_cons.mp h with rfl | h
    · exact ⟨by simp, Nat.le_refl _, by simp⟩
    · obtain ⟨h1, h2, h3⟩ := ih h
      exact ⟨by rw [List.length_cons]; omega, by omega, List.mem_cons_of_mem _ h3⟩
theorem idxK2_snd (l : List Kt) : ∀ n, (idxK2 n l).map Prod.snd = l := by
  induction l with
  | nil => intro n; rfl
  | cons c l ih => intro n; show c :: (idxK2 (n + 1) l).map Prod.snd = _; rw [ih]
theorem idxK2_fst (l : List Kt) : ∀ n, ∀ p ∈ idxK2 n l, ∀ q ∈ idxK2 n l, p.1 = q.1 → p = q := by
  induction l with
  | nil => intro n p h; cases h
  | cons c l ih =>
    intro n p hp q hq e
    rcases List.mem_cons.mp hp with rfl | hp
    · rcases List.mem_cons.mp hq with rfl | hq
      · rfl
      · have := (idxK2_mem hq).2.1
        simp only at e
        omega
    · rcases List.mem_cons.mp hq with rfl | hq
      · have := (idxK2_mem hp).2.1
        simp only at e
        omega
      · exact ih (n + 1) p hp q hq e
def ir_named_anew : Sm := (.seq (.asg (.nm 3) (.ow (.emp true))) (.seq (.for (.nm 4) (.itS (.lst (.star (.nm 1) (.star (.nm 2) .nil)))) (.seti 3 (.nm 4) (.c (.bl true)))) (.seq (.for (.cons (.nm 4) (.cons (.nm 5) (.cons (.nm 6) (.cons (.nm 7) .nil)))) (.itS (.nm 0)) (.seq (.seti 3 (.nm 4) (.c (.bl true))) (.seti 3 (.nm 6) (.c (.bl true))))) (.seq (.asg (.nm 8) (.dcomp true (.cons (.nm 10) (.cons (.nm 4) .nil)) [10, 4] (.enm 0 (.sorted (.nm 3))) (.nm 4) (.call c_name_of (.cons (.nm 10) .nil)))) (.seq (.asg (.nm 9) (.comp (.cons (.nm 4) (.cons (.nm 5) (.cons (.nm 6) (.cons (.nm 7) .nil)))) [4, 5, 6, 7] (.itS (.nm 0)) .yes (.tup (.cons (.ix (.nm 8) (.nm 4)) (.cons (.nm 5) (.cons (.ix (.nm 8) (.nm 6)) (.cons (.nm 7) .nil))))))) (.ret (.new 0 c_Machine_init (.cons (.call c_cheapest (.cons (.nm 9) .nil)) (.cons (.comp (.nm 4) [4] (.itS (.nm 1)) .yes (.ix (.nm 8) (.nm 4))) (.cons (.comp (.nm 4) [4] (.itS (.nm 2)) .yes (.ix (.nm 8) (.nm 4))) .nil))))))))))
theorem wp_named_anew : ∀ ts μ φ ε, c_named_anew ts μ φ ε → ts.length = 3 ∧ wpB ir_named_anew 8 ts μ φ ε := by
  rintro ts μ φ ε ⟨as, ss, es, N, pat, rfl, rfl, hp0, hpat, la, ls, le, hN, lN, hx, h⟩
  refine ⟨rfl, ?_⟩
  have gs : ∀ k ∈ ss, k ∈ gst as ss es := fun k hk => List.mem_append_left _ (List.mem_append_left _ hk)
  have ge : ∀ k ∈ es, k ∈ gst as ss es := fun k hk => List.mem_append_left _ (List.mem_append_right _ hk)
  have g1 : ∀ x ∈ as, x.s ∈ gst as ss es := fun x hx => List.mem_append_right _ (List.mem_flatMap.mpr ⟨x, hx, by simp⟩)
  have g2 : ∀ x ∈ as, x.a ∈ gst as ss es := fun x hx => List.mem_append_right _ (List.mem_flatMap.mpr ⟨x, hx, by simp⟩)
  have lD : ∀ {D : List (Kt × Bool)} {l : List Kt}, (D.map Prod.fst).Nodup → (∀ x, x ∈ D.map Prod.fst ↔ x ∈ l) → (∀ x ∈ l, x ∈ gst as ss es) → D.length ≤ 40 := fun {D l} hn hm hl => by
    have := nodup_le hn (m := N) fun x hx => hN x (hl x ((hm x).mp hx))
    rw [List.length_map] at this
    omega
  (conv => whnf)
  refine szK_of (by simp; omega) ?_
  (conv => whnf)
  refine szK_of (by simp; omega) ?_
  (conv => whnf)
  refine szK_of (by simp; omega) ?_
  refine noP_of (by rw [List.append_nil, ← List.map_append, List.all_map, List.all_eq_true]; intro x _; rfl) ?_
  have e0 : ss.map ktT ++ (es.map ktT ++ []) = (ss ++ es).map ktT := by rw [List.append_nil, List.map_append]
  rw [e0]
  (conv => whnf)
  refine forK_at (enc := ktT) (all := ss ++ es) (fun pre ρ μ => ∃ o4 D, ρ = [some (.lst (as.map gT)), some (.lst (ss.map ktT)), some (.lst (es.map ktT)), some (.ptr 0), o4, none, none, none, none, none, none] ∧ μ = [.dic true (dE ktT Tr.bl D)] ∧ (D.map Prod.fst).Nodup ∧ ∀ x, x ∈ D.map Prod.fst ↔ x ∈ pre) (pre := []) rfl ⟨none, [], rfl, rfl, List.nodup_nil, fun x => Iff.rfl⟩ ?_ ?_
  · rintro pre k0 post ρ μ hall ⟨o4, D, rfl, rfl, hn, hm⟩ k hk
    have := lD hn hm fun x hx => List.mem_append_left _ (by rw [← hall]; exact List.mem_append_left _ hx)
    (conv => whnf)
    refine ⟨keyKt k0, szK_of (by unfold dE; rw [List.length_map]; omega) ?_⟩
    rw [put_dE (g := Tr.bl) eqKt]
    refine hk _ _ ⟨_, _, rfl, rfl, putD_nodup _ _ hn, fun x => ?_⟩
    rw [putD_mem, hm, List.mem_append, List.mem_singleton]
  rintro ρ μ ⟨o4, D, rfl, rfl, hn, hm⟩
  (conv => whnf)
  refine forK_at (enc := gT) (all := as) (fun pre ρ μ => ∃ o4 o5 o6 o7 D, ρ = [some (.lst (as.map gT)), some (.lst (ss.map ktT)), some (.lst (es.map ktT)), some (.ptr 0), o4, o5, o6, o7, none, none, none] ∧ μ = [.dic true (dE ktT Tr.bl D)] ∧ (D.map Prod.fst).Nodup ∧ ∀ x, x ∈ D.map Prod.fst ↔ x ∈ gst pre ss es) (pre := []) rfl ⟨_, none, none, none, D, rfl, rfl, hn, fun x => by rw [hm]; unfold gst; simp⟩ ?_ ?_
  · rintro pre x post ρ μ hall ⟨o4, o5, o6, o7, D, rfl, rfl, hn, hm⟩ k hk
    have hx2 : x ∈ as := app_mem hall
    have hsub : ∀ y ∈ gst pre ss es, y ∈ gst as ss es := fun y hy => by
      rcases List.mem_append.mp hy with hy | hy
      · exact List.mem_append_left _ hy
      · obtain ⟨z, hz, hy⟩ := List.mem_flatMap.mp hy
        exact List.mem_append_right _ (List.mem_flatMap.mpr ⟨z, by rw [← hall]; exact List.mem_append_left _ hz, hy⟩)
    have l1 := lD hn hm hsub
    have hn1 := putD_nodup x.s true hn
    have l2 := putD_len D x.s true
    (conv => whnf)
    refine ⟨keyKt x.s, szK_of (by unfold dE; rw [List.length_map]; omega) ?_⟩
    (conv => whnf)
    rw [put_dE (g := Tr.bl) eqKt]
    refine ⟨keyKt x.a, szK_of (by unfold dE; rw [List.length_map]; omega) ?_⟩
    rw [put_dE (g := Tr.bl) eqKt]
    refine hk _ _ ⟨_, _, _, _, _, rfl, rfl, putD_nodup _ _ hn1, fun y => ?_⟩
    rw [putD_mem, putD_mem, hm]
    unfold gst
    rw [List.flatMap_append]
    simp only [List.mem_append, List.flatMap_cons, List.flatMap_nil, List.append_nil, List.mem_cons, List.not_mem_nil, or_false]
    constructor
    · rintro ((h | h) | h)
      · exact h.elim .inl fun z => .inr (.inl z)
      · exact .inr (.inr (.inl h))
      · exact .inr (.inr (.inr h))
    · rintro (h | h | h | h)
      · exact .inl (.inl (.inl h))
      · exact .inl (.inl (.inr h))
      · exact .inl (.inr h)
      · exact .inr h
  rintro ρ μ ⟨o4, o5, o6, o7, D, rfl, rfl, hn, hm⟩
  have l40 := lD hn hm fun x hx => hx
  (conv => whnf)
  refine ⟨(fun z => nomatch z), .inr ⟨D.map Prod.fst, pat, by rw [fst_dE]; rfl, hp0, fun k hk => hpat k ((hm k).mp hk), fun rs hperm hsort => ?_⟩⟩
  have hrn : rs.Nodup := hperm.nodup_iff.mpr hn
  have hrm : ∀ x, x ∈ rs ↔ x ∈ gst as ss es := fun x => hperm.mem_iff.trans (hm x)
  have hrl : rs.length ≤ 40 := by have := hperm.length_eq; rw [List.length_map] at this; omega
  (conv => whnf)
  have ee : enmL 0 (rs.map ktT) = (idxK2 0 rs).map fun p => Tr.tup [.int (p.1 : Int), ktT p.2] := enm_idxK rs 0
  have el : (enmL 0 (rs.map fun k => Tr.tup (k.map atmT))) = (idxK2 0 rs).map fun p => Tr.tup [.int (p.1 : Int), ktT p.2] := ee
  rw [el]
  refine szK_of (by rw [List.length_map]; have := congrArg List.length (idxK2_snd rs 0); rw [List.length_map] at this; omega) ?_
  refine dcompK_map (enc := fun p : Nat × Kt => Tr.tup [.int (p.1 : Int), ktT p.2]) (g := fun p => ktT p.2) (h := fun p => .str (nameN p.1)) (fun p _ => keyKt p.2) (fun p hp k hk => ?_) ?_
  · have hb := (idxK2_mem hp).1
    (conv => whnf)
    refine callQ rfl fun φ1 ε1 k1 => ⟨p.1, rfl, rfl, by omega, k1 _ rfl hk⟩
  have ef : ∀ (l : List (Nat × Kt)) (D : List (Kt × List Nat)), l.foldl (fun kvs p => putT kvs (ktT p.2) (.str (nameN p.1))) (dE ktT Tr.str D) = dE ktT Tr.str ((l.map fun p => (p.2, nameN p.1)).foldl (fun D q => putD D q.1 q.2) D) := by
    intro l
    induction l with
    | nil => intro D; rfl
    | cons a l ih => intro D; rw [List.map_cons, List.foldl_cons, List.foldl_cons, put_dE (g := Tr.str) eqKt]; exact ih _
  have ef0 : (idxK2 0 rs).foldl (fun kvs p => putT kvs (ktT p.2) (.str (nameN p.1))) [] = dE ktT Tr.str (((idxK2 0 rs).map fun p => (p.2, nameN p.1)).foldl (fun D q => putD D q.1 q.2) []) := ef _ []
  rw [ef0]
  generalize hNM : ((idxK2 0 rs).map fun p => (p.2, nameN p.1)).foldl (fun D q => putD D q.1 q.2) [] = NM
  have hval : ∀ x ∈ gst as ss es, ∃ i, (i, x) ∈ idxK2 0 rs ∧ valD NM x = some (nameN i) := fun x hx => by
    have : x ∈ (idxK2 0 rs).map Prod.snd := by rw [idxK2_snd]; exact (hrm x).mpr hx
    obtain ⟨⟨i, y⟩, hp, rfl⟩ := List.mem_map.mp this
    refine ⟨i, hp, ?_⟩
    rw [← hNM]
    refine fold_nodup _ ?_ (y, nameN i) (List.mem_map.mpr ⟨(i, y), hp, rfl⟩)
    rw [List.map_map]
    have : (Prod.fst ∘ fun p : Nat × Kt => (p.2, nameN p.1)) = Prod.snd := rfl
    rw [this, idxK2_snd]
    exact hrn
  have hnm1 : ∀ x ∈ gst as ss es, ∀ y ∈ gst as ss es, (valD NM x).getD [] = (valD NM y).getD [] → x = y := fun x hx y hy e => by
    obtain ⟨i, hi, ei⟩ := hval x hx
    obtain ⟨j, hj, ej⟩ := hval y hy
    rw [ei, ej] at e
    have e2 : i = j := nameN_inj e
    have := idxK2_fst rs 0 _ hi _ hj e2
    exact congrArg Prod.snd this
  have hnm2 : ∀ x ∈ gst as ss es, nameB ((valD NM x).getD []) = true := fun x hx => by
    obtain ⟨i, hi, ei⟩ := hval x hx
    rw [ei]
    have := (idxK2_mem hi).1
    exact nameN_ok (by simp only at this; omega)
  have hget : ∀ x ∈ gst as ss es, getT (dE ktT Tr.str NM) (ktT x) = some (.str ((valD NM x).getD [])) := fun x hx => by
    rw [get_dE (g := Tr.str) eqKt]
    obtain ⟨i, hi, ei⟩ := hval x hx
    rw [ei]
    rfl
  have hfin := h (fun x => (valD NM x).getD []) hnm1 hnm2
  have okR := okM_ren la ls le hN lN hx hnm2
  generalize hnm : (fun x => (valD NM x).getD []) = nm at hfin okR
  have hget : ∀ x ∈ gst as ss es, getT (dE ktT Tr.str NM) (ktT x) = some (.str (nm x)) := fun x hx => by rw [← hnm]; exact hget x hx
  (conv => whnf)
  refine szK_of (by rw [List.length_map]; omega) ?_
  refine compK_map (enc := gT) (g := fun x => tA (ren nm x)) (fun x hx k hk => ?_) ?_
  · (conv => whnf)
    refine ⟨keyKt x.s, _, hget x.s (g1 x hx), ?_⟩
    (conv => whnf)
    refine ⟨keyKt x.a, _, hget x.a (g2 x hx), ?_⟩
    (conv => whnf)
    exact noP_of rfl hk
  have er : (as.map fun x => tA (ren nm x)) = (as.map (ren nm)).map tA := by rw [List.map_map]; rfl
  rw [er]
  (conv => whnf)
  have exs : ((as.map (ren nm)).map fun x => (true, x)).map Prod.snd = as.map (ren nm) := by rw [List.map_map]; exact List.map_id _
  have exs2 : ∀ bs : List Ar, bs.map tA = (bs.map fun x => (true, x)).map fun q => aT q.1 q.2 := fun bs => by rw [List.map_map]; rfl
  refine callQ rfl fun φ1 ε1 k1 => ⟨false, (as.map (ren nm)).map fun x => (true, x), by rw [exs2]; rfl, rfl, by rw [List.length_map, List.length_map]; omega, fun q hq => ?_, ?_⟩
  · obtain ⟨y, hy, rfl⟩ := List.mem_map.mp hq
    obtain ⟨x, hx2, rfl⟩ := List.mem_map.mp hy
    exact (hx x hx2).2.2
  rw [exs]
  refine k1 _ rfl ?_
  clear k1
  (conv => whnf)
  refine szK_of (by rw [List.length_map]; omega) ?_
  refine compK_map (enc := ktT) (g := fun x => .str (nm x)) (fun x hx k hk => ?_) ?_
  · (conv => whnf)
    exact ⟨keyKt x, _, hget x (gs x hx), hk⟩
  rw [strsT ss nm]
  (conv => whnf)
  refine szK_of (by rw [List.length_map]; omega) ?_
  refine compK_map (enc := ktT) (g := fun x => .str (nm x)) (fun x hx k hk => ?_) ?_
  · (conv => whnf)
    exact ⟨keyKt x, _, hget x (ge x hx), hk⟩
  rw [strsT es nm]
  (conv => whnf)
  refine noP_of rfl ?_
  have okC : OkM (chp (as.map (ren nm))) (ss.map nm) (es.map nm) := by
    refine ⟨Nat.le_trans (chp_len _) okR.la, okR.ls, okR.le, fun x hx => okR.oa x (chp_mem.mp hx).1, okR.os, okR.oe, ?_⟩
    have e : mkM (chp (as.map (ren nm))) (ss.map nm) (es.map nm) = mkM (as.map (ren nm)) (ss.map nm) (es.map nm) := by unfold mkM; rw [chp_idem]
    rw [e]
    exact okR.fw
  refine init_of (b0 := true) (b1 := false) (b2 := false) okC ?_
  have e : mkM (chp (as.map (ren nm))) (ss.map nm) (es.map nm) = mkM (as.map (ren nm)) (ss.map nm) (es.map nm) := by unfold mkM; rw [chp_idem]
  rw [e, chp_idem]
  exact hfin
end G

namespace G
open Ir
/-! Nb: marked states, either of two, == of machines. -/
inductive PathG (as : List GA) : Kt → List Nat → Kt → Int → Prop
  | nil (s : Kt) : PathG as s [] s 0
  | snoc {s row t c} {x : GA} {k : Nat} : PathG as s row t c → x ∈ as → x.s = t → x.l = [k] → PathG as s (row ++ [k]) x.a (c + x.p)
theorem path_ren {as : List GA} {nm : Kt → List Nat} {s t : Kt} {row : List Nat} {c : Int} (h : PathG as s row t c) : Path (as.map (ren nm)) (nm s) row (nm t) c := by
  induction h with
  | nil => exact .nil _
  | snoc hp hx e1 e2 ih =>
    rename_i x k
    exact Path.snoc (x := ren nm x) ih (List.mem_map.mpr ⟨x, hx, rfl⟩) (congrArg nm e1) e2
theorem ren_path {as : List GA} {nm : Kt → List Nat} {S : List Kt} (hi : ∀ x ∈ S, ∀ y ∈ S, nm x = nm y → x = y) (h1 : ∀ x ∈ as, x.s ∈ S ∧ x.a ∈ S) {s : Kt} (hs : s ∈ S) {row t' : List Nat} {c : Int} (h : Path (as.map (ren nm)) (nm s) row t' c) : ∃ t ∈ S, t' = nm t ∧ PathG as s row t c := by
  induction h with
  | nil => exact ⟨s, hs, rfl, .nil s⟩
  | snoc hp hx e1 e2 ih =>
    obtain ⟨t, ht, e, hg⟩ := ih
    obtain ⟨x, hx2, rfl⟩ := List.mem_map.mp hx
    have e3 : x.s = t := hi x.s (h1 x hx2).1 t ht (by rw [← e, ← e1]; rfl)
    exact ⟨x.a, (h1 x hx2).2, rfl, .snoc hg hx2 e3 e2⟩
theorem min_ren {as : List GA} {ss es : List Kt} {nm : Kt → List Nat} (hi : ∀ x ∈ gst as ss es, ∀ y ∈ gst as ss es, nm x = nm y → x = y) {row : List Nat} {o : Option Int} (h : IsMin (fun c => ∃ s ∈ (mkM (as.map (ren nm)) (ss.map nm) (es.map nm)).ss, ∃ t ∈ (mkM (as.map (ren nm)) (ss.map nm) (es.map nm)).es, Path (mkM (as.map (ren nm)) (ss.map nm) (es.map nm)).as s row t c) o) : IsMin (fun c => ∃ s ∈ ss, ∃ t ∈ es, PathG as s row t c) o := by
  have gs : ∀ k ∈ ss, k ∈ gst as ss es := fun k hk => List.mem_append_left _ (List.mem_append_left _ hk)
  have ge : ∀ k ∈ es, k ∈ gst as ss es := fun k hk => List.mem_append_left _ (List.mem_append_right _ hk)
  have g1 : ∀ x ∈ as, x.s ∈ gst as ss es ∧ x.a ∈ gst as ss es := fun x hx => ⟨List.mem_append_right _ (List.mem_flatMap.mpr ⟨x, hx, by simp⟩), List.mem_append_right _ (List.mem_flatMap.mpr ⟨x, hx, by simp⟩)⟩
  refine (min_chp h).congr fun c => ?_
  constructor
  · rintro ⟨s', hs', t', ht', p⟩
    obtain ⟨s, hs, rfl⟩ := List.mem_map.mp hs'
    obtain ⟨t, ht, rfl⟩ := List.mem_map.mp ht'
    obtain ⟨t2, ht2, e, hg⟩ := ren_path hi g1 (gs s hs) p
    rw [← hi t (ge t ht) t2 ht2 e] at hg
    exact ⟨s, hs, t, ht, hg⟩
  · rintro ⟨s, hs, t, ht, p⟩
    exact ⟨nm s, List.mem_map.mpr ⟨s, hs, rfl⟩, nm t, List.mem_map.mpr ⟨t, ht, rfl⟩, path_ren p⟩
theorem st_ren {as : List GA} {ss es N : List Kt} {nm : Kt → List Nat} (hN : ∀ k ∈ gst as ss es, k ∈ N) : (mkM (as.map (ren nm)) (ss.map nm) (es.map nm)).st.length ≤ N.length := by
  have hsub : ∀ t ∈ (mkM (as.map (ren nm)) (ss.map nm) (es.map nm)).st, t ∈ N.map nm := fun t ht => by
    rw [st_mk] at ht
    rcases List.mem_append.mp (srtU_mem.mp ht) with ht | ht
    · rcases List.mem_append.mp ht with ht | ht
      · obtain ⟨k, hk, rfl⟩ := List.mem_map.mp ht
        exact List.mem_map.mpr ⟨k, hN k (List.mem_append_left _ (List.mem_append_left _ hk)), rfl⟩
      · obtain ⟨k, hk, rfl⟩ := List.mem_map.mp ht
        exact List.mem_map.mpr ⟨k, hN k (List.mem_append_left _ (List.mem_append_right _ hk)), rfl⟩
    · obtain ⟨y, hy, e⟩ := ends2_mem.mp ht
      obtain ⟨x, hx, rfl⟩ := List.mem_map.mp hy
      rcases e with e | e
      · exact List.mem_map.mpr ⟨x.s, hN _ (List.mem_append_right _ (List.mem_flatMap.mpr ⟨x, hx, by simp⟩)), e.symm⟩
      · exact List.mem_map.mpr ⟨x.a, hN _ (List.mem_append_right _ (List.mem_flatMap.mpr ⟨x, hx, by simp⟩)), e.symm⟩
  have := nodup_le (uniq_nd _) hsub
  rwa [List.length_map] at this
/-! ### marked states -/
def mk (i : Int) (s : List Nat) : Kt := [.inl i, .inr s]
def mkA (i : Int) (x : Ar) : GA := ⟨mk i x.s, x.l, mk i x.a, x.p⟩
theorem mk_inj {i j : Int} {s t : List Nat} (h : mk i s = mk j t) : i = j ∧ s = t := by
  unfold mk at h
  injection h with h1 h
  injection h with h2 _
  exact ⟨Sum.inl.inj h1, Sum.inr.inj h2⟩
def c_marked : Con := fun ts μ φ ε => ∃ (m : Mc) (i : Int), ts = [mT m, .int i] ∧ μ = [] ∧ Good m ∧ φ (.tup [.lst ((m.as.map (mkA i)).map gT), .lst ((m.ss.map (mk i)).map ktT), .lst ((m.es.map (mk i)).map ktT)]) []
def ir_marked : Sm := (.seq (.asg (.nm 2) (.comp (.cons (.nm 3) (.cons (.nm 4) (.cons (.nm 5) (.cons (.nm 6) .nil)))) [3, 4, 5, 6] (.itS (.prp 0 c_Machine_arrows (.nm 0))) .yes (.tup (.cons (.tup (.cons (.nm 1) (.cons (.nm 3) .nil))) (.cons (.nm 4) (.cons (.tup (.cons (.nm 1) (.cons (.nm 5) .nil))) (.cons (.nm 6) .nil))))))) (.ret (.tup (.cons (.nm 2) (.cons (.comp (.nm 3) [3] (.itS (.prp 0 c_Machine_starts (.nm 0))) .yes (.tup (.cons (.nm 1) (.cons (.nm 3) .nil)))) (.cons (.comp (.nm 3) [3] (.itS (.prp 0 c_Machine_ends (.nm 0))) .yes (.tup (.cons (.nm 1) (.cons (.nm 3) .nil)))) .nil))))))
theorem wp_marked : ∀ ts μ φ ε, c_marked ts μ φ ε → ts.length = 2 ∧ wpB ir_marked 5 ts μ φ ε := by
  rintro ts μ φ ε ⟨m, i, rfl, rfl, hm, h⟩
  refine ⟨rfl, ?_⟩
  have la := hm.ok.la
  have ls := hm.ok.ls
  have le := hm.ok.le
  (conv => whnf)
  refine callQ rfl fun φ1 ε1 k1 => ⟨m, rfl, rfl, k1 _ rfl ?_⟩
  clear k1
  (conv => whnf)
  refine szK_of (by rw [List.length_map]; omega) ?_
  refine compK_map (enc := tA) (g := fun x => gT (mkA i x)) (fun x _ k hk => ?_) ?_
  · ((conv => whnf); repeat (first | (refine noP_of rfl ?_; conv => whnf) | (refine Exists.intro _ (And.intro rfl ?_); conv => whnf)))
    exact hk
  (conv => whnf)
  refine callQ rfl fun φ1 ε1 k1 => ⟨m, rfl, rfl, k1 _ rfl ?_⟩
  clear k1
  (conv => whnf)
  refine szK_of (by rw [List.length_map]; omega) ?_
  refine compK_map (enc := Tr.str) (g := fun s => ktT (mk i s)) (fun x _ k hk => ?_) ?_
  · ((conv => whnf); repeat (first | (refine noP_of rfl ?_; conv => whnf) | (refine Exists.intro _ (And.intro rfl ?_); conv => whnf)))
    exact hk
  (conv => whnf)
  refine callQ rfl fun φ1 ε1 k1 => ⟨m, rfl, rfl, k1 _ rfl ?_⟩
  clear k1
  (conv => whnf)
  refine szK_of (by rw [List.length_map]; omega) ?_
  refine compK_map (enc := Tr.str) (g := fun s => ktT (mk i s)) (fun x _ k hk => ?_) ?_
  · ((conv => whnf); repeat (first | (refine noP_of rfl ?_; conv => whnf) | (refine Exists.intro _ (And.intro rfl ?_); conv => whnf)))
    exact hk
  ((conv => whnf); repeat (first | (refine noP_of rfl ?_; conv => whnf) | (refine Exists.intro _ (And.intro rfl ?_); conv => whnf)))
  have e1 : (m.as.map fun x => gT (mkA i x)) = (m.as.map (mkA i)).map gT := by rw [List.map_map]; rfl
  have e2 : ∀ l : List (List Nat), (l.map fun s => ktT (mk i s)) = (l.map (mk i)).map ktT := fun l => by rw [List.map_map]; rfl
  rw [e1, e2, e2]
  exact h
/-- what is read by one machine -/
def Reads (m : Mc) (row : List Nat) (c : Int) : Prop := ∃ s ∈ m.ss, ∃ t ∈ m.es, Path m.as s row t c
theorem path_mark {m1 m2 : Mc} {as : List GA} (h : ∀ x, x ∈ as ↔ (∃ y ∈ m1.as, x = mkA 1 y) ∨ ∃ y ∈ m2.as, x = mkA 2 y) {s : List Nat} {row : List Nat} {t : Kt} {c : Int} : ∀ {s0 : Kt}, PathG as s0 row t c → (s0 = mk 1 s → ∃ t0, t = mk 1 t0 ∧ Path m1.as s row t0 c) ∧ (s0 = mk 2 s → ∃ t0, t = mk 2 t0 ∧ Path m2.as s row t0 c) := by
  intro s0 hp
  induction hp with
  | nil => exact ⟨fun e => ⟨s, e, .nil s⟩, fun e => ⟨s, e, .nil s⟩⟩
  | snoc hp hx e1 e2 ih =>
    rename_i x k
    constructor
    · intro e
      obtain ⟨t0, rfl, hq⟩ := ih.1 e
      rcases (h x).mp hx with ⟨y, hy, rfl⟩ | ⟨y, hy, rfl⟩
      · exact ⟨y.a, rfl, .snoc hq hy (mk_inj e1).2 e2⟩
      · exact absurd (mk_inj e1).1 (by decide)
    · intro e
      obtain ⟨t0, rfl, hq⟩ := ih.2 e
      rcases (h x).mp hx with ⟨y, hy, rfl⟩ | ⟨y, hy, rfl⟩
      · exact absurd (mk_inj e1).1 (by decide)
      · exact ⟨y.a, rfl, .snoc hq hy (mk_inj e1).2 e2⟩
theorem mark_path {m : Mc} {as : List GA} {i : Int} (h : ∀ y ∈ m.as, mkA i y ∈ as) {s row t : List Nat} {c : Int} (hp : Path m.as s row t c) : PathG as (mk i s) row (mk i t) c := by
  induction hp with
  | nil => exact .nil _
  | snoc hp hx e1 e2 ih =>
    rename_i x k
    exact PathG.snoc (x := mkA i x) ih (h _ hx) (by rw [← e1]; rfl) e2
def c_either : Con := fun ts μ φ ε => ∃ m1 m2, ts = [mT m1, mT m2] ∧ μ = [] ∧ Good m1 ∧ Good m2 ∧ m1.as.length + m2.as.length ≤ 400 ∧ m1.ss.length + m2.ss.length ≤ 400 ∧ m1.es.length + m2.es.length ≤ 400 ∧ m1.st.length + m2.st.length ≤ 40 ∧
  ∀ m, Good m → m.st.length ≤ m1.st.length + m2.st.length → (∀ row o, IsMin (Reads m row) o → IsMin (fun c => Reads m1 row c ∨ Reads m2 row c) o) → φ (mT m) []
def ir_either : Sm := (.seq (.asg (.cons (.nm 2) (.cons (.nm 3) (.cons (.nm 4) .nil))) (.call c_marked (.cons (.nm 0) (.cons (.c (.int 1)) .nil)))) (.seq (.asg (.cons (.nm 5) (.cons (.nm 6) (.cons (.nm 7) .nil))) (.call c_marked (.cons (.nm 1) (.cons (.c (.int 2)) .nil)))) (.ret (.call c_named_anew (.cons (.addL (.nm 2) (.nm 5)) (.cons (.addL (.nm 3) (.nm 6)) (.cons (.addL (.nm 4) (.nm 7)) .nil)))))))
theorem Good.inS {m : Mc} : (∀ s ∈ m.ss, s ∈ m.st) ∧ (∀ s ∈ m.es, s ∈ m.st) ∧ ∀ x ∈ m.as, x.s ∈ m.st ∧ x.a ∈ m.st :=
  ⟨fun s hs => srtU_mem.mpr (List.mem_append_left _ (List.mem_append_left _ hs)), fun s hs => srtU_mem.mpr (List.mem_append_left _ (List.mem_append_right _ hs)), fun x hx => ⟨srtU_mem.mpr (List.mem_append_right _ (ends2_mem.mpr ⟨x, hx, .inl rfl⟩)), srtU_mem.mpr (List.mem_append_right _ (ends2_mem.mpr ⟨x, hx, .inr rfl⟩))⟩⟩
theorem okAr_lp {x : Ar} (h : okAr x = true) : letB x.l = true ∧ 0 ≤ x.p ∧ x.p ≤ 99 := by
  unfold okAr at h
  simp only [Bool.and_eq_true, decide_eq_true_eq] at h
  exact ⟨h.1.1.2, h.2.1, h.2.2⟩
theorem wp_either : ∀ ts μ φ ε, c_either ts μ φ ε → ts.length = 2 ∧ wpB ir_either 6 ts μ φ ε := by
  rintro ts μ φ ε ⟨m1, m2, rfl, rfl, h1, h2, la, ls, le, lst, h⟩
  refine ⟨rfl, ?_⟩
  (conv => whnf)
  refine callQ rfl fun φ1 ε1 k1 => ⟨m1, 1, rfl, rfl, h1, k1 _ rfl ?_⟩
  clear k1
  (conv => whnf)
  refine callQ rfl fun φ1 ε1 k1 => ⟨m2, 2, rfl, rfl, h2, k1 _ rfl ?_⟩
  clear k1
  (conv => whnf)
  refine szK_of (by simp; omega) ?_
  (conv => whnf)
  refine szK_of (by simp; omega) ?_
  (conv => whnf)
  refine szK_of (by simp; omega) ?_
  rw [← List.map_append, ← List.map_append, ← List.map_append]
  (conv => whnf)
  have hA : ∀ x, x ∈ m1.as.map (mkA 1) ++ m2.as.map (mkA 2) ↔ (∃ y ∈ m1.as, x = mkA 1 y) ∨ ∃ y ∈ m2.as, x = mkA 2 y := fun x => by
    rw [List.mem_append, List.mem_map, List.mem_map]
    constructor
    · rintro (⟨y, hy, e⟩ | ⟨y, hy, e⟩)
      · exact .inl ⟨y, hy, e.symm⟩
      · exact .inr ⟨y, hy, e.symm⟩
    · rintro (⟨y, hy, e⟩ | ⟨y, hy, e⟩)
      · exact .inl ⟨y, hy, e.symm⟩
      · exact .inr ⟨y, hy, e.symm⟩
  have hG : ∀ k ∈ gst (m1.as.map (mkA 1) ++ m2.as.map (mkA 2)) (m1.ss.map (mk 1) ++ m2.ss.map (mk 2)) (m1.es.map (mk 1) ++ m2.es.map (mk 2)), k ∈ m1.st.map (mk 1) ++ m2.st.map (mk 2) := fun k hk => by
    rw [List.mem_append]
    rcases List.mem_append.mp hk with hk | hk
    · rcases List.mem_append.mp hk with hk | hk <;> rcases List.mem_append.mp hk with hk | hk <;> obtain ⟨s, hs, rfl⟩ := List.mem_map.mp hk
      · exact .inl (List.mem_map.mpr ⟨s, Good.inS.1 s hs, rfl⟩)
      · exact .inr (List.mem_map.mpr ⟨s, Good.inS.1 s hs, rfl⟩)
      · exact .inl (List.mem_map.mpr ⟨s, Good.inS.2.1 s hs, rfl⟩)
      · exact .inr (List.mem_map.mpr ⟨s, Good.inS.2.1 s hs, rfl⟩)
    · obtain ⟨x, hx, hk⟩ := List.mem_flatMap.mp hk
      rcases (hA x).mp hx with ⟨y, hy, rfl⟩ | ⟨y, hy, rfl⟩
      · have := Good.inS.2.2 y hy
        rcases List.mem_cons.mp hk with rfl | hk
        · exact .inl (List.mem_map.mpr ⟨y.s, this.1, rfl⟩)
        · cases List.mem_singleton.mp hk
          exact .inl (List.mem_map.mpr ⟨y.a, this.2, rfl⟩)
      · have := Good.inS.2.2 y hy
        rcases List.mem_cons.mp hk with rfl | hk
        · exact .inr (List.mem_map.mpr ⟨y.s, this.1, rfl⟩)
        · cases List.mem_singleton.mp hk
          exact .inr (List.mem_map.mpr ⟨y.a, this.2, rfl⟩)
  have hlN : (m1.st.map (mk 1) ++ m2.st.map (mk 2)).length = m1.st.length + m2.st.length := by rw [List.length_append, List.length_map, List.length_map]
  have hxo : ∀ x ∈ m1.as.map (mkA 1) ++ m2.as.map (mkA 2), letB x.l = true ∧ 0 ≤ x.p ∧ x.p ≤ 99 := fun x hx => by
    rcases (hA x).mp hx with ⟨y, hy, rfl⟩ | ⟨y, hy, rfl⟩
    · exact okAr_lp (h1.ok.oa y hy)
    · exact okAr_lp (h2.ok.oa y hy)
  refine callQ rfl fun φ1 ε1 k1 => ⟨_, _, _, m1.st.map (mk 1) ++ m2.st.map (mk 2), [true, false], rfl, rfl, by simp, fun k hk => ?_, by simp; omega, by simp; omega, by simp; omega, hG, by omega, hxo, fun nm hi hn => k1 _ rfl ?_⟩
  · rcases List.mem_append.mp (hG k hk) with hk | hk <;> obtain ⟨s, hs, rfl⟩ := List.mem_map.mp hk <;> rfl
  · have okR := okM_ren (nm := nm) (by simp; omega) (by simp; omega) (by simp; omega) hG (by omega) hxo hn
    refine h _ (good_mk okR) (by have := st_ren (nm := nm) hG; omega) fun row o ho => (min_ren hi ho).congr fun c => ?_
    constructor
    · rintro ⟨s, hs, t, ht, p⟩
      rcases List.mem_append.mp hs with hs | hs <;> obtain ⟨s0, hs0, rfl⟩ := List.mem_map.mp hs
      · obtain ⟨t0, rfl, q⟩ := (path_mark hA p).1 rfl
        refine .inl ⟨s0, hs0, t0, ?_, q⟩
        rcases List.mem_append.mp ht with ht | ht <;> obtain ⟨t1, ht1, e⟩ := List.mem_map.mp ht
        · rw [← (mk_inj e).2]; exact ht1
        · exact absurd (mk_inj e).1 (by decide)
      · obtain ⟨t0, rfl, q⟩ := (path_mark hA p).2 rfl
        refine .inr ⟨s0, hs0, t0, ?_, q⟩
        rcases List.mem_append.mp ht with ht | ht <;> obtain ⟨t1, ht1, e⟩ := List.mem_map.mp ht
        · exact absurd (mk_inj e).1 (by decide)
        · rw [← (mk_inj e).2]; exact ht1
    · rintro (⟨s, hs, t, ht, p⟩ | ⟨s, hs, t, ht, p⟩)
      · exact ⟨mk 1 s, List.mem_append_left _ (List.mem_map.mpr ⟨s, hs, rfl⟩), mk 1 t, List.mem_append_left _ (List.mem_map.mpr ⟨t, ht, rfl⟩), mark_path (fun y hy => (hA _).mpr (.inl ⟨y, hy, rfl⟩)) p⟩
      · exact ⟨mk 2 s, List.mem_append_right _ (List.mem_map.mpr ⟨s, hs, rfl⟩), mk 2 t, List.mem_append_right _ (List.mem_map.mpr ⟨t, ht, rfl⟩), mark_path (fun y hy => (hA _).mpr (.inr ⟨y, hy, rfl⟩)) p⟩
/-! ### == -/
def c_Machine_eq : Con := fun ts μ φ ε => ∃ m m', ts = [mT m, mT m'] ∧ μ = [] ∧ Good m ∧ Good m' ∧ φ (.bl (decide (m.as = m'.as ∧ m.ss = m'.ss ∧ m.es = m'.es))) []
def ir_Machine_eq : Sm := (.seq (.ite (.or (.not (.isO 0 (.nm 1))) (.cmp .ne (.fld 0 (.nm 0) 0) (.fld 0 (.nm 1) 0))) (.ret (.c (.bl false))) .skip) (.ret (.and (.cmp .eq (.fld 0 (.nm 0) 1) (.fld 0 (.nm 1) 1)) (.cmp .eq (.fld 0 (.nm 0) 2) (.fld 0 (.nm 1) 2)))))
theorem eqA (a b : Ar) : eqT (tA a) (tA b) = decide (a = b) := by
  show (decide (a.s = b.s) && (decide (a.l = b.l) && (decide (a.a = b.a) && (decide (a.p = b.p) && true)))) = _
  rw [Bool.eq_iff_iff]
  cases a
  cases b
  simp
theorem wp_Machine_eq : ∀ ts μ φ ε, c_Machine_eq ts μ φ ε → ts.length = 2 ∧ wpB ir_Machine_eq 0 ts μ φ ε := by
  rintro ts μ φ ε ⟨m, m', rfl, rfl, h1, h2, h⟩
  refine ⟨rfl, ?_⟩
  have dA : ∀ m : Mc, Good m → isD 60 (.tup (m.as.map tA)) = true := fun m hm => isDs_map (n := 59) fun x hx => isD_tA (hm.ok.oa x hx)
  have dS : ∀ l : List (List Nat), (∀ s ∈ l, nameB s = true) → isD 60 (.tup (l.map Tr.str)) = true := fun l hl => isDs_map (n := 59) fun s hs => okS_name (hl s hs)
  have e1 : eqT (.tup (m.as.map tA)) (.tup (m'.as.map tA)) = decide (m.as = m'.as) := eqTs_map eqA m.as m'.as
  have e2 : eqT (.tup (m.ss.map Tr.str)) (.tup (m'.ss.map Tr.str)) = decide (m.ss = m'.ss) := eqTs_map eqS m.ss m'.ss
  have e3 : eqT (.tup (m.es.map Tr.str)) (.tup (m'.es.map Tr.str)) = decide (m.es = m'.es) := eqTs_map eqS m.es m'.es
  (conv => whnf)
  refine ⟨by rw [dA m h1, dA m' h2]; rfl, ?_⟩
  rw [e1]
  cases h3 : decide (m.as = m'.as) with
  | false =>
    have : decide (m.as = m'.as ∧ m.ss = m'.ss ∧ m.es = m'.es) = false := decide_eq_false fun z => of_decide_eq_false h3 z.1
    rw [this] at h
    exact h
  | true =>
    (conv => whnf)
    refine ⟨by rw [dS _ h1.ok.os, dS _ h2.ok.os]; rfl, ?_⟩
    rw [e2]
    cases h4 : decide (m.ss = m'.ss) with
    | false =>
      have : decide (m.as = m'.as ∧ m.ss = m'.ss ∧ m.es = m'.es) = false := decide_eq_false fun z => of_decide_eq_false h4 z.2.1
      rw [this] at h
      exact h
    | true =>
      (conv => whnf)
      refine ⟨by rw [dS _ h1.ok.oe, dS _ h2.ok.oe]; rfl, ?_⟩
      rw [e3]
      have : decide (m.as = m'.as ∧ m.ss = m'.ss ∧ m.es = m'.es) = decide (m.es = m'.es) := by
        rw [Bool.eq_iff_iff, decide_eq_true_iff, decide_eq_true_iff]
        exact ⟨fun z => z.2.2, fun z => ⟨of_decide_eq_true h3, of_decide_eq_true h4, z⟩⟩
      rw [this] at h
      exact h
end G

namespace G
open Ir
/-! Nd: one machine behind another: the plain part. -/
def brA (x : Ar) (b : List Nat) : GA := ⟨mk 1 x.s, x.l, mk 2 b, x.p⟩
def behA (m1 m2 : Mc) : List GA := (m1.as.map (mkA 1) ++ (m1.as.filter fun x => decide (x.a ∈ m1.es)).flatMap fun x => m2.ss.map (brA x)) ++ m2.as.map (mkA 2)
theorem behA_mem {m1 m2 : Mc} {z : GA} : z ∈ behA m1 m2 ↔ (∃ x ∈ m1.as, z = mkA 1 x) ∨ (∃ x ∈ m1.as, x.a ∈ m1.es ∧ ∃ b ∈ m2.ss, z = brA x b) ∨ ∃ x ∈ m2.as, z = mkA 2 x := by
  unfold behA
  rw [List.mem_append, List.mem_append]
  constructor
  · rintro ((h | h) | h)
    · obtain ⟨x, hx, rfl⟩ := List.mem_map.mp h
      exact .inl ⟨x, hx, rfl⟩
    · obtain ⟨x, hx, h⟩ := List.mem_flatMap.mp h
      obtain ⟨hx1, hx2⟩ := List.mem_filter.mp hx
      obtain ⟨b, hb, rfl⟩ := List.mem_map.mp h
      exact .inr (.inl ⟨x, hx1, of_decide_eq_true hx2, b, hb, rfl⟩)
    · obtain ⟨x, hx, rfl⟩ := List.mem_map.mp h
      exact .inr (.inr ⟨x, hx, rfl⟩)
  · rintro (⟨x, hx, rfl⟩ | ⟨x, hx, he, b, hb, rfl⟩ | ⟨x, hx, rfl⟩)
    · exact .inl (.inl (List.mem_map.mpr ⟨x, hx, rfl⟩))
    · exact .inl (.inr (List.mem_flatMap.mpr ⟨x, List.mem_filter.mpr ⟨hx, decide_eq_true he⟩, List.mem_map.mpr ⟨b, hb, rfl⟩⟩))
    · exact .inr (List.mem_map.mpr ⟨x, hx, rfl⟩)
theorem path_beh {m1 m2 : Mc} {s0 : Kt} {row : List Nat} {t : Kt} {c : Int} (h : PathG (behA m1 m2) s0 row t c) {s : List Nat} :
    (s0 = mk 1 s → (∃ t0, t = mk 1 t0 ∧ Path m1.as s row t0 c) ∨ ∃ t0 r1 r2 c1 c2 e b, t = mk 2 t0 ∧ row = r1 ++ r2 ∧ e ∈ m1.es ∧ Path m1.as s r1 e c1 ∧ b ∈ m2.ss ∧ Path m2.as b r2 t0 c2 ∧ c = c1 + c2) ∧
    (s0 = mk 2 s → ∃ t0, t = mk 2 t0 ∧ Path m2.as s row t0 c) := by
  induction h with
  | nil => exact ⟨fun e => .inl ⟨s, e, .nil s⟩, fun e => ⟨s, e, .nil s⟩⟩
  | snoc hp hx e1 e2 ih =>
    rename_i row t c x k
    constructor
    · intro e
      rcases ih.1 e with ⟨t0, rfl, hq⟩ | ⟨t0, r1, r2, c1, c2, ee, b, rfl, rfl, he, p1, hb, p2, rfl⟩
      · rcases behA_mem.mp hx with ⟨y, hy, rfl⟩ | ⟨y, hy, he, b, hb, rfl⟩ | ⟨y, hy, rfl⟩
        · exact .inl ⟨y.a, rfl, .snoc hq hy (mk_inj e1).2 e2⟩
        · exact .inr ⟨b, row ++ [k], [], c + y.p, 0, y.a, b, rfl, by simp, he, .snoc hq hy (mk_inj e1).2 e2, hb, .nil b, by show c + y.p = _; omega⟩
        · exact absurd (mk_inj e1).1 (by decide)
      · rcases behA_mem.mp hx with ⟨y, hy, rfl⟩ | ⟨y, hy, he, b, hb, rfl⟩ | ⟨y, hy, rfl⟩
        · exact absurd (mk_inj e1).1 (by decide)
        · exact absurd (mk_inj e1).1 (by decide)
        · exact .inr ⟨y.a, r1, r2 ++ [k], c1, c2 + y.p, ee, b, rfl, by simp, he, p1, hb, .snoc p2 hy (mk_inj e1).2 e2, by show c1 + c2 + y.p = _; omega⟩
    · intro e
      obtain ⟨t0, rfl, hq⟩ := ih.2 e
      rcases behA_mem.mp hx with ⟨y, hy, rfl⟩ | ⟨y, hy, he, b, hb, rfl⟩ | ⟨y, hy, rfl⟩
      · exact absurd (mk_inj e1).1 (by decide)
      · exact absurd (mk_inj e1).1 (by decide)
      · exact ⟨y.a, rfl, .snoc hq hy (mk_inj e1).2 e2⟩
theorem PathG.app {as : List GA} {s t u : Kt} {r1 r2 : List Nat} {c1 c2 : Int} (h1 : PathG as s r1 t c1) (h2 : PathG as t r2 u c2) : PathG as s (r1 ++ r2) u (c1 + c2) := by
  induction h2 with
  | nil => rw [List.append_nil, Int.add_zero]; exact h1
  | snoc hp hx e1 e2 ih =>
    have := PathG.snoc ih hx e1 e2
    rw [← List.append_assoc, ← Int.add_assoc]
    exact this
/-- the sums of a row cut in two -/
def Cuts (m1 m2 : Mc) (row : List Nat) (c : Int) : Prop := ∃ r1 r2 c1 c2, row = r1 ++ r2 ∧ Reads m1 r1 c1 ∧ Reads m2 r2 c2 ∧ c = c1 + c2
def nothing (m : Mc) : Bool := m.ss.any fun s => decide (s ∈ m.es)
def behS (m1 m2 : Mc) : List Kt := if nothing m1 then m1.ss.map (mk 1) ++ m2.ss.map (mk 2) else m1.ss.map (mk 1)
theorem nothing_iff {m : Mc} : nothing m = true ↔ ∃ s ∈ m.ss, s ∈ m.es := by
  unfold nothing
  rw [List.any_eq_true]
  constructor
  · rintro ⟨s, hs, h⟩; exact ⟨s, hs, of_decide_eq_true h⟩
  · rintro ⟨s, hs, h⟩; exact ⟨s, hs, decide_eq_true h⟩
theorem behS_mem {m1 m2 : Mc} {k : Kt} : k ∈ behS m1 m2 ↔ (∃ s ∈ m1.ss, k = mk 1 s) ∨ (nothing m1 = true ∧ ∃ s ∈ m2.ss, k = mk 2 s) := by
  unfold behS
  by_cases h : nothing m1 = true
  · rw [if_pos h, List.mem_append, List.mem_map, List.mem_map]
    constructor
    · rintro (⟨s, hs, e⟩ | ⟨s, hs, e⟩)
      · exact .inl ⟨s, hs, e.symm⟩
      · exact .inr ⟨h, s, hs, e.symm⟩
    · rintro (⟨s, hs, e⟩ | ⟨_, s, hs, e⟩)
      · exact .inl ⟨s, hs, e.symm⟩
      · exact .inr ⟨s, hs, e.symm⟩
  · rw [if_neg h, List.mem_map]
    constructor
    · rintro ⟨s, hs, e⟩; exact .inl ⟨s, hs, e.symm⟩
    · rintro (⟨s, hs, e⟩ | ⟨h2, _⟩)
      · exact ⟨s, hs, e.symm⟩
      · exact absurd h2 h
theorem beh_iff {m1 m2 : Mc} {row : List Nat} {c : Int} : (∃ s ∈ behS m1 m2, ∃ t ∈ m2.es.map (mk 2), PathG (behA m1 m2) s row t c) ↔ Cuts m1 m2 row c := by
  constructor
  · rintro ⟨s, hs, t, ht, p⟩
    obtain ⟨t1, ht1, rfl⟩ := List.mem_map.mp ht
    rcases behS_mem.mp hs with ⟨s1, hs1, rfl⟩ | ⟨hn, s1, hs1, rfl⟩
    · rcases (path_beh p).1 rfl with ⟨t0, e, _⟩ | ⟨t0, r1, r2, c1, c2, e, b, et, rfl, he, p1, hb, p2, rfl⟩
      · exact absurd (mk_inj e).1 (by decide)
      · obtain ⟨_, rfl⟩ := mk_inj et
        exact ⟨r1, r2, c1, c2, rfl, ⟨s1, hs1, e, he, p1⟩, ⟨b, hb, t1, ht1, p2⟩, rfl⟩
    · obtain ⟨t0, et, p2⟩ := (path_beh p).2 rfl
      obtain ⟨_, rfl⟩ := mk_inj et
      obtain ⟨s2, h1, h2⟩ := nothing_iff.mp hn
      exact ⟨[], row, 0, c, rfl, ⟨s2, h1, s2, h2, .nil s2⟩, ⟨s1, hs1, t1, ht1, p2⟩, by omega⟩
  · rintro ⟨r1, r2, c1, c2, rfl, ⟨s, hs, e, he, p1⟩, ⟨b, hb, t, ht, p2⟩, rfl⟩
    have q2 : PathG (behA m1 m2) (mk 2 b) r2 (mk 2 t) c2 := mark_path (fun y hy => behA_mem.mpr (.inr (.inr ⟨y, hy, rfl⟩))) p2
    cases p1 with
    | nil =>
      refine ⟨mk 2 b, behS_mem.mpr (.inr ⟨nothing_iff.mpr ⟨s, hs, he⟩, b, hb, rfl⟩), mk 2 t, List.mem_map.mpr ⟨t, ht, rfl⟩, ?_⟩
      rw [List.nil_append, Int.zero_add]
      exact q2
    | snoc hp hx e1 e2 =>
      rename_i t0 c0 x k
      refine ⟨mk 1 s, behS_mem.mpr (.inl ⟨s, hs, rfl⟩), mk 2 t, List.mem_map.mpr ⟨t, ht, rfl⟩, ?_⟩
      have q1 : PathG (behA m1 m2) (mk 1 s) _ (mk 1 _) c0 := mark_path (fun y hy => behA_mem.mpr (.inl ⟨y, hy, rfl⟩)) hp
      exact (PathG.snoc (x := brA x b) q1 (behA_mem.mpr (.inr (.inl ⟨x, hx, he, b, hb, rfl⟩))) (by show mk 1 x.s = _; rw [e1]) e2).app q2
def c_behind : Con := fun ts μ φ ε => ∃ m1 m2, ts = [mT m1, mT m2] ∧ μ = [] ∧ Good m1 ∧ Good m2 ∧ m1.as.length + m1.as.length * m2.ss.length + m2.as.length ≤ 400 ∧ m1.ss.length + m2.ss.length ≤ 400 ∧ m2.es.length ≤ 400 ∧ m1.st.length + m2.st.length ≤ 40 ∧
  ∀ m, Good m → m.st.length ≤ m1.st.length + m2.st.length → (∀ row o, IsMin (Reads m row) o → IsMin (Cuts m1 m2 row) o) → φ (mT m) []
end G

namespace G
open Ir
/-! Ne: the due price of a row that is cut in two. -/
theorem part_take' (row : List Nat) (j : Nat) (hj : j ≤ row.length) : part row none (some (j : Int)) = row.take j := by
  have e : bnd row.length row.length (some (j : Int)) = j := by
    show (if (j : Int) < 0 then ((j : Int) + (row.length : Int)).toNat else min (j : Int).toNat row.length) = j
    rw [if_neg (by omega)]
    omega
  unfold part
  rw [e]
  rfl
theorem part_drop' (row : List Nat) (j : Nat) (hj : j ≤ row.length) : part row (some (j : Int)) none = row.drop j := by
  have e : bnd row.length 0 (some (j : Int)) = j := by
    show (if (j : Int) < 0 then ((j : Int) + (row.length : Int)).toNat else min (j : Int).toNat row.length) = j
    rw [if_neg (by omega)]
    omega
  unfold part
  rw [e]
  show (row.drop j).take (row.length - j) = _
  rw [List.take_of_length_le (by rw [List.length_drop]; omega)]
/-- by the arrows as they were given -/
def Raw (as : List Ar) (ss es : List (List Nat)) (row : List Nat) (c : Int) : Prop := ∃ s ∈ ss, ∃ t ∈ es, Path as s row t c
def RawC (A1 : List Ar) (S1 E1 : List (List Nat)) (A2 : List Ar) (S2 E2 : List (List Nat)) (row : List Nat) (c : Int) : Prop := ∃ r1 r2 c1 c2, row = r1 ++ r2 ∧ Raw A1 S1 E1 r1 c1 ∧ Raw A2 S2 E2 r2 c2 ∧ c = c1 + c2
def c_law_due : Con := fun ts μ φ ε => ∃ A1 S1 E1 A2 S2 E2 row, ts = [madeT A1 S1 E1, madeT A2 S2 E2, .str row] ∧ μ = [] ∧ A1.length ≤ 1000 ∧ S1.length ≤ 1000 ∧ E1.length ≤ 1000 ∧ A2.length ≤ 1000 ∧ S2.length ≤ 1000 ∧ E2.length ≤ 1000 ∧ row.length ≤ 1000 ∧
  ∀ o, IsMin (RawC A1 S1 E1 A2 S2 E2 row) o → φ (oT o) []
def ir_law_due : Sm := (.seq (.asg (.nm 3) (.ow (.lst .nil))) (.seq (.for (.nm 4) (.rng (.c (.int 0)) (.op .add (.blt .len (.cons (.nm 2) .nil)) (.c (.int 1)))) (.seq (.par [5, 6] (.cons (.call c_law_price (.cons (.nm 0) (.cons (.sl01 (.nm 2) (.nm 4)) .nil))) (.cons (.call c_law_price (.cons (.nm 1) (.cons (.sl10 (.nm 2) (.nm 4)) .nil))) .nil))) (.ite (.and (.cmp .isnot (.nm 5) (.c .non)) (.cmp .isnot (.nm 6) (.c .non))) (.app 3 (.op .add (.nm 5) (.nm 6))) .skip))) (.ret (.ife (.cmp .ne (.nm 3) (.lst .nil)) (.blt .minL (.cons (.nm 3) .nil)) (.c .non)))))
theorem wp_law_due : ∀ ts μ φ ε, c_law_due ts μ φ ε → ts.length = 3 ∧ wpB ir_law_due 4 ts μ φ ε := by
  rintro ts μ φ ε ⟨A1, S1, E1, A2, S2, E2, row, rfl, rfl, a1, b1, c1, a2, b2, c2, lr, h⟩
  refine ⟨rfl, ?_⟩
  ((conv => whnf); repeat (first | (refine noP_of rfl ?_; conv => whnf) | (refine Exists.intro _ (And.intro rfl ?_); conv => whnf)))
  refine szK_of (by omega) ?_
  (conv => whnf)
  refine ⟨by omega, ?_⟩
  (conv => whnf)
  refine forK_at (enc := fun i : Nat => Tr.int (0 + (i : Nat))) (all := List.range ((row.length : Int) + 1 - 0).toNat) (fun pre ρ μ => ∃ (o4 o5 o6 : Option Tr) (l : List Int), ρ = [some (madeT A1 S1 E1), some (madeT A2 S2 E2), some (.str row), some (.ptr 0), o4, o5, o6] ∧ μ = [.lst (l.map Tr.int)] ∧ l.length ≤ pre.length ∧ (∀ c ∈ l, RawC A1 S1 E1 A2 S2 E2 row c) ∧ ∀ j, j < pre.length → ∀ c1 c2, Raw A1 S1 E1 (row.take j) c1 → Raw A2 S2 E2 (row.drop j) c2 → ∃ d ∈ l, d ≤ c1 + c2) (pre := []) rfl ⟨none, none, none, [], rfl, rfl, Nat.le_refl _, (fun _ h => nomatch h), fun j hj => absurd hj (Nat.not_lt_zero _)⟩ ?_ ?_
  · rintro pre i post ρ μ hall ⟨o4, o5, o6, l, rfl, rfl, hl, hC, hJ⟩ k hk
    have hlp := app_len hall
    rw [List.length_range] at hlp
    have hi : i = pre.length := by
      have e : (List.range ((row.length : Int) + 1 - 0).toNat)[pre.length]? = some i := by rw [← hall]; simp
      rw [List.getElem?_range hlp] at e
      exact (Option.some.inj e).symm
    subst hi
    (conv => whnf)
    refine szK_of (by omega) ?_
    rw [Int.zero_add, part_take' row pre.length (by omega)]
    (conv => whnf)
    refine callQ rfl fun φ1 ε1 k1 => ⟨false, false, false, A1, S1, E1, row.take pre.length, rfl, rfl, a1, b1, c1, by rw [List.length_take]; omega, fun oa hoa => k1 _ (nP_oT oa) ?_⟩
    clear k1
    (conv => whnf)
    refine szK_of (by omega) ?_
    rw [part_drop' row pre.length (by omega)]
    (conv => whnf)
    refine callQ rfl fun φ1 ε1 k1 => ⟨false, false, false, A2, S2, E2, row.drop pre.length, rfl, rfl, a2, b2, c2, by rw [List.length_drop]; omega, fun ob hob => k1 _ (nP_oT ob) ?_⟩
    clear k1
    have hJ' : ∀ l' : List Int, (∀ d ∈ l, d ∈ l') → (∀ x y, oa = some x → ob = some y → x + y ∈ l') → ∀ j, j < (pre ++ [pre.length]).length → ∀ c1 c2, Raw A1 S1 E1 (row.take j) c1 → Raw A2 S2 E2 (row.drop j) c2 → ∃ d ∈ l', d ≤ c1 + c2 := fun l' q1 q2 j hj c1 c2 h1 h2 => by
      rw [List.length_append, List.length_singleton] at hj
      by_cases e : j < pre.length
      · obtain ⟨d, hd, hle⟩ := hJ j e c1 c2 h1 h2
        exact ⟨d, q1 d hd, hle⟩
      · have e : j = pre.length := by omega
        subst e
        cases oa with
        | none => exact absurd h1 (hoa c1)
        | some x =>
          cases ob with
          | none => exact absurd h2 (hob c2)
          | some y =>
            have := hoa.2 c1 h1
            have := hob.2 c2 h2
            exact ⟨x + y, q2 x y rfl rfl, by omega⟩
    have hl' : l.length ≤ (pre ++ [pre.length]).length := by rw [List.length_append]; omega
    cases oa with
    | none =>
      (conv => whnf)
      exact hk _ _ ⟨_, _, _, l, rfl, rfl, hl', hC, hJ' l (fun _ h => h) fun x y h => nomatch h⟩
    | some x =>
      cases ob with
      | none =>
        (conv => whnf)
        exact hk _ _ ⟨_, _, _, l, rfl, rfl, hl', hC, hJ' l (fun _ h => h) fun x y _ h => nomatch h⟩
      | some y =>
        ((conv => whnf); repeat (first | (refine noP_of rfl ?_; conv => whnf) | (refine Exists.intro _ (And.intro rfl ?_); conv => whnf)))
        refine szK_of (by rw [List.length_map]; omega) ?_
        refine hk _ _ ⟨_, _, _, l ++ [x + y], rfl, by rw [List.map_append]; rfl, by rw [List.length_append, List.length_append]; simp only [List.length_singleton]; omega, fun c hc => ?_, hJ' _ (fun d hd => List.mem_append_left _ hd) fun x' y' h1 h2 => by cases h1; cases h2; simp⟩
        rcases List.mem_append.mp hc with hc | hc
        · exact hC c hc
        · cases List.mem_singleton.mp hc
          exact ⟨row.take pre.length, row.drop pre.length, x, y, (List.take_append_drop _ _).symm, hoa.1, hob.1, rfl⟩
  rintro ρ μ ⟨o4, o5, o6, l, rfl, rfl, hl, hC, hJ⟩
  have fin : ∀ o, IsMin (fun c => c ∈ l) o → φ (oT o) [] := fun o ho => h o (ho.to hC fun c ⟨r1, r2, c1, c2, e, h1, h2, ec⟩ => by
    subst e
    obtain ⟨d, hd, hle⟩ := hJ r1.length (by rw [List.length_range, List.length_append]; omega) c1 c2 (by rw [List.take_left]; exact h1) (by rw [List.drop_left]; exact h2)
    exact ⟨d, by omega, hd⟩)
  obtain ⟨m0, m1⟩ := lmin_is (P := fun c => c ∈ l) (l := l) fun c => Iff.rfl
  have hD : isD 60 (.lst (l.map Tr.int)) = true := isDs_map (n := 59) fun _ _ => rfl
  ((conv => whnf); repeat (first | (refine noP_of rfl ?_; conv => whnf) | (refine Exists.intro _ (And.intro rfl ?_); conv => whnf)))
  refine ⟨by rw [hD]; rfl, ?_⟩
  cases l with
  | nil => exact fin none (m0 rfl)
  | cons a l => exact ⟨a :: l, rfl, by simp, fin _ (m1 (by simp))⟩
end G

namespace G
open Ir
/-! L11: the law k11. -/
structure MkE (e : Nat) (as : List Ar) (ss es : List (List Nat)) : Prop where
  ex : ∃ ns : List (List Nat), ns.length ≤ 3 ∧ (∀ x ∈ ns, nameB x = true) ∧ (∀ x ∈ as, x.s ∈ ns ∧ x.a ∈ ns) ∧ (∀ x ∈ ss, x ∈ ns) ∧ (∀ x ∈ es, x ∈ ns)
  ok : ∀ x ∈ as, okAr x = true
  la : as.length ≤ 7
  ls : ss.length ≤ 4
  le : es.length ≤ e
theorem MkE.okM {e as ss es} (h : MkE e as ss es) (he : e ≤ 5) : OkM as ss es := by
  obtain ⟨ns, h1, h2, h3, h4, h5⟩ := h.ex
  have := h.la
  have := h.ls
  have := h.le
  exact okM_of (ns := ns) (by omega) (by omega) (by omega) (by omega) h2 h.ok h4 h5 h3
theorem MkE.st {e as ss es} (h : MkE e as ss es) : (mkM as ss es).st.length ≤ 3 := by
  obtain ⟨ns, h1, h2, h3, h4, h5⟩ := h.ex
  refine Nat.le_trans (nodup_le (uniq_nd _) ?_) h1
  exact st_sub (fun x hx => h4 x (srtU_mem.mp hx)) (fun x hx => h5 x (srtU_mem.mp hx)) fun x hx => h3 x (chp_mem.mp hx).1
theorem MkE.up {as ss es} (h : MkE 4 as ss es) : MkE 5 as ss es := ⟨h.ex, h.ok, h.la, h.ls, Nat.le_succ_of_le h.le⟩
theorem MkE.more {as ss es} (h : MkE 4 as ss es) : MkE 5 as ss (es ++ ss.take 1) := by
  obtain ⟨ns, h1, h2, h3, h4, h5⟩ := h.ex
  have := h.le
  refine ⟨⟨ns, h1, h2, h3, h4, fun x hx => ?_⟩, h.ok, h.la, h.ls, by rw [List.length_append, List.length_take]; omega⟩
  rcases List.mem_append.mp hx with hx | hx
  · exact h5 x hx
  · exact h4 x (List.mem_of_mem_take hx)
theorem Drawn.mkE {b as ss es} (h : Drawn 3 b 7 as ss es) : MkE 4 as ss es := by
  obtain ⟨ns, h1, h2, h3, h4, h5⟩ := h.ex
  exact ⟨⟨ns, h1, h2, fun x hx => ⟨(h3.m x hx).1, (h3.m x hx).2.2.1⟩, h4, h5⟩, h.okAr, h.lc, h.s2, h.e2⟩
theorem reads_raw {as : List Ar} {ss es : List (List Nat)} {row : List Nat} {c : Int} (h : Reads (mkM as ss es) row c) : Raw as ss es row c := by
  obtain ⟨s, hs, t, ht, p⟩ := h
  exact ⟨s, srtU_mem.mp hs, t, srtU_mem.mp ht, path_chp p⟩
theorem raw_reads {as : List Ar} {ss es : List (List Nat)} {row : List Nat} {c : Int} (h : Raw as ss es row c) : ∃ d, d ≤ c ∧ Reads (mkM as ss es) row d := by
  obtain ⟨s, hs, t, ht, p⟩ := h
  obtain ⟨d, hd, q⟩ := chp_path p
  exact ⟨d, hd, s, srtU_mem.mpr hs, t, srtU_mem.mpr ht, q⟩
theorem beh_due {A1 A2 : List Ar} {S1 E1 S2 E2 : List (List Nat)} {row : List Nat} {od o : Option Int} (hd : IsMin (RawC A1 S1 E1 A2 S2 E2 row) od) (ho : IsMin (Cuts (mkM A1 S1 E1) (mkM A2 S2 E2) row) o) : o = od := by
  have h1 : IsMin (RawC A1 S1 E1 A2 S2 E2 row) o := ho.to (fun c ⟨r1, r2, c1, c2, e, h1, h2, ec⟩ => ⟨r1, r2, c1, c2, e, reads_raw h1, reads_raw h2, ec⟩) fun c ⟨r1, r2, c1, c2, e, h1, h2, ec⟩ => by
    obtain ⟨d1, q1, p1⟩ := raw_reads h1
    obtain ⟨d2, q2, p2⟩ := raw_reads h2
    exact ⟨d1 + d2, by omega, r1, r2, d1, d2, e, p1, p2, rfl⟩
  exact h1.uniq hd
theorem fstN {α : Type} (l : List α) (j : Nat) : part l none (some (j : Int)) = l.take j := by
  have e : bnd l.length l.length (some (j : Int)) = min j l.length := by
    show (if (j : Int) < 0 then ((j : Int) + (l.length : Int)).toNat else min (j : Int).toNat l.length) = _
    rw [if_neg (by omega)]
    rfl
  unfold part
  rw [e]
  show (l.drop 0).take (min j l.length - 0) = _
  rw [List.drop_zero, Nat.sub_zero, List.take_eq_take_min (i := j)]
def ir_law_k11_t5 : Sm := (.seq (.par [4, 5] (.cons (.new 0 c_Machine_init (.cons (.ix (.nm 2) (.c (.int 0))) (.cons (.ix (.nm 2) (.c (.int 1))) (.cons (.ix (.nm 2) (.c (.int 2))) .nil)))) (.cons (.new 0 c_Machine_init (.cons (.ix (.nm 3) (.c (.int 0))) (.cons (.ix (.nm 3) (.c (.int 1))) (.cons (.ix (.nm 3) (.c (.int 2))) .nil)))) .nil))) (.seq (.asg (.nm 6) (.call c_behind (.cons (.nm 4) (.cons (.nm 5) .nil)))) (.seq (.ite (.cmp .gt (.blt .len (.cons (.prp 0 c_Machine_states (.nm 6)) .nil)) (.op .add (.blt .len (.cons (.prp 0 c_Machine_states (.nm 4)) .nil)) (.blt .len (.cons (.prp 0 c_Machine_states (.nm 5)) .nil)))) (.ret (.c (.bl false))) .skip) (.seq (.asg (.nm 7) (.addL (.call c_law_rows (.cons (.lst (.cons (.c (.str [97])) (.cons (.c (.str [98])) .nil))) (.cons (.c (.int 4)) .nil))) (.comp (.nm 8) [8] (.rng (.c (.int 0)) (.c (.int 2))) .yes (.sl01 (.call c_law_waves (.cons (.nm 1) (.cons (.lst (.cons (.c (.str [97])) (.cons (.c (.str [98])) .nil))) (.cons (.c (.int 2)) .nil)))) (.c (.int 30)))))) (.ret (.blt .all (.cons (.comp (.nm 9) [9] (.itS (.nm 7)) .yes (.cmp .eq (.call c_price (.cons (.nm 6) (.cons (.nm 9) .nil))) (.call c_law_due (.cons (.nm 2) (.cons (.nm 3) (.cons (.nm 9) .nil)))))) .nil)))))))
def ir_law_k11_t4 : Sm := (.seq (.ite (.cmp .eq (.call c_law_draw (.cons (.nm 1) (.cons (.c (.int 2)) .nil))) (.c (.int 0))) (.asg (.nm 3) (.tup (.cons (.ix (.nm 3) (.c (.int 0))) (.cons (.ix (.nm 3) (.c (.int 1))) (.cons (.addL (.ix (.nm 3) (.c (.int 2))) (.sl01 (.ix (.nm 3) (.c (.int 1))) (.c (.int 1)))) .nil))))) .skip) (.seq (.par [4, 5] (.cons (.new 0 c_Machine_init (.cons (.ix (.nm 2) (.c (.int 0))) (.cons (.ix (.nm 2) (.c (.int 1))) (.cons (.ix (.nm 2) (.c (.int 2))) .nil)))) (.cons (.new 0 c_Machine_init (.cons (.ix (.nm 3) (.c (.int 0))) (.cons (.ix (.nm 3) (.c (.int 1))) (.cons (.ix (.nm 3) (.c (.int 2))) .nil)))) .nil))) (.seq (.asg (.nm 6) (.call c_behind (.cons (.nm 4) (.cons (.nm 5) .nil)))) (.seq (.ite (.cmp .gt (.blt .len (.cons (.prp 0 c_Machine_states (.nm 6)) .nil)) (.op .add (.blt .len (.cons (.prp 0 c_Machine_states (.nm 4)) .nil)) (.blt .len (.cons (.prp 0 c_Machine_states (.nm 5)) .nil)))) (.ret (.c (.bl false))) .skip) (.seq (.asg (.nm 7) (.addL (.call c_law_rows (.cons (.lst (.cons (.c (.str [97])) (.cons (.c (.str [98])) .nil))) (.cons (.c (.int 4)) .nil))) (.comp (.nm 8) [8] (.rng (.c (.int 0)) (.c (.int 2))) .yes (.sl01 (.call c_law_waves (.cons (.nm 1) (.cons (.lst (.cons (.c (.str [97])) (.cons (.c (.str [98])) .nil))) (.cons (.c (.int 2)) .nil)))) (.c (.int 30)))))) (.ret (.blt .all (.cons (.comp (.nm 9) [9] (.itS (.nm 7)) .yes (.cmp .eq (.call c_price (.cons (.nm 6) (.cons (.nm 9) .nil))) (.call c_law_due (.cons (.nm 2) (.cons (.nm 3) (.cons (.nm 9) .nil)))))) .nil))))))))
def ir_law_k11_t3 : Sm := (.seq (.ite (.cmp .eq (.call c_law_draw (.cons (.nm 1) (.cons (.c (.int 2)) .nil))) (.c (.int 0))) (.asg (.nm 2) (.tup (.cons (.ix (.nm 2) (.c (.int 0))) (.cons (.ix (.nm 2) (.c (.int 1))) (.cons (.addL (.ix (.nm 2) (.c (.int 2))) (.sl01 (.ix (.nm 2) (.c (.int 1))) (.c (.int 1)))) .nil))))) .skip) (.seq (.ite (.cmp .eq (.call c_law_draw (.cons (.nm 1) (.cons (.c (.int 2)) .nil))) (.c (.int 0))) (.asg (.nm 3) (.tup (.cons (.ix (.nm 3) (.c (.int 0))) (.cons (.ix (.nm 3) (.c (.int 1))) (.cons (.addL (.ix (.nm 3) (.c (.int 2))) (.sl01 (.ix (.nm 3) (.c (.int 1))) (.c (.int 1)))) .nil))))) .skip) (.seq (.par [4, 5] (.cons (.new 0 c_Machine_init (.cons (.ix (.nm 2) (.c (.int 0))) (.cons (.ix (.nm 2) (.c (.int 1))) (.cons (.ix (.nm 2) (.c (.int 2))) .nil)))) (.cons (.new 0 c_Machine_init (.cons (.ix (.nm 3) (.c (.int 0))) (.cons (.ix (.nm 3) (.c (.int 1))) (.cons (.ix (.nm 3) (.c (.int 2))) .nil)))) .nil))) (.seq (.asg (.nm 6) (.call c_behind (.cons (.nm 4) (.cons (.nm 5) .nil)))) (.seq (.ite (.cmp .gt (.blt .len (.cons (.prp 0 c_Machine_states (.nm 6)) .nil)) (.op .add (.blt .len (.cons (.prp 0 c_Machine_states (.nm 4)) .nil)) (.blt .len (.cons (.prp 0 c_Machine_states (.nm 5)) .nil)))) (.ret (.c (.bl false))) .skip) (.seq (.asg (.nm 7) (.addL (.call c_law_rows (.cons (.lst (.cons (.c (.str [97])) (.cons (.c (.str [98])) .nil))) (.cons (.c (.int 4)) .nil))) (.comp (.nm 8) [8] (.rng (.c (.int 0)) (.c (.int 2))) .yes (.sl01 (.call c_law_waves (.cons (.nm 1) (.cons (.lst (.cons (.c (.str [97])) (.cons (.c (.str [98])) .nil))) (.cons (.c (.int 2)) .nil)))) (.c (.int 30)))))) (.ret (.blt .all (.cons (.comp (.nm 9) [9] (.itS (.nm 7)) .yes (.cmp .eq (.call c_price (.cons (.nm 6) (.cons (.nm 9) .nil))) (.call c_law_due (.cons (.nm 2) (.cons (.nm 3) (.cons (.nm 9) .nil)))))) .nil)))))))))
theorem rest11 {A1 A2 : List Ar} {S1 E1 S2 E2 : List (List Nat)} {ns : List Int} {n0 : Nat} (h1 : MkE 5 A1 S1 E1) (h2 : MkE 5 A2 S2 E2) (hn0 : n0 ≤ 100000) {nx : SK} {rt : EK} {bk ct : SK} {εx : EX} (h : ∀ n, rt (.bl true) [.src n]) :
    wps ir_law_k11_t5 nx rt bk ct εx [some (.scr ns), some (.ptr 0), some (madeT A1 S1 E1), some (madeT A2 S2 E2), none, none, none, none, none, none] [.src n0] := by
  have o1 := h1.okM (by decide)
  have o2 := h2.okM (by decide)
  have g1 := good_mk o1
  have g2 := good_mk o2
  have s1 := h1.st
  have s2 := h2.st
  have a1 := h1.la
  have a2 := h2.la
  have b1 := h1.ls
  have b2 := h2.ls
  have c1 := h1.le
  have c2 := h2.le
  ((conv => whnf); (repeat (refine Exists.intro _ (And.intro rfl ?_); conv => whnf)); refine noP_of rfl ?_)
  refine init_of (b0 := false) (b1 := false) (b2 := false) o1 ?_
  ((conv => whnf); (repeat (refine Exists.intro _ (And.intro rfl ?_); conv => whnf)); refine noP_of rfl ?_)
  refine init_of (b0 := false) (b1 := false) (b2 := false) o2 ?_
  have e1 : (mkM A1 S1 E1).as.length ≤ 7 := Nat.le_trans (chp_len _) (by omega)
  have e2 : (mkM A2 S2 E2).as.length ≤ 7 := Nat.le_trans (chp_len _) (by omega)
  have e3 : (mkM A1 S1 E1).ss.length ≤ 4 := Nat.le_trans (uniq_len _) b1
  have e4 : (mkM A2 S2 E2).ss.length ≤ 4 := Nat.le_trans (uniq_len _) b2
  have e6 : (mkM A2 S2 E2).es.length ≤ 5 := Nat.le_trans (uniq_len _) c2
  have e7 : (mkM A1 S1 E1).as.length * (mkM A2 S2 E2).ss.length ≤ 7 * 4 := Nat.mul_le_mul e1 e4
  (conv => whnf)
  refine callQ rfl fun φ1 ε1 k1 => ⟨mkM A1 S1 E1, mkM A2 S2 E2, rfl, rfl, g1, g2, by omega, by omega, by omega, by omega, fun m gm hst hm => k1 _ rfl ?_⟩
  clear k1
  have ab : ∀ l ∈ [[97], [98]], (∀ c ∈ l, c ∈ LET) ∧ l.length = 1 := by decide
  (conv => whnf)
  refine callQ rfl fun φ1 ε1 k1 => ⟨m, rfl, rfl, k1 _ rfl ?_⟩
  clear k1
  (conv => whnf)
  refine callQ rfl fun φ1 ε1 k1 => ⟨mkM A1 S1 E1, rfl, rfl, k1 _ rfl ?_⟩
  clear k1
  (conv => whnf)
  refine callQ rfl fun φ1 ε1 k1 => ⟨mkM A2 S2 E2, rfl, rfl, k1 _ rfl ?_⟩
  clear k1
  (conv => whnf)
  rw [show decide ((((mkM A1 S1 E1).st.map Tr.str).length : Int) + (((mkM A2 S2 E2).st.map Tr.str).length : Int) < ((m.st.map Tr.str).length : Int)) = false from decide_eq_false (by rw [List.length_map, List.length_map, List.length_map]; omega)]
  ((conv => whnf); repeat (first | (refine noP_of rfl ?_; conv => whnf) | (refine Exists.intro _ (And.intro rfl ?_); conv => whnf)))
  refine callQ rfl fun φ1 ε1 k1 => ⟨[[97], [98]], 4, rfl, rfl, by decide, by decide, fun l hl => (ab l hl).2, k1 _ rfl ?_⟩
  clear k1
  (conv => whnf)
  refine ⟨by decide, ?_⟩
  (conv => whnf)
  refine compK_at (enc := fun i : Nat => Tr.int (0 + (i : Nat))) (all := List.range 2) (fun pre rs μ => ∃ rows n1, rs = rows.map Tr.str ∧ μ = [.src n1] ∧ n1 ≤ n0 + 100 * pre.length ∧ (∀ r ∈ rows, r.length ≤ 120 ∧ Signs [[97], [98]] r) ∧ rows.length ≤ pre.length) (pre := []) (rs := []) rfl ⟨[], n0, rfl, rfl, Nat.le_refl _, (fun _ h => nomatch h), Nat.le_refl _⟩ ?_ ?_
  · rintro pre i post rs μ hall ⟨rows, n1, rfl, rfl, hn1, hr, hl⟩ k hk
    have hlp := app_len hall
    rw [List.length_range] at hlp
    ((conv => whnf); repeat (first | (refine noP_of rfl ?_; conv => whnf) | (refine Exists.intro _ (And.intro rfl ?_); conv => whnf)))
    refine callS1 (n := n1) rfl rfl fun φ1 ε1 k1 => ⟨n1, 2, [[97], [98]], rfl, rfl, by decide, by decide, by omega, by decide, by decide, fun l hl => (ab l hl).2, fun row n2 h1 h2 h3 => k1 _ _ rfl ?_⟩
    (conv => whnf)
    refine szK_of (by omega) ?_
    rw [show (30 : Int) = ((30 : Nat) : Int) from rfl, fstN]
    refine hk _ _ ⟨rows ++ [row.take 30], n2, by rw [List.map_append]; rfl, rfl, by rw [List.length_append]; simp only [List.length_singleton]; omega, fun r hr2 => ?_, by rw [List.length_append, List.length_append]; simp only [List.length_singleton]; omega⟩
    rcases List.mem_append.mp hr2 with hr2 | hr2
    · exact hr r hr2
    · cases List.mem_singleton.mp hr2
      exact ⟨by rw [List.length_take]; omega, fun c hc => h1 c (List.mem_of_mem_take hc)⟩
  rintro rs μ ⟨rows, n1, e, rfl, hn1, hr, hl⟩
  have e : rs = rows.map Tr.str := e
  subst e
  have hup := rows_len [[97], [98]] (by decide) 4 (by decide)
  rw [List.length_range] at hl
  (conv => whnf)
  refine szK_of (by rw [List.length_map, List.length_map]; omega) ?_
  rw [← List.map_append]
  have hall : (rowsUp [[97], [98]] 4 ++ rows).length ≤ 100000 := by rw [List.length_append]; omega
  have hrow : ∀ r ∈ rowsUp [[97], [98]] 4 ++ rows, r.length ≤ 120 ∧ ∀ c ∈ r, c ∈ LET := fun r h2 => by
    rcases List.mem_append.mp h2 with h2 | h2
    · obtain ⟨h3, h4⟩ := rowsUp_mem (fun l hl => (ab l hl).2) (fun l hl => (ab l hl).1) h2
      exact ⟨by omega, h4⟩
    · obtain ⟨h3, h4⟩ := hr r h2
      exact ⟨h3, fun c hc => (ab [c] (h4 c hc)).1 c (by simp)⟩
  generalize rowsUp [[97], [98]] 4 ++ rows = all at hrow hall
  show wps (.ret _) nx _ bk ct _ _ _
  unfold wps
  (conv => whnf)
  refine szK_of (by rw [List.length_map]; omega) ?_
  refine compK_map (enc := Tr.str) (g := fun _ => Tr.bl true) (fun row hrw k hk => ?_) ?_
  · obtain ⟨r1, r2⟩ := hrow row hrw
    (conv => whnf)
    refine callQ rfl fun φ1 ε1 k1 => ⟨m, row, rfl, rfl, rowB_of (by omega) r2, gm.ok.la, by have := gm.ok.ls; omega, by have := gm.ok.le; omega, fun o ho => k1 _ (nP_oT o) ?_⟩
    clear k1
    (conv => whnf)
    refine callQ rfl fun φ1 ε1 k1 => ⟨A1, S1, E1, A2, S2, E2, row, rfl, rfl, by omega, by omega, by omega, by omega, by omega, by omega, by omega, fun od hod => k1 _ (nP_oT od) ?_⟩
    clear k1
    have eo := beh_due hod (hm row o ho)
    subst eo
    cases o with
    | none =>
      (conv => whnf)
      exact ⟨rfl, hk⟩
    | some c =>
      (conv => whnf)
      rw [show decide (c = c) = true from decide_eq_true rfl]
      exact hk
  ((conv => whnf); repeat (first | (refine noP_of rfl ?_; conv => whnf) | (refine Exists.intro _ (And.intro rfl ?_); conv => whnf)))
  refine ⟨all.map fun _ => true, by rw [List.map_map]; rfl, ?_⟩
  rw [show (all.map fun _ => true).all id = true by simp]
  exact h n1
theorem mid11b {A1 A2 : List Ar} {S1 E1 S2 E2 : List (List Nat)} {ns : List Int} {n0 : Nat} (h1 : MkE 5 A1 S1 E1) (h2 : MkE 4 A2 S2 E2) (hn0 : n0 ≤ 90000) {nx : SK} {rt : EK} {bk ct : SK} {εx : EX} (h : ∀ n, rt (.bl true) [.src n]) :
    wps ir_law_k11_t4 nx rt bk ct εx [some (.scr ns), some (.ptr 0), some (madeT A1 S1 E1), some (madeT A2 S2 E2), none, none, none, none, none, none] [.src n0] := by
  have b2 := h2.ls
  have c2 := h2.le
  (conv => whnf)
  refine callS1 (n := n0) rfl rfl fun φ1 ε1 k1 => ⟨n0, 2, rfl, rfl, by omega, by decide, by decide, fun d hd0 hd1 => k1 _ _ rfl ?_⟩
  clear k1
  (conv => whnf)
  cases ed : decide (d = 0) with
  | true =>
    ((conv => whnf); repeat (first | (refine noP_of rfl ?_; conv => whnf) | (refine Exists.intro _ (And.intro rfl ?_); conv => whnf)))
    refine szK_of (by rw [show (1 : Int) = ((1 : Nat) : Int) from rfl, fstN, List.length_take, List.length_map, List.length_map]; omega) ?_
    (conv => whnf)
    refine noP_of rfl ?_
    rw [show (1 : Int) = ((1 : Nat) : Int) from rfl, fstN, ← List.map_take, ← List.map_append]
    exact rest11 h1 h2.more (by omega) h
  | false => exact rest11 h1 h2.up (by omega) h
theorem mid11 {A1 A2 : List Ar} {S1 E1 S2 E2 : List (List Nat)} {ns : List Int} {n0 : Nat} (h1 : MkE 4 A1 S1 E1) (h2 : MkE 4 A2 S2 E2) (hn0 : n0 ≤ 80000) {nx : SK} {rt : EK} {bk ct : SK} {εx : EX} (h : ∀ n, rt (.bl true) [.src n]) :
    wps ir_law_k11_t3 nx rt bk ct εx [some (.scr ns), some (.ptr 0), some (madeT A1 S1 E1), some (madeT A2 S2 E2), none, none, none, none, none, none] [.src n0] := by
  have b2 := h1.ls
  have c2 := h1.le
  (conv => whnf)
  refine callS1 (n := n0) rfl rfl fun φ1 ε1 k1 => ⟨n0, 2, rfl, rfl, by omega, by decide, by decide, fun d hd0 hd1 => k1 _ _ rfl ?_⟩
  clear k1
  (conv => whnf)
  cases ed : decide (d = 0) with
  | true =>
    ((conv => whnf); repeat (first | (refine noP_of rfl ?_; conv => whnf) | (refine Exists.intro _ (And.intro rfl ?_); conv => whnf)))
    refine szK_of (by rw [show (1 : Int) = ((1 : Nat) : Int) from rfl, fstN, List.length_take, List.length_map, List.length_map]; omega) ?_
    (conv => whnf)
    refine noP_of rfl ?_
    rw [show (1 : Int) = ((1 : Nat) : Int) from rfl, fstN, ← List.map_take, ← List.map_append]
    exact mid11b h1.more h2 (by omega) h
  | false => exact mid11b h1.up h2 (by omega) h
def ir_law_k11 : Sm := (.seq (.asg (.nm 1) (.src 0)) (.seq (.asg (.cons (.nm 2) (.cons (.nm 3) .nil)) (.tup (.cons (.call c_law_machine (.cons (.nm 1) (.cons (.c (.int 3)) (.cons (.c (.int 2)) (.cons (.c (.int 7)) .nil))))) (.cons (.call c_law_machine (.cons (.nm 1) (.cons (.c (.int 3)) (.cons (.c (.int 2)) (.cons (.c (.int 7)) .nil))))) .nil)))) (.seq (.ite (.cmp .eq (.call c_law_draw (.cons (.nm 1) (.cons (.c (.int 8)) .nil))) (.c (.int 0))) (.asg (.nm 2) (.call c_law_pick (.cons (.nm 1) (.cons (.lst (.cons (.tup (.cons (.lst .nil) (.cons (.lst .nil) (.cons (.lst .nil) .nil)))) (.cons (.tup (.cons (.lst .nil) (.cons (.lst (.cons (.c (.str [97])) .nil)) (.cons (.lst (.cons (.c (.str [97])) .nil)) .nil)))) (.cons (.tup (.cons (.ix (.nm 2) (.c (.int 0))) (.cons (.lst .nil) (.cons (.ix (.nm 2) (.c (.int 2))) .nil)))) .nil)))) .nil)))) .skip) (.seq (.ite (.cmp .eq (.call c_law_draw (.cons (.nm 1) (.cons (.c (.int 2)) .nil))) (.c (.int 0))) (.asg (.nm 2) (.tup (.cons (.ix (.nm 2) (.c (.int 0))) (.cons (.ix (.nm 2) (.c (.int 1))) (.cons (.addL (.ix (.nm 2) (.c (.int 2))) (.sl01 (.ix (.nm 2) (.c (.int 1))) (.c (.int 1)))) .nil))))) .skip) (.seq (.ite (.cmp .eq (.call c_law_draw (.cons (.nm 1) (.cons (.c (.int 2)) .nil))) (.c (.int 0))) (.asg (.nm 3) (.tup (.cons (.ix (.nm 3) (.c (.int 0))) (.cons (.ix (.nm 3) (.c (.int 1))) (.cons (.addL (.ix (.nm 3) (.c (.int 2))) (.sl01 (.ix (.nm 3) (.c (.int 1))) (.c (.int 1)))) .nil))))) .skip) (.seq (.par [4, 5] (.cons (.new 0 c_Machine_init (.cons (.ix (.nm 2) (.c (.int 0))) (.cons (.ix (.nm 2) (.c (.int 1))) (.cons (.ix (.nm 2) (.c (.int 2))) .nil)))) (.cons (.new 0 c_Machine_init (.cons (.ix (.nm 3) (.c (.int 0))) (.cons (.ix (.nm 3) (.c (.int 1))) (.cons (.ix (.nm 3) (.c (.int 2))) .nil)))) .nil))) (.seq (.asg (.nm 6) (.call c_behind (.cons (.nm 4) (.cons (.nm 5) .nil)))) (.seq (.ite (.cmp .gt (.blt .len (.cons (.prp 0 c_Machine_states (.nm 6)) .nil)) (.op .add (.blt .len (.cons (.prp 0 c_Machine_states (.nm 4)) .nil)) (.blt .len (.cons (.prp 0 c_Machine_states (.nm 5)) .nil)))) (.ret (.c (.bl false))) .skip) (.seq (.asg (.nm 7) (.addL (.call c_law_rows (.cons (.lst (.cons (.c (.str [97])) (.cons (.c (.str [98])) .nil))) (.cons (.c (.int 4)) .nil))) (.comp (.nm 8) [8] (.rng (.c (.int 0)) (.c (.int 2))) .yes (.sl01 (.call c_law_waves (.cons (.nm 1) (.cons (.lst (.cons (.c (.str [97])) (.cons (.c (.str [98])) .nil))) (.cons (.c (.int 2)) .nil)))) (.c (.int 30)))))) (.ret (.blt .all (.cons (.comp (.nm 9) [9] (.itS (.nm 7)) .yes (.cmp .eq (.call c_price (.cons (.nm 6) (.cons (.nm 9) .nil))) (.call c_law_due (.cons (.nm 2) (.cons (.nm 3) (.cons (.nm 9) .nil)))))) .nil))))))))))))
theorem wp_law_k11 : ∀ ts μ φ ε, c_law ts μ φ ε → ts.length = 1 ∧ wpB ir_law_k11 9 ts μ φ ε := by
  rintro ts μ φ ε ⟨ns, rfl, rfl, h⟩
  refine ⟨rfl, ?_⟩
  (conv => whnf)
  refine callS1 (n := 0) rfl rfl fun φ1 ε1 k1 => ⟨0, 3, 2, 7, rfl, rfl, by decide, by decide, by decide, by decide, by decide, by decide, by decide, fun as ss es n0 hD hn0 => k1 _ _ rfl ?_⟩
  clear k1
  (conv => whnf)
  refine callS1 (n := n0) rfl rfl fun φ1 ε1 k1 => ⟨n0, 3, 2, 7, rfl, rfl, by decide, by decide, by decide, by decide, by decide, by decide, by omega, fun as2 ss2 es2 n1 hD2 hn1 => k1 _ _ rfl ?_⟩
  clear k1
  (conv => whnf)
  refine noP_of rfl ?_
  (conv => whnf)
  refine callS1 (n := n1) rfl rfl fun φ1 ε1 k1 => ⟨n1, 8, rfl, rfl, by omega, by decide, by decide, fun d hd0 hd1 => k1 _ _ rfl ?_⟩
  clear k1
  have M1 := hD.mkE
  have M2 := hD2.mkE
  (conv => whnf)
  cases ed : decide (d = 0) with
  | true =>
    ((conv => whnf); repeat (first | (refine noP_of rfl ?_; conv => whnf) | (refine Exists.intro _ (And.intro rfl ?_); conv => whnf)))
    refine callS1 (n := n1 + 1) rfl rfl fun φ1 ε1 k1 => ⟨_, _, rfl, rfl, by omega, by show 0 < 3; decide, by show 3 < 1000; decide, rfl, fun t ht => ?_⟩
    obtain ⟨A1, S1, E1, hA1, rfl⟩ : ∃ A1 S1 E1, MkE 4 A1 S1 E1 ∧ t = madeT A1 S1 E1 := by
      rcases List.mem_cons.mp ht with rfl | ht
      · exact ⟨[], [], [], ⟨⟨[], by decide, (fun _ h => nomatch h), (fun _ h => nomatch h), (fun _ h => nomatch h), (fun _ h => nomatch h)⟩, (fun _ h => nomatch h), by decide, by decide, by decide⟩, rfl⟩
      · rcases List.mem_cons.mp ht with rfl | ht
        · exact ⟨[], [[97]], [[97]], ⟨⟨[[97]], by decide, by decide, (fun _ h => nomatch h), fun _ h => h, fun _ h => h⟩, (fun _ h => nomatch h), by decide, by decide, by decide⟩, rfl⟩
        · cases List.mem_singleton.mp ht
          obtain ⟨n1, l1, q1, q2, q3, q4⟩ := M1.ex
          exact ⟨as, [], es, ⟨⟨n1, l1, q1, q2, (fun _ h => nomatch h), q4⟩, M1.ok, M1.la, by decide, M1.le⟩, rfl⟩
    refine k1 _ _ rfl ?_
    exact mid11 hA1 M2 (by omega) fun n => h
  | false => exact mid11 M1 M2 (by omega) fun n => h
end G

namespace G
open Ir
/-! Nf: one machine behind another: the def. -/
def c_markedO : Con := fun ts μ φ ε => ∃ (m : Mc) (i : Int), ts = [mT m, .int i] ∧ μ = [] ∧ Good m ∧ φ (.tup [.lst ((m.as.map (mkA i)).map gT), .lst ((m.ss.map (mk i)).map ktT), .lst ((m.es.map (mk i)).map ktT)]) []
def ir_markedO : Sm := (.asg (.nm 2) (.ow (.comp (.cons (.nm 3) (.cons (.nm 4) (.cons (.nm 5) (.cons (.nm 6) .nil)))) [3, 4, 5, 6] (.itS (.prp 0 c_Machine_arrows (.nm 0))) .yes (.tup (.cons (.tup (.cons (.nm 1) (.cons (.nm 3) .nil))) (.cons (.nm 4) (.cons (.tup (.cons (.nm 1) (.cons (.nm 5) .nil))) (.cons (.nm 6) .nil))))))))
def ia_markedO : I := (.cons (.nm 2) (.cons (.comp (.nm 3) [3] (.itS (.prp 0 c_Machine_starts (.nm 0))) .yes (.tup (.cons (.nm 1) (.cons (.nm 3) .nil)))) (.cons (.comp (.nm 3) [3] (.itS (.prp 0 c_Machine_ends (.nm 0))) .yes (.tup (.cons (.nm 1) (.cons (.nm 3) .nil)))) .nil)))
theorem wp_markedO : ∀ ts φ, c_markedO ts [] φ (fun _ _ => False) → ts.length = 2 ∧ wpO ir_markedO ia_markedO 5 ts φ := by
  rintro ts φ ⟨m, i, rfl, _, hm, h⟩
  refine ⟨rfl, ?_⟩
  have la := hm.ok.la
  have ls := hm.ok.ls
  have le := hm.ok.le
  (conv => whnf)
  refine callQ rfl fun φ1 ε1 k1 => ⟨m, rfl, rfl, k1 _ rfl ?_⟩
  clear k1
  (conv => whnf)
  refine szK_of (by rw [List.length_map]; omega) ?_
  refine compK_map (enc := tA) (g := fun x => gT (mkA i x)) (fun x _ k hk => ?_) ?_
  · ((conv => whnf); repeat (first | (refine noP_of rfl ?_; conv => whnf) | (refine Exists.intro _ (And.intro rfl ?_); conv => whnf)))
    exact hk
  (conv => whnf)
  refine callQ rfl fun φ1 ε1 k1 => ⟨m, rfl, rfl, k1 _ rfl ?_⟩
  clear k1
  (conv => whnf)
  refine szK_of (by rw [List.length_map]; omega) ?_
  refine compK_map (enc := Tr.str) (g := fun s => ktT (mk i s)) (fun x _ k hk => ?_) ?_
  · ((conv => whnf); repeat (first | (refine noP_of rfl ?_; conv => whnf) | (refine Exists.intro _ (And.intro rfl ?_); conv => whnf)))
    exact hk
  (conv => whnf)
  refine callQ rfl fun φ1 ε1 k1 => ⟨m, rfl, rfl, k1 _ rfl ?_⟩
  clear k1
  (conv => whnf)
  refine szK_of (by rw [List.length_map]; omega) ?_
  refine compK_map (enc := Tr.str) (g := fun s => ktT (mk i s)) (fun x _ k hk => ?_) ?_
  · ((conv => whnf); repeat (first | (refine noP_of rfl ?_; conv => whnf) | (refine Exists.intro _ (And.intro rfl ?_); conv => whnf)))
    exact hk
  ((conv => whnf); repeat (first | (refine noP_of rfl ?_; conv => whnf) | (refine Exists.intro _ (And.intro rfl ?_); conv => whnf)))
  have e1 : (m.as.map fun x => gT (mkA i x)) = (m.as.map (mkA i)).map gT := by rw [List.map_map]; rfl
  have e2 : ∀ l : List (List Nat), (l.map fun s => ktT (mk i s)) = (l.map (mk i)).map ktT := fun l => by rw [List.map_map]; rfl
  rw [e1, e2, e2]
  exact h
def ir_behind : Sm := (.seq (.unpO 2 (.cons (.nm 3) (.cons (.nm 4) .nil)) c_markedO (.cons (.nm 0) (.cons (.c (.int 1)) .nil))) (.seq (.unpO 5 (.cons (.nm 6) (.cons (.nm 7) .nil)) c_markedO (.cons (.nm 1) (.cons (.c (.int 2)) .nil))) (.seq (.asg (.nm 8) (.blt .any (.cons (.comp (.nm 9) [9] (.itS (.prp 0 c_Machine_starts (.nm 0))) .yes (.cmp .isin (.nm 9) (.prp 0 c_Machine_ends (.nm 0)))) .nil))) (.seq (.for (.cons (.nm 9) (.cons (.nm 10) (.cons (.nm 11) (.cons (.nm 12) .nil)))) (.itS (.blt .list (.cons (.nm 2) .nil))) (.ite (.cmp .isin (.nm 11) (.nm 4)) (.ext 2 (.comp (.nm 14) [14] (.itS (.nm 6)) .yes (.tup (.cons (.nm 9) (.cons (.nm 10) (.cons (.nm 14) (.cons (.nm 12) .nil))))))) .skip)) (.seq (.asg (.nm 13) (.ife (.nm 8) (.addL (.nm 3) (.nm 6)) (.nm 3))) (.ret (.call c_named_anew (.cons (.addL (.nm 2) (.nm 5)) (.cons (.nm 13) (.cons (.nm 7) .nil))))))))))
/-- what the loop has put behind -/
def brs (m1 m2 : Mc) (pre : List Ar) : List GA := (pre.filter fun x => decide (x.a ∈ m1.es)).flatMap fun x => m2.ss.map (brA x)
theorem brs_len {m1 m2 : Mc} : ∀ pre : List Ar, (brs m1 m2 pre).length ≤ pre.length * m2.ss.length := fun pre => by
  unfold brs
  refine Nat.le_trans (flat_le (m := m2.ss.length) fun x _ => by rw [List.length_map]; exact Nat.le_refl _) ?_
  exact Nat.mul_le_mul_right _ (List.length_filter_le _ _)
theorem brs_snoc {m1 m2 : Mc} (pre : List Ar) (x : Ar) : brs m1 m2 (pre ++ [x]) = brs m1 m2 pre ++ (if x.a ∈ m1.es then m2.ss.map (brA x) else []) := by
  unfold brs
  rw [List.filter_append, List.flatMap_append]
  by_cases h : x.a ∈ m1.es
  · rw [if_pos h]; simp [h]
  · rw [if_neg h]; simp [h]
theorem wp_behind : ∀ ts μ φ ε, c_behind ts μ φ ε → ts.length = 2 ∧ wpB ir_behind 13 ts μ φ ε := by
  rintro ts μ φ ε ⟨m1, m2, rfl, rfl, h1, h2, la, ls, le, lst, h⟩
  refine ⟨rfl, ?_⟩
  have hne := h1.ok.ls
  (conv => whnf)
  refine noP_of rfl ?_
  (conv => whnf)
  refine ⟨m1, 1, rfl, rfl, h1, ?_⟩
  (conv => whnf)
  refine noP_of rfl ?_
  (conv => whnf)
  refine ⟨m2, 2, rfl, rfl, h2, ?_⟩
  (conv => whnf)
  refine callQ rfl fun φ1 ε1 k1 => ⟨m1, rfl, rfl, k1 _ rfl ?_⟩
  clear k1
  (conv => whnf)
  refine szK_of (by rw [List.length_map]; omega) ?_
  refine compK_map (enc := Tr.str) (g := fun s => Tr.bl (decide (s ∈ m1.es))) (fun s hs k hk => ?_) ?_
  · (conv => whnf)
    refine callQ rfl fun φ1 ε1 k1 => ⟨m1, rfl, rfl, k1 _ rfl ?_⟩
    clear k1
    (conv => whnf)
    refine ⟨?_, ?_⟩
    · simp [isF, List.all_map]
    · have e : ((m1.es.map Tr.str).any fun t => eqT t (.str s)) = decide (s ∈ m1.es) := (any_enc eqS m1.es s).trans (by congr)
      rw [e]
      (conv => whnf)
      exact hk
  rw [bools]
  (conv => whnf)
  refine ⟨_, rfl, ?_⟩
  have hes : ∀ l : List (List Nat), ((l.map (mk 1)).map ktT) = l.map fun s => ktT (mk 1 s) := fun l => by rw [List.map_map]; rfl
  have hbs := brs_len (m1 := m1) (m2 := m2)
  (conv => whnf)
  rw [List.map_map]
  refine forK_at (enc := gT ∘ mkA 1) (all := m1.as) (fun pre ρ μ => ∃ o9 o10 o11 o12, ρ = [some (mT m1), some (mT m2), some (.ptr 0), some (.lst ((m1.ss.map (mk 1)).map ktT)), some (.lst ((m1.es.map (mk 1)).map ktT)), some (.ptr 1), some (.lst ((m2.ss.map (mk 2)).map ktT)), some (.lst ((m2.es.map (mk 2)).map ktT)), some (.bl ((m1.ss.map fun s => decide (s ∈ m1.es)).any id)), o9, o10, o11, o12, none, none] ∧ μ = [.lst ((m1.as.map (mkA 1) ++ brs m1 m2 pre).map gT), .lst ((m2.as.map (mkA 2)).map gT)]) (pre := []) rfl ⟨none, none, none, none, rfl, ?_⟩ ?_ ?_
  · unfold brs
    simp
  · rintro pre x post ρ μ hall ⟨o9, o10, o11, o12, rfl, rfl⟩ k hk
    have hlp := app_len hall
    have hx1 : x ∈ m1.as := app_mem hall
    have hl1 := hbs pre
    have hl2 : (pre.length + 1) * m2.ss.length ≤ m1.as.length * m2.ss.length := Nat.mul_le_mul_right _ (by omega)
    have hl3 : (pre.length + 1) * m2.ss.length = pre.length * m2.ss.length + m2.ss.length := by rw [Nat.add_mul]; omega
    have dK : ∀ s : List Nat, nameB s = true → isD 60 (ktT (mk 1 s)) = true := fun s hs => by
      show (true && (okS s && true)) = true
      rw [okS_name hs]
      rfl
    have hxa : nameB x.a = true := by
      have := h1.ok.oa x hx1
      unfold okAr at this
      simp only [Bool.and_eq_true] at this
      exact this.1.2
    (conv => whnf)
    refine ⟨?_, ?_⟩
    · refine Bool.or_eq_true_iff.mpr (.inr ?_)
      have e1 := dK x.a hxa
      have e2 : isDs 60 (List.map ktT (List.map (mk 1) m1.es)) = true := by
        rw [List.map_map]
        exact isDs_map fun s hs => dK s (h1.ok.oe s hs)
      exact Bool.and_eq_true_iff.mpr ⟨e1, e2⟩
    have e : ((List.map ktT (List.map (mk 1) m1.es)).any fun t => eqT t (ktT (mkA 1 x).a)) = decide (x.a ∈ m1.es) := by
      rw [any_enc eqKt]
      refine decide_eq_decide.mpr ?_
      rw [List.mem_map]
      exact ⟨fun ⟨s, hs, e⟩ => (mk_inj e).2 ▸ hs, fun h => ⟨_, h, rfl⟩⟩
    rw [e]
    cases e2 : decide (x.a ∈ m1.es) with
    | false =>
      (conv => whnf)
      refine hk _ _ ⟨_, _, _, _, rfl, ?_⟩
      rw [brs_snoc, if_neg (of_decide_eq_false e2)]
      simp
    | true =>
      (conv => whnf)
      refine szK_of (by rw [List.length_map, List.length_map]; omega) ?_
      have e5 : (m2.ss.map (mk 2)).map ktT = m2.ss.map (ktT ∘ mk 2) := List.map_map
      rw [e5]
      refine compK_map (enc := ktT ∘ mk 2) (g := fun b => gT (brA x b)) (fun b _ k hk => ?_) ?_
      · ((conv => whnf); repeat (first | (refine noP_of rfl ?_; conv => whnf) | (refine Exists.intro _ (And.intro rfl ?_); conv => whnf)))
        exact hk
      (conv => whnf)
      refine szK_of (by simp; omega) ?_
      refine hk _ _ ⟨_, _, _, _, by rw [e5], ?_⟩
      rw [brs_snoc, if_pos (of_decide_eq_true e2)]
      simp
  rintro ρ μ ⟨o9, o10, o11, o12, rfl, rfl⟩
  have hN : ((m1.ss.map fun s => decide (s ∈ m1.es)).any id) = nothing m1 := by
    unfold nothing
    rw [List.any_map]
    rfl
  rw [hN]
  have hL := hbs m1.as
  have key : ∀ bs : List Kt, bs = behS m1 m2 → wps (.ret (I.call c_named_anew (((I.nm 2).addL (I.nm 5)).cons ((I.nm 13).cons ((I.nm 7).cons I.nil))))) (fun _ _ => False) (fun t μ' => match t with | .ptr _ => False | t => φ t (List.take 0 μ')) (fun _ _ => False) (fun _ _ => False) (fun t _ μ' => match t with | .ptr _ => False | t => ε t (List.take 0 μ'))
      [some (mT m1), some (mT m2), some (.ptr 0), some (.lst ((m1.ss.map (mk 1)).map ktT)), some (.lst ((m1.es.map (mk 1)).map ktT)), some (.ptr 1), some (.lst ((m2.ss.map (mk 2)).map ktT)), some (.lst ((m2.es.map (mk 2)).map ktT)), some (.bl (nothing m1)), o9, o10, o11, o12, some (.lst (bs.map ktT)), none] [.lst ((m1.as.map (mkA 1) ++ brs m1 m2 m1.as).map gT), .lst ((m2.as.map (mkA 2)).map gT)] := by
    rintro bs rfl
    (conv => whnf)
    refine szK_of (by simp; omega) ?_
    rw [← List.map_append]
    (conv => whnf)
    have hbeh : m1.as.map (mkA 1) ++ brs m1 m2 m1.as ++ m2.as.map (mkA 2) = behA m1 m2 := rfl
    rw [hbeh]
    have hlen : (behA m1 m2).length ≤ 400 := by
      rw [← hbeh, List.length_append, List.length_append, List.length_map, List.length_map]
      omega
    have hsl : (behS m1 m2).length ≤ 400 := by
      unfold behS
      split
      · rw [List.length_append, List.length_map, List.length_map]; omega
      · rw [List.length_map]; omega
    have hin : ∀ k, k ∈ m1.st.map (mk 1) ++ m2.st.map (mk 2) ↔ (∃ s ∈ m1.st, k = mk 1 s) ∨ ∃ s ∈ m2.st, k = mk 2 s := fun k => by
      rw [List.mem_append, List.mem_map, List.mem_map]
      exact ⟨fun h => h.imp (fun ⟨s, a, b⟩ => ⟨s, a, b.symm⟩) (fun ⟨s, a, b⟩ => ⟨s, a, b.symm⟩), fun h => h.imp (fun ⟨s, a, b⟩ => ⟨s, a, b.symm⟩) (fun ⟨s, a, b⟩ => ⟨s, a, b.symm⟩)⟩
    have hG : ∀ k ∈ gst (behA m1 m2) (behS m1 m2) (m2.es.map (mk 2)), k ∈ m1.st.map (mk 1) ++ m2.st.map (mk 2) := fun k hk => by
      rw [hin]
      rcases List.mem_append.mp hk with hk | hk
      · rcases List.mem_append.mp hk with hk | hk
        · rcases behS_mem.mp hk with ⟨s, hs, e⟩ | ⟨_, s, hs, e⟩
          · exact .inl ⟨s, Good.inS.1 s hs, e⟩
          · exact .inr ⟨s, Good.inS.1 s hs, e⟩
        · obtain ⟨s, hs, rfl⟩ := List.mem_map.mp hk
          exact .inr ⟨s, Good.inS.2.1 s hs, rfl⟩
      · obtain ⟨x, hx, hk⟩ := List.mem_flatMap.mp hk
        rcases behA_mem.mp hx with ⟨y, hy, rfl⟩ | ⟨y, hy, _, b, hb, rfl⟩ | ⟨y, hy, rfl⟩
        · have := Good.inS.2.2 y hy
          rcases List.mem_cons.mp hk with rfl | hk
          · exact .inl ⟨y.s, this.1, rfl⟩
          · cases List.mem_singleton.mp hk
            exact .inl ⟨y.a, this.2, rfl⟩
        · have := Good.inS.2.2 y hy
          rcases List.mem_cons.mp hk with rfl | hk
          · exact .inl ⟨y.s, this.1, rfl⟩
          · cases List.mem_singleton.mp hk
            exact .inr ⟨b, Good.inS.1 b hb, rfl⟩
        · have := Good.inS.2.2 y hy
          rcases List.mem_cons.mp hk with rfl | hk
          · exact .inr ⟨y.s, this.1, rfl⟩
          · cases List.mem_singleton.mp hk
            exact .inr ⟨y.a, this.2, rfl⟩
    have hxo : ∀ x ∈ behA m1 m2, letB x.l = true ∧ 0 ≤ x.p ∧ x.p ≤ 99 := fun x hx => by
      rcases behA_mem.mp hx with ⟨y, hy, rfl⟩ | ⟨y, hy, _, b, hb, rfl⟩ | ⟨y, hy, rfl⟩
      · exact okAr_lp (h1.ok.oa y hy)
      · exact okAr_lp (h1.ok.oa y hy)
      · exact okAr_lp (h2.ok.oa y hy)
    have hlN : (m1.st.map (mk 1) ++ m2.st.map (mk 2)).length = m1.st.length + m2.st.length := by rw [List.length_append, List.length_map, List.length_map]
    refine callQ rfl fun φ1 ε1 k1 => ⟨_, _, _, m1.st.map (mk 1) ++ m2.st.map (mk 2), [true, false], rfl, rfl, by simp, fun k hk => ?_, hlen, hsl, by simp; omega, hG, by omega, hxo, fun nm hi hn => k1 _ rfl ?_⟩
    · rcases (hin k).mp (hG k hk) with ⟨s, _, rfl⟩ | ⟨s, _, rfl⟩ <;> rfl
    · have okR := okM_ren (nm := nm) hlen hsl (by simp; omega) hG (by omega) hxo hn
      refine h _ (good_mk okR) (by have := st_ren (nm := nm) hG; omega) fun row o ho => (min_ren hi ho).congr fun c => beh_iff
  cases hn : nothing m1 with
  | false =>
    (conv => whnf)
    have := key (m1.ss.map (mk 1)) (by unfold behS; rw [hn]; rfl)
    rw [hn] at this
    exact this
  | true =>
    (conv => whnf)
    refine szK_of (by simp; omega) ?_
    rw [← List.map_append]
    have := key (m1.ss.map (mk 1) ++ m2.ss.map (mk 2)) (by unfold behS; rw [hn]; rfl)
    rw [hn] at this
    exact this
end G

namespace G
section
open PySem PySem.Spec PyProof.Rows L2 Wx
def topS (i : Nat) : Stmt := PySem.Challenge.pw_enoughpaid_k11_one_behind_another.main.body.getD i (.Pass ⟨0, 0, 0, 0⟩)
abbrev s_is_name : Stmt := topS 14
abbrev N_is_name : List Str := ["value", "sign"]
theorem sc_is_name : FnScope N_is_name ["value"] (defScope s_is_name) := ⟨rfl, rfl, rfl, by decide +kernel, rfl, by decide +kernel, by decide +kernel⟩
abbrev s_is_letter : Stmt := topS 15
abbrev N_is_letter : List Str := ["value"]
theorem sc_is_letter : FnScope N_is_letter ["value"] (defScope s_is_letter) := ⟨rfl, rfl, rfl, by decide +kernel, rfl, by decide +kernel, by decide +kernel⟩
abbrev s_is_row : Stmt := topS 16
abbrev N_is_row : List Str := ["value", "sign"]
theorem sc_is_row : FnScope N_is_row ["value"] (defScope s_is_row) := ⟨rfl, rfl, rfl, by decide +kernel, rfl, by decide +kernel, by decide +kernel⟩
abbrev s_check_row : Stmt := topS 17
abbrev N_check_row : List Str := ["row"]
theorem sc_check_row : FnScope N_check_row ["row"] (defScope s_check_row) := ⟨rfl, rfl, rfl, by decide +kernel, rfl, by decide +kernel, by decide +kernel⟩
abbrev s_is_price : Stmt := topS 18
abbrev N_is_price : List Str := ["value"]
theorem sc_is_price : FnScope N_is_price ["value"] (defScope s_is_price) := ⟨rfl, rfl, rfl, by decide +kernel, rfl, by decide +kernel, by decide +kernel⟩
abbrev s_is_arrow : Stmt := topS 19
abbrev N_is_arrow : List Str := ["value", "state", "letter", "after", "price"]
theorem sc_is_arrow : FnScope N_is_arrow ["value"] (defScope s_is_arrow) := ⟨rfl, rfl, rfl, by decide +kernel, rfl, by decide +kernel, by decide +kernel⟩
abbrev s_each_once : Stmt := topS 20
abbrev N_each_once : List Str := ["names", "name"]
theorem sc_each_once : FnScope N_each_once ["names"] (defScope s_each_once) := ⟨rfl, rfl, rfl, by decide +kernel, rfl, by decide +kernel, by decide +kernel⟩
abbrev s_cheapest : Stmt := topS 21
abbrev N_cheapest : List Str := ["arrows", "prices", "state", "letter", "after", "price", "key"]
theorem sc_cheapest : FnScope N_cheapest ["arrows"] (defScope s_cheapest) := ⟨rfl, rfl, rfl, by decide +kernel, rfl, by decide +kernel, by decide +kernel⟩
abbrev s_Machine_init : Stmt := inClass (topS 22) 0
abbrev N_Machine_init : List Str := ["self", "arrows", "starts", "ends", "line", "state", "found", "letter", "after", "price"]
theorem sc_Machine_init : FnScope N_Machine_init ["self", "arrows", "starts", "ends"] (defScope s_Machine_init) := ⟨rfl, rfl, rfl, by decide +kernel, rfl, by decide +kernel, by decide +kernel⟩
abbrev s_Machine_arrows : Stmt := inClass (topS 22) 2
abbrev N_Machine_arrows : List Str := ["self"]
theorem sc_Machine_arrows : FnScope N_Machine_arrows ["self"] (defScope s_Machine_arrows) := ⟨rfl, rfl, rfl, by decide +kernel, rfl, by decide +kernel, by decide +kernel⟩
abbrev s_Machine_starts : Stmt := inClass (topS 22) 3
abbrev N_Machine_starts : List Str := ["self"]
theorem sc_Machine_starts : FnScope N_Machine_starts ["self"] (defScope s_Machine_starts) := ⟨rfl, rfl, rfl, by decide +kernel, rfl, by decide +kernel, by decide +kernel⟩
abbrev s_Machine_ends : Stmt := inClass (topS 22) 4
abbrev N_Machine_ends : List Str := ["self"]
theorem sc_Machine_ends : FnScope N_Machine_ends ["self"] (defScope s_Machine_ends) := ⟨rfl, rfl, rfl, by decide +kernel, rfl, by decide +kernel, by decide +kernel⟩
abbrev s_Machine_states : Stmt := inClass (topS 22) 5
abbrev N_Machine_states : List Str := ["self"]
theorem sc_Machine_states : FnScope N_Machine_states ["self"] (defScope s_Machine_states) := ⟨rfl, rfl, rfl, by decide +kernel, rfl, by decide +kernel, by decide +kernel⟩
abbrev s_name_of : Stmt := topS 25
abbrev N_name_of : List Str := ["number"]
theorem sc_name_of : FnScope N_name_of ["number"] (defScope s_name_of) := ⟨rfl, rfl, rfl, by decide +kernel, rfl, by decide +kernel, by decide +kernel⟩
abbrev s_named_anew : Stmt := topS 26
abbrev N_named_anew : List Str := ["arrows", "starts", "ends", "found", "state", "letter", "after", "price", "names", "renamed", "k"]
theorem sc_named_anew : FnScope N_named_anew ["arrows", "starts", "ends"] (defScope s_named_anew) := ⟨rfl, rfl, rfl, by decide +kernel, rfl, by decide +kernel, by decide +kernel⟩
abbrev s_marked : Stmt := topS 27
abbrev N_marked : List Str := ["machine", "mark", "arrows", "state", "letter", "after", "price"]
theorem sc_marked : FnScope N_marked ["machine", "mark"] (defScope s_marked) := ⟨rfl, rfl, rfl, by decide +kernel, rfl, by decide +kernel, by decide +kernel⟩
abbrev s_behind : Stmt := topS 28
abbrev N_behind : List Str := ["one", "other", "arrows", "starts", "ends", "more", "more_starts", "more_ends", "reads_nothing", "state", "letter", "after", "price", "begins", "begin"]
theorem sc_behind : FnScope N_behind ["one", "other"] (defScope s_behind) := ⟨rfl, rfl, rfl, by decide +kernel, rfl, by decide +kernel, by decide +kernel⟩
abbrev s_stepped : Stmt := topS 30
abbrev N_stepped : List Str := ["machine", "prices", "letter", "found", "state", "price", "after", "more"]
theorem sc_stepped : FnScope N_stepped ["machine", "prices", "letter"] (defScope s_stepped) := ⟨rfl, rfl, rfl, by decide +kernel, rfl, by decide +kernel, by decide +kernel⟩
abbrev s_prices_behind : Stmt := topS 31
abbrev N_prices_behind : List Str := ["machine", "row", "starts", "found", "letter", "state"]
theorem sc_prices_behind : FnScope N_prices_behind ["machine", "row", "starts"] (defScope s_prices_behind) := ⟨rfl, rfl, rfl, by decide +kernel, rfl, by decide +kernel, by decide +kernel⟩
abbrev s_least_at : Stmt := topS 32
abbrev N_least_at : List Str := ["prices", "states", "found", "state"]
theorem sc_least_at : FnScope N_least_at ["prices", "states"] (defScope s_least_at) := ⟨rfl, rfl, rfl, by decide +kernel, rfl, by decide +kernel, by decide +kernel⟩
abbrev s_price : Stmt := topS 33
abbrev N_price : List Str := ["machine", "row"]
theorem sc_price : FnScope N_price ["machine", "row"] (defScope s_price) := ⟨rfl, rfl, rfl, by decide +kernel, rfl, by decide +kernel, by decide +kernel⟩
abbrev s_law_source : Stmt := topS 35
abbrev N_law_source : List Str := ["_law_script", "_law_great", "_law_seed", "_law_cell"]
theorem sc_law_source : FnScope N_law_source ["_law_script"] (defScope s_law_source) := ⟨rfl, rfl, rfl, by decide +kernel, rfl, by decide +kernel, by decide +kernel⟩
abbrev s_law_draw : Stmt := topS 36
abbrev N_law_draw : List Str := ["_law_source_here", "_law_many", "_law_digit", "_law_mixed"]
theorem sc_law_draw : FnScope N_law_draw ["_law_source_here", "_law_many"] (defScope s_law_draw) := ⟨rfl, rfl, rfl, by decide +kernel, rfl, by decide +kernel, by decide +kernel⟩
abbrev s_law_pick : Stmt := topS 37
abbrev N_law_pick : List Str := ["_law_source_here", "_law_things"]
theorem sc_law_pick : FnScope N_law_pick ["_law_source_here", "_law_things"] (defScope s_law_pick) := ⟨rfl, rfl, rfl, by decide +kernel, rfl, by decide +kernel, by decide +kernel⟩
abbrev s_law_subset : Stmt := topS 38
abbrev N_law_subset : List Str := ["_law_source_here", "_law_row_here", "_law_one"]
theorem sc_law_subset : FnScope N_law_subset ["_law_source_here", "_law_row_here"] (defScope s_law_subset) := ⟨rfl, rfl, rfl, by decide +kernel, rfl, by decide +kernel, by decide +kernel⟩
abbrev s_law_name : Stmt := topS 39
abbrev N_law_name : List Str := ["_law_source_here", "_law_taken", "_law_size", "_law_name_here", "_law_k", "_law_one", "_law_letter"]
theorem sc_law_name : FnScope N_law_name ["_law_source_here", "_law_taken"] (defScope s_law_name) := ⟨rfl, rfl, rfl, by decide +kernel, rfl, by decide +kernel, by decide +kernel⟩
abbrev s_law_names : Stmt := topS 40
abbrev N_law_names : List Str := ["_law_source_here", "_law_many", "_law_names_here", "_law_k"]
theorem sc_law_names : FnScope N_law_names ["_law_source_here", "_law_many"] (defScope s_law_names) := ⟨rfl, rfl, rfl, by decide +kernel, rfl, by decide +kernel, by decide +kernel⟩
abbrev s_law_arrows : Stmt := topS 41
abbrev N_law_arrows : List Str := ["_law_source_here", "_law_states", "_law_signs", "_law_most", "_law_found", "_law_k", "_law_cost"]
theorem sc_law_arrows : FnScope N_law_arrows ["_law_source_here", "_law_states", "_law_signs", "_law_most"] (defScope s_law_arrows) := ⟨rfl, rfl, rfl, by decide +kernel, rfl, by decide +kernel, by decide +kernel⟩
abbrev s_law_machine : Stmt := topS 42
abbrev N_law_machine : List Str := ["_law_source_here", "_law_states", "_law_signs", "_law_most", "_law_names_here", "_law_arrows_here", "_law_starts"]
theorem sc_law_machine : FnScope N_law_machine ["_law_source_here", "_law_states", "_law_signs", "_law_most"] (defScope s_law_machine) := ⟨rfl, rfl, rfl, by decide +kernel, rfl, by decide +kernel, by decide +kernel⟩
abbrev s_law_ahead : Stmt := topS 43
abbrev N_law_ahead : List Str := ["_law_arrows_here", "_law_ends", "_law_row_here", "_law_ahead_here", "_law_letter", "_law_found", "_law_state", "_law_sign", "_law_after", "_law_cost", "_law_more"]
theorem sc_law_ahead : FnScope N_law_ahead ["_law_arrows_here", "_law_ends", "_law_row_here"] (defScope s_law_ahead) := ⟨rfl, rfl, rfl, by decide +kernel, rfl, by decide +kernel, by decide +kernel⟩
abbrev s_law_price : Stmt := topS 44
abbrev N_law_price : List Str := ["_law_made", "_law_row_here", "_law_ahead_here", "_law_prices", "_law_state"]
theorem sc_law_price : FnScope N_law_price ["_law_made", "_law_row_here"] (defScope s_law_price) := ⟨rfl, rfl, rfl, by decide +kernel, rfl, by decide +kernel, by decide +kernel⟩
abbrev s_law_rows : Stmt := topS 45
abbrev N_law_rows : List Str := ["_law_signs", "_law_most", "_law_found", "_law_level", "_law_k", "_law_longer", "_law_row_here", "_law_letter"]
theorem sc_law_rows : FnScope N_law_rows ["_law_signs", "_law_most"] (defScope s_law_rows) := ⟨rfl, rfl, rfl, by decide +kernel, rfl, by decide +kernel, by decide +kernel⟩
abbrev s_law_row : Stmt := topS 46
abbrev N_law_row : List Str := ["_law_source_here", "_law_signs", "_law_most", "_law_row_here", "_law_k"]
theorem sc_law_row : FnScope N_law_row ["_law_source_here", "_law_signs", "_law_most"] (defScope s_law_row) := ⟨rfl, rfl, rfl, by decide +kernel, rfl, by decide +kernel, by decide +kernel⟩
abbrev s_law_waves : Stmt := topS 47
abbrev N_law_waves : List Str := ["_law_source_here", "_law_signs", "_law_most", "_law_row_here", "_law_k"]
theorem sc_law_waves : FnScope N_law_waves ["_law_source_here", "_law_signs", "_law_most"] (defScope s_law_waves) := ⟨rfl, rfl, rfl, by decide +kernel, rfl, by decide +kernel, by decide +kernel⟩
abbrev s_law_due : Stmt := topS 48
abbrev N_law_due : List Str := ["_law_first", "_law_second", "_law_row_here", "_law_sums", "_law_cut", "_law_left", "_law_right"]
theorem sc_law_due : FnScope N_law_due ["_law_first", "_law_second", "_law_row_here"] (defScope s_law_due) := ⟨rfl, rfl, rfl, by decide +kernel, rfl, by decide +kernel, by decide +kernel⟩
abbrev s_law : Stmt := topS 49
abbrev N_law : List Str := ["_law_script", "_law_source_here", "_law_first", "_law_second", "_law_one", "_law_other", "_law_machine_here", "_law_rows_here", "_law_k", "_law_row_here"]
theorem sc_law : FnScope N_law ["_law_script"] (defScope s_law) := ⟨rfl, rfl, rfl, by decide +kernel, rfl, by decide +kernel, by decide +kernel⟩
theorem lit_2 : Str.ofString "abcdefghijklmnopqrstuvwxyz" = S [97, 98, 99, 100, 101, 102, 103, 104, 105, 106, 107, 108, 109, 110, 111, 112, 113, 114, 115, 116, 117, 118, 119, 120, 121, 122] := by decide +kernel
theorem lit_6 : Str.ofString "" = S [] := by decide +kernel
theorem lit_7 : Str.ofString "an arrow does not have the form of an arrow" = S [97, 110, 32, 97, 114, 114, 111, 119, 32, 100, 111, 101, 115, 32, 110, 111, 116, 32, 104, 97, 118, 101, 32, 116, 104, 101, 32, 102, 111, 114, 109, 32, 111, 102, 32, 97, 110, 32, 97, 114, 114, 111, 119] := by decide +kernel
theorem lit_8 : Str.ofString "not a state" = S [110, 111, 116, 32, 97, 32, 115, 116, 97, 116, 101] := by decide +kernel
theorem lit_9 : Str.ofString "too many states" = S [116, 111, 111, 32, 109, 97, 110, 121, 32, 115, 116, 97, 116, 101, 115] := by decide +kernel
theorem lit_10 : Str.ofString "not a row" = S [110, 111, 116, 32, 97, 32, 114, 111, 119] := by decide +kernel
theorem lit_11 : Str.ofString "m" = S [109] := by decide +kernel
theorem lit_12 : Str.ofString "a" = S [97] := by decide +kernel
theorem lit_13 : Str.ofString "b" = S [98] := by decide +kernel
theorem lit_14 : Str.ofString "c" = S [99] := by decide +kernel
theorem lit_15 : Str.ofString "d" = S [100] := by decide +kernel
theorem lit_16 : Str.ofString "start" = S [115, 116, 97, 114, 116] := by decide +kernel
theorem lit_17 : Str.ofString "end" = S [101, 110, 100] := by decide +kernel
theorem lit_18 : Str.ofString "free" = S [102, 114, 101, 101] := by decide +kernel
theorem lit_19 : Str.ofString "many" = S [109, 97, 110, 121] := by decide +kernel
theorem lit_20 : Str.ofString "between" = S [98, 101, 116, 119, 101, 101, 110] := by decide +kernel
theorem lit_21 : Str.ofString "q" = S [113] := by decide +kernel
theorem lit_22 : Str.ofString "z" = S [122] := by decide +kernel
theorem lit_23 : Str.ofString "abcdefghijklmnopq" = S [97, 98, 99, 100, 101, 102, 103, 104, 105, 106, 107, 108, 109, 110, 111, 112, 113] := by decide +kernel
local macro_rules | `(tactic| walk_at "lit") => `(tactic| with_reducible first | refine we_strE lit_2 ?_ | refine we_strE lit_6 ?_ | refine we_strE lit_7 ?_ | refine we_strE lit_8 ?_ | refine we_strE lit_9 ?_ | refine we_strE lit_10 ?_ | refine we_strE lit_11 ?_ | refine we_strE lit_12 ?_ | refine we_strE lit_13 ?_ | refine we_strE lit_14 ?_ | refine we_strE lit_15 ?_ | refine we_strE lit_16 ?_ | refine we_strE lit_17 ?_ | refine we_strE lit_18 ?_ | refine we_strE lit_19 ?_ | refine we_strE lit_20 ?_ | refine we_strE lit_21 ?_ | refine we_strE lit_22 ?_ | refine we_strE lit_23 ?_)
local macro_rules | `(tactic| walk_at "at") => `(tactic| with_reducible first | exact atI_0 | exact atI_1 | exact atI_2 | exact atI_3)
local macro_rules | `(tactic| walk_at "ixn") => `(tactic| with_reducible first | exact ixN_0 | exact ixN_1 | exact ixN_2)
local macro_rules | `(tactic| walk_at "ne") => `(tactic| first | assumption | exact Ne.symm (by assumption) | exact ne_new (by assumption) (by walk_at "h") | exact Ne.symm (ne_new (by assumption) (by walk_at "h")))
local macro_rules | `(tactic| walk_at "h") => `(tactic| first | assumption | (with_reducible exact upd_same) | ((with_reducible show upd _ _ _ _ = some _); exact upd_get (by walk_at "ne") (by walk_at "h")) | exact Ex.get (by assumption) (by walk_at "h"))
local macro_rules | `(tactic| walk_at "wa") => `(tactic| with_reducible first
  | refine ws_one ?_ | refine ws_cons ?_ | refine ws_nil ?_ | refine ws_ret ?_ | refine ws_if ?_
  | refine we_int ?_ | walk_at "lit" | refine we_bl ?_ | refine we_non ?_ | refine we_op ?_ | refine we_not ?_ | refine we_un ?_
  | refine wa_nil ?_ | refine wgs_nil ?_ | refine we_tup ?_ | refine we_lst ?_
  | refine wo_add ?_ | refine wo_sub ?_ | refine wo_lt ?_ | refine wo_le ?_ | refine wo_gt ?_ | refine wo_ge ?_ | refine wo_eq ?_ | refine wo_ne ?_ | refine wo_le1 ?_ | refine wo_eqSS ?_ | refine wo_neSS ?_
  | refine wc_int ?_ | refine wu_neg ?_ | refine wip_add ?_ | refine wip_sub ?_ | refine wc_isi_str ?_ | refine wc_isi_int ?_ | refine wc_isi_intB ?_
  | refine wc_strS ?_ | refine wc_min2 rfl ?_ | refine wc_max2 rfl ?_ | refine wo_inS ?_
  | refine wt_bop ?_ | refine ww_and ?_ | refine ww_and1 ?_ | refine ww_or ?_ | refine ww_or1 ?_ | refine wt_not ?_
  | refine we_and ?_ | refine we_or ?_ | refine we_one ?_ | refine we_if ?_ | refine we_count ?_
  | refine ⟨_, rfl, ?_⟩ | refine iteT ?_ | refine iteF ?_ | refine iteN0 ?_ | refine iteN1 ?_)
local macro_rules | `(tactic| walk_at "wb") => `(tactic| first
  | ((with_reducible show WE _ (Expr.Name _ _) _ _ _); first | refine we_nm rfl ?_ | refine we_tyStr (by assumption) ?_ | refine we_tyInt (by assumption) ?_ | refine we_gI (by assumption) ?_ | refine we_gS (by assumption) ?_ | refine we_tyBool (by assumption) ?_ | refine we_tyList (by assumption) ?_ | refine we_tyTuple (by assumption) ?_)
  | ((with_reducible show WA _ (Expr.Starred _ _ :: _) _ _ _); refine wa_star ?_)
  | ((with_reducible show WA _ (_ :: _) _ _ _); refine wa_cons ?_)
  | ((with_reducible show WS _ (Stmt.Assign [Expr.Name _ _] _ _) _ _ _); refine ws_set (by assumption) rfl ?_)
  | ((with_reducible show WS _ (Stmt.Assign [_] _ _) _ _ _); refine ws_asg ?_)
  | ((with_reducible show WS _ (Stmt.AugAssign (Expr.Name _ _) _ _ _) _ _ _); refine ws_aug (by assumption) rfl rfl ?_)
  | ((with_reducible show WS _ (Stmt.Expr _ _) _ _ _); refine ws_expr ?_)
  | ((with_reducible show WE _ (Expr.Compare _ [_] _ _) _ _ _); refine we_cmp ?_)
  | ((with_reducible show WT _ (Expr.Compare _ [_] _ _) _ _ _); refine wt_cmp ?_)
  | ((with_reducible show WE _ (Expr.Compare _ [_, _] _ _) _ _ _); refine we_chain ?_)
  | ((with_reducible show WT _ (Expr.Compare _ [_, _] _ _) _ _ _); refine wt_chain ?_)
  | ((with_reducible show WE _ (Expr.Subscript _ _ _) _ _ _); first | refine we_sl00 ?_ | refine we_sl10 ?_ | refine we_sl01 ?_ | refine we_sl11 ?_ | refine we_ix ?_)
  | ((with_reducible show WG _ (Expr.Name _ _) _ _ _ _); refine wg_nm (by assumption) rfl ?_)
  | ((with_reducible show WG _ (Expr.Subscript _ _ _) _ _ _ _); refine wg_sub ?_)
  | ((with_reducible show WG _ (Expr.Tuple _ _ _) _ _ _ _); refine wg_tup rfl (st_of (by walk_at "h")) rfl ?_)
  | ((with_reducible show WGs _ (_ :: _) _ _ _ _); refine wgs_cons ?_)
  | ((with_reducible show WE _ (Expr.Call (Expr.Attribute _ (Str.ofString "append") _) _ [] _) _ _ _); refine we_append ?_)
  | ((with_reducible show WE _ (Expr.Call (Expr.Attribute _ (Str.ofString "pop") _) _ [] _) _ _ _); refine we_pop ?_)
  | ((with_reducible show WE _ (Expr.Call (Expr.Attribute _ (Str.ofString "count") _) _ [] _) _ _ _); refine we_count ?_)
  | ((with_reducible show WE _ (Expr.Call (Expr.Attribute _ (Str.ofString "join") _) _ [] _) _ _ _); refine we_join ?_)
  | ((with_reducible show WE _ (Expr.Call (Expr.Name (Str.ofString "len") _) _ [] _) _ _ _); refine we_len (by assumption) ?_)
  | ((with_reducible show WE _ (Expr.Call (Expr.Name (Str.ofString "int") _) _ [] _) _ _ _); refine we_intT (by assumption) ?_)
  | ((with_reducible show WE _ (Expr.Call (Expr.Name (Str.ofString "tuple") _) _ [] _) _ _ _); refine we_tupleT (by assumption) ?_)
  | ((with_reducible show WE _ (Expr.Call (Expr.Name (Str.ofString "min") _) _ [] _) _ _ _); refine we_min (by assumption) ?_)
  | ((with_reducible show WE _ (Expr.Call (Expr.Name (Str.ofString "max") _) _ [] _) _ _ _); refine we_max (by assumption) ?_)
  | ((with_reducible show WE _ (Expr.Call (Expr.Name (Str.ofString "all") _) _ [] _) _ _ _); refine we_all (by assumption) ?_)
  | ((with_reducible show WE _ (Expr.Call (Expr.Name (Str.ofString "any") _) _ [] _) _ _ _); refine we_any (by assumption) ?_)
  | ((with_reducible show WE _ (Expr.Call (Expr.Name (Str.ofString "sorted") _) _ [] _) _ _ _); refine we_sorted (by assumption) ?_)
  | ((with_reducible show WE _ (Expr.Call (Expr.Name (Str.ofString "list") _) _ [] _) _ _ _); refine we_listT (by assumption) ?_)
  | ((with_reducible show WE _ (Expr.Call (Expr.Name (Str.ofString "str") _) _ [] _) _ _ _); refine we_strT (by assumption) ?_)
  | ((with_reducible show WE _ (Expr.Call (Expr.Name (Str.ofString "isinstance") _) _ [] _) _ _ _); refine we_isi (by assumption) ?_)
  | ((with_reducible show WO _ (binaryOp Operator.Mult) (V.int _) (V.int _) _ _); first | refine wo_mul (.inl ⟨by omega, by omega⟩) ?_ | refine wo_mul (.inr ⟨by omega, by omega⟩) ?_)
  | ((with_reducible show WO _ (binaryOp Operator.Mod) (V.int _) (V.int _) _ _); refine wo_mod (by omega) ?_)
  | ((with_reducible show WO _ (binaryOp Operator.FloorDiv) (V.int _) (V.int _) _ _); refine wo_fdiv ⟨by omega, by omega⟩ ?_)
  | ((with_reducible show WIx _ (V.ref _) (V.int _) _ _); first | refine wix_l (sq_of (by walk_at "h")) (by walk_at "at") ?_ | refine wix_t (st_of (by walk_at "h")) (by walk_at "at") ?_)
  | ((with_reducible show WSet _ (V.ref _) (V.int _) _ _ _); first | refine wset_0 (by walk_at "h") ?_ | refine wset_1 (by walk_at "h") ?_ | refine wset_2 (by walk_at "h") ?_)
  | ((with_reducible show WC _ (Value.builtin "len") [V.str (S _)] _ _); refine wc_lenSS (by assumption) ?_)
  | ((with_reducible show WT _ _ _ _ _); refine wt_val ?_))
local macro_rules | `(tactic| walk_at "w1") => `(tactic| first | walk_at "wa" | walk_at "wb")
local macro_rules | `(tactic| walk_at "w") => `(tactic| repeat walk_at "w1")
section
variable {P : Program} {w : World} {K : PySem.W.Frag} {mg : Str → Option Value} {base : Heap}
/-! ### the drawn numbers -/
theorem ok_source {f : Addr} {fd : FuncData} {k : Nat} (F : Fun K "_law_source" "_law_source" s_law_source f fd) (mi : mg "int" = none) : FnOk P w K mg base CX0 (k + 1) f fd ["_law_script"] (spSource K) := by
  refine F.ok sc_law_source (fun vs H Q E h => ?_) (fun cdv A outer s H vs Q E hr h => ?_)
  · obtain ⟨a, ns, rfl, _⟩ := h
    rfl
  · obtain ⟨a, ns, rfl, hS, q⟩ := h
    have nd := sc_law_source.nd
    refine wss_of rfl ?_
    walk_at "w"
    refine ⟨sz_le (by simp), fun t ht => ?_⟩
    walk_at "w"
    refine ws_forL PassesOwn.never rfl ?_
    walk_at "w"
    refine ⟨a, _, rfl, (Ex.new ht).l hS, fun i σ H' => Ex H H' ∧ ∃ g sd y, σ = [some (.ref a), some (.int g), some (.int sd), y] ∧ 0 ≤ sd ∧ sd < 2147483647, ⟨Ex.new ht, 0, 17, none, rfl, by decide, by decide⟩, ?_, ?_, ?_⟩
    · rintro i σ H' _ ⟨ex, _⟩
      exact ex.l hS
    · rintro i x σ H' hx ⟨ex, g, sd, y, rfl, h1, h2⟩
      obtain ⟨c, rfl⟩ : ∃ c, x = .int c := by
        rw [List.getElem?_map] at hx
        cases hn : ns[i]? with
        | none => rw [hn] at hx; cases hx
        | some c => rw [hn] at hx; cases hx; exact ⟨c, rfl⟩
      walk_at "w"
      refine ite2 (fun hb => ?_) (fun hb => ?_)
      · walk_at "w"
        refine wo_pow ⟨by decide, by decide, by decide⟩ ?_
        walk_at "w"
        refine ite2 (fun hb => ?_) (fun hb => ?_)
        · walk_at "w"
          exact ⟨ex, _, _, _, rfl, Int.emod_nonneg _ (by decide), Int.emod_lt_of_pos _ (by decide)⟩
        · walk_at "w"
          exact ⟨ex, _, _, _, rfl, Int.emod_nonneg _ (by decide), Int.emod_lt_of_pos _ (by decide)⟩
      · walk_at "w"
        exact ⟨ex, _, _, _, rfl, Int.emod_nonneg _ (by decide), Int.emod_lt_of_pos _ (by decide)⟩
    · rintro σ H' ⟨ex, g, sd, y, rfl, h1, h2⟩
      walk_at "w"
      refine ⟨sz_le (by simp), fun p hp => ?_⟩
      exact q _ _ (ex.trans (Ex.new hp)) (ex.fresh hp) ⟨g, sd, 0, upd_same, h1, h2, by decide, by decide⟩
theorem ok_draw {f : Addr} {fd : FuncData} {k : Nat} (F : Fun K "_law_draw" "_law_draw" s_law_draw f fd) (mi : mg "int" = none) : FnOk P w K mg base CX0 (k + 1) f fd ["_law_source_here", "_law_many"] spDraw := by
  refine F.ok sc_law_draw (fun vs H Q E h => ?_) (fun cdv A outer s H vs Q E hr h => ?_)
  · obtain ⟨p, n, m, rfl, _⟩ := h
    rfl
  · obtain ⟨p, n, m, rfl, ⟨g, sd, c, hp, h1, h2, h3, h4⟩, hn, hm0, hm1, q⟩ := h
    have nd := sc_law_draw.nd
    refine wss_of rfl ?_
    walk_at "w"
    refine ite2 (fun hb => ?_) (fun hb => ?_)
    · walk_at "w"
      refine q _ _ ?_ ?_ (Int.emod_nonneg _ (by omega)) (Int.emod_lt_of_pos _ hm0)
      · rw [pub_upd, pub_upd]
        exact Ex.refl _
      · exact ⟨_, _, _, upd_same, h1, h2, by omega, by omega⟩
    · walk_at "w"
      refine wo_pow ⟨by decide, by decide, by omega⟩ ?_
      walk_at "w"
      have b1 := Int.emod_nonneg ((sd + 7919 * (c + 1)) ^ Int.toNat 5) (show (2147483629 : Int) ≠ 0 by decide)
      have b2 := Int.emod_lt_of_pos ((sd + 7919 * (c + 1)) ^ Int.toNat 5) (show (0 : Int) < 2147483629 by decide)
      have c1 : (16807 * (c + 1)) * (c + 1) ≤ 16807000000 * 1000000 := Int.mul_le_mul (by omega) (by omega) (by omega) (by omega)
      have c2 : 0 ≤ (16807 * (c + 1)) * (c + 1) := Int.mul_nonneg (by omega) (by omega)
      refine wo_pow ⟨by decide, by decide, by omega⟩ ?_
      walk_at "w"
      refine q _ _ ?_ ?_ (Int.emod_nonneg _ (by omega)) (Int.emod_lt_of_pos _ hm0)
      · rw [pub_upd]
        exact Ex.refl _
      · exact ⟨_, _, _, upd_same, h1, h2, by omega, by omega⟩
end
end
section
open PySem PySem.Spec Is
open Ir (Tr Cel Mem Ev EK SK EX Con Tg Op Cm I Sm wp wps Ty)
theorem dj_cheapest {P : Program} {w : World} {K : PySem.W.Frag} {mg : Str → Option Value} {base : Heap} {cl : Nat → Addr} {f : Addr} (z_min : mg "min" = none) (z_sorted : mg "sorted" = none) (z_tuple : mg "tuple" = none) (g_MOST_PRICE : Wx.GInt mg "MOST_PRICE" 99) : DJ P w K mg base cl N_cheapest "cheapest" s_cheapest f 1 ir_cheapest :=
  fun cdv A outer s H E cf hp => pss_of rfl (pss_cons (ps_set (i := 1) cf rfl (pj_ow pn_empT)) (pss_cons (ps_for hp cf (pit_seq (pj_nm (i := 0) rfl)) (Is.pg_tup cf (pgl_cons (pg_nm (i := 2) cf rfl) (pgl_cons (pg_nm (i := 3) cf rfl) (pgl_cons (pg_nm (i := 4) cf rfl) (pgl_cons (pg_nm (i := 5) cf rfl) pgl_nil)))) ⟨_, _, rfl⟩) (pss_cons (ps_set (i := 6) cf rfl (pj_tup (Is.pa_cons (pj_nm (i := 2) rfl) (Is.pa_cons (pj_nm (i := 3) rfl) (Is.pa_cons (pj_nm (i := 4) rfl) Is.pa_nil))))) (pss_one (ps_seti (i := 1) cf rfl (pj_min2 cf z_min (pj_nm (i := 5) rfl) (pj_get2 cf (pj_nm (i := 1) rfl) (pj_nm (i := 6) rfl) (pj_gI g_MOST_PRICE))) (pj_nm (i := 6) rfl))))) (pss_one (ps_ret (pj_tupleT z_tuple (pj_fz (pn_lc (own := [("key", 6)]) cf (blk_of rfl) rfl (by decide) (pit_seq (pj_fz (pn_sorted cf z_sorted (pj_nm (i := 1) rfl)))) (fun _ _ _ _ _ => (pg_nm (i := 6) (bk_cf cf) rfl)) (fun _ _ _ _ _ => (pj_tup (Is.pa_star (pj_nm (i := 6) rfl) (Is.pa_cons (pj_ix (bk_cf cf) (pj_nm (i := 1) rfl) (pj_nm (i := 6) rfl)) Is.pa_nil)))))))))))
theorem dj_each_once {P : Program} {w : World} {K : PySem.W.Frag} {mg : Str → Option Value} {base : Heap} {cl : Nat → Addr} {f : Addr} (z_sorted : mg "sorted" = none) (z_tuple : mg "tuple" = none) : DJ P w K mg base cl N_each_once "each_once" s_each_once f 1 ir_each_once :=
  fun cdv A outer s H E cf hp => pss_of rfl (pss_one (ps_ret (pj_tupleT z_tuple (pj_fz (pn_sorted cf z_sorted (pj_fz (pn_dc (own := [("name", 1)]) cf (blk_of rfl) rfl (by decide) (pit_seq (pj_nm (i := 0) rfl)) (fun _ _ _ _ _ => (pg_nm (i := 1) (bk_cf cf) rfl)) (fun _ _ _ _ _ => (pj_nm (i := 1) rfl)) (fun _ _ _ _ _ => pj_bl))))))))
theorem dj_is_letter {P : Program} {w : World} {K : PySem.W.Frag} {mg : Str → Option Value} {base : Heap} {cl : Nat → Addr} {f : Addr} (z_isinstance : mg "isinstance" = none) (z_len : mg "len" = none) (z_str : mg "str" = none) (g_LETTERS : Wx.GStr mg "LETTERS" [97, 98, 99, 100, 101, 102, 103, 104, 105, 106, 107, 108, 109, 110, 111, 112, 113, 114, 115, 116, 117, 118, 119, 120, 121, 122]) : DJ P w K mg base cl N_is_letter "is_letter" s_is_letter f 1 ir_is_letter :=
  fun cdv A outer s H E cf hp => pss_of rfl (pss_one (ps_ret (pj_and (pj_isi .str z_isinstance z_str Wx.boot_str (pj_nm (i := 0) rfl)) (pj_and (pj_cmp (o := .eq) cf (pj_len z_len (pj_nm (i := 0) rfl)) pj_int) (pj_one (pj_cmp (o := .isin) cf (pj_nm (i := 0) rfl) (pj_gS g_LETTERS)))))))
theorem dj_is_name {P : Program} {w : World} {K : PySem.W.Frag} {mg : Str → Option Value} {base : Heap} {cl : Nat → Addr} {f : Addr} (z_all : mg "all" = none) (z_isinstance : mg "isinstance" = none) (z_len : mg "len" = none) (z_str : mg "str" = none) (g_LETTERS : Wx.GStr mg "LETTERS" [97, 98, 99, 100, 101, 102, 103, 104, 105, 106, 107, 108, 109, 110, 111, 112, 113, 114, 115, 116, 117, 118, 119, 120, 121, 122]) (g_MOST_SIGNS : Wx.GInt mg "MOST_SIGNS" 8) : DJ P w K mg base cl N_is_name "is_name" s_is_name f 1 ir_is_name :=
  fun cdv A outer s H E cf hp => pss_of rfl (pss_one (ps_ret (pj_and (pj_isi .str z_isinstance z_str Wx.boot_str (pj_nm (i := 0) rfl)) (pj_and (pj_chain (o := .le) (p := .le) cf (.inr rfl) (.inr rfl) pj_int (pj_len z_len (pj_nm (i := 0) rfl)) (pj_gI g_MOST_SIGNS)) (pj_one (pj_all cf z_all (pj_fz (pn_lc (own := [("sign", 1)]) cf (blk_of rfl) rfl (by decide) (pit_seq (pj_nm (i := 0) rfl)) (fun _ _ _ _ _ => (pg_nm (i := 1) (bk_cf cf) rfl)) (fun _ _ _ _ _ => (pj_cmp (o := .isin) (bk_cf cf) (pj_nm (i := 1) rfl) (pj_gS g_LETTERS)))))))))))
theorem dj_is_price {P : Program} {w : World} {K : PySem.W.Frag} {mg : Str → Option Value} {base : Heap} {cl : Nat → Addr} {f : Addr} (z_bool : mg "bool" = none) (z_int : mg "int" = none) (z_isinstance : mg "isinstance" = none) (g_MOST_PRICE : Wx.GInt mg "MOST_PRICE" 99) : DJ P w K mg base cl N_is_price "is_price" s_is_price f 1 ir_is_price :=
  fun cdv A outer s H E cf hp => pss_of rfl (pss_one (ps_ret (pj_and (pj_isi .int z_isinstance z_int Wx.boot_int (pj_nm (i := 0) rfl)) (pj_and (pj_not (pj_isi .bool z_isinstance z_bool Wx.boot_bool (pj_nm (i := 0) rfl))) (pj_one (pj_chain (o := .le) (p := .le) cf (.inr rfl) (.inr rfl) pj_int (pj_nm (i := 0) rfl) (pj_gI g_MOST_PRICE)))))))
theorem dj_is_arrow {P : Program} {w : World} {K : PySem.W.Frag} {mg : Str → Option Value} {base : Heap} {cl : Nat → Addr} {f : Addr} (z_isinstance : mg "isinstance" = none) (z_len : mg "len" = none) (z_list : mg "list" = none) (z_tuple : mg "tuple" = none) (C_is_letter : Wx.Cal P w K mg base (L2.CX P w) 2 "is_letter" (spOf cl K c_is_letter)) (C_is_name : Wx.Cal P w K mg base (L2.CX P w) 2 "is_name" (spOf cl K c_is_name)) (C_is_price : Wx.Cal P w K mg base (L2.CX P w) 2 "is_price" (spOf cl K c_is_price)) : DJ P w K mg base cl N_is_arrow "is_arrow" s_is_arrow f 2 ir_is_arrow :=
  fun cdv A outer s H E cf hp => pss_of rfl (pss_cons (ps_if (pt_bop (pw_or (pt_not (pt_val (pj_isi2 .list .tuple z_isinstance z_list Wx.boot_list z_tuple Wx.boot_tuple (pj_nm (i := 0) rfl)))) (pw_one (.inr rfl) (pt_cmp (o := .ne) cf (pj_len z_len (pj_nm (i := 0) rfl)) pj_int)))) (pss_one (ps_ret pj_bl)) pss_nil) (pss_cons (ps_asg (Is.pg_tup cf (pgl_cons (pg_nm (i := 1) cf rfl) (pgl_cons (pg_nm (i := 2) cf rfl) (pgl_cons (pg_nm (i := 3) cf rfl) (pgl_cons (pg_nm (i := 4) cf rfl) pgl_nil)))) ⟨_, _, rfl⟩) (pj_nm (i := 0) rfl)) (pss_one (ps_ret (pj_and (pj_call C_is_name (cf.r.mono (by decide)) (Is.pa_cons (pj_nm (i := 1) rfl) Is.pa_nil)) (pj_and (pj_call C_is_letter (cf.r.mono (by decide)) (Is.pa_cons (pj_nm (i := 2) rfl) Is.pa_nil)) (pj_and (pj_call C_is_name (cf.r.mono (by decide)) (Is.pa_cons (pj_nm (i := 3) rfl) Is.pa_nil)) (pj_one (pj_call C_is_price (cf.r.mono (by decide)) (Is.pa_cons (pj_nm (i := 4) rfl) Is.pa_nil))))))))))
theorem dj_Machine_init {P : Program} {w : World} {K : PySem.W.Frag} {mg : Str → Option Value} {base : Heap} {cl : Nat → Addr} {f : Addr} (z_len : mg "len" = none) (z_range : mg "range" = none) (g_MOST_ARROWS : Wx.GInt mg "MOST_ARROWS" 400) (g_MOST_STATES : Wx.GInt mg "MOST_STATES" 40) (C_cheapest : Wx.Cal P w K mg base (L2.CX P w) 2 "cheapest" (spOf cl K c_cheapest)) (C_each_once : Wx.Cal P w K mg base (L2.CX P w) 2 "each_once" (spOf cl K c_each_once)) (C_is_arrow : Wx.Cal P w K mg base (L2.CX P w) 3 "is_arrow" (spOf cl K c_is_arrow)) (C_is_name : Wx.Cal P w K mg base (L2.CX P w) 2 "is_name" (spOf cl K c_is_name)) (K_Machine : L2.Cls K (cl 0)) (N_Machine_own_arrows : L2.NoAttr K (cl 0) "own_arrows") (N_Machine_own_ends : L2.NoAttr K (cl 0) "own_ends") (N_Machine_own_starts : L2.NoAttr K (cl 0) "own_starts") (N_Machine_own_states : L2.NoAttr K (cl 0) "own_states") (N_Machine_ways : L2.NoAttr K (cl 0) "ways") : DJ P w K mg base cl N_Machine_init "Machine.__init__" s_Machine_init f 3 ir_Machine_init :=
  fun cdv A outer s H E cf hp => pss_of rfl (pss_cons (ps_for hp cf (pit_rng2 z_range pj_int (pj_op (o := .add) (pj_len z_len (pj_nm (i := 1) rfl)) pj_int)) (pg_nm (i := 4) cf rfl) (pss_one (ps_if (pt_bop (pw_or (pt_cmp (o := .gt) cf (pj_nm (i := 4) rfl) (pj_gI g_MOST_ARROWS)) (pw_one (.inr rfl) (pt_not (pt_val (pj_call C_is_arrow (cf.r.mono (by decide)) (Is.pa_cons (pj_ix cf (pj_nm (i := 1) rfl) (pj_op (o := .sub) (pj_nm (i := 4) rfl) pj_int)) Is.pa_nil))))))) (pss_one ps_bad) pss_nil))) (pss_cons (ps_for hp cf (pit_seq (pj_fz (pn_lst (Is.pa_star (pj_nm (i := 2) rfl) (Is.pa_star (pj_nm (i := 3) rfl) Is.pa_nil))))) (pg_nm (i := 5) cf rfl) (pss_one (ps_if (pt_not (pt_val (pj_call C_is_name (cf.r.mono (by decide)) (Is.pa_cons (pj_nm (i := 5) rfl) Is.pa_nil)))) (pss_one ps_bad) pss_nil))) (pss_cons (ps_setf (i := 0) (d := 0) (f := 0) rfl K_Machine N_Machine_own_arrows rfl (by decide) (pj_call C_cheapest (cf.r.mono (by decide)) (Is.pa_cons (pj_nm (i := 1) rfl) Is.pa_nil))) (pss_cons (ps_setf (i := 0) (d := 0) (f := 1) rfl K_Machine N_Machine_own_starts rfl (by decide) (pj_call C_each_once (cf.r.mono (by decide)) (Is.pa_cons (pj_nm (i := 2) rfl) Is.pa_nil))) (pss_cons (ps_setf (i := 0) (d := 0) (f := 2) rfl K_Machine N_Machine_own_ends rfl (by decide) (pj_call C_each_once (cf.r.mono (by decide)) (Is.pa_cons (pj_nm (i := 3) rfl) Is.pa_nil))) (pss_cons (ps_set (i := 6) cf rfl (pj_ow (pn_lst (Is.pa_star (pj_fld (d := 0) (f := 1) K_Machine N_Machine_own_starts rfl (by decide) (pj_nm (i := 0) rfl)) (Is.pa_star (pj_fld (d := 0) (f := 2) K_Machine N_Machine_own_ends rfl (by decide) (pj_nm (i := 0) rfl)) Is.pa_nil))))) (pss_cons (ps_for hp cf (pit_seq (pj_fld (d := 0) (f := 0) K_Machine N_Machine_own_arrows rfl (by decide) (pj_nm (i := 0) rfl))) (Is.pg_tup cf (pgl_cons (pg_nm (i := 5) cf rfl) (pgl_cons (pg_nm (i := 7) cf rfl) (pgl_cons (pg_nm (i := 8) cf rfl) (pgl_cons (pg_nm (i := 9) cf rfl) pgl_nil)))) ⟨_, _, rfl⟩) (pss_one (ps_ext (i := 6) rfl (pj_fz (pn_lst (Is.pa_cons (pj_nm (i := 5) rfl) (Is.pa_cons (pj_nm (i := 8) rfl) Is.pa_nil))))))) (pss_cons (ps_setf (i := 0) (d := 0) (f := 3) rfl K_Machine N_Machine_own_states rfl (by decide) (pj_call C_each_once (cf.r.mono (by decide)) (Is.pa_cons (pj_mv (i := 6) rfl) Is.pa_nil))) (pss_cons (ps_if (pt_cmp (o := .gt) cf (pj_len z_len (pj_fld (d := 0) (f := 3) K_Machine N_Machine_own_states rfl (by decide) (pj_nm (i := 0) rfl))) (pj_gI g_MOST_STATES)) (pss_one ps_bad) pss_nil) (pss_cons (ps_ways0 (i := 0) (d := 0) rfl K_Machine N_Machine_ways) (pss_one (ps_for hp cf (pit_seq (pj_fld (d := 0) (f := 0) K_Machine N_Machine_own_arrows rfl (by decide) (pj_nm (i := 0) rfl))) (Is.pg_tup cf (pgl_cons (pg_nm (i := 5) cf rfl) (pgl_cons (pg_nm (i := 7) cf rfl) (pgl_cons (pg_nm (i := 8) cf rfl) (pgl_cons (pg_nm (i := 9) cf rfl) pgl_nil)))) ⟨_, _, rfl⟩) (pss_one (ps_waysA (i := 0) (d := 0) (k1 := 5) (k2 := 7) (v1 := 8) (v2 := 9) cf rfl rfl rfl rfl rfl K_Machine N_Machine_ways (by simp only [List.forall_mem_cons]; exact ⟨⟨by first | exact Or.inl rfl | exact Or.inr (Or.inl rfl) | exact Or.inr (Or.inr rfl), by decide, by decide⟩, ⟨by first | exact Or.inl rfl | exact Or.inr (Or.inl rfl) | exact Or.inr (Or.inr rfl), by decide, by decide⟩, ⟨by first | exact Or.inl rfl | exact Or.inr (Or.inl rfl) | exact Or.inr (Or.inr rfl), by decide, by decide⟩, ⟨by first | exact Or.inl rfl | exact Or.inr (Or.inl rfl) | exact Or.inr (Or.inr rfl), by decide, by decide⟩, ⟨by first | exact Or.inl rfl | exact Or.inr (Or.inl rfl) | exact Or.inr (Or.inr rfl), by decide, by decide⟩, fun _ h => nomatch h⟩)))))))))))))))
theorem dj_Machine_states {P : Program} {w : World} {K : PySem.W.Frag} {mg : Str → Option Value} {base : Heap} {cl : Nat → Addr} {f : Addr} (K_Machine : L2.Cls K (cl 0)) (N_Machine_own_states : L2.NoAttr K (cl 0) "own_states") : DJ P w K mg base cl N_Machine_states "Machine.states" s_Machine_states f 1 ir_Machine_states :=
  fun cdv A outer s H E cf hp => pss_of rfl (pss_one (ps_ret (pj_fld (d := 0) (f := 3) K_Machine N_Machine_own_states rfl (by decide) (pj_nm (i := 0) rfl))))
theorem dj_law_ahead {P : Program} {w : World} {K : PySem.W.Frag} {mg : Str → Option Value} {base : Heap} {cl : Nat → Addr} {f : Addr} (z_dict : mg "dict" = none) (z_min : mg "min" = none) : DJ P w K mg base cl N_law_ahead "_law_ahead" s_law_ahead f 1 ir_law_ahead :=
  fun cdv A outer s H E cf hp => pss_of rfl (pss_cons (ps_set (i := 3) cf rfl (pj_fz (pn_dictP cf z_dict (pj_fz (pn_lc (own := [("_law_state", 6)]) cf (blk_of rfl) rfl (by decide) (pit_seq (pj_nm (i := 1) rfl)) (fun _ _ _ _ _ => (pg_nm (i := 6) (bk_cf cf) rfl)) (fun _ _ _ _ _ => (pj_tup (Is.pa_cons (pj_nm (i := 6) rfl) (Is.pa_cons pj_int Is.pa_nil))))))))) (pss_cons (ps_for hp cf (pit_seq (pj_revS (pj_nm (i := 2) rfl))) (pg_nm (i := 4) cf rfl) (pss_cons (ps_set (i := 5) cf rfl (pj_ow pn_empK)) (pss_cons (ps_for hp cf (pit_seq (pj_nm (i := 0) rfl)) (Is.pg_tup cf (pgl_cons (pg_nm (i := 6) cf rfl) (pgl_cons (pg_nm (i := 7) cf rfl) (pgl_cons (pg_nm (i := 8) cf rfl) (pgl_cons (pg_nm (i := 9) cf rfl) pgl_nil)))) ⟨_, _, rfl⟩) (pss_one (ps_if (pt_bop (pw_and (pt_cmp (o := .eq) cf (pj_nm (i := 7) rfl) (pj_nm (i := 4) rfl)) (pw_one (.inl rfl) (pt_cmp (o := .isin) cf (pj_nm (i := 8) rfl) (pj_nm (i := 3) rfl))))) (pss_cons (ps_set (i := 10) cf rfl (pj_op (o := .add) (pj_ix cf (pj_nm (i := 3) rfl) (pj_nm (i := 8) rfl)) (pj_nm (i := 9) rfl))) (pss_one (ps_seti (i := 5) cf rfl (pj_min2 cf z_min (pj_nm (i := 10) rfl) (pj_get2 cf (pj_nm (i := 5) rfl) (pj_nm (i := 6) rfl) (pj_nm (i := 10) rfl))) (pj_nm (i := 6) rfl)))) pss_nil))) (pss_one (ps_set (i := 3) cf rfl (pj_mv (i := 5) rfl)))))) (pss_one (ps_ret (pj_nm (i := 3) rfl)))))
theorem dj_law_price {P : Program} {w : World} {K : PySem.W.Frag} {mg : Str → Option Value} {base : Heap} {cl : Nat → Addr} {f : Addr} (z_min : mg "min" = none) (C_law_ahead : Wx.Cal P w K mg base (L2.CX P w) 2 "_law_ahead" (spOf cl K c_law_ahead)) : DJ P w K mg base cl N_law_price "_law_price" s_law_price f 2 ir_law_price :=
  fun cdv A outer s H E cf hp => pss_of rfl (pss_cons (ps_set (i := 2) cf rfl (pj_call C_law_ahead (cf.r.mono (by decide)) (Is.pa_cons (pj_ix cf (pj_nm (i := 0) rfl) pj_int) (Is.pa_cons (pj_ix cf (pj_nm (i := 0) rfl) pj_int) (Is.pa_cons (pj_nm (i := 1) rfl) Is.pa_nil))))) (pss_cons (ps_setLCi (i0 := 3) (own := [("_law_state", 4)]) cf rfl (blk_of rfl) rfl (by decide) (pit_seq (pj_ix cf (pj_nm (i := 0) rfl) pj_int)) (fun _ _ _ _ _ => (pg_nm (i := 4) (bk_cf cf) rfl)) (fun _ _ _ _ _ => (pt_cmp (o := .isin) (bk_cf cf) (pj_nm (i := 4) rfl) (pj_nm (i := 2) rfl))) (fun _ _ _ _ _ => (pj_ix (bk_cf cf) (pj_nm (i := 2) rfl) (pj_nm (i := 4) rfl))) (.inl rfl)) (pss_one (ps_ret (pj_ife (pt_cmp (o := .ne) cf (pj_nm (i := 3) rfl) (pj_fz (pn_lst Is.pa_nil))) (pj_minL cf z_min (pj_nm (i := 3) rfl)) pj_non)))))
theorem dj_law_due {P : Program} {w : World} {K : PySem.W.Frag} {mg : Str → Option Value} {base : Heap} {cl : Nat → Addr} {f : Addr} (z_len : mg "len" = none) (z_min : mg "min" = none) (z_range : mg "range" = none) (C_law_price : Wx.Cal P w K mg base (L2.CX P w) 3 "_law_price" (spOf cl K c_law_price)) : DJ P w K mg base cl N_law_due "_law_due" s_law_due f 3 ir_law_due :=
  fun cdv A outer s H E cf hp => pss_of rfl (pss_cons (ps_set (i := 3) cf rfl (pj_ow (pn_lst Is.pa_nil))) (pss_cons (ps_for hp cf (pit_rng1 z_range (pj_op (o := .add) (pj_len z_len (pj_nm (i := 2) rfl)) pj_int)) (pg_nm (i := 4) cf rfl) (pss_cons (ps_par2 (i := 5) (j := 6) cf rfl rfl (by decide) (Is.pa_cons (pj_call C_law_price (cf.r.mono (by decide)) (Is.pa_cons (pj_nm (i := 0) rfl) (Is.pa_cons (pj_sl01 (pj_nm (i := 2) rfl) (pj_nm (i := 4) rfl)) Is.pa_nil))) (Is.pa_cons (pj_call C_law_price (cf.r.mono (by decide)) (Is.pa_cons (pj_nm (i := 1) rfl) (Is.pa_cons (pj_sl10 (pj_nm (i := 2) rfl) (pj_nm (i := 4) rfl)) Is.pa_nil))) Is.pa_nil))) (pss_one (ps_if (pt_bop (pw_and (pt_cmp (o := .isnot) cf (pj_nm (i := 5) rfl) pj_non) (pw_one (.inl rfl) (pt_cmp (o := .isnot) cf (pj_nm (i := 6) rfl) pj_non)))) (pss_one (ps_app (i := 3) rfl (pj_op (o := .add) (pj_nm (i := 5) rfl) (pj_nm (i := 6) rfl)))) pss_nil)))) (pss_one (ps_ret (pj_ife (pt_cmp (o := .ne) cf (pj_nm (i := 3) rfl) (pj_fz (pn_lst Is.pa_nil))) (pj_minL cf z_min (pj_nm (i := 3) rfl)) pj_non)))))
theorem dj_law_pick {P : Program} {w : World} {K : PySem.W.Frag} {mg : Str → Option Value} {base : Heap} {cl : Nat → Addr} {f : Addr} (z_len : mg "len" = none) (C_law_draw : Wx.Cal P w K mg base (L2.CX P w) 1 "_law_draw" (spOf cl K c_law_draw)) : DJ P w K mg base cl N_law_pick "_law_pick" s_law_pick f 1 ir_law_pick :=
  fun cdv A outer s H E cf hp => pss_of rfl (pss_one (ps_ret (pj_ix cf (pj_nm (i := 1) rfl) (pj_call C_law_draw (cf.r.mono (by decide)) (Is.pa_cons (pj_nm (i := 0) rfl) (Is.pa_cons (pj_len z_len (pj_nm (i := 1) rfl)) Is.pa_nil))))))
theorem dj_law_arrows {P : Program} {w : World} {K : PySem.W.Frag} {mg : Str → Option Value} {base : Heap} {cl : Nat → Addr} {f : Addr} (z_range : mg "range" = none) (C_law_draw : Wx.Cal P w K mg base (L2.CX P w) 1 "_law_draw" (spOf cl K c_law_draw)) (C_law_pick : Wx.Cal P w K mg base (L2.CX P w) 2 "_law_pick" (spOf cl K c_law_pick)) : DJ P w K mg base cl N_law_arrows "_law_arrows" s_law_arrows f 2 ir_law_arrows :=
  fun cdv A outer s H E cf hp => pss_of rfl (pss_cons (ps_set (i := 4) cf rfl (pj_ow (pn_lst Is.pa_nil))) (pss_cons (ps_for hp cf (pit_rng1 z_range (pj_op (o := .add) pj_int (pj_call C_law_draw (cf.r.mono (by decide)) (Is.pa_cons (pj_nm (i := 0) rfl) (Is.pa_cons (pj_nm (i := 3) rfl) Is.pa_nil))))) (pg_nm (i := 5) cf rfl) (pss_cons (ps_set (i := 6) cf rfl (pj_ix cf (pj_fz (pn_lst (Is.pa_cons pj_int (Is.pa_cons pj_int (Is.pa_cons pj_int (Is.pa_cons pj_int (Is.pa_cons pj_int (Is.pa_cons pj_int (Is.pa_cons pj_int Is.pa_nil))))))))) (pj_call C_law_draw (cf.r.mono (by decide)) (Is.pa_cons (pj_nm (i := 0) rfl) (Is.pa_cons pj_int Is.pa_nil))))) (pss_one (ps_app (i := 4) rfl (pj_tup (Is.pa_cons (pj_call C_law_pick (cf.r.mono (by decide)) (Is.pa_cons (pj_nm (i := 0) rfl) (Is.pa_cons (pj_nm (i := 1) rfl) Is.pa_nil))) (Is.pa_cons (pj_call C_law_pick (cf.r.mono (by decide)) (Is.pa_cons (pj_nm (i := 0) rfl) (Is.pa_cons (pj_nm (i := 2) rfl) Is.pa_nil))) (Is.pa_cons (pj_call C_law_pick (cf.r.mono (by decide)) (Is.pa_cons (pj_nm (i := 0) rfl) (Is.pa_cons (pj_nm (i := 1) rfl) Is.pa_nil))) (Is.pa_cons (pj_nm (i := 6) rfl) Is.pa_nil))))))))) (pss_one (ps_ret (pj_mv (i := 4) rfl)))))
theorem dj_law_name {P : Program} {w : World} {K : PySem.W.Frag} {mg : Str → Option Value} {base : Heap} {cl : Nat → Addr} {f : Addr} (z_range : mg "range" = none) (C_law_draw : Wx.Cal P w K mg base (L2.CX P w) 1 "_law_draw" (spOf cl K c_law_draw)) : DJ P w K mg base cl N_law_name "_law_name" s_law_name f 1 ir_law_name :=
  fun cdv A outer s H E cf hp => pss_of rfl (pss_cons (ps_set (i := 2) cf rfl (pj_ix cf (pj_fz (pn_lst (Is.pa_cons pj_int (Is.pa_cons pj_int (Is.pa_cons pj_int (Is.pa_cons pj_int (Is.pa_cons pj_int (Is.pa_cons pj_int (Is.pa_cons pj_int (Is.pa_cons pj_int (Is.pa_cons pj_int (Is.pa_cons pj_int (Is.pa_cons pj_int (Is.pa_cons pj_int (Is.pa_cons pj_int Is.pa_nil))))))))))))))) (pj_call C_law_draw (cf.r.mono (by decide)) (Is.pa_cons (pj_nm (i := 0) rfl) (Is.pa_cons pj_int Is.pa_nil))))) (pss_cons (ps_set (i := 3) cf rfl (pj_join (pj_str lit_6) (pj_fz (pn_lc (own := [("_law_k", 4)]) cf (blk_of rfl) rfl (by decide) (pit_rng1 z_range (pj_nm (i := 2) rfl)) (fun _ _ _ _ _ => (pg_nm (i := 4) (bk_cf cf) rfl)) (fun _ _ _ _ _ => (pj_ix (bk_cf cf) (pj_str lit_2) (pj_call C_law_draw ((bk_cf cf).r.mono (by decide)) (Is.pa_cons (pj_nm (i := 0) rfl) (Is.pa_cons pj_int Is.pa_nil))))))))) (pss_cons (ps_if (pt_chain (o := .lt) (p := .lt) cf (.inl rfl) (.inl rfl) pj_int (pj_nm (i := 2) rfl) pj_int) (pss_one (ps_set (i := 3) cf rfl (pj_ix cf (pj_fz (pn_lst (Is.pa_cons (pj_str lit_16) (Is.pa_cons (pj_str lit_17) (Is.pa_cons (pj_str lit_18) (Is.pa_cons (pj_str lit_19) (Is.pa_cons (pj_str lit_20) (Is.pa_cons (pj_op (o := .add) (pj_str lit_21) (pj_sl10 (pj_nm (i := 3) rfl) pj_int)) Is.pa_nil)))))))) (pj_call C_law_draw (cf.r.mono (by decide)) (Is.pa_cons (pj_nm (i := 0) rfl) (Is.pa_cons pj_int Is.pa_nil)))))) pss_nil) (pss_cons (ps_if (pt_cmp (o := .notin) cf (pj_nm (i := 3) rfl) (pj_nm (i := 1) rfl)) (pss_one (ps_ret (pj_nm (i := 3) rfl))) pss_nil) (pss_one (ps_ret (pj_ix cf (pj_fz (pn_lci (own := [("_law_one", 5)]) cf (blk_of rfl) rfl (by decide) (pit_seq (pj_fz (pn_lc (own := [("_law_letter", 6)]) cf (blk_of rfl) rfl (by decide) (pit_seq (pj_str lit_23)) (fun _ _ _ _ _ => (pg_nm (i := 6) (bk_cf cf) rfl)) (fun _ _ _ _ _ => (pj_op (o := .add) (pj_str lit_22) (pj_nm (i := 6) rfl)))))) (fun _ _ _ _ _ => (pg_nm (i := 5) (bk_cf cf) rfl)) (fun _ _ _ _ _ => (pt_cmp (o := .notin) (bk_cf cf) (pj_nm (i := 5) rfl) (pj_nm (i := 1) rfl))) (fun _ _ _ _ _ => (pj_nm (i := 5) rfl)))) pj_int)))))))
theorem dj_law_names {P : Program} {w : World} {K : PySem.W.Frag} {mg : Str → Option Value} {base : Heap} {cl : Nat → Addr} {f : Addr} (z_range : mg "range" = none) (C_law_name : Wx.Cal P w K mg base (L2.CX P w) 2 "_law_name" (spOf cl K c_law_name)) : DJ P w K mg base cl N_law_names "_law_names" s_law_names f 2 ir_law_names :=
  fun cdv A outer s H E cf hp => pss_of rfl (pss_cons (ps_set (i := 2) cf rfl (pj_ow (pn_lst Is.pa_nil))) (pss_cons (ps_for hp cf (pit_rng1 z_range (pj_nm (i := 1) rfl)) (pg_nm (i := 3) cf rfl) (pss_one (ps_app (i := 2) rfl (pj_call C_law_name (cf.r.mono (by decide)) (Is.pa_cons (pj_nm (i := 0) rfl) (Is.pa_cons (pj_nm (i := 2) rfl) Is.pa_nil)))))) (pss_one (ps_ret (pj_mv (i := 2) rfl)))))
theorem dj_law_subset {P : Program} {w : World} {K : PySem.W.Frag} {mg : Str → Option Value} {base : Heap} {cl : Nat → Addr} {f : Addr} (C_law_draw : Wx.Cal P w K mg base (L2.CX P w) 1 "_law_draw" (spOf cl K c_law_draw)) : DJ P w K mg base cl N_law_subset "_law_subset" s_law_subset f 1 ir_law_subset :=
  fun cdv A outer s H E cf hp => pss_of rfl (pss_one (ps_ret (pj_fz (pn_lci (own := [("_law_one", 2)]) cf (blk_of rfl) rfl (by decide) (pit_seq (pj_nm (i := 1) rfl)) (fun _ _ _ _ _ => (pg_nm (i := 2) (bk_cf cf) rfl)) (fun _ _ _ _ _ => (pt_cmp (o := .eq) (bk_cf cf) (pj_call C_law_draw ((bk_cf cf).r.mono (by decide)) (Is.pa_cons (pj_nm (i := 0) rfl) (Is.pa_cons pj_int Is.pa_nil))) pj_int)) (fun _ _ _ _ _ => (pj_nm (i := 2) rfl))))))
theorem dj_law_machine {P : Program} {w : World} {K : PySem.W.Frag} {mg : Str → Option Value} {base : Heap} {cl : Nat → Addr} {f : Addr} (C_law_arrows : Wx.Cal P w K mg base (L2.CX P w) 3 "_law_arrows" (spOf cl K c_law_arrows)) (C_law_draw : Wx.Cal P w K mg base (L2.CX P w) 1 "_law_draw" (spOf cl K c_law_draw)) (C_law_names : Wx.Cal P w K mg base (L2.CX P w) 3 "_law_names" (spOf cl K c_law_names)) (C_law_pick : Wx.Cal P w K mg base (L2.CX P w) 2 "_law_pick" (spOf cl K c_law_pick)) (C_law_subset : Wx.Cal P w K mg base (L2.CX P w) 2 "_law_subset" (spOf cl K c_law_subset)) : DJ P w K mg base cl N_law_machine "_law_machine" s_law_machine f 3 ir_law_machine :=
  fun cdv A outer s H E cf hp => pss_of rfl (pss_cons (ps_set (i := 4) cf rfl (pj_call C_law_names (cf.r.mono (by decide)) (Is.pa_cons (pj_nm (i := 0) rfl) (Is.pa_cons (pj_op (o := .add) pj_int (pj_call C_law_draw (cf.r.mono (by decide)) (Is.pa_cons (pj_nm (i := 0) rfl) (Is.pa_cons (pj_nm (i := 1) rfl) Is.pa_nil)))) Is.pa_nil)))) (pss_cons (ps_set (i := 2) cf rfl (pj_sl01 (pj_fz (pn_lst (Is.pa_cons (pj_str lit_12) (Is.pa_cons (pj_str lit_13) (Is.pa_cons (pj_str lit_14) (Is.pa_cons (pj_str lit_15) Is.pa_nil)))))) (pj_op (o := .add) pj_int (pj_call C_law_draw (cf.r.mono (by decide)) (Is.pa_cons (pj_nm (i := 0) rfl) (Is.pa_cons (pj_nm (i := 2) rfl) Is.pa_nil)))))) (pss_cons (ps_set (i := 5) cf rfl (pj_call C_law_arrows (cf.r.mono (by decide)) (Is.pa_cons (pj_nm (i := 0) rfl) (Is.pa_cons (pj_nm (i := 4) rfl) (Is.pa_cons (pj_nm (i := 2) rfl) (Is.pa_cons (pj_nm (i := 3) rfl) Is.pa_nil)))))) (pss_cons (ps_set (i := 6) cf rfl (pj_fz (pn_addL (pj_fz (pn_lst (Is.pa_cons (pj_call C_law_pick (cf.r.mono (by decide)) (Is.pa_cons (pj_nm (i := 0) rfl) (Is.pa_cons (pj_nm (i := 4) rfl) Is.pa_nil))) Is.pa_nil))) (pj_call C_law_subset (cf.r.mono (by decide)) (Is.pa_cons (pj_nm (i := 0) rfl) (Is.pa_cons (pj_nm (i := 4) rfl) Is.pa_nil)))))) (pss_one (ps_ret (pj_tup (Is.pa_cons (pj_nm (i := 5) rfl) (Is.pa_cons (pj_nm (i := 6) rfl) (Is.pa_cons (pj_fz (pn_addL (pj_fz (pn_lst (Is.pa_cons (pj_call C_law_pick (cf.r.mono (by decide)) (Is.pa_cons (pj_nm (i := 0) rfl) (Is.pa_cons (pj_nm (i := 4) rfl) Is.pa_nil))) Is.pa_nil))) (pj_call C_law_subset (cf.r.mono (by decide)) (Is.pa_cons (pj_nm (i := 0) rfl) (Is.pa_cons (pj_nm (i := 4) rfl) Is.pa_nil))))) Is.pa_nil))))))))))
theorem dj_law_rows {P : Program} {w : World} {K : PySem.W.Frag} {mg : Str → Option Value} {base : Heap} {cl : Nat → Addr} {f : Addr} (z_range : mg "range" = none) : DJ P w K mg base cl N_law_rows "_law_rows" s_law_rows f 1 ir_law_rows :=
  fun cdv A outer s H E cf hp => pss_of rfl (pss_cons (ps_par2 (i := 2) (j := 3) cf rfl rfl (by decide) (Is.pa_cons (pj_fz (pn_lst (Is.pa_cons (pj_str lit_6) Is.pa_nil))) (Is.pa_cons (pj_fz (pn_lst (Is.pa_cons (pj_str lit_6) Is.pa_nil))) Is.pa_nil))) (pss_cons (ps_for hp cf (pit_rng1 z_range (pj_nm (i := 1) rfl)) (pg_nm (i := 4) cf rfl) (pss_cons (ps_set (i := 5) cf rfl (pj_ow (pn_lst Is.pa_nil))) (pss_cons (ps_for hp cf (pit_seq (pj_nm (i := 3) rfl)) (pg_nm (i := 6) cf rfl) (pss_one (ps_ext (i := 5) rfl (pj_fz (pn_lc (own := [("_law_letter", 7)]) cf (blk_of rfl) rfl (by decide) (pit_seq (pj_nm (i := 0) rfl)) (fun _ _ _ _ _ => (pg_nm (i := 7) (bk_cf cf) rfl)) (fun _ _ _ _ _ => (pj_op (o := .add) (pj_nm (i := 6) rfl) (pj_nm (i := 7) rfl)))))))) (pss_one (ps_par2 (i := 2) (j := 3) cf rfl rfl (by decide) (Is.pa_cons (pj_fz (pn_addL (pj_nm (i := 2) rfl) (pj_nm (i := 5) rfl))) (Is.pa_cons (pj_mv (i := 5) rfl) Is.pa_nil))))))) (pss_one (ps_ret (pj_nm (i := 2) rfl)))))
theorem dj_law_row {P : Program} {w : World} {K : PySem.W.Frag} {mg : Str → Option Value} {base : Heap} {cl : Nat → Addr} {f : Addr} (z_range : mg "range" = none) (C_law_draw : Wx.Cal P w K mg base (L2.CX P w) 1 "_law_draw" (spOf cl K c_law_draw)) (C_law_pick : Wx.Cal P w K mg base (L2.CX P w) 2 "_law_pick" (spOf cl K c_law_pick)) : DJ P w K mg base cl N_law_row "_law_row" s_law_row f 2 ir_law_row :=
  fun cdv A outer s H E cf hp => pss_of rfl (pss_cons (ps_set (i := 3) cf rfl (pj_str lit_6)) (pss_cons (ps_for hp cf (pit_rng1 z_range (pj_call C_law_draw (cf.r.mono (by decide)) (Is.pa_cons (pj_nm (i := 0) rfl) (Is.pa_cons (pj_op (o := .add) (pj_nm (i := 2) rfl) pj_int) Is.pa_nil)))) (pg_nm (i := 4) cf rfl) (pss_one (ps_set (i := 3) cf rfl (pj_op (o := .add) (pj_nm (i := 3) rfl) (pj_op (o := .mul) (pj_call C_law_pick (cf.r.mono (by decide)) (Is.pa_cons (pj_nm (i := 0) rfl) (Is.pa_cons (pj_nm (i := 1) rfl) Is.pa_nil))) (pj_op (o := .add) pj_int (pj_call C_law_draw (cf.r.mono (by decide)) (Is.pa_cons (pj_nm (i := 0) rfl) (Is.pa_cons pj_int Is.pa_nil))))))))) (pss_one (ps_ret (pj_nm (i := 3) rfl)))))
theorem dj_law_waves {P : Program} {w : World} {K : PySem.W.Frag} {mg : Str → Option Value} {base : Heap} {cl : Nat → Addr} {f : Addr} (z_range : mg "range" = none) (C_law_draw : Wx.Cal P w K mg base (L2.CX P w) 1 "_law_draw" (spOf cl K c_law_draw)) (C_law_row : Wx.Cal P w K mg base (L2.CX P w) 3 "_law_row" (spOf cl K c_law_row)) : DJ P w K mg base cl N_law_waves "_law_waves" s_law_waves f 3 ir_law_waves :=
  fun cdv A outer s H E cf hp => pss_of rfl (pss_cons (ps_set (i := 3) cf rfl (pj_call C_law_row (cf.r.mono (by decide)) (Is.pa_cons (pj_nm (i := 0) rfl) (Is.pa_cons (pj_nm (i := 1) rfl) (Is.pa_cons pj_int Is.pa_nil))))) (pss_cons (ps_for hp cf (pit_rng1 z_range (pj_call C_law_draw (cf.r.mono (by decide)) (Is.pa_cons (pj_nm (i := 0) rfl) (Is.pa_cons pj_int Is.pa_nil)))) (pg_nm (i := 4) cf rfl) (pss_one (ps_set (i := 3) cf rfl (pj_op (o := .mul) (pj_op (o := .add) (pj_op (o := .mul) (pj_nm (i := 3) rfl) (pj_op (o := .add) pj_int (pj_call C_law_draw (cf.r.mono (by decide)) (Is.pa_cons (pj_nm (i := 0) rfl) (Is.pa_cons (pj_nm (i := 2) rfl) Is.pa_nil))))) (pj_call C_law_row (cf.r.mono (by decide)) (Is.pa_cons (pj_nm (i := 0) rfl) (Is.pa_cons (pj_nm (i := 1) rfl) (Is.pa_cons pj_int Is.pa_nil))))) (pj_op (o := .add) pj_int (pj_call C_law_draw (cf.r.mono (by decide)) (Is.pa_cons (pj_nm (i := 0) rfl) (Is.pa_cons (pj_nm (i := 2) rfl) Is.pa_nil)))))))) (pss_one (ps_ret (pj_sl01 (pj_nm (i := 3) rfl) pj_int)))))
theorem dj_Machine_ends {P : Program} {w : World} {K : PySem.W.Frag} {mg : Str → Option Value} {base : Heap} {cl : Nat → Addr} {f : Addr} (K_Machine : L2.Cls K (cl 0)) (N_Machine_own_ends : L2.NoAttr K (cl 0) "own_ends") : DJ P w K mg base cl N_Machine_ends "Machine.ends" s_Machine_ends f 1 ir_Machine_ends :=
  fun cdv A outer s H E cf hp => pss_of rfl (pss_one (ps_ret (pj_fld (d := 0) (f := 2) K_Machine N_Machine_own_ends rfl (by decide) (pj_nm (i := 0) rfl))))
theorem dj_Machine_starts {P : Program} {w : World} {K : PySem.W.Frag} {mg : Str → Option Value} {base : Heap} {cl : Nat → Addr} {f : Addr} (K_Machine : L2.Cls K (cl 0)) (N_Machine_own_starts : L2.NoAttr K (cl 0) "own_starts") : DJ P w K mg base cl N_Machine_starts "Machine.starts" s_Machine_starts f 1 ir_Machine_starts :=
  fun cdv A outer s H E cf hp => pss_of rfl (pss_one (ps_ret (pj_fld (d := 0) (f := 1) K_Machine N_Machine_own_starts rfl (by decide) (pj_nm (i := 0) rfl))))
theorem dj_Machine_arrows {P : Program} {w : World} {K : PySem.W.Frag} {mg : Str → Option Value} {base : Heap} {cl : Nat → Addr} {f : Addr} (K_Machine : L2.Cls K (cl 0)) (N_Machine_own_arrows : L2.NoAttr K (cl 0) "own_arrows") : DJ P w K mg base cl N_Machine_arrows "Machine.arrows" s_Machine_arrows f 1 ir_Machine_arrows :=
  fun cdv A outer s H E cf hp => pss_of rfl (pss_one (ps_ret (pj_fld (d := 0) (f := 0) K_Machine N_Machine_own_arrows rfl (by decide) (pj_nm (i := 0) rfl))))
theorem dj_markedO {P : Program} {w : World} {K : PySem.W.Frag} {mg : Str → Option Value} {base : Heap} {cl : Nat → Addr} {f : Addr} (K_Machine : L2.Cls K (cl 0)) (p_Machine_arrows : Wx.Prp P w K mg base (L2.CX P w) 2 (cl 0) "arrows" (spOf cl K c_Machine_arrows)) (p_Machine_ends : Wx.Prp P w K mg base (L2.CX P w) 2 (cl 0) "ends" (spOf cl K c_Machine_ends)) (p_Machine_starts : Wx.Prp P w K mg base (L2.CX P w) 2 (cl 0) "starts" (spOf cl K c_Machine_starts)) : DJO P w K mg base cl N_marked "marked" s_marked f 3 ir_markedO ia_markedO :=
  ⟨_, _, _, _, _, rfl, fun cdv A outer s H E cf hp => ⟨(ps_setLC (i0 := 2) (own := [("state", 3), ("letter", 4), ("after", 5), ("price", 6)]) cf rfl (blk_of rfl) rfl (by decide) (pit_seq (pj_prp (d := 0) p_Machine_arrows K_Machine (cf.r.mono (by decide)) (pj_nm (i := 0) rfl))) (fun _ _ _ _ _ => (Is.pg_tup (bk_cf cf) (pgl_cons (pg_nm (i := 3) (bk_cf cf) rfl) (pgl_cons (pg_nm (i := 4) (bk_cf cf) rfl) (pgl_cons (pg_nm (i := 5) (bk_cf cf) rfl) (pgl_cons (pg_nm (i := 6) (bk_cf cf) rfl) pgl_nil)))) ⟨_, _, rfl⟩)) (fun _ _ _ _ _ => (pj_tup (Is.pa_cons (pj_tup (Is.pa_cons (pj_nm (i := 1) rfl) (Is.pa_cons (pj_nm (i := 3) rfl) Is.pa_nil))) (Is.pa_cons (pj_nm (i := 4) rfl) (Is.pa_cons (pj_tup (Is.pa_cons (pj_nm (i := 1) rfl) (Is.pa_cons (pj_nm (i := 5) rfl) Is.pa_nil))) (Is.pa_cons (pj_nm (i := 6) rfl) Is.pa_nil)))))) (.inr rfl)), (Is.pa_cons (pj_nm (i := 2) rfl) (Is.pa_cons (pj_fz (pn_lc (own := [("state", 3)]) cf (blk_of rfl) rfl (by decide) (pit_seq (pj_prp (d := 0) p_Machine_starts K_Machine (cf.r.mono (by decide)) (pj_nm (i := 0) rfl))) (fun _ _ _ _ _ => (pg_nm (i := 3) (bk_cf cf) rfl)) (fun _ _ _ _ _ => (pj_tup (Is.pa_cons (pj_nm (i := 1) rfl) (Is.pa_cons (pj_nm (i := 3) rfl) Is.pa_nil)))))) (Is.pa_cons (pj_fz (pn_lc (own := [("state", 3)]) cf (blk_of rfl) rfl (by decide) (pit_seq (pj_prp (d := 0) p_Machine_ends K_Machine (cf.r.mono (by decide)) (pj_nm (i := 0) rfl))) (fun _ _ _ _ _ => (pg_nm (i := 3) (bk_cf cf) rfl)) (fun _ _ _ _ _ => (pj_tup (Is.pa_cons (pj_nm (i := 1) rfl) (Is.pa_cons (pj_nm (i := 3) rfl) Is.pa_nil)))))) Is.pa_nil)))⟩⟩
theorem dj_name_of {P : Program} {w : World} {K : PySem.W.Frag} {mg : Str → Option Value} {base : Heap} {cl : Nat → Addr} {f : Addr} (g_SIGNS : Wx.GStr mg "SIGNS" [97, 98, 99, 100, 101, 102, 103, 104, 105, 106, 107, 108, 109, 110, 111, 112, 113, 114, 115, 116, 117, 118, 119, 120, 121, 122]) : DJ P w K mg base cl N_name_of "name_of" s_name_of f 1 ir_name_of :=
  fun cdv A outer s H E cf hp => pss_of rfl (pss_one (ps_ret (pj_op (o := .add) (pj_op (o := .add) (pj_str lit_11) (pj_ix cf (pj_gS g_SIGNS) (pj_op (o := .fdiv) (pj_nm (i := 0) rfl) pj_int))) (pj_ix cf (pj_gS g_SIGNS) (pj_op (o := .mod) (pj_nm (i := 0) rfl) pj_int)))))
theorem dj_named_anew {P : Program} {w : World} {K : PySem.W.Frag} {mg : Str → Option Value} {base : Heap} {cl : Nat → Addr} {f : Addr} (z_enumerate : mg "enumerate" = none) (z_sorted : mg "sorted" = none) (C_cheapest : Wx.Cal P w K mg base (L2.CX P w) 2 "cheapest" (spOf cl K c_cheapest)) (C_name_of : Wx.Cal P w K mg base (L2.CX P w) 2 "name_of" (spOf cl K c_name_of)) (k_Machine : Wx.Mkr P w K mg base (L2.CX P w) 4 "Machine" (cl 0) (spOf cl K c_Machine_init)) : DJ P w K mg base cl N_named_anew "named_anew" s_named_anew f 5 ir_named_anew :=
  fun cdv A outer s H E cf hp => pss_of rfl (pss_cons (ps_set (i := 3) cf rfl (pj_ow pn_empT)) (pss_cons (ps_for hp cf (pit_seq (pj_fz (pn_lst (Is.pa_star (pj_nm (i := 1) rfl) (Is.pa_star (pj_nm (i := 2) rfl) Is.pa_nil))))) (pg_nm (i := 4) cf rfl) (pss_one (ps_seti (i := 3) cf rfl pj_bl (pj_nm (i := 4) rfl)))) (pss_cons (ps_for hp cf (pit_seq (pj_nm (i := 0) rfl)) (Is.pg_tup cf (pgl_cons (pg_nm (i := 4) cf rfl) (pgl_cons (pg_nm (i := 5) cf rfl) (pgl_cons (pg_nm (i := 6) cf rfl) (pgl_cons (pg_nm (i := 7) cf rfl) pgl_nil)))) ⟨_, _, rfl⟩) (pss_cons (ps_seti (i := 3) cf rfl pj_bl (pj_nm (i := 4) rfl)) (pss_one (ps_seti (i := 3) cf rfl pj_bl (pj_nm (i := 6) rfl))))) (pss_cons (ps_set (i := 8) cf rfl (pj_fz (pn_dcT (own := [("k", 10), ("state", 4)]) cf (blk_of rfl) rfl (by decide) (pit_enm z_enumerate (pj_fz (pn_sorted cf z_sorted (pj_nm (i := 3) rfl)))) (fun _ _ _ _ _ => (Is.pg_tup (bk_cf cf) (pgl_cons (pg_nm (i := 10) (bk_cf cf) rfl) (pgl_cons (pg_nm (i := 4) (bk_cf cf) rfl) pgl_nil)) ⟨_, _, rfl⟩)) (fun _ _ _ _ _ => (pj_nm (i := 4) rfl)) (fun _ _ _ _ _ => (pj_call C_name_of ((bk_cf cf).r.mono (by decide)) (Is.pa_cons (pj_nm (i := 10) rfl) Is.pa_nil)))))) (pss_cons (ps_setLC (i0 := 9) (own := [("state", 4), ("letter", 5), ("after", 6), ("price", 7)]) cf rfl (blk_of rfl) rfl (by decide) (pit_seq (pj_nm (i := 0) rfl)) (fun _ _ _ _ _ => (Is.pg_tup (bk_cf cf) (pgl_cons (pg_nm (i := 4) (bk_cf cf) rfl) (pgl_cons (pg_nm (i := 5) (bk_cf cf) rfl) (pgl_cons (pg_nm (i := 6) (bk_cf cf) rfl) (pgl_cons (pg_nm (i := 7) (bk_cf cf) rfl) pgl_nil)))) ⟨_, _, rfl⟩)) (fun _ _ _ _ _ => (pj_tup (Is.pa_cons (pj_ix (bk_cf cf) (pj_nm (i := 8) rfl) (pj_nm (i := 4) rfl)) (Is.pa_cons (pj_nm (i := 5) rfl) (Is.pa_cons (pj_ix (bk_cf cf) (pj_nm (i := 8) rfl) (pj_nm (i := 6) rfl)) (Is.pa_cons (pj_nm (i := 7) rfl) Is.pa_nil)))))) (.inl rfl)) (pss_one (ps_ret (pj_new (d := 0) k_Machine (cf.r.mono (by decide)) (Is.pa_cons (pj_call C_cheapest (cf.r.mono (by decide)) (Is.pa_cons (pj_nm (i := 9) rfl) Is.pa_nil)) (Is.pa_cons (pj_fz (pn_lc (own := [("state", 4)]) cf (blk_of rfl) rfl (by decide) (pit_seq (pj_nm (i := 1) rfl)) (fun _ _ _ _ _ => (pg_nm (i := 4) (bk_cf cf) rfl)) (fun _ _ _ _ _ => (pj_ix (bk_cf cf) (pj_nm (i := 8) rfl) (pj_nm (i := 4) rfl))))) (Is.pa_cons (pj_fz (pn_lc (own := [("state", 4)]) cf (blk_of rfl) rfl (by decide) (pit_seq (pj_nm (i := 2) rfl)) (fun _ _ _ _ _ => (pg_nm (i := 4) (bk_cf cf) rfl)) (fun _ _ _ _ _ => (pj_ix (bk_cf cf) (pj_nm (i := 8) rfl) (pj_nm (i := 4) rfl))))) Is.pa_nil)))))))))))
theorem dj_behind {P : Program} {w : World} {K : PySem.W.Frag} {mg : Str → Option Value} {base : Heap} {cl : Nat → Addr} {f : Addr} (z_any : mg "any" = none) (z_list : mg "list" = none) (C_markedO : Wx.Cal P w K mg base (L2.CX P w) 4 "marked" (spOfO cl K c_markedO)) (C_named_anew : Wx.Cal P w K mg base (L2.CX P w) 6 "named_anew" (spOf cl K c_named_anew)) (K_Machine : L2.Cls K (cl 0)) (p_Machine_ends : Wx.Prp P w K mg base (L2.CX P w) 2 (cl 0) "ends" (spOf cl K c_Machine_ends)) (p_Machine_starts : Wx.Prp P w K mg base (L2.CX P w) 2 (cl 0) "starts" (spOf cl K c_Machine_starts)) : DJ P w K mg base cl N_behind "behind" s_behind f 6 ir_behind :=
  fun cdv A outer s H E cf hp => pss_of rfl (pss_cons (ps_unpO (i := 2) cf C_markedO (cf.r.mono (by decide)) (Is.pa_cons (pj_nm (i := 0) rfl) (Is.pa_cons pj_int Is.pa_nil)) rfl (pgl_cons (pg_nm (i := 3) cf rfl) (pgl_cons (pg_nm (i := 4) cf rfl) pgl_nil))) (pss_cons (ps_unpO (i := 5) cf C_markedO (cf.r.mono (by decide)) (Is.pa_cons (pj_nm (i := 1) rfl) (Is.pa_cons pj_int Is.pa_nil)) rfl (pgl_cons (pg_nm (i := 6) cf rfl) (pgl_cons (pg_nm (i := 7) cf rfl) pgl_nil))) (pss_cons (ps_set (i := 8) cf rfl (pj_any cf z_any (pj_fz (pn_lc (own := [("state", 9)]) cf (blk_of rfl) rfl (by decide) (pit_seq (pj_prp (d := 0) p_Machine_starts K_Machine (cf.r.mono (by decide)) (pj_nm (i := 0) rfl))) (fun _ _ _ _ _ => (pg_nm (i := 9) (bk_cf cf) rfl)) (fun _ _ _ _ _ => (pj_cmp (o := .isin) (bk_cf cf) (pj_nm (i := 9) rfl) (pj_prp (d := 0) p_Machine_ends K_Machine ((bk_cf cf).r.mono (by decide)) (pj_nm (i := 0) rfl)))))))) (pss_cons (ps_for hp cf (pit_seq (pj_fz (pn_listT z_list (pj_nm (i := 2) rfl)))) (Is.pg_tup cf (pgl_cons (pg_nm (i := 9) cf rfl) (pgl_cons (pg_nm (i := 10) cf rfl) (pgl_cons (pg_nm (i := 11) cf rfl) (pgl_cons (pg_nm (i := 12) cf rfl) pgl_nil)))) ⟨_, _, rfl⟩) (pss_one (ps_if (pt_cmp (o := .isin) cf (pj_nm (i := 11) rfl) (pj_nm (i := 4) rfl)) (pss_one (ps_ext (i := 2) rfl (pj_fz (pn_lc (own := [("begin", 14)]) cf (blk_of rfl) rfl (by decide) (pit_seq (pj_nm (i := 6) rfl)) (fun _ _ _ _ _ => (pg_nm (i := 14) (bk_cf cf) rfl)) (fun _ _ _ _ _ => (pj_tup (Is.pa_cons (pj_nm (i := 9) rfl) (Is.pa_cons (pj_nm (i := 10) rfl) (Is.pa_cons (pj_nm (i := 14) rfl) (Is.pa_cons (pj_nm (i := 12) rfl) Is.pa_nil)))))))))) pss_nil))) (pss_cons (ps_set (i := 13) cf rfl (pj_ife (pt_val (pj_nm (i := 8) rfl)) (pj_fz (pn_addL (pj_nm (i := 3) rfl) (pj_nm (i := 6) rfl))) (pj_nm (i := 3) rfl))) (pss_one (ps_ret (pj_call C_named_anew (cf.r.mono (by decide)) (Is.pa_cons (pj_fz (pn_addL (pj_nm (i := 2) rfl) (pj_nm (i := 5) rfl))) (Is.pa_cons (pj_nm (i := 13) rfl) (Is.pa_cons (pj_nm (i := 7) rfl) Is.pa_nil)))))))))))
theorem dj_is_row {P : Program} {w : World} {K : PySem.W.Frag} {mg : Str → Option Value} {base : Heap} {cl : Nat → Addr} {f : Addr} (z_all : mg "all" = none) (z_isinstance : mg "isinstance" = none) (z_len : mg "len" = none) (z_str : mg "str" = none) (g_LETTERS : Wx.GStr mg "LETTERS" [97, 98, 99, 100, 101, 102, 103, 104, 105, 106, 107, 108, 109, 110, 111, 112, 113, 114, 115, 116, 117, 118, 119, 120, 121, 122]) (g_MOST_LETTERS : Wx.GInt mg "MOST_LETTERS" 5000) : DJ P w K mg base cl N_is_row "is_row" s_is_row f 1 ir_is_row :=
  fun cdv A outer s H E cf hp => pss_of rfl (pss_one (ps_ret (pj_and (pj_isi .str z_isinstance z_str Wx.boot_str (pj_nm (i := 0) rfl)) (pj_and (pj_cmp (o := .le) cf (pj_len z_len (pj_nm (i := 0) rfl)) (pj_gI g_MOST_LETTERS)) (pj_one (pj_all cf z_all (pj_fz (pn_lc (own := [("sign", 1)]) cf (blk_of rfl) rfl (by decide) (pit_seq (pj_nm (i := 0) rfl)) (fun _ _ _ _ _ => (pg_nm (i := 1) (bk_cf cf) rfl)) (fun _ _ _ _ _ => (pj_cmp (o := .isin) (bk_cf cf) (pj_nm (i := 1) rfl) (pj_gS g_LETTERS)))))))))))
theorem dj_check_row {P : Program} {w : World} {K : PySem.W.Frag} {mg : Str → Option Value} {base : Heap} {cl : Nat → Addr} {f : Addr} (C_is_row : Wx.Cal P w K mg base (L2.CX P w) 2 "is_row" (spOf cl K c_is_row)) : DJ P w K mg base cl N_check_row "check_row" s_check_row f 2 ir_check_row :=
  fun cdv A outer s H E cf hp => pss_of rfl (pss_one (ps_if (pt_not (pt_val (pj_call C_is_row (cf.r.mono (by decide)) (Is.pa_cons (pj_nm (i := 0) rfl) Is.pa_nil)))) (pss_one ps_bad) pss_nil))
theorem dj_least_at {P : Program} {w : World} {K : PySem.W.Frag} {mg : Str → Option Value} {base : Heap} {cl : Nat → Addr} {f : Addr} (z_len : mg "len" = none) (z_min : mg "min" = none) : DJ P w K mg base cl N_least_at "least_at" s_least_at f 1 ir_least_at :=
  fun cdv A outer s H E cf hp => pss_of rfl (pss_cons (ps_setLCi (i0 := 2) (own := [("state", 3)]) cf rfl (blk_of rfl) rfl (by decide) (pit_seq (pj_nm (i := 1) rfl)) (fun _ _ _ _ _ => (pg_nm (i := 3) (bk_cf cf) rfl)) (fun _ _ _ _ _ => (pt_cmp (o := .isin) (bk_cf cf) (pj_nm (i := 3) rfl) (pj_nm (i := 0) rfl))) (fun _ _ _ _ _ => (pj_ix (bk_cf cf) (pj_nm (i := 0) rfl) (pj_nm (i := 3) rfl))) (.inl rfl)) (pss_one (ps_ret (pj_ife (pt_cmp (o := .gt) cf (pj_len z_len (pj_nm (i := 2) rfl)) pj_int) (pj_minL cf z_min (pj_nm (i := 2) rfl)) pj_non))))
theorem dj_stepped {P : Program} {w : World} {K : PySem.W.Frag} {mg : Str → Option Value} {base : Heap} {cl : Nat → Addr} {f : Addr} (K_Machine : L2.Cls K (cl 0)) (N_Machine_ways : L2.NoAttr K (cl 0) "ways") : DJ P w K mg base cl N_stepped "stepped" s_stepped f 1 ir_stepped :=
  fun cdv A outer s H E cf hp => pss_of rfl (pss_cons (ps_set (i := 3) cf rfl (pj_ow pn_empK)) (pss_cons (ps_forI (i := 1) hp cf rfl (Is.pg_tup cf (pgl_cons (pg_nm (i := 4) cf rfl) (pgl_cons (pg_nm (i := 5) cf rfl) pgl_nil)) ⟨_, _, rfl⟩) (pss_one (ps_for hp cf (pit_seq (pj_get2 cf (pj_fld (d := 0) (f := 4) K_Machine N_Machine_ways rfl (by decide) (pj_nm (i := 0) rfl)) (pj_tup (Is.pa_cons (pj_nm (i := 4) rfl) (Is.pa_cons (pj_nm (i := 2) rfl) Is.pa_nil))) (pj_fz (pn_lst Is.pa_nil)))) (Is.pg_tup cf (pgl_cons (pg_nm (i := 6) cf rfl) (pgl_cons (pg_nm (i := 7) cf rfl) pgl_nil)) ⟨_, _, rfl⟩) (pss_one (ps_if (pt_bop (pw_or (pt_cmp (o := .notin) cf (pj_nm (i := 6) rfl) (pj_nm (i := 3) rfl)) (pw_one (.inr rfl) (pt_cmp (o := .lt) cf (pj_op (o := .add) (pj_nm (i := 5) rfl) (pj_nm (i := 7) rfl)) (pj_ix cf (pj_nm (i := 3) rfl) (pj_nm (i := 6) rfl)))))) (pss_one (ps_seti (i := 3) cf rfl (pj_op (o := .add) (pj_nm (i := 5) rfl) (pj_nm (i := 7) rfl)) (pj_nm (i := 6) rfl))) pss_nil))))) (pss_one (ps_ret (pj_mv (i := 3) rfl)))))
theorem dj_prices_behind {P : Program} {w : World} {K : PySem.W.Frag} {mg : Str → Option Value} {base : Heap} {cl : Nat → Addr} {f : Addr} (C_stepped : Wx.Cal P w K mg base (L2.CX P w) 2 "stepped" (spOf cl K c_stepped)) : DJ P w K mg base cl N_prices_behind "prices_behind" s_prices_behind f 2 ir_prices_behind :=
  fun cdv A outer s H E cf hp => pss_of rfl (pss_cons (ps_setDC (i0 := 3) (own := [("state", 5)]) cf rfl (blk_of rfl) rfl (by decide) (pit_seq (pj_nm (i := 2) rfl)) (fun _ _ _ _ _ => (pg_nm (i := 5) (bk_cf cf) rfl)) (fun _ _ _ _ _ => (pj_nm (i := 5) rfl)) (fun _ _ _ _ _ => pj_int) (.inl rfl)) (pss_cons (ps_for hp cf (pit_seq (pj_nm (i := 1) rfl)) (pg_nm (i := 4) cf rfl) (pss_one (ps_set (i := 3) cf rfl (pj_call C_stepped (cf.r.mono (by decide)) (Is.pa_cons (pj_nm (i := 0) rfl) (Is.pa_cons (pj_nm (i := 3) rfl) (Is.pa_cons (pj_nm (i := 4) rfl) Is.pa_nil))))))) (pss_one (ps_ret (pj_nm (i := 3) rfl)))))
theorem dj_price {P : Program} {w : World} {K : PySem.W.Frag} {mg : Str → Option Value} {base : Heap} {cl : Nat → Addr} {f : Addr} (C_check_row : Wx.Cal P w K mg base (L2.CX P w) 3 "check_row" (spOf cl K c_check_row)) (C_least_at : Wx.Cal P w K mg base (L2.CX P w) 2 "least_at" (spOf cl K c_least_at)) (C_prices_behind : Wx.Cal P w K mg base (L2.CX P w) 3 "prices_behind" (spOf cl K c_prices_behind)) (K_Machine : L2.Cls K (cl 0)) (p_Machine_ends : Wx.Prp P w K mg base (L2.CX P w) 2 (cl 0) "ends" (spOf cl K c_Machine_ends)) (p_Machine_starts : Wx.Prp P w K mg base (L2.CX P w) 2 (cl 0) "starts" (spOf cl K c_Machine_starts)) : DJ P w K mg base cl N_price "price" s_price f 3 ir_price :=
  fun cdv A outer s H E cf hp => pss_of rfl (pss_cons (ps_ex (pj_call C_check_row (cf.r.mono (by decide)) (Is.pa_cons (pj_nm (i := 1) rfl) Is.pa_nil))) (pss_one (ps_ret (pj_call C_least_at (cf.r.mono (by decide)) (Is.pa_cons (pj_call C_prices_behind (cf.r.mono (by decide)) (Is.pa_cons (pj_nm (i := 0) rfl) (Is.pa_cons (pj_nm (i := 1) rfl) (Is.pa_cons (pj_prp (d := 0) p_Machine_starts K_Machine (cf.r.mono (by decide)) (pj_nm (i := 0) rfl)) Is.pa_nil)))) (Is.pa_cons (pj_prp (d := 0) p_Machine_ends K_Machine (cf.r.mono (by decide)) (pj_nm (i := 0) rfl)) Is.pa_nil))))))
theorem dj_law_k11 {P : Program} {w : World} {K : PySem.W.Frag} {mg : Str → Option Value} {base : Heap} {cl : Nat → Addr} {f : Addr} (z_all : mg "all" = none) (z_len : mg "len" = none) (z_range : mg "range" = none) (C_behind : Wx.Cal P w K mg base (L2.CX P w) 7 "behind" (spOf cl K c_behind)) (C_law_draw : Wx.Cal P w K mg base (L2.CX P w) 1 "_law_draw" (spOf cl K c_law_draw)) (C_law_due : Wx.Cal P w K mg base (L2.CX P w) 4 "_law_due" (spOf cl K c_law_due)) (C_law_machine : Wx.Cal P w K mg base (L2.CX P w) 4 "_law_machine" (spOf cl K c_law_machine)) (C_law_pick : Wx.Cal P w K mg base (L2.CX P w) 2 "_law_pick" (spOf cl K c_law_pick)) (C_law_rows : Wx.Cal P w K mg base (L2.CX P w) 2 "_law_rows" (spOf cl K c_law_rows)) (C_law_waves : Wx.Cal P w K mg base (L2.CX P w) 4 "_law_waves" (spOf cl K c_law_waves)) (C_price : Wx.Cal P w K mg base (L2.CX P w) 4 "price" (spOf cl K c_price)) (K_Machine : L2.Cls K (cl 0)) (S_law_source : Wx.Cal P w K mg base L2.CX0 1 "_law_source" (Wx.spSource K)) (k_Machine : Wx.Mkr P w K mg base (L2.CX P w) 4 "Machine" (cl 0) (spOf cl K c_Machine_init)) (p_Machine_states : Wx.Prp P w K mg base (L2.CX P w) 2 (cl 0) "states" (spOf cl K c_Machine_states)) : DJ P w K mg base cl N_law "law" s_law f 7 ir_law_k11 :=
  fun cdv A outer s H E cf hp => pss_of rfl (pss_cons (ps_set (i := 1) cf rfl (pj_src (i := 0) S_law_source (cf.r.mono (by decide)) rfl)) (pss_cons (ps_asg (Is.pg_tup cf (pgl_cons (pg_nm (i := 2) cf rfl) (pgl_cons (pg_nm (i := 3) cf rfl) pgl_nil)) ⟨_, _, rfl⟩) (pj_tup (Is.pa_cons (pj_call C_law_machine (cf.r.mono (by decide)) (Is.pa_cons (pj_nm (i := 1) rfl) (Is.pa_cons pj_int (Is.pa_cons pj_int (Is.pa_cons pj_int Is.pa_nil))))) (Is.pa_cons (pj_call C_law_machine (cf.r.mono (by decide)) (Is.pa_cons (pj_nm (i := 1) rfl) (Is.pa_cons pj_int (Is.pa_cons pj_int (Is.pa_cons pj_int Is.pa_nil))))) Is.pa_nil)))) (pss_cons (ps_if (pt_cmp (o := .eq) cf (pj_call C_law_draw (cf.r.mono (by decide)) (Is.pa_cons (pj_nm (i := 1) rfl) (Is.pa_cons pj_int Is.pa_nil))) pj_int) (pss_one (ps_set (i := 2) cf rfl (pj_call C_law_pick (cf.r.mono (by decide)) (Is.pa_cons (pj_nm (i := 1) rfl) (Is.pa_cons (pj_fz (pn_lst (Is.pa_cons (pj_tup (Is.pa_cons (pj_fz (pn_lst Is.pa_nil)) (Is.pa_cons (pj_fz (pn_lst Is.pa_nil)) (Is.pa_cons (pj_fz (pn_lst Is.pa_nil)) Is.pa_nil)))) (Is.pa_cons (pj_tup (Is.pa_cons (pj_fz (pn_lst Is.pa_nil)) (Is.pa_cons (pj_fz (pn_lst (Is.pa_cons (pj_str lit_12) Is.pa_nil))) (Is.pa_cons (pj_fz (pn_lst (Is.pa_cons (pj_str lit_12) Is.pa_nil))) Is.pa_nil)))) (Is.pa_cons (pj_tup (Is.pa_cons (pj_ix cf (pj_nm (i := 2) rfl) pj_int) (Is.pa_cons (pj_fz (pn_lst Is.pa_nil)) (Is.pa_cons (pj_ix cf (pj_nm (i := 2) rfl) pj_int) Is.pa_nil)))) Is.pa_nil))))) Is.pa_nil))))) pss_nil) (pss_cons (ps_if (pt_cmp (o := .eq) cf (pj_call C_law_draw (cf.r.mono (by decide)) (Is.pa_cons (pj_nm (i := 1) rfl) (Is.pa_cons pj_int Is.pa_nil))) pj_int) (pss_one (ps_set (i := 2) cf rfl (pj_tup (Is.pa_cons (pj_ix cf (pj_nm (i := 2) rfl) pj_int) (Is.pa_cons (pj_ix cf (pj_nm (i := 2) rfl) pj_int) (Is.pa_cons (pj_fz (pn_addL (pj_ix cf (pj_nm (i := 2) rfl) pj_int) (pj_sl01 (pj_ix cf (pj_nm (i := 2) rfl) pj_int) pj_int))) Is.pa_nil)))))) pss_nil) (pss_cons (ps_if (pt_cmp (o := .eq) cf (pj_call C_law_draw (cf.r.mono (by decide)) (Is.pa_cons (pj_nm (i := 1) rfl) (Is.pa_cons pj_int Is.pa_nil))) pj_int) (pss_one (ps_set (i := 3) cf rfl (pj_tup (Is.pa_cons (pj_ix cf (pj_nm (i := 3) rfl) pj_int) (Is.pa_cons (pj_ix cf (pj_nm (i := 3) rfl) pj_int) (Is.pa_cons (pj_fz (pn_addL (pj_ix cf (pj_nm (i := 3) rfl) pj_int) (pj_sl01 (pj_ix cf (pj_nm (i := 3) rfl) pj_int) pj_int))) Is.pa_nil)))))) pss_nil) (pss_cons (ps_par2 (i := 4) (j := 5) cf rfl rfl (by decide) (Is.pa_cons (pj_new (d := 0) k_Machine (cf.r.mono (by decide)) (Is.pa_cons (pj_ix cf (pj_nm (i := 2) rfl) pj_int) (Is.pa_cons (pj_ix cf (pj_nm (i := 2) rfl) pj_int) (Is.pa_cons (pj_ix cf (pj_nm (i := 2) rfl) pj_int) Is.pa_nil)))) (Is.pa_cons (pj_new (d := 0) k_Machine (cf.r.mono (by decide)) (Is.pa_cons (pj_ix cf (pj_nm (i := 3) rfl) pj_int) (Is.pa_cons (pj_ix cf (pj_nm (i := 3) rfl) pj_int) (Is.pa_cons (pj_ix cf (pj_nm (i := 3) rfl) pj_int) Is.pa_nil)))) Is.pa_nil))) (pss_cons (ps_set (i := 6) cf rfl (pj_call C_behind (cf.r.mono (by decide)) (Is.pa_cons (pj_nm (i := 4) rfl) (Is.pa_cons (pj_nm (i := 5) rfl) Is.pa_nil)))) (pss_cons (ps_if (pt_cmp (o := .gt) cf (pj_len z_len (pj_prp (d := 0) p_Machine_states K_Machine (cf.r.mono (by decide)) (pj_nm (i := 6) rfl))) (pj_op (o := .add) (pj_len z_len (pj_prp (d := 0) p_Machine_states K_Machine (cf.r.mono (by decide)) (pj_nm (i := 4) rfl))) (pj_len z_len (pj_prp (d := 0) p_Machine_states K_Machine (cf.r.mono (by decide)) (pj_nm (i := 5) rfl))))) (pss_one (ps_ret pj_bl)) pss_nil) (pss_cons (ps_set (i := 7) cf rfl (pj_fz (pn_addL (pj_call C_law_rows (cf.r.mono (by decide)) (Is.pa_cons (pj_fz (pn_lst (Is.pa_cons (pj_str lit_12) (Is.pa_cons (pj_str lit_13) Is.pa_nil)))) (Is.pa_cons pj_int Is.pa_nil))) (pj_fz (pn_lc (own := [("_law_k", 8)]) cf (blk_of rfl) rfl (by decide) (pit_rng1 z_range pj_int) (fun _ _ _ _ _ => (pg_nm (i := 8) (bk_cf cf) rfl)) (fun _ _ _ _ _ => (pj_sl01 (pj_call C_law_waves ((bk_cf cf).r.mono (by decide)) (Is.pa_cons (pj_nm (i := 1) rfl) (Is.pa_cons (pj_fz (pn_lst (Is.pa_cons (pj_str lit_12) (Is.pa_cons (pj_str lit_13) Is.pa_nil)))) (Is.pa_cons pj_int Is.pa_nil)))) pj_int))))))) (pss_one (ps_ret (pj_all cf z_all (pj_fz (pn_lc (own := [("_law_row_here", 9)]) cf (blk_of rfl) rfl (by decide) (pit_seq (pj_nm (i := 7) rfl)) (fun _ _ _ _ _ => (pg_nm (i := 9) (bk_cf cf) rfl)) (fun _ _ _ _ _ => (pj_cmp (o := .eq) (bk_cf cf) (pj_call C_price ((bk_cf cf).r.mono (by decide)) (Is.pa_cons (pj_nm (i := 6) rfl) (Is.pa_cons (pj_nm (i := 9) rfl) Is.pa_nil))) (pj_call C_law_due ((bk_cf cf).r.mono (by decide)) (Is.pa_cons (pj_nm (i := 2) rfl) (Is.pa_cons (pj_nm (i := 3) rfl) (Is.pa_cons (pj_nm (i := 9) rfl) Is.pa_nil))))))))))))))))))))
end
open PySem PySem.Spec PyProof.Rows L2 Wx Is
theorem all_mk {l : PySem.W.OpenLaw} {w : World} {K : PySem.W.Frag} {h : Heap} {mg : Str → Option Value} {fa : Addr} (X : K.In h) (G : h.Ns mainGlobals mg) (hfa : mg "law" = some (.ref fa))
    {A_Machine : Addr}
    {f0 : Addr} {od0 an0 : Option Addr} {sl0 : Array (Option Value)} {oc0 kV0 dc0 pm0 cd0 ct0 : Value}
    {f1 : Addr} {od1 an1 : Option Addr} {sl1 : Array (Option Value)} {oc1 kV1 dc1 pm1 cd1 ct1 : Value}
    {f2 : Addr} {od2 an2 : Option Addr} {sl2 : Array (Option Value)} {oc2 kV2 dc2 pm2 cd2 ct2 : Value}
    {f3 : Addr} {od3 an3 : Option Addr} {sl3 : Array (Option Value)} {oc3 kV3 dc3 pm3 cd3 ct3 : Value}
    {f4 : Addr} {od4 an4 : Option Addr} {sl4 : Array (Option Value)} {oc4 kV4 dc4 pm4 cd4 ct4 : Value}
    {f5 : Addr} {od5 an5 : Option Addr} {sl5 : Array (Option Value)} {oc5 kV5 dc5 pm5 cd5 ct5 : Value}
    {f6 : Addr} {od6 an6 : Option Addr} {sl6 : Array (Option Value)} {oc6 kV6 dc6 pm6 cd6 ct6 : Value}
    {f7 : Addr} {od7 an7 : Option Addr} {sl7 : Array (Option Value)} {oc7 kV7 dc7 pm7 cd7 ct7 : Value}
    {p7 : Addr} {rs7 : List Value}
    {f8 : Addr} {od8 an8 : Option Addr} {sl8 : Array (Option Value)} {oc8 kV8 dc8 pm8 cd8 ct8 : Value}
    {f9 : Addr} {od9 an9 : Option Addr} {sl9 : Array (Option Value)} {oc9 kV9 dc9 pm9 cd9 ct9 : Value}
    {f10 : Addr} {od10 an10 : Option Addr} {sl10 : Array (Option Value)} {oc10 kV10 dc10 pm10 cd10 ct10 : Value}
    {f11 : Addr} {od11 an11 : Option Addr} {sl11 : Array (Option Value)} {oc11 kV11 dc11 pm11 cd11 ct11 : Value}
    {f12 : Addr} {od12 an12 : Option Addr} {sl12 : Array (Option Value)} {oc12 kV12 dc12 pm12 cd12 ct12 : Value}
    {f13 : Addr} {od13 an13 : Option Addr} {sl13 : Array (Option Value)} {oc13 kV13 dc13 pm13 cd13 ct13 : Value}
    {f14 : Addr} {od14 an14 : Option Addr} {sl14 : Array (Option Value)} {oc14 kV14 dc14 pm14 cd14 ct14 : Value}
    {f15 : Addr} {od15 an15 : Option Addr} {sl15 : Array (Option Value)} {oc15 kV15 dc15 pm15 cd15 ct15 : Value}
    {f16 : Addr} {od16 an16 : Option Addr} {sl16 : Array (Option Value)} {oc16 kV16 dc16 pm16 cd16 ct16 : Value}
    {f17 : Addr} {od17 an17 : Option Addr} {sl17 : Array (Option Value)} {oc17 kV17 dc17 pm17 cd17 ct17 : Value}
    {f18 : Addr} {od18 an18 : Option Addr} {sl18 : Array (Option Value)} {oc18 kV18 dc18 pm18 cd18 ct18 : Value}
    {f19 : Addr} {od19 an19 : Option Addr} {sl19 : Array (Option Value)} {oc19 kV19 dc19 pm19 cd19 ct19 : Value}
    {f20 : Addr} {od20 an20 : Option Addr} {sl20 : Array (Option Value)} {oc20 kV20 dc20 pm20 cd20 ct20 : Value}
    {f21 : Addr} {od21 an21 : Option Addr} {sl21 : Array (Option Value)} {oc21 kV21 dc21 pm21 cd21 ct21 : Value}
    {p21 : Addr} {rs21 : List Value}
    {f22 : Addr} {od22 an22 : Option Addr} {sl22 : Array (Option Value)} {oc22 kV22 dc22 pm22 cd22 ct22 : Value}
    {p22 : Addr} {rs22 : List Value}
    {f23 : Addr} {od23 an23 : Option Addr} {sl23 : Array (Option Value)} {oc23 kV23 dc23 pm23 cd23 ct23 : Value}
    {p23 : Addr} {rs23 : List Value}
    {f24 : Addr} {od24 an24 : Option Addr} {sl24 : Array (Option Value)} {oc24 kV24 dc24 pm24 cd24 ct24 : Value}
    {f25 : Addr} {od25 an25 : Option Addr} {sl25 : Array (Option Value)} {oc25 kV25 dc25 pm25 cd25 ct25 : Value}
    {f26 : Addr} {od26 an26 : Option Addr} {sl26 : Array (Option Value)} {oc26 kV26 dc26 pm26 cd26 ct26 : Value}
    {f27 : Addr} {od27 an27 : Option Addr} {sl27 : Array (Option Value)} {oc27 kV27 dc27 pm27 cd27 ct27 : Value}
    {f28 : Addr} {od28 an28 : Option Addr} {sl28 : Array (Option Value)} {oc28 kV28 dc28 pm28 cd28 ct28 : Value}
    {f29 : Addr} {od29 an29 : Option Addr} {sl29 : Array (Option Value)} {oc29 kV29 dc29 pm29 cd29 ct29 : Value}
    {f30 : Addr} {od30 an30 : Option Addr} {sl30 : Array (Option Value)} {oc30 kV30 dc30 pm30 cd30 ct30 : Value}
    {f31 : Addr} {od31 an31 : Option Addr} {sl31 : Array (Option Value)} {oc31 kV31 dc31 pm31 cd31 ct31 : Value}
    {f32 : Addr} {od32 an32 : Option Addr} {sl32 : Array (Option Value)} {oc32 kV32 dc32 pm32 cd32 ct32 : Value}
    {f33 : Addr} {od33 an33 : Option Addr} {sl33 : Array (Option Value)} {oc33 kV33 dc33 pm33 cd33 ct33 : Value}
    {f34 : Addr} {od34 an34 : Option Addr} {sl34 : Array (Option Value)} {oc34 kV34 dc34 pm34 cd34 ct34 : Value}
    {f35 : Addr} {od35 an35 : Option Addr} {sl35 : Array (Option Value)} {oc35 kV35 dc35 pm35 cd35 ct35 : Value}
    {t_LETTERS : Tok}
    {t_MOST_ARROWS : Tok}
    {t_MOST_LETTERS : Tok}
    {t_MOST_PRICE : Tok}
    {t_MOST_SIGNS : Tok}
    {t_MOST_STATES : Tok}
    {t_SIGNS : Tok}
    (aC_Machine : PySem.W.nsIn K mainGlobals "Machine" = some (some (.ref A_Machine)))
    (pg_Machine : PySem.W.plainGet K A_Machine Str.empty = true) (hd_Machine : PySem.W.hasDictIn K A_Machine = true) (po_Machine : PySem.W.plainOver K A_Machine = true) (sa_Machine : PySem.W.findIn K (.ref A_Machine) "__setattr__" = some (some (.builtin "object.__setattr__"))) (mk_Machine : PySem.W.makesIn K A_Machine = true) (kc_Machine : PySem.W.keepIn K (.ref A_Machine) = true)
    (nN_Machine_own_arrows : PySem.W.findIn K (.ref A_Machine) "own_arrows" = some none)
    (nN_Machine_own_starts : PySem.W.findIn K (.ref A_Machine) "own_starts" = some none)
    (nN_Machine_own_ends : PySem.W.findIn K (.ref A_Machine) "own_ends" = some none)
    (nN_Machine_own_states : PySem.W.findIn K (.ref A_Machine) "own_states" = some none)
    (nN_Machine_ways : PySem.W.findIn K (.ref A_Machine) "ways" = some none)
    (a0 : PySem.W.nsIn K mainGlobals "cheapest" = some (some (.ref f0)))
    (l0 : K.lookup f0 = some ⟨oc0, od0, .func (PySem.W.fnOf "cheapest" "cheapest" (defArgs s_cheapest) (defBody s_cheapest) (defScope s_cheapest) .none kV0 dc0 pm0 an0 cd0 ct0), sl0⟩) (c0 : PySem.W.codeIn K cd0 "cheapest" = true) (k0 : PySem.W.keepIn K (.ref f0) = true)
    (a1 : PySem.W.nsIn K mainGlobals "each_once" = some (some (.ref f1)))
    (l1 : K.lookup f1 = some ⟨oc1, od1, .func (PySem.W.fnOf "each_once" "each_once" (defArgs s_each_once) (defBody s_each_once) (defScope s_each_once) .none kV1 dc1 pm1 an1 cd1 ct1), sl1⟩) (c1 : PySem.W.codeIn K cd1 "each_once" = true) (k1 : PySem.W.keepIn K (.ref f1) = true)
    (a2 : PySem.W.nsIn K mainGlobals "is_letter" = some (some (.ref f2)))
    (l2 : K.lookup f2 = some ⟨oc2, od2, .func (PySem.W.fnOf "is_letter" "is_letter" (defArgs s_is_letter) (defBody s_is_letter) (defScope s_is_letter) .none kV2 dc2 pm2 an2 cd2 ct2), sl2⟩) (c2 : PySem.W.codeIn K cd2 "is_letter" = true) (k2 : PySem.W.keepIn K (.ref f2) = true)
    (a3 : PySem.W.nsIn K mainGlobals "is_name" = some (some (.ref f3)))
    (l3 : K.lookup f3 = some ⟨oc3, od3, .func (PySem.W.fnOf "is_name" "is_name" (defArgs s_is_name) (defBody s_is_name) (defScope s_is_name) .none kV3 dc3 pm3 an3 cd3 ct3), sl3⟩) (c3 : PySem.W.codeIn K cd3 "is_name" = true) (k3 : PySem.W.keepIn K (.ref f3) = true)
    (a4 : PySem.W.nsIn K mainGlobals "is_price" = some (some (.ref f4)))
    (l4 : K.lookup f4 = some ⟨oc4, od4, .func (PySem.W.fnOf "is_price" "is_price" (defArgs s_is_price) (defBody s_is_price) (defScope s_is_price) .none kV4 dc4 pm4 an4 cd4 ct4), sl4⟩) (c4 : PySem.W.codeIn K cd4 "is_price" = true) (k4 : PySem.W.keepIn K (.ref f4) = true)
    (a5 : PySem.W.nsIn K mainGlobals "is_arrow" = some (some (.ref f5)))
    (l5 : K.lookup f5 = some ⟨oc5, od5, .func (PySem.W.fnOf "is_arrow" "is_arrow" (defArgs s_is_arrow) (defBody s_is_arrow) (defScope s_is_arrow) .none kV5 dc5 pm5 an5 cd5 ct5), sl5⟩) (c5 : PySem.W.codeIn K cd5 "is_arrow" = true) (k5 : PySem.W.keepIn K (.ref f5) = true)
    (a6 : PySem.W.findIn K (.ref A_Machine) "__init__" = some (some (.ref f6))) (i6 : PySem.W.isFn K (.ref f6) = true)
    (l6 : K.lookup f6 = some ⟨oc6, od6, .func (PySem.W.fnOf "__init__" "Machine.__init__" (defArgs s_Machine_init) (defBody s_Machine_init) (defScope s_Machine_init) .none kV6 dc6 pm6 an6 cd6 ct6), sl6⟩) (c6 : PySem.W.codeIn K cd6 "Machine.__init__" = true) (k6 : PySem.W.keepIn K (.ref f6) = true)
    (a7 : PySem.W.findIn K (.ref A_Machine) "states" = some (some (.ref p7))) (s7 : PySem.W.specialIn K (.ref p7) "__get__" = some (some (.builtin "property.__get__"))) (t7 : PySem.W.takesIn K (.ref p7) = some true) (r7 : PySem.W.recIn K p7 "property" = some (.ref f7 :: rs7))
    (l7 : K.lookup f7 = some ⟨oc7, od7, .func (PySem.W.fnOf "states" "Machine.states" (defArgs s_Machine_states) (defBody s_Machine_states) (defScope s_Machine_states) .none kV7 dc7 pm7 an7 cd7 ct7), sl7⟩) (c7 : PySem.W.codeIn K cd7 "Machine.states" = true) (k7 : PySem.W.keepIn K (.ref f7) = true)
    (a8 : PySem.W.nsIn K mainGlobals "_law_draw" = some (some (.ref f8)))
    (l8 : K.lookup f8 = some ⟨oc8, od8, .func (PySem.W.fnOf "_law_draw" "_law_draw" (defArgs s_law_draw) (defBody s_law_draw) (defScope s_law_draw) .none kV8 dc8 pm8 an8 cd8 ct8), sl8⟩) (c8 : PySem.W.codeIn K cd8 "_law_draw" = true) (k8 : PySem.W.keepIn K (.ref f8) = true)
    (a9 : PySem.W.nsIn K mainGlobals "_law_ahead" = some (some (.ref f9)))
    (l9 : K.lookup f9 = some ⟨oc9, od9, .func (PySem.W.fnOf "_law_ahead" "_law_ahead" (defArgs s_law_ahead) (defBody s_law_ahead) (defScope s_law_ahead) .none kV9 dc9 pm9 an9 cd9 ct9), sl9⟩) (c9 : PySem.W.codeIn K cd9 "_law_ahead" = true) (k9 : PySem.W.keepIn K (.ref f9) = true)
    (a10 : PySem.W.nsIn K mainGlobals "_law_price" = some (some (.ref f10)))
    (l10 : K.lookup f10 = some ⟨oc10, od10, .func (PySem.W.fnOf "_law_price" "_law_price" (defArgs s_law_price) (defBody s_law_price) (defScope s_law_price) .none kV10 dc10 pm10 an10 cd10 ct10), sl10⟩) (c10 : PySem.W.codeIn K cd10 "_law_price" = true) (k10 : PySem.W.keepIn K (.ref f10) = true)
    (a11 : PySem.W.nsIn K mainGlobals "_law_due" = some (some (.ref f11)))
    (l11 : K.lookup f11 = some ⟨oc11, od11, .func (PySem.W.fnOf "_law_due" "_law_due" (defArgs s_law_due) (defBody s_law_due) (defScope s_law_due) .none kV11 dc11 pm11 an11 cd11 ct11), sl11⟩) (c11 : PySem.W.codeIn K cd11 "_law_due" = true) (k11 : PySem.W.keepIn K (.ref f11) = true)
    (a12 : PySem.W.nsIn K mainGlobals "_law_pick" = some (some (.ref f12)))
    (l12 : K.lookup f12 = some ⟨oc12, od12, .func (PySem.W.fnOf "_law_pick" "_law_pick" (defArgs s_law_pick) (defBody s_law_pick) (defScope s_law_pick) .none kV12 dc12 pm12 an12 cd12 ct12), sl12⟩) (c12 : PySem.W.codeIn K cd12 "_law_pick" = true) (k12 : PySem.W.keepIn K (.ref f12) = true)
    (a13 : PySem.W.nsIn K mainGlobals "_law_arrows" = some (some (.ref f13)))
    (l13 : K.lookup f13 = some ⟨oc13, od13, .func (PySem.W.fnOf "_law_arrows" "_law_arrows" (defArgs s_law_arrows) (defBody s_law_arrows) (defScope s_law_arrows) .none kV13 dc13 pm13 an13 cd13 ct13), sl13⟩) (c13 : PySem.W.codeIn K cd13 "_law_arrows" = true) (k13 : PySem.W.keepIn K (.ref f13) = true)
    (a14 : PySem.W.nsIn K mainGlobals "_law_name" = some (some (.ref f14)))
    (l14 : K.lookup f14 = some ⟨oc14, od14, .func (PySem.W.fnOf "_law_name" "_law_name" (defArgs s_law_name) (defBody s_law_name) (defScope s_law_name) .none kV14 dc14 pm14 an14 cd14 ct14), sl14⟩) (c14 : PySem.W.codeIn K cd14 "_law_name" = true) (k14 : PySem.W.keepIn K (.ref f14) = true)
    (a15 : PySem.W.nsIn K mainGlobals "_law_names" = some (some (.ref f15)))
    (l15 : K.lookup f15 = some ⟨oc15, od15, .func (PySem.W.fnOf "_law_names" "_law_names" (defArgs s_law_names) (defBody s_law_names) (defScope s_law_names) .none kV15 dc15 pm15 an15 cd15 ct15), sl15⟩) (c15 : PySem.W.codeIn K cd15 "_law_names" = true) (k15 : PySem.W.keepIn K (.ref f15) = true)
    (a16 : PySem.W.nsIn K mainGlobals "_law_subset" = some (some (.ref f16)))
    (l16 : K.lookup f16 = some ⟨oc16, od16, .func (PySem.W.fnOf "_law_subset" "_law_subset" (defArgs s_law_subset) (defBody s_law_subset) (defScope s_law_subset) .none kV16 dc16 pm16 an16 cd16 ct16), sl16⟩) (c16 : PySem.W.codeIn K cd16 "_law_subset" = true) (k16 : PySem.W.keepIn K (.ref f16) = true)
    (a17 : PySem.W.nsIn K mainGlobals "_law_machine" = some (some (.ref f17)))
    (l17 : K.lookup f17 = some ⟨oc17, od17, .func (PySem.W.fnOf "_law_machine" "_law_machine" (defArgs s_law_machine) (defBody s_law_machine) (defScope s_law_machine) .none kV17 dc17 pm17 an17 cd17 ct17), sl17⟩) (c17 : PySem.W.codeIn K cd17 "_law_machine" = true) (k17 : PySem.W.keepIn K (.ref f17) = true)
    (a18 : PySem.W.nsIn K mainGlobals "_law_rows" = some (some (.ref f18)))
    (l18 : K.lookup f18 = some ⟨oc18, od18, .func (PySem.W.fnOf "_law_rows" "_law_rows" (defArgs s_law_rows) (defBody s_law_rows) (defScope s_law_rows) .none kV18 dc18 pm18 an18 cd18 ct18), sl18⟩) (c18 : PySem.W.codeIn K cd18 "_law_rows" = true) (k18 : PySem.W.keepIn K (.ref f18) = true)
    (a19 : PySem.W.nsIn K mainGlobals "_law_row" = some (some (.ref f19)))
    (l19 : K.lookup f19 = some ⟨oc19, od19, .func (PySem.W.fnOf "_law_row" "_law_row" (defArgs s_law_row) (defBody s_law_row) (defScope s_law_row) .none kV19 dc19 pm19 an19 cd19 ct19), sl19⟩) (c19 : PySem.W.codeIn K cd19 "_law_row" = true) (k19 : PySem.W.keepIn K (.ref f19) = true)
    (a20 : PySem.W.nsIn K mainGlobals "_law_waves" = some (some (.ref f20)))
    (l20 : K.lookup f20 = some ⟨oc20, od20, .func (PySem.W.fnOf "_law_waves" "_law_waves" (defArgs s_law_waves) (defBody s_law_waves) (defScope s_law_waves) .none kV20 dc20 pm20 an20 cd20 ct20), sl20⟩) (c20 : PySem.W.codeIn K cd20 "_law_waves" = true) (k20 : PySem.W.keepIn K (.ref f20) = true)
    (a21 : PySem.W.findIn K (.ref A_Machine) "ends" = some (some (.ref p21))) (s21 : PySem.W.specialIn K (.ref p21) "__get__" = some (some (.builtin "property.__get__"))) (t21 : PySem.W.takesIn K (.ref p21) = some true) (r21 : PySem.W.recIn K p21 "property" = some (.ref f21 :: rs21))
    (l21 : K.lookup f21 = some ⟨oc21, od21, .func (PySem.W.fnOf "ends" "Machine.ends" (defArgs s_Machine_ends) (defBody s_Machine_ends) (defScope s_Machine_ends) .none kV21 dc21 pm21 an21 cd21 ct21), sl21⟩) (c21 : PySem.W.codeIn K cd21 "Machine.ends" = true) (k21 : PySem.W.keepIn K (.ref f21) = true)
    (a22 : PySem.W.findIn K (.ref A_Machine) "starts" = some (some (.ref p22))) (s22 : PySem.W.specialIn K (.ref p22) "__get__" = some (some (.builtin "property.__get__"))) (t22 : PySem.W.takesIn K (.ref p22) = some true) (r22 : PySem.W.recIn K p22 "property" = some (.ref f22 :: rs22))
    (l22 : K.lookup f22 = some ⟨oc22, od22, .func (PySem.W.fnOf "starts" "Machine.starts" (defArgs s_Machine_starts) (defBody s_Machine_starts) (defScope s_Machine_starts) .none kV22 dc22 pm22 an22 cd22 ct22), sl22⟩) (c22 : PySem.W.codeIn K cd22 "Machine.starts" = true) (k22 : PySem.W.keepIn K (.ref f22) = true)
    (a23 : PySem.W.findIn K (.ref A_Machine) "arrows" = some (some (.ref p23))) (s23 : PySem.W.specialIn K (.ref p23) "__get__" = some (some (.builtin "property.__get__"))) (t23 : PySem.W.takesIn K (.ref p23) = some true) (r23 : PySem.W.recIn K p23 "property" = some (.ref f23 :: rs23))
    (l23 : K.lookup f23 = some ⟨oc23, od23, .func (PySem.W.fnOf "arrows" "Machine.arrows" (defArgs s_Machine_arrows) (defBody s_Machine_arrows) (defScope s_Machine_arrows) .none kV23 dc23 pm23 an23 cd23 ct23), sl23⟩) (c23 : PySem.W.codeIn K cd23 "Machine.arrows" = true) (k23 : PySem.W.keepIn K (.ref f23) = true)
    (a24 : PySem.W.nsIn K mainGlobals "marked" = some (some (.ref f24)))
    (l24 : K.lookup f24 = some ⟨oc24, od24, .func (PySem.W.fnOf "marked" "marked" (defArgs s_marked) (defBody s_marked) (defScope s_marked) .none kV24 dc24 pm24 an24 cd24 ct24), sl24⟩) (c24 : PySem.W.codeIn K cd24 "marked" = true) (k24 : PySem.W.keepIn K (.ref f24) = true)
    (a25 : PySem.W.nsIn K mainGlobals "name_of" = some (some (.ref f25)))
    (l25 : K.lookup f25 = some ⟨oc25, od25, .func (PySem.W.fnOf "name_of" "name_of" (defArgs s_name_of) (defBody s_name_of) (defScope s_name_of) .none kV25 dc25 pm25 an25 cd25 ct25), sl25⟩) (c25 : PySem.W.codeIn K cd25 "name_of" = true) (k25 : PySem.W.keepIn K (.ref f25) = true)
    (a26 : PySem.W.nsIn K mainGlobals "named_anew" = some (some (.ref f26)))
    (l26 : K.lookup f26 = some ⟨oc26, od26, .func (PySem.W.fnOf "named_anew" "named_anew" (defArgs s_named_anew) (defBody s_named_anew) (defScope s_named_anew) .none kV26 dc26 pm26 an26 cd26 ct26), sl26⟩) (c26 : PySem.W.codeIn K cd26 "named_anew" = true) (k26 : PySem.W.keepIn K (.ref f26) = true)
    (a27 : PySem.W.nsIn K mainGlobals "behind" = some (some (.ref f27)))
    (l27 : K.lookup f27 = some ⟨oc27, od27, .func (PySem.W.fnOf "behind" "behind" (defArgs s_behind) (defBody s_behind) (defScope s_behind) .none kV27 dc27 pm27 an27 cd27 ct27), sl27⟩) (c27 : PySem.W.codeIn K cd27 "behind" = true) (k27 : PySem.W.keepIn K (.ref f27) = true)
    (a28 : PySem.W.nsIn K mainGlobals "is_row" = some (some (.ref f28)))
    (l28 : K.lookup f28 = some ⟨oc28, od28, .func (PySem.W.fnOf "is_row" "is_row" (defArgs s_is_row) (defBody s_is_row) (defScope s_is_row) .none kV28 dc28 pm28 an28 cd28 ct28), sl28⟩) (c28 : PySem.W.codeIn K cd28 "is_row" = true) (k28 : PySem.W.keepIn K (.ref f28) = true)
    (a29 : PySem.W.nsIn K mainGlobals "check_row" = some (some (.ref f29)))
    (l29 : K.lookup f29 = some ⟨oc29, od29, .func (PySem.W.fnOf "check_row" "check_row" (defArgs s_check_row) (defBody s_check_row) (defScope s_check_row) .none kV29 dc29 pm29 an29 cd29 ct29), sl29⟩) (c29 : PySem.W.codeIn K cd29 "check_row" = true) (k29 : PySem.W.keepIn K (.ref f29) = true)
    (a30 : PySem.W.nsIn K mainGlobals "least_at" = some (some (.ref f30)))
    (l30 : K.lookup f30 = some ⟨oc30, od30, .func (PySem.W.fnOf "least_at" "least_at" (defArgs s_least_at) (defBody s_least_at) (defScope s_least_at) .none kV30 dc30 pm30 an30 cd30 ct30), sl30⟩) (c30 : PySem.W.codeIn K cd30 "least_at" = true) (k30 : PySem.W.keepIn K (.ref f30) = true)
    (a31 : PySem.W.nsIn K mainGlobals "stepped" = some (some (.ref f31)))
    (l31 : K.lookup f31 = some ⟨oc31, od31, .func (PySem.W.fnOf "stepped" "stepped" (defArgs s_stepped) (defBody s_stepped) (defScope s_stepped) .none kV31 dc31 pm31 an31 cd31 ct31), sl31⟩) (c31 : PySem.W.codeIn K cd31 "stepped" = true) (k31 : PySem.W.keepIn K (.ref f31) = true)
    (a32 : PySem.W.nsIn K mainGlobals "prices_behind" = some (some (.ref f32)))
    (l32 : K.lookup f32 = some ⟨oc32, od32, .func (PySem.W.fnOf "prices_behind" "prices_behind" (defArgs s_prices_behind) (defBody s_prices_behind) (defScope s_prices_behind) .none kV32 dc32 pm32 an32 cd32 ct32), sl32⟩) (c32 : PySem.W.codeIn K cd32 "prices_behind" = true) (k32 : PySem.W.keepIn K (.ref f32) = true)
    (a33 : PySem.W.nsIn K mainGlobals "price" = some (some (.ref f33)))
    (l33 : K.lookup f33 = some ⟨oc33, od33, .func (PySem.W.fnOf "price" "price" (defArgs s_price) (defBody s_price) (defScope s_price) .none kV33 dc33 pm33 an33 cd33 ct33), sl33⟩) (c33 : PySem.W.codeIn K cd33 "price" = true) (k33 : PySem.W.keepIn K (.ref f33) = true)
    (a34 : PySem.W.nsIn K mainGlobals "_law_source" = some (some (.ref f34)))
    (l34 : K.lookup f34 = some ⟨oc34, od34, .func (PySem.W.fnOf "_law_source" "_law_source" (defArgs s_law_source) (defBody s_law_source) (defScope s_law_source) .none kV34 dc34 pm34 an34 cd34 ct34), sl34⟩) (c34 : PySem.W.codeIn K cd34 "_law_source" = true) (k34 : PySem.W.keepIn K (.ref f34) = true)
    (a35 : PySem.W.nsIn K mainGlobals "law" = some (some (.ref f35)))
    (l35 : K.lookup f35 = some ⟨oc35, od35, .func (PySem.W.fnOf "law" "law" (defArgs s_law) (defBody s_law) (defScope s_law) .none kV35 dc35 pm35 an35 cd35 ct35), sl35⟩) (c35 : PySem.W.codeIn K cd35 "law" = true) (k35 : PySem.W.keepIn K (.ref f35) = true)
    (z_all : PySem.W.nsIn K mainGlobals "all" = some none)
    (z_any : PySem.W.nsIn K mainGlobals "any" = some none)
    (z_bool : PySem.W.nsIn K mainGlobals "bool" = some none)
    (z_dict : PySem.W.nsIn K mainGlobals "dict" = some none)
    (z_enumerate : PySem.W.nsIn K mainGlobals "enumerate" = some none)
    (z_int : PySem.W.nsIn K mainGlobals "int" = some none)
    (z_isinstance : PySem.W.nsIn K mainGlobals "isinstance" = some none)
    (z_len : PySem.W.nsIn K mainGlobals "len" = some none)
    (z_list : PySem.W.nsIn K mainGlobals "list" = some none)
    (z_min : PySem.W.nsIn K mainGlobals "min" = some none)
    (z_range : PySem.W.nsIn K mainGlobals "range" = some none)
    (z_sorted : PySem.W.nsIn K mainGlobals "sorted" = some none)
    (z_str : PySem.W.nsIn K mainGlobals "str" = some none)
    (z_tuple : PySem.W.nsIn K mainGlobals "tuple" = some none)
    (y_LETTERS : PySem.W.nsIn K mainGlobals "LETTERS" = some (some (.str (Str.ofString "abcdefghijklmnopqrstuvwxyz") t_LETTERS)))
    (y_MOST_ARROWS : PySem.W.nsIn K mainGlobals "MOST_ARROWS" = some (some (.int 400 t_MOST_ARROWS)))
    (y_MOST_LETTERS : PySem.W.nsIn K mainGlobals "MOST_LETTERS" = some (some (.int 5000 t_MOST_LETTERS)))
    (y_MOST_PRICE : PySem.W.nsIn K mainGlobals "MOST_PRICE" = some (some (.int 99 t_MOST_PRICE)))
    (y_MOST_SIGNS : PySem.W.nsIn K mainGlobals "MOST_SIGNS" = some (some (.int 8 t_MOST_SIGNS)))
    (y_MOST_STATES : PySem.W.nsIn K mainGlobals "MOST_STATES" = some (some (.int 40 t_MOST_STATES)))
    (y_SIGNS : PySem.W.nsIn K mainGlobals "SIGNS" = some (some (.str (Str.ofString "abcdefghijklmnopqrstuvwxyz") t_SIGNS))) :
    ∃ fd : FuncData, (∀ (s : Shared) (v : Value), BindsTo s fd ⟨[v], []⟩ [("_law_script", v)]) ∧ ∀ base : Heap, K.In base → base.Ns mainGlobals mg → FnOk l.prog w K mg base (L2.CX l.prog w) 8 fa fd ["_law_script"] (spHead K) := by
  have e := hfa.symm.trans (PySem.W.mg_of X G a35)
  cases e
  have cs_Machine : Cls K A_Machine := ⟨pg_Machine, hd_Machine, po_Machine, sa_Machine⟩
  have gc_Machine := PySem.W.mg_of X G aC_Machine
  have F_cheapest := fun_mk (st := s_cheapest) l0 c0 k0
  have g_cheapest := PySem.W.mg_of X G a0
  have b_cheapest := F_cheapest.binds (ps := ["arrows"]) fun _ _ _ _ _ _ us hl => match us, hl with | [_], _ => rfl
  have F_each_once := fun_mk (st := s_each_once) l1 c1 k1
  have g_each_once := PySem.W.mg_of X G a1
  have b_each_once := F_each_once.binds (ps := ["names"]) fun _ _ _ _ _ _ us hl => match us, hl with | [_], _ => rfl
  have F_is_letter := fun_mk (st := s_is_letter) l2 c2 k2
  have g_is_letter := PySem.W.mg_of X G a2
  have b_is_letter := F_is_letter.binds (ps := ["value"]) fun _ _ _ _ _ _ us hl => match us, hl with | [_], _ => rfl
  have F_is_name := fun_mk (st := s_is_name) l3 c3 k3
  have g_is_name := PySem.W.mg_of X G a3
  have b_is_name := F_is_name.binds (ps := ["value"]) fun _ _ _ _ _ _ us hl => match us, hl with | [_], _ => rfl
  have F_is_price := fun_mk (st := s_is_price) l4 c4 k4
  have g_is_price := PySem.W.mg_of X G a4
  have b_is_price := F_is_price.binds (ps := ["value"]) fun _ _ _ _ _ _ us hl => match us, hl with | [_], _ => rfl
  have F_is_arrow := fun_mk (st := s_is_arrow) l5 c5 k5
  have g_is_arrow := PySem.W.mg_of X G a5
  have b_is_arrow := F_is_arrow.binds (ps := ["value"]) fun _ _ _ _ _ _ us hl => match us, hl with | [_], _ => rfl
  have F_Machine_init := fun_mk (st := s_Machine_init) l6 c6 k6
  have b_Machine_init := F_Machine_init.binds (ps := ["self", "arrows", "starts", "ends"]) fun _ _ _ _ _ _ us hl => match us, hl with | [_, _, _, _], _ => rfl
  have F_Machine_states := fun_mk (st := s_Machine_states) l7 c7 k7
  have b_Machine_states := F_Machine_states.binds (ps := ["self"]) fun _ _ _ _ _ _ us hl => match us, hl with | [_], _ => rfl
  have F_law_draw := fun_mk (st := s_law_draw) l8 c8 k8
  have g_law_draw := PySem.W.mg_of X G a8
  have b_law_draw := F_law_draw.binds (ps := ["_law_source_here", "_law_many"]) fun _ _ _ _ _ _ us hl => match us, hl with | [_, _], _ => rfl
  have F_law_ahead := fun_mk (st := s_law_ahead) l9 c9 k9
  have g_law_ahead := PySem.W.mg_of X G a9
  have b_law_ahead := F_law_ahead.binds (ps := ["_law_arrows_here", "_law_ends", "_law_row_here"]) fun _ _ _ _ _ _ us hl => match us, hl with | [_, _, _], _ => rfl
  have F_law_price := fun_mk (st := s_law_price) l10 c10 k10
  have g_law_price := PySem.W.mg_of X G a10
  have b_law_price := F_law_price.binds (ps := ["_law_made", "_law_row_here"]) fun _ _ _ _ _ _ us hl => match us, hl with | [_, _], _ => rfl
  have F_law_due := fun_mk (st := s_law_due) l11 c11 k11
  have g_law_due := PySem.W.mg_of X G a11
  have b_law_due := F_law_due.binds (ps := ["_law_first", "_law_second", "_law_row_here"]) fun _ _ _ _ _ _ us hl => match us, hl with | [_, _, _], _ => rfl
  have F_law_pick := fun_mk (st := s_law_pick) l12 c12 k12
  have g_law_pick := PySem.W.mg_of X G a12
  have b_law_pick := F_law_pick.binds (ps := ["_law_source_here", "_law_things"]) fun _ _ _ _ _ _ us hl => match us, hl with | [_, _], _ => rfl
  have F_law_arrows := fun_mk (st := s_law_arrows) l13 c13 k13
  have g_law_arrows := PySem.W.mg_of X G a13
  have b_law_arrows := F_law_arrows.binds (ps := ["_law_source_here", "_law_states", "_law_signs", "_law_most"]) fun _ _ _ _ _ _ us hl => match us, hl with | [_, _, _, _], _ => rfl
  have F_law_name := fun_mk (st := s_law_name) l14 c14 k14
  have g_law_name := PySem.W.mg_of X G a14
  have b_law_name := F_law_name.binds (ps := ["_law_source_here", "_law_taken"]) fun _ _ _ _ _ _ us hl => match us, hl with | [_, _], _ => rfl
  have F_law_names := fun_mk (st := s_law_names) l15 c15 k15
  have g_law_names := PySem.W.mg_of X G a15
  have b_law_names := F_law_names.binds (ps := ["_law_source_here", "_law_many"]) fun _ _ _ _ _ _ us hl => match us, hl with | [_, _], _ => rfl
  have F_law_subset := fun_mk (st := s_law_subset) l16 c16 k16
  have g_law_subset := PySem.W.mg_of X G a16
  have b_law_subset := F_law_subset.binds (ps := ["_law_source_here", "_law_row_here"]) fun _ _ _ _ _ _ us hl => match us, hl with | [_, _], _ => rfl
  have F_law_machine := fun_mk (st := s_law_machine) l17 c17 k17
  have g_law_machine := PySem.W.mg_of X G a17
  have b_law_machine := F_law_machine.binds (ps := ["_law_source_here", "_law_states", "_law_signs", "_law_most"]) fun _ _ _ _ _ _ us hl => match us, hl with | [_, _, _, _], _ => rfl
  have F_law_rows := fun_mk (st := s_law_rows) l18 c18 k18
  have g_law_rows := PySem.W.mg_of X G a18
  have b_law_rows := F_law_rows.binds (ps := ["_law_signs", "_law_most"]) fun _ _ _ _ _ _ us hl => match us, hl with | [_, _], _ => rfl
  have F_law_row := fun_mk (st := s_law_row) l19 c19 k19
  have g_law_row := PySem.W.mg_of X G a19
  have b_law_row := F_law_row.binds (ps := ["_law_source_here", "_law_signs", "_law_most"]) fun _ _ _ _ _ _ us hl => match us, hl with | [_, _, _], _ => rfl
  have F_law_waves := fun_mk (st := s_law_waves) l20 c20 k20
  have g_law_waves := PySem.W.mg_of X G a20
  have b_law_waves := F_law_waves.binds (ps := ["_law_source_here", "_law_signs", "_law_most"]) fun _ _ _ _ _ _ us hl => match us, hl with | [_, _, _], _ => rfl
  have F_Machine_ends := fun_mk (st := s_Machine_ends) l21 c21 k21
  have b_Machine_ends := F_Machine_ends.binds (ps := ["self"]) fun _ _ _ _ _ _ us hl => match us, hl with | [_], _ => rfl
  have F_Machine_starts := fun_mk (st := s_Machine_starts) l22 c22 k22
  have b_Machine_starts := F_Machine_starts.binds (ps := ["self"]) fun _ _ _ _ _ _ us hl => match us, hl with | [_], _ => rfl
  have F_Machine_arrows := fun_mk (st := s_Machine_arrows) l23 c23 k23
  have b_Machine_arrows := F_Machine_arrows.binds (ps := ["self"]) fun _ _ _ _ _ _ us hl => match us, hl with | [_], _ => rfl
  have F_marked := fun_mk (st := s_marked) l24 c24 k24
  have g_marked := PySem.W.mg_of X G a24
  have b_marked := F_marked.binds (ps := ["machine", "mark"]) fun _ _ _ _ _ _ us hl => match us, hl with | [_, _], _ => rfl
  have F_name_of := fun_mk (st := s_name_of) l25 c25 k25
  have g_name_of := PySem.W.mg_of X G a25
  have b_name_of := F_name_of.binds (ps := ["number"]) fun _ _ _ _ _ _ us hl => match us, hl with | [_], _ => rfl
  have F_named_anew := fun_mk (st := s_named_anew) l26 c26 k26
  have g_named_anew := PySem.W.mg_of X G a26
  have b_named_anew := F_named_anew.binds (ps := ["arrows", "starts", "ends"]) fun _ _ _ _ _ _ us hl => match us, hl with | [_, _, _], _ => rfl
  have F_behind := fun_mk (st := s_behind) l27 c27 k27
  have g_behind := PySem.W.mg_of X G a27
  have b_behind := F_behind.binds (ps := ["one", "other"]) fun _ _ _ _ _ _ us hl => match us, hl with | [_, _], _ => rfl
  have F_is_row := fun_mk (st := s_is_row) l28 c28 k28
  have g_is_row := PySem.W.mg_of X G a28
  have b_is_row := F_is_row.binds (ps := ["value"]) fun _ _ _ _ _ _ us hl => match us, hl with | [_], _ => rfl
  have F_check_row := fun_mk (st := s_check_row) l29 c29 k29
  have g_check_row := PySem.W.mg_of X G a29
  have b_check_row := F_check_row.binds (ps := ["row"]) fun _ _ _ _ _ _ us hl => match us, hl with | [_], _ => rfl
  have F_least_at := fun_mk (st := s_least_at) l30 c30 k30
  have g_least_at := PySem.W.mg_of X G a30
  have b_least_at := F_least_at.binds (ps := ["prices", "states"]) fun _ _ _ _ _ _ us hl => match us, hl with | [_, _], _ => rfl
  have F_stepped := fun_mk (st := s_stepped) l31 c31 k31
  have g_stepped := PySem.W.mg_of X G a31
  have b_stepped := F_stepped.binds (ps := ["machine", "prices", "letter"]) fun _ _ _ _ _ _ us hl => match us, hl with | [_, _, _], _ => rfl
  have F_prices_behind := fun_mk (st := s_prices_behind) l32 c32 k32
  have g_prices_behind := PySem.W.mg_of X G a32
  have b_prices_behind := F_prices_behind.binds (ps := ["machine", "row", "starts"]) fun _ _ _ _ _ _ us hl => match us, hl with | [_, _, _], _ => rfl
  have F_price := fun_mk (st := s_price) l33 c33 k33
  have g_price := PySem.W.mg_of X G a33
  have b_price := F_price.binds (ps := ["machine", "row"]) fun _ _ _ _ _ _ us hl => match us, hl with | [_, _], _ => rfl
  have F_law_source := fun_mk (st := s_law_source) l34 c34 k34
  have g_law_source := PySem.W.mg_of X G a34
  have b_law_source := F_law_source.binds (ps := ["_law_script"]) fun _ _ _ _ _ _ us hl => match us, hl with | [_], _ => rfl
  have F_law := fun_mk (st := s_law) l35 c35 k35
  have g_law := PySem.W.mg_of X G a35
  have b_law := F_law.binds (ps := ["_law_script"]) fun _ _ _ _ _ _ us hl => match us, hl with | [_], _ => rfl
  have m_all := PySem.W.mg_none_of X G z_all
  have m_any := PySem.W.mg_none_of X G z_any
  have m_bool := PySem.W.mg_none_of X G z_bool
  have m_dict := PySem.W.mg_none_of X G z_dict
  have m_enumerate := PySem.W.mg_none_of X G z_enumerate
  have m_int := PySem.W.mg_none_of X G z_int
  have m_isinstance := PySem.W.mg_none_of X G z_isinstance
  have m_len := PySem.W.mg_none_of X G z_len
  have m_list := PySem.W.mg_none_of X G z_list
  have m_min := PySem.W.mg_none_of X G z_min
  have m_range := PySem.W.mg_none_of X G z_range
  have m_sorted := PySem.W.mg_none_of X G z_sorted
  have m_str := PySem.W.mg_none_of X G z_str
  have m_tuple := PySem.W.mg_none_of X G z_tuple
  have gg_LETTERS : Wx.GStr mg "LETTERS" [97, 98, 99, 100, 101, 102, 103, 104, 105, 106, 107, 108, 109, 110, 111, 112, 113, 114, 115, 116, 117, 118, 119, 120, 121, 122] := ⟨_, (show (Str.ofString "abcdefghijklmnopqrstuvwxyz") = S [97, 98, 99, 100, 101, 102, 103, 104, 105, 106, 107, 108, 109, 110, 111, 112, 113, 114, 115, 116, 117, 118, 119, 120, 121, 122] by decide +kernel) ▸ PySem.W.mg_of X G y_LETTERS⟩
  have gg_MOST_ARROWS : Wx.GInt mg "MOST_ARROWS" 400 := ⟨_, PySem.W.mg_of X G y_MOST_ARROWS⟩
  have gg_MOST_LETTERS : Wx.GInt mg "MOST_LETTERS" 5000 := ⟨_, PySem.W.mg_of X G y_MOST_LETTERS⟩
  have gg_MOST_PRICE : Wx.GInt mg "MOST_PRICE" 99 := ⟨_, PySem.W.mg_of X G y_MOST_PRICE⟩
  have gg_MOST_SIGNS : Wx.GInt mg "MOST_SIGNS" 8 := ⟨_, PySem.W.mg_of X G y_MOST_SIGNS⟩
  have gg_MOST_STATES : Wx.GInt mg "MOST_STATES" 40 := ⟨_, PySem.W.mg_of X G y_MOST_STATES⟩
  have gg_SIGNS : Wx.GStr mg "SIGNS" [97, 98, 99, 100, 101, 102, 103, 104, 105, 106, 107, 108, 109, 110, 111, 112, 113, 114, 115, 116, 117, 118, 119, 120, 121, 122] := ⟨_, (show (Str.ofString "abcdefghijklmnopqrstuvwxyz") = S [97, 98, 99, 100, 101, 102, 103, 104, 105, 106, 107, 108, 109, 110, 111, 112, 113, 114, 115, 116, 117, 118, 119, 120, 121, 122] by decide +kernel) ▸ PySem.W.mg_of X G y_SIGNS⟩
  refine ⟨PySem.W.fnOf "law" "law" (defArgs s_law) (defBody s_law) (defScope s_law) .none kV35 dc35 pm35 an35 cd35 ct35, fun s v => .of_eq rfl, fun base _ _ => ?_⟩
  have ex_cl : ∃ cl : Nat → Addr, cl = fun d => A_Machine := ⟨_, rfl⟩
  obtain ⟨cl, hcl⟩ := ex_cl
  have ecl_Machine : cl 0 = A_Machine := by rw [hcl]
  have K_Machine : Cls K (cl 0) := by rw [ecl_Machine]; exact cs_Machine
  have N_Machine_own_arrows : NoAttr K (cl 0) "own_arrows" := by rw [ecl_Machine]; exact nN_Machine_own_arrows
  have N_Machine_own_starts : NoAttr K (cl 0) "own_starts" := by rw [ecl_Machine]; exact nN_Machine_own_starts
  have N_Machine_own_ends : NoAttr K (cl 0) "own_ends" := by rw [ecl_Machine]; exact nN_Machine_own_ends
  have N_Machine_own_states : NoAttr K (cl 0) "own_states" := by rw [ecl_Machine]; exact nN_Machine_own_states
  have N_Machine_ways : NoAttr K (cl 0) "ways" := by rw [ecl_Machine]; exact nN_Machine_ways
  have ok_cheapest := fn_dj (con := c_cheapest) F_cheapest sc_cheapest wp_cheapest (dj_cheapest (P := l.prog) (w := w) (K := K) (mg := mg) (base := base) (cl := cl) (z_min := m_min) (z_sorted := m_sorted) (z_tuple := m_tuple) (g_MOST_PRICE := gg_MOST_PRICE) )
  have C_cheapest : Cal l.prog w K mg base (L2.CX l.prog w) 2 "cheapest" (spOf cl K c_cheapest) := ⟨_, _, _, ok_cheapest, g_cheapest, F_cheapest.kp, b_cheapest⟩
  have ok_each_once := fn_dj (con := c_each_once) F_each_once sc_each_once wp_each_once (dj_each_once (P := l.prog) (w := w) (K := K) (mg := mg) (base := base) (cl := cl) (z_sorted := m_sorted) (z_tuple := m_tuple) )
  have C_each_once : Cal l.prog w K mg base (L2.CX l.prog w) 2 "each_once" (spOf cl K c_each_once) := ⟨_, _, _, ok_each_once, g_each_once, F_each_once.kp, b_each_once⟩
  have ok_is_letter := fn_dj (con := c_is_letter) F_is_letter sc_is_letter wp_is_letter (dj_is_letter (P := l.prog) (w := w) (K := K) (mg := mg) (base := base) (cl := cl) (z_isinstance := m_isinstance) (z_len := m_len) (z_str := m_str) (g_LETTERS := gg_LETTERS) )
  have C_is_letter : Cal l.prog w K mg base (L2.CX l.prog w) 2 "is_letter" (spOf cl K c_is_letter) := ⟨_, _, _, ok_is_letter, g_is_letter, F_is_letter.kp, b_is_letter⟩
  have ok_is_name := fn_dj (con := c_is_name) F_is_name sc_is_name wp_is_name (dj_is_name (P := l.prog) (w := w) (K := K) (mg := mg) (base := base) (cl := cl) (z_all := m_all) (z_isinstance := m_isinstance) (z_len := m_len) (z_str := m_str) (g_LETTERS := gg_LETTERS) (g_MOST_SIGNS := gg_MOST_SIGNS) )
  have C_is_name : Cal l.prog w K mg base (L2.CX l.prog w) 2 "is_name" (spOf cl K c_is_name) := ⟨_, _, _, ok_is_name, g_is_name, F_is_name.kp, b_is_name⟩
  have ok_is_price := fn_dj (con := c_is_price) F_is_price sc_is_price wp_is_price (dj_is_price (P := l.prog) (w := w) (K := K) (mg := mg) (base := base) (cl := cl) (z_bool := m_bool) (z_int := m_int) (z_isinstance := m_isinstance) (g_MOST_PRICE := gg_MOST_PRICE) )
  have C_is_price : Cal l.prog w K mg base (L2.CX l.prog w) 2 "is_price" (spOf cl K c_is_price) := ⟨_, _, _, ok_is_price, g_is_price, F_is_price.kp, b_is_price⟩
  have ok_is_arrow := fn_dj (con := c_is_arrow) F_is_arrow sc_is_arrow wp_is_arrow (dj_is_arrow (P := l.prog) (w := w) (K := K) (mg := mg) (base := base) (cl := cl) (z_isinstance := m_isinstance) (z_len := m_len) (z_list := m_list) (z_tuple := m_tuple) (C_is_letter := C_is_letter) (C_is_name := C_is_name) (C_is_price := C_is_price) )
  have C_is_arrow : Cal l.prog w K mg base (L2.CX l.prog w) 3 "is_arrow" (spOf cl K c_is_arrow) := ⟨_, _, _, ok_is_arrow, g_is_arrow, F_is_arrow.kp, b_is_arrow⟩
  have ok_Machine_init := fn_dj (con := c_Machine_init) F_Machine_init sc_Machine_init wp_Machine_init (dj_Machine_init (P := l.prog) (w := w) (K := K) (mg := mg) (base := base) (cl := cl) (z_len := m_len) (z_range := m_range) (g_MOST_ARROWS := gg_MOST_ARROWS) (g_MOST_STATES := gg_MOST_STATES) (C_cheapest := C_cheapest) (C_each_once := C_each_once) (C_is_arrow := C_is_arrow) (C_is_name := C_is_name) (K_Machine := K_Machine) (N_Machine_own_arrows := N_Machine_own_arrows) (N_Machine_own_ends := N_Machine_own_ends) (N_Machine_own_starts := N_Machine_own_starts) (N_Machine_own_states := N_Machine_own_states) (N_Machine_ways := N_Machine_ways) )
  have k_Machine : Mkr l.prog w K mg base (L2.CX l.prog w) 4 "Machine" (cl 0) (spOf cl K c_Machine_init) := ⟨_, _, _, (by rw [ecl_Machine]; exact ⟨mk_Machine, a6, i6, kc_Machine⟩), ok_Machine_init, b_Machine_init, (by rw [ecl_Machine]; exact gc_Machine)⟩
  have ok_Machine_states := fn_dj (con := c_Machine_states) F_Machine_states sc_Machine_states wp_Machine_states (dj_Machine_states (P := l.prog) (w := w) (K := K) (mg := mg) (base := base) (cl := cl) (K_Machine := K_Machine) (N_Machine_own_states := N_Machine_own_states) )
  have p_Machine_states : Prp l.prog w K mg base (L2.CX l.prog w) 2 (cl 0) "states" (spOf cl K c_Machine_states) := ⟨_, _, _, _, (by rw [ecl_Machine]; exact ⟨a7, s7, t7, _, r7⟩), ok_Machine_states, b_Machine_states⟩
  have C_law_draw : Cal l.prog w K mg base (L2.CX l.prog w) 1 "_law_draw" (spOf cl K c_law_draw) := ⟨_, _, _, FnOk.sub (FnOk.cx0 (ok_draw F_law_draw m_int)) sp_draw, g_law_draw, F_law_draw.kp, b_law_draw⟩
  have ok_law_ahead := fn_dj (con := c_law_ahead) F_law_ahead sc_law_ahead wp_law_ahead (dj_law_ahead (P := l.prog) (w := w) (K := K) (mg := mg) (base := base) (cl := cl) (z_dict := m_dict) (z_min := m_min) )
  have C_law_ahead : Cal l.prog w K mg base (L2.CX l.prog w) 2 "_law_ahead" (spOf cl K c_law_ahead) := ⟨_, _, _, ok_law_ahead, g_law_ahead, F_law_ahead.kp, b_law_ahead⟩
  have ok_law_price := fn_dj (con := c_law_price) F_law_price sc_law_price wp_law_price (dj_law_price (P := l.prog) (w := w) (K := K) (mg := mg) (base := base) (cl := cl) (z_min := m_min) (C_law_ahead := C_law_ahead) )
  have C_law_price : Cal l.prog w K mg base (L2.CX l.prog w) 3 "_law_price" (spOf cl K c_law_price) := ⟨_, _, _, ok_law_price, g_law_price, F_law_price.kp, b_law_price⟩
  have ok_law_due := fn_dj (con := c_law_due) F_law_due sc_law_due wp_law_due (dj_law_due (P := l.prog) (w := w) (K := K) (mg := mg) (base := base) (cl := cl) (z_len := m_len) (z_min := m_min) (z_range := m_range) (C_law_price := C_law_price) )
  have C_law_due : Cal l.prog w K mg base (L2.CX l.prog w) 4 "_law_due" (spOf cl K c_law_due) := ⟨_, _, _, ok_law_due, g_law_due, F_law_due.kp, b_law_due⟩
  have ok_law_pick := fn_dj (con := c_law_pick) F_law_pick sc_law_pick wp_law_pick (dj_law_pick (P := l.prog) (w := w) (K := K) (mg := mg) (base := base) (cl := cl) (z_len := m_len) (C_law_draw := C_law_draw) )
  have C_law_pick : Cal l.prog w K mg base (L2.CX l.prog w) 2 "_law_pick" (spOf cl K c_law_pick) := ⟨_, _, _, ok_law_pick, g_law_pick, F_law_pick.kp, b_law_pick⟩
  have ok_law_arrows := fn_dj (con := c_law_arrows) F_law_arrows sc_law_arrows wp_law_arrows (dj_law_arrows (P := l.prog) (w := w) (K := K) (mg := mg) (base := base) (cl := cl) (z_range := m_range) (C_law_draw := C_law_draw) (C_law_pick := C_law_pick) )
  have C_law_arrows : Cal l.prog w K mg base (L2.CX l.prog w) 3 "_law_arrows" (spOf cl K c_law_arrows) := ⟨_, _, _, ok_law_arrows, g_law_arrows, F_law_arrows.kp, b_law_arrows⟩
  have ok_law_name := fn_dj (con := c_law_name) F_law_name sc_law_name wp_law_name (dj_law_name (P := l.prog) (w := w) (K := K) (mg := mg) (base := base) (cl := cl) (z_range := m_range) (C_law_draw := C_law_draw) )
  have C_law_name : Cal l.prog w K mg base (L2.CX l.prog w) 2 "_law_name" (spOf cl K c_law_name) := ⟨_, _, _, ok_law_name, g_law_name, F_law_name.kp, b_law_name⟩
  have ok_law_names := fn_dj (con := c_law_names) F_law_names sc_law_names wp_law_names (dj_law_names (P := l.prog) (w := w) (K := K) (mg := mg) (base := base) (cl := cl) (z_range := m_range) (C_law_name := C_law_name) )
  have C_law_names : Cal l.prog w K mg base (L2.CX l.prog w) 3 "_law_names" (spOf cl K c_law_names) := ⟨_, _, _, ok_law_names, g_law_names, F_law_names.kp, b_law_names⟩
  have ok_law_subset := fn_dj (con := c_law_subset) F_law_subset sc_law_subset wp_law_subset (dj_law_subset (P := l.prog) (w := w) (K := K) (mg := mg) (base := base) (cl := cl) (C_law_draw := C_law_draw) )
  have C_law_subset : Cal l.prog w K mg base (L2.CX l.prog w) 2 "_law_subset" (spOf cl K c_law_subset) := ⟨_, _, _, ok_law_subset, g_law_subset, F_law_subset.kp, b_law_subset⟩
  have ok_law_machine := fn_dj (con := c_law_machine) F_law_machine sc_law_machine wp_law_machine (dj_law_machine (P := l.prog) (w := w) (K := K) (mg := mg) (base := base) (cl := cl) (C_law_arrows := C_law_arrows) (C_law_draw := C_law_draw) (C_law_names := C_law_names) (C_law_pick := C_law_pick) (C_law_subset := C_law_subset) )
  have C_law_machine : Cal l.prog w K mg base (L2.CX l.prog w) 4 "_law_machine" (spOf cl K c_law_machine) := ⟨_, _, _, ok_law_machine, g_law_machine, F_law_machine.kp, b_law_machine⟩
  have ok_law_rows := fn_dj (con := c_law_rows) F_law_rows sc_law_rows wp_law_rows (dj_law_rows (P := l.prog) (w := w) (K := K) (mg := mg) (base := base) (cl := cl) (z_range := m_range) )
  have C_law_rows : Cal l.prog w K mg base (L2.CX l.prog w) 2 "_law_rows" (spOf cl K c_law_rows) := ⟨_, _, _, ok_law_rows, g_law_rows, F_law_rows.kp, b_law_rows⟩
  have ok_law_row := fn_dj (con := c_law_row) F_law_row sc_law_row wp_law_row (dj_law_row (P := l.prog) (w := w) (K := K) (mg := mg) (base := base) (cl := cl) (z_range := m_range) (C_law_draw := C_law_draw) (C_law_pick := C_law_pick) )
  have C_law_row : Cal l.prog w K mg base (L2.CX l.prog w) 3 "_law_row" (spOf cl K c_law_row) := ⟨_, _, _, ok_law_row, g_law_row, F_law_row.kp, b_law_row⟩
  have ok_law_waves := fn_dj (con := c_law_waves) F_law_waves sc_law_waves wp_law_waves (dj_law_waves (P := l.prog) (w := w) (K := K) (mg := mg) (base := base) (cl := cl) (z_range := m_range) (C_law_draw := C_law_draw) (C_law_row := C_law_row) )
  have C_law_waves : Cal l.prog w K mg base (L2.CX l.prog w) 4 "_law_waves" (spOf cl K c_law_waves) := ⟨_, _, _, ok_law_waves, g_law_waves, F_law_waves.kp, b_law_waves⟩
  have ok_Machine_ends := fn_dj (con := c_Machine_ends) F_Machine_ends sc_Machine_ends wp_Machine_ends (dj_Machine_ends (P := l.prog) (w := w) (K := K) (mg := mg) (base := base) (cl := cl) (K_Machine := K_Machine) (N_Machine_own_ends := N_Machine_own_ends) )
  have p_Machine_ends : Prp l.prog w K mg base (L2.CX l.prog w) 2 (cl 0) "ends" (spOf cl K c_Machine_ends) := ⟨_, _, _, _, (by rw [ecl_Machine]; exact ⟨a21, s21, t21, _, r21⟩), ok_Machine_ends, b_Machine_ends⟩
  have ok_Machine_starts := fn_dj (con := c_Machine_starts) F_Machine_starts sc_Machine_starts wp_Machine_starts (dj_Machine_starts (P := l.prog) (w := w) (K := K) (mg := mg) (base := base) (cl := cl) (K_Machine := K_Machine) (N_Machine_own_starts := N_Machine_own_starts) )
  have p_Machine_starts : Prp l.prog w K mg base (L2.CX l.prog w) 2 (cl 0) "starts" (spOf cl K c_Machine_starts) := ⟨_, _, _, _, (by rw [ecl_Machine]; exact ⟨a22, s22, t22, _, r22⟩), ok_Machine_starts, b_Machine_starts⟩
  have ok_Machine_arrows := fn_dj (con := c_Machine_arrows) F_Machine_arrows sc_Machine_arrows wp_Machine_arrows (dj_Machine_arrows (P := l.prog) (w := w) (K := K) (mg := mg) (base := base) (cl := cl) (K_Machine := K_Machine) (N_Machine_own_arrows := N_Machine_own_arrows) )
  have p_Machine_arrows : Prp l.prog w K mg base (L2.CX l.prog w) 2 (cl 0) "arrows" (spOf cl K c_Machine_arrows) := ⟨_, _, _, _, (by rw [ecl_Machine]; exact ⟨a23, s23, t23, _, r23⟩), ok_Machine_arrows, b_Machine_arrows⟩
  have ok_markedO := fn_djO (con := c_markedO) F_marked sc_marked wp_markedO (dj_markedO (P := l.prog) (w := w) (K := K) (mg := mg) (base := base) (cl := cl) (K_Machine := K_Machine) (p_Machine_arrows := p_Machine_arrows) (p_Machine_ends := p_Machine_ends) (p_Machine_starts := p_Machine_starts) )
  have C_markedO : Cal l.prog w K mg base (L2.CX l.prog w) 4 "marked" (spOfO cl K c_markedO) := ⟨_, _, _, ok_markedO, g_marked, F_marked.kp, b_marked⟩
  have ok_name_of := fn_dj (con := c_name_of) F_name_of sc_name_of wp_name_of (dj_name_of (P := l.prog) (w := w) (K := K) (mg := mg) (base := base) (cl := cl) (g_SIGNS := gg_SIGNS) )
  have C_name_of : Cal l.prog w K mg base (L2.CX l.prog w) 2 "name_of" (spOf cl K c_name_of) := ⟨_, _, _, ok_name_of, g_name_of, F_name_of.kp, b_name_of⟩
  have ok_named_anew := fn_dj (con := c_named_anew) F_named_anew sc_named_anew wp_named_anew (dj_named_anew (P := l.prog) (w := w) (K := K) (mg := mg) (base := base) (cl := cl) (z_enumerate := m_enumerate) (z_sorted := m_sorted) (C_cheapest := C_cheapest) (C_name_of := C_name_of) (k_Machine := k_Machine) )
  have C_named_anew : Cal l.prog w K mg base (L2.CX l.prog w) 6 "named_anew" (spOf cl K c_named_anew) := ⟨_, _, _, ok_named_anew, g_named_anew, F_named_anew.kp, b_named_anew⟩
  have ok_behind := fn_dj (con := c_behind) F_behind sc_behind wp_behind (dj_behind (P := l.prog) (w := w) (K := K) (mg := mg) (base := base) (cl := cl) (z_any := m_any) (z_list := m_list) (C_markedO := C_markedO) (C_named_anew := C_named_anew) (K_Machine := K_Machine) (p_Machine_ends := p_Machine_ends) (p_Machine_starts := p_Machine_starts) )
  have C_behind : Cal l.prog w K mg base (L2.CX l.prog w) 7 "behind" (spOf cl K c_behind) := ⟨_, _, _, ok_behind, g_behind, F_behind.kp, b_behind⟩
  have ok_is_row := fn_dj (con := c_is_row) F_is_row sc_is_row wp_is_row (dj_is_row (P := l.prog) (w := w) (K := K) (mg := mg) (base := base) (cl := cl) (z_all := m_all) (z_isinstance := m_isinstance) (z_len := m_len) (z_str := m_str) (g_LETTERS := gg_LETTERS) (g_MOST_LETTERS := gg_MOST_LETTERS) )
  have C_is_row : Cal l.prog w K mg base (L2.CX l.prog w) 2 "is_row" (spOf cl K c_is_row) := ⟨_, _, _, ok_is_row, g_is_row, F_is_row.kp, b_is_row⟩
  have ok_check_row := fn_dj (con := c_check_row) F_check_row sc_check_row wp_check_row (dj_check_row (P := l.prog) (w := w) (K := K) (mg := mg) (base := base) (cl := cl) (C_is_row := C_is_row) )
  have C_check_row : Cal l.prog w K mg base (L2.CX l.prog w) 3 "check_row" (spOf cl K c_check_row) := ⟨_, _, _, ok_check_row, g_check_row, F_check_row.kp, b_check_row⟩
  have ok_least_at := fn_dj (con := c_least_at) F_least_at sc_least_at wp_least_at (dj_least_at (P := l.prog) (w := w) (K := K) (mg := mg) (base := base) (cl := cl) (z_len := m_len) (z_min := m_min) )
  have C_least_at : Cal l.prog w K mg base (L2.CX l.prog w) 2 "least_at" (spOf cl K c_least_at) := ⟨_, _, _, ok_least_at, g_least_at, F_least_at.kp, b_least_at⟩
  have ok_stepped := fn_dj (con := c_stepped) F_stepped sc_stepped wp_stepped (dj_stepped (P := l.prog) (w := w) (K := K) (mg := mg) (base := base) (cl := cl) (K_Machine := K_Machine) (N_Machine_ways := N_Machine_ways) )
  have C_stepped : Cal l.prog w K mg base (L2.CX l.prog w) 2 "stepped" (spOf cl K c_stepped) := ⟨_, _, _, ok_stepped, g_stepped, F_stepped.kp, b_stepped⟩
  have ok_prices_behind := fn_dj (con := c_prices_behind) F_prices_behind sc_prices_behind wp_prices_behind (dj_prices_behind (P := l.prog) (w := w) (K := K) (mg := mg) (base := base) (cl := cl) (C_stepped := C_stepped) )
  have C_prices_behind : Cal l.prog w K mg base (L2.CX l.prog w) 3 "prices_behind" (spOf cl K c_prices_behind) := ⟨_, _, _, ok_prices_behind, g_prices_behind, F_prices_behind.kp, b_prices_behind⟩
  have ok_price := fn_dj (con := c_price) F_price sc_price wp_price (dj_price (P := l.prog) (w := w) (K := K) (mg := mg) (base := base) (cl := cl) (C_check_row := C_check_row) (C_least_at := C_least_at) (C_prices_behind := C_prices_behind) (K_Machine := K_Machine) (p_Machine_ends := p_Machine_ends) (p_Machine_starts := p_Machine_starts) )
  have C_price : Cal l.prog w K mg base (L2.CX l.prog w) 4 "price" (spOf cl K c_price) := ⟨_, _, _, ok_price, g_price, F_price.kp, b_price⟩
  have S_law_source : Cal l.prog w K mg base CX0 1 "_law_source" (spSource K) := ⟨_, _, _, ok_source F_law_source m_int, g_law_source, F_law_source.kp, b_law_source⟩
  have ok_law_k11 := fn_dj (con := c_law) F_law sc_law wp_law_k11 (dj_law_k11 (P := l.prog) (w := w) (K := K) (mg := mg) (base := base) (cl := cl) (z_all := m_all) (z_len := m_len) (z_range := m_range) (C_behind := C_behind) (C_law_draw := C_law_draw) (C_law_due := C_law_due) (C_law_machine := C_law_machine) (C_law_pick := C_law_pick) (C_law_rows := C_law_rows) (C_law_waves := C_law_waves) (C_price := C_price) (K_Machine := K_Machine) (S_law_source := S_law_source) (k_Machine := k_Machine) (p_Machine_states := p_Machine_states) )
  exact FnOk.sub ok_law_k11 sp_law
end G
open PySem PySem.W PyProof.Rows
set_option maxRecDepth 100000 in
set_option maxHeartbeats 0 in
theorem PySem.Challenge.cw_enoughpaid_k11_one_behind_another_holds : PySem.Challenge.rw_enoughpaid_k11_one_behind_another.Holds := by
  w_on; o_law; k_head; (case hw => w_witness2)
  k_fill
  refine L2.walk_of (l := PySem.Challenge.rw_enoughpaid_k11_one_behind_another) (n := 63) (k := 8) (x := "_law_script") (CX := fun w => L2.CX PySem.Challenge.rw_enoughpaid_k11_one_behind_another.prog w) (sp := fun w => Is.spHead _) rfl (by decide) rfl ⟨rfl, by decide, by decide⟩ (fun w h Y => PySem.W.kIn_of Y) ?F (fun _ _ a ns hl hO hS => ⟨a, ns, rfl, hO, hS, fun _ => rfl⟩) (fun _ _ _ _ _ h => Is.cx_no h)
  case F =>
    intro w mg fa h KX GX hmg
    refine' G.all_mk KX GX hmg ?aC_Machine ?pg_Machine ?hd_Machine ?po_Machine ?sa_Machine ?mk_Machine ?kc_Machine ?nN_Machine_own_arrows ?nN_Machine_own_starts ?nN_Machine_own_ends ?nN_Machine_own_states ?nN_Machine_ways ?a0 ?l0 ?c0 ?k0 ?a1 ?l1 ?c1 ?k1 ?a2 ?l2 ?c2 ?k2 ?a3 ?l3 ?c3 ?k3 ?a4 ?l4 ?c4 ?k4 ?a5 ?l5 ?c5 ?k5 ?a6 ?i6 ?l6 ?c6 ?k6 ?a7 ?s7 ?t7 ?r7 ?l7 ?c7 ?k7 ?a8 ?l8 ?c8 ?k8 ?a9 ?l9 ?c9 ?k9 ?a10 ?l10 ?c10 ?k10 ?a11 ?l11 ?c11 ?k11 ?a12 ?l12 ?c12 ?k12 ?a13 ?l13 ?c13 ?k13 ?a14 ?l14 ?c14 ?k14 ?a15 ?l15 ?c15 ?k15 ?a16 ?l16 ?c16 ?k16 ?a17 ?l17 ?c17 ?k17 ?a18 ?l18 ?c18 ?k18 ?a19 ?l19 ?c19 ?k19 ?a20 ?l20 ?c20 ?k20 ?a21 ?s21 ?t21 ?r21 ?l21 ?c21 ?k21 ?a22 ?s22 ?t22 ?r22 ?l22 ?c22 ?k22 ?a23 ?s23 ?t23 ?r23 ?l23 ?c23 ?k23 ?a24 ?l24 ?c24 ?k24 ?a25 ?l25 ?c25 ?k25 ?a26 ?l26 ?c26 ?k26 ?a27 ?l27 ?c27 ?k27 ?a28 ?l28 ?c28 ?k28 ?a29 ?l29 ?c29 ?k29 ?a30 ?l30 ?c30 ?k30 ?a31 ?l31 ?c31 ?k31 ?a32 ?l32 ?c32 ?k32 ?a33 ?l33 ?c33 ?k33 ?a34 ?l34 ?c34 ?k34 ?a35 ?l35 ?c35 ?k35 ?z_all ?z_any ?z_bool ?z_dict ?z_enumerate ?z_int ?z_isinstance ?z_len ?z_list ?z_min ?z_range ?z_sorted ?z_str ?z_tuple ?y_LETTERS ?y_MOST_ARROWS ?y_MOST_LETTERS ?y_MOST_PRICE ?y_MOST_SIGNS ?y_MOST_STATES ?y_SIGNS
    (case aC_Machine => k_is)
    (case pg_Machine => k_is)
    (case hd_Machine => k_is)
    (case po_Machine => k_is)
    (case sa_Machine => k_is)
    (case mk_Machine => k_is)
    (case kc_Machine => k_is)
    (case nN_Machine_own_arrows => k_is)
    (case nN_Machine_own_starts => k_is)
    (case nN_Machine_own_ends => k_is)
    (case nN_Machine_own_states => k_is)
    (case nN_Machine_ways => k_is)
    (case a0 => k_is)
    (case l0 => k_is)
    (case c0 => k_is)
    (case k0 => k_is)
    (case a1 => k_is)
    (case l1 => k_is)
    (case c1 => k_is)
    (case k1 => k_is)
    (case a2 => k_is)
    (case l2 => k_is)
    (case c2 => k_is)
    (case k2 => k_is)
    (case a3 => k_is)
    (case l3 => k_is)
    (case c3 => k_is)
    (case k3 => k_is)
    (case a4 => k_is)
    (case l4 => k_is)
    (case c4 => k_is)
    (case k4 => k_is)
    (case a5 => k_is)
    (case l5 => k_is)
    (case c5 => k_is)
    (case k5 => k_is)
    (case a6 => k_is)
    (case i6 => k_is)
    (case l6 => k_is)
    (case c6 => k_is)
    (case k6 => k_is)
    (case a7 => k_is)
    (case s7 => k_is)
    (case t7 => k_is)
    (case r7 => k_is)
    (case l7 => k_is)
    (case c7 => k_is)
    (case k7 => k_is)
    (case a8 => k_is)
    (case l8 => k_is)
    (case c8 => k_is)
    (case k8 => k_is)
    (case a9 => k_is)
    (case l9 => k_is)
    (case c9 => k_is)
    (case k9 => k_is)
    (case a10 => k_is)
    (case l10 => k_is)
    (case c10 => k_is)
    (case k10 => k_is)
    (case a11 => k_is)
    (case l11 => k_is)
    (case c11 => k_is)
    (case k11 => k_is)
    (case a12 => k_is)
    (case l12 => k_is)
    (case c12 => k_is)
    (case k12 => k_is)
    (case a13 => k_is)
    (case l13 => k_is)
    (case c13 => k_is)
    (case k13 => k_is)
    (case a14 => k_is)
    (case l14 => k_is)
    (case c14 => k_is)
    (case k14 => k_is)
    (case a15 => k_is)
    (case l15 => k_is)
    (case c15 => k_is)
    (case k15 => k_is)
    (case a16 => k_is)
    (case l16 => k_is)
    (case c16 => k_is)
    (case k16 => k_is)
    (case a17 => k_is)
    (case l17 => k_is)
    (case c17 => k_is)
    (case k17 => k_is)
    (case a18 => k_is)
    (case l18 => k_is)
    (case c18 => k_is)
    (case k18 => k_is)
    (case a19 => k_is)
    (case l19 => k_is)
    (case c19 => k_is)
    (case k19 => k_is)
    (case a20 => k_is)
    (case l20 => k_is)
    (case c20 => k_is)
    (case k20 => k_is)
    (case a21 => k_is)
    (case s21 => k_is)
    (case t21 => k_is)
    (case r21 => k_is)
    (case l21 => k_is)
    (case c21 => k_is)
    (case k21 => k_is)
    (case a22 => k_is)
    (case s22 => k_is)
    (case t22 => k_is)
    (case r22 => k_is)
    (case l22 => k_is)
    (case c22 => k_is)
    (case k22 => k_is)
    (case a23 => k_is)
    (case s23 => k_is)
    (case t23 => k_is)
    (case r23 => k_is)
    (case l23 => k_is)
    (case c23 => k_is)
    (case k23 => k_is)
    (case a24 => k_is)
    (case l24 => k_is)
    (case c24 => k_is)
    (case k24 => k_is)
    (case a25 => k_is)
    (case l25 => k_is)
    (case c25 => k_is)
    (case k25 => k_is)
    (case a26 => k_is)
    (case l26 => k_is)
    (case c26 => k_is)
    (case k26 => k_is)
    (case a27 => k_is)
    (case l27 => k_is)
    (case c27 => k_is)
    (case k27 => k_is)
    (case a28 => k_is)
    (case l28 => k_is)
    (case c28 => k_is)
    (case k28 => k_is)
    (case a29 => k_is)
    (case l29 => k_is)
    (case c29 => k_is)
    (case k29 => k_is)
    (case a30 => k_is)
    (case l30 => k_is)
    (case c30 => k_is)
    (case k30 => k_is)
    (case a31 => k_is)
    (case l31 => k_is)
    (case c31 => k_is)
    (case k31 => k_is)
    (case a32 => k_is)
    (case l32 => k_is)
    (case c32 => k_is)
    (case k32 => k_is)
    (case a33 => k_is)
    (case l33 => k_is)
    (case c33 => k_is)
    (case k33 => k_is)
    (case a34 => k_is)
    (case l34 => k_is)
    (case c34 => k_is)
    (case k34 => k_is)
    (case a35 => k_is)
    (case l35 => k_is)
    (case c35 => k_is)
    (case k35 => k_is)
    (case z_all => k_is)
    (case z_any => k_is)
    (case z_bool => k_is)
    (case z_dict => k_is)
    (case z_enumerate => k_is)
    (case z_int => k_is)
    (case z_isinstance => k_is)
    (case z_len => k_is)
    (case z_list => k_is)
    (case z_min => k_is)
    (case z_range => k_is)
    (case z_sorted => k_is)
    (case z_str => k_is)
    (case z_tuple => k_is)
    (case y_LETTERS => k_is)
    (case y_MOST_ARROWS => k_is)
    (case y_MOST_LETTERS => k_is)
    (case y_MOST_PRICE => k_is)
    (case y_MOST_SIGNS => k_is)
    (case y_MOST_STATES => k_is)
    (case y_SIGNS => k_is)
